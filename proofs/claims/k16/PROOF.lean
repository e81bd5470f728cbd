import PyProof.Rows.All
import Wide.All
import OpenK.AllK
import Wide.FinOn
import KE.KStateDown
import KE.KLam
import HandS.ForMost
import HandS.Exc
import HandS.ExcInit
import HandS.ExcField
import HandS.TryMany
import HandS.TryOnly
import HandS.WordsExc
import HandS.Defaults
import HandS.IsInst
import HandS.Wide
import HandS.Lambda
import HandS.EndTab
import HandS.HeadWalk
import HandS.Zip
import HandS.TupMul
import HandS.TupLe
import HandS.TupAny
import HandS.Head0
import HandS.Head1
import HandS.Head2
import HandS.HeadEnd
import HandS.HeadHook1
import HandS.HeadHook2
import HandS.HeadHook3
import HandS.HeadHook4
import KE.GoesMore
import HandS.Style
import HandS.Conv
import HandS.SortInts
import HandS.Rev
import HandS.WrittenGet
import HandS.FStr
import HandS.DictComp
import HandS.ListItems
import HandS.Strs
import PySem.Challenge.RW_lagworks_k16_ends_that_do_not_fit
set_option Elab.async false
set_option linter.all false
set_option maxRecDepth 100000
set_option maxHeartbeats 0
set_option Elab.async false
set_option linter.all false
set_option maxRecDepth 100000
set_option maxHeartbeats 2000000
/-! VL: data over HandS, by an evaluator -/
namespace VL
open PySem PySem.Spec PyProof.Rows L2

/-! ### the syntax -/
/-- the built-in classes that isinstance is asked of -/
inductive Ty where
  | int | bool | str | list | tuple
  deriving DecidableEq
inductive Bx where
  | sort | maxq | intb | sumL
  deriving DecidableEq
inductive Bi where
  | len | list | tuple | all | any | sum | max1 | max2 | min2
  | x (b : Bx)
  | isi (t : Ty)
  | isi2 (t t' : Ty)
  deriving DecidableEq
inductive Tg where
  | nm (i : Nat)
  | tup (is : List Nat)
mutual
inductive Ex where
  | v (i : Nat)
  | bv (i : Nat)
  | i (n : Int)
  | b (k : Bool)
  | s (z : Str)
  | non
  | gl (j : Nat)
  | bin (o : Operator) (a b : Ex)
  | neg (a : Ex)
  | not (a : Ex)
  | cmp (o : CmpOp) (a b : Ex)
  | cmp2 (o o' : CmpOp) (a b c : Ex)
  | bop (o : BoolOp) (es : Exs)
  | ite (c a b : Ex)
  | tup (es : Exs)
  | lst (es : Exs)
  | call (j : Nat) (es : Exs)
  | callK (j : Nat) (es : Exs)
  | bi (b : Bi) (es : Exs)
  | ix (a b : Ex)
  | sl (a : Ex) (lo hi : Oex)
  | comp (own : List (Str × Nat)) (elt : Ex) (tg : Tg) (it : Itx) (cs : Exs)
  | tried (e : Ex)
  | gap
  | lam (x : Nat) (t : Ex)
  | acts (x i y : Nat)
  | getG (j : Nat) (k d : Ex)
  | conv (t : Bool) (it : Itx)
  | compX (y : Str) (iy : Nat) (elt : Ex) (it : Itx)
  | comp2 (own : List (Str × Nat)) (vs1 : List Nat) (elt : Ex) (tg : Tg) (it : Itx) (tg1 : Tg) (it1 : Itx) (cs : Exs)
inductive Exs where
  | nil
  | cons (a : Ex) (es : Exs)
inductive Oex where
  | no
  | so (a : Ex)
inductive Itx where
  | seq (a : Ex)
  | rng1 (a : Ex)
  | rng2 (a b : Ex)
  | enum (a : Ex)
  | zip (a b : Ex)
  | rev (a : Ex)
end
/-- a lambda without parameters that is kept: its words, the cells that it captured, its code object -/
def LamO (f : Addr) (q : Str) (pr : Arguments) (bd : Expr) (sc : Scope) (cl : List (Str × Addr)) (c' : Addr) : HO := .ext fun h => ∃ pm ct : Value, h.get? f = some (PySem.W.kla_obj "<lambda>" q pr bd sc cl pm c' ct)
inductive D where
  | none
  | bool (b : Bool)
  | int (i : Int)
  | str (s : Str)
  | list (xs : List D)
  | tuple (xs : List D)
  | dict (ks : List Key) (vs : List D)
  | obj (c : Str) (ns : List Str) (vs : List D)
  | hd (k : Nat)
  | fn (x : Str)
  | lam (x : Nat) (t : Ex)
/-- an exception by its class's name and its fields -/
abbrev Exc := Str × List (Str × D)
/-- what changes: lists, instances -/
inductive Cell where
  | lst (ds : List D)
  | ins (c : Str) (ns : List Str) (vs : List D)
  | dead
abbrev Ks := List Cell
structure Pm where
  K : PySem.W.Frag
  mg : Str → Option Value
  T : List (Addr × Str)
  L : Nat → Ex → Arguments → Expr → Scope → List (Str × Addr) → Str → Prop
/-- G: the ground of data; C: the cells' objects, A: where they stand, κ: what they hold -/
structure Wd where
  G : Hp
  C : Hp
  A : List Addr
  κ : Ks
def IsDk (o : HO) (kvs : List (Key × V)) : Prop := o = .dK kvs ∨ ∃ b, o = .frz b (.dK kvs)
theorem IsDk.uniq {o : HO} {k1 k2 : List (Key × V)} (h : IsDk o k1) (h' : IsDk o k2) : k1 = k2 := by
  rcases h with h | ⟨b, h⟩ <;> rcases h' with h' | ⟨c, h'⟩
  · rw [h] at h'; cases h'; rfl
  · rw [h] at h'; cases h'
  · rw [h] at h'; cases h'
  · rw [h] at h'; cases h'; rfl
/-- the same object, but for a dict's lock -/
def Lk (o u : HO) : Prop := o = u ∨ ∃ kvs, IsDk o kvs ∧ IsDk u kvs
theorem Lk.refl (o : HO) : Lk o o := .inl rfl
theorem Lk.trans {o u z : HO} (h : Lk o u) (h' : Lk u z) : Lk o z := by
  rcases h with rfl | ⟨k, h1, h2⟩
  · exact h'
  · rcases h' with rfl | ⟨k', h3, h4⟩
    · exact .inr ⟨k, h1, h2⟩
    · rw [← h2.uniq h3] at h4
      exact .inr ⟨k, h1, h4⟩
theorem Lk.symm {o u : HO} (h : Lk o u) : Lk u o := by
  rcases h with rfl | ⟨k, h1, h2⟩
  · exact .inl rfl
  · exact .inr ⟨k, h2, h1⟩
theorem Lk.lst {xs : List V} {o : HO} (h : Lk (.lst xs) o) : o = .lst xs := by
  rcases h with rfl | ⟨k, h1 | ⟨_, h1⟩, _⟩
  · rfl
  · cases h1
  · cases h1
theorem Lk.ins {C dx : Addr} {fs : List (Str × V)} {o : HO} (h : Lk (.ins C dx fs) o) : o = .ins C dx fs := by
  rcases h with rfl | ⟨k, h1 | ⟨_, h1⟩, _⟩
  · rfl
  · cases h1
  · cases h1
theorem Lk.xd {fs : List (Str × V)} {o : HO} (h : Lk (.xd fs) o) : o = .xd fs := by
  rcases h with rfl | ⟨k, h1 | ⟨_, h1⟩, _⟩
  · rfl
  · cases h1
  · cases h1
theorem Lk.dk {o u : HO} {kvs : List (Key × V)} (h : Lk o u) (d : IsDk o kvs) : IsDk u kvs := by
  rcases h with rfl | ⟨k, h1, h2⟩
  · exact d
  · rw [h1.uniq d] at h2; exact h2
def Ext (G G' : Hp) : Prop := ∀ a o, G a = some o → ∃ o', G' a = some o' ∧ Lk o o'
theorem Ext.refl (G : Hp) : Ext G G := fun _ o h => ⟨o, h, .refl _⟩
theorem Ext.trans {G G' G2 : Hp} (h : Ext G G') (h' : Ext G' G2) : Ext G G2 := fun a o e => by
  obtain ⟨o1, e1, l1⟩ := h a o e
  obtain ⟨o2, e2, l2⟩ := h' a o1 e1
  exact ⟨o2, e2, l1.trans l2⟩
theorem Ext.of {G G' : Hp} (h : Same G G') : Ext G G' := fun a o e => ⟨o, h a o e, .refl _⟩
theorem Ext.none {G G' : Hp} (h : Ext G G') {a : Addr} (e : G' a = none) : G a = none := by
  cases q : G a with
  | none => rfl
  | some o =>
    obtain ⟨o', e', _⟩ := h a o q
    rw [e] at e'
    cases e'
theorem Lk.frzL {xs : List V} {b : Obj} {o : HO} (h : Lk (.frz b (.lst xs)) o) : o = .frz b (.lst xs) := by
  rcases h with rfl | ⟨k, h1 | ⟨_, h1⟩, _⟩
  · rfl
  · cases h1
  · cases h1
theorem Lk.tup {xs : List V} {o : HO} (h : Lk (.tup xs) o) : o = .tup xs := by
  rcases h with rfl | ⟨k, h1 | ⟨_, h1⟩, _⟩
  · rfl
  · cases h1
  · cases h1
theorem Lk.frzT {xs : List V} {b : Obj} {o : HO} (h : Lk (.frz b (.tup xs)) o) : o = .frz b (.tup xs) := by
  rcases h with rfl | ⟨k, h1 | ⟨_, h1⟩, _⟩
  · rfl
  · cases h1
  · cases h1
theorem Lk.ext {φ : Heap → Prop} {o : HO} (h : Lk (.ext φ) o) : o = .ext φ := by
  rcases h with rfl | ⟨k, h1 | ⟨_, h1⟩, _⟩
  · rfl
  · cases h1
  · cases h1
theorem sqL_ext {K : PySem.W.Frag} {G G' : Hp} {a : Addr} {xs : List V} (e : Ext G G') (h : SqL K G a xs) : SqL K G' a xs := by
  rcases h with (h | ⟨b, h⟩) | h
  · obtain ⟨o', h1, h2⟩ := e _ _ h
    rw [h2.lst] at h1
    exact .inl (.inl h1)
  · obtain ⟨o', h1, h2⟩ := e _ _ h
    rw [h2.frzL] at h1
    exact .inl (.inr ⟨b, h1⟩)
  · exact .inr h
theorem sqT_ext {K : PySem.W.Frag} {G G' : Hp} {a : Addr} {xs : List V} (e : Ext G G') (h : SqT K G a xs) : SqT K G' a xs := by
  rcases h with (h | ⟨b, h⟩) | h
  · obtain ⟨o', h1, h2⟩ := e _ _ h
    rw [h2.tup] at h1
    exact .inl (.inl h1)
  · obtain ⟨o', h1, h2⟩ := e _ _ h
    rw [h2.frzT] at h1
    exact .inl (.inr ⟨b, h1⟩)
  · exact .inr h

mutual
inductive Rep (m : Pm) (G : Hp) (A : List Addr) : V → D → Prop
  | non : Rep m G A .non .none
  | bl (b : Bool) : Rep m G A (.bl b) (.bool b)
  | int (i : Int) : Rep m G A (.int i) (.int i)
  | str (x : Str) : Rep m G A (.str x) (.str x)
  | lst {a : Addr} {xs : List V} {ds : List D} : G a = some (.lst xs) → RepAll m G A xs ds → Rep m G A (.ref a) (.list ds)
  | tup {a : Addr} {xs : List V} {ds : List D} : SqT m.K G a xs → RepAll m G A xs ds → Rep m G A (.ref a) (.tuple ds)
  | dct {a : Addr} {o : HO} {kvs : List (Key × V)} {ks : List Key} {vs : List V} {ds : List D} : G a = some o → IsDk o kvs → ks = kvs.map (·.1) → vs = kvs.map (·.2) → RepAll m G A vs ds → Rep m G A (.ref a) (.dict ks ds)
  | obj {a C dx : Addr} {fs : List (Str × V)} {c : Str} {ns : List Str} {vs : List V} {ds : List D} : G a = some (.ins C dx fs) → m.mg c = some (.ref C) → ns = fs.map (·.1) → vs = fs.map (·.2) → RepAll m G A vs ds → Rep m G A (.ref a) (.obj c ns ds)
  | hd {k : Nat} {a : Addr} : A[k]? = some a → Rep m G A (.ref a) (.hd k)
  | fn {x : Str} {f : Addr} : m.mg x = some (.ref f) → Rep m G A (.ref f) (.fn x)
  | lam {x : Nat} {t : Ex} {pr : Arguments} {bd : Expr} {sc : Scope} {cl : List (Str × Addr)} {q : Str} {f c' : Addr} : m.L x t pr bd sc cl q → G f = some (LamO f q pr bd sc cl c') → G c' = some (LamX.CodeO c' q) → Rep m G A (.ref f) (.lam x t)
inductive RepAll (m : Pm) (G : Hp) (A : List Addr) : List V → List D → Prop
  | nil : RepAll m G A [] []
  | cons {v : V} {vs : List V} {d : D} {ds : List D} : Rep m G A v d → RepAll m G A vs ds → RepAll m G A (v :: vs) (d :: ds)
end
theorem pre_get {A A' : List Addr} (h : A <+: A') {k : Nat} {a : Addr} (e : A[k]? = some a) : A'[k]? = some a := by
  obtain ⟨t, rfl⟩ := h
  have hlt := (List.getElem?_eq_some_iff.mp e).1
  rw [List.getElem?_append_left hlt]
  exact e
mutual
theorem Rep.mono {m : Pm} {G G' : Hp} {A A' : List Addr} (e : Ext G G') (p : A <+: A') : ∀ {d : D} {v : V}, Rep m G A v d → Rep m G' A' v d
  | _, _, .non => .non
  | _, _, .bl b => .bl b
  | _, _, .int i => .int i
  | _, _, .str x => .str x
  | _, _, .lst h a => by
    obtain ⟨o', e1, l⟩ := e _ _ h
    rw [l.lst] at e1
    exact .lst e1 (a.mono e p)
  | _, _, .tup h a => .tup (sqT_ext e h) (a.mono e p)
  | _, _, .dct h k h1 h2 a => by
    obtain ⟨o', e1, l⟩ := e _ _ h
    exact .dct e1 (l.dk k) h1 h2 (a.mono e p)
  | _, _, .obj h k h1 h2 a => by
    obtain ⟨o', e1, l⟩ := e _ _ h
    rw [l.ins] at e1
    exact .obj e1 k h1 h2 (a.mono e p)
  | _, _, .hd h => .hd (pre_get p h)
  | _, _, .fn h => .fn h
  | _, _, .lam h h1 h2 => by
    obtain ⟨o1, e1, l1⟩ := e _ _ h1
    obtain ⟨o2, e2, l2⟩ := e _ _ h2
    rw [l1.ext] at e1
    rw [l2.ext] at e2
    exact .lam h e1 e2
theorem RepAll.mono {m : Pm} {G G' : Hp} {A A' : List Addr} (e : Ext G G') (p : A <+: A') : ∀ {ds : List D} {vs : List V}, RepAll m G A vs ds → RepAll m G' A' vs ds
  | _, _, .nil => .nil
  | _, _, .cons h r => .cons (h.mono e p) (r.mono e p)
end
section
variable {m : Pm} {G : Hp} {A : List Addr}
theorem RepAll.len : ∀ {ds : List D} {vs : List V}, RepAll m G A vs ds → vs.length = ds.length
  | _, _, .nil => rfl
  | _, _, .cons _ r => congrArg (· + 1) r.len
theorem RepAll.get : ∀ {ds : List D} {vs : List V} {i : Nat} {d : D}, RepAll m G A vs ds → ds[i]? = some d → ∃ v, vs[i]? = some v ∧ Rep m G A v d
  | _, _, _, _, .nil, h => by simp at h
  | _, _, 0, _, .cons h _, e => by simp at e; subst e; exact ⟨_, rfl, h⟩
  | _, _, i + 1, _, .cons _ r, e => by
    obtain ⟨v, h1, h2⟩ := r.get (i := i) (by simpa using e)
    exact ⟨v, by simpa using h1, h2⟩
theorem RepAll.getV : ∀ {ds : List D} {vs : List V} {i : Nat} {v : V}, RepAll m G A vs ds → vs[i]? = some v → ∃ d, ds[i]? = some d ∧ Rep m G A v d
  | _, _, _, _, .nil, h => by simp at h
  | _, _, 0, _, .cons h _, e => by simp at e; subst e; exact ⟨_, rfl, h⟩
  | _, _, i + 1, _, .cons _ r, e => by
    obtain ⟨d, h1, h2⟩ := r.getV (i := i) (by simpa using e)
    exact ⟨d, by simpa using h1, h2⟩
theorem RepAll.app : ∀ {ds es : List D} {vs ws : List V}, RepAll m G A vs ds → RepAll m G A ws es → RepAll m G A (vs ++ ws) (ds ++ es)
  | _, _, _, _, .nil, s => s
  | _, _, _, _, .cons h r, s => .cons h (r.app s)
theorem RepAll.set {v : V} {d : D} (hd : Rep m G A v d) : ∀ {ds : List D} {vs : List V} (i : Nat), RepAll m G A vs ds → RepAll m G A (vs.set i v) (ds.set i d)
  | _, _, _, .nil => .nil
  | _, _, 0, .cons _ r => .cons hd r
  | _, _, i + 1, .cons h r => .cons h (RepAll.set hd i r)
theorem RepAll.take : ∀ {ds : List D} {vs : List V} (n : Nat), RepAll m G A vs ds → RepAll m G A (vs.take n) (ds.take n)
  | _, _, 0, _ => .nil
  | _, _, _ + 1, .nil => .nil
  | _, _, n + 1, .cons h r => .cons h (r.take n)
theorem RepAll.drop : ∀ {ds : List D} {vs : List V} (n : Nat), RepAll m G A vs ds → RepAll m G A (vs.drop n) (ds.drop n)
  | _, _, 0, r => r
  | _, _, _ + 1, .nil => .nil
  | _, _, n + 1, .cons _ r => r.drop n
theorem RepAll.rep {v : V} {d : D} (h : Rep m G A v d) : ∀ n : Nat, RepAll m G A (List.replicate n v) (List.replicate n d)
  | 0 => .nil
  | n + 1 => .cons h (RepAll.rep h n)
theorem RepAll.rev : ∀ {ds : List D} {vs : List V}, RepAll m G A vs ds → RepAll m G A vs.reverse ds.reverse
  | _, _, .nil => .nil
  | _, _, .cons h r => by
    rw [List.reverse_cons, List.reverse_cons]
    exact r.rev.app (.cons h .nil)
theorem RepAll.ints : ∀ ns : List Int, RepAll m G A (ns.map V.int) (ns.map D.int)
  | [] => .nil
  | n :: r => .cons (.int n) (RepAll.ints r)
theorem RepAll.bls : ∀ ns : List Bool, RepAll m G A (ns.map V.bl) (ns.map D.bool)
  | [] => .nil
  | n :: r => .cons (.bl n) (RepAll.bls r)
theorem RepAll.strs : ∀ ns : List Str, RepAll m G A (ns.map V.str) (ns.map D.str)
  | [] => .nil
  | n :: r => .cons (.str n) (RepAll.strs r)
theorem Rep.int_inv {v : V} {i : Int} (h : Rep m G A v (.int i)) : v = .int i := by cases h; rfl
theorem Rep.bool_inv {v : V} {i : Bool} (h : Rep m G A v (.bool i)) : v = .bl i := by cases h; rfl
theorem Rep.str_inv {v : V} {i : Str} (h : Rep m G A v (.str i)) : v = .str i := by cases h; rfl
theorem Rep.none_inv {v : V} (h : Rep m G A v .none) : v = .non := by cases h; rfl
theorem Rep.list_inv {v : V} {ds : List D} (h : Rep m G A v (.list ds)) : ∃ a xs, v = .ref a ∧ G a = some (.lst xs) ∧ RepAll m G A xs ds := by
  cases h with
  | lst h1 h2 => exact ⟨_, _, rfl, h1, h2⟩
theorem Rep.tuple_inv {v : V} {ds : List D} (h : Rep m G A v (.tuple ds)) : ∃ a xs, v = .ref a ∧ SqT m.K G a xs ∧ RepAll m G A xs ds := by
  cases h with
  | tup h1 h2 => exact ⟨_, _, rfl, h1, h2⟩
theorem RepAll.ints_inv : ∀ {ns : List Int} {vs : List V}, RepAll m G A vs (ns.map D.int) → vs = ns.map V.int
  | [], _, .nil => rfl
  | _ :: _, _, .cons h r => by rw [h.int_inv, r.ints_inv]; rfl
theorem RepAll.bls_inv : ∀ {ns : List Bool} {vs : List V}, RepAll m G A vs (ns.map D.bool) → vs = ns.map V.bl
  | [], _, .nil => rfl
  | _ :: _, _, .cons h r => by rw [h.bool_inv, r.bls_inv]; rfl
theorem RepAll.strs_inv : ∀ {ns : List Str} {vs : List V}, RepAll m G A vs (ns.map D.str) → vs = ns.map V.str
  | [], _, .nil => rfl
  | _ :: _, _, .cons h r => by rw [h.str_inv, r.strs_inv]; rfl
end

/-! ### the state -/
def CellK (m : Pm) (w : Wd) (a : Addr) : Cell → Prop
  | .lst ds => ∃ vs, w.C a = some (.lst vs) ∧ RepAll m w.G w.A vs ds
  | .ins c ns ds => ∃ (C dx : Addr) (fs : List (Str × V)), w.C a = some (.ins C dx fs) ∧ w.C dx = some (.own a) ∧ m.mg c = some (.ref C) ∧ ns = fs.map (·.1) ∧ RepAll m w.G w.A (fs.map (·.2)) ds
  | .dead => ∃ o, w.G a = some o
structure KsOk (m : Pm) (w : Wd) : Prop where
  len : w.A.length = w.κ.length
  nd : w.A.Nodup
  at_ : ∀ (k : Nat) (a : Addr) (c : Cell), w.A[k]? = some a → w.κ[k]? = some c → CellK m w a c
structure St0 (m : Pm) (F : Hp) (w : Wd) (H : Hp) : Prop where
  fr : ∀ a o, F a = some o → H a = some o ∧ w.G a = none ∧ w.C a = none
  cl : ∀ a o, w.C a = some o → H a = some o ∧ w.G a = none
  tab : ∀ p ∈ m.T, LamX.TabS H p.1 p.2 ∧ w.G p.1 = none ∧ w.C p.1 = none ∧ F p.1 = none
  rest : ∀ a, F a = none → w.C a = none → (∀ p ∈ m.T, p.1 ≠ a) → H a = w.G a ∨ ((∃ ps, H a = some (.tbl ps)) ∧ w.G a = none)
  ntG : ∀ a ps, w.G a ≠ some (.tbl ps)
  ntF : ∀ a ps, F a ≠ some (.tbl ps)
  ntC : ∀ a, (∀ ps, w.C a ≠ some (.tbl ps)) ∧ ∀ c q, w.C a ≠ some (LamX.CodeO c q)
  cells : KsOk m w
  nxF : ∀ a φ, F a ≠ some (.ext φ)
  nxC : ∀ a φ, w.C a ≠ some (.ext φ)
structure Wd.le (w w' : Wd) : Prop where
  g : Ext w.G w'.G
  a : w.A <+: w'.A
theorem Wd.le.refl (w : Wd) : w.le w := ⟨.refl _, List.prefix_refl _⟩
theorem Wd.le.trans {w w' w2 : Wd} (h : w.le w') (h' : w'.le w2) : w.le w2 := ⟨h.g.trans h'.g, h.a.trans h'.a⟩
abbrev RepW (m : Pm) (w : Wd) (v : V) (d : D) : Prop := Rep m w.G w.A v d
abbrev RepsW (m : Pm) (w : Wd) (v : List V) (d : List D) : Prop := RepAll m w.G w.A v d
theorem Rep.le {m : Pm} {w w' : Wd} {v : V} {d : D} (h : RepW m w v d) (e : w.le w') : RepW m w' v d := h.mono e.g e.a
theorem RepAll.le {m : Pm} {w w' : Wd} {v : List V} {d : List D} (h : RepsW m w v d) (e : w.le w') : RepsW m w' v d := h.mono e.g e.a
def Wd.addG (w : Wd) (p : Addr) (o : HO) : Wd := { w with G := upd w.G p o }
theorem same_upd {H : Hp} {p : Addr} {o : HO} (h : H p = none) : Same H (upd H p o) := fun b x e => by
  rw [upd_ne (ne_of_none e h)]
  exact e
theorem le_addG {w : Wd} {p : Addr} {o : HO} (h : w.G p = none) : w.le (w.addG p o) := ⟨.of (same_upd h), List.prefix_refl _⟩
theorem CellK.mono {m : Pm} {w w' : Wd} {a : Addr} (e : w.le w') (hC : ∀ b o, w.C b = some o → w'.C b = some o) : ∀ {c : Cell}, CellK m w a c → CellK m w' a c
  | .lst _, ⟨vs, h1, h2⟩ => ⟨vs, hC _ _ h1, h2.le e⟩
  | .ins _ _ _, ⟨C, dx, fs, h1, h2, h3, h4, h5⟩ => ⟨C, dx, fs, hC _ _ h1, hC _ _ h2, h3, h4, h5.le e⟩
  | .dead, ⟨_, h⟩ => (e.g _ _ h).elim fun o' h' => ⟨o', h'.1⟩
theorem KsOk.addG {m : Pm} {w : Wd} {p : Addr} {o : HO} (h : KsOk m w) (hp : w.G p = none) : KsOk m (w.addG p o) :=
  ⟨h.len, h.nd, fun k a c h1 h2 => (h.at_ k a c h1 h2).mono (le_addG hp) fun _ _ e => e⟩
section
variable {m : Pm} {F H : Hp} {w : Wd} {p : Addr} {o : HO}
theorem St0.same (s : St0 m F w H) : Same w.G H := fun a o e => by
  have hF : F a = none := by
    cases q : F a with
    | none => rfl
    | some u => rw [(s.fr a u q).2.1] at e; cases e
  have hC : w.C a = none := by
    cases q : w.C a with
    | none => rfl
    | some u => rw [(s.cl a u q).2] at e; cases e
  rcases s.rest a hF hC (fun p hp z => by rw [← z, (s.tab p hp).2.1] at e; cases e) with z | ⟨_, z⟩
  · rw [z]
    exact e
  · rw [z] at e
    cases e
theorem St0.ext (s : St0 m F w H) : Ext w.G H := .of s.same
theorem St0.freshF (s : St0 m F w H) (h : H p = none) : F p = none := by
  cases q : F p with
  | none => rfl
  | some u => rw [(s.fr p u q).1] at h; cases h
theorem St0.freshC (s : St0 m F w H) (h : H p = none) : w.C p = none := by
  cases q : w.C p with
  | none => rfl
  | some u => rw [(s.cl p u q).1] at h; cases h
theorem St0.freshG (s : St0 m F w H) (h : H p = none) : w.G p = none := s.same.free h
theorem St0.freshT (s : St0 m F w H) (h : H p = none) : ∀ q ∈ m.T, q.1 ≠ p := fun q hq z => by
  obtain ⟨⟨ps, e, _⟩, _⟩ := s.tab q hq
  rw [z, h] at e; cases e
/-- a new object is data -/
theorem St0.alloc (s : St0 m F w H) (h : H p = none) (ho : ∀ ps, o ≠ .tbl ps := by intro _ z; cases z) : St0 m F (w.addG p o) (upd H p o) := by
  have hs : Same H (upd H p o) := same_upd h
  have hF := s.freshF h
  have hC := s.freshC h
  refine ⟨fun a u e => ?_, fun a u e => ?_, fun q hq => ?_, fun a h1 h2 h3 => ?_, fun a ps e => ?_, s.ntF, s.ntC, s.cells.addG (s.freshG h), s.nxF, s.nxC⟩
  · have ne : a ≠ p := fun z => by rw [z, hF] at e; cases e
    exact ⟨hs _ _ (s.fr a u e).1, by show upd w.G p o a = none; rw [upd_ne ne]; exact (s.fr a u e).2.1, (s.fr a u e).2.2⟩
  · have ne : a ≠ p := fun z => by rw [z] at e; exact absurd (hC.symm.trans e) (by intro z; cases z)
    exact ⟨hs _ _ (s.cl a u e).1, by show upd w.G p o a = none; rw [upd_ne ne]; exact (s.cl a u e).2⟩
  · obtain ⟨x1, x2, x3, x4⟩ := s.tab q hq
    exact ⟨x1.ext hs, by show upd w.G p o q.1 = none; rw [upd_ne (s.freshT h q hq)]; exact x2, x3, x4⟩
  · show upd H p o a = upd w.G p o a ∨ _ ∧ upd w.G p o a = none
    by_cases e : a = p
    · rw [e, upd_same, upd_same]
      exact .inl rfl
    · rw [upd_ne e, upd_ne e]
      exact s.rest a h1 h2 h3
  · have e' : upd w.G p o a = _ := e
    by_cases z : a = p
    · rw [z, upd_same] at e'
      exact ho ps (Option.some.inj e')
    · rw [upd_ne z] at e'
      exact s.ntG a ps e'
/-- a new object is owned -/
theorem nx_upd {F : Hp} {p : Addr} {o : HO} (h : ∀ a φ, F a ≠ some (.ext φ)) (hx : ∀ φ, o ≠ .ext φ) (a : Addr) (φ : Heap → Prop) : upd F p o a ≠ some (.ext φ) := fun e => by
  by_cases z : a = p
  · rw [z, upd_same] at e
    exact hx φ (Option.some.inj e)
  · rw [upd_ne z] at e
    exact h a φ e
theorem St0.allocF (s : St0 m F w H) (h : H p = none) (ho : ∀ ps, o ≠ .tbl ps := by intro _ z; cases z) (hx : ∀ φ, o ≠ .ext φ := by intro _ z; cases z) : St0 m (upd F p o) w (upd H p o) := by
  have hs : Same H (upd H p o) := same_upd h
  refine ⟨fun a u e => ?_, fun a u e => ⟨hs _ _ (s.cl a u e).1, (s.cl a u e).2⟩, fun q hq => ?_, fun a h1 h2 h3 => ?_, s.ntG, fun a ps e => ?_, s.ntC, s.cells, nx_upd s.nxF hx, s.nxC⟩
  · by_cases z : a = p
    · subst z
      rw [upd_same] at e
      cases e
      exact ⟨upd_same, s.freshG h, s.freshC h⟩
    · rw [upd_ne z] at e
      exact ⟨hs _ _ (s.fr a u e).1, (s.fr a u e).2⟩
  · obtain ⟨x1, x2, x3, x4⟩ := s.tab q hq
    exact ⟨x1.ext hs, x2, x3, by rw [upd_ne (s.freshT h q hq)]; exact x4⟩
  · by_cases e : a = p
    · rw [e, upd_same] at h1
      cases h1
    · rw [upd_ne e] at h1 ⊢
      exact s.rest a h1 h2 h3
  · by_cases z : a = p
    · rw [z, upd_same] at e
      exact ho ps (Option.some.inj e)
    · rw [upd_ne z] at e
      exact s.ntF a ps e
/-- an owned object becomes data -/
theorem St0.freeze (s : St0 m (upd F p o) w H) (hF : F p = none) : St0 m F (w.addG p o) H := by
  have hp := s.fr p o upd_same
  refine ⟨fun a u e => ?_, fun a u e => ?_, fun q hq => ?_, fun a h1 h2 h3 => ?_, fun a ps e => ?_, fun a ps e => ?_, s.ntC, s.cells.addG hp.2.1, fun a φ e => s.nxF a φ (by rw [upd_ne (fun z => by rw [z, hF] at e; cases e)]; exact e), s.nxC⟩
  · have ne : a ≠ p := fun z => by rw [z, hF] at e; cases e
    have q := s.fr a u (by rw [upd_ne ne]; exact e)
    exact ⟨q.1, by show upd w.G p o a = none; rw [upd_ne ne]; exact q.2.1, q.2.2⟩
  · have ne : a ≠ p := fun z => by rw [z] at e; exact absurd (hp.2.2.symm.trans e) (by intro z; cases z)
    exact ⟨(s.cl a u e).1, by show upd w.G p o a = none; rw [upd_ne ne]; exact (s.cl a u e).2⟩
  · obtain ⟨x1, x2, x3, x4⟩ := s.tab q hq
    have ne : q.1 ≠ p := fun z => by rw [z, upd_same] at x4; cases x4
    rw [upd_ne ne] at x4
    exact ⟨x1, by show upd w.G p o q.1 = none; rw [upd_ne ne]; exact x2, x3, x4⟩
  · show H a = upd w.G p o a ∨ _ ∧ upd w.G p o a = none
    by_cases e : a = p
    · rw [e, upd_same]
      exact .inl hp.1
    · rw [upd_ne e]
      exact s.rest a (by rw [upd_ne e]; exact h1) h2 h3
  · have e' : upd w.G p o a = _ := e
    by_cases z : a = p
    · rw [z, upd_same] at e'
      have q := Option.some.inj e'
      exact s.ntF p ps (by rw [upd_same, q])
    · rw [upd_ne z] at e'
      exact s.ntG a ps e'
  · have ne : a ≠ p := fun z => by rw [z, hF] at e; cases e
    exact s.ntF a ps (by rw [upd_ne ne]; exact e)
theorem tab_write {H : Hp} {a p : Addr} {q : Str} {u : HO} (hH : H p = some u) (nt : ∀ ps, u ≠ .tbl ps) (ne : ∀ c q, u ≠ LamX.CodeO c q) (nb : a ≠ p) (h : LamX.TabS H a q) : LamX.TabS (upd H p o) a q := by
  obtain ⟨ps, h1, h2, h3⟩ := h
  refine ⟨ps, by rw [upd_ne nb]; exact h1, h2, fun pos cv hc => ?_⟩
  obtain ⟨c, e1, e2⟩ := h3 pos cv hc
  refine ⟨c, e1, ?_⟩
  rw [upd_ne (fun z => by
    rw [z, hH] at e2
    exact ne _ _ (Option.some.inj e2))]
  exact e2
/-- an owned object is written -/
theorem St0.write (s : St0 m F w H) {u : HO} (hp : F p = some u) (ne : ∀ c q, u ≠ LamX.CodeO c q) (ho : ∀ ps, o ≠ .tbl ps := by intro _ z; cases z) (hx : ∀ φ, o ≠ .ext φ := by intro _ z; cases z) : St0 m (upd F p o) w (upd H p o) := by
  have hH := s.fr p u hp
  have nt : ∀ ps, u ≠ .tbl ps := fun ps z => s.ntF p ps (by rw [hp, z])
  refine ⟨fun a v e => ?_, fun a v e => ?_, fun q hq => ?_, fun a h1 h2 h3 => ?_, s.ntG, fun a ps e => ?_, s.ntC, s.cells, nx_upd s.nxF hx, s.nxC⟩
  · by_cases z : a = p
    · subst z
      rw [upd_same] at e
      cases e
      exact ⟨upd_same, hH.2⟩
    · rw [upd_ne z] at e ⊢
      exact s.fr a v e
  · have nb : a ≠ p := fun z => by rw [z, hH.2.2] at e; cases e
    rw [upd_ne nb]
    exact s.cl a v e
  · obtain ⟨x1, x2, x3, x4⟩ := s.tab q hq
    have nb : q.1 ≠ p := fun z => by rw [z, hp] at x4; cases x4
    exact ⟨tab_write hH.1 nt ne nb x1, x2, x3, by rw [upd_ne nb]; exact x4⟩
  · by_cases e : a = p
    · rw [e, upd_same] at h1
      cases h1
    · rw [upd_ne e] at h1 ⊢
      exact s.rest a h1 h2 h3
  · by_cases z : a = p
    · rw [z, upd_same] at e
      exact ho ps (Option.some.inj e)
    · rw [upd_ne z] at e
      exact s.ntF a ps e
theorem lst_tbl {xs : List V} : ∀ ps, HO.lst xs ≠ .tbl ps := fun _ z => by cases z
theorem lst_code {xs : List V} : ∀ c q, HO.lst xs ≠ LamX.CodeO c q := fun _ _ z => by
  have z' : HO.lst xs = HO.ext _ := z
  cases z'
theorem dk_code {xs : List (Key × V)} : ∀ c q, HO.dK xs ≠ LamX.CodeO c q := fun _ _ z => by
  have z' : HO.dK xs = HO.ext _ := z
  cases z'
/-- back to a smaller frame: what is left over becomes data -/
theorem St0.back {F' : Hp} (s : St0 m F' w H) (hs : ∀ a o, F a = some o → F' a = some o) : ∃ w', w.le w' ∧ w'.κ = w.κ ∧ St0 m F w' H := by
  let G' : Hp := fun a => match F a with
    | some _ => w.G a
    | none => (match F' a with
      | some o => some o
      | none => w.G a)
  have hG : ∀ a, F a = none → F' a = none → G' a = w.G a := fun a h1 h2 => by
    show (match F a with | some _ => w.G a | none => (match F' a with | some o => some o | none => w.G a)) = _
    rw [h1, h2]
  have hG2 : ∀ a o, F a = none → F' a = some o → G' a = some o := fun a o h1 h2 => by
    show (match F a with | some _ => w.G a | none => (match F' a with | some o => some o | none => w.G a)) = _
    rw [h1, h2]
  have hG3 : ∀ a o, F a = some o → G' a = w.G a := fun a o h1 => by
    show (match F a with | some _ => w.G a | none => (match F' a with | some o => some o | none => w.G a)) = _
    rw [h1]
  have hsame : Same w.G G' := fun a o e => by
    have hF' : F' a = none := by
      cases q : F' a with
      | none => rfl
      | some u => rw [(s.fr a u q).2.1] at e; cases e
    have hF : F a = none := by
      cases q : F a with
      | none => rfl
      | some u => rw [hs a u q] at hF'; cases hF'
    rw [hG a hF hF']
    exact e
  have le : w.le { w with G := G' } := ⟨.of hsame, List.prefix_refl _⟩
  refine ⟨{ w with G := G' }, le, rfl, ?_⟩
  refine ⟨fun a o e => ?_, fun a o e => ?_, fun q hq => ?_, fun a h1 h2 h3 => ?_, fun a ps e => ?_, fun a ps e => s.ntF a ps (hs a _ e), s.ntC, ⟨s.cells.len, s.cells.nd, fun k a c h1 h2 => (s.cells.at_ k a c h1 h2).mono le fun _ _ e => e⟩, fun a φ e => s.nxF a φ (hs a _ e), s.nxC⟩
  · have q := s.fr a o (hs a o e)
    exact ⟨q.1, by show G' a = none; rw [hG3 a o e]; exact q.2.1, q.2.2⟩
  · have q := s.cl a o e
    have x4 : F' a = none := by
      cases z : F' a with
      | none => rfl
      | some u => have := (s.fr a u z).2.2; exact absurd (this.symm.trans e) (by intro z; cases z)
    have xF : F a = none := by
      cases z : F a with
      | none => rfl
      | some u => rw [hs a u z] at x4; cases x4
    exact ⟨q.1, by show G' a = none; rw [hG a xF x4]; exact q.2⟩
  · obtain ⟨x1, x2, x3, x4⟩ := s.tab q hq
    have xF : F q.1 = none := by
      cases z : F q.1 with
      | none => rfl
      | some u => rw [hs q.1 u z] at x4; cases x4
    exact ⟨x1, by show G' q.1 = none; rw [hG _ xF x4]; exact x2, x3, xF⟩
  · show H a = G' a ∨ _ ∧ G' a = none
    cases q : F' a with
    | none =>
      rw [hG a h1 q]
      exact s.rest a q h2 h3
    | some u =>
      rw [hG2 a u h1 q]
      exact .inl (s.fr a u q).1
  · have e' : G' a = some (.tbl ps) := e
    cases q1 : F a with
    | some u =>
      rw [hG3 a u q1] at e'
      exact s.ntG a ps e'
    | none =>
      cases q2 : F' a with
      | some u =>
        rw [hG2 a u q1 q2] at e'
        exact s.ntF a ps (by rw [q2]; exact e')
      | none =>
        rw [hG a q1 q2] at e'
        exact s.ntG a ps e'
end

/-! ### cells -/
section
variable {m : Pm} {F H : Hp} {w : Wd} {p : Addr} {o : HO} {k : Nat} {ds es : List D} {vs : List V}
theorem St0.cellL (s : St0 m F w H) (h : w.κ[k]? = some (.lst ds)) : ∃ a vs, w.A[k]? = some a ∧ w.C a = some (.lst vs) ∧ RepsW m w vs ds := by
  have hlt := (List.getElem?_eq_some_iff.mp h).1
  rw [← s.cells.len] at hlt
  obtain ⟨vs, h1, h2⟩ := s.cells.at_ k _ _ (List.getElem?_eq_getElem hlt) h
  exact ⟨_, vs, List.getElem?_eq_getElem hlt, h1, h2⟩
theorem nodup_get {A : List Addr} (h : A.Nodup) {i j : Nat} {a : Addr} (hi : A[i]? = some a) (hj : A[j]? = some a) : i = j := by
  obtain ⟨li, ei⟩ := List.getElem?_eq_some_iff.mp hi
  obtain ⟨lj, ej⟩ := List.getElem?_eq_some_iff.mp hj
  exact (List.getElem_inj h).mp (ei.trans ej.symm)
/-- a list cell is written -/
theorem St0.cellW (s : St0 m F w H) {a : Addr} {vs0 : List V} (hk : w.κ[k]? = some (.lst ds)) (ha : w.A[k]? = some a) (hC : w.C a = some (.lst vs0)) (hr : RepsW m w vs es) :
    St0 m F { w with C := upd w.C a (.lst vs), κ := w.κ.set k (.lst es) } (upd H a (.lst vs)) := by
  have hH := s.cl a _ hC
  have hF : F a = none := by
    cases q : F a with
    | none => rfl
    | some u => have := (s.fr a u q).2.2; rw [hC] at this; cases this
  refine ⟨fun b u e => ?_, fun b u e => ?_, fun q hq => ?_, fun b h1 h2 h3 => ?_, s.ntG, s.ntF, fun b => ?_, ?_, s.nxF, nx_upd s.nxC (fun _ z => by cases z)⟩
  · have ne : b ≠ a := fun z => by rw [z, hF] at e; cases e
    rw [upd_ne ne]
    exact ⟨(s.fr b u e).1, (s.fr b u e).2.1, by show upd w.C a _ b = none; rw [upd_ne ne]; exact (s.fr b u e).2.2⟩
  · have e' : upd w.C a (.lst vs) b = some u := e
    by_cases z : b = a
    · subst z
      rw [upd_same] at e'
      cases e'
      exact ⟨upd_same, hH.2⟩
    · rw [upd_ne z] at e' ⊢
      exact s.cl b u e'
  · obtain ⟨x1, x2, x3, x4⟩ := s.tab q hq
    have nb : q.1 ≠ a := fun z => by rw [z, hC] at x3; cases x3
    exact ⟨tab_write hH.1 lst_tbl lst_code nb x1, x2, by show upd w.C a _ q.1 = none; rw [upd_ne nb]; exact x3, x4⟩
  · have h2' : upd w.C a (.lst vs) b = none := h2
    by_cases z : b = a
    · rw [z, upd_same] at h2'
      cases h2'
    · rw [upd_ne z] at h2'
      show upd H a _ b = _ ∨ (∃ ps, upd H a _ b = _) ∧ _
      rw [upd_ne z]
      exact s.rest b h1 h2' h3
  · show (∀ ps, upd w.C a (.lst vs) b ≠ _) ∧ ∀ c q, upd w.C a (.lst vs) b ≠ _
    by_cases z : b = a
    · rw [z, upd_same]
      exact ⟨fun ps e => lst_tbl ps (Option.some.inj e), fun c q e => lst_code c q (Option.some.inj e)⟩
    · rw [upd_ne z]
      exact s.ntC b
  · refine ⟨by show w.A.length = (w.κ.set k _).length; rw [List.length_set]; exact s.cells.len, s.cells.nd, fun j b c hj hc => ?_⟩
    have hc' : (w.κ.set k (.lst es))[j]? = some c := hc
    by_cases z : k = j
    · subst z
      have hlt := (List.getElem?_eq_some_iff.mp hk).1
      rw [List.getElem?_set_self hlt] at hc'
      cases hc'
      rw [show w.A[k]? = some b from hj] at ha
      cases ha
      exact ⟨vs, upd_same, hr⟩
    · rw [List.getElem?_set_ne z] at hc'
      have q := s.cells.at_ j b c hj hc'
      have nb : b ≠ a := fun y => z (nodup_get s.cells.nd ha (y ▸ hj))
      cases c with
      | lst fs =>
        obtain ⟨us, h1, h2⟩ := q
        exact ⟨us, by show upd w.C a _ b = _; rw [upd_ne nb]; exact h1, h2⟩
      | ins c ns fs =>
        obtain ⟨C0, dx, fl, h1, h2, h3⟩ := q
        have nd : dx ≠ a := fun y => by rw [y, hC] at h2; cases h2
        exact ⟨C0, dx, fl, by show upd w.C a _ b = _; rw [upd_ne nb]; exact h1, by show upd w.C a _ dx = _; rw [upd_ne nd]; exact h2, h3⟩
      | dead => exact q
/-- an owned list becomes a cell -/
theorem St0.cellN (s : St0 m (upd F p (.lst vs)) w H) (hF : F p = none) (hr : RepsW m w vs ds) :
    w.le { w with C := upd w.C p (.lst vs), A := w.A ++ [p], κ := w.κ ++ [.lst ds] } ∧ St0 m F { w with C := upd w.C p (.lst vs), A := w.A ++ [p], κ := w.κ ++ [.lst ds] } H := by
  have hp := s.fr p _ upd_same
  have le : w.le { w with C := upd w.C p (.lst vs), A := w.A ++ [p], κ := w.κ ++ [.lst ds] } := ⟨.refl _, List.prefix_append _ _⟩
  refine ⟨le, fun b u e => ?_, fun b u e => ?_, fun q hq => ?_, fun b h1 h2 h3 => ?_, s.ntG, fun b ps e => ?_, fun b => ?_, ?_, fun b φ e => s.nxF b φ (by rw [upd_ne (fun z => by rw [z, hF] at e; cases e)]; exact e), nx_upd s.nxC (fun _ z => by cases z)⟩
  · have ne : b ≠ p := fun z => by rw [z, hF] at e; cases e
    have q := s.fr b u (by rw [upd_ne ne]; exact e)
    exact ⟨q.1, q.2.1, by show upd w.C p _ b = none; rw [upd_ne ne]; exact q.2.2⟩
  · have e' : upd w.C p (.lst vs) b = some u := e
    by_cases z : b = p
    · subst z
      rw [upd_same] at e'
      cases e'
      exact ⟨hp.1, hp.2.1⟩
    · rw [upd_ne z] at e'
      exact s.cl b u e'
  · obtain ⟨x1, x2, x3, x4⟩ := s.tab q hq
    have nb : q.1 ≠ p := fun z => by rw [z, upd_same] at x4; cases x4
    rw [upd_ne nb] at x4
    exact ⟨x1, x2, by show upd w.C p _ q.1 = none; rw [upd_ne nb]; exact x3, x4⟩
  · have h2' : upd w.C p (.lst vs) b = none := h2
    by_cases z : b = p
    · rw [z, upd_same] at h2'
      cases h2'
    · rw [upd_ne z] at h2'
      exact s.rest b (by rw [upd_ne z]; exact h1) h2' h3
  · have ne : b ≠ p := fun z => by rw [z, hF] at e; cases e
    exact s.ntF b ps (by rw [upd_ne ne]; exact e)
  · show (∀ ps, upd w.C p (.lst vs) b ≠ _) ∧ ∀ c q, upd w.C p (.lst vs) b ≠ _
    by_cases z : b = p
    · rw [z, upd_same]
      exact ⟨fun ps e => lst_tbl ps (Option.some.inj e), fun c q e => lst_code c q (Option.some.inj e)⟩
    · rw [upd_ne z]
      exact s.ntC b
  · have hA : ∀ (j : Nat) (b : Addr), w.A[j]? = some b → b ≠ p := fun j b hj y => by
      have hlt := (List.getElem?_eq_some_iff.mp hj).1
      rw [s.cells.len] at hlt
      have q := s.cells.at_ j b _ hj (List.getElem?_eq_getElem hlt)
      revert q
      cases w.κ[j] with
      | lst fs =>
        rintro ⟨us, h1, h2⟩
        rw [y, hp.2.2] at h1; cases h1
      | ins c ns fs =>
        rintro ⟨C0, dx, fl, h1, h2, h3⟩
        rw [y, hp.2.2] at h1; cases h1
      | dead =>
        rintro ⟨o, h1⟩
        rw [y, hp.2.1] at h1; cases h1
    have hCC : ∀ b o, w.C b = some o → upd w.C p (.lst vs) b = some o := fun b o e => by
      rw [upd_ne (fun z => by rw [z, hp.2.2] at e; cases e)]
      exact e
    refine ⟨by show (w.A ++ [p]).length = (w.κ ++ [_]).length; simp [s.cells.len], ?_, fun j b c hj hc => ?_⟩
    · show (w.A ++ [p]).Nodup
      refine List.nodup_append.mpr ⟨s.cells.nd, by simp, fun a ha b hb => ?_⟩
      obtain rfl : b = p := by simpa using hb
      obtain ⟨j, hj⟩ := List.getElem?_of_mem ha
      exact hA j a hj
    · have hj' : (w.A ++ [p])[j]? = some b := hj
      have hc' : (w.κ ++ [Cell.lst ds])[j]? = some c := hc
      by_cases hlt : j < w.A.length
      · rw [List.getElem?_append_left hlt] at hj'
        rw [List.getElem?_append_left (by rw [← s.cells.len]; exact hlt)] at hc'
        exact (s.cells.at_ j b c hj' hc').mono le hCC
      · rw [List.getElem?_append_right (by omega)] at hj'
        rw [List.getElem?_append_right (by rw [← s.cells.len]; omega), ← s.cells.len] at hc'
        cases e : j - w.A.length with
        | zero =>
          rw [e] at hj' hc'
          have h1 : p = b := by simpa using hj'
          have h2 : Cell.lst ds = c := by simpa using hc'
          subst h1 h2
          exact ⟨vs, upd_same, hr.le le⟩
        | succ n =>
          rw [e] at hj'
          simp at hj'
end
end VL

namespace VL
open PySem PySem.Spec PyProof.Rows L2

/-- what is owned -/
inductive Ow where
  | lst (ds : List D)
  | dct (ks : List Key) (ds : List D)
def Ow.data : Ow → D
  | .lst ds => .list ds
  | .dct ks ds => .dict ks ds
inductive En where
  | un
  | dat (d : D)
  | own (o : Ow)
  | ro (d : D)
/-- a result: a datum, a new object -/
inductive Rs where
  | dat (d : D)
  | new (o : Ow)
def Rs.data : Rs → D
  | .dat d => d
  | .new o => o.data
def OwAt (m : Pm) (w : Wd) (o : HO) : Ow → Prop
  | .lst ds => ∃ vs, o = .lst vs ∧ RepsW m w vs ds
  | .dct ks ds => ∃ kvs, o = .dK kvs ∧ ks = kvs.map (·.1) ∧ RepsW m w (kvs.map (·.2)) ds
/-- .. locked or not -/
def OwRd (m : Pm) (w : Wd) (o : HO) : Ow → Prop
  | .lst ds => ∃ vs, o = .lst vs ∧ RepsW m w vs ds
  | .dct ks ds => ∃ kvs, IsDk o kvs ∧ ks = kvs.map (·.1) ∧ RepsW m w (kvs.map (·.2)) ds
section
variable {m : Pm} {w w' : Wd} {o : HO}
theorem OwAt.rd : ∀ {x : Ow}, OwAt m w o x → OwRd m w o x
  | .lst _, h => h
  | .dct _ _, ⟨kvs, h1, h2⟩ => ⟨kvs, .inl h1, h2⟩
theorem OwAt.le (e : w.le w') : ∀ {x : Ow}, OwAt m w o x → OwAt m w' o x
  | .lst _, ⟨vs, h1, h2⟩ => ⟨vs, h1, h2.le e⟩
  | .dct _ _, ⟨kvs, h1, h2, h3⟩ => ⟨kvs, h1, h2, h3.le e⟩
theorem OwRd.le (e : w.le w') : ∀ {x : Ow}, OwRd m w o x → OwRd m w' o x
  | .lst _, ⟨vs, h1, h2⟩ => ⟨vs, h1, h2.le e⟩
  | .dct _ _, ⟨kvs, h1, h2, h3⟩ => ⟨kvs, h1, h2, h3.le e⟩
theorem OwAt.ntbl : ∀ {x : Ow}, OwAt m w o x → ∀ ps, o ≠ .tbl ps
  | .lst _, ⟨vs, h1, h2⟩, ps => by rw [h1]; exact lst_tbl ps
  | .dct _ _, ⟨kvs, h1, h2, h3⟩, ps => by rw [h1]; intro z; cases z
theorem OwAt.ncode : ∀ {x : Ow}, OwAt m w o x → ∀ c q, o ≠ LamX.CodeO c q
  | .lst _, ⟨vs, h1, h2⟩, c, q => by rw [h1]; exact lst_code c q
  | .dct _ _, ⟨kvs, h1, h2, h3⟩, c, q => by rw [h1]; exact dk_code c q
/-- an owned object that has become data -/
theorem OwRd.rep {a : Addr} : ∀ {x : Ow}, OwRd m w o x → w.G a = some o → RepW m w (.ref a) x.data
  | .lst _, ⟨vs, h1, h2⟩, h => .lst (by rw [h, h1]) h2
  | .dct _ _, ⟨kvs, h1, h2, h3⟩, h => .dct h h1 h2 rfl h3
end
/-- a datum, or what the frame owns, to be read -/
def RepR (m : Pm) (F : Hp) (w : Wd) (v : V) (d : D) : Prop := RepW m w v d ∨ ∃ a o x, v = .ref a ∧ F a = some o ∧ OwRd m w o x ∧ d = x.data
theorem RepR.le {m : Pm} {F : Hp} {w w' : Wd} {v : V} {d : D} (h : RepR m F w v d) (e : w.le w') : RepR m F w' v d := by
  rcases h with h | ⟨a, o, x, h1, h2, h3, h4⟩
  · exact .inl (h.le e)
  · exact .inr ⟨a, o, x, h1, h2, h3.le e, h4⟩
theorem RepR.sub {m : Pm} {F F' : Hp} {w : Wd} {v : V} {d : D} (h : RepR m F w v d) (e : ∀ a o, F a = some o → F' a = some o) : RepR m F' w v d := by
  rcases h with h | ⟨a, o, x, h1, h2, h3, h4⟩
  · exact .inl h
  · exact .inr ⟨a, o, x, h1, e _ _ h2, h3, h4⟩
def EnOk (m : Pm) (F0 F : Hp) (w : Wd) (a : Addr) (x : Option (Option V)) : En → Prop
  | .un => True
  | .dat d => ∃ v, x = some (some v) ∧ RepW m w v d
  | .own o => x = some (some (.ref a)) ∧ ∃ ob, F a = some ob ∧ OwAt m w ob o
  | .ro d => ∃ v, x = some (some v) ∧ RepR m F0 w v d
structure Slots (m : Pm) (F0 F : Hp) (ow : Nat → Addr) (ρ : List En) (σ : L2.St) (w : Wd) : Prop where
  len : σ.length = ρ.length
  ok : ∀ (i : Nat) (en : En), ρ[i]? = some en → EnOk m F0 F w (ow i) σ[i]? en
  inj : ∀ (i j : Nat) (x y : Ow), ρ[i]? = some (.own x) → ρ[j]? = some (.own y) → ow i = ow j → i = j
  sub : ∀ a o, F0 a = some o → F a = some o
  new : ∀ (i : Nat) (x : Ow), ρ[i]? = some (.own x) → F0 (ow i) = none

def ExcPost (m : Pm) (F0 : Hp) (w0 : Wd) (Ψ : Exc → Ks → Prop) (cls : Value) (d : Option Addr) (H' : Hp) : Prop :=
  ∃ (x : Exc) (w' : Wd) (dd : Addr) (fs : List (Str × V)), Ψ x w'.κ ∧ m.mg x.1 = some cls ∧ d = some dd ∧ w0.le w' ∧ St0 m F0 w' H' ∧ w'.G dd = some (.xd fs) ∧ fs.map (·.1) = x.2.map (·.1) ∧ RepsW m w' (fs.map (·.2)) (x.2.map (·.2))

/-- the module's facts -/
structure Gm where
  P : Program
  w : World
  K : PySem.W.Frag
  mg : Str → Option Value
  base : Heap
  T : List (Addr × Str)
/-- a frame's: its names, scope, room; a def's own (not a comprehension's block) -/
structure Ctx where
  g : Gm
  N : List Str
  sc : Scope
  k : Nat
  top : Bool
  lam : Option (Addr × Addr × Str)
  act : Option Nat
  LP : Ex → Arguments → Expr → Scope → Prop
structure XOk (Γ : Ctx) (X : Cx) (m : Pm) (F0 : Hp) (w0 : Wd) (Ψ : Exc → Ks → Prop) : Prop where
  K : m.K = X.K
  mg : m.mg = X.mg
  T : m.T = Γ.g.T
  nd : X.N.Nodup
  calm : X.calm = true
  po : Γ.top = true → PassesOwn (model X.prog X.w) X.A X.env X.xe
  tk : Takes X (fun cls d _ H' => ExcPost m F0 w0 Ψ cls d H')
  lm : ∀ x c P q, Γ.act = some x → Γ.lam = some (c, P, q) → ∀ t pr bd sc cl q', m.L x t pr bd sc cl q' ↔ (Γ.LP t pr bd sc ∧ cl = cloFrom X.env.cells sc.names [] ∧ q' = q)
structure Fr (Γ : Ctx) (X : Cx) : Prop where
  prog : X.prog = Γ.g.P
  w : X.w = Γ.g.w
  K : X.K = Γ.g.K
  mg : X.mg = Γ.g.mg
  base : X.base = Γ.g.base
  N : X.N = Γ.N
  sc : X.env.scope = Γ.sc
  room : Room Γ.k X.A
  fn : Γ.top = true → ∀ x, X.fn x = true
  stk : Γ.top = true → X.stack = X.env :: X.outer ∧ X.env.frame = some X.env.locals
  lam : ∀ c P q, Γ.lam = some (c, P, q) → X.env.code = .ref c ∧ LamX.TabB X.base X.mg c P ∧ X.env.qual ++ "<lambda>" = q
def visB (sc : Scope) (x : Str) : Bool := match sc.names.lookup x with
  | some .local => true
  | some .cell => true
  | some .free => true
  | _ => false
theorem visB_ok {sc : Scope} {x : Str} (h : visB sc x = true) : Vis sc x := by
  unfold visB at h
  unfold Vis
  split at h
  · rename_i e; exact .inl e
  · rename_i e; exact .inr (.inl e)
  · rename_i e; exact .inr (.inr e)
  · cases h
def glB (sc : Scope) (x : Str) : Bool := match sc.names.lookup x with
  | some .globalImplicit => true
  | _ => false
theorem glB_ok {sc : Scope} {x : Str} (h : glB sc x = true) : sc.names.lookup x = some .globalImplicit := by
  unfold glB at h
  split at h
  · rename_i e; exact e
  · cases h
/-- a name that may be stored -/
def locB (sc : Scope) (top : Bool) (x : Str) : Bool := match sc.names.lookup x with
  | some .local => true
  | some .cell => top
  | _ => false
theorem Fr.gl {Γ : Ctx} {X : Cx} (f : Fr Γ X) {x : Str} (h : glB Γ.sc x = true) : Gl X x := by
  show X.env.scope.names.lookup x = _
  rw [f.sc]
  exact glB_ok h
theorem Fr.vis {Γ : Ctx} {X : Cx} (f : Fr Γ X) {x : Str} (h : visB Γ.sc x = true) : Vis X.env.scope x := by
  rw [f.sc]
  exact visB_ok h
theorem Fr.loc {Γ : Ctx} {X : Cx} (f : Fr Γ X) {x : Str} (h : locB Γ.sc Γ.top x = true) : Loc X.env.scope x ∧ (X.fn x = true ∨ X.env.scope.names.lookup x = some .local) := by
  unfold locB at h
  rw [f.sc]
  split at h
  · rename_i e; exact ⟨.inl e, .inr e⟩
  · rename_i e; exact ⟨.inr e, .inl (f.fn h x)⟩
  · cases h
theorem Fr.nth {Γ : Ctx} {X : Cx} (f : Fr Γ X) {i : Nat} {x : Str} (h : Γ.N[i]? = some x) : X.N[i]? = some x := by
  rw [f.N]
  exact h

structure Stt (Γ : Ctx) (X : Cx) (Ψ : Exc → Ks → Prop) (ρ : List En) (m : Pm) (F0 : Hp) (w0 : Wd) (F : Hp) (ow : Nat → Addr) (σ : L2.St) (w : Wd) (H : Hp) : Prop where
  f : Fr Γ X
  x : XOk Γ X m F0 w0 Ψ
  s0 : w0.le w
  sl : Slots m F0 F ow ρ σ w
  st : St0 m F w H

theorem EnOk.mono {m : Pm} {F0 F : Hp} {w w' : Wd} {a : Addr} {x : Option (Option V)} (e : w.le w') : ∀ {en : En}, EnOk m F0 F w a x en → EnOk m F0 F w' a x en
  | .un, _ => True.intro
  | .dat _, ⟨v, h, q⟩ => ⟨v, h, q.le e⟩
  | .own _, ⟨h, ob, f, q⟩ => ⟨h, ob, f, q.le e⟩
  | .ro _, ⟨v, h, q⟩ => ⟨v, h, q.le e⟩
theorem Slots.mono {m : Pm} {F0 F : Hp} {w w' : Wd} {ow : Nat → Addr} {ρ : List En} {σ : L2.St} (e : w.le w') (s : Slots m F0 F ow ρ σ w) : Slots m F0 F ow ρ σ w' :=
  ⟨s.len, fun i en h => (s.ok i en h).mono e, s.inj, s.sub, s.new⟩
section
variable {Γ : Ctx} {X : Cx} {Ψ : Exc → Ks → Prop} {ρ : List En} {m : Pm} {F0 F H H2 : Hp} {w0 w w2 : Wd} {ow : Nat → Addr} {σ : L2.St}
theorem Stt.K (s : Stt Γ X Ψ ρ m F0 w0 F ow σ w H) : m.K = Γ.g.K := s.x.K.trans s.f.K
theorem Stt.mg (s : Stt Γ X Ψ ρ m F0 w0 F ow σ w H) : m.mg = Γ.g.mg := s.x.mg.trans s.f.mg
theorem Stt.next (s : Stt Γ X Ψ ρ m F0 w0 F ow σ w H) (e : w.le w2) (t : St0 m F w2 H2) : Stt Γ X Ψ ρ m F0 w0 F ow σ w2 H2 := ⟨s.f, s.x, s.s0.trans e, s.sl.mono e, t⟩
end

/-! ### the canonical readings -/
def wE (X : Cx) (e : Expr) : TE := fun σ H Q => ∃ t, PE X e t ∧ t σ H Q
def wT (X : Cx) (e : Expr) : TT := fun σ H Q => ∃ t, PT X e t ∧ t σ H Q
def wA (X : Cx) (es : List Expr) : TA := fun σ H Q => ∃ t, PA X es t ∧ t σ H Q
def wS (X : Cx) (st : Stmt) : TS := fun D σ H => ∃ t, PS X st t ∧ t D σ H
def wSs (X : Cx) (sts : List Stmt) : TS := fun D σ H => ∃ t, PSs X sts t ∧ t D σ H
section
variable {X : Cx}
theorem pe_w {e : Expr} : PE X e (wE X e) := ⟨fun pins s σ H Q I h => by
  obtain ⟨t, h, q⟩ := h
  exact h.run pins s σ H Q I q⟩
theorem pt_w {e : Expr} : PT X e (wT X e) := ⟨fun pins s σ H Q I h => by
  obtain ⟨t, h, q⟩ := h
  exact h.run pins s σ H Q I q⟩
theorem pa_w {es : List Expr} : PA X es (wA X es) := ⟨fun pos pins s σ H Q I h => by
  obtain ⟨t, h, q⟩ := h
  exact h.run pos pins s σ H Q I q⟩
theorem ps_w {st : Stmt} : PS X st (wS X st) := ⟨fun pins s σ H Q I h => by
  obtain ⟨t, h, q⟩ := h
  exact h.run pins s σ H Q I q⟩
theorem pss_w {sts : List Stmt} : PSs X sts (wSs X sts) := ⟨fun pins s σ H Q I h => by
  obtain ⟨t, h, q⟩ := h
  exact h.run pins s σ H Q I q⟩
end

/-! ### the judgements -/
def RsAt (m : Pm) (F : Hp) (w : Wd) (v : V) (H : Hp) : Rs → Prop
  | .dat d => St0 m F w H ∧ RepW m w v d
  | .new x => ∃ p o, v = .ref p ∧ F p = none ∧ St0 m (upd F p o) w H ∧ OwAt m w o x
/-- a result as data -/
theorem RsAt.data {m : Pm} {F H : Hp} {w : Wd} {v : V} : ∀ {r : Rs}, RsAt m F w v H r → ∃ w2, w.le w2 ∧ w2.κ = w.κ ∧ St0 m F w2 H ∧ RepW m w2 v r.data
  | .dat _, ⟨h1, h2⟩ => ⟨w, .refl _, rfl, h1, h2⟩
  | .new x, ⟨p, o, hv, hF, st, oa⟩ => by
    subst hv
    have hG := (st.fr p _ upd_same).2.1
    have le := le_addG (o := o) hG
    exact ⟨w.addG p o, le, rfl, st.freeze hF, (oa.le le).rd.rep upd_same⟩
structure EV (Γ : Ctx) (Ψ : Exc → Ks → Prop) (ρ : List En) (κ : Ks) (e : Expr) (Φ : Rs → Ks → Prop) : Prop where
  run : ∀ {X : Cx} {m : Pm} {F0 : Hp} {w0 : Wd} {F : Hp} {ow : Nat → Addr} {σ : L2.St} {w : Wd} {H : Hp}, Stt Γ X Ψ ρ m F0 w0 F ow σ w H → w.κ = κ →
    ∀ Q : VK, (∀ r v w2 H2, Φ r w2.κ → w.le w2 → RsAt m F w2 v H2 r → Q v H2) → wE X e σ H Q
structure EVD (Γ : Ctx) (Ψ : Exc → Ks → Prop) (ρ : List En) (κ : Ks) (e : Expr) (Φ : D → Ks → Prop) : Prop where
  run : ∀ {X : Cx} {m : Pm} {F0 : Hp} {w0 : Wd} {F : Hp} {ow : Nat → Addr} {σ : L2.St} {w : Wd} {H : Hp}, Stt Γ X Ψ ρ m F0 w0 F ow σ w H → w.κ = κ →
    ∀ Q : VK, (∀ d v w2 H2, Φ d w2.κ → w.le w2 → St0 m F w2 H2 → RepW m w2 v d → Q v H2) → wE X e σ H Q
structure EVR (Γ : Ctx) (Ψ : Exc → Ks → Prop) (ρ : List En) (κ : Ks) (e : Expr) (Φ : D → Ks → Prop) : Prop where
  run : ∀ {X : Cx} {m : Pm} {F0 : Hp} {w0 : Wd} {F : Hp} {ow : Nat → Addr} {σ : L2.St} {w : Wd} {H : Hp}, Stt Γ X Ψ ρ m F0 w0 F ow σ w H → w.κ = κ →
    ∀ Q : VK, (∀ d v w2 H2, Φ d w2.κ → w.le w2 → St0 m F w2 H2 → RepR m F w2 v d → Q v H2) → wE X e σ H Q
structure EVT (Γ : Ctx) (Ψ : Exc → Ks → Prop) (ρ : List En) (κ : Ks) (e : Expr) (Φ : Bool → Ks → Prop) : Prop where
  run : ∀ {X : Cx} {m : Pm} {F0 : Hp} {w0 : Wd} {F : Hp} {ow : Nat → Addr} {σ : L2.St} {w : Wd} {H : Hp}, Stt Γ X Ψ ρ m F0 w0 F ow σ w H → w.κ = κ →
    ∀ Q : Bool → Hp → Prop, (∀ b w2 H2, Φ b w2.κ → w.le w2 → St0 m F w2 H2 → Q b H2) → wT X e σ H Q
def ArgOk (m : Pm) (F : Hp) (w : Wd) (v : V) : En → Prop
  | .dat d => RepW m w v d
  | .ro d => RepR m F w v d
  | _ => False
inductive Args (m : Pm) (F : Hp) (w : Wd) : List V → List En → Prop
  | nil : Args m F w [] []
  | cons {v : V} {vs : List V} {a : En} {as : List En} : ArgOk m F w v a → Args m F w vs as → Args m F w (v :: vs) (a :: as)
section
variable {m : Pm} {F : Hp} {w w' : Wd}
theorem ArgOk.le {v : V} (e : w.le w') : ∀ {a : En}, ArgOk m F w v a → ArgOk m F w' v a
  | .un, h => h
  | .dat _, h => Rep.le h e
  | .own _, h => h
  | .ro _, h => RepR.le h e
theorem Args.le (e : w.le w') : ∀ {vs : List V} {as : List En}, Args m F w vs as → Args m F w' vs as
  | _, _, .nil => .nil
  | _, _, .cons h r => .cons (h.le e) (r.le e)
theorem Args.len : ∀ {vs : List V} {as : List En}, Args m F w vs as → vs.length = as.length
  | _, _, .nil => rfl
  | _, _, .cons _ r => congrArg (· + 1) r.len
theorem Args.data : ∀ {vs : List V} {ds : List D}, Args m F w vs (ds.map .dat) → RepsW m w vs ds
  | _, [], .nil => .nil
  | _, _ :: _, .cons h r => .cons h (Args.data r)
theorem Args.ofData : ∀ {vs : List V} {ds : List D}, RepsW m w vs ds → Args m F w vs (ds.map .dat)
  | _, _, .nil => .nil
  | _, _, .cons h r => .cons h (Args.ofData r)
theorem Args.app : ∀ {vs us : List V} {as bs : List En}, Args m F w vs as → Args m F w us bs → Args m F w (vs ++ us) (as ++ bs)
  | _, _, _, _, .nil, s => s
  | _, _, _, _, .cons h r, s => .cons h (r.app s)
theorem Args.get : ∀ {vs : List V} {as : List En} (i : Nat) (en : En), Args m F w vs as → as[i]? = some en → ∃ v, vs[i]? = some v ∧ ArgOk m F w v en
  | _, _, _, _, .nil, h => by simp at h
  | _, _, 0, _, .cons h _, e => by simp at e; subst e; exact ⟨_, rfl, h⟩
  | _, _, i + 1, en, .cons _ r, e => by
    obtain ⟨v, h1, h2⟩ := r.get i en (by simpa using e)
    exact ⟨v, by simpa using h1, h2⟩
end
structure EVA (Γ : Ctx) (Ψ : Exc → Ks → Prop) (ρ : List En) (κ : Ks) (es : List Expr) (Φ : List En → Ks → Prop) : Prop where
  run : ∀ {X : Cx} {m : Pm} {F0 : Hp} {w0 : Wd} {F : Hp} {ow : Nat → Addr} {σ : L2.St} {w : Wd} {H : Hp}, Stt Γ X Ψ ρ m F0 w0 F ow σ w H → w.κ = κ →
    ∀ Q : List V → Hp → Prop, (∀ as vs w2 H2, Φ as w2.κ → w.le w2 → St0 m F w2 H2 → Args m F w2 vs as → Q vs H2) → wA X es σ H Q
section
variable {Γ : Ctx} {Ψ : Exc → Ks → Prop} {ρ : List En} {κ : Ks} {a b c e : Expr} {es : List Expr} {pos : Pos}
theorem EV.imp {Φ Φ1 : Rs → Ks → Prop} (h : EV Γ Ψ ρ κ e Φ) (i : ∀ d κ', Φ d κ' → Φ1 d κ') : EV Γ Ψ ρ κ e Φ1 := ⟨fun s k Q q => h.run s k Q fun d v w2 H2 p => q d v w2 H2 (i d _ p)⟩
theorem EVD.imp {Φ Φ1 : D → Ks → Prop} (h : EVD Γ Ψ ρ κ e Φ) (i : ∀ d κ', Φ d κ' → Φ1 d κ') : EVD Γ Ψ ρ κ e Φ1 := ⟨fun s k Q q => h.run s k Q fun d v w2 H2 p => q d v w2 H2 (i d _ p)⟩
theorem EVR.imp {Φ Φ1 : D → Ks → Prop} (h : EVR Γ Ψ ρ κ e Φ) (i : ∀ d κ', Φ d κ' → Φ1 d κ') : EVR Γ Ψ ρ κ e Φ1 := ⟨fun s k Q q => h.run s k Q fun d v w2 H2 p => q d v w2 H2 (i d _ p)⟩
theorem EV.evd {Φ : D → Ks → Prop} (h : EV Γ Ψ ρ κ e (fun r κ' => Φ r.data κ')) : EVD Γ Ψ ρ κ e Φ := ⟨fun s k Q q => h.run s k Q fun r v w2 H2 p le at_ => by
  obtain ⟨w3, le3, hk, st, rp⟩ := at_.data
  exact q r.data v w3 H2 (by rw [hk]; exact p) (le.trans le3) st rp⟩
theorem EVD.evr {Φ : D → Ks → Prop} (h : EVD Γ Ψ ρ κ e Φ) : EVR Γ Ψ ρ κ e Φ := ⟨fun s k Q q => h.run s k Q fun d v w2 H2 p le st rp => q d v w2 H2 p le st (.inl rp)⟩
theorem EVD.ev {Φ : Rs → Ks → Prop} (h : EVD Γ Ψ ρ κ e (fun d κ' => Φ (.dat d) κ')) : EV Γ Ψ ρ κ e Φ := ⟨fun s k Q q => h.run s k Q fun d v w2 H2 p le st rp => q (.dat d) v w2 H2 p le ⟨st, rp⟩⟩

/-! ### names and constants -/
theorem ev_var {Φ : Rs → Ks → Prop} {x : Str} {i : Nat} {d : D} (hρ : ρ[i]? = some (.dat d)) (h : Φ (.dat d) κ) (hN : Γ.N[i]? = some x) (hv : visB Γ.sc x = true) (hd : (x == ("__debug__" : Str)) = false) (hcd : (x == ("__classdict__" : Str)) = false) : EV Γ Ψ ρ κ (.Name x pos) Φ := ⟨fun {X m F0 w0 F ow σ w H} s k Q q => by
  obtain ⟨v, h1, h2⟩ := s.sl.ok i _ hρ
  exact ⟨_, pe_var (s.f.nth hN) (s.f.vis hv) hd hcd, v, h1, q (.dat d) v w H (by rw [k]; exact h) (.refl _) ⟨s.st, h2⟩⟩⟩
/-- what a slot shows to a reader -/
def slotR : Option En → Option D
  | some (.dat d) => some d
  | some (.own x) => some x.data
  | some (.ro d) => some d
  | _ => none
theorem evr_var {Φ : D → Ks → Prop} {x : Str} {i : Nat} {d : D} (hρ : slotR ρ[i]? = some d) (h : Φ d κ) (hN : Γ.N[i]? = some x) (hv : visB Γ.sc x = true) (hd : (x == ("__debug__" : Str)) = false) (hcd : (x == ("__classdict__" : Str)) = false) : EVR Γ Ψ ρ κ (.Name x pos) Φ := ⟨fun {X m F0 w0 F ow σ w H} s k Q q => by
  cases hi : ρ[i]? with
  | none => rw [hi] at hρ; cases hρ
  | some en =>
    rw [hi] at hρ
    have ok := s.sl.ok i _ hi
    cases en with
    | un => cases hρ
    | dat d' =>
      cases hρ
      obtain ⟨v, h1, h2⟩ := ok
      exact ⟨_, pe_var (s.f.nth hN) (s.f.vis hv) hd hcd, v, h1, q d v w H (by rw [k]; exact h) (.refl _) s.st (.inl h2)⟩
    | own o =>
      cases hρ
      obtain ⟨h1, ob, h2, h3⟩ := ok
      exact ⟨_, pe_var (s.f.nth hN) (s.f.vis hv) hd hcd, _, h1, q _ _ w H (by rw [k]; exact h) (.refl _) s.st (.inr ⟨_, ob, o, rfl, h2, h3.rd, rfl⟩)⟩
    | ro d' =>
      cases hρ
      obtain ⟨v, h1, h2⟩ := ok
      exact ⟨_, pe_var (s.f.nth hN) (s.f.vis hv) hd hcd, v, h1, q d v w H (by rw [k]; exact h) (.refl _) s.st (h2.sub s.sl.sub)⟩⟩
theorem ev_const {Φ : Rs → Ks → Prop} {t : V} {d : D} (h : ∀ X, PE X e (tC t)) (hd : ∀ m G A, Rep m G A t d) (hΦ : Φ (.dat d) κ) : EV Γ Ψ ρ κ e Φ := ⟨fun {X m F0 w0 F ow σ w H} s k Q q => ⟨_, h X, q (.dat d) t w H (by rw [k]; exact hΦ) (.refl _) ⟨s.st, hd _ _ _⟩⟩⟩
/-- a module's datum -/
def GlD (g : Gm) (x : Str) (d : D) : Prop := ∃ v u, g.mg x = some u ∧ RelV v u ∧ ∀ m G A, m.K = g.K → m.mg = g.mg → Rep m G A v d
theorem ev_gl {Φ : Rs → Ks → Prop} {x : Str} {d : D} (h : GlD Γ.g x d) (hΦ : Φ (.dat d) κ) (hg : glB Γ.sc x = true) (hdb : (x == ("__debug__" : Str)) = false) : EV Γ Ψ ρ κ (.Name x pos) Φ := ⟨fun {X m F0 w0 F ow σ w H} s k Q q => by
  obtain ⟨v, u, hm, r, hd⟩ := h
  exact ⟨_, pe_glob (s.f.gl hg) (by rw [s.f.mg]; exact hm) r hdb, q (.dat d) v w H (by rw [k]; exact hΦ) (.refl _) ⟨s.st, hd m _ _ s.K s.mg⟩⟩⟩

/-! ### operations -/
/-- an operation by values, over data -/
def RD (g : Gm) (r : R2) (κ : Ks) (x y : D) (Φ : Rs → Ks → Prop) : Prop :=
  ∀ (m : Pm) (F H : Hp) (w : Wd) (vx vy : V) (Q : VK), m.K = g.K → w.κ = κ → St0 m F w H → RepR m F w vx x → RepR m F w vy y → (∀ r v w2 H2, Φ r w2.κ → w.le w2 → RsAt m F w2 v H2 r → Q v H2) → r vx vy H Q
theorem ev2 {Φ : Rs → Ks → Prop} {Φ1 : D → Ks → Prop} {r : R2} {te : Cx → TE} (hp : ∀ X, Fr Γ X → PE X c (te X)) (he : ∀ X σ H Q, (wE X a σ H fun x H1 => wE X b σ H1 fun y H2 => r x y H2 Q) → te X σ H Q) (ha : EVR Γ Ψ ρ κ a Φ1) (hb : ∀ x κ1, Φ1 x κ1 → EVR Γ Ψ ρ κ1 b (fun y κ2 => RD Γ.g r κ2 x y Φ)) : EV Γ Ψ ρ κ c Φ :=
  ⟨fun {X m F0 w0 F ow σ w H} s k Q q => ⟨te X, hp X s.f, he _ _ _ _ (ha.run s k _ fun x vx w1 H1 p1 e1 s1 d1 => (hb x _ p1).run (s.next e1 s1) rfl _ fun y vy w2 H2 p2 e2 s2 d2 =>
    p2 m F H2 w2 vx vy Q s.K rfl s2 (d1.le e2) d2 fun d v w3 H3 p3 e3 s3 => q d v w3 H3 p3 ((e1.trans e2).trans e3) s3)⟩⟩
theorem ev_op {Φ : Rs → Ks → Prop} {Φ1 : D → Ks → Prop} {op : Operator} {r : R2} (ho : ∀ X, Fr Γ X → OpR X (binaryOp op) r) (ha : EVR Γ Ψ ρ κ a Φ1) (hb : ∀ x κ1, Φ1 x κ1 → EVR Γ Ψ ρ κ1 b (fun y κ2 => RD Γ.g r κ2 x y Φ)) : EV Γ Ψ ρ κ (.BinOp a op b pos) Φ :=
  ev2 (fun X f => pe_op (ho X f) pe_w pe_w) (fun _ _ _ _ h => h) ha hb
theorem ev_cmp {Φ : Rs → Ks → Prop} {Φ1 : D → Ks → Prop} {op : CmpOp} {r : R2} (ho : ∀ X, Fr Γ X → OpR X (compareOp op) r) (hm : behindInMarks op b = false) (ha : EVR Γ Ψ ρ κ a Φ1) (hb : ∀ x κ1, Φ1 x κ1 → EVR Γ Ψ ρ κ1 b (fun y κ2 => RD Γ.g r κ2 x y Φ)) : EV Γ Ψ ρ κ (.Compare a [op] [b] pos) Φ :=
  ev2 (fun X f => pe_cmpR (ho X f) pe_w pe_w hm) (fun _ _ _ _ h => h) ha hb
/-- the same as a test -/
theorem evt_cmp {Φ : Bool → Ks → Prop} {Φ1 : D → Ks → Prop} {op : CmpOp} {r : R2} (ho : ∀ X, Fr Γ X → OpR X (compareOp op) r) (hm : behindInMarks op b = false) (ha : EVR Γ Ψ ρ κ a Φ1) (hb : ∀ x κ1, Φ1 x κ1 → EVR Γ Ψ ρ κ1 b (fun y κ2 => RD Γ.g r κ2 x y (fun z κ3 => ∃ k, z = .dat (.bool k) ∧ Φ k κ3))) : EVT Γ Ψ ρ κ (.Compare a [op] [b] pos) Φ :=
  ⟨fun {X m F0 w0 F ow σ w H} s k Q q => ⟨_, pt_cmpR (ho X s.f) pe_w pe_w hm, ha.run s k _ fun x vx w1 H1 p1 e1 s1 d1 => (hb x _ p1).run (s.next e1 s1) rfl _ fun y vy w2 H2 p2 e2 s2 d2 =>
    p2 m F H2 w2 vx vy _ s.K rfl s2 (d1.le e2) d2 fun d v w3 H3 p3 e3 s3 => by
      obtain ⟨k, rfl, hk⟩ := p3
      obtain ⟨st, rp⟩ := s3
      rw [rp.bool_inv]
      exact ⟨k, rfl, q k w3 H3 hk ((e1.trans e2).trans e3) st⟩⟩⟩
theorem OpR.or {X : Cx} {f : Value → Value → Sem Value} {r1 r2 : R2} (h1 : OpR X f r1) (h2 : OpR X f r2) : OpR X f (fun x y H Q => r1 x y H Q ∨ r2 x y H Q) := fun pins s σ H x y v u Q I rx ry h => h.elim (fun h => h1 pins s σ H x y v u Q I rx ry h) (fun h => h2 pins s σ H x y v u Q I rx ry h)
theorem RepR.int_inv {m : Pm} {F : Hp} {w : Wd} {v : V} {i : Int} (h : RepR m F w v (.int i)) : v = .int i := by
  rcases h with h | ⟨a, o, x, _, _, _, h⟩
  · exact h.int_inv
  · cases x <;> cases h
theorem RepR.str_inv {m : Pm} {F : Hp} {w : Wd} {v : V} {i : Str} (h : RepR m F w v (.str i)) : v = .str i := by
  rcases h with h | ⟨a, o, x, _, _, _, h⟩
  · exact h.str_inv
  · cases x <;> cases h
theorem RepR.bool_inv {m : Pm} {F : Hp} {w : Wd} {v : V} {i : Bool} (h : RepR m F w v (.bool i)) : v = .bl i := by
  rcases h with h | ⟨a, o, x, _, _, _, h⟩
  · exact h.bool_inv
  · cases x <;> cases h
theorem RepR.none_inv {m : Pm} {F : Hp} {w : Wd} {v : V} (h : RepR m F w v .none) : v = .non := by
  rcases h with h | ⟨a, o, x, _, _, _, h⟩
  · exact h.none_inv
  · cases x <;> cases h
/-- a tuple to be read -/
theorem RepR.tuple_inv {m : Pm} {F H : Hp} {w : Wd} {v : V} {ds : List D} (s : St0 m F w H) (h : RepR m F w v (.tuple ds)) : ∃ a xs, v = .ref a ∧ SqT m.K H a xs ∧ RepsW m w xs ds := by
  rcases h with h | ⟨a, o, x, _, _, _, h⟩
  · obtain ⟨a, xs, h1, h2, h3⟩ := h.tuple_inv
    exact ⟨a, xs, h1, sqT_ext s.ext h2, h3⟩
  · cases x <;> cases h
/-- what is in a list: data, or a cell -/
def lsOf (κ : Ks) : D → Option (List D)
  | .list ds => some ds
  | .hd k => match κ[k]? with
    | some (.lst ds) => some ds
    | _ => none
  | _ => none
/-- a list to be read -/
theorem RepR.list_inv {m : Pm} {F H : Hp} {w : Wd} {v : V} {d : D} {ds : List D} (s : St0 m F w H) (h : RepR m F w v d) (e : lsOf w.κ d = some ds) : ∃ a xs, v = .ref a ∧ H a = some (.lst xs) ∧ RepsW m w xs ds := by
  rcases h with h | ⟨a, o, x, h1, h2, h3, h4⟩
  · cases d with
    | list xs =>
      cases e
      obtain ⟨a, xs, h1, h2, h3⟩ := h.list_inv
      exact ⟨a, xs, h1, s.same _ _ h2, h3⟩
    | hd k =>
      cases h with
      | hd hk =>
        have e : (match w.κ[k]? with | some (.lst ds) => some ds | _ => none) = some ds := e
        split at e
        · rename_i ds' hc
          cases e
          obtain ⟨a, vs, h1, h2, h3⟩ := s.cellL hc
          rw [h1] at hk
          cases hk
          exact ⟨_, vs, rfl, (s.cl _ _ h2).1, h3⟩
        · cases e
    | _ => cases e
  · cases x with
    | lst es =>
      subst h4
      cases e
      obtain ⟨vs, rfl, h5⟩ := h3
      exact ⟨a, vs, h1, (s.fr _ _ h2).1, h5⟩
    | dct ks es =>
      subst h4
      cases e
end
end VL

namespace VL
open PySem PySem.Spec PyProof.Rows L2

/-! ### results of the evaluator -/
inductive Res (α : Type) where
  | ok (a : α) (κ : Ks)
  | exc (x : Exc) (κ : Ks)
  | stuck
def M (α : Type) : Type := Ks → Res α
@[reducible] def M.ret {α : Type} (a : α) : M α := fun κ => .ok a κ
def M.bind {α β : Type} (m : M α) (f : α → M β) : M β := fun κ => match m κ with
  | .ok a κ' => f a κ'
  | .exc x κ' => .exc x κ'
  | .stuck => .stuck
def M.fail {α : Type} : M α := fun _ => .stuck
def M.raise {α : Type} (x : Exc) : M α := fun κ => .exc x κ
def M.ofO {α : Type} : Option α → M α
  | some a => .ret a
  | none => .fail
/-- a value that may hang on the cells -/
def M.rd {α : Type} (f : Ks → Option α) : M α := fun κ => match f κ with
  | some a => .ok a κ
  | none => .stuck
def Res.sat {α : Type} (r : Res α) (Φ : α → Ks → Prop) (Ψ : Exc → Ks → Prop) : Prop := match r with
  | .ok a κ => Φ a κ
  | .exc x κ => Ψ x κ
  | .stuck => False
def NoXK : Exc → Ks → Prop := fun _ _ => False
section
variable {α β : Type} {Φ : α → Ks → Prop} {Ψ : Exc → Ks → Prop} {κ : Ks}
theorem sat_bind {m : M α} {f : α → M β} {Φ : β → Ks → Prop} : (M.bind m f κ).sat Φ Ψ ↔ (m κ).sat (fun a κ' => (f a κ').sat Φ Ψ) Ψ := by
  unfold M.bind
  cases m κ <;> rfl
theorem sat_ret {a : α} : (M.ret a κ).sat Φ Ψ ↔ Φ a κ := .rfl
theorem sat_ofO {o : Option α} : (M.ofO o κ).sat Φ Ψ ↔ ∃ a, o = some a ∧ Φ a κ := by
  cases o with
  | none => exact ⟨fun h => h.elim, fun ⟨_, h, _⟩ => nomatch h⟩
  | some a => exact ⟨fun h => ⟨a, rfl, h⟩, fun ⟨b, h, q⟩ => by cases h; exact q⟩
theorem sat_rd {f : Ks → Option α} : (M.rd f κ).sat Φ Ψ ↔ ∃ a, f κ = some a ∧ Φ a κ := by
  unfold M.rd
  cases f κ with
  | none => exact ⟨fun h => h.elim, fun ⟨_, h, _⟩ => nomatch h⟩
  | some a => exact ⟨fun h => ⟨a, rfl, h⟩, fun ⟨b, h, q⟩ => by cases h; exact q⟩
theorem Res.sat.imp {r : Res α} {Φ1 : α → Ks → Prop} {Ψ1 : Exc → Ks → Prop} (h : r.sat Φ Ψ) (i : ∀ a κ, Φ a κ → Φ1 a κ) (j : ∀ x κ, Ψ x κ → Ψ1 x κ) : r.sat Φ1 Ψ1 := by
  cases r with
  | ok a κ => exact i a κ h
  | exc x κ => exact j x κ h
  | stuck => exact h
end

/-! ### plain data -/
mutual
def pyOf : D → Option PyData
  | .none => some .none
  | .bool b => some (.bool b)
  | .int i => some (.int i)
  | .str s => some (.str s)
  | .list ds => (pysOf ds).map .list
  | .tuple ds => (pysOf ds).map .tuple
  | _ => none
def pysOf : List D → Option (List PyData)
  | [] => some []
  | d :: ds => match pyOf d, pysOf ds with
    | some p, some ps => some (p :: ps)
    | _, _ => none
end
/-- data that can be held against each other -/
def shpOf (d : D) : Option PyData := match pyOf d with
  | some p => if SeqAt.shaped p = true then some p else none
  | none => none
def eqO (x y : D) : Option Bool := match shpOf x, shpOf y with
  | some p, some q => some (PyData.eqv p q)
  | _, _ => none

/-! ### operators -/
def cMul (i j : Int) : Bool := (decide (-(2 ^ 64) < i) && decide (i < 2 ^ 64)) || (decide (-(2 ^ 64) < j) && decide (j < 2 ^ 64))
def opAdd (κ : Ks) : D → D → Option Rs
  | .int i, .int j => some (.dat (.int (i + j)))
  | .str a, .str b => if a.length + b.length ≤ sizeLine then some (.dat (.str (a ++ b))) else none
  | .tuple xs, .tuple ys => if xs.length + ys.length ≤ sizeLine then some (.dat (.tuple (xs ++ ys))) else none
  | x, y => match lsOf κ x, lsOf κ y with
    | some xs, some ys => if xs.length + ys.length ≤ sizeLine then some (.new (.lst (xs ++ ys))) else none
    | _, _ => none
def opMul (κ : Ks) : D → D → Option Rs
  | .int i, .int j => if cMul i j = true then some (.dat (.int (i * j))) else none
  | .tuple xs, .int k => if xs ≠ [] ∧ xs.length ≤ 1000 ∧ -1000 ≤ k ∧ k ≤ 1000 then some (.dat (.tuple (List.replicate k.toNat xs).flatten)) else none
  | x, .int k => match lsOf κ x with
    | some xs => if -(2 ^ 63) ≤ k ∧ k < 2 ^ 63 ∧ xs.length * k.toNat ≤ sizeLine then some (.new (.lst (List.replicate k.toNat xs).flatten)) else none
    | none => none
  | _, _ => none
/-- i // j: i of any size -/
def cDiv (i j : Int) : Bool := decide (0 < j) && decide (j < 2 ^ 9000)
def opB (o : Operator) (κ : Ks) (x y : D) : Option Rs := match o with
  | .Add => opAdd κ x y
  | .Sub => match x, y with
    | .int i, .int j => some (.dat (.int (i - j)))
    | _, _ => none
  | .Mult => opMul κ x y
  | .Mod => match x, y with
    | .int i, .int j => if 0 < j then some (.dat (.int (i % j))) else none
    | _, _ => none
  | .FloorDiv => match x, y with
    | .int i, .int j => if cDiv i j = true then some (.dat (.int (i / j))) else none
    | _, _ => none
  | .Pow => match x, y with
    | .int i, .int j => if 0 ≤ j ∧ j ≤ 1000000 ∧ i.natAbs < 2 ^ 64 then some (.dat (.int (i ^ j.toNat))) else none
    | _, _ => none
  | _ => none
def isNoneD : D → Bool
  | .none => true
  | _ => false
def ltInts : List Int → List Int → Bool
  | [], [] => false
  | [], _ :: _ => true
  | _ :: _, [] => false
  | a :: as, b :: bs => if a = b then ltInts as bs else decide (a < b)
def intsOf : List D → Option (List Int)
  | [] => some []
  | .int i :: r => match intsOf r with
    | some is => some (i :: is)
    | none => none
  | _ => none
def cmpI (o : CmpOp) (i j : Int) : Option Bool := match o with
  | .Lt => some (decide (i < j))
  | .LtE => some (decide (i ≤ j))
  | .Gt => some (decide (j < i))
  | .GtE => some (decide (j ≤ i))
  | .Eq => some (decide (i = j))
  | .NotEq => some (!decide (i = j))
  | _ => none
/-- flat things -/
def flatOf : D → Option V
  | .none => some .non
  | .bool b => some (.bl b)
  | .int i => some (.int i)
  | .str s => some (.str s)
  | _ => none
def flats : List D → Option (List V)
  | [] => some []
  | d :: ds => match flatOf d, flats ds with
    | some v, some vs => some (v :: vs)
    | _, _ => none
def inQ (κ : Ks) (x y : D) : Option Bool :=
  match (match y with
    | .tuple ds => some ds
    | y => lsOf κ y) with
  | some ds => match flatOf x, flats ds with
    | some v, some vs => some (inV v vs)
    | _, _ => none
  | none => none
/-- a sign in a text -/
def chrIn (a z : Str) : Option Bool := match a.cps.toList with
  | [c] => some (decide (c ∈ z.cps.toList))
  | _ => none
def inO (κ : Ks) (x y : D) : Option Bool := match y with
  | .str z => match x with
    | .str a => chrIn a z
    | _ => none
  | y => inQ κ x y
def cmpD (o : CmpOp) (κ : Ks) (x y : D) : Option Bool := match o with
  | .Eq => match x, y with
    | .int i, .int j => some (decide (i = j))
    | x, y => eqO x y
  | .NotEq => match x, y with
    | .int i, .int j => some (!decide (i = j))
    | x, y => (eqO x y).map (!·)
  | .Is => match y with
    | .none => some (isNoneD x)
    | _ => none
  | .IsNot => match y with
    | .none => some (!isNoneD x)
    | _ => none
  | .In => inO κ x y
  | .NotIn => (inO κ x y).map (!·)
  | o => match x, y with
    | .int i, .int j => cmpI o i j
    | _, _ => none

/-! ### built-in functions -/
def tyD : D → String
  | .none => "NoneType"
  | .bool _ => "bool"
  | .int _ => "int"
  | .str _ => "str"
  | .list _ => "list"
  | .tuple _ => "tuple"
  | _ => ""
def isT : Ty → D → Bool
  | .int, .int _ => true
  | .int, .bool _ => true
  | .bool, .bool _ => true
  | .str, .str _ => true
  | .list, .list _ => true
  | .tuple, .tuple _ => true
  | _, _ => false
def plainOf : D → Bool
  | .dict _ _ => false
  | .obj _ _ _ => false
  | .hd _ => false
  | .fn _ => false
  | .lam _ _ => false
  | _ => true
def boolsOf : List D → Option (List Bool)
  | [] => some []
  | .bool b :: r => match boolsOf r with
    | some bs => some (b :: bs)
    | none => none
  | _ => none
def sqOf (κ : Ks) : D → Option (List D)
  | .tuple ds => some ds
  | d => lsOf κ d
def maxL : List Int → Int
  | [] => 0
  | [a] => a
  | a :: b :: r => max a (maxL (b :: r))
def insI (a : Int) : List Int → List Int
  | [] => [a]
  | b :: r => if a ≤ b then a :: b :: r else b :: insI a r
def sortI : List Int → List Int
  | [] => []
  | a :: r => insI a (sortI r)
def listsOf : List D → Option (List (List D))
  | [] => some []
  | .list es :: r => match listsOf r with
    | some ps => some (es :: ps)
    | none => none
  | _ => none
def bxS (b : Bx) (κ : Ks) (as : List D) : Option Rs := match b, as with
  | .sort, [x] => match sqOf κ x with
    | some ds => (intsOf ds).map fun is => .new (.lst ((sortI is).map .int))
    | none => none
  | .maxq, [x] => match sqOf κ x with
    | some ds => match intsOf ds with
      | some is => if is = [] then none else some (.dat (.int (maxL is)))
      | none => none
    | none => none
  | .intb, [.bool k] => some (.dat (.int (if k = true then 1 else 0)))
  | .intb, [.int i] => some (.dat (.int i))
  | .sumL, [x, .list []] => match lsOf κ x with
    | some ds => match listsOf ds with
      | some ps => if ps ≠ [] ∧ ps.flatten.length ≤ sizeLine then some (.new (.lst ps.flatten)) else none
      | none => none
    | none => none
  | _, _ => none
def biS (b : Bi) (κ : Ks) (as : List D) : Option Rs := match b, as with
  | .len, [.str s] => if s.length ≤ sizeLine then some (.dat (.int s.length)) else none
  | .len, [x] => (sqOf κ x).map fun ds => .dat (.int ds.length)
  | .list, [x] => (sqOf κ x).map fun ds => .new (.lst ds)
  | .tuple, [x] => (sqOf κ x).map fun ds => .dat (.tuple ds)
  | .all, [x] => match lsOf κ x with
    | some ds => (boolsOf ds).map fun bs => .dat (.bool (bs.all id))
    | none => none
  | .any, [x] => match lsOf κ x with
    | some ds => (boolsOf ds).map fun bs => .dat (.bool (bs.any id))
    | none => none
  | .sum, [x] => match lsOf κ x with
    | some ds => (intsOf ds).map fun is => .dat (.int is.sum)
    | none => none
  | .max1, [x] => match lsOf κ x with
    | some ds => match intsOf ds with
      | some is => if is = [] then none else some (.dat (.int (maxL is)))
      | none => none
    | none => none
  | .max2, [.int i, .int j] => some (.dat (.int (if j > i then j else i)))
  | .min2, [.int i, .int j] => some (.dat (.int (if j < i then j else i)))
  | .isi t, [x] => if plainOf x = true then some (.dat (.bool (isT t x))) else none
  | .isi2 t t', [x] => if plainOf x = true then some (.dat (.bool (isT t x || isT t' x))) else none
  | .x b, as => bxS b κ as
  | _, _ => none

/-! ### subscripts -/
def itemS (κ : Ks) (x y : D) : Option D := match x, y with
  | .tuple ds, .int i => atI ds i
  | .str s, .int i => if s.length ≤ sizeLine then (atI s.cps.toList i).map fun c => .str ⟨#[c]⟩ else none
  | x, .int i => match lsOf κ x with
    | some ds => atI ds i
    | none => none
  | _, _ => none
def cutD {α : Type} (xs : List α) (lo hi : Option Int) : List α := (xs.drop (HT.sIx xs.length 0 lo)).take (HT.sIx xs.length xs.length hi - HT.sIx xs.length 0 lo)
def sliceS (κ : Ks) (x : D) (lo hi : Option Int) : Option Rs := match x with
  | .str z => if z.length ≤ sizeLine then some (.dat (.str (cutS z lo hi))) else none
  | .tuple ds => some (.dat (.tuple (cutD ds lo hi)))
  | x => (lsOf κ x).map fun ds => .new (.lst (cutD ds lo hi))

/-! ### the syntax -/
abbrev FnM := List En → M Rs
mutual
inductive Sm where
  | pop (tg : Tg) (i : Nat) (o : Oex)
  | ext (i : Nat) (x : Ex)
  | ins (i : Nat) (k x : Ex)
  | appP (i j : Nat) (o : Oex)
  | parN (is : List Nat) (ns : List Bool) (es : Exs)
  | set (i : Nat) (x : Ex)
  | setN (i : Nat) (x : Ex)
  | setC (i : Nat) (x : Ex)
  | unp (is : List Nat) (x : Ex)
  | par (i j : Nat) (a b : Ex)
  | aug (i : Nat) (o : Operator) (x : Ex)
  | put (i : Nat) (k x : Ex)
  | app (i : Nat) (x : Ex)
  | ifS (c : Ex) (a b : Sms)
  | forS (tg : Tg) (it : Itx) (b : Sms)
  | whS (c : Ex) (b : Sms)
  | ret (x : Ex)
  | retD (x : Ex)
  | retO (i : Nat)
  | retU
  | expr (x : Ex)
  | raise0 (c : Str)
  | raise1 (c fl : Str) (x : Ex)
  | cont
  | brk
  | pass
  | gap
inductive Sms where
  | nil
  | cons (a : Sm) (es : Sms)
  | frz (i : Nat) (es : Sms)
end
inductive Out where
  | nx (ρ : List En)
  | rt (r : Rs)
  | bk (ρ : List En)
  | ct (ρ : List En)

/-- fns: the defs that are called; gls: the module's data; tr: what _law_tried makes of an exception -/
structure Ev where
  fns : List FnM
  fks : List FnM
  gls : List D
  tr : Exc → Option D
  lamM : Ex → List En → M Rs
  gds : List (List (Str × D))

/-! ### the evaluator -/
def wipeE (ρ : List En) : List Nat → List En
  | [] => ρ
  | v :: vs => (wipeE ρ vs).set v .un
def tgPut (ρ : List En) (tg : Tg) (d : D) : Option (List En) := match tg with
  | .nm i => some (ρ.set i (.dat d))
  | .tup is => match d with
    | .tuple ds => if is.length = ds.length then some ((is.zip ds).foldl (fun ρ q => ρ.set q.1 (.dat q.2)) ρ) else none
    | _ => none
/-- what isn't raised -/
def noX {α : Type} (m : M α) : M α := fun κ => match m κ with
  | .exc _ _ => .stuck
  | r => r
def compL (f : D → M (Option D)) : List D → M (List D)
  | [] => .ret []
  | d :: ds => .bind (f d) fun y => .bind (compL f ds) fun r => .ret (match y with
    | some z => z :: r
    | none => r)
def rdS (ρ : List En) (a : Ex) (m : M Rs) : M D := match a with
  | .v i => .ofO (slotR ρ[i]?)
  | _ => .bind m fun r => .ret r.data
/-- what is walked -/
def rdI (ρ : List En) (a : Ex) (m : M Rs) : M D := match a with
  | .v i => .ofO (match ρ[i]? with
    | some (.dat d) => some d
    | some (.ro d) => some d
    | _ => none)
  | _ => .bind m fun r => .ret r.data
def argS (ρ : List En) (a : Ex) (m : M Rs) : M En := match a with
  | .bv i => .ofO ((slotR ρ[i]?).map .ro)
  | _ => .bind m fun r => .ret (.dat r.data)
def datR (m : M Rs) : M D := .bind m fun r => .ret r.data
def asB : D → Option Bool
  | .bool b => some b
  | _ => none
def rangeD (lo : Int) (n : Nat) : List D := (List.range n).map fun (i : Nat) => .int (lo + i)
def zipD (xs ys : List D) : List D := (xs.zip ys).map fun q => .tuple [q.1, q.2]
def ranS (i j : Int) : Option (List D) := if -(2 ^ 62) ≤ i ∧ i < 2 ^ 62 ∧ -(2 ^ 62) ≤ j ∧ j < 2 ^ 62 then some (rangeD i (j - i).toNat) else none
def sqD : D → Option (List D)
  | .list ds => some ds
  | .tuple ds => some ds
  | _ => none
def chrsD (z : Str) : List D := z.cps.toList.map fun c => .str ⟨#[c]⟩
def sqW : D → Option (List D)
  | .list ds => some ds
  | .tuple ds => some ds
  | .str z => some (chrsD z)
  | _ => none
def parE : List En → List Nat → List Rs → List En
  | ρ, i :: is, .dat d :: rs => parE (ρ.set i (.dat d)) is rs
  | ρ, i :: is, .new x :: rs => parE (ρ.set i (.own x)) is rs
  | ρ, _, _ => ρ
def comp2L (f : D → M (List D)) : List D → M (List D)
  | [] => .ret []
  | d :: ds => .bind (f d) fun y => .bind (comp2L f ds) fun r => .ret (y ++ r)
def getS (kvs : List (Str × D)) (k z : D) : Option Rs := match k with
  | .str q => some (.dat ((kvs.lookup q).getD z))
  | _ => none
def zipS : D → D → Option (List D)
  | .list xs, .list ys => some (zipD xs ys)
  | .tuple xs, .tuple ys => some (zipD xs ys)
  | _, _ => none
def asI : D → Option Int
  | .int i => some i
  | _ => none
/-- what is owned is left out -/
def unOwn : List En → List En
  | [] => []
  | .own _ :: r => .un :: unOwn r
  | e :: r => e :: unOwn r
def lamsD (x : Nat) : List D → Option (List Ex)
  | [] => some []
  | .lam y t :: r => if y = x then (lamsD x r).map (t :: ·) else none
  | _ => none
def lamsIn (x : Nat) : Option En → Option (List Ex)
  | some (.dat (.list ds)) => lamsD x ds
  | _ => none
def triedM (tr : Exc → Option D) (m : M Rs) : M D := fun κ => match m κ with
  | .ok r κ' => .ok (.tuple [.str "told", r.data]) κ'
  | .exc x κ' => (match tr x with
    | some d => .ok d κ'
    | none => .stuck)
  | .stuck => .stuck
def actL (tr : Exc → Option D) (f : Ex → M Rs) : List Ex → M (List D)
  | [] => .ret []
  | t :: ts => .bind (triedM tr (f t)) fun d => .bind (actL tr f ts) fun r => .ret (d :: r)
def noOwn : List En → Bool
  | [] => true
  | .own _ :: _ => false
  | _ :: r => noOwn r
mutual
def evX (E : Ev) (ρ : List En) : Ex → M Rs
  | .v i => match ρ[i]? with
    | some (.dat d) => .ret (.dat d)
    | _ => .fail
  | .bv _ => .fail
  | .i n => .ret (.dat (.int n))
  | .b k => .ret (.dat (.bool k))
  | .s z => .ret (.dat (.str z))
  | .non => .ret (.dat .none)
  | .gl j => .ofO (E.gls[j]?.map .dat)
  | .bin o a b => .bind (rdS ρ a (evX E ρ a)) fun x => .bind (rdS ρ b (evX E ρ b)) fun y => .rd fun κ => opB o κ x y
  | .neg a => .bind (rdS ρ a (evX E ρ a)) fun x => match x with
    | .int i => .ret (.dat (.int (-i)))
    | _ => .fail
  | .not a => .bind (datR (evX E ρ a)) fun x => .ofO ((asB x).map fun b => .dat (.bool (!b)))
  | .cmp o a b => .bind (rdS ρ a (evX E ρ a)) fun x => .bind (rdS ρ b (evX E ρ b)) fun y => .rd fun κ => (cmpD o κ x y).map fun k => .dat (.bool k)
  | .cmp2 o o' a b c => .bind (rdS ρ a (evX E ρ a)) fun x => .bind (rdS ρ b (evX E ρ b)) fun y => match x, y with
    | .int i, .int j => .bind (.ofO (cmpI o i j)) fun k => if k = true then .bind (rdS ρ c (evX E ρ c)) fun z => match z with
        | .int l => .ofO ((cmpI o' j l).map fun k => .dat (.bool k))
        | _ => .fail
      else .ret (.dat (.bool false))
    | _, _ => .fail
  | .bop o es => evO E ρ o es
  | .ite c a b => .bind (datR (evX E ρ c)) fun x => .bind (.ofO (asB x)) fun k => if k = true then evX E ρ a else evX E ρ b
  | .tup es => .bind (evL E ρ es) fun ds => if ds.length ≤ sizeLine then .ret (.dat (.tuple ds)) else .fail
  | .lst es => .bind (evL E ρ es) fun ds => if ds.length ≤ sizeLine then .ret (.new (.lst ds)) else .fail
  | .call j es => .bind (evA E ρ es) fun as => match E.fns[j]? with
    | some f => f as
    | none => .fail
  | .callK j es => .bind (evA E ρ es) fun as => match E.fks[j]? with
    | some f => f as
    | none => .fail
  | .bi b es => .bind (evRs E ρ es) fun ds => .rd fun κ => biS b κ ds
  | .ix a b => .bind (rdS ρ a (evX E ρ a)) fun x => .bind (rdS ρ b (evX E ρ b)) fun y => .rd fun κ => (itemS κ x y).map .dat
  | .sl a lo hi => .bind (rdS ρ a (evX E ρ a)) fun x => .bind (evOx E ρ lo) fun l => .bind (evOx E ρ hi) fun h => .rd fun κ => sliceS κ x l h
  | .comp own elt tg it cs => .bind (evI E ρ it) fun ds => if ds.length ≤ sizeLine then .bind (noX (compL (fun d => match tgPut (wipeE ρ (own.map (·.2))) tg d with
      | some ρ2 => .bind (evC E ρ2 cs) fun k => if k = true then .bind (datR (evX E ρ2 elt)) fun y => .ret (some y) else .ret none
      | none => .fail) ds)) fun ys => .ret (.new (.lst ys)) else .fail
  | .tried e => fun κ => if noOwn ρ = true then (match evX E ρ e κ with
    | .ok r κ' => .ok (.dat (.tuple [.str "told", r.data])) κ'
    | .exc x κ' => match E.tr x with
      | some d => .ok (.dat d) κ'
      | none => .stuck
    | .stuck => .stuck) else .stuck
  | .gap => .fail
  | .lam x t => .ret (.dat (.lam x t))
  | .acts x i y => .bind (.ofO (lamsIn x ρ[i]?)) fun ts => if ts.length ≤ 1000 ∧ y < ρ.length then .bind (actL E.tr (fun t => E.lamM t (unOwn ρ)) ts) fun ds => .ret (.new (.lst ds)) else .fail
  | .getG j k d => match E.gds[j]? with
    | some kvs => .bind (datR (evX E ρ k)) fun x => .bind (datR (evX E ρ d)) fun y => .ofO (getS kvs x y)
    | none => .fail
  | .conv t it => .bind (evI E ρ it) fun ds => if ds.length ≤ 16777216 then .ret (if t = true then .dat (.tuple ds) else .new (.lst ds)) else .fail
  | .compX _ iy elt it => .bind (evI E ρ it) fun ds => if ds.length ≤ sizeLine then .bind (compL (fun d => .bind (datR (evX E ((wipeE ρ [iy]).set iy (.dat d)) elt)) fun y => .ret (some y)) ds) fun ys => .ret (.new (.lst ys)) else .fail
  | .comp2 own vs1 elt tg it tg1 it1 cs => .bind (evI E ρ it) fun ds => .bind (noX (comp2L (fun d => match tgPut (wipeE ρ (own.map (·.2))) tg d with
      | some ρ2 => .bind (evI E ρ2 it1) fun ds1 => compL (fun d1 => match tgPut (wipeE ρ2 vs1) tg1 d1 with
        | some ρ3 => .bind (evC E ρ3 cs) fun k => if k = true then .bind (datR (evX E ρ3 elt)) fun y => .ret (some y) else .ret none
        | none => .fail) ds1
      | none => .fail) ds)) fun ys => if ys.length ≤ sizeLine then .ret (.new (.lst ys)) else .fail
/-- and, or -/
def evO (E : Ev) (ρ : List En) (o : BoolOp) : Exs → M Rs
  | .nil => .fail
  | .cons a .nil => evX E ρ a
  | .cons a es => .bind (datR (evX E ρ a)) fun x => .bind (.ofO (asB x)) fun k => match o, k with
    | .And, true => evO E ρ o es
    | .And, false => .ret (.dat (.bool false))
    | .Or, true => .ret (.dat (.bool true))
    | .Or, false => evO E ρ o es
/-- data -/
def evL (E : Ev) (ρ : List En) : Exs → M (List D)
  | .nil => .ret []
  | .cons a es => .bind (datR (evX E ρ a)) fun d => .bind (evL E ρ es) fun r => .ret (d :: r)
/-- what is read -/
def evRs (E : Ev) (ρ : List En) : Exs → M (List D)
  | .nil => .ret []
  | .cons a es => .bind (rdS ρ a (evX E ρ a)) fun d => .bind (evRs E ρ es) fun r => .ret (d :: r)
/-- arguments -/
def evA (E : Ev) (ρ : List En) : Exs → M (List En)
  | .nil => .ret []
  | .cons a es => .bind (argS ρ a (evX E ρ a)) fun d => .bind (evA E ρ es) fun r => .ret (d :: r)
/-- the ifs of a comprehension -/
def evC (E : Ev) (ρ : List En) : Exs → M Bool
  | .nil => .ret true
  | .cons a .nil => .bind (datR (evX E ρ a)) fun x => .ofO (asB x)
  | .cons _ (.cons _ _) => .fail
def evOx (E : Ev) (ρ : List En) : Oex → M (Option Int)
  | .no => .ret none
  | .so a => .bind (datR (evX E ρ a)) fun x => match x with
    | .int i => .ret (some i)
    | _ => .fail
def evI (E : Ev) (ρ : List En) : Itx → M (List D)
  | .seq a => .bind (rdI ρ a (evX E ρ a)) fun x => .ofO (sqW x)
  | .rev a => .bind (rdI ρ a (evX E ρ a)) fun x => .ofO ((sqD x).map List.reverse)
  | .rng1 a => .bind (datR (evX E ρ a)) fun x => .ofO (match x with
    | .int i => ranS 0 i
    | _ => none)
  | .rng2 a b => .bind (datR (evX E ρ a)) fun x => .bind (datR (evX E ρ b)) fun y => .ofO (match x, y with
    | .int i, .int j => ranS i j
    | _, _ => none)
  | .enum a => .bind (rdI ρ a (evX E ρ a)) fun x => .ofO ((sqD x).map fun ds => zipD (rangeD 0 ds.length) ds)
  | .zip a b => .bind (rdI ρ a (evX E ρ a)) fun x => .bind (rdI ρ b (evX E ρ b)) fun y => .ofO (zipS x y)
end
def forL (step : D → List En → M Out) : List D → List En → M Out
  | [], ρ => .ret (.nx ρ)
  | d :: ds, ρ => .bind (step d ρ) fun o => match o with
    | .nx ρ' => forL step ds ρ'
    | .ct ρ' => forL step ds ρ'
    | .bk ρ' => .ret (.nx ρ')
    | .rt r => .ret (.rt r)
def whL (c : List En → M Bool) (b : List En → M Out) : Nat → List En → M Out
  | 0, _ => .fail
  | n + 1, ρ => .bind (c ρ) fun k => if k = true then .bind (b ρ) fun o => (match o with
      | .nx ρ' => whL c b n ρ'
      | .ct ρ' => whL c b n ρ'
      | .bk ρ' => .ret (.nx ρ')
      | .rt r => .ret (.rt r)) else .ret (.nx ρ)
def whN : Nat := 18446744073709551616
/-- x[k] = y of what the slot i owns -/
def putO (ρ : List En) (i : Nat) (ds : List D) (k y : D) : M Out := match k with
  | .int n => match ixN ds.length n with
    | some j => .ret (.nx (ρ.set i (.own (.lst (ds.set j y)))))
    | none => .fail
  | _ => .fail
/-- .. of a cell -/
def putH (ρ : List En) (h : Nat) (k y : D) : M Out := match k with
  | .int n => fun κ => match κ[h]? with
    | some (.lst ds) => match ixN ds.length n with
      | some j => .ok (.nx ρ) (κ.set h (.lst (ds.set j y)))
      | none => .stuck
    | _ => .stuck
  | _ => .fail
def frzS (ρ : List En) (i : Nat) : List En := match ρ[i]? with
  | some (.own x) => ρ.set i (.dat x.data)
  | _ => ρ
def evN (E : Ev) (ρ : List En) : List Bool → Exs → M (List Rs)
  | [], .nil => .ret []
  | true :: ns, .cons a es => .bind (evX E ρ a) fun r => match r with
    | .new o => .bind (evN E ρ ns es) fun rs => .ret (.new o :: rs)
    | .dat _ => .fail
  | false :: ns, .cons a es => .bind (datR (evX E ρ a)) fun d => .bind (evN E ρ ns es) fun rs => .ret (.dat d :: rs)
  | _, _ => .fail
/-- x.pop(), x.pop(k): what is popped, the slots behind it -/
def popS (ρ : List En) (i : Nat) (ds : List D) : Option Int → Option (D × List En)
  | none => ds.getLast?.map fun d => (d, ρ.set i (.own (.lst ds.dropLast)))
  | some n => if -(2 ^ 63) ≤ n ∧ n < 2 ^ 63 then match ixN ds.length n with
    | some j => ds[j]?.map fun d => (d, ρ.set i (.own (.lst (ds.eraseIdx j))))
    | none => none
    else none
def popT (tg : Tg) : Option (D × List En) → Option Out
  | some (d, ρ2) => (tgPut ρ2 tg d).map .nx
  | none => none
def popA (i : Nat) (es : List D) : Option (D × List En) → Option Out
  | some (d, ρ2) => if es.length < sizeLine then some (.nx (ρ2.set i (.own (.lst (es ++ [d]))))) else none
  | none => none
def insS (ρ : List En) (i : Nat) (ds : List D) (k y : D) : M Out := match k with
  | .int n => if 0 ≤ n ∧ n < 2 ^ 63 ∧ ds.length < sizeLine then .ret (.nx (ρ.set i (.own (.lst (ds.take n.toNat ++ [y] ++ ds.drop n.toNat))))) else .fail
  | _ => .fail
mutual
def evS (E : Ev) (ρ : List En) : Sm → M Out
  | .pop tg i o => match ρ[i]? with
    | some (.own (.lst ds)) => .bind (evOx E ρ o) fun k => .ofO (popT tg (popS ρ i ds k))
    | _ => .fail
  | .ext i x => match ρ[i]? with
    | some (.own (.lst ds)) => .bind (datR (evX E ρ x)) fun y => match y with
      | .list zs => if ds.length + zs.length ≤ sizeLine then .ret (.nx (ρ.set i (.own (.lst (ds ++ zs))))) else .fail
      | _ => .fail
    | _ => .fail
  | .ins i k x => match ρ[i]? with
    | some (.own (.lst ds)) => .bind (datR (evX E ρ k)) fun z => .bind (datR (evX E ρ x)) fun y => insS ρ i ds z y
    | _ => .fail
  | .appP i j o => if i = j then .fail else match ρ[j]?, ρ[i]? with
    | some (.own (.lst ds)), some (.own (.lst es)) => .bind (evOx E ρ o) fun k => .ofO (popA i es (popS ρ j ds k))
    | _, _ => .fail
  | .parN is ns es => .bind (evN E ρ ns es) fun rs => .ret (.nx (parE ρ is rs))
  | .set i x => .bind (datR (evX E ρ x)) fun d => .ret (.nx (ρ.set i (.dat d)))
  | .setN i x => .bind (evX E ρ x) fun r => match r with
    | .new o => .ret (.nx (ρ.set i (.own o)))
    | .dat _ => .fail
  | .setC i x => .bind (evX E ρ x) fun r => match r with
    | .new (.lst ds) => fun κ => .ok (.nx (ρ.set i (.dat (.hd κ.length)))) (κ ++ [.lst ds])
    | _ => .fail
  | .unp is x => .bind (datR (evX E ρ x)) fun d => .ofO ((tgPut ρ (.tup is) d).map .nx)
  | .par i j a b => .bind (datR (evX E ρ a)) fun x => .bind (datR (evX E ρ b)) fun y => .ret (.nx ((ρ.set i (.dat x)).set j (.dat y)))
  | .aug i o x => match ρ[i]? with
    | some (.dat (.int n)) => .bind (datR (evX E ρ x)) fun d => match o, d with
      | .Add, .int k => .ret (.nx (ρ.set i (.dat (.int (n + k)))))
      | .Sub, .int k => .ret (.nx (ρ.set i (.dat (.int (n - k)))))
      | _, _ => .fail
    | _ => .fail
  | .put i k x => match ρ[i]? with
    | some (.own (.lst ds)) => .bind (datR (evX E ρ x)) fun y => .bind (datR (evX E ρ k)) fun z => putO ρ i ds z y
    | some (.dat (.hd h)) => .bind (datR (evX E ρ x)) fun y => .bind (datR (evX E ρ k)) fun z => putH ρ h z y
    | _ => .fail
  | .app i x => match ρ[i]? with
    | some (.own (.lst ds)) => .bind (datR (evX E ρ x)) fun y => if ds.length < sizeLine then .ret (.nx (ρ.set i (.own (.lst (ds ++ [y]))))) else .fail
    | _ => .fail
  | .ifS c a b => .bind (datR (evX E ρ c)) fun x => .bind (.ofO (asB x)) fun k => if k = true then evSs E ρ a else evSs E ρ b
  | .forS tg it b => .bind (evI E ρ it) fun ds => forL (fun d ρ' => match tgPut ρ' tg d with
    | some ρ2 => evSs E ρ2 b
    | none => .fail) ds ρ
  | .whS c b => whL (fun ρ' => .bind (datR (evX E ρ' c)) fun x => .ofO (asB x)) (fun ρ' => evSs E ρ' b) whN ρ
  | .ret x => .bind (evX E ρ x) fun r => .ret (.rt r)
  | .retD x => .bind (datR (evX E ρ x)) fun d => .ret (.rt (.dat d))
  | .retO i => match ρ[i]? with
    | some (.own x) => .ret (.rt (.new x))
    | _ => .fail
  | .retU => .ret (.rt (.dat .none))
  | .expr x => .bind (evX E ρ x) fun _ => .ret (.nx ρ)
  | .raise0 c => .raise (c, [("word", .str c)])
  | .raise1 c fl x => .bind (datR (evX E ρ x)) fun d => .raise (c, [(fl, d), ("word", .str c)])
  | .cont => .ret (.ct ρ)
  | .brk => .ret (.bk ρ)
  | .pass => .ret (.nx ρ)
  | .gap => .fail
def evSs (E : Ev) (ρ : List En) : Sms → M Out
  | .nil => .ret (.nx ρ)
  | .cons a es => .bind (evS E ρ a) fun o => match o with
    | .nx ρ' => evSs E ρ' es
    | o => .ret o
  | .frz i es => evSs E (frzS ρ i) es
end
/-- a def: np parameters, n slots -/
def evF (E : Ev) (np n : Nat) (body : Sms) : FnM := fun as => if as.length = np then .bind (evSs E (as ++ List.replicate (n - np) .un) body) fun o => (match o with
    | .nx _ => .ret (.dat .none)
    | .rt r => .ret r
    | _ => .fail) else .fail
end VL

namespace VL
open PySem PySem.Spec PyProof.Rows L2
theorem tuple_mul0 (l : Addr) (items : Array Value) (n : Nat) (dd : Option Addr) (sl : Array (Option Value)) (x : Int) (u : Tok) (c0 : (decide (x < -(2 ^ 63)) || decide (x ≥ 2 ^ 63)) = false) (c1 : (items.isEmpty || x == 1) = false) (c2 : (decide (x ≤ 0) || items.isEmpty) = true) :
    Meets (Builtin.«tuple.__mul__» ⟨[.ref l, .int x u], []⟩) (fun _ R s => s.heap.get? l = some { cls := .type "tuple", dict := dd, data := .seq items n, slots := sl } ∧
      R (.ok (.ret (Value.ref s.heap.objs.size))) { s with heap := s.heap.push { cls := Value.type "tuple", data := Data.seq #[] }, toks := s.toks }) :=
  .of_wp fun prog w A R s h => by
    obtain ⟨hp, g, d, tk, os⟩ := s
    obtain ⟨hl, h⟩ := h
    have f1 := AutoSeq1.idx_int
    wp_walk using wpAny_loadPart' hl
    repeat (first
      | (refine wpAny_ite_false (decide_eq_false (by rw [c0]; exact Bool.false_ne_true)) ?_; wp_walk using wpAny_loadPart' hl)
      | (refine wpAny_ite_false (decide_eq_false (by rw [c1]; exact Bool.false_ne_true)) ?_; wp_walk using wpAny_loadPart' hl)
      | (refine wpAny_ite_true (decide_eq_true c2) ?_; wp_walk using wpAny_loadPart' hl))
    exact ⟨_, rfl, h⟩
theorem tuple_mul1 (l : Addr) (items : Array Value) (n : Nat) (dd : Option Addr) (sl : Array (Option Value)) (x : Int) (u : Tok) (c0 : (decide (x < -(2 ^ 63)) || decide (x ≥ 2 ^ 63)) = false) (c1 : (items.isEmpty || x == 1) = true) :
    Meets (Builtin.«tuple.__mul__» ⟨[.ref l, .int x u], []⟩) (fun _ R s => s.heap.get? l = some { cls := .type "tuple", dict := dd, data := .seq items n, slots := sl } ∧
      R (.ok (.ret (Value.ref l))) s) :=
  .of_wp fun prog w A R s h => by
    obtain ⟨hp, g, d, tk, os⟩ := s
    obtain ⟨hl, h⟩ := h
    have f1 := AutoSeq1.idx_int
    wp_walk using wpAny_loadPart' hl
    repeat (first
      | (refine wpAny_ite_false (decide_eq_false (by rw [c0]; exact Bool.false_ne_true)) ?_; wp_walk using wpAny_loadPart' hl)
      | (refine wpAny_ite_true (decide_eq_true c1) ?_; wp_walk using wpAny_loadPart' hl))
    exact ⟨_, rfl, h⟩
def rRepA (K : PySem.W.Frag) : R2 := fun x y H Q => ∃ l k xs, x = .ref l ∧ y = .int k ∧ SqT K H l xs ∧ xs ≠ [] ∧ -1000 ≤ k ∧ k ≤ 1000 ∧ xs.length ≤ 1000 ∧ (k = 1 → Q (.ref l) H) ∧ (k ≠ 1 → ∀ p, H p = none → Q (.ref p) (upd H p (.tup (List.replicate k.toNat xs).flatten)))
theorem op_repA {X : Cx} : OpR X (binaryOp .Mult) (rRepA X.K) := by
  intro pins s σ H x y v u Q I rx ry h
  obtain ⟨l, k, xs, rfl, rfl, hT, hne, h0, h2, hz, q1, q⟩ := h
  by_cases hk : 2 ≤ k
  · exact op_repT pins s σ H _ _ v u Q I rx ry ⟨l, k, xs, rfl, rfl, hT, hne, hk, h2, hz, q (by omega)⟩
  cases rx
  obtain ⟨t, rfl⟩ := ry
  obtain ⟨its, r, ⟨⟨cls, dd, data, sl⟩, ho, hc, n, hd⟩, hs⟩ := I.tuple hT
  simp only at hc hd
  subst hc hd
  have hle : its.length = xs.length := r.length.symm
  have hn : its ≠ [] := fun e => hne (by
    rw [e] at hle
    exact List.eq_nil_of_length_eq_zero hle.symm)
  have hi : its.toArray.isEmpty = false := by
    cases its with
    | nil => exact absurd rfl hn
    | cons a b => rfl
  have c0 : (decide (k < -(2 ^ 63)) || decide (k ≥ 2 ^ 63)) = false := by
    rw [decide_eq_false (by omega), decide_eq_false (by omega)] <;> rfl
  by_cases hk1 : k = 1
  · have c1 : (its.toArray.isEmpty || k == 1) = true := by
      rw [hi, Bool.false_or]
      exact beq_iff_eq.mpr hk1
    exact wpAny_binaryOp_repeat_ref (T := "tuple") (U := "int") (by decide) ⟨_, ho, rfl⟩ (fun s' => typeIs_int s' k t) noFill_tuple_mul F.fills_int_mul F.slot_int_rmul repeat_tuple F.slot_int_index.lookup
      (call_meets F.slot_int_rmul (typeIs_int s k t) F.entry_int_rmul (F.args_int_rmul_2 _ _) (int_rmul_tuple k t l its.toArray n dd sl)
        ⟨ho, rfl, ⟨_, ho, rfl⟩, call_meets F.slot_tuple_mul ⟨_, ho, rfl⟩ F.entry_tuple_mul (F.args_tuple_mul_2 _ _) (tuple_mul1 l its.toArray n dd sl k t c0 c1) ⟨ho, .ref l, H, I, rfl, q1 hk1⟩⟩)
  · have c1 : (its.toArray.isEmpty || k == 1) = false := by
      rw [hi, Bool.false_or]
      exact beq_eq_false_iff_ne.mpr hk1
    have c2 : (decide (k ≤ 0) || its.toArray.isEmpty) = true := by
      rw [decide_eq_true (by omega)]
      rfl
    have e : (List.replicate k.toNat xs).flatten = [] := by
      rw [show k.toNat = 0 by omega]
      rfl
    have q' := q hk1
    rw [e] at q'
    refine wpAny_binaryOp_repeat_ref (T := "tuple") (U := "int") (by decide) ⟨_, ho, rfl⟩ (fun s' => typeIs_int s' k t) noFill_tuple_mul F.fills_int_mul F.slot_int_rmul repeat_tuple F.slot_int_index.lookup
      (call_meets F.slot_int_rmul (typeIs_int s k t) F.entry_int_rmul (F.args_int_rmul_2 _ _) (int_rmul_tuple k t l its.toArray n dd sl)
        ⟨ho, rfl, ⟨_, ho, rfl⟩, call_meets F.slot_tuple_mul ⟨_, ho, rfl⟩ F.entry_tuple_mul (F.args_tuple_mul_2 _ _) (tuple_mul0 l its.toArray n dd sl k t c0 c1 c2) ⟨ho, ?_⟩⟩)
    refine ⟨.ref s.heap.objs.size, _, I.laid (t' := s.toks) (o := .tup []) (fun b ob q => Heap.get?_push_of_some _ q) (Nat.le_refl _) ?_, rfl, q' _ (I.hok.fresh (Nat.le_refl _))⟩
    exact ⟨Nat.zero_le _, [], .nil, IsTup.new _ _⟩
section
variable {Γ : Ctx} {Ψ : Exc → Prop} {ρ ρ' : List En} {a b c e : Expr} {lo hi : Option Expr} {pos pp p2 p3 p4 tpos spos npos : Pos} {p : Pst} {rest ss : List Stmt} {d : D} {ds xs ys : List D} {x y : Str} {i j : Nat} {as : List En} {k : Int} {l u : Option Int} {ns ms : List Int}

end
section
variable {m : Pm} {F H : Hp} {w : Wd} {p : Addr} {vs : List V} {ds : List D}
theorem new_tup (s : St0 m F w H) (hp : H p = none) (hr : RepsW m w vs ds) : w.le (w.addG p (.tup vs)) ∧ RsAt m F (w.addG p (.tup vs)) (.ref p) (upd H p (.tup vs)) (.dat (.tuple ds)) := by
  have le := le_addG (o := .tup vs) (s.freshG hp)
  exact ⟨le, s.alloc hp, .tup (SqT.of upd_same) (hr.le le)⟩
theorem new_lst (s : St0 m F w H) (hp : H p = none) (hr : RepsW m w vs ds) : RsAt m F w (.ref p) (upd H p (.lst vs)) (.new (.lst ds)) :=
  ⟨p, .lst vs, rfl, s.freshF hp, s.allocF hp, vs, rfl, hr⟩
end
section
variable {g : Gm} {κ : Ks} {x y : D} {Φ : Rs → Ks → Prop} {r : Rs}
theorem repF {m : Pm} {G : Hp} {A : List Addr} {vs : List V} {xs : List D} (h1 : RepAll m G A vs xs) : ∀ n : Nat, RepAll m G A (List.replicate n vs).flatten (List.replicate n xs).flatten
  | 0 => .nil
  | n + 1 => h1.app (repF h1 n)
theorem rep_nil {m : Pm} {G : Hp} {A : List Addr} {vs : List V} {xs : List D} (h : RepAll m G A vs xs) : vs = [] ↔ xs = [] := by
  cases h with
  | nil => exact ⟨fun _ => rfl, fun _ => rfl⟩
  | cons _ _ => exact ⟨fun z => (nomatch z), fun z => nomatch z⟩
/-! ### + -/
def rAddS : R2 := fun x y H Q => ∃ i j, x = .str i ∧ y = .str j ∧ i.length + j.length ≤ sizeLine ∧ Q (.str (i ++ j)) H
def rAdd (K : PySem.W.Frag) : R2 := fun x y H Q => (((rI0 fun i j => .int (i + j)) x y H Q ∨ rAddS x y H Q) ∨ rCatA K x y H Q) ∨ rCat x y H Q
theorem op_addA {X : Cx} : OpR X (binaryOp .Add) (rAdd X.K) := ((op_add.or op_add_str).or op_catA).or op_cat
theorem rd_add (h : opAdd κ x y = some r) (hΦ : Φ r κ) : RD g (rAdd g.K) κ x y Φ := fun m F H w vx vy Q hK hκ s hx hy q => by
  subst hκ
  unfold opAdd at h
  split at h
  · rename_i i j
    cases h
    rw [hx.int_inv, hy.int_inv]
    exact .inl (.inl (.inl ⟨i, j, rfl, rfl, q _ _ w H hΦ (.refl _) ⟨s, .int _⟩⟩))
  · rename_i a b
    split at h
    · rename_i hl
      cases h
      rw [hx.str_inv, hy.str_inv]
      exact .inl (.inl (.inr ⟨a, b, rfl, rfl, hl, q _ _ w H hΦ (.refl _) ⟨s, .str _⟩⟩))
    · cases h
  · rename_i xs ys
    split at h
    · rename_i hl
      cases h
      obtain ⟨a, us, rfl, h1, h2⟩ := hx.tuple_inv s
      obtain ⟨b, vs, rfl, h3, h4⟩ := hy.tuple_inv s
      have hxx : us = [] ↔ xs = [] := rep_nil h2
      have hyy : vs = [] ↔ ys = [] := rep_nil h4
      refine .inl (.inr ⟨a, b, us, vs, rfl, rfl, by rw [← hK]; exact h1, by rw [← hK]; exact h3, by rw [h2.len, h4.len]; exact hl, fun z => ?_, fun z1 z2 => ?_, fun z1 z2 p hp => ?_⟩)
      · refine q _ _ w H hΦ (.refl _) ⟨s, ?_⟩
        rw [hxx.mp z]
        rcases hy with hy | ⟨_, _, o, _, _, _, hy⟩
        · exact hy
        · cases o <;> cases hy
      · refine q _ _ w H hΦ (.refl _) ⟨s, ?_⟩
        rw [hyy.mp z2, List.append_nil]
        rcases hx with hx | ⟨_, _, o, _, _, _, hx⟩
        · exact hx
        · cases o <;> cases hx
      · obtain ⟨le, at_⟩ := new_tup s hp (h2.app h4)
        exact q _ _ (w.addG p (.tup _)) _ hΦ le at_
    · cases h
  · split at h
    · rename_i xs ys e1 e2
      split at h
      · rename_i hl
        cases h
        obtain ⟨a, us, rfl, h1, h2⟩ := hx.list_inv s e1
        obtain ⟨b, vs, rfl, h3, h4⟩ := hy.list_inv s e2
        exact .inr ⟨a, b, us, vs, rfl, rfl, h1, h3, by rw [h2.len, h4.len]; exact hl, fun p hp => q _ _ w _ hΦ (.refl _) (new_lst s hp (h2.app h4))⟩
      · cases h
    · cases h
/-! ### * -/
def rMul (K : PySem.W.Frag) : R2 := fun x y H Q => ((rI CMul fun i j => .int (i * j)) x y H Q ∨ rRepA K x y H Q) ∨ rRep x y H Q
theorem op_mulA {X : Cx} : OpR X (binaryOp .Mult) (rMul X.K) := (op_mul.or op_repA).or op_rep
theorem rd_mul (h : opMul κ x y = some r) (hΦ : Φ r κ) : RD g (rMul g.K) κ x y Φ := fun m F H w vx vy Q hK hκ s hx hy q => by
  subst hκ
  unfold opMul at h
  split at h
  · rename_i i j
    split at h
    · rename_i hc
      cases h
      rw [hx.int_inv, hy.int_inv]
      have hc' : CMul i j := by
        unfold cMul at hc
        simp only [Bool.or_eq_true, Bool.and_eq_true, decide_eq_true_eq] at hc
        exact hc
      exact .inl (.inl ⟨i, j, rfl, rfl, hc', q _ _ w H hΦ (.refl _) ⟨s, .int _⟩⟩)
    · cases h
  · rename_i xs k
    split at h
    · rename_i hc
      cases h
      obtain ⟨hne, hl, k0, k1⟩ := hc
      obtain ⟨a, us, rfl, h1, h2⟩ := hx.tuple_inv s
      rw [hy.int_inv]
      refine .inl (.inr ⟨a, k, us, rfl, rfl, by rw [← hK]; exact h1, fun z => hne ((rep_nil h2).mp z), k0, k1, by rw [h2.len]; exact hl, fun z => ?_, fun z p hp => ?_⟩)
      · subst z
        refine q _ _ w H hΦ (.refl _) ⟨s, ?_⟩
        show RepW m w _ (.tuple (List.replicate 1 xs).flatten)
        rw [show (List.replicate 1 xs).flatten = xs by simp [List.replicate]]
        rcases hx with hx | ⟨_, _, o, _, _, _, hx⟩
        · exact hx
        · cases o <;> cases hx
      · obtain ⟨le, at_⟩ := new_tup s hp (repF h2 k.toNat)
        exact q _ _ (w.addG p (.tup _)) _ hΦ le at_
    · cases h
  · rename_i k _ _
    split at h
    · rename_i xs e1
      split at h
      · rename_i hc
        cases h
        obtain ⟨a, us, rfl, h1, h2⟩ := hx.list_inv s e1
        rw [hy.int_inv]
        exact .inr ⟨a, k, us, rfl, rfl, h1, hc.1, hc.2.1, by rw [h2.len]; exact hc.2.2, fun p hp => q _ _ w _ hΦ (.refl _) (new_lst s hp (repF h2 k.toNat))⟩
      · cases h
    · cases h
  · cases h
/-! ### the other ones -/
def rB (K : PySem.W.Frag) : Operator → R2
  | .Add => rAdd K
  | .Sub => rI0 fun i j => .int (i - j)
  | .Mult => rMul K
  | .Mod => rI (fun _ j => 0 < j) fun i j => .int (i % j)
  | .FloorDiv => rI CDivW fun i j => .int (i / j)
  | .Pow => rI CPow fun i j => .int (i ^ j.toNat)
  | _ => fun _ _ _ _ => False
theorem op_B {X : Cx} : ∀ o : Operator, OpR X (binaryOp o) (rB X.K o)
  | .Add => op_addA
  | .Sub => op_sub
  | .Mult => op_mulA
  | .Mod => op_mod
  | .FloorDiv => op_fdivW
  | .Pow => op_pow
  | .Div | .MatMult | .LShift | .RShift | .BitOr | .BitXor | .BitAnd => fun _ _ _ _ _ _ _ _ _ _ _ _ h => h.elim
theorem rd_B {o : Operator} (h : opB o κ x y = some r) (hΦ : Φ r κ) : RD g (rB g.K o) κ x y Φ := by
  unfold opB at h
  split at h
  · exact rd_add h hΦ
  · split at h
    · rename_i i j
      cases h
      intro m F H w vx vy Q hK hκ s hx hy q
      subst hκ
      rw [hx.int_inv, hy.int_inv]
      exact ⟨i, j, rfl, rfl, q _ _ w H hΦ (.refl _) ⟨s, .int _⟩⟩
    · cases h
  · exact rd_mul h hΦ
  · split at h
    · rename_i i j
      split at h
      · rename_i hc
        cases h
        intro m F H w vx vy Q hK hκ s hx hy q
        subst hκ
        rw [hx.int_inv, hy.int_inv]
        exact ⟨i, j, rfl, rfl, hc, q _ _ w H hΦ (.refl _) ⟨s, .int _⟩⟩
      · cases h
    · cases h
  · split at h
    · rename_i i j
      split at h
      · rename_i hc
        cases h
        intro m F H w vx vy Q hK hκ s hx hy q
        subst hκ
        rw [hx.int_inv, hy.int_inv]
        unfold cDiv at hc
        simp only [Bool.and_eq_true, decide_eq_true_eq] at hc
        have hb : j.natAbs < 2 ^ 9000 := by
          have h2 : ((j.natAbs : Nat) : Int) < ((2 ^ 9000 : Nat) : Int) := by
            rw [Int.natAbs_of_nonneg (by omega)]
            exact hc.2
          exact Int.ofNat_lt.mp h2
        exact ⟨i, j, rfl, rfl, wide_div hc.1 hb (by decide) (by decide), q _ _ w H hΦ (.refl _) ⟨s, .int _⟩⟩
      · cases h
    · cases h
  · split at h
    · rename_i i j
      split at h
      · rename_i hc
        cases h
        intro m F H w vx vy Q hK hκ s hx hy q
        subst hκ
        rw [hx.int_inv, hy.int_inv]
        exact ⟨i, j, rfl, rfl, hc, q _ _ w H hΦ (.refl _) ⟨s, .int _⟩⟩
      · cases h
    · cases h
  · cases h
end
end VL

namespace VL
open PySem PySem.Spec PyProof.Rows L2
mutual
theorem Rep.dp {m : Pm} {G : Hp} {A : List Addr} : ∀ {d : D} {v : V} {p : PyData}, Rep m G A v d → pyOf d = some p → Dp m.K G v p
  | _, _, _, .non, e => by cases e; exact .non
  | _, _, _, .bl b, e => by cases e; exact .bl b
  | _, _, _, .int i, e => by cases e; exact .int i
  | _, _, _, .str x, e => by cases e; exact .str x
  | _, _, _, .lst (ds := ds) h a, e => by
    unfold pyOf at e
    cases q : pysOf ds with
    | none => rw [q] at e; cases e
    | some ps =>
      rw [q] at e
      cases e
      exact .lst (SqL.of h) (a.dp q)
  | _, _, _, .tup (ds := ds) h a, e => by
    unfold pyOf at e
    cases q : pysOf ds with
    | none => rw [q] at e; cases e
    | some ps =>
      rw [q] at e
      cases e
      exact .tup h (a.dp q)
  | _, _, _, .dct _ _ _ _ _, e => by cases e
  | _, _, _, .obj _ _ _ _ _, e => by cases e
  | _, _, _, .hd _, e => by cases e
  | _, _, _, .fn _, e => by cases e
theorem RepAll.dp {m : Pm} {G : Hp} {A : List Addr} : ∀ {ds : List D} {vs : List V} {ps : List PyData}, RepAll m G A vs ds → pysOf ds = some ps → DpAll m.K G vs ps
  | _, _, _, .nil, e => by cases e; exact .nil
  | _, _, _, .cons (d := d) (ds := ds) h r, e => by
    unfold pysOf at e
    cases q1 : pyOf d with
    | none => rw [q1] at e; cases e
    | some p =>
      cases q2 : pysOf ds with
      | none => rw [q1, q2] at e; cases e
      | some ps =>
        rw [q1, q2] at e
        cases e
        exact .cons (h.dp q1) (r.dp q2)
end
theorem RepR.dp {m : Pm} {F H : Hp} {w : Wd} {v : V} {d : D} {p : PyData} (s : St0 m F w H) (h : RepR m F w v d) (e : pyOf d = some p) : Dp m.K H v p := by
  rcases h with h | ⟨a, o, x, h1, h2, h3, h4⟩
  · exact (h.mono s.ext (List.prefix_refl _)).dp e
  · cases x with
    | lst es =>
      subst h4
      obtain ⟨vs, rfl, h5⟩ := h3
      unfold Ow.data pyOf at e
      cases q : pysOf es with
      | none => rw [q] at e; cases e
      | some ps =>
        rw [q] at e
        cases e
        subst h1
        exact .lst (SqL.of (s.fr _ _ h2).1) ((h5.mono s.ext (List.prefix_refl _)).dp q)
    | dct ks es =>
      subst h4
      cases e
theorem RepR.isnone {m : Pm} {F : Hp} {w : Wd} {v : V} {d : D} (h : RepR m F w v d) : decide (v = .non) = isNoneD d := by
  rcases h with h | ⟨a, o, x, h1, h2, h3, h4⟩
  · cases h <;> simp [isNoneD]
  · subst h1
    subst h4
    cases x <;> simp [isNoneD, Ow.data]
theorem flat_rep {m : Pm} {G : Hp} {A : List Addr} {v u : V} {d : D} (h : Rep m G A v d) (e : flatOf d = some u) : v = u ∧ flatV u = true := by
  cases h <;> cases e <;> exact ⟨rfl, rfl⟩
theorem flats_rep {m : Pm} {G : Hp} {A : List Addr} : ∀ {ds : List D} {vs us : List V}, RepAll m G A vs ds → flats ds = some us → vs = us ∧ us.all flatV = true
  | _, _, _, .nil, e => by cases e; exact ⟨rfl, rfl⟩
  | _, _, _, .cons (d := d) (ds := ds) h r, e => by
    unfold flats at e
    cases q1 : flatOf d with
    | none => rw [q1] at e; cases e
    | some p =>
      cases q2 : flats ds with
      | none => rw [q1, q2] at e; cases e
      | some ps =>
        rw [q1, q2] at e
        cases e
        obtain ⟨rfl, h1⟩ := flat_rep h q1
        obtain ⟨rfl, h2⟩ := flats_rep r q2
        exact ⟨rfl, by rw [List.all_cons, h1, h2]; rfl⟩
theorem RepR.flat {m : Pm} {F : Hp} {w : Wd} {v u : V} {d : D} (h : RepR m F w v d) (e : flatOf d = some u) : v = u ∧ flatV u = true := by
  rcases h with h | ⟨a, o, x, h1, h2, h3, h4⟩
  · exact flat_rep h e
  · subst h4
    cases x <;> cases e
/-- a list or a tuple to be read -/
theorem RepR.sq {m : Pm} {F H : Hp} {w : Wd} {v : V} {d : D} {ds : List D} (s : St0 m F w H) (h : RepR m F w v d) (e : sqOf w.κ d = some ds) : ∃ a xs, v = .ref a ∧ (SqL m.K H a xs ∨ SqT m.K H a xs) ∧ RepsW m w xs ds := by
  unfold sqOf at e
  split at e
  · cases e
    obtain ⟨a, xs, h1, h2, h3⟩ := h.tuple_inv s
    exact ⟨a, xs, h1, .inr h2, h3⟩
  · obtain ⟨a, xs, h1, h2, h3⟩ := h.list_inv s e
    exact ⟨a, xs, h1, .inl (SqL.of h2), h3⟩
section
variable {g : Gm} {κ : Ks} {x y : D} {Φ : Rs → Ks → Prop} {r : Rs}
def rSign (neg : Bool) : R2 := fun x y H Q => ∃ (c : Nat) (z : Str), x = .str ⟨#[c]⟩ ∧ y = .str z ∧ Q (.bl (if neg = true then !decide (c ∈ z.cps.toList) else decide (c ∈ z.cps.toList))) H
def rC (K : PySem.W.Frag) : CmpOp → R2
  | .Eq => rEqD K
  | .NotEq => rNeD K
  | .Lt => rI0 fun i j => .bl (decide (i < j))
  | .LtE => rI0 fun i j => .bl (decide (i ≤ j))
  | .Gt => rI0 fun i j => .bl (decide (j < i))
  | .GtE => rI0 fun i j => .bl (decide (j ≤ i))
  | .Is => fun x y H Q => y = .non ∧ Q (.bl (decide (x = .non))) H
  | .IsNot => fun x y H Q => y = .non ∧ Q (.bl (!decide (x = .non))) H
  | .In => fun x y H Q => rIn K false x y H Q ∨ rSign false x y H Q
  | .NotIn => fun x y H Q => rIn K true x y H Q ∨ rSign true x y H Q
theorem op_C {Γ : Ctx} {X : Cx} (f : Fr Γ X) : ∀ o : CmpOp, OpR X (compareOp o) (rC X.K o)
  | .Eq => op_eqD f.room.units
  | .NotEq => op_neD f.room.units
  | .Lt => op_lt
  | .LtE => op_le
  | .Gt => op_gt
  | .GtE => op_ge
  | .Is => op_isN
  | .IsNot => op_notN
  | .In => op_in_seq.or op_in_sign
  | .NotIn => op_notIn_seq.or op_notIn_sign
theorem eqO_ints (i j : Int) : eqO (.int i) (.int j) = some (decide (i = j)) := by
  show (match (if SeqAt.shaped (.int i) = true then some (PyData.int i) else none), (if SeqAt.shaped (.int j) = true then some (PyData.int j) else none) with | some p, some q => some (PyData.eqv p q) | _, _ => none) = _
  rw [if_pos (show SeqAt.shaped (.int i) = true from rfl), if_pos (show SeqAt.shaped (.int j) = true from rfl)]
  rfl
theorem rd_eq {k : Bool} (h : eqO x y = some k) (hΦ : Φ (.dat (.bool k)) κ) : RD g (rEqD g.K) κ x y Φ := fun m F H w vx vy Q hK hκ s hx hy q => by
  subst hκ
  unfold eqO shpOf at h
  cases e1 : pyOf x with
  | none => rw [e1] at h; cases h
  | some p =>
    cases e2 : pyOf y with
    | none => rw [e1, e2] at h; dsimp only at h; split at h <;> cases h <;> contradiction
    | some p' =>
      rw [e1, e2] at h
      dsimp only at h
      by_cases s1 : SeqAt.shaped p = true
      · by_cases s2 : SeqAt.shaped p' = true
        · rw [if_pos s1, if_pos s2] at h
          cases h
          exact ⟨p, p', by rw [← hK]; exact hx.dp s e1, by rw [← hK]; exact hy.dp s e2, s1, s2, q _ _ w H hΦ (.refl _) ⟨s, .bl _⟩⟩
        · rw [if_pos s1, if_neg s2] at h
          cases h
      · rw [if_neg s1] at h
        cases h
theorem rd_ne {k : Bool} (h : eqO x y = some k) (hΦ : Φ (.dat (.bool (!k))) κ) : RD g (rNeD g.K) κ x y Φ := fun m F H w vx vy Q hK hκ s hx hy q => by
  subst hκ
  unfold eqO shpOf at h
  cases e1 : pyOf x with
  | none => rw [e1] at h; cases h
  | some p =>
    cases e2 : pyOf y with
    | none => rw [e1, e2] at h; dsimp only at h; split at h <;> cases h <;> contradiction
    | some p' =>
      rw [e1, e2] at h
      dsimp only at h
      by_cases s1 : SeqAt.shaped p = true
      · by_cases s2 : SeqAt.shaped p' = true
        · rw [if_pos s1, if_pos s2] at h
          cases h
          exact ⟨p, p', by rw [← hK]; exact hx.dp s e1, by rw [← hK]; exact hy.dp s e2, s1, s2, q _ _ w H hΦ (.refl _) ⟨s, .bl _⟩⟩
        · rw [if_pos s1, if_neg s2] at h
          cases h
      · rw [if_neg s1] at h
        cases h
theorem rd_inQ {k neg : Bool} (h : inQ κ x y = some k) (hΦ : Φ (.dat (.bool (if neg = true then !k else k))) κ) : RD g (rIn g.K neg) κ x y Φ := fun m F H w vx vy Q hK hκ s hx hy q => by
  subst hκ
  unfold inQ at h
  split at h
  · rename_i ds e
    cases q1 : flatOf x with
    | none => rw [q1] at h; cases h
    | some u =>
      cases q2 : flats ds with
      | none => rw [q1, q2] at h; cases h
      | some us =>
        rw [q1, q2] at h
        cases h
        obtain ⟨rfl, f1⟩ := hx.flat q1
        have e' : sqOf w.κ y = some ds := by cases y <;> exact e
        obtain ⟨a, xs, rfl, h1, h2⟩ := hy.sq s e'
        obtain ⟨rfl, f2⟩ := flats_rep h2 q2
        exact ⟨a, xs, rfl, by rw [← hK]; exact h1, f1, f2, q _ _ w H hΦ (.refl _) ⟨s, .bl _⟩⟩
  · cases h
theorem rd_in {k neg : Bool} (h : inO κ x y = some k) (hΦ : Φ (.dat (.bool (if neg = true then !k else k))) κ) : RD g (fun x y H Q => rIn g.K neg x y H Q ∨ rSign neg x y H Q) κ x y Φ := fun m F H w vx vy Q hK hκ s hx hy q => by
  unfold inO at h
  split at h
  · rename_i z
    split at h
    · rename_i a
      unfold chrIn at h
      split at h
      · rename_i c hc
        cases h
        subst hκ
        refine .inr ⟨c, z, ?_, hy.str_inv, q _ _ w H hΦ (.refl _) ⟨s, .bl _⟩⟩
        rw [hx.str_inv]
        obtain ⟨⟨l⟩⟩ := a
        have hc' : l = [c] := hc
        rw [hc']
      · cases h
    · cases h
  · exact .inl (rd_inQ h hΦ m F H w vx vy Q hK hκ s hx hy q)
theorem rd_cmpI {o : CmpOp} {k : Bool} {i j : Int} (ho : o ≠ .Eq ∧ o ≠ .NotEq) (h : cmpI o i j = some k) (hΦ : Φ (.dat (.bool k)) κ) : RD g (rC g.K o) κ (.int i) (.int j) Φ := fun m F H w vx vy Q hK hκ s hx hy q => by
  subst hκ
  rw [hx.int_inv, hy.int_inv]
  cases o <;> cases h
  · exact absurd rfl ho.1
  · exact absurd rfl ho.2
  all_goals exact ⟨i, j, rfl, rfl, q _ _ w H hΦ (.refl _) ⟨s, .bl _⟩⟩
theorem rd_C {o : CmpOp} {k : Bool} (h : cmpD o κ x y = some k) (hΦ : Φ (.dat (.bool k)) κ) : RD g (rC g.K o) κ x y Φ := by
  unfold cmpD at h
  split at h
  · split at h
    · cases h
      exact rd_eq (eqO_ints _ _) hΦ
    · exact rd_eq h hΦ
  · split at h
    · cases h
      exact rd_ne (eqO_ints _ _) hΦ
    · cases e : eqO x y with
      | none => rw [e] at h; cases h
      | some b => rw [e] at h; cases h; exact rd_ne e hΦ
  · split at h
    · cases h
      intro m F H w vx vy Q hK hκ s hx hy q
      subst hκ
      exact ⟨hy.none_inv, by rw [hx.isnone]; exact q _ _ w H hΦ (.refl _) ⟨s, .bl _⟩⟩
    · cases h
  · split at h
    · cases h
      intro m F H w vx vy Q hK hκ s hx hy q
      subst hκ
      exact ⟨hy.none_inv, by rw [hx.isnone]; exact q _ _ w H hΦ (.refl _) ⟨s, .bl _⟩⟩
    · cases h
  · exact rd_in h (by simpa using hΦ)
  · cases e : inO κ x y with
    | none => rw [e] at h; cases h
    | some b => rw [e] at h; cases h; exact rd_in e (by simpa using hΦ)
  · rename_i h1 h2 _ _ _ _
    split at h
    · exact rd_cmpI ⟨h1, h2⟩ h hΦ
    · cases h
/-! ### subscripts -/
theorem rep_at {m : Pm} {G : Hp} {A : List Addr} {vs : List V} {ds : List D} {i : Int} {d : D} (h : RepAll m G A vs ds) (e : atI ds i = some d) : ∃ v, atI vs i = some v ∧ Rep m G A v d := by
  unfold atI at e ⊢
  rw [h.len]
  cases q : ixN ds.length i with
  | none => rw [q] at e; cases e
  | some j =>
    rw [q] at e
    exact h.get e
theorem rd_ix {z : D} (h : itemS κ x y = some z) (hΦ : Φ (.dat z) κ) : RD g (rIx g.K) κ x y Φ := fun m F H w vx vy Q hK hκ s hx hy q => by
  subst hκ
  unfold itemS at h
  split at h
  · rename_i ds i
    rw [hy.int_inv]
    obtain ⟨a, xs, rfl, h1, h2⟩ := hx.tuple_inv s
    obtain ⟨v, h3, h4⟩ := rep_at h2 h
    exact .inr (.inl ⟨a, xs, i, v, rfl, rfl, by rw [← hK]; exact h1, h3, q _ _ w H hΦ (.refl _) ⟨s, h4⟩⟩)
  · rename_i z' i
    split at h
    · rename_i hl
      rw [hx.str_inv, hy.int_inv]
      cases hc : atI z'.cps.toList i with
      | none => rw [hc] at h; cases h
      | some c =>
        rw [hc] at h
        cases h
        exact .inr (.inr ⟨z', i, c, rfl, rfl, hl, hc, q _ _ w H hΦ (.refl _) ⟨s, .str _⟩⟩)
    · cases h
  · rename_i i _ _
    split at h
    · rename_i ds e
      rw [hy.int_inv]
      obtain ⟨a, xs, rfl, h1, h2⟩ := hx.list_inv s e
      obtain ⟨v, h3, h4⟩ := rep_at h2 h
      exact .inl ⟨a, xs, i, v, rfl, rfl, SqL.of h1, h3, q _ _ w H hΦ (.refl _) ⟨s, h4⟩⟩
    · cases h
  · cases h
end
end VL

namespace VL
open PySem PySem.Spec PyProof.Rows L2
/-! ### sorted, max of a tuple -/
section
variable {X : Cx}
def rSortQ (K : PySem.W.Frag) : List V → Hp → VK → Prop := fun vs H Q => ∃ (a : Addr) (ns : List Int), vs = [V.ref a] ∧ (SqL K H a (ns.map V.int) ∨ SqT K H a (ns.map V.int)) ∧
  ∀ (ns' : List Int) (p : Addr), ns'.Perm ns → ns'.Pairwise (· ≤ ·) → H p = none → Q (.ref p) (upd H p (.lst (ns'.map V.int)))
theorem cr_sortQ : CallR X (.builtin "sorted") (rSortQ X.K) := by
  intro pins s σ H vs us Q I r h
  obtain ⟨a, ns, rfl, hs | hs, q⟩ := h
  · exact cr_sortedI pins s σ H [V.ref a] us Q I r ⟨a, ns, rfl, hs, q⟩
  · obtain ⟨its, rv, ⟨o, ho, hc, n, hd⟩, hz⟩ := I.tuple hs
    rw [Vals.ref1 r]
    have hi := rv.ints
    have hlen : its.length ≤ sizeLine := by
      rw [← rv.length]
      exact hz
    refine Calls.call_function_entry kind_sorted plain_sorted entry_sorted (args_sorted1 _) ?_
    unfold Builtin.«sorted»
    refine wpAny_bind (m := checkCount "sorted" 1 1 _) (wpAny_pure ?_)
    refine wpAny_bind (wpAny_collect_seq a (.inr rfl) ho hc hd (fun h' kp => ?_) (by simpa using hlen))
    refine wpAny_bind (wpAny_newList ?_)
    have hoL : (h'.push (seqObj "list" its.toArray 0)).get? h'.objs.size = some (seqObj "list" its.toArray 0) := Heap.get?_push_size _ rfl
    have J : Inv X pins σ H { s with heap := h' } := I.kept (t' := s.toks) kp
    have free : H h'.objs.size = none := J.hok.fresh (Nat.le_refl _)
    refine wpAny_bind (wpAny_holding (wpAny_call_entry slot_list_sort ⟨_, hoL, rfl⟩ entry_list_sort (SrtO.list_sort_ord SrtO.swo_int hoL hlen (fun h2 => SrtO.ints_sortable hi h2) fun out h1 h2 => ⟨.none, rfl, ?_⟩) (args_list_sort _)))
    refine wpAny_pure ⟨_, rfl, ?_⟩
    obtain ⟨k1, k2, k3⟩ := SrtO.ints_out hi h1 h2
    obtain ⟨ep, he'⟩ := sortedHeap_at (vs := its) (out := out.toArray) hoL
    have hlen' : ((out.map SrtO.iv).map V.int).length ≤ sizeLine := by
      rw [List.length_map, k2.length_eq]
      rw [List.length_map] at hz
      exact hz
    refine ⟨.ref h'.objs.size, upd H h'.objs.size (.lst ((out.map SrtO.iv).map V.int)), J.laid (t' := s.toks) (fun b u hu => ?_) (Nat.le_refl _) ⟨hlen', out, ep, vals_of_ints k1, he'⟩, rfl, q _ _ k2 k3 free⟩
    have hlt : b < h'.objs.size := Heap.lt_size hu
    rw [sortedHeap_old (Nat.ne_of_lt hlt) (by rw [Heap.size_push]; exact Nat.lt_succ_of_lt hlt)]
    exact Heap.get?_push_of_some _ hu
def rMaxQ (K : PySem.W.Frag) : List V → Hp → VK → Prop := fun vs H Q => ∃ (a : Addr) (ns : List Int), vs = [V.ref a] ∧ (SqL K H a (ns.map V.int) ∨ SqT K H a (ns.map V.int)) ∧ 0 < ns.length ∧ ∀ m, m ∈ ns → (∀ y, y ∈ ns → y ≤ m) → Q (.int m) H
theorem cr_maxQ (hc : X.calm = true) : CallR X (.builtin "max") (rMaxQ X.K) := by
  intro pins s σ H vs us Q I r h
  obtain ⟨a, ns, rfl, hs | hs, hne, q⟩ := h
  · exact cr_max hc pins s σ H [V.ref a] us Q I r ⟨a, ns, rfl, hs, hne, q⟩
  · obtain ⟨its, rv, ht, hz⟩ := I.tuple hs
    rw [Vals.ref1 r]
    have hi := rv.ints
    obtain ⟨xs, e⟩ := hi.allInts.items
    have hn : numsOf (intItems xs).toList = ns := by rw [← e]; exact hi.numsOf
    rw [nums_intItems] at hn
    subst hn
    rw [e] at ht
    have hsz : 0 < xs.size := by simpa using hne
    have hlt : a < s.heap.objs.size := ht.lt
    refine call_max_walk (wpAny_pyIter_tuple ht ?_)
    have hW := Walks.tuple (prog := X.prog) (w := X.w) (A := X.A.in1) (I.ok.hd hc) s.heap.objs.size a (Nat.ne_of_lt hlt) (intItems xs)
    refine ⟨_, _, _, _, _, _, _, rfl, hW, ⟨⟨_, Heap.get?_push_size _ rfl, rfl, rfl⟩, ht.push _⟩, fun b hb => ?_, by simpa [intItems] using hsz, CmpOf.ints_gt (numAt xs) (fun _ _ => intItems_at), fun v h' tk hP hk => ?_⟩
    · show b < (s.heap.push _).objs.size
      rw [Heap.size_push]
      have hb' : b = s.heap.objs.size ∨ b = a := by simpa using hb
      rcases hb' with rfl | rfl
      · exact Nat.lt_succ_self _
      · exact Nat.lt_succ_of_lt hlt
    · obtain ⟨t, rfl⟩ := intItems_at hP
      obtain ⟨h1, h2⟩ := argBest_gt (numAt xs) (xs.size - 1)
      have hsx : (intItems xs).size = xs.size := by simp [intItems]
      rw [hsx]
      refine ⟨.int _, H, I.kept (t' := tk) (fun b o e => hk b o (fun z => ?_) (Heap.get?_push_of_some _ e)), ⟨_, rfl⟩, q _ ?_ fun y hy => ?_⟩
      · have z' : b = s.heap.objs.size := by simpa using z
        exact absurd (Heap.lt_size e) (by rw [z']; exact Nat.lt_irrefl _)
      · rw [numAt_eq]
        exact PySem.getD_mem (by rw [List.length_map, Array.length_toList]; omega)
      · obtain ⟨j, hj, rfl⟩ := mem_getD hy
        rw [List.length_map, Array.length_toList] at hj
        rw [← numAt_eq]
        exact h2 j (by omega)
end
end VL

namespace VL
open PySem PySem.Spec PyProof.Rows L2
/-! ### sum(lists, []) -/
section
variable {prog : Program} {w : World} {A : Around} {R : Result → Shared → Prop} {s0 : Shared} {I L S : Addr} {refs : List Addr} {parts : List (List Value)}
abbrev LsAt (h : Heap) (a : Addr) (xs : List Value) : Prop := ∃ n, h.get? a = some { cls := .type "list", dict := none, data := .seq xs.toArray n, slots := #[] }
theorem sum_loop_lists (hh : A.in1.handled = none) (hI : s0.heap.objs.size ≤ I) (hS : s0.heap.objs.size ≤ S) (hIS : I ≠ S) (hLI : L ≠ I)
    (hp : ∀ (j : Nat) (a : Addr), refs[j]? = some a → ∃ xs, parts[j]? = some xs ∧ LsAt s0.heap a xs) (hL : s0.heap.IsList L (refs.map Value.ref).toArray) :
    ∀ (k i : Nat) (s : Shared) (T : Addr) (acc : List Value) (c : Nat), refs.length - i = k → i ≤ refs.length → (s0.heap.objs.size ≤ T ∨ i < refs.length) → T ≠ I → T ≠ S → s = { s0 with heap := s.heap, toks := s.toks } →
      (∀ b o, s0.heap.get? b = some o → s.heap.get? b = some o) → s.heap.IsListIter I L i → s.heap.get? S = some { cls := .type "list", dict := none, data := .seq #[.ref T] c, slots := #[] } → LsAt s.heap T acc →
      acc.length + (parts.drop i).flatten.length ≤ sizeLine →
      (∀ (h' : Heap) (tk : Nat) (T' : Addr), (∀ b o, s0.heap.get? b = some o → h'.get? b = some o) → s0.heap.objs.size ≤ T' → LsAt h' T' (acc ++ ((parts.take refs.length).drop i).flatten) → R (.ok (.ret (.ref T'))) { s0 with heap := h', toks := tk }) →
      codeAny (model prog w) A (.builtin "sum.loop" ⟨[.ref I, .ref S, rawInt 2, rawInt 0], []⟩) R s := by
  intro k
  have W := Walks.list (prog := prog) (w := w) (A := A.in1) hh I L hLI (refs.map Value.ref).toArray
  have hn : (refs.map Value.ref).toArray.size = refs.length := by simp
  rw [hn] at W
  have hpl : ∀ j, j < refs.length → ∃ xs, parts[j]? = some xs := fun j hj => by
    obtain ⟨xs, h, _⟩ := hp j refs[j] (List.getElem?_eq_getElem hj)
    exact ⟨xs, h⟩
  induction k with
  | zero =>
    intro i s T acc c hk hi hT hTI hTS hs hkp hit hSt hTa hz hR
    have hin : i = refs.length := by omega
    refine codeAny_builtin F.entry_sum_loop ?_
    rw [Around.under_plainId F.plain_sum_loop _]
    show wpAny _ A.in1 (seqItems? (.ref S) >>= _) _ _ s
    refine wpAny_bind (wpAny_seqItems hSt rfl ?_)
    show wpAny _ A.in1 (tryCatch (pyNext (.ref I)) _ >>= _) _ _ s
    have hLs : s.heap.IsList L (refs.map Value.ref).toArray := hL.at fun o e => hkp _ o e
    refine wpAny_bind (wpAny_tryCatch (W.done s _ _ (by rw [← hin]; exact ⟨hit, hLs⟩) fun h' tk hm => ?_))
    refine wpAny_pure ?_
    have e0 : ((parts.take refs.length).drop i).flatten = [] := by
      rw [List.drop_eq_nil_of_le (by rw [List.length_take]; omega)]
      rfl
    have z := hR h' tk T (fun b o e => hm b o (fun q => ?_) (hkp b o e)) (hT.resolve_right (by omega)) ?_
    · rw [hs] at *
      exact z
    · have hb : b = I := by simpa using q
      have hl := Heap.lt_size e
      rw [hb] at hl
      exact absurd (Nat.lt_of_lt_of_le hl hI) (Nat.lt_irrefl _)
    · obtain ⟨n, e⟩ := hTa
      rw [e0, List.append_nil]
      exact ⟨n, hm T _ (by simpa using hTI) e⟩
  | succ k ih =>
    intro i s T acc c hk hi hT hTI hTS hs hkp hit hSt hTa hz hR
    have hlt : i < refs.length := by omega
    refine codeAny_builtin F.entry_sum_loop ?_
    rw [Around.under_plainId F.plain_sum_loop _]
    show wpAny _ A.in1 (seqItems? (.ref S) >>= _) _ _ s
    refine wpAny_bind (wpAny_seqItems hSt rfl ?_)
    show wpAny _ A.in1 (tryCatch (pyNext (.ref I)) _ >>= _) _ _ s
    have hLs : s.heap.IsList L (refs.map Value.ref).toArray := hL.at fun o e => hkp _ o e
    refine wpAny_bind (wpAny_tryCatch (W.item i s _ _ hlt ⟨hit, hLs⟩ fun v h1 tk1 hP hst' hm => ?_))
    have hv : v = .ref refs[i] := by
      have : ((refs.map Value.ref).toArray)[i]? = some (.ref refs[i]) := by simp [hlt]
      rw [this] at hP
      exact (Option.some.inj hP).symm
    subst hv
    obtain ⟨xs, hxs, n2, hx2⟩ := hp i refs[i] (List.getElem?_eq_getElem hlt)
    obtain ⟨n1, hT1⟩ := hTa
    have nI : ∀ b o, s0.heap.get? b = some o → b ≠ I := fun b o e q => by
      have hl := Heap.lt_size e
      rw [q] at hl
      exact absurd (Nat.lt_of_lt_of_le hl hI) (Nat.lt_irrefl _)
    have nS : ∀ b o, s0.heap.get? b = some o → b ≠ S := fun b o e q => by
      have hl := Heap.lt_size e
      rw [q] at hl
      exact absurd (Nat.lt_of_lt_of_le hl hS) (Nat.lt_irrefl _)
    have k1 : ∀ b o, b ≠ I → s.heap.get? b = some o → h1.get? b = some o := fun b o hb e => hm b o (by simpa using hb) e
    have hT1' := k1 T _ hTI hT1
    have hx2' := k1 _ _ (nI _ _ hx2) (hkp _ _ hx2)
    have hS1 := k1 S _ (Ne.symm hIS) hSt
    have edrop : (parts.drop i).flatten = xs ++ (parts.drop (i + 1)).flatten := by
      obtain ⟨hl, hx⟩ := List.getElem?_eq_some_iff.mp hxs
      rw [List.drop_eq_getElem_cons hl, hx, List.flatten_cons]
    have edrop2 : ((parts.take refs.length).drop i).flatten = xs ++ ((parts.take refs.length).drop (i + 1)).flatten := by
      obtain ⟨hl, hx⟩ := List.getElem?_eq_some_iff.mp hxs
      have hl2 : i < (parts.take refs.length).length := by rw [List.length_take]; omega
      rw [List.drop_eq_getElem_cons hl2, List.getElem_take, hx, List.flatten_cons]
    have hsz : acc.toArray.size + xs.toArray.size ≤ sizeLine := by
      rw [edrop, List.length_append] at hz
      rw [List.size_toArray, List.size_toArray]
      omega
    show wpAny _ A.in1 ((holding [Value.ref refs[i]] (binaryOp .Add (.ref T) (.ref refs[i]))).attempt >>= _) _ _ _
    refine wpAny_bind (wpAny_attempt (wpAny_holding (PySem.P.add_list (n := n1) (n2 := n2) hT1' hx2' ?_ hsz)))
    rw [show acc.toArray ++ xs.toArray = (acc ++ xs).toArray by simp]
    have ltS : S < h1.objs.size := Heap.lt_size hS1
    have ltI : I < h1.objs.size := by
      obtain ⟨o, ho, _⟩ := hst'.1
      exact Heap.lt_size ho
    have lt0 : s0.heap.objs.size ≤ h1.objs.size := Nat.le_trans hI (Nat.le_of_lt ltI)
    generalize hN : h1.objs.size = N at *
    generalize hh2 : h1.push { cls := .type "list", data := .seq (acc ++ xs).toArray } = h2
    have kp2 : ∀ b o, h1.get? b = some o → h2.get? b = some o := fun b o e => by
      rw [← hh2]
      exact Heap.get?_push_of_some _ e
    have hN2 : h2.get? N = some { cls := .type "list", dict := none, data := .seq (acc ++ xs).toArray 0, slots := #[] } := by
      rw [← hh2, ← hN]
      exact Heap.get?_push_size _ rfl
    have hS2 := kp2 S _ hS1
    show wpAny _ A.in1 (updateSeq S (fun _ => #[.ref N]) >>= _) _ _ _
    refine wpAny_bind (wpAny_updateSeq hS2 rfl ?_)
    have hS3 := Heap.get?_update_self (Obj.mapSeq fun _ => #[Value.ref N]) hS2 rfl
    refine wpAny_bind (wpAny_letGo ?_)
    have kp3 : ∀ b o, b ≠ S → h2.get? b = some o → (h2.update S (Obj.mapSeq fun _ => #[Value.ref N])).get? b = some o := fun b o hb e => (Heap.get?_update_other _ _ (fun q : S = b => hb q.symm)).trans e
    generalize h2.update S (Obj.mapSeq fun _ => #[Value.ref N]) = h3 at hS3 kp3 ⊢
    refine wpAny_bind (wpAny_updateSeq hS3 rfl (wpAny_pure ⟨plainId_quiet F.plain_sum_loop _, ?_⟩))
    have hS4 := Heap.get?_update_self (Obj.mapSeq fun _ => #[Value.ref N]) hS3 rfl
    have kp4 : ∀ b o, b ≠ S → h3.get? b = some o → (h3.update S (Obj.mapSeq fun _ => #[Value.ref N])).get? b = some o := fun b o hb e => (Heap.get?_update_other _ _ (fun q : S = b => hb q.symm)).trans e
    generalize h3.update S (Obj.mapSeq fun _ => #[Value.ref N]) = h4 at hS4 kp4 ⊢
    have all : ∀ b o, b ≠ S → h1.get? b = some o → h4.get? b = some o := fun b o hb e => kp4 b o hb (kp3 b o hb (kp2 b o e))
    refine ih (i + 1) _ N (acc ++ xs) _ (by omega) hlt (.inl lt0) (Ne.symm (Nat.ne_of_lt ltI)) (Ne.symm (Nat.ne_of_lt ltS)) ?_ (fun b o e => all b o (nS b o e) (k1 b o (nI b o e) (hkp b o e))) (hst'.1.at fun o e => all I o hIS e) hS4 ⟨0, kp4 N _ (Ne.symm (Nat.ne_of_lt ltS)) (kp3 N _ (Ne.symm (Nat.ne_of_lt ltS)) hN2)⟩ ?_ ?_
    · rw [hs]
    · rw [edrop, List.length_append] at hz
      rw [List.length_append]
      omega
    · intro h' tk T' q1 q2 q3
      refine hR h' tk T' q1 q2 ?_
      rw [edrop2, ← List.append_assoc]
      exact q3
theorem args_sum2 (a b : Value) : argsOk "sum" ⟨[a, b], []⟩ := by unfold argsOk; kernel_rfl
theorem call_sum_lists {E : Value → Shared → Prop} {Q : Value → Shared → Prop} {b : Addr} (hh : A.in1.handled = none) (hne : refs ≠ [])
    (hp : ∀ (j : Nat) (a : Addr), refs[j]? = some a → ∃ xs, parts[j]? = some xs ∧ LsAt s0.heap a xs) (hL : s0.heap.IsList L (refs.map Value.ref).toArray) (hb : LsAt s0.heap b []) (hz : parts.flatten.length ≤ sizeLine)
    (hQ : ∀ (h' : Heap) (tk : Nat) (T' : Addr), (∀ b o, s0.heap.get? b = some o → h'.get? b = some o) → s0.heap.objs.size ≤ T' → LsAt h' T' ((parts.take refs.length).flatten) → Q (.ref T') { s0 with heap := h', toks := tk }) :
    wpAny (model prog w) A (call (.builtin "sum") [.ref L, .ref b]) Q E s0 := by
  refine call_function_tree F.kind_sum F.plain_sum F.entry_sum (args_sum2 _ _) ?_
  unfold Builtin.«sum»
  simp only [List.length_cons, List.length_nil]
  rw [if_neg (by decide)]
  refine wpAny_bind (wpAny_of_eq (show Builtin.Builtins.bindParams "sum" ["start"] 0 { pos := [.ref b] } = pure [some (.ref b)] from rfl) ?_)
  refine wpAny_bind (wpAny_pyIter_list hL ?_)
  refine wpAny_bind (wpAny_pure ?_)
  obtain ⟨n, hb⟩ := hb
  have ltL : L < s0.heap.objs.size := by
    obtain ⟨o, ho, _⟩ := hL
    exact Heap.lt_size ho
  have ltb := Heap.lt_size hb
  generalize hh1 : s0.heap.push { cls := .type "list_iterator", data := .fields #[.ref L, .int 0 0] } = h1
  have kp1 : ∀ b o, s0.heap.get? b = some o → h1.get? b = some o := fun b o e => by
    rw [← hh1]
    exact Heap.get?_push_of_some _ e
  have sz1 : h1.objs.size = s0.heap.objs.size + 1 := by rw [← hh1, Heap.size_push]
  have hit : h1.IsListIter s0.heap.objs.size L 0 := ⟨_, by rw [← hh1]; exact Heap.get?_push_size _ rfl, rfl, rfl⟩
  have hb1 := kp1 _ _ hb
  have ht : ∀ T : String, isSubtype (.type "list") (.type T) = pure false → ∀ {Q : Bool → Shared → Prop}, Q false { s0 with heap := h1 } → wpAny (model prog w) A.in1 (isInstance (.ref b) (.type T)) Q E { s0 with heap := h1 } := fun T hT Q hq => wpAny_isInstance (T := "list") (b := false) ⟨_, hb1, rfl⟩ hT hq
  simp only [List.forIn_cons, List.forIn_nil]
  refine wpAny_bind (wpAny_bind (wpAny_bind (ht "str" (by rw [isSubtype_type]; kernel_rfl) ?_)))
  simp only [Bool.false_eq_true, if_false]
  refine wpAny_pure (wpAny_bind (wpAny_bind (ht "bytes" (by rw [isSubtype_type]; kernel_rfl) ?_)))
  simp only [Bool.false_eq_true, if_false]
  refine wpAny_pure (wpAny_bind (wpAny_bind (ht "bytearray" (by rw [isSubtype_type]; kernel_rfl) ?_)))
  simp only [Bool.false_eq_true, if_false]
  refine wpAny_pure (wpAny_pure ?_)
  refine wpAny_bind (wpAny_newObj_type ?_)
  generalize hh2 : h1.push _ = h2
  have kp2 : ∀ b o, h1.get? b = some o → h2.get? b = some o := fun b o e => by
    rw [← hh2]
    exact Heap.get?_push_of_some _ e
  have hS2 : h2.get? h1.objs.size = some { cls := .type "list", dict := none, data := .seq #[.ref b] 0, slots := #[] } := by
    rw [← hh2]
    exact Heap.get?_push_size _ rfl
  have h0 : 0 < refs.length := List.length_pos_iff.mpr hne
  refine wpAny_pure ⟨plainId_quiet F.plain_sum_loop _, sum_loop_lists (s0 := s0) (parts := parts) hh (Nat.le_refl _) (by rw [sz1]; exact Nat.le_succ _) (by rw [sz1]; exact Nat.ne_of_lt (Nat.lt_succ_self _)) (Nat.ne_of_lt ltL) hp hL refs.length 0 _ b [] _ (Nat.sub_zero _) (Nat.zero_le _) (.inr h0) (Nat.ne_of_lt ltb) (by rw [sz1]; exact Nat.ne_of_lt (Nat.lt_succ_of_lt ltb)) rfl (fun b o e => kp2 b o (kp1 b o e)) (hit.at fun o e => kp2 _ o e) hS2 ⟨n, kp2 _ _ hb1⟩ (by simpa using hz) ?_⟩
  intro h' tk T' q1 q2 q3
  exact hQ h' tk T' q1 q2 (by simpa using q3)
end
section
variable {X : Cx}
/-- sum(lists, []), some lists -/
def rSumL (K : PySem.W.Frag) : List V → Hp → VK → Prop := fun vs H Q => ∃ (l b : Addr) (refs : List Addr) (parts : List (List V)), vs = [.ref l, .ref b] ∧ H l = some (.lst (refs.map V.ref)) ∧ H b = some (.lst []) ∧ refs ≠ [] ∧ refs.length = parts.length ∧
  (∀ (j : Nat) (a : Addr), refs[j]? = some a → ∃ xs, parts[j]? = some xs ∧ H a = some (.lst xs)) ∧ parts.flatten.length ≤ sizeLine ∧ ∀ p, H p = none → Q (.ref p) (upd H p (.lst parts.flatten))
theorem vals_refs : ∀ {refs : List Addr} {us : List Value}, Vals (refs.map V.ref) us → us = refs.map Value.ref
  | [], _, .nil => rfl
  | a :: r, _, .cons h t => by
    cases h
    rw [vals_refs t]
    rfl
theorem parts_vals {pins : List (Addr × Obj)} {s : Shared} {σ : L2.St} {H : Hp} (I : Inv X pins σ H s) : ∀ {refs : List Addr} {parts : List (List V)}, refs.length = parts.length → (∀ (j : Nat) (a : Addr), refs[j]? = some a → ∃ xs, parts[j]? = some xs ∧ H a = some (.lst xs)) →
    ∃ ps : List (List Value), ps.length = parts.length ∧ Vals parts.flatten ps.flatten ∧ ∀ (j : Nat) (a : Addr), refs[j]? = some a → ∃ xs, ps[j]? = some xs ∧ LsAt s.heap a xs
  | [], [], _, _ => ⟨[], rfl, .nil, fun j a h => by simp at h⟩
  | [], _ :: _, h, _ => by cases h
  | _ :: _, [], h, _ => by cases h
  | a :: refs, p :: parts, hl, h => by
    obtain ⟨ps, h1, h2, h3⟩ := parts_vals I (refs := refs) (parts := parts) (by simpa using hl) fun j b hb => by
      obtain ⟨xs, e1, e2⟩ := h (j + 1) b (by simpa using hb)
      exact ⟨xs, by simpa using e1, e2⟩
    obtain ⟨xs, e1, e2⟩ := h 0 a rfl
    have : p = xs := by simpa using e1
    subst this
    obtain ⟨z, its, n, r, hl', e⟩ := I.lstM e2
    refine ⟨its :: ps, by simp [h1], r.append h2, fun j b hb => ?_⟩
    cases j with
    | zero =>
      have : a = b := by simpa using hb
      subst this
      exact ⟨its, rfl, n, e⟩
    | succ j => exact h3 j b (by simpa using hb)
theorem cr_sumL (hc : X.calm = true) : CallR X (.builtin "sum") (rSumL X.K) := by
  intro pins s σ H vs us Q I r h
  obtain ⟨l, b, refs, parts, rfl, hl, hb, hne, hlen, hp, hz, q⟩ := h
  obtain ⟨ps, h1, h2, h3⟩ := parts_vals I hlen hp
  obtain ⟨_, its, n, r1, _, e1⟩ := I.lstM hl
  obtain ⟨_, its2, n2, r2, hl2, e2⟩ := I.lstM hb
  have : its = refs.map Value.ref := vals_refs r1
  subst this
  have : its2 = [] := List.length_eq_zero_iff.mp hl2.symm
  subst this
  have hus : us = [.ref l, .ref b] := by
    cases r with
    | cons a r =>
      cases r with
      | cons c r =>
        cases r
        cases a
        cases c
        rfl
  subst hus
  have hzl : ps.flatten.length = parts.flatten.length := h2.length.symm
  have htk : ps.take refs.length = ps := List.take_of_length_le (by omega)
  refine call_sum_lists (parts := ps) (I.ok.hd hc) hne h3 ⟨_, e1, rfl, n, rfl⟩ ⟨n2, e2⟩ (by omega) fun h' tk T' k1 k2 k3 => ?_
  rw [htk] at k3
  obtain ⟨nn, k3⟩ := k3
  exact ⟨.ref T', upd H T' (.lst parts.flatten), I.laid (t' := tk) k1 k2 ⟨hz, ps.flatten, nn, h2, k3⟩, rfl, q T' (I.hok.fresh k2)⟩
end
end VL

namespace VL
open PySem PySem.Spec PyProof.Rows L2
/-! ### more built-ins -/
def rBx (K : PySem.W.Frag) : Bx → List V → Hp → VK → Prop
  | .sort => rSortQ K
  | .maxq => rMaxQ K
  | .intb => fun xs H Q => (∃ i, xs = [.int i] ∧ Q (.int i) H) ∨ ∃ k, xs = [.bl k] ∧ Q (.int (if k then 1 else 0)) H
  | .sumL => rSumL K
def bxNm : Bx → Option (Str × Value)
  | .sort => some ("sorted", .builtin "sorted")
  | .maxq => some ("max", .builtin "max")
  | .intb => some ("int", .type "int")
  | .sumL => some ("sum", .builtin "sum")
theorem call_bx {X : Cx} (hc : X.calm = true) : ∀ {b : Bx} {x : Str} {f : Value}, bxNm b = some (x, f) → CallR X f (rBx X.K b)
  | .sort, _, _, e => by cases e; exact cr_sortQ
  | .maxq, _, _, e => by cases e; exact cr_maxQ hc
  | .intb, _, _, e => by cases e; exact call_int1
  | .sumL, _, _, e => by cases e; exact cr_sumL hc
theorem bx_boot : ∀ {b : Bx} {x : Str} {f : Value}, bxNm b = some (x, f) → bootBuiltins x = some f ∧ x ≠ "__name__" ∧ (x == ("__debug__" : Str)) = false ∧ ((∃ id, f = .builtin id) ∨ ∃ T, f = .type T)
  | .sort, _, _, e => by cases e; exact ⟨by decide +kernel, by decide +kernel, by decide +kernel, .inl ⟨_, rfl⟩⟩
  | .maxq, _, _, e => by cases e; exact ⟨by decide +kernel, by decide +kernel, by decide +kernel, .inl ⟨_, rfl⟩⟩
  | .intb, _, _, e => by cases e; exact ⟨by decide +kernel, by decide +kernel, by decide +kernel, .inr ⟨_, rfl⟩⟩
  | .sumL, _, _, e => by cases e; exact ⟨by decide +kernel, by decide +kernel, by decide +kernel, .inl ⟨_, rfl⟩⟩
theorem insI_perm (a : Int) : ∀ l : List Int, (insI a l).Perm (a :: l)
  | [] => .refl _
  | b :: r => by
    unfold insI
    split
    · exact .refl _
    · exact ((insI_perm a r).cons b).trans (.swap a b r)
theorem sortI_perm : ∀ l : List Int, (sortI l).Perm l
  | [] => .refl _
  | a :: r => (insI_perm a (sortI r)).trans ((sortI_perm r).cons a)
theorem insI_sorted (a : Int) : ∀ {l : List Int}, l.Pairwise (· ≤ ·) → (insI a l).Pairwise (· ≤ ·)
  | [], _ => List.pairwise_singleton ..
  | b :: r, h => by
    unfold insI
    obtain ⟨h1, h2⟩ := List.pairwise_cons.mp h
    split
    · rename_i hab
      exact List.pairwise_cons.mpr ⟨fun y hy => by
        rcases List.mem_cons.mp hy with rfl | hy
        · exact hab
        · exact Int.le_trans hab (h1 y hy), h⟩
    · rename_i hab
      refine List.pairwise_cons.mpr ⟨fun y hy => ?_, insI_sorted a h2⟩
      rcases List.mem_cons.mp ((insI_perm a r).mem_iff.mp hy) with rfl | hy
      · omega
      · exact h1 y hy
theorem sortI_sorted : ∀ l : List Int, (sortI l).Pairwise (· ≤ ·)
  | [] => .nil
  | a :: r => insI_sorted a (sortI_sorted r)
theorem sorted_uniq : ∀ {l r : List Int}, l.Perm r → l.Pairwise (· ≤ ·) → r.Pairwise (· ≤ ·) → l = r
  | [], r, h, _, _ => by rw [List.nil_perm.mp h]
  | a :: l, [], h, _, _ => by cases List.perm_nil.mp h
  | a :: l, b :: r, h, h1, h2 => by
    obtain ⟨p1, q1⟩ := List.pairwise_cons.mp h1
    obtain ⟨p2, q2⟩ := List.pairwise_cons.mp h2
    have e : a = b := by
      have m1 : a ∈ b :: r := h.mem_iff.mp (List.mem_cons_self ..)
      have m2 : b ∈ a :: l := h.mem_iff.mpr (List.mem_cons_self ..)
      rcases List.mem_cons.mp m1 with e | m1
      · exact e
      · rcases List.mem_cons.mp m2 with e | m2
        · exact e.symm
        · exact Int.le_antisymm (p1 b m2) (p2 a m1)
    subst e
    rw [sorted_uniq (List.Perm.cons_inv h) q1 q2]
end VL

namespace VL
open PySem PySem.Spec PyProof.Rows L2

def isStar : Expr → Bool
  | .Starred _ _ => true
  | _ => false
theorem star_cons {a : Expr} {es : List Expr} (h : isStar a = false) (env : Env) : starEach (a :: es) env = (false, eval a env) :: starEach es env := by
  cases a <;> first | rfl | cases h
theorem star_any : ∀ {es : List Expr} (h : es.all (fun a => !isStar a) = true) (env : Env) (pos : Pos), (backTo pos (starEach es env)).any (·.1) = false
  | [], _, _, _ => rfl
  | a :: es, h, env, pos => by
    rw [List.all_cons, Bool.and_eq_true] at h
    rw [star_cons (by simpa using h.1) env]
    have := star_any h.2 env pos
    unfold backTo at this ⊢
    rw [List.map_cons, List.any_cons, this]
    rfl
section
variable {Γ : Ctx} {Ψ : Exc → Ks → Prop} {ρ : List En} {κ : Ks} {a b c e : Expr} {es rest : List Expr} {pos pp : Pos}
/-! ### tests -/
theorem EVT.imp {Φ Φ1 : Bool → Ks → Prop} (h : EVT Γ Ψ ρ κ e Φ) (i : ∀ d κ', Φ d κ' → Φ1 d κ') : EVT Γ Ψ ρ κ e Φ1 := ⟨fun s k Q q => h.run s k Q fun d w2 H2 p => q d w2 H2 (i d _ p)⟩
/-- Compare, BoolOp, not, if .. else have tests of their own -/
def ownTest : Expr → Bool
  | .Compare _ _ _ _ => true
  | .BoolOp _ _ _ => true
  | .UnaryOp .Not _ _ => true
  | .IfExp _ _ _ _ => true
  | _ => false
theorem isTrue_val {a : Expr} (h : ownTest a = false) (env : Env) (whole : Sem Value) : isTrue a env whole = (do let v ← whole; standAt a.pos; holding [v] (truthy v)) := by
  cases a with
  | UnaryOp op x p => cases op <;> first | rfl | cases h
  | Compare => cases h
  | BoolOp => cases h
  | IfExp => cases h
  | _ => rfl
theorem evt_val {Φ : Bool → Ks → Prop} (ha : EVD Γ Ψ ρ κ a (fun d κ' => ∃ k, d = .bool k ∧ Φ k κ')) (he : ownTest a = false) : EVT Γ Ψ ρ κ a Φ := ⟨fun {X m F0 w0 F ow σ w H} s k Q q => ⟨_, pt_val pe_w (isTrue_val he _), ha.run s k _ fun x vx w1 H1 p1 e1 s1 d1 => by
  obtain ⟨b, rfl, hb⟩ := p1
  rw [d1.bool_inv]
  exact ⟨b, rfl, q b w1 H1 hb e1 s1⟩⟩⟩
theorem evt_not {Φ : Bool → Ks → Prop} (ha : EVT Γ Ψ ρ κ a (fun k κ' => Φ (!k) κ')) : EVT Γ Ψ ρ κ (.UnaryOp .Not a pos) Φ := ⟨fun {X m F0 w0 F ow σ w H} s k Q q => ⟨_, pt_not pt_w, ha.run s k _ fun b w1 H1 p1 e1 s1 => q _ w1 H1 p1 e1 s1⟩⟩
/-- a test whatever its whole is -/
structure EVW (Γ : Ctx) (Ψ : Exc → Ks → Prop) (ρ : List En) (κ : Ks) (e : Expr) (Φ : Bool → Ks → Prop) : Prop where
  run : ∀ {X : Cx} {m : Pm} {F0 : Hp} {w0 : Wd} {F : Hp} {ow : Nat → Addr} {σ : L2.St} {w : Wd} {H : Hp}, Stt Γ X Ψ ρ m F0 w0 F ow σ w H → w.κ = κ →
    ∀ Q : Bool → Hp → Prop, (∀ b w2 H2, Φ b w2.κ → w.le w2 → St0 m F w2 H2 → Q b H2) → ∃ t, PW X e t ∧ t σ H Q
def wW (X : Cx) (e : Expr) : TT := fun σ H Q => ∃ t, PW X e t ∧ t σ H Q
theorem pw_w {X : Cx} : PW X e (wW X e) := ⟨fun w pins s σ H Q I h => by
  obtain ⟨t, h, q⟩ := h
  exact h.run w pins s σ H Q I q⟩
theorem EVW.evt {Φ : Bool → Ks → Prop} (h : EVW Γ Ψ ρ κ e Φ) : EVT Γ Ψ ρ κ e Φ := ⟨fun s k Q q => by
  obtain ⟨t, h1, h2⟩ := h.run s k Q q
  exact ⟨t, h1.pt, h2⟩⟩
theorem evw_one {Φ : Bool → Ks → Prop} {o : BoolOp} (ha : EVT Γ Ψ ρ κ a Φ) : EVW Γ Ψ ρ κ (.BoolOp o [a] pos) Φ := ⟨fun s k Q q => by
  cases o with
  | And => exact ⟨_, pw_and1 pt_w, ha.run s k Q q⟩
  | Or => exact ⟨_, pw_or1 pt_w, ha.run s k Q q⟩⟩
theorem evw_and {Φ : Bool → Ks → Prop} (ha : EVT Γ Ψ ρ κ a (fun k κ' => match k with
    | true => EVW Γ Ψ ρ κ' (.BoolOp .And (b :: rest) pos) Φ
    | false => Φ false κ')) : EVW Γ Ψ ρ κ (.BoolOp .And (a :: b :: rest) pos) Φ := ⟨fun {X m F0 w0 F ow σ w H} s k Q q => ⟨_, pw_and pt_w pw_w, ha.run s k _ fun x w1 H1 p1 e1 s1 => by
  cases x with
  | false => exact iteF (q _ w1 H1 p1 e1 s1)
  | true => exact iteT (p1.run (s.next e1 s1) rfl Q fun y w2 H2 p2 e2 s2 => q _ w2 H2 p2 (e1.trans e2) s2)⟩⟩
theorem evw_or {Φ : Bool → Ks → Prop} (ha : EVT Γ Ψ ρ κ a (fun k κ' => match k with
    | false => EVW Γ Ψ ρ κ' (.BoolOp .Or (b :: rest) pos) Φ
    | true => Φ true κ')) : EVW Γ Ψ ρ κ (.BoolOp .Or (a :: b :: rest) pos) Φ := ⟨fun {X m F0 w0 F ow σ w H} s k Q q => ⟨_, pw_or pt_w pw_w, ha.run s k _ fun x w1 H1 p1 e1 s1 => by
  cases x with
  | true => exact iteT (q _ w1 H1 p1 e1 s1)
  | false => exact iteF (p1.run (s.next e1 s1) rfl Q fun y w2 H2 p2 e2 s2 => q _ w2 H2 p2 (e1.trans e2) s2)⟩⟩
/-! ### and, or, not, if as values -/
theorem ev_one {Φ : Rs → Ks → Prop} {o : BoolOp} (ha : EV Γ Ψ ρ κ a Φ) : EV Γ Ψ ρ κ (.BoolOp o [a] pos) Φ := ⟨fun s k Q q => ⟨_, pe_one pe_w, ha.run s k Q q⟩⟩
theorem ev_and {Φ : Rs → Ks → Prop} (ha : EVD Γ Ψ ρ κ a (fun d κ' => ∃ k, d = .bool k ∧ match k with
    | true => EV Γ Ψ ρ κ' (.BoolOp .And (b :: rest) pos) Φ
    | false => Φ (.dat (.bool false)) κ')) : EV Γ Ψ ρ κ (.BoolOp .And (a :: b :: rest) pos) Φ := ⟨fun {X m F0 w0 F ow σ w H} s k Q q => ⟨_, pe_and pe_w pe_w, ha.run s k _ fun x vx w1 H1 p1 e1 s1 d1 => by
  obtain ⟨k, rfl, hk⟩ := p1
  rw [d1.bool_inv]
  refine ⟨k, rfl, ?_⟩
  cases k with
  | false => exact iteF (q _ _ w1 H1 hk e1 ⟨s1, .bl _⟩)
  | true => exact iteT (hk.run (s.next e1 s1) rfl Q fun y v w2 H2 p2 e2 s2 => q y v w2 H2 p2 (e1.trans e2) s2)⟩⟩
theorem ev_or {Φ : Rs → Ks → Prop} (ha : EVD Γ Ψ ρ κ a (fun d κ' => ∃ k, d = .bool k ∧ match k with
    | false => EV Γ Ψ ρ κ' (.BoolOp .Or (b :: rest) pos) Φ
    | true => Φ (.dat (.bool true)) κ')) : EV Γ Ψ ρ κ (.BoolOp .Or (a :: b :: rest) pos) Φ := ⟨fun {X m F0 w0 F ow σ w H} s k Q q => ⟨_, pe_or pe_w pe_w, ha.run s k _ fun x vx w1 H1 p1 e1 s1 d1 => by
  obtain ⟨k, rfl, hk⟩ := p1
  rw [d1.bool_inv]
  refine ⟨k, rfl, ?_⟩
  cases k with
  | true => exact iteT (q _ _ w1 H1 hk e1 ⟨s1, .bl _⟩)
  | false => exact iteF (hk.run (s.next e1 s1) rfl Q fun y v w2 H2 p2 e2 s2 => q y v w2 H2 p2 (e1.trans e2) s2)⟩⟩
theorem ev_not {Φ : Rs → Ks → Prop} (ha : EVD Γ Ψ ρ κ a (fun d κ' => ∃ k, d = .bool k ∧ Φ (.dat (.bool (!k))) κ')) : EV Γ Ψ ρ κ (.UnaryOp .Not a pos) Φ := ⟨fun {X m F0 w0 F ow σ w H} s k Q q => ⟨_, pe_not pe_w, ha.run s k _ fun x vx w1 H1 p1 e1 s1 d1 => by
  obtain ⟨k, rfl, hk⟩ := p1
  rw [d1.bool_inv]
  exact ⟨k, rfl, q _ _ w1 H1 hk e1 ⟨s1, .bl _⟩⟩⟩⟩
theorem ev_neg {Φ : Rs → Ks → Prop} (ha : EVR Γ Ψ ρ κ a (fun d κ' => ∃ i, d = .int i ∧ Φ (.dat (.int (-i))) κ')) : EV Γ Ψ ρ κ (.UnaryOp .USub a pos) Φ := ⟨fun {X m F0 w0 F ow σ w H} s k Q q => ⟨_, pe_un un_neg pe_w, ha.run s k _ fun x vx w1 H1 p1 e1 s1 d1 => by
  obtain ⟨i, rfl, hk⟩ := p1
  rw [d1.int_inv]
  exact ⟨i, rfl, q _ _ w1 H1 hk e1 ⟨s1, .int _⟩⟩⟩⟩
theorem ev_if {Φ : Rs → Ks → Prop} (hc : EVT Γ Ψ ρ κ c (fun k κ' => if k = true then EV Γ Ψ ρ κ' a Φ else EV Γ Ψ ρ κ' b Φ)) : EV Γ Ψ ρ κ (.IfExp c a b pos) Φ := ⟨fun {X m F0 w0 F ow σ w H} s k Q q => ⟨_, pe_ifExp pt_w pe_w pe_w, hc.run s k _ fun x w1 H1 p1 e1 s1 => by
  cases x with
  | true => exact iteT ((show EV Γ Ψ ρ w1.κ a Φ from p1).run (s.next e1 s1) rfl Q fun y v w2 H2 p2 e2 s2 => q y v w2 H2 p2 (e1.trans e2) s2)
  | false => exact iteF ((show EV Γ Ψ ρ w1.κ b Φ from p1).run (s.next e1 s1) rfl Q fun y v w2 H2 p2 e2 s2 => q y v w2 H2 p2 (e1.trans e2) s2)⟩⟩
/-! ### chains of two comparisons of ints -/
theorem opI {X : Cx} {o : CmpOp} {f : Int → Int → Bool} (h : ∀ i j, cmpI o i j = some (f i j)) (ho : o ≠ .Eq ∧ o ≠ .NotEq) : OpR X (compareOp o) (rI0 fun i j => .bl (f i j)) := by
  have e : ∀ i j, (cmpI o i j).getD false = f i j := fun i j => by rw [h]; rfl
  have : f = fun i j => (cmpI o i j).getD false := by funext i j; rw [e]
  subst this
  cases o with
  | Eq => exact absurd rfl ho.1
  | NotEq => exact absurd rfl ho.2
  | Lt => exact op_lt
  | LtE => exact op_le
  | Gt => exact op_gt
  | GtE => exact op_ge
  | _ => exact absurd (h 0 0) (by intro z; cases z)
theorem cmpI_tot {o : CmpOp} {i j : Int} {k : Bool} (h : cmpI o i j = some k) : ∃ f : Int → Int → Bool, (∀ i j, cmpI o i j = some (f i j)) := by
  cases o <;> first | exact ⟨_, fun _ _ => rfl⟩ | cases h
def Ord (o : CmpOp) : Bool := match o with
  | .Lt | .LtE | .Gt | .GtE => true
  | _ => false
theorem ordNe {o : CmpOp} (h : Ord o = true) : o ≠ .Eq ∧ o ≠ .NotEq := ⟨fun z => (by subst z; cases h), fun z => (by subst z; cases h)⟩
theorem ordF {o : CmpOp} (h : Ord o = true) : ∃ f : Int → Int → Bool, ∀ i j, cmpI o i j = some (f i j) := by cases o <;> first | exact ⟨_, fun _ _ => rfl⟩ | cases h
/-- how a chain goes on -/
def ChainK (Γ : Ctx) (Ψ : Exc → Ks → Prop) (ρ : List En) (o o' : CmpOp) (c : Expr) (Φ : Bool → Ks → Prop) (x y : D) (κ : Ks) : Prop :=
  ∃ i j k, x = .int i ∧ y = .int j ∧ cmpI o i j = some k ∧ if k = true then EVR Γ Ψ ρ κ c (fun z κ' => ∃ l k', z = .int l ∧ cmpI o' j l = some k' ∧ Φ k' κ') else Φ false κ
theorem ev_chain {o o' : CmpOp} {Φ : Bool → Ks → Prop} (h1 : Ord o = true) (h2 : Ord o' = true) (ha : EVR Γ Ψ ρ κ a (fun x κ1 => EVR Γ Ψ ρ κ1 b (fun y κ2 => ChainK Γ Ψ ρ o o' c Φ x y κ2)))
    (hm : lastMarks [o, o'] [b, c] = false) : EV Γ Ψ ρ κ (.Compare a [o, o'] [b, c] pos) (fun r κ' => ∃ k, r = .dat (.bool k) ∧ Φ k κ') := by
  obtain ⟨f, hf⟩ := ordF h1
  obtain ⟨g, hg⟩ := ordF h2
  exact ⟨fun {X m F0 w0 F ow σ w H} s k Q q =>
  ⟨_, pe_chain (opI hf (ordNe h1)) (opI hg (ordNe h2)) pe_w pe_w pe_w hm, ha.run s k _ fun x vx w1 H1 p1 e1 s1 d1 => p1.run (s.next e1 s1) rfl _ fun y vy w2 H2 p2 e2 s2 d2 => by
    obtain ⟨i, j, k, rfl, rfl, hk, hrest⟩ := p2
    rw [d1.int_inv, d2.int_inv]
    rw [hf] at hk
    cases hk
    refine ⟨i, j, rfl, rfl, f i j, rfl, ?_⟩
    cases hk : f i j with
    | false =>
      rw [hk] at hrest
      exact iteF (q _ _ w2 H2 ⟨false, rfl, hrest⟩ (e1.trans e2) ⟨s2, .bl _⟩)
    | true =>
      rw [hk] at hrest
      exact iteT ((show EVR Γ Ψ ρ w2.κ c _ from hrest).run (s.next (e1.trans e2) s2) rfl _ fun z vz w3 H3 p3 e3 s3 d3 => by
        obtain ⟨l, k', rfl, hl, hΦ⟩ := p3
        rw [d3.int_inv]
        rw [hg] at hl
        cases hl
        exact ⟨j, l, rfl, rfl, q _ _ w3 H3 ⟨_, rfl, hΦ⟩ ((e1.trans e2).trans e3) ⟨s3, .bl _⟩⟩)⟩⟩
theorem evt_chain {o o' : CmpOp} {Φ : Bool → Ks → Prop} (h1 : Ord o = true) (h2 : Ord o' = true) (ha : EVR Γ Ψ ρ κ a (fun x κ1 => EVR Γ Ψ ρ κ1 b (fun y κ2 => ChainK Γ Ψ ρ o o' c Φ x y κ2)))
    (hm : lastMarks [o, o'] [b, c] = false) : EVT Γ Ψ ρ κ (.Compare a [o, o'] [b, c] pos) Φ := by
  obtain ⟨f, hf⟩ := ordF h1
  obtain ⟨g, hg⟩ := ordF h2
  exact ⟨fun {X m F0 w0 F ow σ w H} s k Q q =>
  ⟨_, pt_chain (opI hf (ordNe h1)) (opI hg (ordNe h2)) pe_w pe_w pe_w hm, ha.run s k _ fun x vx w1 H1 p1 e1 s1 d1 => p1.run (s.next e1 s1) rfl _ fun y vy w2 H2 p2 e2 s2 d2 => by
    obtain ⟨i, j, k, rfl, rfl, hk, hrest⟩ := p2
    rw [d1.int_inv, d2.int_inv]
    rw [hf] at hk
    cases hk
    refine ⟨i, j, rfl, rfl, f i j, rfl, ?_⟩
    cases hk : f i j with
    | false =>
      rw [hk] at hrest
      exact iteF ⟨_, rfl, q _ w2 H2 hrest (e1.trans e2) s2⟩
    | true =>
      rw [hk] at hrest
      exact iteT ((show EVR Γ Ψ ρ w2.κ c _ from hrest).run (s.next (e1.trans e2) s2) rfl _ fun z vz w3 H3 p3 e3 s3 d3 => by
        obtain ⟨l, k', rfl, hl, hΦ⟩ := p3
        rw [d3.int_inv]
        rw [hg] at hl
        cases hl
        exact ⟨j, l, rfl, rfl, _, rfl, q _ w3 H3 hΦ ((e1.trans e2).trans e3) s3⟩)⟩⟩
/-! ### arguments, displays -/
theorem eva_nil {Φ : List En → Ks → Prop} (h : Φ [] κ) : EVA Γ Ψ ρ κ [] Φ := ⟨fun {X m F0 w0 F ow σ w H} s k Q q => ⟨_, pa_nil, q [] [] w H (by rw [k]; exact h) (.refl _) s.st .nil⟩⟩
theorem eva_cons {Φ : List En → Ks → Prop} (ha : EVD Γ Ψ ρ κ a (fun d κ1 => EVA Γ Ψ ρ κ1 es (fun as κ2 => Φ (.dat d :: as) κ2))) (hs : isStar a = false) : EVA Γ Ψ ρ κ (a :: es) Φ := ⟨fun {X m F0 w0 F ow σ w H} s k Q q =>
  ⟨_, pa_cons pe_w pa_w (star_cons hs _), ha.run s k _ fun x vx w1 H1 p1 e1 s1 d1 => p1.run (s.next e1 s1) rfl _ fun as vs w2 H2 p2 e2 s2 d2 => q _ _ w2 H2 p2 (e1.trans e2) s2 (.cons (show ArgOk m F w2 vx (.dat x) from Rep.le d1 e2) d2)⟩⟩
theorem eva_consR {Φ : List En → Ks → Prop} (ha : EVR Γ Ψ ρ κ a (fun d κ1 => EVA Γ Ψ ρ κ1 es (fun as κ2 => Φ (.ro d :: as) κ2))) (hs : isStar a = false) : EVA Γ Ψ ρ κ (a :: es) Φ := ⟨fun {X m F0 w0 F ow σ w H} s k Q q =>
  ⟨_, pa_cons pe_w pa_w (star_cons hs _), ha.run s k _ fun x vx w1 H1 p1 e1 s1 d1 => p1.run (s.next e1 s1) rfl _ fun as vs w2 H2 p2 e2 s2 d2 => q _ _ w2 H2 p2 (e1.trans e2) s2 (.cons (show ArgOk m F w2 vx (.ro x) from RepR.le d1 e2) d2)⟩⟩
theorem ev_tup {Φ : Rs → Ks → Prop} {k : Nat} (h : EVA Γ Ψ ρ κ es (fun as κ' => ∃ ds : List D, as = ds.map .dat ∧ ds.length ≤ sizeLine ∧ Φ (.dat (.tuple ds)) κ')) : EV Γ Ψ ρ κ (.Tuple es k pos) Φ := ⟨fun {X m F0 w0 F ow σ w H} s k Q q => ⟨_, pe_tup pa_w, h.run s k _ fun as vs w2 H2 p2 e2 s2 d2 => by
  obtain ⟨ds, rfl, hl, hΦ⟩ := p2
  have dd := Args.data d2
  refine ⟨by rw [dd.len]; exact hl, fun p hp => ?_⟩
  obtain ⟨le, at_⟩ := new_tup s2 hp dd
  exact q _ _ (w2.addG p (.tup _)) _ hΦ (e2.trans le) at_⟩⟩
theorem ev_lst {Φ : Rs → Ks → Prop} (h : EVA Γ Ψ ρ κ es (fun as κ' => ∃ ds : List D, as = ds.map .dat ∧ ds.length ≤ sizeLine ∧ Φ (.new (.lst ds)) κ')) : EV Γ Ψ ρ κ (.List es pos) Φ := ⟨fun {X m F0 w0 F ow σ w H} s k Q q => ⟨_, pe_lst pa_w, h.run s k _ fun as vs w2 H2 p2 e2 s2 d2 => by
  obtain ⟨ds, rfl, hl, hΦ⟩ := p2
  have dd := Args.data d2
  exact ⟨by rw [dd.len]; exact hl, fun p hp => q _ _ w2 _ hΦ e2 (new_lst s2 hp dd)⟩⟩⟩
/-! ### built-in functions -/
inductive RepRs (m : Pm) (F : Hp) (w : Wd) : List V → List D → Prop
  | nil : RepRs m F w [] []
  | cons {v : V} {vs : List V} {d : D} {ds : List D} : RepR m F w v d → RepRs m F w vs ds → RepRs m F w (v :: vs) (d :: ds)
theorem Args.ros {m : Pm} {F : Hp} {w : Wd} : ∀ {vs : List V} {ds : List D}, Args m F w vs (ds.map .ro) → RepRs m F w vs ds
  | _, [], .nil => .nil
  | _, _ :: _, .cons h r => .cons h (Args.ros r)
def CDx (g : Gm) (r : List V → Hp → VK → Prop) (κ : Ks) (ds : List D) (Φ : Rs → Ks → Prop) : Prop :=
  ∀ (m : Pm) (F H : Hp) (w : Wd) (vs : List V) (Q : VK), m.K = g.K → w.κ = κ → St0 m F w H → RepRs m F w vs ds → (∀ r v w2 H2, Φ r w2.κ → w.le w2 → RsAt m F w2 v H2 r → Q v H2) → r vs H Q
theorem ev_callB {Φ : Rs → Ks → Prop} {r : List V → Hp → VK → Prop} {x : Str} {id : String} (hc : ∀ X, Fr Γ X → X.calm = true → CallR X (.builtin id) r) (ha : EVA Γ Ψ ρ κ (e :: es) (fun as κ' => ∃ ds : List D, as = ds.map .ro ∧ CDx Γ.g r κ' ds Φ)) (hm : Γ.g.mg x = none) (hv : bootBuiltins x = some (.builtin id)) (hg : glB Γ.sc x = true) (hn : x ≠ "__name__") (hdb : (x == ("__debug__" : Str)) = false)
    (he : isStar e = false) (hes : es.all (fun a => !isStar a) = true) : EV Γ Ψ ρ κ (.Call (.Name x pp) (e :: es) [] pos) Φ := ⟨fun {X m F0 w0 F ow σ w H} s k Q q =>
  ⟨_, pe_callB (hc X s.f s.x.calm) (s.f.gl hg) (by rw [s.f.mg]; exact hm) hv pa_w hn hdb (star_cons he _) (star_any hes _ _), ha.run s k _ fun as vs w2 H2 p2 e2 s2 d2 => by
    obtain ⟨ds, rfl, cd⟩ := p2
    exact cd m F H2 w2 vs Q s.K rfl s2 d2.ros fun r v w3 H3 p3 e3 s3 => q r v w3 H3 p3 (e2.trans e3) s3⟩⟩
theorem ev_callTy {Φ : Rs → Ks → Prop} {r : List V → Hp → VK → Prop} {x : Str} {T : String} (hc : ∀ X, Fr Γ X → X.calm = true → CallR X (.type T) r) (ha : EVA Γ Ψ ρ κ (e :: es) (fun as κ' => ∃ ds : List D, as = ds.map .ro ∧ CDx Γ.g r κ' ds Φ)) (hm : Γ.g.mg x = none) (hv : bootBuiltins x = some (.type T)) (hg : glB Γ.sc x = true) (hn : x ≠ "__name__") (hdb : (x == ("__debug__" : Str)) = false)
    (he : isStar e = false) (hes : es.all (fun a => !isStar a) = true) : EV Γ Ψ ρ κ (.Call (.Name x pp) (e :: es) [] pos) Φ := ⟨fun {X m F0 w0 F ow σ w H} s k Q q =>
  ⟨_, pe_callTy (hc X s.f s.x.calm) (s.f.gl hg) (by rw [s.f.mg]; exact hm) hv pa_w hn hdb (star_cons he _) (star_any hes _ _), ha.run s k _ fun as vs w2 H2 p2 e2 s2 d2 => by
    obtain ⟨ds, rfl, cd⟩ := p2
    exact cd m F H2 w2 vs Q s.K rfl s2 d2.ros fun r v w3 H3 p3 e3 s3 => q r v w3 H3 p3 (e2.trans e3) s3⟩⟩
end
theorem CallR.or {X : Cx} {f : Value} {r1 r2 : List V → Hp → VK → Prop} (h1 : CallR X f r1) (h2 : CallR X f r2) : CallR X f (fun xs H Q => r1 xs H Q ∨ r2 xs H Q) := fun pins s σ H xs us Q I rx h => h.elim (fun h => h1 pins s σ H xs us Q I rx h) (fun h => h2 pins s σ H xs us Q I rx h)
def rBi (K : PySem.W.Frag) : Bi → List V → Hp → VK → Prop
  | .len => fun xs H Q => (∃ x n, xs = [x] ∧ LenV K x H n ∧ Q (.int n) H) ∨ (∃ a kvs, xs = [V.ref a] ∧ H a = some (.dK kvs) ∧ Q (.int kvs.length) H)
  | .list => fun xs H Q => ∃ p ys, xs = [.ref p] ∧ (SqL K H p ys ∨ SqT K H p ys) ∧ ∀ l, H l = none → Q (.ref l) (upd H l (.lst ys))
  | .tuple => fun xs H Q => ∃ p ys, xs = [.ref p] ∧ ((SqL K H p ys ∧ ∀ l, H l = none → Q (.ref l) (upd H l (.tup ys))) ∨ (SqT K H p ys ∧ Q (.ref p) H))
  | .all => rAll K
  | .any => rAny K
  | .sum => rSum K
  | .max1 => rMax K
  | .max2 => fun xs H Q => ∃ i j, xs = [.int i, .int j] ∧ Q (.int (if j > i then j else i)) H
  | .min2 => fun xs H Q => ∃ i j, xs = [.int i, .int j] ∧ Q (.int (if j < i then j else i)) H
  | .x b => rBx K b
  | .isi _ => fun _ _ _ => False
  | .isi2 _ _ => fun _ _ _ => False
/-- name and value of a built-in -/
def biNm : Bi → Option (Str × Value)
  | .len => some ("len", .builtin "len")
  | .list => some ("list", .type "list")
  | .tuple => some ("tuple", .type "tuple")
  | .all => some ("all", .builtin "all")
  | .any => some ("any", .builtin "any")
  | .sum => some ("sum", .builtin "sum")
  | .max1 => some ("max", .builtin "max")
  | .max2 => some ("max", .builtin "max")
  | .min2 => some ("min", .builtin "min")
  | .x b => bxNm b
  | .isi _ => none
  | .isi2 _ _ => none
theorem call_bi {X : Cx} (hc : X.calm = true) : ∀ {b : Bi} {x : Str} {f : Value}, biNm b = some (x, f) → CallR X f (rBi X.K b)
  | .len, _, _, e => by cases e; exact call_len.or call_lenD
  | .list, _, _, e => by cases e; exact call_list_of
  | .tuple, _, _, e => by cases e; exact call_tuple_of
  | .all, _, _, e => by cases e; exact cr_all hc
  | .any, _, _, e => by cases e; exact cr_any hc
  | .sum, _, _, e => by cases e; exact cr_sum hc
  | .max1, _, _, e => by cases e; exact cr_max hc
  | .max2, _, _, e => by cases e; exact call_max2 hc
  | .min2, _, _, e => by cases e; exact call_min2 hc
  | .x b, _, _, e => call_bx hc e
  | .isi _, _, _, e => by cases e
  | .isi2 _ _, _, _, e => by cases e
theorem bi_boot : ∀ {b : Bi} {x : Str} {f : Value}, biNm b = some (x, f) → bootBuiltins x = some f ∧ x ≠ "__name__" ∧ (x == ("__debug__" : Str)) = false ∧ ((∃ id, f = .builtin id) ∨ ∃ T, f = .type T)
  | .len, _, _, e => by cases e; exact ⟨by decide +kernel, by decide +kernel, by decide +kernel, .inl ⟨_, rfl⟩⟩
  | .list, _, _, e => by cases e; exact ⟨by decide +kernel, by decide +kernel, by decide +kernel, .inr ⟨_, rfl⟩⟩
  | .tuple, _, _, e => by cases e; exact ⟨by decide +kernel, by decide +kernel, by decide +kernel, .inr ⟨_, rfl⟩⟩
  | .all, _, _, e => by cases e; exact ⟨by decide +kernel, by decide +kernel, by decide +kernel, .inl ⟨_, rfl⟩⟩
  | .any, _, _, e => by cases e; exact ⟨by decide +kernel, by decide +kernel, by decide +kernel, .inl ⟨_, rfl⟩⟩
  | .sum, _, _, e => by cases e; exact ⟨by decide +kernel, by decide +kernel, by decide +kernel, .inl ⟨_, rfl⟩⟩
  | .max1, _, _, e => by cases e; exact ⟨by decide +kernel, by decide +kernel, by decide +kernel, .inl ⟨_, rfl⟩⟩
  | .max2, _, _, e => by cases e; exact ⟨by decide +kernel, by decide +kernel, by decide +kernel, .inl ⟨_, rfl⟩⟩
  | .min2, _, _, e => by cases e; exact ⟨by decide +kernel, by decide +kernel, by decide +kernel, .inl ⟨_, rfl⟩⟩
  | .x b, _, _, e => bx_boot (b := b) e
  | .isi _, _, _, e => by cases e
  | .isi2 _ _, _, _, e => by cases e
end VL

namespace VL
open PySem PySem.Spec PyProof.Rows L2
section
variable {g : Gm} {κ : Ks} {ds : List D} {Φ : Rs → Ks → Prop} {r : Rs} {b : Bx}
theorem ints_rep {m : Pm} {G : Hp} {A : List Addr} : ∀ {ds : List D} {vs : List V} {is : List Int}, RepAll m G A vs ds → intsOf ds = some is → vs = is.map V.int
  | _, _, _, .nil, e => by cases e; rfl
  | _, _, _, .cons (d := d) (ds := ds) h r, e => by
    cases d with
    | int i =>
      unfold intsOf at e
      cases q : intsOf ds with
      | none => rw [q] at e; cases e
      | some is =>
        rw [q] at e
        cases e
        rw [h.int_inv, ints_rep r q]
        rfl
    | _ => cases e
theorem maxL_uniq : ∀ {is : List Int} {m : Int}, m ∈ is → (∀ y ∈ is, y ≤ m) → m = maxL is
  | [], _, h, _ => nomatch h
  | [a], m, h, _ => by
    simp at h
    exact h
  | a :: b :: r, m, h, hm => by
    have ha := hm a (List.mem_cons_self ..)
    have hb := hm b (List.mem_cons_of_mem _ (List.mem_cons_self ..))
    show m = max a (maxL (b :: r))
    have key : ∀ (l : List Int), l ≠ [] → maxL l ∈ l ∧ ∀ y ∈ l, y ≤ maxL l := by
      intro l
      induction l with
      | nil => intro z; exact absurd rfl z
      | cons c l ih =>
        intro _
        cases l with
        | nil => exact ⟨List.mem_cons_self .., fun y hy => by simp at hy; rw [hy]; exact Int.le_refl _⟩
        | cons d l =>
          obtain ⟨h1, h2⟩ := ih (fun z => nomatch z)
          refine ⟨?_, fun y hy => ?_⟩
          · show max c (maxL (d :: l)) ∈ _
            by_cases hc : c ≤ maxL (d :: l)
            · rw [Int.max_eq_right hc]
              exact List.mem_cons_of_mem _ h1
            · rw [Int.max_eq_left (by omega)]
              exact List.mem_cons_self ..
          · show y ≤ max c (maxL (d :: l))
            rcases List.mem_cons.mp hy with rfl | hy
            · exact Int.le_max_left ..
            · exact Int.le_trans (h2 y hy) (Int.le_max_right ..)
    obtain ⟨k1, k2⟩ := key (b :: r) (fun z => nomatch z)
    have e1 := hm _ (List.mem_cons_of_mem _ k1)
    rcases List.mem_cons.mp h with rfl | h
    · omega
    · have := k2 m h
      omega
theorem cd_sort {is : List Int} {x : D} {es : List D} (e : sqOf κ x = some es) (e2 : intsOf es = some is) (hΦ : Φ (.new (.lst ((sortI is).map .int))) κ) : CDx g (rBx g.K .sort) κ [x] Φ := fun m F H w vs Q hK hκ s hr q => by
  subst hκ
  cases hr with
  | cons h1 h2 =>
    cases h2
    obtain ⟨a, xs, rfl, h3, h4⟩ := h1.sq s e
    have := ints_rep h4 e2
    subst this
    refine ⟨a, is, rfl, by rw [← hK]; exact h3, fun ns p hp hs hn => ?_⟩
    have : ns = sortI is := sorted_uniq (hp.trans (sortI_perm is).symm) hs (sortI_sorted is)
    subst this
    exact q _ _ w _ hΦ (.refl _) (new_lst s hn (RepAll.ints _))
theorem cd_maxq {is : List Int} {x : D} {es : List D} (e : sqOf κ x = some es) (e2 : intsOf es = some is) (hne : is ≠ []) (hΦ : Φ (.dat (.int (maxL is))) κ) : CDx g (rBx g.K .maxq) κ [x] Φ := fun m F H w vs Q hK hκ s hr q => by
  subst hκ
  cases hr with
  | cons h1 h2 =>
    cases h2
    obtain ⟨a, xs, rfl, h3, h4⟩ := h1.sq s e
    have := ints_rep h4 e2
    subst this
    refine ⟨a, is, rfl, by rw [← hK]; exact h3, List.length_pos_iff.mpr hne, fun mm h5 h6 => ?_⟩
    rw [maxL_uniq h5 h6]
    exact q _ _ w H hΦ (.refl _) ⟨s, .int _⟩
theorem lists_rep {m : Pm} {F H : Hp} {w : Wd} (s : St0 m F w H) : ∀ {ds : List D} {vs : List V} {ps : List (List D)}, RepsW m w vs ds → listsOf ds = some ps → ∃ (refs : List Addr) (parts : List (List V)), vs = refs.map V.ref ∧ refs.length = parts.length ∧ ps.length = refs.length ∧ (∀ (j : Nat) (a : Addr), refs[j]? = some a → ∃ xs, parts[j]? = some xs ∧ H a = some (.lst xs)) ∧ RepsW m w parts.flatten ps.flatten
  | _, _, _, .nil, e => by cases e; exact ⟨[], [], rfl, rfl, rfl, fun j a h => by simp at h, .nil⟩
  | _, _, _, .cons (d := d) (ds := ds) h r, e => by
    cases d with
    | list es =>
      unfold listsOf at e
      cases q : listsOf ds with
      | none => rw [q] at e; cases e
      | some ps =>
        rw [q] at e
        cases e
        obtain ⟨refs, parts, rfl, h1, h2, h3, h4⟩ := lists_rep s r q
        obtain ⟨a, xs, rfl, h5, h6⟩ := Rep.list_inv h
        refine ⟨a :: refs, xs :: parts, rfl, by simp [h1], by simp [h2], fun j b hb => ?_, h6.app h4⟩
        cases j with
        | zero =>
          have : a = b := by simpa using hb
          subst this
          exact ⟨xs, rfl, s.same _ _ h5⟩
        | succ j => exact h3 j b (by simpa using hb)
    | _ => cases e
theorem cd_sumL {x : D} {es : List D} {ps : List (List D)} (e : lsOf κ x = some es) (e2 : listsOf es = some ps) (hne : ps ≠ [] ∧ ps.flatten.length ≤ sizeLine) (hΦ : Φ (.new (.lst ps.flatten)) κ) : CDx g (rBx g.K .sumL) κ [x, .list []] Φ := fun m F H w vs Q hK hκ s hr q => by
  subst hκ
  cases hr with
  | cons h1 h2 =>
    cases h2 with
    | cons h2 h3 =>
      cases h3
      obtain ⟨a, xs, rfl, h4, h5⟩ := RepR.list_inv s h1 e
      obtain ⟨b, ys, rfl, h6, h7⟩ := RepR.list_inv s h2 rfl
      cases h7
      obtain ⟨refs, parts, rfl, k1, k2, k3, k4⟩ := lists_rep s h5 e2
      refine ⟨a, b, refs, parts, rfl, h4, h6, fun z => ?_, k1, k3, ?_, fun p hp => ?_⟩
      · rw [z] at k2
        exact hne.1 (List.length_eq_zero_iff.mp k2)
      · rw [k4.len]
        exact hne.2
      · exact q _ _ w _ hΦ (.refl _) (new_lst s hp k4)
theorem cd_bx (h : bxS b κ ds = some r) (hΦ : Φ r κ) : CDx g (rBx g.K b) κ ds Φ := by
  unfold bxS at h
  split at h
  · rename_i x
    split at h
    · rename_i es e
      cases e2 : intsOf es with
      | none => rw [e2] at h; cases h
      | some is =>
        rw [e2] at h
        cases h
        exact cd_sort e e2 hΦ
    · cases h
  · rename_i x
    split at h
    · rename_i es e
      split at h
      · rename_i is e2
        split at h
        · cases h
        · rename_i hne
          cases h
          exact cd_maxq e e2 hne hΦ
      · cases h
    · cases h
  · rename_i k
    cases h
    exact fun m F H w vs Q hK hκ s hr q => by
      subst hκ
      cases hr with
      | cons h1 h2 =>
        cases h2
        rw [h1.bool_inv]
        exact .inr ⟨k, rfl, q _ _ w H hΦ (.refl _) ⟨s, .int _⟩⟩
  · rename_i i
    cases h
    exact fun m F H w vs Q hK hκ s hr q => by
      subst hκ
      cases hr with
      | cons h1 h2 =>
        cases h2
        rw [h1.int_inv]
        exact .inl ⟨i, rfl, q _ _ w H hΦ (.refl _) ⟨s, .int _⟩⟩
  · rename_i x
    split at h
    · rename_i es e
      split at h
      · rename_i ps e2
        split at h
        · rename_i hne
          cases h
          exact cd_sumL e e2 hne hΦ
        · cases h
      · cases h
    · cases h
  · cases h
end
end VL

namespace VL
open PySem PySem.Spec PyProof.Rows L2
section
variable {g : Gm} {κ : Ks} {ds : List D} {Φ : Rs → Ks → Prop} {r : Rs} {b : Bi}
theorem bools_rep {m : Pm} {G : Hp} {A : List Addr} : ∀ {ds : List D} {vs : List V} {is : List Bool}, RepAll m G A vs ds → boolsOf ds = some is → vs = is.map V.bl
  | _, _, _, .nil, e => by cases e; rfl
  | _, _, _, .cons (d := d) (ds := ds) h r, e => by
    cases d with
    | bool i =>
      unfold boolsOf at e
      cases q : boolsOf ds with
      | none => rw [q] at e; cases e
      | some is =>
        rw [q] at e
        cases e
        rw [h.bool_inv, bools_rep r q]
        rfl
    | _ => cases e
theorem cd_bi (h : biS b κ ds = some r) (hn : biNm b ≠ none) (hΦ : Φ r κ) : CDx g (rBi g.K b) κ ds Φ := fun m F H w vs Q hK hκ s hr q => by
  subst hκ
  unfold biS at h
  split at h
  · rename_i z
    split at h
    · rename_i hl
      cases h
      cases hr with
      | cons h1 h2 =>
        cases h2
        rw [h1.str_inv]
        exact .inl ⟨_, _, rfl, ⟨hl, rfl⟩, q _ _ w H hΦ (.refl _) ⟨s, .int _⟩⟩
    · cases h
  · rename_i x _
    cases e : sqOf w.κ x with
    | none => rw [e] at h; cases h
    | some ds =>
      rw [e] at h
      cases h
      cases hr with
      | cons h1 h2 =>
        cases h2
        obtain ⟨a, xs, rfl, h3, h4⟩ := h1.sq s e
        refine .inl ⟨_, ds.length, rfl, ?_, q _ _ w H hΦ (.refl _) ⟨s, .int _⟩⟩
        rcases h3 with h3 | h3
        · exact .inl ⟨xs, by rw [← hK]; exact h3, h4.len.symm⟩
        · exact .inr ⟨xs, by rw [← hK]; exact h3, h4.len.symm⟩
  · rename_i x
    cases e : sqOf w.κ x with
    | none => rw [e] at h; cases h
    | some ds =>
      rw [e] at h
      cases h
      cases hr with
      | cons h1 h2 =>
        cases h2
        obtain ⟨a, xs, rfl, h3, h4⟩ := h1.sq s e
        exact ⟨a, xs, rfl, by rw [← hK]; exact h3, fun l hl => q _ _ w _ hΦ (.refl _) (new_lst s hl h4)⟩
  · rename_i x
    cases e : sqOf w.κ x with
    | none => rw [e] at h; cases h
    | some ds =>
      rw [e] at h
      cases h
      cases hr with
      | cons h1 h2 =>
        cases h2
        by_cases hx : ∃ xs, x = .tuple xs
        · obtain ⟨xs, rfl⟩ := hx
          cases e
          have h1' := h1
          obtain ⟨a, xs, rfl, h3, h4⟩ := h1.tuple_inv s
          refine ⟨a, xs, rfl, .inr ⟨by rw [← hK]; exact h3, q _ _ w H hΦ (.refl _) ⟨s, ?_⟩⟩⟩
          rcases h1' with hy | ⟨_, _, o, _, _, _, hy⟩
          · exact hy
          · cases o <;> cases hy
        · have e' : lsOf w.κ x = some ds := by cases x <;> first | exact e | exact absurd ⟨_, rfl⟩ hx
          obtain ⟨a, xs, rfl, h3, h4⟩ := h1.list_inv s e'
          refine ⟨a, xs, rfl, .inl ⟨SqL.of h3, fun l hl => ?_⟩⟩
          obtain ⟨le, at_⟩ := new_tup s hl h4
          exact q _ _ (w.addG l (.tup _)) _ hΦ le at_
  · rename_i x
    split at h
    · rename_i es e
      cases e2 : boolsOf es with
      | none => rw [e2] at h; cases h
      | some bs =>
        rw [e2] at h
        cases h
        cases hr with
        | cons h1 h2 =>
          cases h2
          obtain ⟨a, xs, rfl, h3, h4⟩ := h1.list_inv s e
          have := bools_rep h4 e2
          subst this
          exact ⟨a, bs, rfl, SqL.of h3, q _ _ w H hΦ (.refl _) ⟨s, .bl _⟩⟩
    · cases h
  · rename_i x
    split at h
    · rename_i es e
      cases e2 : boolsOf es with
      | none => rw [e2] at h; cases h
      | some bs =>
        rw [e2] at h
        cases h
        cases hr with
        | cons h1 h2 =>
          cases h2
          obtain ⟨a, xs, rfl, h3, h4⟩ := h1.list_inv s e
          have := bools_rep h4 e2
          subst this
          exact ⟨a, bs, rfl, SqL.of h3, q _ _ w H hΦ (.refl _) ⟨s, .bl _⟩⟩
    · cases h
  · rename_i x
    split at h
    · rename_i es e
      cases e2 : intsOf es with
      | none => rw [e2] at h; cases h
      | some bs =>
        rw [e2] at h
        cases h
        cases hr with
        | cons h1 h2 =>
          cases h2
          obtain ⟨a, xs, rfl, h3, h4⟩ := h1.list_inv s e
          have := ints_rep h4 e2
          subst this
          exact ⟨a, bs, rfl, SqL.of h3, q _ _ w H hΦ (.refl _) ⟨s, .int _⟩⟩
    · cases h
  · rename_i x
    split at h
    · rename_i es e
      split at h
      · rename_i is e2
        split at h
        · cases h
        · rename_i hne
          cases h
          cases hr with
          | cons h1 h2 =>
            cases h2
            obtain ⟨a, xs, rfl, h3, h4⟩ := h1.list_inv s e
            have := ints_rep h4 e2
            subst this
            refine ⟨a, is, rfl, SqL.of h3, List.length_pos_iff.mpr hne, fun mm h5 h6 => ?_⟩
            rw [maxL_uniq h5 h6]
            exact q _ _ w H hΦ (.refl _) ⟨s, .int _⟩
      · cases h
    · cases h
  · rename_i i j
    cases h
    cases hr with
    | cons h1 h2 =>
      cases h2 with
      | cons h2 h3 =>
        cases h3
        rw [h1.int_inv, h2.int_inv]
        exact ⟨i, j, rfl, q _ _ w H hΦ (.refl _) ⟨s, .int _⟩⟩
  · rename_i i j
    cases h
    cases hr with
    | cons h1 h2 =>
      cases h2 with
      | cons h2 h3 =>
        cases h3
        rw [h1.int_inv, h2.int_inv]
        exact ⟨i, j, rfl, q _ _ w H hΦ (.refl _) ⟨s, .int _⟩⟩
  · exact absurd rfl hn
  · exact absurd rfl hn
  · exact cd_bx h hΦ m F H w vs Q hK rfl s hr q
  · cases h
end
/-! ### isinstance -/
def Ty.s : Ty → String
  | .int => "int"
  | .bool => "bool"
  | .str => "str"
  | .list => "list"
  | .tuple => "tuple"
def Ty.nm : Ty → Str
  | .int => "int"
  | .bool => "bool"
  | .str => "str"
  | .list => "list"
  | .tuple => "tuple"
theorem Ty.boot : ∀ t : Ty, bootBuiltins t.nm = some (.type t.s) ∧ t.nm ≠ "__name__" ∧ (t.nm == ("__debug__" : Str)) = false
  | .int => ⟨by decide +kernel, by decide +kernel, by decide +kernel⟩
  | .bool => ⟨by decide +kernel, by decide +kernel, by decide +kernel⟩
  | .str => ⟨by decide +kernel, by decide +kernel, by decide +kernel⟩
  | .list => ⟨by decide +kernel, by decide +kernel, by decide +kernel⟩
  | .tuple => ⟨by decide +kernel, by decide +kernel, by decide +kernel⟩
theorem kit_ty {t : Ty} {d : D} (h : plainOf d = true) : kitB (tyD d) t.s = some (isT t d) := by
  cases d <;> first | (cases h; done) | (cases t <;> kernel_rfl)
theorem ty_rep {m : Pm} {F H : Hp} {w : Wd} {v : V} {d : D} (s : St0 m F w H) (h : RepR m F w v d) (hp : plainOf d = true) : TyX m.K H v (.type (tyD d)) := by
  rcases h with h | ⟨a, o, x, h1, h2, h3, h4⟩
  · cases h with
    | non => exact .base .non
    | bl b => exact .base (.bl b)
    | int i => exact .base (.int i)
    | str y => exact .base (.str y)
    | lst h1 h2 => exact .base (.lst (s.same _ _ h1))
    | tup h1 h2 =>
      rcases sqT_ext s.ext h1 with (h | ⟨o, h⟩) | ⟨o, its, n, hk, hc, _⟩
      · exact .base (.tup h)
      · exact .fTuple h
      · exact .kTuple hk hc
    | dct => cases hp
    | obj => cases hp
    | hd => cases hp
    | fn => cases hp
    | lam => cases hp
  · cases x with
    | lst es =>
      subst h4
      subst h1
      obtain ⟨vs, rfl, h5⟩ := h3
      exact .base (.lst (s.fr _ _ h2).1)
    | dct => subst h4; cases hp
section
variable {Γ : Ctx} {Ψ : Exc → Ks → Prop} {ρ : List En} {κ : Ks} {a b c e : Expr} {es rest : List Expr} {pos pp p2 p3 p4 : Pos}
theorem ev_isi {Φ : Rs → Ks → Prop} {t : Ty} (ha : EVR Γ Ψ ρ κ a (fun d κ' => plainOf d = true ∧ Φ (.dat (.bool (isT t d))) κ')) (hm : Γ.g.mg "isinstance" = none) (hmT : Γ.g.mg t.nm = none) (hg : glB Γ.sc "isinstance" = true) (hgT : glB Γ.sc t.nm = true) (hs : isStar a = false) :
    EV Γ Ψ ρ κ (.Call (.Name "isinstance" pp) [a, .Name t.nm p2] [] pos) Φ := ⟨fun {X m F0 w0 F ow σ w H} s k Q q =>
  ⟨_, pe_callB (call_isi (X := X)) (s.f.gl hg) (by rw [s.f.mg]; exact hm) (by decide +kernel) (pa_cons pe_w (pa_cons (pe_bltn (v := .ty t.s) (s.f.gl hgT) (by rw [s.f.mg]; exact hmT) t.boot.1 rfl t.boot.2.1 t.boot.2.2) pa_nil) (star_cons hs _)) (he := star_cons hs _), ha.run s k _ fun dd v w2 H2 p2 e2 s2 d2 => by
    exact ⟨v, .ty t.s, _, _, _, rfl, .ty t.s, by rw [← s.x.K]; exact ty_rep s2 d2 p2.1, L2.kit_ty (kit_ty p2.1), q _ _ w2 H2 p2.2 e2 ⟨s2, .bl _⟩⟩⟩⟩
theorem ev_isi2 {Φ : Rs → Ks → Prop} {t t' : Ty} {kk : Nat} (ha : EVR Γ Ψ ρ κ a (fun d κ' => plainOf d = true ∧ Φ (.dat (.bool (isT t d || isT t' d))) κ')) (hm : Γ.g.mg "isinstance" = none) (hmT : Γ.g.mg t.nm = none) (hmT' : Γ.g.mg t'.nm = none) (hg : glB Γ.sc "isinstance" = true) (hgT : glB Γ.sc t.nm = true) (hgT' : glB Γ.sc t'.nm = true) (hs : isStar a = false) :
    EV Γ Ψ ρ κ (.Call (.Name "isinstance" pp) [a, .Tuple [.Name t.nm p2, .Name t'.nm p3] kk p4] [] pos) Φ := ⟨fun {X m F0 w0 F ow σ w H} s k Q q =>
  ⟨_, pe_callB (call_isiT (X := X)) (s.f.gl hg) (by rw [s.f.mg]; exact hm) (by decide +kernel) (pa_cons pe_w (pa_cons (pe_tup (pa_cons (pe_bltn (v := .ty t.s) (s.f.gl hgT) (by rw [s.f.mg]; exact hmT) t.boot.1 rfl t.boot.2.1 t.boot.2.2) (pa_cons (pe_bltn (v := .ty t'.s) (s.f.gl hgT') (by rw [s.f.mg]; exact hmT') t'.boot.1 rfl t'.boot.2.1 t'.boot.2.2) pa_nil))) pa_nil) (star_cons hs _)) (he := star_cons hs _), ha.run s k _ fun dd v w2 H2 p2 e2 s2 d2 => by
    refine ⟨by show 2 ≤ sizeLine; decide, fun q' hq' => ?_⟩
    have le := le_addG (o := .tup [.ty t.s, .ty t'.s]) (s2.freshG hq')
    have s3 := s2.alloc (o := .tup [.ty t.s, .ty t'.s]) hq'
    refine ⟨v, q', [.ty t.s, .ty t'.s], _, [.type t.s, .type t'.s], isT t dd || isT t' dd, rfl, upd_same, .cons (.ty t.s) (.cons (.ty t'.s) .nil), by rw [← s.x.K]; exact ty_rep s3 (d2.le le) p2.1, ?_, q _ _ (w2.addG q' _) _ p2.2 (e2.trans le) ⟨s3, .bl _⟩⟩
    refine kitAny_cons (L2.kit_ty (kit_ty p2.1)) (fun z => kitAny_cons (L2.kit_ty (kit_ty p2.1)) (fun z2 => ?_) fun z2 => by rw [z2, Bool.or_true]) fun z => by rw [z, Bool.true_or]
    rw [z, z2]
    exact kitAny_nil⟩⟩
/-! ### slices -/
theorem rep_cut {m : Pm} {G : Hp} {A : List Addr} {vs : List V} {xs : List D} (h : RepAll m G A vs xs) (lo hi : Option Int) : RepAll m G A (cutV vs lo hi) (cutD xs lo hi) := by
  unfold cutV cutD
  rw [h.len]
  exact (h.drop _).take _
def wO (X : Cx) (e : Option Expr) : TO := fun σ H Q => ∃ t, PO X e t ∧ t σ H Q
theorem po_w {X : Cx} {e : Option Expr} : PO X e (wO X e) := ⟨fun pins s σ H Q I h => by
  obtain ⟨t, ht, q⟩ := h
  exact ht.run pins s σ H Q I q⟩
structure EVO (Γ : Ctx) (Ψ : Exc → Ks → Prop) (ρ : List En) (κ : Ks) (e : Option Expr) (Φ : Option Int → Ks → Prop) : Prop where
  run : ∀ {X : Cx} {m : Pm} {F0 : Hp} {w0 : Wd} {F : Hp} {ow : Nat → Addr} {σ : L2.St} {w : Wd} {H : Hp}, Stt Γ X Ψ ρ m F0 w0 F ow σ w H → w.κ = κ →
    ∀ Q : Option Int → Hp → Prop, (∀ o w2 H2, Φ o w2.κ → w.le w2 → St0 m F w2 H2 → Q o H2) → wO X e σ H Q
theorem evo_none {Φ : Option Int → Ks → Prop} (h : Φ none κ) : EVO Γ Ψ ρ κ none Φ := ⟨fun {X m F0 w0 F ow σ w H} s k Q q => ⟨_, po_none, q none w H (by rw [k]; exact h) (.refl _) s.st⟩⟩
theorem evo_some {Φ : Option Int → Ks → Prop} (ha : EVD Γ Ψ ρ κ a (fun d κ' => ∃ i, d = .int i ∧ Φ (some i) κ')) : EVO Γ Ψ ρ κ (some a) Φ := ⟨fun {X m F0 w0 F ow σ w H} s k Q q => ⟨_, po_some pe_w, ha.run s k _ fun d v w2 H2 p2 e2 s2 d2 => by
  obtain ⟨i, rfl, hi⟩ := p2
  rw [d2.int_inv]
  exact ⟨i, rfl, q _ w2 H2 hi e2 s2⟩⟩⟩
theorem ev_slice {Φ : Rs → Ks → Prop} {lo hi : Option Expr} (ha : EVR Γ Ψ ρ κ a (fun x κ1 => EVO Γ Ψ ρ κ1 lo (fun l κ2 => EVO Γ Ψ ρ κ2 hi (fun h κ3 => ∃ r, sliceS κ3 x l h = some r ∧ Φ r κ3)))) : EV Γ Ψ ρ κ (.Subscript a (.Slice lo hi none p2) pos) Φ := ⟨fun {X m F0 w0 F ow σ w H} s k Q q =>
  ⟨_, pe_slice ((sl_list.or sl_tupA).or sl_str) pe_w po_w po_w, ha.run s k _ fun d v w2 H2 p2 e2 s2 d2 => p2.run (s.next e2 s2) rfl _ fun l w3 H3 p3 e3 s3 => p3.run (s.next (e2.trans e3) s3) rfl _ fun h w4 H4 p4 e4 s4 => by
    obtain ⟨r, hr, hΦ⟩ := p4
    have d4 := d2.le (e3.trans e4)
    unfold sliceS at hr
    split at hr
    · split at hr
      · rename_i hl
        cases hr
        rw [d4.str_inv]
        exact .inr ⟨_, rfl, hl, q _ _ w4 H4 hΦ ((e2.trans e3).trans e4) ⟨s4, .str _⟩⟩
      · cases hr
    · rename_i xs
      cases hr
      have hx := d4
      obtain ⟨aa, vs, rfl, h1, h2⟩ := d4.tuple_inv s4
      refine .inl (.inr ⟨aa, vs, rfl, by rw [← s.x.K]; exact h1, fun z => ?_, fun z p hp => ?_⟩)
      · refine q _ _ w4 H4 hΦ ((e2.trans e3).trans e4) ⟨s4, ?_⟩
        have e : cutD xs l h = xs := by
          unfold cutD
          rw [← h2.len, z.1, z.2, List.drop_zero, Nat.sub_zero, h2.len, List.take_length]
        rw [e]
        rcases hx with hy | ⟨_, _, o, _, _, _, hy⟩
        · exact hy
        · cases o <;> cases hy
      · obtain ⟨le, at_⟩ := new_tup s4 hp (rep_cut h2 l h)
        exact q _ _ (w4.addG p (.tup _)) _ hΦ (((e2.trans e3).trans e4).trans le) at_
    · cases e : lsOf w4.κ d with
      | none => rw [e] at hr; cases hr
      | some xs =>
        rw [e] at hr
        cases hr
        obtain ⟨aa, vs, rfl, h1, h2⟩ := d4.list_inv s4 e
        exact .inl (.inl ⟨aa, vs, rfl, SqL.of h1, fun p hp => q _ _ w4 _ hΦ ((e2.trans e3).trans e4) (new_lst s4 hp (rep_cut h2 l h))⟩)⟩⟩
end
end VL

namespace VL
open PySem PySem.Spec PyProof.Rows L2

/-! ### contracts -/
def spD (g : Gm) (f : FnM) : Sp := fun vs H Q E =>
  ∃ (m : Pm) (F : Hp) (w : Wd) (as : List En), m.K = g.K ∧ m.mg = g.mg ∧ m.T = g.T ∧ St0 m F w H ∧ Args m F w vs as ∧
    ∃ (Φ : Rs → Ks → Prop) (Ψ : Exc → Ks → Prop), (f as w.κ).sat Φ Ψ ∧ (∀ r v w2 H', Φ r w2.κ → w.le w2 → RsAt m F w2 v H' r → Q v H') ∧ (∀ cls d H', ExcPost m F w Ψ cls d H' → E cls d H')
/-- calls of the module's x by place -/
structure CallD (g : Gm) (k : Nat) (x : Str) (f : FnM) : Prop where
  ex : ∃ (fa : Addr) (fd : FuncData) (ps : List Str) (dvs : List V) (ds : List Value) (dds : List D) (f0 : FnM), g.mg x = some (.ref fa) ∧ PySem.W.keepIn g.K (.ref fa) = true ∧ Binds g.K fd ps ds ∧ Vals dvs ds ∧ (∀ m G A, m.K = g.K → m.mg = g.mg → RepAll m G A dvs dds) ∧
    FnOk g.P g.w g.K g.mg g.base (L2.CX g.P g.w) k fa fd ps (spD g f0) ∧ ∀ as, f as = f0 (as ++ dds.map .dat)
/-- .. with n values by place, then the keywords ks -/
structure CallK (g : Gm) (k : Nat) (x : Str) (n : Nat) (ks : List Str) (f : FnM) : Prop where
  ex : ∃ (fa : Addr) (fd : FuncData) (ps : List Str) (gg : List Value → List Value → List Value) (gV : List V → List V → List V) (gE : List En → List En → List En) (f0 : FnM), g.mg x = some (.ref fa) ∧ PySem.W.keepIn g.K (.ref fa) = true ∧ KBn g.K fd ps n ks gg gV ∧
    (∀ {m : Pm} {F : Hp} {w : Wd} {vs zs : List V} {as bs : List En}, m.K = g.K → Args m F w vs as → Args m F w zs bs → vs.length = n → zs.length = ks.length → Args m F w (gV vs zs) (gE as bs)) ∧
    FnOk g.P g.w g.K g.mg g.base (L2.CX g.P g.w) k fa fd ps (spD g f0) ∧ ∀ as bs, as.length = n → f (as ++ bs) = f0 (gE as bs)
theorem takes_pass {X : Cx} {m : Pm} {F0 : Hp} {w0 : Wd} {Ψ : Exc → Ks → Prop} (tk : Takes X (fun cls d _ H' => ExcPost m F0 w0 Ψ cls d H')) : Passes (L2.CX X.prog X.w) X (fun cls d H' => ExcPost m F0 w0 Ψ cls d H') :=
  passes_call tk fun _ _ _ _ h => h
/-- an exception's post from a later state and a larger frame -/
theorem ExcPost.back {m : Pm} {F0 F : Hp} {w0 w : Wd} {Ψ : Exc → Ks → Prop} {cls : Value} {d : Option Addr} {H' : Hp} (hs : ∀ a o, F0 a = some o → F a = some o) (e : w0.le w) (h : ExcPost m F w Ψ cls d H') : ExcPost m F0 w0 Ψ cls d H' := by
  obtain ⟨x, w', dd, fs, h1, h2, h3, h4, h5, h6, h7, h8⟩ := h
  obtain ⟨w2, e2, ek, st⟩ := h5.back hs
  obtain ⟨o', h9, l⟩ := e2.g _ _ h6
  rw [l.xd] at h9
  exact ⟨x, w2, dd, fs, by rw [ek]; exact h1, h2, h3, (e.trans h4).trans e2, st, h9, h7, h8.le e2⟩
theorem call_fr {Γ : Ctx} {X : Cx} {k : Nat} {f : Addr} {fd : FuncData} {ps : List Str} {sp : Sp} (fr : Fr Γ X) (h : FnOk Γ.g.P Γ.g.w Γ.g.K Γ.g.mg Γ.g.base (L2.CX Γ.g.P Γ.g.w) k f fd ps sp) : FnOk X.prog X.w X.K X.mg X.base (L2.CX X.prog X.w) k f fd ps sp := by
  rw [fr.prog, fr.w, fr.K, fr.mg, fr.base]
  exact h
section
variable {Γ : Ctx} {Ψ : Exc → Ks → Prop} {ρ : List En} {κ : Ks} {a b c e : Expr} {es rest : List Expr} {pos pp : Pos} {x : Str} {k n : Nat} {f : FnM} {Φ : Rs → Ks → Prop}
theorem ev_call (fn : CallD Γ.g k x f) (hk : k ≤ Γ.k) (hg : glB Γ.sc x = true) (ha : EVA Γ Ψ ρ κ (e :: es) (fun as κ' => (f as κ').sat Φ Ψ)) (hdb : (x == ("__debug__" : Str)) = false) (he : isStar e = false) (hes : es.all (fun a => !isStar a) = true) : EV Γ Ψ ρ κ (.Call (.Name x pp) (e :: es) [] pos) Φ := ⟨fun {X m F0 w0 F ow σ w H} s kk Q q => by
  obtain ⟨fa, fd, ps, dvs, ds, dds, f0, hm, hkp, hb, hv, hdd, hok, hf⟩ := fn.ex
  refine ⟨_, pe_call (call_fr s.f hok) (s.f.room.mono hk) (s.f.gl hg) (by rw [s.f.mg]; exact hm) (by rw [s.f.K]; exact hkp) (by rw [s.f.K]; exact hb) hv (takes_pass s.x.tk) pa_w hdb (star_cons he _) (star_any hes _ _), ?_⟩
  exact ha.run s kk _ fun as vs w2 H2 p2 e2 s2 d2 =>
    ⟨m, F, w2, as ++ dds.map .dat, s.K, s.mg, s.x.T, s2, d2.app (Args.ofData (hdd m _ _ s.K s.mg)), Φ, Ψ, by rw [← hf]; exact p2, fun r v w3 H' hr le at_ => q r v w3 H' hr (e2.trans le) at_, fun cls d H' q => q.back s.sl.sub (s.s0.trans e2)⟩⟩
theorem ev_call0 (fn : CallD Γ.g k x f) (hk : k ≤ Γ.k) (hg : glB Γ.sc x = true) (ha : (f [] κ).sat Φ Ψ) (hdb : (x == ("__debug__" : Str)) = false) : EV Γ Ψ ρ κ (.Call (.Name x pp) [] [] pos) Φ := ⟨fun {X m F0 w0 F ow σ w H} s kk Q q => by
  obtain ⟨fa, fd, ps, dvs, ds, dds, f0, hm, hkp, hb, hv, hdd, hok, hf⟩ := fn.ex
  refine ⟨_, pe_call0 (call_fr s.f hok) (s.f.room.mono hk) (s.f.gl hg) (by rw [s.f.mg]; exact hm) (by rw [s.f.K]; exact hkp) (by rw [s.f.K]; exact hb) hv (takes_pass s.x.tk) hdb, ?_⟩
  exact ⟨m, F, w, dds.map .dat, s.K, s.mg, s.x.T, s.st, Args.ofData (hdd m _ _ s.K s.mg), Φ, Ψ, by rw [kk]; have := hf []; rw [List.nil_append] at this; rw [← this]; exact ha, fun r v w3 H' hr le at_ => q r v w3 H' hr le at_, fun cls d H' q => q.back s.sl.sub s.s0⟩⟩
/-! ### keywords -/
def wK (X : Cx) (kws : List Keyword) : TA := fun σ H Q => ∃ t, PK X kws t ∧ t σ H Q
theorem pk_w {X : Cx} {kws : List Keyword} : PK X kws (wK X kws) := ⟨fun pos pins s σ H Q I h => by
  obtain ⟨t, h, q⟩ := h
  exact h.run pos pins s σ H Q I q⟩
structure EVK (Γ : Ctx) (Ψ : Exc → Ks → Prop) (ρ : List En) (κ : Ks) (kws : List Keyword) (Φ : List En → Ks → Prop) : Prop where
  run : ∀ {X : Cx} {m : Pm} {F0 : Hp} {w0 : Wd} {F : Hp} {ow : Nat → Addr} {σ : L2.St} {w : Wd} {H : Hp}, Stt Γ X Ψ ρ m F0 w0 F ow σ w H → w.κ = κ →
    ∀ Q : List V → Hp → Prop, (∀ as vs w2 H2, Φ as w2.κ → w.le w2 → St0 m F w2 H2 → Args m F w2 vs as → Q vs H2) → wK X kws σ H Q
theorem evk_nil {Φ : List En → Ks → Prop} (h : Φ [] κ) : EVK Γ Ψ ρ κ [] Φ := ⟨fun {X m F0 w0 F ow σ w H} s k Q q => ⟨_, pk_nil, q [] [] w H (by rw [k]; exact h) (.refl _) s.st .nil⟩⟩
theorem evk_cons {Φ : List En → Ks → Prop} {nm : Option Str} {kpos : Pos} {kws : List Keyword} (ha : EVD Γ Ψ ρ κ a (fun d κ1 => EVK Γ Ψ ρ κ1 kws (fun as κ2 => Φ (.dat d :: as) κ2))) : EVK Γ Ψ ρ κ (⟨nm, a, kpos⟩ :: kws) Φ := ⟨fun {X m F0 w0 F ow σ w H} s k Q q =>
  ⟨_, pk_cons pe_w pk_w, ha.run s k _ fun y vy w1 H1 p1 e1 s1 d1 => p1.run (s.next e1 s1) rfl _ fun as vs w2 H2 p2 e2 s2 d2 => q (.dat y :: as) (vy :: vs) w2 H2 p2 (e1.trans e2) s2 (.cons (show ArgOk m F w2 vy (.dat y) from Rep.le d1 e2) d2)⟩⟩
theorem evk_consR {Φ : List En → Ks → Prop} {nm : Option Str} {kpos : Pos} {kws : List Keyword} (ha : EVR Γ Ψ ρ κ a (fun d κ1 => EVK Γ Ψ ρ κ1 kws (fun as κ2 => Φ (.ro d :: as) κ2))) : EVK Γ Ψ ρ κ (⟨nm, a, kpos⟩ :: kws) Φ := ⟨fun {X m F0 w0 F ow σ w H} s k Q q =>
  ⟨_, pk_cons pe_w pk_w, ha.run s k _ fun y vy w1 H1 p1 e1 s1 d1 => p1.run (s.next e1 s1) rfl _ fun as vs w2 H2 p2 e2 s2 d2 => q (.ro y :: as) (vy :: vs) w2 H2 p2 (e1.trans e2) s2 (.cons (show ArgOk m F w2 vy (.ro y) from RepR.le d1 e2) d2)⟩⟩
def kwNames : List Keyword → Option (List Str)
  | [] => some []
  | ⟨some x, _, _⟩ :: r => (kwNames r).map (x :: ·)
  | ⟨none, _, _⟩ :: _ => none
theorem kw_all : ∀ {kws : List Keyword} {ks : List Str} (h : kwNames kws = some ks) (env : Env) (pos : Pos), (backToKw pos (keywordEach kws env)).all (·.1.isSome) = true ∧ (backToKw pos (keywordEach kws env)).filterMap (·.1) = ks ∧ (backToKw pos (keywordEach kws env)).any (·.1.isNone) = false
  | [], _, h, env, pos => by cases h; exact ⟨rfl, rfl, rfl⟩
  | ⟨none, _, _⟩ :: _, _, h, env, pos => by cases h
  | ⟨some x, v, p⟩ :: r, ks, h, env, pos => by
    unfold kwNames at h
    cases e : kwNames r with
    | none => rw [e] at h; cases h
    | some ks' =>
      rw [e] at h
      cases h
      obtain ⟨h1, h2, h3⟩ := kw_all e env pos
      have ek : keywordEach (⟨some x, v, p⟩ :: r) env = (some x, eval v env) :: keywordEach r env := rfl
      rw [ek]
      unfold backToKw at h1 h2 h3 ⊢
      refine ⟨?_, ?_, ?_⟩
      · rw [List.map_cons, List.all_cons, h1]; rfl
      · rw [List.map_cons, List.filterMap_cons, h2]
      · rw [List.map_cons, List.any_cons, h3]; rfl
theorem pe_callN0 {X : Cx} {CX : CXT} {k : Nat} {f : Addr} {fd : FuncData} {ps ks : List Str} {sp : Sp} {E : XK} {x : Str} {p pos : Pos} {kws : List Keyword} {tk : TA} {g : List Value → List Value → List Value} {gV : List V → List V → List V}
    (F : FnOk X.prog X.w X.K X.mg X.base CX k f fd ps sp) (hr : Room k X.A) (hg : Gl X x) (hm : X.mg x = some (.ref f)) (hk : PySem.W.keepIn X.K (.ref f) = true) (hb : KBn X.K fd ps 0 ks g gV) (hx : Passes CX X E) (hkw : PK X kws tk)
    (hall : (backToKw pos (keywordEach kws X.env)).all (·.1.isSome) = true) (hks : (backToKw pos (keywordEach kws X.env)).filterMap (·.1) = ks) (hdb : (x == ("__debug__" : Str)) = false)
    (hpl : ((backTo pos (starEach [] X.env)).any (·.1) || (backToKw pos (keywordEach kws X.env)).any (·.1.isNone)) = false) :
    PE X (.Call (.Name x p) [] kws pos) (fun σ H Q => tk σ H fun zs H2 => zs.length = ks.length ∧ sp (gV [] zs) H2 Q E) := by
  refine ⟨fun pins s σ H Q I h => ?_⟩
  refine wpAny_Call_Name_kw (ld_glob I hg hm ?_ hdb)
  refine PySem.W.callWith_KW0 (h₀ := X.base) I.ok.mod.kin hk hall ?_ hpl
  refine thn (hkw.run pos pins s σ H _ I h) fun ws s2 ⟨zs, H2, I2, rz, l2, q2⟩ => ⟨I2.kIn, ?_⟩
  rw [hks]
  exact run_fnN (us := []) F hr hb hx I2 .nil rz rfl l2 q2
theorem ev_callK {ks : List Str} {kws : List Keyword} (fn : CallK Γ.g k x n ks f) (hk : k ≤ Γ.k) (hg : glB Γ.sc x = true)
    (ha : EVA Γ Ψ ρ κ (e :: es) (fun as κ1 => as.length = n ∧ EVK Γ Ψ ρ κ1 kws (fun bs κ2 => bs.length = ks.length ∧ (f (as ++ bs) κ2).sat Φ Ψ))) (hdb : (x == ("__debug__" : Str)) = false) (hkn : kwNames kws = some ks)
    (he : isStar e = false) (hes : (e :: es).all (fun a => !isStar a) = true) : EV Γ Ψ ρ κ (.Call (.Name x pp) (e :: es) kws pos) Φ := ⟨fun {X m F0 w0 F ow σ w H} s kk Q q => by
  obtain ⟨fa, fd, ps, gg, gV, gE, f0, hm, hkp, hb, hr, fo, hf⟩ := fn.ex
  have K1 := s.f.K
  obtain ⟨a1, a2, a3⟩ := kw_all hkn X.env pos
  refine ⟨_, pe_callN (call_fr s.f fo) (s.f.room.mono hk) (s.f.gl hg) (by rw [s.f.mg]; exact hm) (by rw [K1]; exact hkp) (by rw [K1]; exact hb) (takes_pass s.x.tk) pa_w pk_w a1 a2 hdb (star_cons he _) (by rw [star_any hes, a3]; rfl), ?_⟩
  refine ha.run s kk _ fun as' vs w2 H2 p2 e2 s2 d2 => p2.2.run (s.next e2 s2) rfl _ fun bs' zs w3 H3 p3 e3 s3 d3 => ?_
  have l1 : vs.length = n := d2.len.trans p2.1
  have l2 : zs.length = ks.length := d3.len.trans p3.1
  exact ⟨l1, l2, m, F, w3, gE as' bs', s.K, s.mg, s.x.T, s3, hr s.K (d2.le e3) d3 l1 l2, Φ, Ψ, by rw [← hf _ _ p2.1]; exact p3.2, fun r v w4 H' hr le at_ => q r v w4 H' hr ((e2.trans e3).trans le) at_, fun cls d H' q => q.back s.sl.sub ((s.s0.trans e2).trans e3)⟩⟩
theorem ev_callK0 {ks : List Str} {kws : List Keyword} (fn : CallK Γ.g k x 0 ks f) (hk : k ≤ Γ.k) (hg : glB Γ.sc x = true)
    (ha : EVK Γ Ψ ρ κ kws (fun bs κ2 => bs.length = ks.length ∧ (f bs κ2).sat Φ Ψ)) (hdb : (x == ("__debug__" : Str)) = false) (hkn : kwNames kws = some ks) : EV Γ Ψ ρ κ (.Call (.Name x pp) [] kws pos) Φ := ⟨fun {X m F0 w0 F ow σ w H} s kk Q q => by
  obtain ⟨fa, fd, ps, gg, gV, gE, f0, hm, hkp, hb, hr, fo, hf⟩ := fn.ex
  have K1 := s.f.K
  obtain ⟨a1, a2, a3⟩ := kw_all hkn X.env pos
  refine ⟨_, pe_callN0 (call_fr s.f fo) (s.f.room.mono hk) (s.f.gl hg) (by rw [s.f.mg]; exact hm) (by rw [K1]; exact hkp) (by rw [K1]; exact hb) (takes_pass s.x.tk) pk_w a1 a2 hdb (by rw [a3]; rfl), ?_⟩
  refine ha.run s kk _ fun bs' zs w3 H3 p3 e3 s3 d3 => ?_
  have l2 : zs.length = ks.length := d3.len.trans p3.1
  exact ⟨l2, m, F, w3, gE [] bs', s.K, s.mg, s.x.T, s3, hr s.K .nil d3 rfl l2, Φ, Ψ, by rw [← hf [] _ rfl]; exact p3.2, fun r v w4 H' hr le at_ => q r v w4 H' hr (e3.trans le) at_, fun cls d H' q => q.back s.sl.sub (s.s0.trans e3)⟩⟩
end
end VL

namespace VL
open PySem PySem.Spec PyProof.Rows L2

/-! ### statements -/
structure Pst where
  nx : List En → Ks → Prop
  rt : Rs → Ks → Prop
  bk : List En → Ks → Prop := fun _ _ => False
  ct : List En → Ks → Prop := fun _ _ => False
def ends1 (m : Pm) (F0 : Hp) (w0 : Wd) (nx : List En → Ks → Prop) (σ' : L2.St) (H' : Hp) : Prop := ∃ ρ' F' ow' w', nx ρ' w'.κ ∧ w0.le w' ∧ Slots m F0 F' ow' ρ' σ' w' ∧ St0 m F' w' H'
def ends (p : Pst) (m : Pm) (F0 : Hp) (w0 : Wd) : Ends where
  nx := ends1 m F0 w0 p.nx
  rt := fun v H' => ∃ r w', p.rt r w'.κ ∧ w0.le w' ∧ RsAt m F0 w' v H' r
  bk := ends1 m F0 w0 p.bk
  ct := ends1 m F0 w0 p.ct
structure SD (Γ : Ctx) (Ψ : Exc → Ks → Prop) (ρ : List En) (κ : Ks) (ss : List Stmt) (p : Pst) : Prop where
  run : ∀ {X : Cx} {m : Pm} {F0 : Hp} {w0 : Wd} {F : Hp} {ow : Nat → Addr} {σ : L2.St} {w : Wd} {H : Hp}, Stt Γ X Ψ ρ m F0 w0 F ow σ w H → w.κ = κ → wSs X ss (ends p m F0 w0) σ H
/-- one statement -/
structure SD1 (Γ : Ctx) (Ψ : Exc → Ks → Prop) (ρ : List En) (κ : Ks) (st : Stmt) (p : Pst) : Prop where
  run : ∀ {X : Cx} {m : Pm} {F0 : Hp} {w0 : Wd} {F : Hp} {ow : Nat → Addr} {σ : L2.St} {w : Wd} {H : Hp}, Stt Γ X Ψ ρ m F0 w0 F ow σ w H → w.κ = κ → wS X st (ends p m F0 w0) σ H
theorem wSs_mono {X : Cx} {ss : List Stmt} {D D' : Ends} {σ : L2.St} {H : Hp} (h : wSs X ss D σ H) (h1 : ∀ σ H, D.nx σ H → D'.nx σ H) (h2 : ∀ v H, D.rt v H → D'.rt v H) (h3 : ∀ σ H, D.bk σ H → D'.bk σ H) (h4 : ∀ σ H, D.ct σ H → D'.ct σ H) : wSs X ss D' σ H := by
  obtain ⟨t, ht, q⟩ := h
  refine ⟨fun D2 σ H => t D σ H ∧ (∀ σ H, D.nx σ H → D2.nx σ H) ∧ (∀ v H, D.rt v H → D2.rt v H) ∧ (∀ σ H, D.bk σ H → D2.bk σ H) ∧ (∀ σ H, D.ct σ H → D2.ct σ H), ⟨fun pins s σ H D2 I hh => ?_⟩, q, h1, h2, h3, h4⟩
  obtain ⟨q, h1, h2, h3, h4⟩ := hh
  refine thn (ht.run pins s σ H D I q) fun f s1 z => ?_
  cases f with
  | next =>
    obtain ⟨σ', H', I', q'⟩ := z
    exact ⟨σ', H', I', h1 _ _ q'⟩
  | brk =>
    obtain ⟨σ', H', I', q'⟩ := z
    exact ⟨σ', H', I', h3 _ _ q'⟩
  | cont =>
    obtain ⟨σ', H', I', q'⟩ := z
    exact ⟨σ', H', I', h4 _ _ q'⟩
  | ret u =>
    obtain ⟨v, σ', H', I', r, q'⟩ := z
    exact ⟨v, σ', H', I', r, h2 _ _ q'⟩
theorem ends1.later {m : Pm} {F0 : Hp} {w0 w1 : Wd} {n : List En → Ks → Prop} (e : w0.le w1) {σ : L2.St} {H : Hp} (q : ends1 m F0 w1 n σ H) : ends1 m F0 w0 n σ H := by
  obtain ⟨ρ', F', ow', w', h1, h2, h3⟩ := q
  exact ⟨ρ', F', ow', w', h1, e.trans h2, h3⟩
theorem ends1.imp {m : Pm} {F0 : Hp} {w0 : Wd} {n n' : List En → Ks → Prop} (h : ∀ ρ κ, n ρ κ → n' ρ κ) {σ : L2.St} {H : Hp} (q : ends1 m F0 w0 n σ H) : ends1 m F0 w0 n' σ H := by
  obtain ⟨ρ', F', ow', w', h1, h2⟩ := q
  exact ⟨ρ', F', ow', w', h _ _ h1, h2⟩
theorem XOk.later {Γ : Ctx} {X : Cx} {m : Pm} {F0 : Hp} {w0 w1 : Wd} {Ψ : Exc → Ks → Prop} (x : XOk Γ X m F0 w0 Ψ) (e : w0.le w1) : XOk Γ X m F0 w1 Ψ :=
  ⟨x.K, x.mg, x.T, x.nd, x.calm, x.po, x.tk.imp fun _ _ _ _ h => h.back (fun _ _ q => q) e, x.lm⟩

/-! ### slots -/
section
variable {ρ : List En} {m : Pm} {F0 F : Hp} {w : Wd} {ow : Nat → Addr} {σ : L2.St} {i : Nat} {v : V} {en : En} {q : Addr} {o : HO} {x : Ow}
theorem lt_of_set {α : Type} {l : List α} {i j : Nat} {a b : α} (h : (l.set i a)[j]? = some b) : j < l.length := by
  have := (List.getElem?_eq_some_iff.mp h).1
  simpa using this
theorem Slots.put (s : Slots m F0 F ow ρ σ w) (h : EnOk m F0 F w (ow i) (some (some v)) en) (ho : ∀ x, en ≠ .own x) : Slots m F0 F ow (ρ.set i en) (σ.set i (some v)) w := by
  have key : ∀ {j : Nat} {x : Ow}, (ρ.set i en)[j]? = some (.own x) → ρ[j]? = some (.own x) := fun {j x} hj => by
    by_cases e : i = j
    · subst e
      rw [List.getElem?_set_self (lt_of_set hj)] at hj
      exact absurd (Option.some.inj hj) (ho x)
    · rw [List.getElem?_set_ne e] at hj
      exact hj
  refine ⟨by simp [s.len], fun j en' hj => ?_, fun j k x y hj hk e => s.inj j k x y (key hj) (key hk) e, s.sub, fun j x hj => s.new j x (key hj)⟩
  by_cases e : i = j
  · subst e
    have hlt := lt_of_set hj
    rw [List.getElem?_set_self hlt] at hj
    cases hj
    rw [List.getElem?_set_self (by rw [s.len]; exact hlt)]
    exact h
  · rw [List.getElem?_set_ne e] at hj ⊢
    exact s.ok j en' hj
/-- an address that no slot owns -/
theorem Slots.free_of (s : Slots m F0 F ow ρ σ w) (h : F q = none) : ∀ i x, ρ[i]? = some (.own x) → ow i ≠ q := fun i x hi e => by
  obtain ⟨_, ob, h2, _⟩ := s.ok i _ hi
  rw [e, h] at h2
  cases h2
/-- the frame gets a further object -/
theorem Slots.grow (s : Slots m F0 F ow ρ σ w) (h : F q = none) : Slots m F0 (upd F q o) ow ρ σ w := by
  refine ⟨s.len, fun i en hi => ?_, s.inj, fun a u e => ?_, s.new⟩
  · have z := s.ok i en hi
    cases en with
    | un => exact True.intro
    | dat d => exact z
    | ro d => exact z
    | own x =>
      obtain ⟨h1, ob, h2, h3⟩ := z
      exact ⟨h1, ob, by rw [upd_ne (s.free_of h i x hi)]; exact h2, h3⟩
  · rw [upd_ne (fun z => by have := s.sub a u e; rw [z, h] at this; cases this)]
    exact s.sub a u e
theorem Slots.putOwn (s : Slots m F0 F ow ρ σ w) (hF : F q = none) (oa : OwAt m w o x) :
    Slots m F0 (upd F q o) (fun j => if j = i then q else ow j) (ρ.set i (.own x)) (σ.set i (some (.ref q))) w := by
  have g := s.grow (o := o) hF
  have fr := s.free_of hF
  refine ⟨by simp [s.len], fun j en' hj => ?_, fun j k ds1 es hj hk e => ?_, g.sub, fun j ds1 hj => ?_⟩
  · by_cases e : i = j
    · subst e
      have hlt := lt_of_set hj
      rw [List.getElem?_set_self hlt] at hj
      cases hj
      rw [List.getElem?_set_self (by rw [s.len]; exact hlt), if_pos rfl]
      exact ⟨rfl, o, upd_same, oa⟩
    · rw [List.getElem?_set_ne e] at hj ⊢
      rw [if_neg (fun z => e z.symm)]
      exact g.ok j en' hj
  · by_cases e1 : i = j
    · by_cases e2 : i = k
      · rw [← e1, ← e2]
      · rw [List.getElem?_set_ne e2] at hk
        rw [if_pos e1.symm, if_neg (fun z => e2 z.symm)] at e
        exact absurd e.symm (fr k es hk)
    · rw [List.getElem?_set_ne e1] at hj
      by_cases e2 : i = k
      · rw [if_neg (fun z => e1 z.symm), if_pos e2.symm] at e
        exact absurd e (fr j ds1 hj)
      · rw [List.getElem?_set_ne e2] at hk
        rw [if_neg (fun z => e1 z.symm), if_neg (fun z => e2 z.symm)] at e
        exact s.inj j k ds1 es hj hk e
  · by_cases e : i = j
    · rw [if_pos e.symm]
      cases z : F0 q with
      | none => rfl
      | some u => rw [s.sub q u z] at hF; cases hF
    · rw [List.getElem?_set_ne e] at hj
      rw [if_neg (fun z => e z.symm)]
      exact s.new j ds1 hj
/-- an owned object is written -/
theorem Slots.write {y : Ow} (s : Slots m F0 F ow ρ σ w) (hi : ρ[i]? = some (.own y)) (oa : OwAt m w o x) : Slots m F0 (upd F (ow i) o) ow (ρ.set i (.own x)) σ w := by
  have hlt := (List.getElem?_eq_some_iff.mp hi).1
  have key : ∀ {j : Nat} {z : Ow}, (ρ.set i (.own x))[j]? = some (.own z) → ∃ z', ρ[j]? = some (.own z') := fun {j z} hj => by
    by_cases e : i = j
    · subst e
      exact ⟨y, hi⟩
    · rw [List.getElem?_set_ne e] at hj
      exact ⟨z, hj⟩
  refine ⟨by simp [s.len], fun j en' hj => ?_, fun j k ds1 es hj hk e => ?_, fun a u e => ?_, fun j ds1 hj => ?_⟩
  · by_cases e : i = j
    · subst e
      rw [List.getElem?_set_self hlt] at hj
      cases hj
      exact ⟨(s.ok i _ hi).1, o, upd_same, oa⟩
    · rw [List.getElem?_set_ne e] at hj
      have z := s.ok j en' hj
      cases en' with
      | un => exact True.intro
      | dat d => exact z
      | ro d => exact z
      | own x' =>
        obtain ⟨h1, ob, h2, h3⟩ := z
        exact ⟨h1, ob, by rw [upd_ne (fun z => e (s.inj i j _ _ hi hj z.symm))]; exact h2, h3⟩
  · obtain ⟨z1, h1⟩ := key hj
    obtain ⟨z2, h2⟩ := key hk
    exact s.inj j k _ _ h1 h2 e
  · rw [upd_ne (fun z => by have := s.new i y hi; rw [← z, e] at this; cases this)]
    exact s.sub a u e
  · obtain ⟨z1, h1⟩ := key hj
    exact s.new j _ h1
/-- what a slot owns becomes data -/
theorem Slots.freeze {y : Ow} (s : Slots m F0 F ow ρ σ w) (hi : ρ[i]? = some (.own y)) (hF : F (ow i) = some o) (oa : OwAt m w o y) (hG : w.G (ow i) = none) :
    Slots m F0 (fun a => if a = ow i then none else F a) ow (ρ.set i (.dat y.data)) σ (w.addG (ow i) o) := by
  have hlt := (List.getElem?_eq_some_iff.mp hi).1
  have le := le_addG (w := w) (p := ow i) (o := o) hG
  have key : ∀ {j : Nat} {z : Ow}, (ρ.set i (.dat y.data))[j]? = some (.own z) → i ≠ j ∧ ρ[j]? = some (.own z) := fun {j z} hj => by
    by_cases e : i = j
    · subst e
      rw [List.getElem?_set_self hlt] at hj
      cases hj
    · rw [List.getElem?_set_ne e] at hj
      exact ⟨e, hj⟩
  refine ⟨by simp [s.len], fun j en' hj => ?_, fun j k x1 x2 hj hk e => s.inj j k x1 x2 (key hj).2 (key hk).2 e, fun a u e => ?_, fun j x1 hj => s.new j x1 (key hj).2⟩
  · by_cases e : i = j
    · subst e
      rw [List.getElem?_set_self hlt] at hj
      cases hj
      exact ⟨_, (s.ok i _ hi).1, (oa.le le).rd.rep upd_same⟩
    · rw [List.getElem?_set_ne e] at hj
      have z := (s.ok j en' hj).mono le
      cases en' with
      | un => exact True.intro
      | dat d => exact z
      | ro d => exact z
      | own x' =>
        obtain ⟨h1, ob, h2, h3⟩ := z
        exact ⟨h1, ob, by show (if ow j = ow i then none else F (ow j)) = _; rw [if_neg (fun z => e (s.inj i j _ _ hi hj z.symm))]; exact h2, h3⟩
  · show (if a = ow i then none else F a) = some u
    rw [if_neg (fun z => by have := s.new i y hi; rw [← z, e] at this; cases this)]
    exact s.sub a u e
theorem Slots.putUn (s : Slots m F0 F ow ρ σ w) : Slots m F0 F ow (ρ.set i .un) (σ.set i none) w := by
  have key : ∀ {j : Nat} {x : Ow}, (ρ.set i .un)[j]? = some (.own x) → ρ[j]? = some (.own x) := fun {j x} hj => by
    by_cases e : i = j
    · subst e
      rw [List.getElem?_set_self (lt_of_set hj)] at hj
      cases hj
    · rw [List.getElem?_set_ne e] at hj
      exact hj
  refine ⟨by simp [s.len], fun j en' hj => ?_, fun j k x y hj hk e => s.inj j k x y (key hj) (key hk) e, s.sub, fun j x hj => s.new j x (key hj)⟩
  by_cases e : i = j
  · subst e
    rw [List.getElem?_set_self (lt_of_set hj)] at hj
    cases hj
    exact True.intro
  · rw [List.getElem?_set_ne e] at hj ⊢
    exact s.ok j en' hj
theorem Slots.wipe (s : Slots m F0 F ow ρ σ w) : ∀ vs : List Nat, Slots m F0 F ow (wipeE ρ vs) (L2.wipe σ vs) w
  | [] => s
  | v :: vs => (Slots.wipe s vs).putUn
end

/-! ### blocks -/
section
variable {Γ : Ctx} {Ψ : Exc → Ks → Prop} {ρ : List En} {κ : Ks} {a b c e : Expr} {es : List Expr} {pos pos' pp : Pos} {p : Pst} {st : Stmt} {rest body orelse : List Stmt} {x : Str} {i : Nat}
theorem SD.imp {p p' : Pst} {ss : List Stmt} (h : SD Γ Ψ ρ κ ss p) (h1 : ∀ ρ κ, p.nx ρ κ → p'.nx ρ κ) (h2 : ∀ r κ, p.rt r κ → p'.rt r κ) (h3 : ∀ ρ κ, p.bk ρ κ → p'.bk ρ κ) (h4 : ∀ ρ κ, p.ct ρ κ → p'.ct ρ κ) : SD Γ Ψ ρ κ ss p' :=
  ⟨fun s k => wSs_mono (h.run s k) (fun _ _ => ends1.imp h1) (fun v H ⟨r, w, q, ok⟩ => ⟨r, w, h2 r _ q, ok⟩) (fun _ _ => ends1.imp h3) (fun _ _ => ends1.imp h4)⟩
theorem sd_nil (h : p.nx ρ κ) : SD Γ Ψ ρ κ [] p := ⟨fun {X m F0 w0 F ow σ w H} s k => ⟨_, pss_nil, ρ, F, ow, w, by rw [k]; exact h, s.s0, s.sl, s.st⟩⟩
/-- behind a first statement -/
theorem sd_cons (h : SD1 Γ Ψ ρ κ st { p with nx := fun ρ' κ' => SD Γ Ψ ρ' κ' rest p }) : SD Γ Ψ ρ κ (st :: rest) p := ⟨fun {X m F0 w0 F ow σ w H} s k => by
  obtain ⟨t, ht, q⟩ := h.run s k
  refine ⟨tSeq (fun D σ H => ∃ D0 : Ends, t D0 σ H ∧ (∀ σ H, D0.nx σ H → D.nx σ H) ∧ (∀ v H, D0.rt v H → D.rt v H) ∧ (∀ σ H, D0.bk σ H → D.bk σ H) ∧ (∀ σ H, D0.ct σ H → D.ct σ H)) (wSs X rest), pss_cons ⟨fun pins s σ H D I hh => ?_⟩ pss_w, ?_⟩
  · obtain ⟨D0, q, h1, h2, h3, h4⟩ := hh
    refine thn (ht.run pins s σ H D0 I q) fun f s1 z => ?_
    cases f with
    | next =>
      obtain ⟨σ', H', I', q'⟩ := z
      exact ⟨σ', H', I', h1 _ _ q'⟩
    | brk =>
      obtain ⟨σ', H', I', q'⟩ := z
      exact ⟨σ', H', I', h3 _ _ q'⟩
    | cont =>
      obtain ⟨σ', H', I', q'⟩ := z
      exact ⟨σ', H', I', h4 _ _ q'⟩
    | ret u =>
      obtain ⟨v, σ', H', I', r, q'⟩ := z
      exact ⟨v, σ', H', I', r, h2 _ _ q'⟩
  · refine ⟨_, q, fun σ' H' z => ?_, fun _ _ z => z, fun _ _ z => z, fun _ _ z => z⟩
    obtain ⟨ρ', F', ow', w', h1, h2, h3, h4⟩ := z
    exact h1.run ⟨s.f, s.x, h2, h3, h4⟩ rfl⟩
/-- a result handed back to a smaller frame -/
theorem RsAt.back {m : Pm} {F0 F H : Hp} {w : Wd} {v : V} (hs : ∀ a o, F0 a = some o → F a = some o) : ∀ {r : Rs}, RsAt m F w v H r → ∃ w2, w.le w2 ∧ w2.κ = w.κ ∧ RsAt m F0 w2 v H r
  | .dat _, ⟨h1, h2⟩ => by
    obtain ⟨w2, e2, k2, st⟩ := h1.back hs
    exact ⟨w2, e2, k2, st, h2.le e2⟩
  | .new x, ⟨q, o, hv, hF, st, oa⟩ => by
    have hF0 : F0 q = none := by
      cases z : F0 q with
      | none => rfl
      | some u => rw [hs q u z] at hF; cases hF
    obtain ⟨w2, e2, k2, st2⟩ := st.back (F := upd F0 q o) fun a u z => by
      by_cases ha : a = q
      · rw [ha, upd_same] at z ⊢
        exact z
      · rw [upd_ne ha] at z ⊢
        exact hs a u z
    exact ⟨w2, e2, k2, q, o, hv, hF0, st2, oa.le e2⟩
theorem s1_ret (he : EV Γ Ψ ρ κ e p.rt) : SD1 Γ Ψ ρ κ (.Return (some e) pos) p := ⟨fun {X m F0 w0 F ow σ w H} s k =>
  ⟨_, ps_ret pe_w, he.run s k _ fun r v w2 H2 p2 e2 s2 => by
    obtain ⟨w3, e3, k3, at_⟩ := s2.back s.sl.sub
    exact ⟨r, w3, by rw [k3]; exact p2, (s.s0.trans e2).trans e3, at_⟩⟩⟩
theorem s1_retD (he : EVD Γ Ψ ρ κ e (fun d κ' => p.rt (.dat d) κ')) : SD1 Γ Ψ ρ κ (.Return (some e) pos) p := ⟨fun {X m F0 w0 F ow σ w H} s k =>
  ⟨_, ps_ret pe_w, he.run s k _ fun d v w2 H2 p2 e2 s2 d2 => by
    obtain ⟨w3, e3, k3, at_⟩ := (show RsAt m F w2 v H2 (.dat d) from ⟨s2, d2⟩).back s.sl.sub
    exact ⟨.dat d, w3, by rw [k3]; exact p2, (s.s0.trans e2).trans e3, at_⟩⟩⟩
theorem s1_retU (h : p.rt (.dat .none) κ) : SD1 Γ Ψ ρ κ (.Return none pos) p := ⟨fun {X m F0 w0 F ow σ w H} s k =>
  ⟨_, ps_retN, by
    obtain ⟨w3, e3, k3, at_⟩ := (show RsAt m F w .non H (.dat .none) from ⟨s.st, .non⟩).back s.sl.sub
    exact ⟨_, w3, by rw [k3, k]; exact h, s.s0.trans e3, at_⟩⟩⟩
theorem s1_retO {o : Ow} (hρ : ρ[i]? = some (.own o)) (h : p.rt (.new o) κ) (hN : Γ.N[i]? = some x) (hv : visB Γ.sc x = true) (hd : (x == ("__debug__" : Str)) = false) (hcd : (x == ("__classdict__" : Str)) = false) : SD1 Γ Ψ ρ κ (.Return (some (.Name x pos)) pos') p := ⟨fun {X m F0 w0 F ow σ w H} s k => by
  obtain ⟨h1, ob, h2, h3⟩ := s.sl.ok i _ hρ
  refine ⟨_, ps_ret (pe_var (s.f.nth hN) (s.f.vis hv) hd hcd), .ref (ow i), h1, ?_⟩
  obtain ⟨w3, e3, k3, st3⟩ := s.st.back (F := upd F0 (ow i) ob) fun a u z => by
    by_cases ha : a = ow i
    · rw [ha, upd_same] at z
      rw [ha, h2]
      exact z
    · rw [upd_ne ha] at z
      exact s.sl.sub a u z
  exact ⟨.new o, w3, by rw [k3, k]; exact h, s.s0.trans e3, ow i, ob, rfl, s.sl.new i o hρ, st3, h3.le e3⟩⟩
/-! ### assignments to a name -/
def isComp : Expr → Bool
  | .ListComp _ _ _ _ => true
  | .SetComp _ _ _ _ => true
  | .DictComp _ _ _ _ _ => true
  | _ => false
theorem swaps_no {e : Expr} (h : isComp e = false) (t : Option Expr) (l : Nat) (env : Env) : swapsWith e t l env = pure false := by
  cases e <;> first | rfl | cases h
theorem s1_set (he : EVD Γ Ψ ρ κ e (fun d κ' => p.nx (ρ.set i (.dat d)) κ')) (hN : Γ.N[i]? = some x) (hl : locB Γ.sc Γ.top x = true) (hs : ∀ env, env.scope = Γ.sc → swapsWith e (some (.Name x pos')) pos.line env = pure false) : SD1 Γ Ψ ρ κ (.Assign [.Name x pos'] e pos) p := ⟨fun {X m F0 w0 F ow σ w H} s k =>
  ⟨_, ps_set s.x.nd (s.f.nth hN) (s.f.loc hl).1 pe_w (hs _ s.f.sc) (s.f.loc hl).2, he.run s k _ fun d v w2 H2 p2 e2 s2 d2 => ⟨_, F, ow, w2, p2, s.s0.trans e2, (s.sl.mono e2).put ⟨v, rfl, d2⟩ fun _ z => (by cases z), s2⟩⟩⟩
theorem s1_setN (he : EV Γ Ψ ρ κ e (fun r κ' => ∃ o, r = .new o ∧ p.nx (ρ.set i (.own o)) κ')) (hN : Γ.N[i]? = some x) (hl : locB Γ.sc Γ.top x = true) (hs : ∀ env, env.scope = Γ.sc → swapsWith e (some (.Name x pos')) pos.line env = pure false) : SD1 Γ Ψ ρ κ (.Assign [.Name x pos'] e pos) p := ⟨fun {X m F0 w0 F ow σ w H} s k =>
  ⟨_, ps_set s.x.nd (s.f.nth hN) (s.f.loc hl).1 pe_w (hs _ s.f.sc) (s.f.loc hl).2, he.run s k _ fun r v w2 H2 p2 e2 s2 => by
    obtain ⟨o, rfl, hp⟩ := p2
    obtain ⟨q, ob, rfl, hF, st, oa⟩ := s2
    exact ⟨_, _, _, w2, hp, s.s0.trans e2, (s.sl.mono e2).putOwn hF oa, st⟩⟩⟩
theorem s1_setC (he : EV Γ Ψ ρ κ e (fun r κ' => ∃ ds, r = .new (.lst ds) ∧ p.nx (ρ.set i (.dat (.hd κ'.length))) (κ' ++ [.lst ds]))) (hN : Γ.N[i]? = some x) (hl : locB Γ.sc Γ.top x = true) (hs : ∀ env, env.scope = Γ.sc → swapsWith e (some (.Name x pos')) pos.line env = pure false) : SD1 Γ Ψ ρ κ (.Assign [.Name x pos'] e pos) p := ⟨fun {X m F0 w0 F ow σ w H} s k =>
  ⟨_, ps_set s.x.nd (s.f.nth hN) (s.f.loc hl).1 pe_w (hs _ s.f.sc) (s.f.loc hl).2, he.run s k _ fun r v w2 H2 p2 e2 s2 => by
    obtain ⟨ds, rfl, hp⟩ := p2
    obtain ⟨q, ob, rfl, hF, st, vs, rfl, hr⟩ := s2
    obtain ⟨le, st2⟩ := st.cellN hF hr
    exact ⟨_, F, ow, _, hp, (s.s0.trans e2).trans le, (s.sl.mono (e2.trans le)).put (en := .dat (.hd w2.κ.length)) ⟨_, rfl, .hd (by show (w2.A ++ [q])[w2.κ.length]? = _; rw [← st.cells.len, List.getElem?_append_right (Nat.le_refl _), Nat.sub_self]; rfl)⟩ fun _ z => (by cases z), st2⟩⟩⟩
/-- what a slot owns becomes data, ahead of a statement -/
theorem sd_frz {ss : List Stmt} (h : SD Γ Ψ (frzS ρ i) κ ss p) : SD Γ Ψ ρ κ ss p := by
  unfold frzS at h
  split at h
  · rename_i o hi
    exact ⟨fun {X m F0 w0 F ow σ w H} s k => by
      obtain ⟨h1, ob, h2, h3⟩ := s.sl.ok i _ hi
      have hG := (s.st.fr _ _ h2).2.1
      refine h.run (w := w.addG (ow i) ob) (F := fun a => if a = ow i then none else F a) (ow := ow) ⟨s.f, s.x, s.s0.trans (le_addG hG), s.sl.freeze hi h2 h3 hG, ?_⟩ k
      refine St0.freeze (F := fun a => if a = ow i then none else F a) ?_ (if_pos rfl)
      have e : upd (fun a => if a = ow i then none else F a) (ow i) ob = F := by
        funext a
        by_cases z : a = ow i
        · rw [z, upd_same, h2]
        · rw [upd_ne z, if_neg z]
      rw [e]
      exact s.st⟩
  · exact h
theorem s1_if (hc : EVT Γ Ψ ρ κ c (fun k κ' => if k = true then SD Γ Ψ ρ κ' body p else SD Γ Ψ ρ κ' orelse p)) : SD1 Γ Ψ ρ κ (.If c body orelse pos) p :=
  ⟨fun {X m F0 w0 F ow σ w H} s k => ⟨_, ps_if pt_w pss_w pss_w, hc.run s k _ fun b w2 H2 p2 e2 s2 => by
    cases b with
    | true => exact iteT ((show SD Γ Ψ ρ w2.κ body p from p2).run (s.next e2 s2) rfl)
    | false => exact iteF ((show SD Γ Ψ ρ w2.κ orelse p from p2).run (s.next e2 s2) rfl)⟩⟩
theorem s1_expr (he : EV Γ Ψ ρ κ e (fun _ κ' => p.nx ρ κ')) (hs : ∀ env, swapsWith e none pos.line env = pure false) : SD1 Γ Ψ ρ κ (.Expr e pos) p := ⟨fun {X m F0 w0 F ow σ w H} s k =>
  ⟨_, ps_expr pe_w (hs _), he.run s k _ fun r v w2 H2 p2 e2 s2 => by
    obtain ⟨w3, e3, k3, st, _⟩ := s2.data
    exact ⟨ρ, F, ow, w3, by rw [k3]; exact p2, (s.s0.trans e2).trans e3, s.sl.mono (e2.trans e3), st⟩⟩⟩
theorem s1_pass (h : p.nx ρ κ) : SD1 Γ Ψ ρ κ (.Pass pos) p := ⟨fun {X m F0 w0 F ow σ w H} s k => ⟨_, ps_pass, ρ, F, ow, w, by rw [k]; exact h, s.s0, s.sl, s.st⟩⟩
theorem s1_continue (h : p.ct ρ κ) : SD1 Γ Ψ ρ κ (.Continue pos) p := ⟨fun {X m F0 w0 F ow σ w H} s k => ⟨_, ps_continue, ρ, F, ow, w, by rw [k]; exact h, s.s0, s.sl, s.st⟩⟩
theorem s1_break (h : p.bk ρ κ) : SD1 Γ Ψ ρ κ (.Break pos) p := ⟨fun {X m F0 w0 F ow σ w H} s k => ⟨_, ps_break, ρ, F, ow, w, by rw [k]; exact h, s.s0, s.sl, s.st⟩⟩
/-! ### x[k] = e -/
theorem each_sub {o idx : Expr} {tpos : Pos} (env : Env) : (assignEach [.Subscript o idx tpos] env).map (·.2) = [assign (.Subscript o idx tpos) env] := rfl
theorem s1_putO {idx : Expr} {tpos : Pos} {ds : List D} (hx : ρ[i]? = some (.own (.lst ds))) (he : EVD Γ Ψ ρ κ e (fun y κ1 => EVD Γ Ψ ρ κ1 idx (fun z κ2 => ∃ n j, z = .int n ∧ ixN ds.length n = some j ∧ p.nx (ρ.set i (.own (.lst (ds.set j y)))) κ2)))
    (hN : Γ.N[i]? = some x) (hv : visB Γ.sc x = true) (hd : (x == ("__debug__" : Str)) = false) (hcd : (x == ("__classdict__" : Str)) = false) (ha : ∀ env v, assign (.Subscript (.Name x pp) idx tpos) env v = (do
      let ov ← holding [v] (eval (.Name x pp) env)
      let iv ← holding [v, ov] (eval idx env)
      standAt tpos
      holding [v, ov, iv] (setItem ov iv v)
      release [v, ov, iv] [])) : SD1 Γ Ψ ρ κ (.Assign [.Subscript (.Name x pp) idx tpos] e pos) p := ⟨fun {X m F0 w0 F ow σ w H} s k => by
  obtain ⟨g1, ob, g2, vs, rfl, g3⟩ := s.sl.ok i _ hx
  refine ⟨_, ps_asg pe_w (pg_sub (pe_var (s.f.nth hN) (s.f.vis hv) hd hcd) pe_w set_list (ha _)) (by cases e <;> rfl) (by cases e <;> rfl) (each_sub _), he.run s k _ fun y v1 w1 H1 p1 e1 s1 d1 => ?_⟩
  refine ⟨.ref (ow i), g1, p1.run (s.next e1 s1) rfl _ fun z v2 w2 H2 p2 e2 s2 d2 => ?_⟩
  obtain ⟨n, j, rfl, hj, hp⟩ := p2
  rw [d2.int_inv]
  refine ⟨ow i, vs, n, j, rfl, rfl, (s2.fr _ _ g2).1, by rw [g3.len]; exact hj, ?_⟩
  exact ⟨_, _, ow, w2, hp, (s.s0.trans e1).trans e2, (s.sl.mono (e1.trans e2)).write hx ⟨_, rfl, (g3.le (e1.trans e2)).set (d1.le e2) j⟩, s2.write g2 lst_code⟩⟩
theorem s1_putH {idx : Expr} {tpos : Pos} {h : Nat} (hx : ρ[i]? = some (.dat (.hd h))) (he : EVD Γ Ψ ρ κ e (fun y κ1 => EVD Γ Ψ ρ κ1 idx (fun z κ2 => ∃ n j ds, z = .int n ∧ κ2[h]? = some (.lst ds) ∧ ixN ds.length n = some j ∧ p.nx ρ (κ2.set h (.lst (ds.set j y))))))
    (hN : Γ.N[i]? = some x) (hv : visB Γ.sc x = true) (hd : (x == ("__debug__" : Str)) = false) (hcd : (x == ("__classdict__" : Str)) = false) (ha : ∀ env v, assign (.Subscript (.Name x pp) idx tpos) env v = (do
      let ov ← holding [v] (eval (.Name x pp) env)
      let iv ← holding [v, ov] (eval idx env)
      standAt tpos
      holding [v, ov, iv] (setItem ov iv v)
      release [v, ov, iv] [])) : SD1 Γ Ψ ρ κ (.Assign [.Subscript (.Name x pp) idx tpos] e pos) p := ⟨fun {X m F0 w0 F ow σ w H} s k => by
  obtain ⟨v, g1, g2⟩ := s.sl.ok i _ hx
  cases g2 with
  | @hd _ a hA =>
    refine ⟨_, ps_asg pe_w (pg_sub (pe_var (s.f.nth hN) (s.f.vis hv) hd hcd) pe_w set_list (ha _)) (by cases e <;> rfl) (by cases e <;> rfl) (each_sub _), he.run s k _ fun y v1 w1 H1 p1 e1 s1 d1 => ?_⟩
    refine ⟨.ref a, g1, p1.run (s.next e1 s1) rfl _ fun z v2 w2 H2 p2 e2 s2 d2 => ?_⟩
    obtain ⟨n, j, ds, rfl, hc, hj, hp⟩ := p2
    rw [d2.int_inv]
    obtain ⟨a', vs, h1, h2, h3⟩ := s2.cellL hc
    have hA2 := pre_get (e1.trans e2).a hA
    rw [hA2] at h1
    cases h1
    refine ⟨a, vs, n, j, rfl, rfl, (s2.cl _ _ h2).1, by rw [h3.len]; exact hj, ?_⟩
    have st := s2.cellW hc hA2 h2 (h3.set (d1.le e2) j)
    have le : w2.le { w2 with C := upd w2.C a (.lst (vs.set j v1)), κ := w2.κ.set h (.lst (ds.set j y)) } := ⟨.refl _, List.prefix_refl _⟩
    exact ⟨ρ, F, ow, _, hp, ((s.s0.trans e1).trans e2).trans le, s.sl.mono ((e1.trans e2).trans le), st⟩⟩
end
end VL

namespace VL
open PySem PySem.Spec PyProof.Rows L2

theorem meets_enum1 {v : Value} {o : Obj} {H : Heap → Prop} (B : Begins v o H) :
    Meets (Builtin.«enumerate.__new__» ⟨[.type "enumerate", v], []⟩) (fun _ R s => H s.heap ∧
      R (.ok (.ret (.ref (s.heap.push o).objs.size))) { s with heap := (s.heap.push o).push { cls := .type "enumerate", data := .fields #[.none, .bool false, .ref s.heap.objs.size, rawInt 0, .none, .none] } }) :=
  .of_wp fun prog w A R s h => by
    obtain ⟨hp, g, d, tk, os⟩ := s; obtain ⟨h1, h⟩ := h
    have hsub := sub_enumerate
    have q1 : ∀ {A' : Around} {E : Value → Shared → Prop} {Q : Value → Shared → Prop}, Q (.ref hp.objs.size) ⟨hp.push o, g, d, tk, os⟩ → wpAny (model prog w) A' (pyIter v) Q E ⟨hp, g, d, tk, os⟩ :=
      fun q => B.iter prog w _ _ ⟨hp, g, d, tk, os⟩ _ h1 q
    wp_walk using q1
    refine wpAny_stack_any fun st => wpAny_pure ?_
    split
    · rename_i c _ _ _ _ _
      cases (c == Value.type "enumerate")
      · wp_walk using q1
        exact ⟨_, rfl, h⟩
      · wp_walk using q1
        exact ⟨_, rfl, h⟩
    · wp_walk using q1
      exact ⟨_, rfl, h⟩
theorem enum_begins1 {prog : Program} {w : World} {A : Around} {E : Value → Shared → Prop} {s : Shared} {v : Value} {o : Obj} {H : Heap → Prop} {Q : Value → Shared → Prop} (B : Begins v o H) (h1 : H s.heap)
    (h : ∀ h', IsEnum h' (s.heap.objs.size + 1) s.heap.objs.size 0 .none → h'.get? s.heap.objs.size = some o → h'.objs.size = s.heap.objs.size + 2 →
      (∀ b o, s.heap.get? b = some o → h'.get? b = some o) → Q (.ref (s.heap.objs.size + 1)) { s with heap := h' }) :
    wpAny (model prog w) A (call (.type "enumerate") [v]) Q E s := by
  refine callType_new F.called_enumerate (by decide) (F.typeCall_enumerate_1 _) (F.newCall_enumerate_1 _) (fun obj => F.args_object_init_2 obj _) F.entry_enumerate_new
    (meets_enum1 B) ⟨h1, ?_⟩
  have hz : (s.heap.push o).objs.size = s.heap.objs.size + 1 := Heap.size_push ..
  show _ ∧ _
  rw [hz]
  have he : IsEnum ((s.heap.push o).push { cls := .type "enumerate", data := .fields #[.none, .bool false, .ref s.heap.objs.size, rawInt 0, .none, .none] }) (s.heap.objs.size + 1) s.heap.objs.size 0 .none := by
    have := Heap.get?_push_size (s.heap.push o) (o := { cls := .type "enumerate", data := .fields #[.none, .bool false, .ref s.heap.objs.size, rawInt 0, .none, .none] }) rfl
    rw [hz] at this; exact this
  refine ⟨⟨_, he, rfl⟩, h _ he (Heap.get?_push_of_some _ (Heap.get?_push_size _ B.free)) (by rw [Heap.size_push, hz]) fun b o x => Heap.get?_push_of_some _ (Heap.get?_push_of_some _ x)⟩
/-- the tuple at a, numbered -/
def IteT (K : PySem.W.Frag) (a : Addr) : It :=
  ⟨fun i H => ∃ (xs : List V) (x : V), SqT K H a xs ∧ xs[i]? = some x, fun i H v H' => ∃ T x, v = .ref T ∧ H T = none ∧ H' = upd H T (.tup [.int (i : Nat), x]) ∧ ∀ xs, SqT K H a xs → xs[i]? = some x, fun i H => ∃ xs : List V, SqT K H a xs ∧ xs.length ≤ i⟩
theorem turn_enumT {P : Program} {w : World} {K : PySem.W.Frag} {elts : List Expr} {kk : Nat} {tpos : Pos} (a e it : Addr) (hai : a ≠ it) (hae : a ≠ e) :
    Turn P w K (.Tuple elts kk tpos) (IteT K a) [e, it] e (fun i h => (∃ old, IsEnum h e it ((i : Nat) : Int) old) ∧ h.IsTupleIter it a i ∧ e ≠ it) where
  mem := by simp
  obj := fun i h st b hb => by
    obtain ⟨⟨old, he⟩, ⟨o, ho, hc, hd⟩, _⟩ := st
    have e' : b = e ∨ b = it := by simpa using hb
    rcases e' with z | z
    · rw [z]; exact ⟨_, he, fun v q => nomatch q⟩
    · rw [z]; exact ⟨o, ho, fun v q => by rw [hd] at q; cases q⟩
  keep := fun i h h' st k => let ⟨⟨old, he⟩, hi, hne⟩ := st; ⟨⟨old, k e (by simp) _ he⟩, hi.at fun o q => k it (by simp) o q, hne⟩
  item := by
    intro X hP hw hK hc i pins s σ H E I hf st hg
    subst hP hw hK
    obtain ⟨⟨old, he⟩, hit, hne⟩ := st
    obtain ⟨xs, x, hq, hx⟩ := hg
    obtain ⟨its, rv, p, hz⟩ := I.tuple hq
    obtain ⟨u, hu, ru⟩ := rv.get hx
    have hel : e < s.heap.objs.size := Heap.lt_size he
    have hil : it < s.heap.objs.size := by obtain ⟨_, q, _⟩ := hit; exact Heap.lt_size q
    have hlt : i < its.toArray.size := by
      have := (List.getElem?_eq_some_iff.mp hu).1
      simpa using this
    refine wpAny_pyNext_enum_itemD (Draws.tuple (show X.A.in1.handled = none from I.ok.hd hc) it a hai its.toArray) he ⟨hit, p⟩ hlt hne (by simp [hne, Ne.symm hae]) fun y h' tk hy ho hit' hT hsz hk => ?_
    have ey : y = u := by
      have : its.toArray[i]? = some u := by simpa using hu
      rw [this] at hy
      exact (Option.some.inj hy).symm
    subst ey
    refine ⟨_, rfl, wpAny_letOwnedTupleGo_enum (s := { s with heap := h', toks := tk + 1 }) ho fun h'' he' sb => ?_⟩
    have hT2 : h''.get? s.heap.objs.size = some { cls := .type "tuple", data := .seq #[.int i tk, y] } := (sb.2 _ (Nat.ne_of_gt hel)).trans hT
    have new : ObjOk X.prog X.w (upd H s.heap.objs.size (.tup [.int (i : Nat), x])) h'' s.heap.objs.size (.tup [.int (i : Nat), x]) :=
      ⟨by show 2 ≤ sizeLine; decide, [.int i tk, y], .cons ⟨_, rfl⟩ (.cons ru .nil), ⟨_, hT2, rfl, _, rfl⟩⟩
    have I1 : Inv X pins σ (upd H s.heap.objs.size (.tup [.int (i : Nat), x])) { s with heap := h'', toks := tk + 1 } :=
      I.turnedNew (ch := [e, it]) (fun b ob hb q => (sb.2 b (fun z => hb (by simp [z]))).trans (hk b ob (fun z => hb (by simp [z])) (fun z => hb (by simp [z])) q)) hf (Nat.le_refl _) new
    refine ⟨.ref s.heap.objs.size, _, I1, rfl, ⟨_, x, rfl, I.hok.fresh (Nat.le_refl _), rfl, fun ys hy => by rw [I.tuple_inj hy hq]; exact hx⟩, ⟨⟨y, ?_⟩, hit'.1.at fun o q => (sb.2 it (Ne.symm hne)).trans q, hne⟩, fun b hb => ?_⟩
    · have e1 : ((i + 1 : Nat) : Int) = (i : Int) + 1 := by omega
      rw [e1]; exact he'
    · have hb' : b < s.heap.objs.size := by
        have e' : b = e ∨ b = it := by simpa using hb
        rcases e' with z | z
        · rw [z]; exact hel
        · rw [z]; exact hil
      rw [upd_ne (Nat.ne_of_lt hb')]
      exact (hf b hb).1
  done := by
    intro X hP hw hK hc i pins s σ H E I hf st hg
    subst hP hw hK
    obtain ⟨⟨old, he⟩, hit, hne⟩ := st
    obtain ⟨xs, hq, hx⟩ := hg
    obtain ⟨its, rv, p, hz⟩ := I.tuple hq
    obtain ⟨f0, f1, f2, f3, f4, f5⟩ := hf it (by simp)
    have hl := rv.length
    have D : Draws X.prog X.w X.A.in1 it [it, a] i (fun _ _ => True) (fun j h => j = i ∧ h.IsTupleIter it a j ∧ h.IsTuple a its.toArray) := {
      live := fun _ _ st => let ⟨o, ho, _⟩ := st.2.1; ⟨o, ho⟩
      frame := fun _ _ _ st hk => ⟨st.1, st.2.1.at fun o e => hk it (by simp) o e, st.2.2.at fun o e => hk a (by simp) o e⟩
      item := fun j s Q E hj st hQ => absurd hj (by rw [st.1]; exact Nat.lt_irrefl _)
      done := fun s Q E st hE => wpAny_nextOf_tuple_end (show X.A.in1.handled = none from I.ok.hd hc) st.2.1 st.2.2 (by simp; omega) hE }
    exact wpAny_pyNext_enum_endD D he ⟨rfl, hit, p⟩ fun h' eb => ⟨rfl, I.turned (t' := s.toks) (fun b o hb q => eb b o hb q) f0 f1 f3 f4 f5⟩
  self := fun A i s Q E st h => let ⟨⟨_, he⟩, _⟩ := st; wpAny_pyIter_enum he h
def iEnumT (K : PySem.W.Frag) (ta : TA) : TI := fun σ H R => ta σ H fun vs H1 => ∃ a xs, vs = [.ref a] ∧ SqT K H1 a xs ∧ R (IteT K a) H1
theorem pi_enumT {X : Cx} {e : Expr} {ta : TA} {p pos tpos : Pos} {elts : List Expr} {kk : Nat} (hg : Gl X "enumerate") (hm : X.mg "enumerate" = none) (ha : PA X [e] ta) (hs : starEach [e] X.env = [(false, eval e X.env)] := by rfl) :
    PI X (.Tuple elts kk tpos) (.Call (.Name "enumerate" p) [e] [] pos) (iEnumT X.K ta) := by
  refine ⟨fun pins s σ H R I h => ?_⟩
  refine Call_ (ld_blt I hg hm boot_enumerate (PyProof.Rows.callWith_type1 (thn (ha.run pos pins s σ H _ I h) fun us s1 ⟨vs, H1, I1, r1, q1⟩ => ?_) hs rfl))
  obtain ⟨a, xs, ex, hq, q⟩ := q1
  subst ex
  cases r1 with
  | cons r rr =>
    cases rr
    cases r
    obtain ⟨its, rv, p', hz⟩ := I1.tuple hq
    have hal : a < s1.heap.objs.size := p'.lt
    refine enum_begins1 (begins_tuple a its.toArray) p' fun h' he hit hsz hk => wpAny_pyIter_enum he ?_
    have I2 : Inv X pins σ H1 { s1 with heap := h' } := I1.kept (t' := s1.toks) hk
    refine ⟨s1.heap.objs.size + 1, [s1.heap.objs.size + 1, s1.heap.objs.size], _, _, H1, rfl, I2, turn_enumT a (s1.heap.objs.size + 1) s1.heap.objs.size (Nat.ne_of_lt hal) (Nat.ne_of_lt (Nat.lt_succ_of_lt hal)), ⟨⟨.none, he⟩, ⟨_, hit, rfl, rfl⟩, Nat.succ_ne_self _⟩, fun b hb => ?_, q⟩
    have e' : b = s1.heap.objs.size + 1 ∨ b = s1.heap.objs.size := by simpa using hb
    have hle : s1.heap.objs.size ≤ b := by
      rcases e' with z | z
      · rw [z]; exact Nat.le_add_right _ _
      · rw [z]; exact Nat.le_refl _
    exact I1.fpOk hle (I1.hok.fresh hle)

/-! ### append -/
section
variable {Γ : Ctx} {Ψ : Exc → Ks → Prop} {ρ : List En} {κ : Ks} {a b c e tg iter : Expr} {es ts : List Expr} {pos pos' pp p2 tpos : Pos} {p : Pst} {st : Stmt} {rest body orelse : List Stmt} {x y : Str} {i j : Nat} {d : D} {ds xs ys : List D} {kk : Nat} {elts : List Expr}
theorem few1 {e : Expr} (hs : isStar e = false) (env : Env) (pos : Pos) : (((backTo pos (starEach [e] env)).all fun x => !x.fst) && ((backToKw pos (keywordEach [] env)).all fun x => x.fst.isSome) && decide (([e].length + ([] : List Keyword).length + if ([] : List Keyword).isEmpty = true then 0 else 1) < 30)) = true := by
  rw [star_cons hs]
  rfl
theorem s1_app (hx : ρ[i]? = some (.own (.lst ds))) (he : EVD Γ Ψ ρ κ e (fun y κ1 => ds.length < sizeLine ∧ p.nx (ρ.set i (.own (.lst (ds ++ [y])))) κ1))
    (hN : Γ.N[i]? = some x) (hv : visB Γ.sc x = true) (hd : (x == ("__debug__" : Str)) = false) (hcd : (x == ("__classdict__" : Str)) = false) (hs : isStar e = false) (hline : (p2.endLine == pos'.line) = true) : SD1 Γ Ψ ρ κ (.Expr (.Call (.Attribute (.Name x pp) "append" p2) [e] [] pos') pos) p := ⟨fun {X m F0 w0 F ow σ w H} s k => by
  obtain ⟨g1, ob, g2, vs, rfl, g3⟩ := s.sl.ok i _ hx
  refine ⟨_, ps_expr (pe_bm PySem.F.plainAttrs_list PySem.F.slot_list_append PySem.F.type_list_append mt_append (pe_var (s.f.nth hN) (s.f.vis hv) hd hcd) (pa_cons pe_w pa_nil (star_cons hs _)) (hfew := few1 hs _ _) (hline := hline) (hs := star_cons hs _)) rfl, ?_⟩
  refine ⟨.ref (ow i), g1, .inl ⟨rfl, vs, SqL.of (s.st.fr _ _ g2).1⟩, he.run s k _ fun y v w2 H2 p2 e2 s2 d2 => ?_⟩
  refine ⟨ow i, vs, v, rfl, rfl, (s2.fr _ _ g2).1, by rw [g3.len]; exact p2.1, ?_⟩
  exact ⟨_, _, ow, w2, p2.2, s.s0.trans e2, (s.sl.mono e2).write hx ⟨_, rfl, (g3.le e2).app (.cons d2 .nil)⟩, s2.write g2 lst_code⟩⟩
/-! ### targets -/
def wG (X : Cx) (tg : Expr) : TG := fun v σ H Q => ∃ g, PG X tg g ∧ g v σ H Q
theorem pg_w {X : Cx} {tg : Expr} : PG X tg (wG X tg) := ⟨fun pins s σ H v u Q I r h => by
  obtain ⟨g, hg, q⟩ := h
  exact hg.run pins s σ H v u Q I r q⟩
def wGs (X : Cx) (ts : List Expr) : TGs := fun vs σ H Q => ∃ g, PGs X ts g ∧ g vs σ H Q
theorem pgs_w {X : Cx} {ts : List Expr} : PGs X ts (wGs X ts) := ⟨fun pins s σ H v u Q I r h => by
  obtain ⟨g, hg, q⟩ := h
  exact hg.run pins s σ H v u Q I r q⟩
structure TGT (Γ : Ctx) (Ψ : Exc → Ks → Prop) (ρ : List En) (tg : Expr) (d : D) (ix : List Nat) (ρ' : List En) : Prop where
  run : ∀ {X : Cx} {m : Pm} {F0 : Hp} {w0 : Wd} {F : Hp} {ow : Nat → Addr} {σ : L2.St} {w : Wd} {H : Hp}, Stt Γ X Ψ ρ m F0 w0 F ow σ w H → ∀ (v : V) (Q : L2.St → Hp → Prop), RepW m w v d →
    (∀ σ', Slots m F0 F ow ρ' σ' w → (∀ vs : List Nat, (∀ i ∈ ix, i ∈ vs) → wipe σ' vs = wipe σ vs) → Q σ' H) → wG X tg v σ H Q
structure TGTs (Γ : Ctx) (Ψ : Exc → Ks → Prop) (ρ : List En) (ts : List Expr) (ds : List D) (ix : List Nat) (ρ' : List En) : Prop where
  run : ∀ {X : Cx} {m : Pm} {F0 : Hp} {w0 : Wd} {F : Hp} {ow : Nat → Addr} {σ : L2.St} {w : Wd} {H : Hp}, Stt Γ X Ψ ρ m F0 w0 F ow σ w H → ∀ (vs : List V) (Q : L2.St → Hp → Prop), RepsW m w vs ds →
    (∀ σ', Slots m F0 F ow ρ' σ' w → (∀ vs : List Nat, (∀ i ∈ ix, i ∈ vs) → wipe σ' vs = wipe σ vs) → Q σ' H) → wGs X ts vs σ H Q
theorem wipe_get (σ : L2.St) : ∀ (vs : List Nat) (j : Nat), (wipe σ vs)[j]? = if j ∈ vs ∧ j < σ.length then some none else σ[j]?
  | [], j => by simp [wipe]
  | v :: vs, j => by
    unfold wipe
    by_cases e : v = j
    · subst e
      by_cases hl : v < σ.length
      · rw [List.getElem?_set_self (by rw [wipe_length]; exact hl), if_pos ⟨List.mem_cons_self, hl⟩]
      · rw [if_neg (fun z => hl z.2), List.getElem?_eq_none (by rw [List.length_set, wipe_length]; omega), List.getElem?_eq_none (by omega)]
    · rw [List.getElem?_set_ne e, wipe_get σ vs j]
      have : (j ∈ v :: vs) ↔ j ∈ vs := by
        simp only [List.mem_cons]
        exact ⟨fun z => z.resolve_left (fun q => e q.symm), .inr⟩
      by_cases hj : j ∈ vs ∧ j < σ.length
      · rw [if_pos hj, if_pos ⟨this.mpr hj.1, hj.2⟩]
      · rw [if_neg hj, if_neg (fun z => hj ⟨this.mp z.1, z.2⟩)]
theorem wipe_set {σ : L2.St} {i : Nat} {x : Option V} {vs : List Nat} (h : i ∈ vs) : wipe (σ.set i x) vs = wipe σ vs := by
  refine List.ext_getElem? fun j => ?_
  rw [wipe_get, wipe_get, List.length_set]
  by_cases e : i = j
  · subst e
    by_cases hl : i < σ.length
    · rw [if_pos ⟨h, hl⟩, if_pos ⟨h, hl⟩]
    · rw [if_neg (fun z => hl z.2), if_neg (fun z => hl z.2), List.getElem?_eq_none (by rw [List.length_set]; omega), List.getElem?_eq_none (by omega)]
  · rw [List.getElem?_set_ne e]
theorem tgt_name (hN : Γ.N[i]? = some x) (hl : locB Γ.sc Γ.top x = true) : TGT Γ Ψ ρ (.Name x pos) d [i] (ρ.set i (.dat d)) := ⟨fun {X m F0 w0 F ow σ w H} s v Q dp q =>
  ⟨_, pg_name s.x.nd (s.f.nth hN) (s.f.loc hl).1 (s.f.loc hl).2, q _ (s.sl.put ⟨v, rfl, dp⟩ fun _ z => by cases z) fun vs hv => wipe_set (hv i List.mem_cons_self)⟩⟩
/-- names as targets -/
def chkNs (N : List Str) (sc : Scope) (top : Bool) : List Nat → List Expr → Bool
  | [], [] => true
  | i :: is, .Name x _ :: ts => decide (N[i]? = some x) && (locB sc top x && chkNs N sc top is ts)
  | _, _ => false
theorem tgts_names : ∀ {is : List Nat} {ts : List Expr} {ds : List D} {ρ : List En}, chkNs Γ.N Γ.sc Γ.top is ts = true → is.length = ds.length → TGTs Γ Ψ ρ ts ds is ((is.zip ds).foldl (fun ρ q => ρ.set q.1 (.dat q.2)) ρ)
  | [], [], [], ρ, _, _ => ⟨fun {X m F0 w0 F ow σ w H} s vs Q dp q => by
    cases dp
    exact ⟨_, pgs_nil, rfl, q σ s.sl fun _ _ => rfl⟩⟩
  | i :: is, .Name x pos :: ts, d :: ds, ρ, h, hl => by
    unfold chkNs at h
    simp only [Bool.and_eq_true, decide_eq_true_eq] at h
    have ih := tgts_names (ρ := ρ.set i (.dat d)) h.2.2 (by simpa using hl)
    exact ⟨fun {X m F0 w0 F ow σ w H} s vs Q dp q => by
      cases dp with
      | cons d1 d2 =>
        refine ⟨_, pgs_cons pg_w pgs_w rfl, _, _, rfl, (tgt_name (pos := pos) h.1 h.2.1).run s _ _ d1 fun σ1 sl1 w1 => ih.run ⟨s.f, s.x, s.s0, sl1, s.st⟩ _ _ d2 fun σ2 sl2 w2 => q σ2 sl2 fun vs hv => ?_⟩
        rw [w2 vs fun i hi => hv i (List.mem_cons_of_mem _ hi), w1 vs fun i hi => hv i (by rw [List.mem_singleton.mp hi]; exact List.mem_cons_self ..)]⟩
  | [], _ :: _, _, _, h, _ => by cases h
  | [], [], _ :: _, _, _, hl => by cases hl
  | _ :: _, [], _, _, h, _ => by cases h
  | _ :: _, .Name _ _ :: _, [], _, _, hl => by cases hl
  | _ :: _, .BoolOp .. :: _, _, _, h, _ | _ :: _, .NamedExpr .. :: _, _, _, h, _ | _ :: _, .BinOp .. :: _, _, _, h, _ | _ :: _, .UnaryOp .. :: _, _, _, h, _ | _ :: _, .Lambda .. :: _, _, _, h, _ | _ :: _, .IfExp .. :: _, _, _, h, _ | _ :: _, .Dict .. :: _, _, _, h, _ | _ :: _, .Set .. :: _, _, _, h, _ | _ :: _, .ListComp .. :: _, _, _, h, _ | _ :: _, .SetComp .. :: _, _, _, h, _ | _ :: _, .DictComp .. :: _, _, _, h, _ | _ :: _, .GeneratorExp .. :: _, _, _, h, _ | _ :: _, .Await .. :: _, _, _, h, _ | _ :: _, .Yield .. :: _, _, _, h, _ | _ :: _, .YieldFrom .. :: _, _, _, h, _ | _ :: _, .Compare .. :: _, _, _, h, _ | _ :: _, .Call .. :: _, _, _, h, _ | _ :: _, .FormattedValue .. :: _, _, _, h, _ | _ :: _, .JoinedStr .. :: _, _, _, h, _ | _ :: _, .Constant .. :: _, _, _, h, _ | _ :: _, .Attribute .. :: _, _, _, h, _ | _ :: _, .Subscript .. :: _, _, _, h, _ | _ :: _, .Starred .. :: _, _, _, h, _ | _ :: _, .List .. :: _, _, _, h, _ | _ :: _, .Tuple .. :: _, _, _, h, _ | _ :: _, .Slice .. :: _, _, _, h, _ => by cases h
theorem names_each : ∀ {is : List Nat} {ts : List Expr} {N : List Str} {sc : Scope} {top : Bool} (_ : chkNs N sc top is ts = true) (env : Env), (assignEach ts env).length = is.length ∧ (assignEach ts env).findIdx? (·.1) = none
  | [], [], _, _, _, _, _ => ⟨rfl, rfl⟩
  | i :: is, .Name x _ :: ts, N, sc, top, h, env => by
    unfold chkNs at h
    simp only [Bool.and_eq_true, decide_eq_true_eq] at h
    obtain ⟨h1, h2⟩ := names_each h.2.2 env
    rename_i pp
    have e : assignEach (.Name x pp :: ts) env = (false, assign (.Name x pp) env) :: assignEach ts env := rfl
    rw [e]
    refine ⟨by simp [h1], ?_⟩
    rw [List.findIdx?_cons, h2]
    rfl
  | [], _ :: _, _, _, _, h, _ => by cases h
  | _ :: _, [], _, _, _, h, _ => by cases h
  | _ :: _, .BoolOp .. :: _, _, _, _, h, _ | _ :: _, .NamedExpr .. :: _, _, _, _, h, _ | _ :: _, .BinOp .. :: _, _, _, _, h, _ | _ :: _, .UnaryOp .. :: _, _, _, _, h, _ | _ :: _, .Lambda .. :: _, _, _, _, h, _ | _ :: _, .IfExp .. :: _, _, _, _, h, _ | _ :: _, .Dict .. :: _, _, _, _, h, _ | _ :: _, .Set .. :: _, _, _, _, h, _ | _ :: _, .ListComp .. :: _, _, _, _, h, _ | _ :: _, .SetComp .. :: _, _, _, _, h, _ | _ :: _, .DictComp .. :: _, _, _, _, h, _ | _ :: _, .GeneratorExp .. :: _, _, _, _, h, _ | _ :: _, .Await .. :: _, _, _, _, h, _ | _ :: _, .Yield .. :: _, _, _, _, h, _ | _ :: _, .YieldFrom .. :: _, _, _, _, h, _ | _ :: _, .Compare .. :: _, _, _, _, h, _ | _ :: _, .Call .. :: _, _, _, _, h, _ | _ :: _, .FormattedValue .. :: _, _, _, _, h, _ | _ :: _, .JoinedStr .. :: _, _, _, _, h, _ | _ :: _, .Constant .. :: _, _, _, _, h, _ | _ :: _, .Attribute .. :: _, _, _, _, h, _ | _ :: _, .Subscript .. :: _, _, _, _, h, _ | _ :: _, .Starred .. :: _, _, _, _, h, _ | _ :: _, .List .. :: _, _, _, _, h, _ | _ :: _, .Tuple .. :: _, _, _, _, h, _ | _ :: _, .Slice .. :: _, _, _, _, h, _ => by cases h
def chkTg (N : List Str) (sc : Scope) (top : Bool) : Tg → Expr → Bool
  | .nm i, .Name x _ => decide (N[i]? = some x) && locB sc top x
  | .tup is, .Tuple ts _ _ => chkNs N sc top is ts
  | _, _ => false
def tgIx : Tg → List Nat
  | .nm i => [i]
  | .tup is => is
theorem tgt_ok {t : Tg} {ρ' : List En} (hc : chkTg Γ.N Γ.sc Γ.top t tg = true) (hp : tgPut ρ t d = some ρ') : TGT Γ Ψ ρ tg d (tgIx t) ρ' := by
  cases t with
  | nm i =>
    cases tg with
    | Name x pos =>
      unfold chkTg at hc
      simp only [Bool.and_eq_true, decide_eq_true_eq] at hc
      cases hp
      exact tgt_name hc.1 hc.2
    | _ => cases hc
  | tup is =>
    cases tg with
    | Tuple ts k pos =>
      have hc' : chkNs Γ.N Γ.sc Γ.top is ts = true := hc
      cases d with
      | tuple ds =>
        have hp' : (if is.length = ds.length then some ((is.zip ds).foldl (fun ρ q => ρ.set q.1 (.dat q.2)) ρ) else none) = some ρ' := hp
        by_cases hl : is.length = ds.length
        · rw [if_pos hl] at hp'
          cases hp'
          have h := tgts_names (Ψ := Ψ) (ρ := ρ) hc' hl
          exact ⟨fun {X m F0 w0 F ow σ w H} s v Q dp q => by
            cases dp with
            | @tup aa xs _ hs ha =>
              obtain ⟨n1, n2⟩ := names_each hc' X.env
              exact ⟨_, pg_tup s.x.calm pgs_w (n1.trans hl) n2, aa, xs, rfl, by rw [← s.x.K]; exact sqT_ext s.st.ext hs, ha.len, h.run s xs Q ha q⟩⟩
        · rw [if_neg hl] at hp'
          cases hp'
      | _ => cases hp
    | _ => cases hc
/-! ### a, b = e -/
def isTupE : Expr → Bool
  | .Tuple _ _ _ => true
  | _ => false
theorem stores_no {tg e : Expr} (h : isTupE e = false) (env : Env) : swappedStores [tg] e env = pure none := by
  cases e <;> first | (cases h; done) | (cases tg <;> rfl)
theorem s1_unp {is : List Nat} {k : Nat} (he : EVD Γ Ψ ρ κ e (fun d κ' => ∃ ρ', tgPut ρ (.tup is) d = some ρ' ∧ p.nx ρ' κ')) (hc : chkNs Γ.N Γ.sc Γ.top is ts = true) (hw : ∀ env, env.scope = Γ.sc → swappedStores [.Tuple ts k tpos] e env = pure none) : SD1 Γ Ψ ρ κ (.Assign [.Tuple ts k tpos] e pos) p := ⟨fun {X m F0 w0 F ow σ w H} s kk =>
  ⟨_, ps_asg pe_w pg_w (by cases e <;> rfl) (hw _ s.f.sc) rfl, he.run s kk _ fun d v w2 H2 p2 e2 s2 d2 => by
    obtain ⟨ρ', hp, hn⟩ := p2
    exact (tgt_ok (tg := .Tuple ts k tpos) (t := .tup is) hc hp).run (s.next e2 s2) v _ d2 fun σ' sl _ => ⟨ρ', F, ow, w2, hn, s.s0.trans e2, sl, s2⟩⟩⟩
/-- a tuple is made and taken apart -/
def unpB (sc : Scope) (ts : List Expr) (e : Expr) : Bool := !isTupE e || (match ts with
  | [.Name x _, .Name y _] => decide (sc.names.lookup x ≠ some .local) || decide (sc.names.lookup y ≠ some .local)
  | _ => false)
theorem unp_stores {ts : List Expr} {e : Expr} {kt : Nat} {pt : Pos} (env : Env) (h : unpB env.scope ts e = true) : swappedStores [.Tuple ts kt pt] e env = pure none := by
  by_cases ht : isTupE e = false
  · exact stores_no ht env
  · unfold unpB at h
    have ht' : isTupE e = true := by simpa using ht
    rw [ht'] at h
    have key : ∃ x px y py, ts = [.Name x px, .Name y py] ∧ (env.scope.names.lookup x ≠ some .local ∨ env.scope.names.lookup y ≠ some .local) := by
      match ts, h with
      | [.Name x px, .Name y py], h =>
        refine ⟨x, px, y, py, rfl, ?_⟩
        simpa using h
    obtain ⟨x, px, y, py, rfl, hn⟩ := key
    cases e with
    | Tuple vs k p =>
      unfold swappedStores
      dsimp only
      split
      · rfl
      · split
        · rfl
        · have hk : ∀ z, env.kindOf z = env.scope.names.lookup z := fun _ => rfl
          have hl : ∀ f : Expr → Option Str, (f (.Name x px) = none ∨ f (.Name y py) = none) → ((List.filterMap f [Expr.Name x px, Expr.Name y py]).length != [Expr.Name x px, Expr.Name y py].length) = true := fun f hf => by
            rcases hf with hf | hf
            · rw [List.filterMap_cons, hf]
              dsimp only
              rw [List.filterMap_cons]
              cases f (.Name y py) <;> rfl
            · rw [List.filterMap_cons, List.filterMap_cons, hf]
              cases f (.Name x px) <;> rfl
          have hz : ∀ z, env.scope.names.lookup z ≠ some .local → (env.kindOf z == some .local) = false := fun z hz => by
            cases q : (env.kindOf z == some .local) with
            | false => rfl
            | true => exact absurd (eq_of_beq q) hz
          rw [hl _ (by
            rcases hn with hn | hn
            · left
              dsimp only
              rw [hz x hn]
              rfl
            · right
              dsimp only
              rw [hz y hn]
              rfl)]
          rfl
    | _ => cases ht'
/-- both names local, on one line: the stores are exchanged, no tuple is made -/
def parB (sc : Scope) (x y : Str) (px py : Pos) (a b : Expr) : Bool :=
  decide (sc.kind = .function) && (decide (sc.names.lookup x = some .local) && (decide (sc.names.lookup y = some .local) && (decide (x ≠ y) && ((py.line == px.line) && (!isStar a && (!isStar b && (!([a, b].all (foldedForSure 8)) && !([a, b].all (constantsAlone 8)))))))))
theorem par_stores {env : Env} {px py pt pt2 : Pos} {kt k2 : Nat} (h : parB env.scope x y px py a b = true) : swappedStores [.Tuple [.Name x px, .Name y py] kt pt] (.Tuple [a, b] k2 pt2) env = pure (some [x, y]) := by
  unfold parB at h
  simp only [Bool.and_eq_true, decide_eq_true_eq, Bool.not_eq_true'] at h
  obtain ⟨h1, h2, h3, h4, h5, h6, h7, h8, h9⟩ := h
  have hbk : env.blockKind = .function := by
    unfold Env.blockKind
    rw [h1]
    rfl
  unfold swappedStores
  dsimp only
  have hst : ∀ f : Expr → Bool, (∀ e, isStar e = false → f e = false) → ([a, b].any f) = false := fun f hf => by
    rw [List.any_cons, List.any_cons, hf a h6, hf b h7]
    rfl
  rw [hbk, hst _ (fun e he => by cases e <;> first | rfl | (cases he; done))]
  have k1 : env.kindOf x = some .local := h2
  have k2 : env.kindOf y = some .local := h3
  have h5' : py.line = px.line := by simpa using h5
  have h4' : ¬ y = x := fun z => h4 z.symm
  simp [k1, k2, h5', h8, h9, h4, h4', List.eraseDups, List.eraseDupsBy, List.eraseDupsBy.loop, Expr.pos, List.filterMap_cons]
  have h4b : (y == x) = false := by
    cases q : (y == x) with
    | false => rfl
    | true => exact absurd (eq_of_beq q) h4'
  rw [h4b]
  intro z
  exact absurd rfl z
end
end VL

namespace VL
open PySem PySem.Spec PyProof.Rows L2
/-! ### own exception classes -/
section
variable {X : Cx}
/-- C(): no argument is written -/
theorem pmk_none {Ct : CXT} {x : Str} {C fI : Addr} {k : Nat} {fd : FuncData} {ps : List Str} {sp : Sp} {p pos : Pos} (T : OexC X.K C)
    (iC : PySem.W.findIn X.K (.ref C) "__init__" = some (some (.ref fI))) (tI : PySem.W.typeIn X.K (.ref fI) = some (.type "function"))
    (F1 : FnOk X.prog X.w X.K X.mg X.base Ct k fI fd ps sp) (hr : Room (k + 1) X.A) (hb : Binds X.K fd ps []) (hx : Passes Ct X (fun _ _ _ => False)) (hg : Gl X x) (hm : X.mg x = some (.ref C))
    (hdb : (x == ("__debug__" : Str)) = false := by kernel_rfl) : PMk X (.Call (.Name x p) [] [] pos) (tMkO C sp [] tNil) := by
  intro pins s σ H Q I h
  obtain ⟨nm, qn, Nn, bs, bm, sn, sub, ab, col, dd, k0, k1, k2, k3, k5, hC, hbm⟩ := T.cls
  refine wpAny_Call_Name_kw (ld_glob I hg hm ?_ hdb)
  refine PySem.W.callWith_K0 I.kIn T.kC ?_
  show wpAny _ _ (call (.ref C) []) _ _ _
  obtain ⟨_, hh⟩ := h
  obtain ⟨hp, g, dr, tk, os⟩ := s
  have fresh : H (hp.objs.size + 1) = none := I.hok.fresh (Nat.le_succ _)
  have hq := hh (hp.objs.size + 1) fresh
  generalize eH : (hp.push (PySem.W.kdv_tup [])).push (PySem.HandSPX.excO C hp.objs.size) = hp2
  have kk : ∀ b o, hp.get? b = some o → hp2.get? b = some o := fun b o e => by
    rw [← eH]
    exact Heap.get?_push_of_some _ (Heap.get?_push_of_some _ e)
  have at2 : hp2.get? (hp.objs.size + 1) = some (PySem.HandSPX.excO C hp.objs.size) := by
    rw [← eH]
    heap_get
  have I2 : Inv X pins σ (upd H (hp.objs.size + 1) (exo (hp.objs.size + 1) C none)) ⟨hp2, g, dr, tk, os⟩ := I.laid (t' := tk) kk (Nat.le_succ _) (exo_ok at2)
  have rv : Vals [V.ref (hp.objs.size + 1)] [Value.ref (hp.objs.size + 1)] := .cons rfl .nil
  have hl : ([Value.ref (hp.objs.size + 1)] ++ ([] : List Value)).length = ps.length := by
    have e := F1.len _ _ _ _ hq
    exact e
  have run := F1.run _ X.stack _ _ ⟨[Value.ref (hp.objs.size + 1)], []⟩ ([Value.ref (hp.objs.size + 1)] ++ []) _ _ _ (hr.make C [] []) (I2.env0.make C [] []) (hb _ [Value.ref (hp.objs.size + 1)] I2.kIn hl) (by exact rv) hq
  refine wpAny_call (PySem.HandSPX.call_own F.excBase_ValueError (fun Y => PySem.HandSPX.refsVE_contains Y bm hbm) (I.kIn _ _ hC) (PySem.W.looks_findIn I.kIn iC) (fun self => PySem.W.bind_fn I.kIn self tI) (Nat.zero_le _) ?_)
  rw [eH]
  refine codeAny_mono run fun r s' hq' => ?_
  cases r with
  | error er => exact hx pins σ _ _ er s' I2 hq'
  | ok fl =>
    cases fl with
    | ret u =>
      obtain ⟨v, H2, os2, bare2, un2, hok2, rv, ev, d, fs, ea, ed, hd1, q2⟩ := hq'
      subst ev
      obtain ⟨h2, g2, d2, t2, os'⟩ := s'
      exact ⟨rv, mk_end (raises_own T.exC T.tyC) I (Nat.le_succ _) kk un2 hok2 os2 bare2 ea ed hd1 q2⟩
    | next => exact False.elim hq'
    | brk => exact False.elim hq'
    | cont => exact False.elim hq'
end
/-- an exception's __init__: from self and ws it stores the fields fs ws -/
def spInit (C : Addr) (n : Nat) (fs : List V → List (Str × V)) : Sp := fun vs H Q _ => ∃ (a : Addr) (ws : List V), vs = .ref a :: ws ∧ ws.length = n ∧ H a = some (exo a C none) ∧
  ∀ dx H', H dx = none → dx ≠ a → (∀ b, b ≠ a → b ≠ dx → H' b = H b) → H' a = some (exo a C (some dx)) → H' dx = some (exd dx (fs ws)) → Q .non H'
/-- what is known of an exception class -/
structure ExC (g : Gm) (k : Nat) (x : Str) (n : Nat) (fs : List V → List (Str × V)) : Prop where
  ex : ∃ (C fI : Addr) (fd : FuncData) (ps : List Str), g.mg x = some (.ref C) ∧ OexC g.K C ∧ PySem.W.findIn g.K (.ref C) "__init__" = some (some (.ref fI)) ∧ PySem.W.typeIn g.K (.ref fI) = some (.type "function") ∧
    Binds g.K fd ps [] ∧ FnOk g.P g.w g.K g.mg g.base (L2.CX g.P g.w) k fI fd ps (spInit C n fs)
/-- self.word = '..' -/
theorem init0 {g : Gm} {qual : Str} {params : Arguments} {scope : Scope} {C f : Addr} {fd : FuncData} {w : Str} {kw : List (Str × V)} {p1 p2 p3 p4 : Pos} {k0 : Nat} (F : FunD g.K "__init__" qual params [.Assign [.Attribute (.Name "self" p1) "word" p2] (.Constant (.str w) k0 p3) p4] scope [] kw f fd)
    (S : FnScope ["self"] ["self"] scope) (T : OexC g.K C) (hno : PySem.W.findIn g.K (.ref C) "word" = some none) (hv : scope.names.lookup ("self" : Str) = some .local) : FnOk g.P g.w g.K g.mg g.base (L2.CX g.P g.w) 1 f fd ["self"] (spInit C 0 fun _ => [("word", .str w)]) := by
  refine F.ok S (fun vs H Q E h => ?_) fun cdv A outer s H vs Q E hr h => ?_
  · obtain ⟨a, ws, rfl, hl, _⟩ := h
    simp [hl]
  · obtain ⟨a, ws, rfl, hl, ha, q⟩ := h
    obtain rfl : ws = [] := List.length_eq_zero_iff.mp hl
    refine ⟨_, pss_one (ps_ost (pe_var (i := 0) rfl (.inl hv)) pe_str), ?_⟩
    refine ⟨.ref a, rfl, a, C, rfl, T, hno, .inl ⟨ha, fun dx hd ne => ?_⟩⟩
    exact q dx _ hd ne (fun b h1 h2 => by rw [upd_ne h1, upd_ne h2]) upd_same (by rw [upd_ne ne, upd_same])
/-- self.word = '..'; self.F = F -/
theorem init1 {g : Gm} {qual : Str} {params : Arguments} {scope : Scope} {C f : Addr} {fd : FuncData} {w fl : Str} {kw : List (Str × V)} {p1 p2 p3 p4 p5 p6 p7 p8 : Pos} {k0 : Nat}
    (F : FunD g.K "__init__" qual params [.Assign [.Attribute (.Name "self" p1) "word" p2] (.Constant (.str w) k0 p3) p4, .Assign [.Attribute (.Name "self" p5) fl p6] (.Name fl p7) p8] scope [] kw f fd)
    (S : FnScope ["self", fl] ["self", fl] scope) (T : OexC g.K C) (hno : PySem.W.findIn g.K (.ref C) "word" = some none) (hno2 : PySem.W.findIn g.K (.ref C) fl = some none) (hv : scope.names.lookup ("self" : Str) = some .local) (hv2 : scope.names.lookup fl = some .local)
    (hd : (fl == ("__debug__" : Str)) = false) (hcd : (fl == ("__classdict__" : Str)) = false) : FnOk g.P g.w g.K g.mg g.base (L2.CX g.P g.w) 1 f fd ["self", fl] (spInit C 1 fun ws => [(fl, ws.getD 0 .non), ("word", .str w)]) := by
  refine F.ok S (fun vs H Q E h => ?_) fun cdv A outer s H vs Q E hr h => ?_
  · obtain ⟨a, ws, rfl, hl, _⟩ := h
    simp [hl]
  · obtain ⟨a, ws, rfl, hl, ha, q⟩ := h
    obtain ⟨v, rfl⟩ := List.length_eq_one_iff.mp hl
    refine ⟨_, pss_cons (ps_ost (pe_var (i := 0) rfl (.inl hv)) pe_str) (pss_one (ps_ost (pe_var (i := 0) rfl (.inl hv)) (pe_var (i := 1) rfl (.inl hv2) hd hcd))), ?_⟩
    refine ⟨.ref a, rfl, a, C, rfl, T, hno, .inl ⟨ha, fun dx hdx ne => ?_⟩⟩
    refine ⟨v, rfl, .ref a, rfl, a, C, rfl, T, hno2, .inr ⟨dx, [("word", .str w)], upd_same, by rw [upd_ne ne, upd_same], by simp, ?_⟩⟩
    exact q dx _ hdx ne (fun b h1 h2 => by rw [upd_ne h2, upd_ne h1, upd_ne h2]) (by rw [upd_ne ne.symm, upd_same]) upd_same
/-- the class at C, looked at by a Bool -/
def oexB (K : PySem.W.Frag) (C : Addr) : Bool := (match K.lookup C with
  | some ⟨.type t, _, .cls cd, sl⟩ => (match cd.mro, sl.toList with
    | .ref C' :: bm, [_, _, _, _, some (.builtin n), _] => decide (t = "type") && (decide (C' = C) && (decide (n = "ValueError.__new__") && (!cd.hasDel && (cd.hasDict && PySem.HandSPX.refsVE bm))))
    | _, _ => false)
  | _ => false) && (decide (PySem.W.findIn K (.ref C) "__setattr__" = some (some (.builtin "object.__setattr__"))) && (decide (PySem.W.subIn K (.ref C) (.type "BaseException") = some true) && (decide (PySem.W.typeIn K (.ref C) = some (.type "type")) && PySem.W.keepIn K (.ref C))))
theorem oexB_ok {K : PySem.W.Frag} {C : Addr} (h : oexB K C = true) : OexC K C := by
  unfold oexB at h
  simp only [Bool.and_eq_true, decide_eq_true_eq] at h
  obtain ⟨h1, h2, h3, h4, h5⟩ := h
  refine ⟨?_, h2, h3, h4, h5⟩
  split at h1
  · rename_i t dd cd sl ho
    split at h1
    · rename_i C' bm k0 k1 k2 k3 n k5 hm hs
      simp only [Bool.and_eq_true, decide_eq_true_eq, Bool.not_eq_true'] at h1
      obtain ⟨rfl, rfl, rfl, hdel, hdict, hve⟩ := h1
      obtain ⟨nm, bs, mro, ns, qn, hd, sn, sub, ab, col, del⟩ := cd
      dsimp only at hm hdel hdict
      subst hm hdel hdict
      have hsl : sl = #[k0, k1, k2, k3, some (.builtin "ValueError.__new__"), k5] := by
        obtain ⟨l⟩ := sl
        simp only at hs
        rw [hs]
      subst hsl
      exact ⟨nm, qn, ns, bs, bm, sn, sub, ab, col, dd, k0, k1, k2, k3, k5, ho, hve⟩
    · cases h1
  · cases h1

section
variable {Γ : Ctx} {Ψ : Exc → Ks → Prop} {ρ : List En} {κ : Ks} {a b c e tg iter : Expr} {es ts : List Expr} {pos pos' pp p2 tpos : Pos} {p : Pst} {st : Stmt} {rest body orelse : List Stmt} {x y : Str} {i j : Nat} {d : D} {ds xs ys : List D} {kk : Nat} {elts : List Expr}
/-! ### raise -/
/-- the raised exception's state -/
theorem exc_made {X : Cx} {m : Pm} {F0 F H H' : Hp} {w0 w : Wd} {ow : Nat → Addr} {σ : L2.St} {C a dx : Addr} {fl : List (Str × V)} {ds : List (Str × D)} (s : Stt Γ X Ψ ρ m F0 w0 F ow σ w H) (hC : Γ.g.mg x = some (.ref C)) (ha : H a = none) (hdx : H dx = none) (ne : dx ≠ a)
    (h1 : ∀ b, b ≠ a → b ≠ dx → H' b = upd H a (exo a C none) b) (h2 : Ψ (x, ds) w.κ) (h3 : fl.map (·.1) = ds.map (·.1)) (h4 : RepsW m w (fl.map (·.2)) (ds.map (·.2))) : ExcPost m F0 w0 Ψ (.ref C) (some dx) (upd (del H' a) dx (.xd fl)) := by
  have e : upd (del H' a) dx (.xd fl) = upd H dx (.xd fl) := by
    funext b
    by_cases hb : b = dx
    · rw [hb, upd_same, upd_same]
    · rw [upd_ne hb, upd_ne hb]
      by_cases hb2 : b = a
      · rw [hb2, del_same, ha]
      · rw [del_ne hb2, h1 b hb2 hb, upd_ne hb2]
  rw [e]
  have st := s.st.alloc (o := .xd fl) hdx
  have le := le_addG (w := w) (p := dx) (o := .xd fl) (s.st.freshG hdx)
  refine ExcPost.back (w := w) s.sl.sub s.s0 ?_
  exact ⟨(x, ds), w.addG dx (.xd fl), dx, fl, h2, by rw [s.mg]; exact hC, rfl, le, st, upd_same, h3, h4.le le⟩
theorem s1_raise0 {k : Nat} {wd : Str} (hx : ExC Γ.g k x 0 (fun _ => [("word", .str wd)])) (h : Ψ (x, [("word", .str wd)]) κ) (hk : k + 1 ≤ Γ.k) (hg : glB Γ.sc x = true) (hdb : (x == ("__debug__" : Str)) = false) : SD1 Γ Ψ ρ κ (.Raise (some (.Call (.Name x pp) [] [] pos)) none pos') p := ⟨fun {X m F0 w0 F ow σ w H} s kk => by
  obtain ⟨C, fI, fd, ps, hm, T, iC, tI, hb, fo⟩ := hx.ex
  have K1 := s.f.K
  refine ⟨_, ps_raise s.x.calm s.x.tk (pmk_none (by rw [K1]; exact T) (by rw [K1]; exact iC) (by rw [K1]; exact tI) (call_fr s.f fo) (s.f.room.mono hk) (by rw [K1]; exact hb) passL (s.f.gl hg) (by rw [s.f.mg]; exact hm) hdb), ?_⟩
  refine ⟨Nat.zero_le _, fun a ha => ⟨a, [], rfl, rfl, upd_same, fun dx H' hd ne h1 h2 h3 => ⟨rfl, dx, _, h2, h3, ?_, ?_⟩⟩⟩
  · rw [upd_ne ne] at hd
    exact hd
  · rw [upd_ne ne] at hd
    exact exc_made s hm ha hd ne h1 (by rw [kk]; exact h) rfl (.cons (.str _) .nil)⟩
theorem s1_raise1 {k : Nat} {wd fl : Str} (hx : ExC Γ.g k x 1 (fun ws => [(fl, ws.getD 0 .non), ("word", .str wd)])) (he : EVD Γ Ψ ρ κ e (fun d κ' => Ψ (x, [(fl, d), ("word", .str wd)]) κ')) (hk : k + 1 ≤ Γ.k) (hg : glB Γ.sc x = true) (hdb : (x == ("__debug__" : Str)) = false) (hs : isStar e = false) : SD1 Γ Ψ ρ κ (.Raise (some (.Call (.Name x pp) [e] [] pos)) none pos') p := ⟨fun {X m F0 w0 F ow σ w H} s kk => by
  obtain ⟨C, fI, fd, ps, hm, T, iC, tI, hb, fo⟩ := hx.ex
  have K1 := s.f.K
  refine ⟨_, ps_raise s.x.calm s.x.tk (pmk_oex (by rw [K1]; exact T) (by rw [K1]; exact iC) (by rw [K1]; exact tI) (call_fr s.f fo) (s.f.room.mono hk) (by rw [K1]; exact hb) .nil passL (s.f.gl hg) (by rw [s.f.mg]; exact hm) (pa_cons pe_w pa_nil (star_cons hs _)) hdb (star_cons hs _) rfl), ?_⟩
  refine he.run s kk _ fun d v w2 H2 p2 e2 s2 d2 => ?_
  have s' := s.next e2 s2
  refine ⟨by show 1 ≤ 1000; decide, fun a ha => ⟨a, [v], rfl, rfl, upd_same, fun dx H' hd ne h1 h2 h3 => ⟨rfl, dx, _, h2, h3, ?_, ?_⟩⟩⟩
  · rw [upd_ne ne] at hd
    exact hd
  · rw [upd_ne ne] at hd
    exact exc_made s' hm ha hd ne h1 p2 rfl (.cons d2 (.cons (.str _) .nil))⟩
/-! ### a, b = e1, e2; x op= e -/
theorem s1_par {px py pt pt2 : Pos} {kt k2 : Nat} (ha : EVD Γ Ψ ρ κ a (fun u κ1 => EVD Γ Ψ ρ κ1 b (fun v κ2 => p.nx ((ρ.set i (.dat u)).set j (.dat v)) κ2))) (hi : Γ.N[i]? = some x) (hj : Γ.N[j]? = some y) (hij : i ≠ j) (hp : parB Γ.sc x y px py a b = true) :
    SD1 Γ Ψ ρ κ (.Assign [.Tuple [.Name x px, .Name y py] kt pt] (.Tuple [a, b] k2 pt2) pos) p := ⟨fun {X m F0 w0 F ow σ w H} s k => by
  have hp' := hp
  unfold parB at hp'
  simp only [Bool.and_eq_true, decide_eq_true_eq, Bool.not_eq_true'] at hp'
  obtain ⟨h1, h2, h3, h4, h5, h6, h7, h8, h9⟩ := hp'
  have hA : EVA Γ Ψ ρ κ [a, b] (fun as κ' => ∃ u v, as = [.dat u, .dat v] ∧ p.nx ((ρ.set i (.dat u)).set j (.dat v)) κ') := eva_cons (ha.imp fun u κ1 hb => eva_cons (hb.imp fun v κ2 h => eva_nil ⟨u, v, rfl, h⟩) h7) h6
  refine ⟨_, ps_par s.x.calm s.x.nd (s.f.nth hi) (s.f.nth hj) hij (by rw [s.f.sc]; exact h2) (by rw [s.f.sc]; exact h3) pa_w (par_stores (by rw [s.f.sc]; exact hp)) rfl, hA.run s k _ fun as vs w2 H2 p2 e2 s2 d2 => ?_⟩
  obtain ⟨u, v, rfl, hn⟩ := p2
  cases d2 with
  | cons du d2 =>
    cases d2 with
    | cons dv d2 =>
      cases d2
      exact ⟨_, _, rfl, _, F, ow, w2, hn, s.s0.trans e2, ((s.sl.mono e2).put (en := .dat u) ⟨_, rfl, du⟩ (fun _ z => by cases z)).put (en := .dat v) ⟨_, rfl, dv⟩ (fun _ z => by cases z), s2⟩⟩
theorem s1_augAdd {n : Int} (hx : ρ[i]? = some (.dat (.int n))) (he : EVD Γ Ψ ρ κ e (fun d κ' => ∃ k, d = .int k ∧ p.nx (ρ.set i (.dat (.int (n + k)))) κ')) (hN : Γ.N[i]? = some x) (hl : locB Γ.sc Γ.top x = true) : SD1 Γ Ψ ρ κ (.AugAssign (.Name x pp) .Add e pos) p := ⟨fun {X m F0 w0 F ow σ w H} s k => by
  obtain ⟨v, g1, g2⟩ := s.sl.ok i _ hx
  rw [g2.int_inv] at g1
  refine ⟨_, ps_aug s.x.nd (s.f.nth hN) (s.f.loc hl).1 pe_w ip_add (s.f.loc hl).2, .int n, g1, he.run s k _ fun d2 v2 w2 H2 p2 e2 s2 dp2 => ?_⟩
  obtain ⟨k, rfl, hn⟩ := p2
  rw [dp2.int_inv]
  exact ⟨n, k, rfl, rfl, _, F, ow, w2, hn, s.s0.trans e2, (s.sl.mono e2).put (en := .dat (.int (n + k))) ⟨_, rfl, .int _⟩ (fun _ z => by cases z), s2⟩⟩
theorem s1_augSub {n : Int} (hx : ρ[i]? = some (.dat (.int n))) (he : EVD Γ Ψ ρ κ e (fun d κ' => ∃ k, d = .int k ∧ p.nx (ρ.set i (.dat (.int (n - k)))) κ')) (hN : Γ.N[i]? = some x) (hl : locB Γ.sc Γ.top x = true) : SD1 Γ Ψ ρ κ (.AugAssign (.Name x pp) .Sub e pos) p := ⟨fun {X m F0 w0 F ow σ w H} s k => by
  obtain ⟨v, g1, g2⟩ := s.sl.ok i _ hx
  rw [g2.int_inv] at g1
  refine ⟨_, ps_aug s.x.nd (s.f.nth hN) (s.f.loc hl).1 pe_w ip_sub (s.f.loc hl).2, .int n, g1, he.run s k _ fun d2 v2 w2 H2 p2 e2 s2 dp2 => ?_⟩
  obtain ⟨k, rfl, hn⟩ := p2
  rw [dp2.int_inv]
  exact ⟨n, k, rfl, rfl, _, F, ow, w2, hn, s.s0.trans e2, (s.sl.mono e2).put (en := .dat (.int (n - k))) ⟨_, rfl, .int _⟩ (fun _ z => by cases z), s2⟩⟩
/-! ### what is walked -/
structure EVF (Γ : Ctx) (Ψ : Exc → Ks → Prop) (ρ : List En) (κ : Ks) (e : Expr) (Φ : D → Ks → Prop) : Prop where
  run : ∀ {X : Cx} {m : Pm} {F0 : Hp} {w0 : Wd} {F : Hp} {ow : Nat → Addr} {σ : L2.St} {w : Wd} {H : Hp}, Stt Γ X Ψ ρ m F0 w0 F ow σ w H → w.κ = κ →
    ∀ Q : VK, (∀ d v w2 H2, Φ d w2.κ → w.le w2 → St0 m F w2 H2 → RepR m F0 w2 v d → Q v H2) → wE X e σ H Q
theorem EVD.evf {Φ : D → Ks → Prop} (h : EVD Γ Ψ ρ κ e Φ) : EVF Γ Ψ ρ κ e Φ := ⟨fun s k Q q => h.run s k Q fun d v w2 H2 p le st rp => q d v w2 H2 p le st (.inl rp)⟩
theorem evf_var {Φ : D → Ks → Prop} (hρ : ρ[i]? = some (.dat d) ∨ ρ[i]? = some (.ro d)) (h : Φ d κ) (hN : Γ.N[i]? = some x) (hv : visB Γ.sc x = true) (hd : (x == ("__debug__" : Str)) = false) (hcd : (x == ("__classdict__" : Str)) = false) : EVF Γ Ψ ρ κ (.Name x pos) Φ := ⟨fun {X m F0 w0 F ow σ w H} s k Q q => by
  rcases hρ with hρ | hρ
  · obtain ⟨v, h1, h2⟩ := s.sl.ok i _ hρ
    exact ⟨_, pe_var (s.f.nth hN) (s.f.vis hv) hd hcd, v, h1, q d v w H (by rw [k]; exact h) (.refl _) s.st (.inl h2)⟩
  · obtain ⟨v, h1, h2⟩ := s.sl.ok i _ hρ
    exact ⟨_, pe_var (s.f.nth hN) (s.f.vis hv) hd hcd, v, h1, q d v w H (by rw [k]; exact h) (.refl _) s.st h2⟩⟩
def ItOk (m : Pm) (F0 : Hp) (w1 : Wd) (J : L2.It) (ds : List D) : Prop := ∀ (i : Nat) (F : Hp) (w : Wd) (H : Hp), w1.le w → (∀ a o, F0 a = some o → F a = some o) → St0 m F w H → (ds.length ≤ i → J.stop i H) ∧ ∀ d, ds[i]? = some d → J.go i H ∧ ∀ x H', J.yld i H x H' → ∃ w2, w.le w2 ∧ w2.κ = w.κ ∧ St0 m F w2 H' ∧ RepW m w2 x d
structure EVI (Γ : Ctx) (Ψ : Exc → Ks → Prop) (ρ : List En) (κ : Ks) (tg iter : Expr) (Φ : List D → Ks → Prop) : Prop where
  run : ∀ {X : Cx} {m : Pm} {F0 : Hp} {w0 : Wd} {F : Hp} {ow : Nat → Addr} {σ : L2.St} {w : Wd} {H : Hp}, Stt Γ X Ψ ρ m F0 w0 F ow σ w H → w.κ = κ → ∀ R : L2.It → Hp → Prop, (∀ ds J w1 H1, Φ ds w1.κ → w.le w1 → St0 m F w1 H1 → ItOk m F0 w1 J ds → R J H1) → ∃ wi, PI X tg iter wi ∧ wi σ H R
theorem RepR.listF {m : Pm} {F0 : Hp} {w : Wd} {v : V} (h : RepR m F0 w v (.list ds)) : ∃ a xs, v = .ref a ∧ RepsW m w xs ds ∧ ∀ F' w' H', w.le w' → (∀ a o, F0 a = some o → F' a = some o) → St0 m F' w' H' → SqL m.K H' a xs := by
  rcases h with h | ⟨a, o, z, h1, h2, h3, h4⟩
  · obtain ⟨a, xs, h1, h2, h3⟩ := h.list_inv
    refine ⟨a, xs, h1, h3, fun F' w' H' le _ st => ?_⟩
    obtain ⟨o', e1, l⟩ := le.g _ _ h2
    rw [l.lst] at e1
    exact SqL.of (st.same _ _ e1)
  · cases z with
    | lst es =>
      cases h4
      obtain ⟨vs, rfl, h5⟩ := h3
      exact ⟨a, vs, h1, h5, fun F' w' H' le hs st => SqL.of (st.fr _ _ (hs _ _ h2)).1⟩
    | dct => cases h4
theorem RepR.tupF {m : Pm} {F0 : Hp} {w : Wd} {v : V} (h : RepR m F0 w v (.tuple ds)) : ∃ a xs, v = .ref a ∧ RepsW m w xs ds ∧ ∀ F' w' H', w.le w' → (∀ a o, F0 a = some o → F' a = some o) → St0 m F' w' H' → SqT m.K H' a xs := by
  rcases h with h | ⟨a, o, z, h1, h2, h3, h4⟩
  · obtain ⟨a, xs, h1, h2, h3⟩ := h.tuple_inv
    exact ⟨a, xs, h1, h3, fun F' w' H' le _ st => sqT_ext (le.g.trans st.ext) h2⟩
  · cases z <;> cases h4
theorem evi_list {Φ : List D → Ks → Prop} (h : EVF Γ Ψ ρ κ iter (fun d κ' => ∃ ds, d = .list ds ∧ Φ ds κ')) : EVI Γ Ψ ρ κ tg iter Φ := ⟨fun {X m F0 w0 F ow σ w H} s k R q => ⟨_, pi_list pe_w, h.run s k _ fun d v w2 H2 p2 e2 s2 d2 => by
  obtain ⟨ds, rfl, hΦ⟩ := p2
  obtain ⟨aa, xs, rfl, h2, h1⟩ := d2.listF
  refine ⟨aa, rfl, ⟨xs, by rw [← s.x.K]; exact h1 _ _ _ (.refl _) s.sl.sub s2⟩, q ds _ w2 H2 hΦ e2 s2 fun i F' w' H' e' hs s' => ⟨fun hi => ⟨xs, by rw [← s.x.K]; exact h1 _ _ _ e' hs s', by rw [h2.len]; exact hi⟩, fun d hd => ?_⟩⟩
  obtain ⟨v, hv, dv⟩ := h2.get hd
  refine ⟨⟨xs, v, by rw [← s.x.K]; exact h1 _ _ _ e' hs s', hv⟩, fun x H'' y => ?_⟩
  obtain ⟨rfl, y2⟩ := y
  have hx := y2 xs (by rw [← s.x.K]; exact h1 _ _ _ e' hs s')
  rw [hv] at hx
  cases hx
  exact ⟨w', .refl _, rfl, s', dv.le e'⟩⟩⟩
theorem evi_tup {Φ : List D → Ks → Prop} (h : EVF Γ Ψ ρ κ iter (fun d κ' => ∃ ds, d = .tuple ds ∧ Φ ds κ')) : EVI Γ Ψ ρ κ tg iter Φ := ⟨fun {X m F0 w0 F ow σ w H} s k R q => ⟨_, pi_tup pe_w, h.run s k _ fun d v w2 H2 p2 e2 s2 d2 => by
  obtain ⟨ds, rfl, hΦ⟩ := p2
  obtain ⟨aa, xs, rfl, h2, h1⟩ := d2.tupF
  refine ⟨aa, rfl, ⟨xs, by rw [← s.x.K]; exact h1 _ _ _ (.refl _) s.sl.sub s2⟩, q ds _ w2 H2 hΦ e2 s2 fun i F' w' H' e' hs s' => ⟨fun hi => ⟨xs, by rw [← s.x.K]; exact h1 _ _ _ e' hs s', by rw [h2.len]; exact hi⟩, fun d hd => ?_⟩⟩
  obtain ⟨v, hv, dv⟩ := h2.get hd
  refine ⟨⟨xs, v, by rw [← s.x.K]; exact h1 _ _ _ e' hs s', hv⟩, fun x H'' y => ?_⟩
  obtain ⟨rfl, y2⟩ := y
  have hx := y2 xs (by rw [← s.x.K]; exact h1 _ _ _ e' hs s')
  rw [hv] at hx
  cases hx
  exact ⟨w', .refl _, rfl, s', dv.le e'⟩⟩⟩
theorem rangeD_len (lo : Int) (n : Nat) : (rangeD lo n).length = n := by simp [rangeD]
theorem rangeD_get {lo : Int} {n i : Nat} {d : D} (h : (rangeD lo n)[i]? = some d) : i < n ∧ d = .int (lo + i) := by
  unfold rangeD at h
  rw [List.getElem?_map] at h
  by_cases hi : i < n
  · rw [List.getElem?_range hi] at h
    exact ⟨hi, (Option.some.inj h).symm⟩
  · rw [List.getElem?_eq_none (by simpa using hi)] at h
    cases h
theorem it_range (m : Pm) (F0 : Hp) (w1 : Wd) (lo : Int) (n : Nat) : ItOk m F0 w1 (Itr lo n) (rangeD lo n) := fun i F w H e hs s => ⟨fun hi => by rw [rangeD_len] at hi; exact hi, fun d hd => by
  obtain ⟨hi, rfl⟩ := rangeD_get hd
  refine ⟨hi, fun x H' y => ?_⟩
  obtain ⟨rfl, rfl⟩ := y
  exact ⟨w, .refl _, rfl, s, .int _⟩⟩
theorem ran_ok {i j : Int} (h : ranS i j = some ds) : ds = rangeD i (j - i).toNat ∧ -(2 ^ 62) ≤ i ∧ i < 2 ^ 62 ∧ -(2 ^ 62) ≤ j ∧ j < 2 ^ 62 := by
  unfold ranS at h
  split at h
  · rename_i hc
    exact ⟨(Option.some.inj h).symm, hc⟩
  · cases h
theorem star1 {a : Expr} (h : isStar a = false) (env : Env) : starEach [a] env = [(false, eval a env)] := star_cons h env
theorem evi_range1 {Φ : List D → Ks → Prop} (h : EVD Γ Ψ ρ κ a (fun d κ' => ∃ i ds, d = .int i ∧ ranS 0 i = some ds ∧ Φ ds κ')) (hm : Γ.g.mg "range" = none) (hg : glB Γ.sc "range" = true) (hs : isStar a = false) :
    EVI Γ Ψ ρ κ tg (.Call (.Name "range" pp) [a] [] pos) Φ := ⟨fun {X m F0 w0 F ow σ w H} s k R q => ⟨_, pi_range1 (s.f.gl hg) (by rw [s.f.mg]; exact hm) pa_w (star1 hs _), (eva_cons (Φ := fun as κ' => ∃ d, as = [.dat d] ∧ ∃ i ds, d = .int i ∧ ranS 0 i = some ds ∧ Φ ds κ') (h.imp fun d κ' hd => eva_nil ⟨d, rfl, hd⟩) hs).run s k _ fun as vs w2 H2 p2 e2 s2 d2 => by
  obtain ⟨d, rfl, i, ds, rfl, hr, hΦ⟩ := p2
  cases d2 with
  | cons x r =>
    cases r
    obtain ⟨rfl, _, _, h1, h2⟩ := ran_ok hr
    rw [Int.sub_zero] at hΦ
    rw [Rep.int_inv x]
    exact ⟨i, rfl, h1, h2, q _ _ w2 H2 hΦ e2 s2 (it_range m F0 w2 0 i.toNat)⟩⟩⟩
theorem evi_range2 {Φ : List D → Ks → Prop} (h : EVD Γ Ψ ρ κ a (fun d κ1 => EVD Γ Ψ ρ κ1 b (fun d' κ' => ∃ i j ds, d = .int i ∧ d' = .int j ∧ ranS i j = some ds ∧ Φ ds κ'))) (hm : Γ.g.mg "range" = none) (hg : glB Γ.sc "range" = true) (hs : isStar a = false) (hs2 : isStar b = false) :
    EVI Γ Ψ ρ κ tg (.Call (.Name "range" pp) [a, b] [] pos) Φ := ⟨fun {X m F0 w0 F ow σ w H} s k R q => ⟨_, pi_range2 (s.f.gl hg) (by rw [s.f.mg]; exact hm) pa_w (by rw [star_cons hs, star1 hs2]) (star1 hs2 _), (eva_cons (Φ := fun as κ' => ∃ d d', as = [.dat d, .dat d'] ∧ ∃ i j ds, d = .int i ∧ d' = .int j ∧ ranS i j = some ds ∧ Φ ds κ') (h.imp fun d κ' hd => eva_cons (hd.imp fun d' κ2 hd' => eva_nil ⟨d, d', rfl, hd'⟩) hs2) hs).run s k _ fun as vs w2 H2 p2 e2 s2 d2 => by
  obtain ⟨d, d', rfl, i, j, ds, rfl, rfl, hr, hΦ⟩ := p2
  cases d2 with
  | cons x r =>
    cases r with
    | cons y r =>
      cases r
      obtain ⟨rfl, hb⟩ := ran_ok hr
      rw [Rep.int_inv x, Rep.int_inv y]
      exact ⟨i, j, rfl, hb, q _ _ w2 H2 hΦ e2 s2 (it_range m F0 w2 i (j - i).toNat)⟩⟩⟩
theorem zipD_len : (zipD xs ys).length = min xs.length ys.length := by simp [zipD]
theorem zipD_get {d : D} (h : (zipD xs ys)[i]? = some d) : ∃ u v, xs[i]? = some u ∧ ys[i]? = some v ∧ d = .tuple [u, v] := by
  unfold zipD at h
  rw [List.getElem?_map] at h
  cases q : (xs.zip ys)[i]? with
  | none =>
    rw [q] at h
    cases h
  | some z =>
    rw [q] at h
    obtain ⟨h1, h2⟩ := List.getElem?_zip_eq_some.mp q
    exact ⟨z.1, z.2, h1, h2, (Option.some.inj h).symm⟩
theorem new_pair {m : Pm} {F H : Hp} {w : Wd} {T : Addr} {v1 v2 : V} {d1 d2 : D} (s : St0 m F w H) (hT : H T = none) (r1 : RepW m w v1 d1) (r2 : RepW m w v2 d2) : ∃ w2, w.le w2 ∧ w2.κ = w.κ ∧ St0 m F w2 (upd H T (.tup [v1, v2])) ∧ RepW m w2 (.ref T) (.tuple [d1, d2]) := by
  obtain ⟨le, st, rp⟩ := new_tup (vs := [v1, v2]) (ds := [d1, d2]) s hT (.cons r1 (.cons r2 .nil))
  exact ⟨_, le, rfl, st, rp⟩
theorem evi_zip {Φ : List D → Ks → Prop} (h : EVF Γ Ψ ρ κ a (fun u κ1 => EVF Γ Ψ ρ κ1 b (fun v κ' => ∃ ds, zipS u v = some ds ∧ Φ ds κ'))) (hm : Γ.g.mg "zip" = none) (hg : glB Γ.sc "zip" = true) (hs : isStar a = false) (hs2 : isStar b = false) :
    EVI Γ Ψ ρ κ (.Tuple elts kk tpos) (.Call (.Name "zip" pp) [a, b] [] pos) Φ := ⟨fun {X m F0 w0 F ow σ w H} s k R q => ⟨_, RZ.pi_zipA (s.f.gl hg) (by rw [s.f.mg]; exact hm) (pa_cons pe_w (pa_cons pe_w pa_nil (star_cons hs2 _)) (star_cons hs _)) (star_cons hs _) (star_any (by simp [hs2]) _ _), h.run s k _ fun u va w1 H1 p1 e1 s1 d1 => p1.run (s.next e1 s1) rfl _ fun v vb w2 H2 p2 e2 s2 d2 => by
  obtain ⟨ds, hz, hΦ⟩ := p2
  have d1 := d1.le e2
  unfold zipS at hz
  split at hz
  · rename_i xs ys
    cases hz
    obtain ⟨pa, us, rfl, r1, h1⟩ := d1.listF
    obtain ⟨pb, ws, rfl, r2, h2⟩ := d2.listF
    refine ⟨pa, pb, us, ws, rfl, .inl ⟨by rw [← s.x.K]; exact h1 _ _ _ (.refl _) s.sl.sub s2, by rw [← s.x.K]; exact h2 _ _ _ (.refl _) s.sl.sub s2, ?_⟩⟩
    rw [← s.x.K]
    refine q _ _ w2 H2 hΦ (e1.trans e2) s2 fun i F' w' H' e' hs s' => ?_
    have k1 := h1 _ _ _ e' hs s'
    have k2 := h2 _ _ _ e' hs s'
    refine ⟨fun hi => ⟨us, ws, k1, k2, ?_⟩, fun d hd => ?_⟩
    · rw [zipD_len] at hi
      have e1 := r1.len
      have e2 := r2.len
      omega
    · obtain ⟨u, v, g1, g2, rfl⟩ := zipD_get hd
      obtain ⟨y1, f1, q1⟩ := r1.get g1
      obtain ⟨y2, f2, q2⟩ := r2.get g2
      refine ⟨⟨us, ws, y1, y2, k1, k2, f1, f2⟩, fun x H' y => ?_⟩
      obtain ⟨T, z1, z2, rfl, hT, rfl, w1, w2⟩ := y
      have e1 := w1 us k1
      rw [f1] at e1
      cases e1
      have e2 := w2 ws k2
      rw [f2] at e2
      cases e2
      exact new_pair s' hT (q1.le e') (q2.le e')
  · rename_i xs ys
    cases hz
    obtain ⟨pa, us, rfl, r1, h1⟩ := d1.tupF
    obtain ⟨pb, ws, rfl, r2, h2⟩ := d2.tupF
    refine ⟨pa, pb, us, ws, rfl, .inr ⟨by rw [← s.x.K]; exact h1 _ _ _ (.refl _) s.sl.sub s2, by rw [← s.x.K]; exact h2 _ _ _ (.refl _) s.sl.sub s2, ?_⟩⟩
    rw [← s.x.K]
    refine q _ _ w2 H2 hΦ (e1.trans e2) s2 fun i F' w' H' e' hs s' => ?_
    have k1 := h1 _ _ _ e' hs s'
    have k2 := h2 _ _ _ e' hs s'
    refine ⟨fun hi => ⟨us, ws, k1, k2, ?_⟩, fun d hd => ?_⟩
    · rw [zipD_len] at hi
      have e1 := r1.len
      have e2 := r2.len
      omega
    · obtain ⟨u, v, g1, g2, rfl⟩ := zipD_get hd
      obtain ⟨y1, f1, q1⟩ := r1.get g1
      obtain ⟨y2, f2, q2⟩ := r2.get g2
      refine ⟨⟨us, ws, y1, y2, k1, k2, f1, f2⟩, fun x H' y => ?_⟩
      obtain ⟨T, z1, z2, rfl, hT, rfl, w1, w2⟩ := y
      have e1 := w1 us k1
      rw [f1] at e1
      cases e1
      have e2 := w2 ws k2
      rw [f2] at e2
      cases e2
      exact new_pair s' hT (q1.le e') (q2.le e')
  · cases hz⟩⟩
theorem evi_enum {Φ : List D → Ks → Prop} (h : EVF Γ Ψ ρ κ a (fun u κ1 => ∃ ds, u = .list ds ∧ Φ (zipD (rangeD 0 ds.length) ds) κ1)) (hm : Γ.g.mg "enumerate" = none) (hg : glB Γ.sc "enumerate" = true) (hs : isStar a = false) :
    EVI Γ Ψ ρ κ (.Tuple elts kk tpos) (.Call (.Name "enumerate" pp) [a] [] pos) Φ := ⟨fun {X m F0 w0 F ow σ w H} s k R q => ⟨_, pi_enum (s.f.gl hg) (by rw [s.f.mg]; exact hm) (pa_cons pe_w pa_nil (star_cons hs _)) (star1 hs _), h.run s k _ fun u va w2 H2 p2 e2 s2 d2 => by
  obtain ⟨ds, rfl, hΦ⟩ := p2
  obtain ⟨pa, us, rfl, r1, h1⟩ := d2.listF
  refine ⟨pa, us, rfl, by rw [← s.x.K]; exact h1 _ _ _ (.refl _) s.sl.sub s2, q _ _ w2 H2 hΦ e2 s2 fun i F' w' H' e' hs s' => ?_⟩
  have k1 := h1 _ _ _ e' hs s'
  rw [← s.x.K]
  refine ⟨fun hi => ⟨us, k1, ?_⟩, fun d hd => ?_⟩
  · rw [zipD_len, rangeD_len] at hi
    have e1 := r1.len
    omega
  · obtain ⟨u, v, g1, g2, rfl⟩ := zipD_get hd
    obtain ⟨_, rfl⟩ := rangeD_get g1
    obtain ⟨y1, f1, r1⟩ := r1.get g2
    refine ⟨⟨us, y1, k1, f1⟩, fun x H' y => ?_⟩
    obtain ⟨T, z1, rfl, hT, rfl, w1⟩ := y
    have e1 := w1 us k1
    rw [f1] at e1
    cases e1
    rw [Int.zero_add]
    exact new_pair s' hT (.int _) (r1.le e')⟩⟩
theorem evi_enumT {Φ : List D → Ks → Prop} (h : EVF Γ Ψ ρ κ a (fun u κ1 => ∃ ds, u = .tuple ds ∧ Φ (zipD (rangeD 0 ds.length) ds) κ1)) (hm : Γ.g.mg "enumerate" = none) (hg : glB Γ.sc "enumerate" = true) (hs : isStar a = false) :
    EVI Γ Ψ ρ κ (.Tuple elts kk tpos) (.Call (.Name "enumerate" pp) [a] [] pos) Φ := ⟨fun {X m F0 w0 F ow σ w H} s k R q => ⟨_, pi_enumT (s.f.gl hg) (by rw [s.f.mg]; exact hm) (pa_cons pe_w pa_nil (star_cons hs _)) (star1 hs _), h.run s k _ fun u va w2 H2 p2 e2 s2 d2 => by
  obtain ⟨ds, rfl, hΦ⟩ := p2
  obtain ⟨pa, us, rfl, r1, h1⟩ := d2.tupF
  refine ⟨pa, us, rfl, by rw [← s.x.K]; exact h1 _ _ _ (.refl _) s.sl.sub s2, q _ _ w2 H2 hΦ e2 s2 fun i F' w' H' e' hs s' => ?_⟩
  have k1 := h1 _ _ _ e' hs s'
  rw [← s.x.K]
  refine ⟨fun hi => ⟨us, k1, ?_⟩, fun d hd => ?_⟩
  · rw [zipD_len, rangeD_len] at hi
    have e1 := r1.len
    omega
  · obtain ⟨u, v, g1, g2, rfl⟩ := zipD_get hd
    obtain ⟨_, rfl⟩ := rangeD_get g1
    obtain ⟨y1, f1, r1⟩ := r1.get g2
    refine ⟨⟨us, y1, k1, f1⟩, fun x H' y => ?_⟩
    obtain ⟨T, z1, rfl, hT, rfl, w1⟩ := y
    have e1 := w1 us k1
    rw [f1] at e1
    cases e1
    rw [Int.zero_add]
    exact new_pair s' hT (.int _) (r1.le e')⟩⟩
end
end VL

namespace VL
open PySem PySem.Spec PyProof.Rows L2
def Pst.o (p : Pst) (o : Out) (κ : Ks) : Prop := match o with
  | .nx ρ => p.nx ρ κ
  | .rt r => p.rt r κ
  | .bk ρ => p.bk ρ κ
  | .ct ρ => p.ct ρ κ
section
variable {Γ : Ctx} {Ψ : Exc → Ks → Prop} {ρ : List En} {κ : Ks} {a b c e tg iter elt : Expr} {es ts ifs : List Expr} {pos pos' pp p2 tpos : Pos} {p : Pst} {st : Stmt} {rest body orelse : List Stmt} {x y : Str} {i j : Nat} {d : D} {ds xs ys : List D} {kk : Nat} {elts : List Expr} {scope : Scope} {own : List (Str × Nat)}
/-! ### for, while -/
theorem fold_no {e : Expr} (h : (match e with | .Set _ _ _ => true | _ => false) = false) (env : Env) (x : Value) : foldedSetIterable e env x = pure x := by
  cases e <;> first | rfl | (cases h; done)
theorem s1_for {step : D → List En → M Out} (hi : EVI Γ Ψ ρ κ tg iter (fun ds κ' => (forL step ds ρ κ').sat p.o Ψ))
    (hstep : ∀ d ρ' κ' p', (step d ρ' κ').sat (Pst.o p') Ψ → ∃ ρ2 ix, TGT Γ Ψ ρ' tg d ix ρ2 ∧ SD Γ Ψ ρ2 κ' body p') (hs : ∀ env x, foldedSetIterable iter env x = pure x) (ht : Γ.top = true) : SD1 Γ Ψ ρ κ (.For tg iter body [] pos) p :=
  ⟨fun {X m F0 w0 F ow σ w H} s k => by
    obtain ⟨wi, hwi, q⟩ := hi.run s k (fun J H1 => ∃ W : Nat → Nat → L2.St → Hp → Prop, (∃ mm, W 0 mm σ H1) ∧ ∀ i mm σ H, W i mm σ H →
      (J.stop i H ∧ (ends p m F0 w0).nx σ H) ∨ (J.go i H ∧ ∃ N : L2.St → Hp → Prop, (∀ σ' H', N σ' H' → ∃ m', m' < mm ∧ W (i + 1) m' σ' H') ∧ ∀ x H', J.yld i H x H' → wG X tg x σ H' fun σ2 H2 => wSs X body { ends p m F0 w0 with nx := N, ct := N, bk := (ends p m F0 w0).nx } σ2 H2)) fun ds J w1 H1 p1 e1 s1 it => by
      let Inv : Nat → List En → Ks → Prop := fun i ρ' κ' => (forL step (ds.drop i) ρ' κ').sat p.o Ψ
      refine ⟨fun i mm σ H => i + mm = ds.length ∧ ends1 m F0 w1 (Inv i) σ H, ⟨ds.length, by omega, ρ, F, ow, w1, p1, .refl _, s.sl.mono e1, s1⟩, fun i mm σ' H' hw => ?_⟩
      obtain ⟨hm, ρ', F', ow', w', hI, e', sl', st'⟩ := hw
      have key := it i F' w' H' e' sl'.sub st'
      by_cases hlt : i < ds.length
      · obtain ⟨go, yl⟩ := key.2 ds[i] (List.getElem?_eq_getElem hlt)
        refine .inr ⟨go, fun σ2 H2 => ends1 m F0 w1 (Inv (i + 1)) σ2 H2, fun σ2 H2 n => ⟨mm - 1, by omega, by omega, n⟩, fun x H2 y => ?_⟩
        obtain ⟨w2, e2, k2, st2, dp⟩ := yl x H2 y
        have x1 := s.x.later (s.s0.trans e1)
        have hI' : (forL step (ds.drop i) ρ' w'.κ).sat p.o Ψ := hI
        rw [List.drop_eq_getElem_cons hlt, forL, sat_bind] at hI'
        obtain ⟨ρ2, ix, hT, hB⟩ := hstep ds[i] ρ' w'.κ { nx := Inv (i + 1), ct := Inv (i + 1), bk := p.nx, rt := p.rt } (hI'.imp (fun o κ' h => by
          cases o with
          | nx ρ3 => exact h
          | ct ρ3 => exact h
          | bk ρ3 => exact h
          | rt r => exact h) fun _ _ h => h)
        refine hT.run (w0 := w1) ⟨s.f, x1, e'.trans e2, sl'.mono e2, st2⟩ x _ dp fun σ2 sl2 _ => ?_
        refine wSs_mono (hB.run (w0 := w1) ⟨s.f, x1, e'.trans e2, sl2, st2⟩ k2) (fun _ _ z => z) (fun v H ⟨r, w3, z, le, ok⟩ => ⟨r, w3, z, (s.s0.trans e1).trans le, ok⟩) (fun _ _ z => z.later (s.s0.trans e1)) (fun _ _ z => z)
      · refine .inl ⟨key.1 (by omega), ρ', F', ow', w', ?_, (s.s0.trans e1).trans e', sl', st'⟩
        have hI' : (forL step (ds.drop i) ρ' w'.κ).sat p.o Ψ := hI
        rw [List.drop_eq_nil_of_le (by omega)] at hI'
        exact hI'
    exact ⟨_, ps_for (s.x.po ht) s.x.calm hwi pg_w pss_w (hs _), q⟩⟩
theorem s1_while {cf : List En → M Bool} {bf : List En → M Out} {n : Nat} (h0 : (whL cf bf n ρ κ).sat p.o Ψ)
    (hc : ∀ ρ' κ' Φ, (cf ρ' κ').sat Φ Ψ → EVT Γ Ψ ρ' κ' c Φ) (hb : ∀ ρ' κ' p', (bf ρ' κ').sat (Pst.o p') Ψ → SD Γ Ψ ρ' κ' body p') (ht : Γ.top = true) : SD1 Γ Ψ ρ κ (.While c body [] pos) p :=
  ⟨fun {X m F0 w0 F ow σ w H} s k => by
    refine ⟨_, ps_while (s.x.po ht) pt_w pss_w, fun n σ H => ends1 m F0 w0 (fun ρ' κ' => (whL cf bf n ρ' κ').sat p.o Ψ) σ H, ?_, fun n σ' H' hw => ?_⟩
    · exact ⟨n, ρ, F, ow, w, by rw [k]; exact h0, s.s0, s.sl, s.st⟩
    · obtain ⟨ρ', F', ow', w', hI, e', sl', st'⟩ := hw
      cases n with
      | zero => exact hI.elim
      | succ n =>
        rw [whL, sat_bind] at hI
        refine (hc ρ' w'.κ _ hI).run ⟨s.f, s.x, e', sl', st'⟩ rfl _ fun b w2 H2 p2 e2 s2 => ?_
        cases b with
        | true =>
          have p2' : (M.bind (bf ρ') (fun o => match o with
            | .nx ρ' => whL cf bf n ρ'
            | .ct ρ' => whL cf bf n ρ'
            | .bk ρ' => .ret (.nx ρ')
            | .rt r => .ret (.rt r)) w2.κ).sat p.o Ψ := p2
          rw [sat_bind] at p2'
          refine iteT ⟨ends1 m F0 w0 (fun ρ' κ' => (whL cf bf n ρ' κ').sat p.o Ψ), fun σ2 H2 z => ⟨n, Nat.lt_succ_self n, z⟩, ?_⟩
          refine (hb ρ' w2.κ { nx := fun ρ' κ' => (whL cf bf n ρ' κ').sat p.o Ψ, ct := fun ρ' κ' => (whL cf bf n ρ' κ').sat p.o Ψ, bk := p.nx, rt := p.rt } (p2'.imp (fun o κ' h => by
            cases o with
            | nx ρ3 => exact h
            | ct ρ3 => exact h
            | bk ρ3 => exact h
            | rt r => exact h) fun _ _ h => h)).run ⟨s.f, s.x, e'.trans e2, sl'.mono e2, s2⟩ rfl
        | false => exact iteF ⟨ρ', F', ow', w2, p2, e'.trans e2, sl'.mono e2, s2⟩⟩
/-! ### comprehensions -/
abbrev Ctx.blk (Γ : Ctx) (scope : Scope) : Ctx := { Γ with sc := relS scope Γ.sc, top := false, lam := none }
def gB (X : Cx) (scope : Scope) (tg : Expr) : TG := fun v σ H Q => ∀ (s : Shared) (H' : Hp) (C : Addr) (cl : List (Str × Addr)) (fp : List Addr), wG (X.blk s H' scope (compEnvC scope cl C X.env) fp) tg v σ H Q
def eB (X : Cx) (scope : Scope) (e : Expr) : TE := fun σ H Q => ∀ (s : Shared) (H' : Hp) (C : Addr) (cl : List (Str × Addr)) (fp : List Addr), wE (X.blk s H' scope (compEnvC scope cl C X.env) fp) e σ H Q
def wTs (X : Cx) (ifs : List Expr) : TT := fun σ H Q => ∃ t, PTs X ifs t ∧ t σ H Q
theorem pts_w {X : Cx} {ifs : List Expr} : PTs X ifs (wTs X ifs) := ⟨fun pins s σ H Q I h => by
  obtain ⟨t, h, q⟩ := h
  exact h.run pins s σ H Q I q⟩
def tB' (X : Cx) (scope : Scope) (ifs : List Expr) : TT := fun σ H Q => ∀ (s : Shared) (H' : Hp) (C : Addr) (cl : List (Str × Addr)) (fp : List Addr), wTs (X.blk s H' scope (compEnvC scope cl C X.env) fp) ifs σ H Q
structure EVTs (Γ : Ctx) (Ψ : Exc → Ks → Prop) (ρ : List En) (κ : Ks) (ifs : List Expr) (Φ : Bool → Ks → Prop) : Prop where
  run : ∀ {X : Cx} {m : Pm} {F0 : Hp} {w0 : Wd} {F : Hp} {ow : Nat → Addr} {σ : L2.St} {w : Wd} {H : Hp}, Stt Γ X Ψ ρ m F0 w0 F ow σ w H → w.κ = κ → ∀ Q : Bool → Hp → Prop, (∀ b w2 H2, Φ b w2.κ → w.le w2 → St0 m F w2 H2 → Q b H2) → wTs X ifs σ H Q
theorem Fr.blk {Γ : Ctx} {X : Cx} (f : Fr Γ X) (scope : Scope) (s : Shared) (H' : Hp) (C : Addr) (cl : List (Str × Addr)) (fp : List Addr) : Fr (Γ.blk scope) (X.blk s H' scope (compEnvC scope cl C X.env) fp) :=
  ⟨f.prog, f.w, f.K, f.mg, f.base, f.N, by
    show relS scope X.env.scope = relS scope Γ.sc
    rw [f.sc], f.room, fun z => Bool.noConfusion z, fun z => Bool.noConfusion z, fun _ _ _ z => nomatch z⟩
theorem XOk.blk {Γ : Ctx} {X : Cx} {m : Pm} {F0 : Hp} {w0 : Wd} {Ψ : Exc → Ks → Prop} (x : XOk Γ X m F0 w0 Ψ) (F1 : Hp) (w1 : Wd) (scope : Scope) (s : Shared) (H' : Hp) (C : Addr) (cl : List (Str × Addr)) (fp : List Addr) : XOk (Γ.blk scope) (X.blk s H' scope (compEnvC scope cl C X.env) fp) m F1 w1 NoXK :=
  ⟨x.K, x.mg, x.T, x.nd, x.calm, (fun z => Bool.noConfusion z), L2.takes0.imp fun _ _ _ _ ⟨_, _, _, _, z, _⟩ => z, fun _ _ _ _ _ z => nomatch z⟩
theorem evts_nil {Φ : Bool → Ks → Prop} (h : Φ true κ) : EVTs Γ Ψ ρ κ [] Φ := ⟨fun {X m F0 w0 F ow σ w H} s k Q q => ⟨_, pts_nil, q true w H (by rw [k]; exact h) (.refl _) s.st⟩⟩
theorem evts_one {Φ : Bool → Ks → Prop} (h : EVT Γ Ψ ρ κ c Φ) : EVTs Γ Ψ ρ κ [c] Φ := ⟨fun {X m F0 w0 F ow σ w H} s k Q q => ⟨_, pts_one pt_w, h.run s k Q q⟩⟩
theorem L2_wipe_wipe (σ : L2.St) (vs : List Nat) : L2.wipe (L2.wipe σ vs) vs = L2.wipe σ vs := by
  refine List.ext_getElem? fun j => ?_
  rw [wipe_get, wipe_get, wipe_length]
  by_cases h : j ∈ vs ∧ j < σ.length
  · rw [if_pos h, if_pos h]
  · rw [if_neg h]
/-- one turn of a comprehension -/
def LcTurn (Γ : Ctx) (ρ : List En) (κ : Ks) (tg elt : Expr) (ifs : List Expr) (ix : List Nat) (d : D) (no : Ks → Prop) (yes : D → Ks → Prop) : Prop :=
  ∃ ρ2, TGT Γ NoXK ρ tg d ix ρ2 ∧ EVTs Γ NoXK ρ2 κ ifs (fun k κ' => if k = true then EVD Γ NoXK ρ2 κ' elt yes else no κ')
theorem lc_main (Inv : List D → Nat → List D → Ks → Prop) {ix : List Nat} (hi : EVI Γ Ψ ρ κ tg iter (fun ds κ' => ds.length ≤ sizeLine ∧ Inv ds 0 [] κ')) (hix : ∀ i ∈ ix, i ∈ own.map (·.2))
    (turn : ∀ ds i d acc κ', ds[i]? = some d → Inv ds i acc κ' → LcTurn (Γ.blk scope) (wipeE ρ (own.map (·.2))) κ' tg elt ifs ix d (fun κ2 => Inv ds (i + 1) acc κ2) (fun y κ2 => Inv ds (i + 1) (acc ++ [y]) κ2))
    {X : Cx} {m : Pm} {F0 : Hp} {w0 : Wd} {F : Hp} {ow : Nat → Addr} {σ : L2.St} {w : Wd} {H : Hp} (s : Stt Γ X Ψ ρ m F0 w0 F ow σ w H) (hk : w.κ = κ) (Q : VK)
    (q : ∀ ds' v w2 H2, (∃ ds, Inv ds ds.length ds' w2.κ) → w.le w2 → RsAt m F w2 v H2 (.new (.lst ds')) → Q v H2) :
    ∃ wi, PI X tg iter wi ∧ tLc wi (gB X scope tg) (tB' X scope ifs) (eB X scope elt) (own.map (·.2)) σ H Q := by
  obtain ⟨wi, hwi, hq⟩ := hi.run s hk (fun J H1 => ∀ D, H1 D = none → ∃ W : Nat → Nat → Hp → Prop, (∃ m, W 0 m (upd H1 D (.lst []))) ∧ ∀ i m H, W i m H →
    (J.stop i H ∧ Q (.ref D) H) ∨ (J.go i H ∧ ∃ Nx : Hp → Prop, (∀ H', Nx H' → ∃ m', m' < m ∧ W (i + 1) m' H') ∧ ∀ x H', J.yld i H x H' → gB X scope tg x (L2.wipe σ (own.map (·.2))) H' fun σ2 H2 => L2.wipe σ2 (own.map (·.2)) = L2.wipe σ (own.map (·.2)) ∧ tB' X scope ifs σ2 H2 fun b H3 =>
      if b = true then eB X scope elt σ2 H3 fun y H4 => ∃ acc, H4 D = some (.lst acc) ∧ acc.length < sizeLine ∧ Nx (upd H4 D (.lst (acc ++ [y]))) else Nx H3)) fun ds J w1 H1 p1 e1 s1 it Dl hD => by
    have hFD := s1.freshF hD
    have hF0D : F0 Dl = none := by
      cases z : F0 Dl with
      | none => rfl
      | some u => rw [s.sl.sub Dl u z] at hFD; cases hFD
    let Wp : Nat → Hp → Prop := fun i H => ∃ (vs : List V) (acc : List D) (w' : Wd), acc.length ≤ i ∧ Inv ds i acc w'.κ ∧ w1.le w' ∧ St0 m (upd F Dl (.lst vs)) w' H ∧ RepsW m w' vs acc
    refine ⟨fun i mm H => i + mm = ds.length ∧ Wp i H, ⟨ds.length, by omega, [], [], w1, Nat.le_refl _, p1.2, .refl _, s1.allocF hD, .nil⟩, fun i mm H' hw => ?_⟩
    obtain ⟨hm, vs, acc, w', hacc, hI, e', st', dp'⟩ := hw
    have hsub : ∀ a o, F0 a = some o → upd F Dl (.lst vs) a = some o := fun a o z => by
      rw [upd_ne (fun q => by rw [q, hF0D] at z; cases z)]
      exact s.sl.sub a o z
    have key := it i (upd F Dl (.lst vs)) w' H' e' hsub st'
    by_cases hlt : i < ds.length
    · obtain ⟨go, yl⟩ := key.2 ds[i] (List.getElem?_eq_getElem hlt)
      refine .inr ⟨go, Wp (i + 1), fun H2 n => ⟨mm - 1, by omega, by omega, n⟩, fun x H2 y => ?_⟩
      obtain ⟨w2, e2, k2, st2, dp⟩ := yl x H2 y
      have sl0 : Slots m F0 (upd F Dl (.lst vs)) ow (wipeE ρ (own.map (·.2))) (L2.wipe σ (own.map (·.2))) w2 := ((s.sl.mono ((e1.trans e').trans e2)).grow hFD).wipe _
      obtain ⟨ρ2, t, ht⟩ := turn ds i ds[i] acc w'.κ (List.getElem?_eq_getElem hlt) hI
      intro s' Hs C cl fp
      refine t.run (F0 := F0) (w0 := w1) ⟨s.f.blk scope s' Hs C cl fp, s.x.blk F0 w1 scope s' Hs C cl fp, e'.trans e2, sl0, st2⟩ x _ dp fun σ2 sl2 hw => ?_
      refine ⟨by rw [hw _ hix]; exact L2_wipe_wipe σ (own.map (·.2)), ?_⟩
      intro s' Hs C cl fp
      refine ht.run (F0 := F0) (w0 := w1) ⟨s.f.blk scope s' Hs C cl fp, s.x.blk F0 w1 scope s' Hs C cl fp, e'.trans e2, sl2, st2⟩ k2 _ fun b w3 H3 pb e3 st3 => ?_
      cases b with
      | false => exact iteF ⟨vs, acc, w3, by omega, pb, (e'.trans e2).trans e3, st3, dp'.le (e2.trans e3)⟩
      | true =>
        refine iteT ?_
        intro s' Hs C cl fp
        refine (show EVD (Γ.blk scope) NoXK ρ2 w3.κ elt _ from pb).run (F0 := F0) (w0 := w1) ⟨s.f.blk scope s' Hs C cl fp, s.x.blk F0 w1 scope s' Hs C cl fp, (e'.trans e2).trans e3, sl2.mono e3, st3⟩ rfl _ fun y vy w4 H4 py e4 st4 dy => ?_
        have hD4 := (st4.fr Dl _ upd_same).1
        refine ⟨vs, hD4, ?_, vs ++ [vy], acc ++ [y], w4, by simp; omega, py, ((e'.trans e2).trans e3).trans e4, ?_, (dp'.le ((e2.trans e3).trans e4)).app (.cons dy .nil)⟩
        · rw [dp'.len]
          have := p1.1
          omega
        · have z := st4.write (p := Dl) (o := .lst (vs ++ [vy])) upd_same lst_code
          rw [upd_upd] at z
          exact z
    · have hi' : i = ds.length := by omega
      subst hi'
      exact .inl ⟨key.1 (Nat.le_refl _), q acc (.ref Dl) w' H' ⟨ds, hI⟩ (e1.trans e') ⟨Dl, .lst vs, rfl, hFD, st', vs, rfl, dp'⟩⟩
  exact ⟨wi, hwi, hq⟩
theorem pg_b {X : Cx} : ∀ (s : Shared) (H : Hp) (C : Addr) (cl : List (Str × Addr)) (fp : List Addr), PG (X.blk s H scope (compEnvC scope cl C X.env) fp) tg (gB X scope tg) := fun s H C cl fp => ⟨fun pins s σ H v u Q I r h => pg_w.run pins s σ H v u Q I r (h _ _ _ _ _)⟩
theorem ev_lc (Inv : List D → Nat → List D → Ks → Prop) {ix : List Nat} {Φ : Rs → Ks → Prop} (hi : EVI Γ Ψ ρ κ tg iter (fun ds κ' => ds.length ≤ sizeLine ∧ Inv ds 0 [] κ')) (hix : ∀ i ∈ ix, i ∈ own.map (·.2))
    (turn : ∀ ds i d acc κ', ds[i]? = some d → Inv ds i acc κ' → LcTurn (Γ.blk scope) (wipeE ρ (own.map (·.2))) κ' tg elt ifs ix d (fun κ2 => Inv ds (i + 1) acc κ2) (fun y κ2 => Inv ds (i + 1) (acc ++ [y]) κ2))
    (hd : ∀ ds ds' κ', Inv ds ds.length ds' κ' → Φ (.new (.lst ds')) κ') (hb : blkC Γ.N Γ.sc scope own = true) (hs : ∀ env x, foldedSetIterable iter env x = pure x) : EV Γ Ψ ρ κ (.ListComp elt [⟨tg, iter, ifs, 0⟩] scope pos) Φ := ⟨fun {X m F0 w0 F ow σ w H} s k Q q => by
  obtain ⟨wi, hwi, t⟩ := lc_main (scope := scope) (own := own) (elt := elt) (ifs := ifs) Inv hi hix turn s k Q fun ds' v w2 H2 ⟨ds, h⟩ le at_ => q _ v w2 H2 (hd ds ds' _ h) le at_
  have ok : BlkOk X.N X.env.scope scope own := by rw [s.f.N, s.f.sc]; exact blkOk_by hb
  exact ⟨_, pe_lc s.x.calm s.x.nd hwi ok pg_b (fun s H C cl fp => ⟨fun pins s σ H Q I h => pts_w.run pins s σ H Q I (h _ _ _ _ _)⟩) (fun s H C cl fp => ⟨fun pins s σ H Q I h => pe_w.run pins s σ H Q I (h _ _ _ _ _)⟩) (hs _), t⟩⟩
/-- y = [..]: stored within the comprehension's frame -/
def swB (sc : Scope) (y : Str) (py pos : Pos) (scope : Scope) : Bool := decide (sc.names.lookup y = some .local) && (decide (sc.kind = .function) && ((py.line == pos.line) && !(scope.names.any fun (n, k) => n == y && (k == .local || k == .cell))))
theorem s1_lc {py spos : Pos} {iy : Nat} (Inv : List D → Nat → List D → Ks → Prop) {ix : List Nat} (hi : EVI Γ Ψ ρ κ tg iter (fun ds κ' => ds.length ≤ sizeLine ∧ Inv ds 0 [] κ')) (hix : ∀ i ∈ ix, i ∈ own.map (·.2))
    (turn : ∀ ds i d acc κ', ds[i]? = some d → Inv ds i acc κ' → LcTurn (Γ.blk scope) (wipeE ρ (own.map (·.2))) κ' tg elt ifs ix d (fun κ2 => Inv ds (i + 1) acc κ2) (fun y κ2 => Inv ds (i + 1) (acc ++ [y]) κ2))
    (own' : Bool) (hd : ∀ ds ds' κ', Inv ds ds.length ds' κ' → p.nx (ρ.set iy (if own' = true then .own (.lst ds') else .dat (.list ds'))) κ') (hN : Γ.N[iy]? = some y) (hsw : swB Γ.sc y py pos scope = true)
    (hb : blkC Γ.N Γ.sc scope own = true) (hs : ∀ env x, foldedSetIterable iter env x = pure x) : SD1 Γ Ψ ρ κ (.Assign [.Name y py] (.ListComp elt [⟨tg, iter, ifs, 0⟩] scope pos) spos) p := ⟨fun {X m F0 w0 F ow σ w H} s k => by
  unfold swB at hsw
  simp only [Bool.and_eq_true, decide_eq_true_eq, Bool.not_eq_true'] at hsw
  obtain ⟨hy, hk, hll, ha⟩ := hsw
  obtain ⟨wi, hwi, t⟩ := lc_main (scope := scope) (own := own) (elt := elt) (ifs := ifs) Inv hi hix turn s k (fun x H1 => gName iy x σ H1 ((ends p m F0 w0).nx)) fun ds' v w2 H2 ⟨ds, h⟩ le at_ => by
    have hn := hd ds ds' _ h
    cases own' with
    | true =>
      obtain ⟨q, ob, rfl, hF, st, oa⟩ := at_
      exact ⟨_, _, _, w2, hn, s.s0.trans le, (s.sl.mono le).putOwn hF oa, st⟩
    | false =>
      obtain ⟨w3, e3, k3, st, rp⟩ := at_.data
      exact ⟨_, F, ow, w3, by rw [k3]; exact hn, (s.s0.trans le).trans e3, (s.sl.mono (le.trans e3)).put (en := .dat (.list ds')) ⟨_, rfl, rp⟩ (fun _ z => by cases z), st⟩
  have ok : BlkOk X.N X.env.scope scope own := by rw [s.f.N, s.f.sc]; exact blkOk_by hb
  have hy' : X.env.scope.names.lookup y = some .local := by rw [s.f.sc]; exact hy
  have hk' : X.env.scope.kind = .function := by rw [s.f.sc]; exact hk
  exact ⟨_, ps_setLc s.x.calm s.x.nd (s.f.nth hN) hy' (sw_true hk' hy' hll ha) hwi ok pg_b (fun s H C cl fp => ⟨fun pins s σ H Q I h => pts_w.run pins s σ H Q I (h _ _ _ _ _)⟩) (fun s H C cl fp => ⟨fun pins s σ H Q I h => pe_w.run pins s σ H Q I (h _ _ _ _ _)⟩) (hs _), t⟩⟩
end
end VL

namespace VL
open PySem PySem.Spec PyProof.Rows L2

/-! ### try with several clauses that name the error -/
/-- the wishes of the clauses (except x as n), n in slot i, one after the other -/
def wAsMany (K : PySem.W.Frag) (i : Nat) (D : Ends) : List (Value × (Addr → Value → Option Addr → TS)) → WX
  | [] => fun _ _ _ _ => False
  | (c, ts) :: r => fun cls d σ H => ∃ b, PySem.W.exmOne K cls c = some b ∧
      (b = true → i < σ.length → ∀ a, H a = none → ts a cls d { nx := fun σ' H' => D.nx (σ'.set i none) H', rt := D.rt, bk := fun σ' H' => D.bk (σ'.set i none) H', ct := fun σ' H' => D.ct (σ'.set i none) H' } (σ.set i (some (.ref a))) H) ∧
      (b = false → wAsMany K i D r cls d σ H)
/-- the canonical reading of a clause's suite -/
def wSu (X : Cx) (su : List Stmt) (a : Addr) (cls : Value) (d : Option Addr) : TS := fun D σ H => ∀ (oe : Obj) (pn : List (Addr × Obj)), Zc cls d oe → (∃ vs, oe.data = .fields vs) → wSs (X.suite a ((a, oe) :: pn)) su D σ H
inductive Clauses (X : Cx) (n : Str) : List ExceptHandler → List (Value × (Addr → Value → Option Addr → TS)) → Prop
  | nil : Clauses X n [] []
  | cons {x : Str} {c : Value} {b0 : Stmt} {su : List Stmt} {np pos' : Pos} {hds : List ExceptHandler} {l : List (Value × (Addr → Value → Option Addr → TS))} (hc : Names X x c) (r : Clauses X n hds l) :
      Clauses X n (.ExceptHandler (some (.Name x np)) (some n) (b0 :: su) pos' :: hds) ((c, wSu X (b0 :: su)) :: l)
section
variable {X : Cx} {n : Str} {i : Nat} {body : List Stmt} {pos : Pos} {tb : WX → TS} {h0 : ExceptHandler} {hds : List ExceptHandler} {l : List (Value × (Addr → Value → Option Addr → TS))}
theorem ps_tryAs (hs : X.stack = X.env :: X.outer) (hf : X.env.frame = some X.env.locals) (hN : X.N.Nodup) (hi : X.N[i]? = some n) (hln : X.env.kindOf n = some .local)
    (hb : ∀ (W : WX) (pn : List (Addr × Obj)) (xe : Value → Shared → Prop), Takes (X.tr pn xe) W → PSs (X.tr pn xe) body (tb W)) (hh : Clauses X n (h0 :: hds) l) :
    PS X (.Try body (h0 :: hds) [] [] pos) (fun D σ H => tb (wAsMany X.K i D l) D σ H) := by
  refine ⟨fun pins s σ H D I h => ?_⟩
  have ok := I.ok
  have hfr : X.A.frames = some (X.env :: X.outer) := by rw [ok.frames, hs]
  refine wpAny_Try_except ?_
  have goal2 := hb (wAsMany X.K i D l) (X.pn ++ pins) (fun e s1 => wpAny (model X.prog X.w) X.A (noteFrame e X.env) (fun _ s2 => wpAny (model X.prog X.w) X.A (setFlight e none) (fun _ s3 =>
    wpAny (model X.prog X.w) X.A (handleBy e X.env (h0 :: hds)) (SP X pins D) X.xe s3) X.xe s2) X.xe s1)
  refine wpAny_mono ((goal2 (fun u s' xx => ?_)).run [] s σ H D (I.toTry _) h) (fun f s1 hsp => ?_) (fun e s1 he => he)
  · obtain ⟨a, B, sI, pins', σ', H', cls, d, rfl, J', nb, up, sky, na, os, ag, w⟩ := xx
    have J : Inv X pins σ' H' sI := J'.ofTry ok
    have sky' : Sky B (X.env :: X.outer) a (Zc cls d) X.env.locals s'.heap := by
      rw [← hs]
      exact sky
    show wpAny (model X.prog X.w) X.A (noteFrame (.ref a) X.env) _ _ _
    refine Sky.land Zc.steady hfr hf sky' fun h3 fl3 up3 => ?_
    have J3 : Inv X pins σ' H' { s' with heap := h3 } := J.landed nb fl3.1 (up.trans up3) os ag
    obtain ⟨oe3, vs3, he3, hz3, hd3⟩ := fl3.there
    have nfr : a ∉ frs (X.env :: X.outer) := fun hm => by
      obtain ⟨_, o', e', hnf⟩ := fl3.2.2.1.mem hm
      rw [he3] at e'
      cases e'
      exact hnf _ hd3
    have nL : a ≠ X.env.locals := fun z => nfr (List.mem_filterMap.mpr ⟨X.env, List.mem_cons_self, by rw [hf, z]⟩)
    have nF : a ∉ X.fs := fun hm => by
      obtain ⟨e, he, q⟩ := List.mem_filterMap.mp hm
      exact nfr (List.mem_filterMap.mpr ⟨e, List.mem_cons_of_mem _ he, q⟩)
    have S3 := J3.suite he3 hd3 na nL nF
    have LT : PySem.W.Looks (model X.prog X.w) h3 (typeOf (.ref a)) cls := fun A Q E s k q => wpAny_typeOf_ref (k _ _ he3) (by rw [hz3.1]; exact q)
    have go : ∀ {hds' : List ExceptHandler} {l' : List (Value × (Addr → Value → Option Addr → TS))}, Clauses X n hds' l' → wAsMany X.K i D l' cls d σ' H' →
        wpAny (model X.prog X.w) X.A (handleBy (.ref a) X.env hds') (SP X pins D) X.xe { s' with heap := h3 } := by
      intro hds' l' hk
      induction hk with
      | nil => exact fun w => w.elim
      | @cons x c b0 su np pos' hds2 l2 hc r ih =>
        intro w
        obtain ⟨b, hb1, hyes, hno⟩ := w
        refine wpAny_handleBy_cons (codeAny_handlers_test ?_) (by intro q; cases q)
        have LM := PySem.W.exm_one (M := model X.prog X.w) (J3.kIn) LT hb1
        have test : ∀ {Q : Value → Shared → Prop} {E : Value → Shared → Prop}, Q c { s' with heap := h3 } → wpAny (model X.prog X.w) (X.A.mark (some (.ref a))) (eval (.Name x np) X.env) Q E { s' with heap := h3 } := fun {Q E} q => by
          obtain ⟨hg, hdbg, hm | ⟨hm, hv, hnn⟩⟩ := hc
          · exact ld_glob (X := X.suite a ((a, oe3) :: (X.pn ++ pins))) S3 hg hm q hdbg
          · exact ld_blt (X := X.suite a ((a, oe3) :: (X.pn ++ pins))) S3 hg hm hv q hnn hdbg
        refine test (LM.here ?_)
        cases b with
        | false =>
          show wpAny _ X.A (handleBy (.ref a) X.env hds2) _ _ _
          exact ih (hno rfl)
        | true =>
          refine codeAny_handlers_suite_as ?_
          refine HandSPX.lands_againZ fl3 fun h4 fl4 up4 => ?_
          have J4 : Inv X pins σ' H' { s' with heap := h4 } := J.landed nb fl4.1 ((up.trans up3).trans up4) os ag
          obtain ⟨oe4, vs4, he4, hz4, hd4⟩ := fl4.there
          have S4 := J4.suite he4 hd4 na nL nF
          refine store_ok (X := X.suite a ((a, oe4) :: (X.pn ++ pins))) (v := .ref a) S4 hN hi (.inl hln) rfl (fun s5 S5 => ?_) (.inr hln)
          have hy := hyes rfl (by rw [J.len]; exact (List.getElem?_eq_some_iff.mp hi).1) a na oe4 (X.pn ++ pins) hz4 ⟨_, hd4⟩
          refine wpAny_mono (pss_w.run [] s5 _ H' _ S5 hy) (fun f s6 hsp => ?_) (fun _ _ z => False.elim z)
          have done : ∀ {σ6 : L2.St} {H6 : Hp} {Q : Shared → Prop}, Inv (X.suite a ((a, oe4) :: (X.pn ++ pins))) [] σ6 H6 s6 → (∀ s7, Inv X pins (σ6.set i none) H6 s7 → Q s7) →
              wpAny (model X.prog X.w) X.A (do bindName X.env n .none; unbindBehindTheSuite X.env n pos') (fun _ s7 => Q s7) X.xe s6 := fun {σ6 H6 Q} S6 hq => gone_ok (S6.unsuite ok) hN hi hln hq
          cases f with
          | next =>
            obtain ⟨σ6, H6, S6, q6⟩ := hsp
            exact done S6 fun s7 J7 => ⟨_, _, J7, q6⟩
          | brk =>
            obtain ⟨σ6, H6, S6, q6⟩ := hsp
            exact done S6 fun s7 J7 => ⟨_, _, J7, q6⟩
          | cont =>
            obtain ⟨σ6, H6, S6, q6⟩ := hsp
            exact done S6 fun s7 J7 => ⟨_, _, J7, q6⟩
          | ret u =>
            obtain ⟨v6, σ6, H6, S6, r6, q6⟩ := hsp
            exact done S6 fun s7 J7 => ⟨_, _, _, J7, r6, q6⟩
    exact go hh w
  · cases f with
    | next =>
      obtain ⟨σ', H', J', q⟩ := hsp
      exact wpAny_execs_nil ⟨σ', H', J'.ofTry ok, q⟩
    | brk =>
      obtain ⟨σ', H', J', q⟩ := hsp
      exact ⟨σ', H', J'.ofTry ok, q⟩
    | cont =>
      obtain ⟨σ', H', J', q⟩ := hsp
      exact ⟨σ', H', J'.ofTry ok, q⟩
    | ret u =>
      obtain ⟨v, σ', H', J', r, q⟩ := hsp
      exact ⟨v, σ', H', J'.ofTry ok, r, q⟩
end
/-- what the clauses of _law_tried make of an exception -/
def HCase (K : PySem.W.Frag) (C1 C2 C3 C4 : Addr) (Q : VK) : XK := fun cls d H' =>
  ∃ (C dd : Addr) (fs : List (Str × V)) (w : V), cls = .ref C ∧ d = some dd ∧ H' dd = some (.xd fs) ∧ XfC K C ∧ PySem.W.findIn K (.ref C) "word" = some none ∧ fs.lookup ("word" : Str) = some w ∧
    (((PySem.W.exmOne K cls (.ref C1) = some true ∨ (PySem.W.exmOne K cls (.ref C1) = some false ∧ PySem.W.exmOne K cls (.ref C2) = some true)) ∧ PySem.W.findIn K (.ref C) "at" = some none ∧ ∃ v, fs.lookup ("at" : Str) = some v ∧ ∀ p, H' p = none → Q (.ref p) (upd H' p (.tup [w, v]))) ∨
      ((PySem.W.exmOne K cls (.ref C1) = some false ∧ PySem.W.exmOne K cls (.ref C2) = some false ∧ (PySem.W.exmOne K cls (.ref C3) = some true ∨ (PySem.W.exmOne K cls (.ref C3) = some false ∧ PySem.W.exmOne K cls (.ref C4) = some true))) ∧ ∀ p, H' p = none → Q (.ref p) (upd H' p (.tup [w]))))
section
variable {X : Cx} {a : Addr} {cls : Value} {d : Option Addr} {p1 p2 p3 p4 p5 p6 : Pos} {k1 : Nat}
/-- return (e.word, e.at) -/
theorem su_two {C dd : Addr} {fs : List (Str × V)} {w v : V} {D : Ends} {σ : L2.St} {H : Hp} (hN : X.N[1]? = some ("e" : Str)) (hv : Vis X.env.scope "e") (T : XfC X.K C) (n1 : PySem.W.findIn X.K (.ref C) "word" = some none) (n2 : PySem.W.findIn X.K (.ref C) "at" = some none)
    (hc : cls = .ref C) (hd : d = some dd) (hH : H dd = some (.xd fs)) (l1 : fs.lookup ("word" : Str) = some w) (l2 : fs.lookup ("at" : Str) = some v) (hσ : σ[1]? = some (some (.ref a))) (q : ∀ p, H p = none → D.rt (.ref p) (upd H p (.tup [w, v]))) :
    wSu X [.Return (some (.Tuple [.Attribute (.Name "e" p1) "word" p2, .Attribute (.Name "e" p3) "at" p4] k1 p5)) p6] a cls d D σ H := fun oe pn hz hf =>
  ⟨_, pss_one (ps_ret (pe_tup (pa_cons (pe_xf T n1 hz hf (pe_var (X := X.suite a ((a, oe) :: pn)) (i := 1) hN hv (by kernel_rfl) (by kernel_rfl)) (by kernel_rfl)) (pa_cons (pe_xf T n2 hz hf (pe_var (X := X.suite a ((a, oe) :: pn)) (i := 1) hN hv (by kernel_rfl) (by kernel_rfl)) (by kernel_rfl)) pa_nil)))),
    .ref a, hσ, rfl, hc, dd, fs, w, hd, hH, l1, .ref a, hσ, rfl, hc, dd, fs, v, hd, hH, l2, by show 2 ≤ sizeLine; decide, q⟩
theorem su_one {C dd : Addr} {fs : List (Str × V)} {w : V} {D : Ends} {σ : L2.St} {H : Hp} (hN : X.N[1]? = some ("e" : Str)) (hv : Vis X.env.scope "e") (T : XfC X.K C) (n1 : PySem.W.findIn X.K (.ref C) "word" = some none)
    (hc : cls = .ref C) (hd : d = some dd) (hH : H dd = some (.xd fs)) (l1 : fs.lookup ("word" : Str) = some w) (hσ : σ[1]? = some (some (.ref a))) (q : ∀ p, H p = none → D.rt (.ref p) (upd H p (.tup [w]))) :
    wSu X [.Return (some (.Tuple [.Attribute (.Name "e" p1) "word" p2] k1 p5)) p6] a cls d D σ H := fun oe pn hz hf =>
  ⟨_, pss_one (ps_ret (pe_tup (pa_cons (pe_xf T n1 hz hf (pe_var (X := X.suite a ((a, oe) :: pn)) (i := 1) hN hv (by kernel_rfl) (by kernel_rfl)) (by kernel_rfl)) pa_nil))),
    .ref a, hσ, rfl, hc, dd, fs, w, hd, hH, l1, by show 1 ≤ sizeLine; decide, q⟩
end
/-- the body of _law_tried, by its places -/
abbrev triedB (k0 k1 k2 k3 k4 : Nat) (k5 : Nat) (ps : Nat → Pos) : List Stmt :=
  [.Try [.Return (some (.Tuple [.Constant (.str "told") k0 (ps 0), .Call (.Name "_law_act" (ps 1)) [] [] (ps 2)] k1 (ps 3))) (ps 4)]
    [.ExceptHandler (some (.Name "BadTable" (ps 5))) (some "e") [.Return (some (.Tuple [.Attribute (.Name "e" (ps 6)) "word" (ps 7), .Attribute (.Name "e" (ps 8)) "at" (ps 9)] k2 (ps 10))) (ps 11)] (ps 12),
     .ExceptHandler (some (.Name "BadSheet" (ps 13))) (some "e") [.Return (some (.Tuple [.Attribute (.Name "e" (ps 14)) "word" (ps 15), .Attribute (.Name "e" (ps 16)) "at" (ps 17)] k3 (ps 18))) (ps 19)] (ps 20),
     .ExceptHandler (some (.Name "LagError" (ps 21))) (some "e") [.Return (some (.Tuple [.Attribute (.Name "e" (ps 22)) "word" (ps 23)] k4 (ps 24))) (ps 25)] (ps 26),
     .ExceptHandler (some (.Name "WorksError" (ps 27))) (some "e") [.Return (some (.Tuple [.Attribute (.Name "e" (ps 28)) "word" (ps 29)] k5 (ps 30))) (ps 31)] (ps 32)] [] [] (ps 33)]
/-- what is known of _law_tried and of the classes that it names -/
structure Tried (g : Gm) : Prop where
  ex : ∃ (f : Addr) (fd : FuncData) (params : Arguments) (scope : Scope) (k0 k1 k2 k3 k4 k5 : Nat) (ps : Nat → Pos), FunD g.K "_law_tried" "_law_tried" params (triedB k0 k1 k2 k3 k4 k5 ps) scope [] [] f fd ∧ g.mg "_law_tried" = some (.ref f) ∧
    FnScope ["_law_act", "e"] ["_law_act"] scope ∧ Binds g.K fd ["_law_act"] [] ∧ scope.names.lookup ("_law_act" : Str) = some .local ∧ scope.names.lookup ("e" : Str) = some .local ∧
    (∀ x : Str, x = "BadTable" ∨ x = "BadSheet" ∨ x = "LagError" ∨ x = "WorksError" → scope.names.lookup x = some .globalImplicit)
  cl : ∃ C1 C2 C3 C4 : Addr, g.mg "BadTable" = some (.ref C1) ∧ g.mg "BadSheet" = some (.ref C2) ∧ g.mg "LagError" = some (.ref C3) ∧ g.mg "WorksError" = some (.ref C4)
def TT4 (K : PySem.W.Frag) (C1 C2 C3 C4 : Addr) : (XK → Hp → VK → Prop) → Hp → VK → Prop := fun tl H Q =>
  tl (HCase K C1 C2 C3 C4 Q) H (fun v H' => ([.str "told", v] : List V).length ≤ sizeLine ∧ ∀ p, H' p = none → Q (.ref p) (upd H' p (.tup [.str "told", v])))
theorem gives4 {X : Cx} {sg : Scope} {g C1 C2 C3 C4 : Addr} {cdg : Value} {q : Str} {k0 k1 k2 k3 k4 k5 : Nat} {ps : Nat → Pos} (h1 : X.mg "BadTable" = some (.ref C1)) (h2 : X.mg "BadSheet" = some (.ref C2)) (h3 : X.mg "LagError" = some (.ref C3)) (h4 : X.mg "WorksError" = some (.ref C4))
    (hS : FnScope ["_law_act", "e"] ["_law_act"] sg) (he : sg.names.lookup ("e" : Str) = some .local) (hg : ∀ x : Str, x = "BadTable" ∨ x = "BadSheet" ∨ x = "LagError" ∨ x = "WorksError" → sg.names.lookup x = some .globalImplicit) :
    LamX.GivesTo X ["_law_act", "e"] "_law_tried" sg g cdg (triedB k0 k1 k2 k3 k4 k5 ps) "_law_act" q (TT4 X.K C1 C2 C3 C4) := by
  intro f c' s H Q tl act hc h
  generalize hZ : (cxOf C8.CX0 X.prog X.w X.K X.mg X.base ["_law_act", "e"] "_law_tried" sg g cdg X.A X.stack s H C8.E0) = Z at act
  have zK : Z.K = X.K := by rw [← hZ]; rfl
  have zmg : Z.mg = X.mg := by rw [← hZ]; rfl
  have zN : Z.N = (["_law_act", "e"] : List Str) := by rw [← hZ]; rfl
  have zsc : Z.env.scope = sg := by rw [← hZ]; rfl
  have zst : Z.stack = Z.env :: Z.outer := by rw [← hZ]; rfl
  have zfr : Z.env.frame = some Z.env.locals := by rw [← hZ]; rfl
  have nm : ∀ (x : Str) (C : Addr), (x = "BadTable" ∨ x = "BadSheet" ∨ x = "LagError" ∨ x = "WorksError") → (x == ("__debug__" : Str)) = false → X.mg x = some (.ref C) → Names Z.nox x (.ref C) := fun x C hx hd hm => ⟨by
    show Z.env.scope.names.lookup x = _
    rw [zsc]
    exact hg x hx, hd, .inl (by show Z.mg x = _; rw [zmg]; exact hm)⟩
  have hve : Vis Z.nox.env.scope "e" := .inl (by rw [zsc]; exact he)
  have hNe : Z.nox.N[1]? = some ("e" : Str) := by
    show Z.N[1]? = _
    rw [zN]
    rfl
  refine ⟨_, pss_one (ps_tryAs (X := Z.nox) (n := "e") (i := 1)
      (tb := fun W D σ H => ∃ Ech : XK, (∀ cls d σ' H', Ech cls d H' → W cls d σ' H') ∧ σ[0]? = some (some (.ref f)) ∧ H c' = some (LamX.CodeO c' q) ∧ tl Ech H fun v H' => ([.str "told", v] : List V).length ≤ sizeLine ∧ ∀ p, H' p = none → D.rt (.ref p) (upd H' p (.tup [.str "told", v])))
      zst zfr (by rw [zN]; exact hS.nd) hNe (by show Z.env.scope.names.lookup _ = _; rw [zsc]; exact he) (fun W pn xe tk => ?_)
      (.cons (nm _ C1 (.inl rfl) (by kernel_rfl) h1) (.cons (nm _ C2 (.inr (.inl rfl)) (by kernel_rfl) h2) (.cons (nm _ C3 (.inr (.inr (.inl rfl))) (by kernel_rfl) h3) (.cons (nm _ C4 (.inr (.inr (.inr rfl))) (by kernel_rfl) h4) .nil))))), ?_⟩
  · refine ⟨fun pins s' σ H' D I h' => ?_⟩
    obtain ⟨Ech, hW, x1, x2, x3⟩ := h'
    have hp := act W pn xe Ech (ps 1) (ps 2) tk hW
    have hq := pss_one (ps_ret (pos := ps 4) (pe_tup (x1 := k1) (pos := ps 3) (pa_cons (pe_str (x := "told") (j := k0) (pos := ps 0)) (pa_cons hp pa_nil))))
    exact hq.run pins s' σ H' D I ⟨x1, x2, x3⟩
  · refine ⟨HCase X.K C1 C2 C3 C4 Q, fun cls d σ' H' hcase => ?_, rfl, hc, h⟩
    obtain ⟨C, dd, fs, w, e1, e2, e3, T, n1, l1, r⟩ := hcase
    have T' : XfC Z.nox.K C := by rw [zK]; exact T
    have n1' : PySem.W.findIn Z.nox.K (.ref C) "word" = some none := by rw [zK]; exact n1
    have hset : ∀ a : Addr, 1 < σ'.length → (σ'.set 1 (some (V.ref a)))[1]? = some (some (.ref a)) := fun a hl => List.getElem?_set_self hl
    have two : ∀ {D : Ends} {v : V} (a : Addr) {p1 p2 p3 p4 p5 p6 : Pos} {kk : Nat}, D.rt = Q → 1 < σ'.length → PySem.W.findIn X.K (.ref C) "at" = some none → fs.lookup ("at" : Str) = some v → (∀ p, H' p = none → Q (.ref p) (upd H' p (.tup [w, v]))) →
        wSu Z.nox [.Return (some (.Tuple [.Attribute (.Name "e" p1) "word" p2, .Attribute (.Name "e" p3) "at" p4] kk p5)) p6] a cls d D (σ'.set 1 (some (V.ref a))) H' := fun {D v} a {p1 p2 p3 p4 p5 p6 kk} hD hl n2 l2 q =>
      su_two hNe hve T' n1' (by rw [zK]; exact n2) e1 e2 e3 l1 l2 (hset a hl) (by rw [hD]; exact q)
    have one : ∀ {D : Ends} (a : Addr) {p1 p2 p5 p6 : Pos} {kk : Nat}, D.rt = Q → 1 < σ'.length → (∀ p, H' p = none → Q (.ref p) (upd H' p (.tup [w]))) →
        wSu Z.nox [.Return (some (.Tuple [.Attribute (.Name "e" p1) "word" p2] kk p5)) p6] a cls d D (σ'.set 1 (some (V.ref a))) H' := fun {D} a {p1 p2 p5 p6 kk} hD hl q =>
      su_one hNe hve T' n1' e1 e2 e3 l1 (hset a hl) (by rw [hD]; exact q)
    have ex : ∀ {c : Value} {b : Bool}, PySem.W.exmOne X.K cls c = some b → PySem.W.exmOne Z.nox.K cls c = some b := fun {c b} h => by rw [zK]; exact h
    rcases r with ⟨r, n2, v, l2, q⟩ | ⟨⟨r1, r2, r⟩, q⟩
    · rcases r with r | ⟨r1, r⟩
      · exact ⟨true, ex r, fun _ hl a _ => two a rfl hl n2 l2 q, fun z => nomatch z⟩
      · exact ⟨false, ex r1, fun z => (nomatch z), fun _ => ⟨true, ex r, fun _ hl a _ => two a rfl hl n2 l2 q, fun z => nomatch z⟩⟩
    · rcases r with r | ⟨r3, r⟩
      · exact ⟨false, ex r1, fun z => (nomatch z), fun _ => ⟨false, ex r2, fun z => (nomatch z), fun _ => ⟨true, ex r, fun _ hl a _ => one a rfl hl q, fun z => nomatch z⟩⟩⟩
      · exact ⟨false, ex r1, fun z => (nomatch z), fun _ => ⟨false, ex r2, fun z => (nomatch z), fun _ => ⟨false, ex r3, fun z => (nomatch z), fun _ => ⟨true, ex r, fun _ hl a _ => one a rfl hl q, fun z => nomatch z⟩⟩⟩⟩
/-- by which clause an exception of the class x is caught: two: its at is told, too -/
structure Caught (g : Gm) (x : Str) (two : Bool) : Prop where
  ex : ∃ C C1 C2 C3 C4 : Addr, g.mg x = some (.ref C) ∧ g.mg "BadTable" = some (.ref C1) ∧ g.mg "BadSheet" = some (.ref C2) ∧ g.mg "LagError" = some (.ref C3) ∧ g.mg "WorksError" = some (.ref C4) ∧ XfC g.K C ∧ PySem.W.findIn g.K (.ref C) "word" = some none ∧
    ((two = true ∧ (PySem.W.exmOne g.K (.ref C) (.ref C1) = some true ∨ (PySem.W.exmOne g.K (.ref C) (.ref C1) = some false ∧ PySem.W.exmOne g.K (.ref C) (.ref C2) = some true)) ∧ PySem.W.findIn g.K (.ref C) "at" = some none) ∨
      (two = false ∧ PySem.W.exmOne g.K (.ref C) (.ref C1) = some false ∧ PySem.W.exmOne g.K (.ref C) (.ref C2) = some false ∧ (PySem.W.exmOne g.K (.ref C) (.ref C3) = some true ∨ (PySem.W.exmOne g.K (.ref C) (.ref C3) = some false ∧ PySem.W.exmOne g.K (.ref C) (.ref C4) = some true))))

def noTbl : Option HO → Option HO
  | some (.tbl _) => none
  | x => x
theorem noTbl_ne {x : Option HO} {ps : Array Value} : noTbl x ≠ some (.tbl ps) := by
  cases x with
  | none => intro z; cases z
  | some o => cases o <;> intro z <;> cases z
theorem noTbl_some {o : HO} (h : ∀ ps, o ≠ .tbl ps) : noTbl (some o) = some o := by
  cases o with
  | tbl ps => exact absurd rfl (h ps)
  | _ => rfl
open Classical in
theorem St0.lam {m : Pm} {F H H1 : Hp} {w : Wd} (s : St0 m F w H) (e : LamX.ExtN H H1) (t : LamX.Tabs m.T H1) : ∃ w1, w.le w1 ∧ w1.κ = w.κ ∧ St0 m F w1 H1 := by
  let G1 : Hp := fun a => if F a = none ∧ w.C a = none ∧ (∀ p ∈ m.T, p.1 ≠ a) then noTbl (H1 a) else none
  have key : ∀ a o, w.G a = some o → H1 a = some o ∧ F a = none ∧ w.C a = none ∧ ∀ p ∈ m.T, p.1 ≠ a := fun a o q => by
    refine ⟨e a o (s.same a o q) fun ps z => s.ntG a ps (by rw [q, z]), ?_, ?_, fun p hp z => ?_⟩
    · cases f : F a with
      | none => rfl
      | some u => rw [(s.fr a u f).2.1] at q; cases q
    · cases f : w.C a with
      | none => rfl
      | some u => rw [(s.cl a u f).2] at q; cases q
    · rw [← z, (s.tab p hp).2.1] at q
      cases q
  have sm : Same w.G G1 := fun a o q => by
    obtain ⟨h1, h2, h3, h4⟩ := key a o q
    show (if F a = none ∧ w.C a = none ∧ (∀ p ∈ m.T, p.1 ≠ a) then noTbl (H1 a) else none) = some o
    rw [if_pos ⟨h2, h3, h4⟩, h1]
    exact noTbl_some fun ps z => s.ntG a ps (by rw [q, z])
  have le : w.le { w with G := G1 } := ⟨.of sm, List.prefix_refl _⟩
  refine ⟨{ w with G := G1 }, le, rfl, fun a o q => ?_, fun a o q => ?_, fun p hp => ?_, fun a h1 h2 h3 => ?_, fun a ps q => ?_, s.ntF, s.ntC, ⟨s.cells.len, s.cells.nd, fun k a c h1 h2 => (s.cells.at_ k a c h1 h2).mono le fun _ _ e => e⟩, s.nxF, s.nxC⟩
  · refine ⟨e a o (s.fr a o q).1 fun ps z => s.ntF a ps (by rw [q, z]), ?_, (s.fr a o q).2.2⟩
    show (if F a = none ∧ w.C a = none ∧ (∀ p ∈ m.T, p.1 ≠ a) then noTbl (H1 a) else none) = none
    exact if_neg fun z => by rw [q] at z; cases z.1
  · have q' : w.C a = some o := q
    refine ⟨e a o (s.cl a o q').1 fun ps z => (s.ntC a).1 ps (by rw [q', z]), ?_⟩
    show (if F a = none ∧ w.C a = none ∧ (∀ p ∈ m.T, p.1 ≠ a) then noTbl (H1 a) else none) = none
    exact if_neg fun z => by rw [q'] at z; cases z.2.1
  · refine ⟨t p hp, ?_, (s.tab p hp).2.2⟩
    show (if F p.1 = none ∧ w.C p.1 = none ∧ (∀ q ∈ m.T, q.1 ≠ p.1) then noTbl (H1 p.1) else none) = none
    exact if_neg fun z => z.2.2 p hp rfl
  · have h2' : w.C a = none := h2
    show H1 a = (if F a = none ∧ w.C a = none ∧ (∀ p ∈ m.T, p.1 ≠ a) then noTbl (H1 a) else none) ∨ ((∃ ps, H1 a = some (.tbl ps)) ∧ (if F a = none ∧ w.C a = none ∧ (∀ p ∈ m.T, p.1 ≠ a) then noTbl (H1 a) else none) = none)
    rw [if_pos ⟨h1, h2', h3⟩]
    cases q : H1 a with
    | none => exact .inl rfl
    | some o =>
      cases o with
      | tbl ps => exact .inr ⟨⟨ps, rfl⟩, rfl⟩
      | _ => exact .inl rfl
  · have q' : (if F a = none ∧ w.C a = none ∧ (∀ p ∈ m.T, p.1 ≠ a) then noTbl (H1 a) else none) = some (.tbl ps) := q
    split at q'
    · exact noTbl_ne q'
    · cases q'
theorem noOwn_ne : ∀ {ρ : List En} {i : Nat} {x : Ow}, noOwn ρ = true → ρ[i]? = some (.own x) → False
  | [], _, _, _, h => by simp at h
  | .own _ :: _, _, _, h, _ => by cases h
  | .un :: r, 0, _, _, h => by simp at h
  | .dat _ :: r, 0, _, _, h => by simp at h
  | .ro _ :: r, 0, _, _, h => by simp at h
  | .un :: r, i + 1, _, h, e => noOwn_ne (ρ := r) (i := i) h (by simpa using e)
  | .dat _ :: r, i + 1, _, h, e => noOwn_ne (ρ := r) (i := i) h (by simpa using e)
  | .ro _ :: r, i + 1, _, h, e => noOwn_ne (ρ := r) (i := i) h (by simpa using e)
/-- the frame of a lambda's body -/
abbrev Ctx.lamc (Γ : Ctx) (scope : Scope) (k : Nat) : Ctx := { Γ with sc := scope, k := k, top := false, lam := none }
theorem lookup_rep {m : Pm} {w : Wd} {x : Str} : ∀ {fs : List (Str × V)} {ds : List (Str × D)} {d : D}, fs.map (·.1) = ds.map (·.1) → RepsW m w (fs.map (·.2)) (ds.map (·.2)) → ds.lookup x = some d → ∃ v, fs.lookup x = some v ∧ RepW m w v d
  | [], [], _, _, _, h => by cases h
  | [], _ :: _, _, h, _, _ => by cases h
  | _ :: _, [], _, h, _, _ => by cases h
  | (y, v) :: fs, (z, d0) :: ds, d, h, hd, hl => by
    have h1 : y = z := (List.cons.inj h).1
    have h2 : fs.map (·.1) = ds.map (·.1) := (List.cons.inj h).2
    subst h1
    cases hd with
    | cons a r =>
      rw [List.lookup_cons] at hl ⊢
      cases q : (x == y) with
      | true =>
        rw [q] at hl
        cases hl
        exact ⟨v, rfl, a⟩
      | false =>
        rw [q] at hl
        exact lookup_rep h2 r hl
/-- what _law_tried tells of an exception -/
def TrOk (g : Gm) (tr : Exc → Option D) : Prop := ∀ x d, tr x = some d → ∃ two w, Caught g x.1 two ∧ x.2.lookup ("word" : Str) = some w ∧ ((two = true ∧ ∃ v, x.2.lookup ("at" : Str) = some v ∧ d = .tuple [w, v]) ∨ (two = false ∧ d = .tuple [w]))
section
variable {Γ : Ctx} {Ψ Ψ1 : Exc → Ks → Prop} {ρ : List En} {κ : Ks} {body : Expr} {pos pp lpos : Pos} {Φ : Rs → Ks → Prop} {Φ1 : D → Ks → Prop} {params : Arguments} {scope : Scope} {c P : Addr} {q : Str} {k : Nat} {trf : Exc → Option D}
theorem ev_tried (tr : Tried Γ.g) (hlam : Γ.lam = some (c, P, q)) (hT : (P, q) ∈ Γ.g.T) (hu : ∀ p ∈ Γ.g.T, p.1 = P → p.2 = q) (hb : EVD (Γ.lamc scope k) (fun x κ' => ∃ d, trf x = some d ∧ Φ (.dat d) κ') ρ κ body (fun d κ' => Φ (.dat (.tuple [.str "told", d])) κ'))
    (hΨ : TrOk Γ.g trf) (hno : noOwn ρ = true) (hk : k + 2 ≤ Γ.k) (hg : glB Γ.sc "_law_tried" = true) (hL : LamX.lamSB Γ.sc scope = true) (hdef : ∀ env, defaultsOf params env = ([], []))
    (hbind : ∀ (q : Str) (cl : List (Str × Addr)) (pm cv ctv : Value), bindArgs (PySem.W.kla_fn "<lambda>" q params body scope cl pm cv ctv) ⟨[], []⟩ = pure []) :
    EV Γ Ψ ρ κ (.Call (.Name "_law_tried" pp) [.Lambda params body scope lpos] [] pos) Φ := ⟨fun {X m F0 w0 F ow σ w H} s kk Q qq => by
  obtain ⟨f, fd, prm, sg, k0, k1, k2, k3, k4, k5, ps, FD, hm, hS, hB, hva, hve, hgl⟩ := tr.ex
  obtain ⟨C1, C2, C3, C4, m1, m2, m3, m4⟩ := tr.cl
  obtain ⟨oc, od, dV, kV, doc, pm, an, cdv, ct, osl, rfl, lk, hcd, _, _⟩ := FD.ex
  have K1 := s.f.K
  have M1 := s.f.mg
  obtain ⟨hcode, hTB, hq⟩ := s.f.lam c P q hlam
  have hmT : m.T = Γ.g.T := s.x.T
  refine ⟨_, LamX.pe_lamcall (T := m.T) (TT := TT4 X.K C1 C2 C3 C4) (k := k) (a := "_law_act") (t := fun E σ' H' Q' => ∀ (A : Around) (outer : List Env) (s1 : Shared) (H1 : Hp) (f1 c1 : Addr), Room k (A.deeper (LamX.lamEnv X scope s1.heap.objs.size f1 c1)) → wE (LamX.lamCx X A outer s1 H1 E scope f1 c1) body σ' H' Q') (s.f.gl hg) (by rw [M1]; exact hm) (by rw [K1]; exact FD.kp) (by rw [K1]; exact lk) (by rw [K1]; exact hcd) (by rw [K1]; exact hB) hS rfl (.inl hva)
    (gives4 (by rw [M1]; exact m1) (by rw [M1]; exact m2) (by rw [M1]; exact m3) (by rw [M1]; exact m4) hS hve hgl) hTB hcode (by rw [hmT, hq]; exact hT) (fun p hp e => by rw [hq]; exact hu p (by rw [← hmT]; exact hp) e) (s.f.room.mono hk) (LamX.lamS_by (by rw [s.f.sc]; exact hL)) (hdef _) hbind
    (fun A outer s1 H1 E f1 c1 hr => ⟨fun pins s2 σ2 H2 Q2 I h => pe_w.run pins s2 σ2 H2 Q2 I (h A outer s1 H1 f1 c1 hr)⟩) (by kernel_rfl) (by kernel_rfl) (by kernel_rfl), ?_⟩
  refine ⟨fun p hp => (s.st.tab p hp).1, fun H1 eN hT1 => ?_⟩
  obtain ⟨w1, e1, kw1, st1⟩ := s.st.lam eN hT1
  intro A outer s1 H1' f1 c1 hr
  have hX : Fr (Γ.lamc scope k) (LamX.lamCx X A outer s1 H1' (HCase X.K C1 C2 C3 C4 Q) scope f1 c1) :=
    ⟨s.f.prog, s.f.w, s.f.K, s.f.mg, s.f.base, s.f.N, rfl, hr, fun z => Bool.noConfusion z, fun z => Bool.noConfusion z, fun _ _ _ z => nomatch z⟩
  have tk : Takes (LamX.lamCx X A outer s1 H1' (HCase X.K C1 C2 C3 C4 Q) scope f1 c1) (fun cls d _ H' => ExcPost m F w1 (fun x κ' => ∃ d, trf x = some d ∧ Φ (.dat d) κ') cls d H') := by
    refine (takes_of (X := LamX.lamCx X A outer s1 H1' (HCase X.K C1 C2 C3 C4 Q) scope f1 c1) rfl rfl rfl rfl).imp fun cls d σ' H' z => ?_
    obtain ⟨x, w', dd, fs, ⟨dr, y0, y1⟩, y2, y3, y4, y5, y6, y7, y8⟩ := z
    obtain ⟨two, wd, ⟨⟨C, D1, D2, D3, D4, z0, z1, z2, z3, z4, z5, z6, z7⟩⟩, hw, hres⟩ := hΨ x dr y0
    rw [m1] at z1; cases z1
    rw [m2] at z2; cases z2
    rw [m3] at z3; cases z3
    rw [m4] at z4; cases z4
    rw [s.mg, z0] at y2
    cases y2
    obtain ⟨vw, lw, dw⟩ := lookup_rep y7 y8 hw
    refine ⟨C, dd, fs, vw, rfl, y3, y5.same _ _ y6, by rw [K1]; exact z5, by rw [K1]; exact z6, lw, ?_⟩
    rw [K1]
    have fin : ∀ (vs : List V) (dl : List D), RepsW m w' vs dl → Φ (.dat (.tuple dl)) w'.κ → ∀ p, H' p = none → Q (.ref p) (upd H' p (.tup vs)) := fun vs dl hdl hφ p hp => by
      obtain ⟨le, at_⟩ := new_tup y5 hp hdl
      exact qq _ _ (w'.addG p (.tup vs)) _ hφ ((e1.trans y4).trans le) at_
    rcases hres with ⟨ht, v, lv, rfl⟩ | ⟨ht, rfl⟩
    · rcases z7 with ⟨_, z8, z9⟩ | ⟨z8, _⟩
      · obtain ⟨va, la, da⟩ := lookup_rep y7 y8 lv
        exact .inl ⟨z8, z9, va, la, fin _ _ (.cons dw (.cons da .nil)) y1⟩
      · rw [ht] at z8
        cases z8
    · rcases z7 with ⟨z8, _⟩ | ⟨_, z8, z9, z10⟩
      · rw [ht] at z8
        cases z8
      · exact .inr ⟨⟨z8, z9, z10⟩, fin _ _ (.cons dw .nil) y1⟩
  have xo : XOk (Γ.lamc scope k) (LamX.lamCx X A outer s1 H1' (HCase X.K C1 C2 C3 C4 Q) scope f1 c1) m F w1 (fun x κ' => ∃ d, trf x = some d ∧ Φ (.dat d) κ') := ⟨s.x.K, s.x.mg, s.x.T, s.x.nd, rfl, fun _ => passes_of (K := fun e s'' => L2.CX X.prog X.w outer H1' s1 (HCase X.K C1 C2 C3 C4 Q) e s'') rfl, tk, fun _ _ _ _ _ z => nomatch z⟩
  have sl1 : Slots m F F ow ρ σ w1 := ⟨s.sl.len, fun i en hi => by
    have z := (s.sl.ok i en hi).mono e1
    cases en with
    | un => exact True.intro
    | dat d => exact z
    | own x => exact (noOwn_ne hno hi).elim
    | ro d =>
      obtain ⟨v, h1, h2⟩ := z
      exact ⟨v, h1, h2.sub s.sl.sub⟩, s.sl.inj, fun _ _ z => z, fun i x hi => (noOwn_ne hno hi).elim⟩
  refine hb.run (F0 := F) (w0 := w1) ⟨hX, xo, .refl _, sl1, st1⟩ (by rw [kw1]; exact kk) _ fun d v w2 H2 p2 e2 s2 d2 => ⟨by show 2 ≤ sizeLine; decide, fun p hp => ?_⟩
  obtain ⟨le, at_⟩ := new_tup (vs := [.str "told", v]) (ds := [.str "told", d]) s2 hp (.cons (.str _) (.cons d2 .nil))
  exact qq _ _ (w2.addG p (.tup _)) _ p2 ((e1.trans e2).trans le) at_⟩
end
end VL

namespace VL
open PySem PySem.Spec PyProof.Rows L2
/-! ### lambdas that are kept -/
section
variable {X : Cx} {pins : List (Addr × Obj)} {σ : L2.St} {H : Hp} {s : Shared}
theorem lam_track {q : Str} {pr : Arguments} {bd : Expr} {sc : Scope} {cl : List (Str × Addr)} {c' : Addr} {pm ct : Value} {t' : Nat} (I : Inv X pins σ H s) :
    Inv X pins σ (upd H s.heap.objs.size (LamO s.heap.objs.size q pr bd sc cl c')) { s with heap := s.heap.push (PySem.W.kla_obj "<lambda>" q pr bd sc cl pm c' ct), toks := t' } := by
  have e : (s.heap.push (PySem.W.kla_obj "<lambda>" q pr bd sc cl pm c' ct)).get? s.heap.objs.size = some (PySem.W.kla_obj "<lambda>" q pr bd sc cl pm c' ct) := Heap.get?_push_size _ rfl
  exact I.laid (fun _ _ z => Heap.get?_push_of_some _ z) (Nat.le_refl _) ⟨⟨pm, ct, e⟩, ⟨_, e⟩, fun _ _ ⟨p, t, z⟩ st => ⟨p, t, st _ z⟩⟩
/-- the reading of a lambda as a value -/
def tLamV (T : List (Addr × Str)) (q : Str) (mk : Addr → Addr → HO) : TE := fun _ H Q => LamX.Tabs T H ∧ ∀ (f c' : Addr) (H1 : Hp), LamX.ExtN H H1 → LamX.Tabs T H1 → H1 c' = some (LamX.CodeO c' q) → H f = none → H1 f = some (mk f c') → Q (.ref f) H1
theorem lamO_ne {f c' : Addr} {q : Str} {pr : Arguments} {bd : Expr} {sc : Scope} {cl : List (Str × Addr)} (ps : Array Value) : LamO f q pr bd sc cl c' ≠ .tbl ps := fun z => nomatch (show HO.ext _ = _ from z)
theorem pe_lamV {T : List (Addr × Str)} {c P : Addr} {pr : Arguments} {bd : Expr} {sc : Scope} {pos : Pos} (TB : LamX.TabB X.base X.mg c P) (hcode : X.env.code = .ref c) (hm : (P, X.env.qual ++ "<lambda>") ∈ T) (hu : ∀ p ∈ T, p.1 = P → p.2 = X.env.qual ++ "<lambda>") (L : LamX.LamS X.env.scope sc) (hdef : defaultsOf pr X.env = ([], [])) :
    PE X (.Lambda pr bd sc pos) (tLamV T (X.env.qual ++ "<lambda>") fun f c' => LamO f (X.env.qual ++ "<lambda>") pr bd sc (cloFrom X.env.cells sc.names []) c') := by
  refine ⟨fun pins s σ H Q I hh => ?_⟩
  obtain ⟨hT, hq⟩ := hh
  obtain ⟨ps, hP, tr, am⟩ := hT _ hm
  have clo := closure_ok (L.has I.ok)
  have gl := I.mod.glob.keeps I.bk
  have cd := TB.code.keeps I.bk
  have oP : s.heap.get? P = some { cls := .none, data := .fields ps } := I.hok P _ hP
  have bP : s.heap.BuiltinsAt X.mg P := TB.bm.keeps I.bk
  refine PySem.W.kla_eval hdef ?_
  cases hc : codeAmong pos ps.toList with
  | some cv =>
    obtain ⟨c', rfl, hco⟩ := am pos cv hc
    refine PySem.W.kla_makeFunctionHit (c := c) (P := P) clo I.ok.glob gl hcode cd oP tr hc bP fun ct h' tk hx hsz => ?_
    have J : Inv X pins σ H { s with heap := h', toks := tk } := I.kept hx
    have free : H h'.objs.size = none := J.hok.fresh (Nat.le_refl _)
    refine ⟨.ref h'.objs.size, _, lam_track (t' := tk) J, rfl, hq _ c' _ (fun b o e _ => by rw [upd_ne (ne_of_none e free)]; exact e) (fun p hp => (hT p hp).ext fun b o e => by rw [upd_ne (ne_of_none e free)]; exact e) ?_ free upd_same⟩
    rw [upd_ne (ne_of_none hco free)]
    exact hco
  | none =>
    refine PySem.W.kla_makeFunction (c := c) (P := P) clo I.ok.glob gl hcode cd oP tr hc TB.gP bP fun c' ct h' tk hx hge hlt hrec htb => ?_
    obtain ⟨c2, oc, vs, t, e2, k1, k2, k3⟩ := hrec
    cases e2
    have fc : H c' = none := I.hok.fresh hge
    have J := LamX.inv_table (t' := tk) (h' := h') I hP hx htb hge ⟨oc, vs, t, k1, k2, k3⟩
    have free := J.hok.fresh (Nat.le_refl _)
    have en : LamX.ExtN H (upd (upd H P (.tbl (ps ++ #[rawInt pos.line, rawInt pos.col, .ref c']))) c' (LamX.CodeO c' (X.env.qual ++ "<lambda>"))) := fun b o e n => by
      have nP : b ≠ P := fun z => by
        rw [z, hP] at e
        exact n ps (Option.some.inj e).symm
      rw [upd_ne (ne_of_none e fc), upd_ne nP]
      exact e
    have tabs : LamX.Tabs T (upd (upd H P (.tbl (ps ++ #[rawInt pos.line, rawInt pos.col, .ref c']))) c' (LamX.CodeO c' (X.env.qual ++ "<lambda>"))) := fun p hp => by
      by_cases hb : p.1 = P
      · refine ⟨ps ++ #[rawInt pos.line, rawInt pos.col, .ref c'], by rw [hb, upd_ne (ne_of_none hP fc), upd_same], by simpa using PySem.TriplesOk_snoc _ _ _ _ tr, fun p' cv hv => ?_⟩
        rw [hu p hp hb]
        rcases LamX.among_app (c := .ref c') _ tr (by simpa using hv) with z | z
        · obtain ⟨c0, e1, e2⟩ := am p' cv z
          exact ⟨c0, e1, en _ _ e2 LamX.codeO_ne⟩
        · exact ⟨c', z, upd_same⟩
      · obtain ⟨qs, a1, a2, a3⟩ := hT p hp
        refine ⟨qs, by rw [upd_ne (ne_of_none a1 fc), upd_ne hb]; exact a1, a2, fun p' cv hv => ?_⟩
        obtain ⟨c0, e1, e2⟩ := a3 p' cv hv
        exact ⟨c0, e1, en _ _ e2 LamX.codeO_ne⟩
    refine ⟨.ref h'.objs.size, _, lam_track (t' := tk) J, rfl, hq _ c' _ (fun b o e n => ?_) (tabs.ext fun b o e => by rw [upd_ne (ne_of_none e free)]; exact e) ?_ (I.hok.fresh (Nat.le_trans hge (Nat.le_of_lt hlt))) upd_same⟩
    · have e1 := en b o e n
      rw [upd_ne (ne_of_none e1 free)]
      exact e1
    · rw [upd_ne (Nat.ne_of_lt hlt), upd_same]
end
end VL

namespace VL
open PySem PySem.Spec PyProof.Rows L2
section
variable {X : Cx} {pins : List (Addr × Obj)} {σ : L2.St} {H : Hp} {s : Shared}
/-- a(), a the parameter that holds a kept lambda -/
theorem pe_act2 {CXg : CXT} {Eg : XK} {Ng : List Str} {qg : Str} {sg : Scope} {g f c' : Addr} {cdg : Value} {pr : Arguments} {bd : Expr} {sc : Scope} {k i : Nat} {a : Str} {pn : List (Addr × Obj)} {xe : Value → Shared → Prop} {W : WX} {E : XK} {tb : TE} {p1 p2 : Pos}
    (I : Inv X pins σ H s) (L : LamX.LamS X.env.scope sc)
    (hbind : ∀ pm ct : Value, bindArgs (PySem.W.kla_fn "<lambda>" (X.env.qual ++ "<lambda>") pr bd sc (cloFrom X.env.cells sc.names []) pm (.ref c') ct) ⟨[], []⟩ = pure [])
    (tk : Takes ((cxOf CXg X.prog X.w X.K X.mg X.base Ng qg sg g cdg X.A X.stack s H Eg).tr pn xe) W) (hW : ∀ cls d σ' H', E cls d H' → W cls d σ' H') (hr : Room (k + 1) (X.A.deeper (envOfC qg sg s.heap.objs.size g cdg)))
    (hbody : ∀ (A : Around) (outer : List Env) (s : Shared) (H : Hp), Room k (A.deeper (LamX.lamEnv X sc s.heap.objs.size f c')) → PE (LamX.lamCx X A outer s H E sc f c') bd tb)
    (hN : Ng[i]? = some a) (hv : Vis sg a) (hd : (a == ("__debug__" : Str)) = false) (hcd : (a == ("__classdict__" : Str)) = false) :
    PE ((cxOf CXg X.prog X.w X.K X.mg X.base Ng qg sg g cdg X.A X.stack s H Eg).tr pn xe) (.Call (.Name a p1) [] [] p2)
      (fun σZ HZ Q => σZ[i]? = some (some (.ref f)) ∧ HZ c' = some (LamX.CodeO c' (X.env.qual ++ "<lambda>")) ∧ HZ f = some (LamO f (X.env.qual ++ "<lambda>") pr bd sc (cloFrom X.env.cells sc.names []) c') ∧ tb σ HZ Q) := by
  refine ⟨fun pz sZ σZ HZ Q IZ hh => ?_⟩
  obtain ⟨h1, h2, h3, h4⟩ := hh
  have nm := (pe_var (pos := p1) (i := i) hN hv hd hcd).run pz sZ σZ HZ (fun v H1 => v = .ref f ∧ H1 = HZ) IZ ⟨.ref f, h1, rfl, rfl⟩
  refine wpAny_Call_Name_kw (thn nm fun u s1 hu => ?_)
  obtain ⟨v, H1, J, ru, rfl, rfl⟩ := hu
  obtain rfl : u = Value.ref f := ru
  obtain ⟨⟨pm, ct, of1⟩, _, _⟩ := J.hok f _ h3
  obtain ⟨⟨oc, vs, t, c1, c2, c3⟩, _, _⟩ := J.hok c' _ h2
  refine PySem.W.callWith_F0 ⟨_, _, _, _, of1⟩ ?_
  have deep : codeAny (model X.prog X.w) (X.A.deeper (envOfC qg sg s.heap.objs.size g cdg)) (.call (.ref f) ⟨[], []⟩) (CR (L2.CX X.prog X.w) (envOfC qg sg s.heap.objs.size g cdg :: X.stack) X.prog X.w H1 s1 Q E) s1 := by
    refine PySem.W.kla_callFunE hr.depth of1 rfl L.co L.gen rfl ⟨c', oc, vs, t, rfl, c1, c2, c3⟩ ?_
    rw [hbind]
    refine wpAny_pure (wpAny_newFunctionEnv (fun y hy => (L.own y hy).2) (fun y hy => nomatch hy) (fun h₁ hns hsb => ⟨J.nolimit.fresh _ hsb, ?_⟩) L.kind)
    have kp : ∀ b o, s1.heap.get? b = some o → h₁.get? b = some o := fun b o e => hsb.extBut b o (Nat.ne_of_lt (Heap.lt_size e)) (Heap.get?_push_of_some _ e)
    have un : Un (frs X.stack) [] H H1 s.heap s1.heap := J.base
    have J2 := LamX.lam_start2 (f := f) (c' := c') (E := E) (tk := s1.toks + ([] : List (Str × Value)).length) I L J.env0 hr.hd un hns kp
    exact PySem.W.kla_codeExpr (wpAny_mono ((hbody _ _ s1 H1 (hr.deeper _)).run [] _ _ H1 Q J2 h4) (fun v s' hq => by
      obtain ⟨w', H', J', rv, q⟩ := hq
      exact ⟨w', H', J'.os, J'.bare, J'.base, J'.hok, rv, q⟩) fun e s' hq => hq)
  have pass : Passes (L2.CX X.prog X.w) ((cxOf CXg X.prog X.w X.K X.mg X.base Ng qg sg g cdg X.A X.stack s H Eg).tr pn xe) E := passes_call tk hW
  refine wpAny_call (codeAny_mono deep fun r s' hq => ?_)
  cases r with
  | error e => exact pass pz σZ H1 s1 e s' J hq
  | ok fl =>
    cases fl with
    | ret u => exact J.after hq
    | next => exact hq.elim
    | brk => exact hq.elim
    | cont => exact hq.elim
end
section
variable {X Y : Cx}
/-- what holds of the block Y of the frame X: X's own state can be had back -/
structure Within (X Y : Cx) (pins : List (Addr × Obj)) (σ : L2.St) : Prop where
  prog : Y.prog = X.prog
  w : Y.w = X.w
  K : Y.K = X.K
  mg : Y.mg = X.mg
  base : Y.base = X.base
  A : Y.A = X.A
  stack : Y.stack = X.stack
  back : ∀ p' σ' H' s', Inv Y p' σ' H' s' → Inv X pins σ H' s'
/-- g(y), in a block Y of X: y holds a kept lambda of X -/
def tAct (T : (XK → Hp → VK → Prop) → Hp → VK → Prop) (iy : Nat) (q : Str) (P : Arguments → Expr → Scope → List (Str × Addr) → Prop) (t : Arguments → Expr → Scope → Addr → Addr → XK → TE) (σ : L2.St) : TE := fun σ2 H Q =>
  ∃ f c' pr bd sc cl, P pr bd sc cl ∧ σ2[iy]? = some (some (.ref f)) ∧ H f = some (LamO f q pr bd sc cl c') ∧ H c' = some (LamX.CodeO c' q) ∧ T (fun E H' Q' => H' f = some (LamO f q pr bd sc cl c') ∧ t pr bd sc f c' E σ H' Q') H Q
theorem pe_acty {TT : (XK → Hp → VK → Prop) → Hp → VK → Prop} {x a y : Str} {g : Addr} {k iy : Nat} {pg : Arguments} {bg : List Stmt} {sg : Scope} {dV kV doc pm cdv ct oc : Value} {an od : Option Addr} {osl : Array (Option Value)} {Ng : List Str} {pins : List (Addr × Obj)} {σ : L2.St}
    {P : Arguments → Expr → Scope → List (Str × Addr) → Prop} {t : Arguments → Expr → Scope → Addr → Addr → XK → TE} {p py pos : Pos} (wi : Within X Y pins σ) (hg : Gl Y x) (hm : X.mg x = some (.ref g)) (hk : PySem.W.keepIn X.K (.ref g) = true)
    (lk : X.K.lookup g = some ⟨oc, od, .func (PySem.W.fnOf x x pg bg sg dV kV doc pm an cdv ct), osl⟩) (hcg : PySem.W.codeIn X.K cdv x = true) (hb : L2.Binds X.K (PySem.W.fnOf x x pg bg sg dV kV doc pm an cdv ct) [a] []) (Sg : FnScope Ng [a] sg) (hNg : Ng[0]? = some a) (hva : Vis sg a)
    (hG : LamX.GivesTo X Ng x sg g cdv bg a (X.env.qual ++ "<lambda>") TT) (hr : Room (k + 2) X.A)
    (hP : ∀ pr bd sc cl, P pr bd sc cl → LamX.LamS X.env.scope sc ∧ cl = cloFrom X.env.cells sc.names [] ∧ (∀ c' pm ct : Value, bindArgs (PySem.W.kla_fn "<lambda>" (X.env.qual ++ "<lambda>") pr bd sc cl pm c' ct) ⟨[], []⟩ = pure []) ∧
      ∀ (A : Around) (outer : List Env) (s : Shared) (H : Hp) (E : XK) (f c' : Addr), Room k (A.deeper (LamX.lamEnv X sc s.heap.objs.size f c')) → PE (LamX.lamCx X A outer s H E sc f c') bd (t pr bd sc f c' E))
    (hN : Y.N[iy]? = some y) (hv : Vis Y.env.scope y) (hdy : (y == ("__debug__" : Str)) = false) (hcdy : (y == ("__classdict__" : Str)) = false)
    (hdb : (x == ("__debug__" : Str)) = false) (hd : (a == ("__debug__" : Str)) = false) (hcd : (a == ("__classdict__" : Str)) = false) :
    PE Y (.Call (.Name x p) [.Name y py] [] pos) (tAct TT iy (X.env.qual ++ "<lambda>") P t σ) := by
  refine ⟨fun pz s σ2 H Q I hh => ?_⟩
  obtain ⟨f, c', pr, bd, sc, cl, hp, h1, h2, h3, h4⟩ := hh
  obtain ⟨L, rfl, hbind, hbody⟩ := hP _ _ _ _ hp
  refine wpAny_Call_Name_kw (ld_glob I hg (by rw [wi.mg]; exact hm) ?_ hdb)
  refine PySem.W.callWith_K (h₀ := Y.base) I.ok.mod.kin (by rw [wi.K]; exact hk) ?_ (by rfl) (by rfl)
  show wpAny _ _ (spliced ((false, eval (.Name y py) Y.env) :: backTo pos (starEach [] Y.env))) _ _ s
  refine Calls.spliced_cons (thn ((pe_var (pos := py) (i := iy) hN hv hdy hcdy).run pz s σ2 H (fun v H1 => v = .ref f ∧ H1 = H) I ⟨.ref f, h1, rfl, rfl⟩) fun u s1 hu => ?_)
  obtain ⟨v, H1, J, ru, rfl, rfl⟩ := hu
  obtain rfl : u = Value.ref f := ru
  refine Calls.spliced_nil ⟨J.kIn, ?_⟩
  have JX := wi.back _ _ _ _ J
  have run : codeAny (model X.prog X.w) X.A (.call (.ref g) ⟨[.ref f], []⟩) (CR C8.CX0 X.stack X.prog X.w H1 s1 Q C8.E0) s1 := by
    refine LamX.run_ofS (N := Ng) (ps := [a]) (us := [.ref f]) (vs := [.ref f]) lk hcg Sg hr JX.env0 (hb s1 [.ref f] JX.kIn rfl) (.cons rfl .nil) rfl fun hr' => ?_
    obtain ⟨t', ht', hq'⟩ := hG f c' s1 H1 Q (fun E H' Q' => H' f = some (LamO f (X.env.qual ++ "<lambda>") pr bd sc (cloFrom X.env.cells sc.names []) c') ∧ t pr bd sc f c' E σ H' Q') (fun W pn xe E p1 p2 tk hW =>
      ⟨fun q1 q2 q3 q4 q5 q6 q7 => (pe_act2 (i := 0) (p1 := p1) (p2 := p2) JX L (fun pm ct => hbind (.ref c') pm ct) tk hW hr' (fun A outer s H hr2 => hbody A outer s H E f c' hr2) hNg hva hd hcd).run q1 q2 q3 q4 q5 q6 ⟨q7.1, q7.2.1, q7.2.2.1, q7.2.2.2⟩⟩) h3 h4
    exact ⟨t', ht'.nox, hq'⟩
  have run' : codeAny (model Y.prog Y.w) Y.A (.call (.ref g) ⟨[.ref f], []⟩) (CR C8.CX0 Y.stack Y.prog Y.w H1 s1 Q C8.E0) s1 := by
    rw [wi.prog, wi.w, wi.A, wi.stack]
    exact run
  refine wpAny_call (codeAny_mono run' fun r s2 hq => ?_)
  cases r with
  | error e => exact (show False from hq).elim
  | ok fl =>
    cases fl with
    | ret u => exact J.after hq
    | next => exact hq.elim
    | brk => exact hq.elim
    | cont => exact hq.elim
end
end VL

namespace VL
open PySem PySem.Spec PyProof.Rows L2
section
variable {X : Cx}
theorem blk_within {pins : List (Addr × Obj)} {σ : L2.St} {H : Hp} {s : Shared} {scope : Scope} {ce : Env} {fp : List Addr} (I : Inv X pins σ H s) (hf : ∀ b ∈ fp, FpOk X pins H b) : Within X (X.blk s H scope ce fp) pins σ :=
  ⟨rfl, rfl, rfl, rfl, rfl, rfl, rfl, fun _ _ _ _ J => I.call' (ch := fp) J.os J.base J.hok J.bare fun b hb => by
    obtain ⟨_, g1, _, g3, g4, g5⟩ := hf b hb
    exact ⟨g3, g1, g4, g5⟩⟩
/-- a comprehension whose element is told of the frame's own state -/
theorem pe_lcI {elt iter : Expr} {y : Str} {yp pos : Pos} {iy : Nat} {scope : Scope} {wi : TI} {te : L2.St → TE} (hc : X.calm = true) (hN : X.N.Nodup) (hi : PI X (.Name y yp) iter wi) (ok : BlkOk X.N X.env.scope scope [(y, iy)])
    (hg : ∀ (s : Shared) (H : Hp) (C : Addr) (cl : List (Str × Addr)) (fp : List Addr), PG (X.blk s H scope (compEnvC scope cl C X.env) fp) (.Name y yp) (gName iy))
    (he : ∀ (pins : List (Addr × Obj)) (σ : L2.St) (s : Shared) (H : Hp) (C : Addr) (cl : List (Str × Addr)) (fp : List Addr), Within X (X.blk s H scope (compEnvC scope cl C X.env) fp) pins σ → PE (X.blk s H scope (compEnvC scope cl C X.env) fp) elt (te σ))
    (hs : ∀ x, foldedSetIterable iter X.env x = pure x) :
    PE X (.ListComp elt [⟨.Name y yp, iter, [], 0⟩] scope pos) (fun σ H Q => tLc wi (gName iy) tYes (te σ) [iy] σ H Q) := by
  refine ⟨fun pins s σ H Q I hw => ?_⟩
  rw [eval_ListComp]
  have hfree : ∀ z ∈ scope.names, z.2 = .free → ∃ c, X.env.cells.lookup z.1 = some c := fun z hz e => (ok.free z hz e).elim (fun k => I.ok.has _ (.inl k)) fun k => I.ok.has _ (.inr k)
  refine wpAny_comprehension_free (use := none) rfl hs (closure_ok hfree) ok.kind (fun z hz e => by rw [ok.uniq z hz, e]) ?_
  refine thn (hi.run pins s σ H _ I hw) fun xv s1 h1 => thn h1 fun itv s2 h2 => ?_
  obtain ⟨it, fp, tn, J, H2, rfl, I2, T, t2, f2, hq⟩ := h2
  refine wpAny_newObj_type (newEnv_comp ?_) (Nat.zero_le _)
  obtain ⟨D, eD⟩ : ∃ D, D = s2.heap.objs.size := ⟨_, rfl⟩
  rw [← eD]
  have free : H2 D = none := I2.hok.fresh (by rw [eD]; exact Nat.le_refl _)
  obtain ⟨W, ⟨m0, w0⟩, step⟩ := hq D free
  -- the state of the frame with the new list
  obtain ⟨s3, e3⟩ : ∃ s3 : Shared, s3 = { s2 with heap := s2.heap.push { cls := .type "list", data := .seq ([] : List Value).toArray } } := ⟨_, rfl⟩
  have k3 : ∀ b o, s2.heap.get? b = some o → s3.heap.get? b = some o := fun b o e => by rw [e3]; exact Heap.get?_push_of_some _ e
  have I3 : Inv X pins σ (upd H2 D (.lst [])) s3 := by
    rw [e3]
    refine I2.laid (t' := s2.toks) (fun b o e => Heap.get?_push_of_some _ e) (by rw [eD]; exact Nat.le_refl _) ⟨Nat.zero_le _, [], 0, .nil, ?_⟩
    rw [eD]
    exact Heap.get?_push_size _ rfl
  have low : ∀ b ∈ fp, b < s2.heap.objs.size := fun b hb => by
    obtain ⟨o, e, _⟩ := T.obj _ _ t2 b hb
    exact Heap.lt_size e
  have f3 : ∀ b ∈ fp, FpOk X pins (upd H2 D (.lst [])) b := fun b hb => by
    obtain ⟨g0, g⟩ := f2 b hb
    exact ⟨by rw [upd_ne (by rw [eD]; exact Nat.ne_of_lt (low b hb))]; exact g0, g⟩
  have I4 := block_start I3 ok hN fun b hb => ⟨f3 b hb, by rw [e3]; exact Nat.lt_of_lt_of_le (low b hb) (by rw [Heap.size_push]; exact Nat.le_succ _)⟩
  rw [show ({ heap := s2.heap.push { cls := Value.type "list", data := .seq ([] : List Value).toArray }, gens := s2.gens, drawn := s2.drawn, toks := s2.toks, os := s2.os } : Shared) = s3 from e3.symm]
  obtain ⟨ce, ec⟩ : ∃ ce, ce = compEnvC scope (cellsFrom (s3.heap.objs.size + 1) scope.names (cloFrom X.env.cells scope.names [])) s3.heap.objs.size X.env := ⟨_, rfl⟩
  have eL : ce.locals = s3.heap.objs.size := by rw [ec]; rfl
  have pg := hg s3 (upd H2 D (.lst [])) s3.heap.objs.size (cellsFrom (s3.heap.objs.size + 1) scope.names (cloFrom X.env.cells scope.names [])) fp
  have pe := he pins σ s3 (upd H2 D (.lst [])) s3.heap.objs.size (cellsFrom (s3.heap.objs.size + 1) scope.names (cloFrom X.env.cells scope.names [])) fp (blk_within I3 f3)
  have wn : Within X (X.blk s3 (upd H2 D (.lst [])) scope ce fp) pins σ := blk_within I3 f3
  show codeAny _ _ (.compStart _ 0 (.ref it) (.ref D) (compEnvC scope (cellsFrom (s3.heap.objs.size + 1) scope.names (cloFrom X.env.cells scope.names [])) s3.heap.objs.size X.env)) (compPost (model X.prog X.w) X.A X.xe none _ (.ref D) s3.heap.objs.size) _
  rw [← ec] at I4 pg pe ⊢
  obtain ⟨s4, e4⟩ : ∃ s4 : Shared, s4 = { s3 with heap := pushCells (s3.heap.push { cls := .type "dict", data := .dict #[] }) scope.names } := ⟨_, rfl⟩
  rw [← e4] at I4 ⊢
  have t4 : tn 0 s4.heap := T.keep _ _ _ t2 fun b _ o e => by
    rw [e4]
    exact pushCells_keeps _ _ _ _ (Heap.get?_push_of_some _ (k3 b o e))
  have n4 : ∀ b ∈ fp, upd H2 D (.lst []) b = none := fun b hb => (f3 b hb).1
  have fpb : ∀ {σ' : L2.St} {H' : Hp} {s' : Shared}, Inv (X.blk s3 (upd H2 D (.lst [])) scope ce fp) [] σ' H' s' → (∀ b ∈ fp, H' b = none) → ∀ b ∈ fp, FpOk (X.blk s3 (upd H2 D (.lst [])) scope ce fp) [] H' b := fun {σ' H' s'} J' n' b hb => by
    have z := J'.ok.exf b hb
    exact ⟨n' b hb, z.1, J'.ok.exfs b hb, .inl hb, z.2, fun p hp => nomatch (show p ∈ ([] : List (Addr × Obj)) from hp)⟩
  have loop : codeAny (model X.prog X.w) X.A (.compLoop (.ListComp elt [⟨.Name y yp, iter, [], 0⟩] scope pos) 0 (.ref it) (.ref D) ce) (compPost (model X.prog X.w) X.A X.xe none (fun v s' => ∃ w' H', Inv X pins σ H' s' ∧ RelV w' v ∧ Q w' H') (.ref D) s3.heap.objs.size) s4 := by
    refine compLoop_any (fun n s' => ∃ i H', Inv (X.blk s3 (upd H2 D (.lst [])) scope ce fp) [] (wipe σ [iy]) H' s' ∧ tn i s'.heap ∧ (∀ b ∈ fp, H' b = none) ∧ W i n H') (fun n s5 h5 => ?_) m0 ⟨0, _, I4, t4, n4, w0⟩
    obtain ⟨i, H5, I5, t5, n5, w5⟩ := h5
    rcases step i n H5 w5 with ⟨stop, fin⟩ | ⟨go, Nx, hNx, turn⟩
    · refine thnF (T.done (X.blk s3 (upd H2 D (.lst [])) scope ce fp) rfl rfl rfl hc i [] s5 _ H5 (fun _ _ => False) I5 (fpb I5 n5) t5 stop) fun r s6 h6 => ?_
      obtain ⟨rfl, I6⟩ := h6
      have I7 := wn.back _ _ _ _ I6
      obtain ⟨m, hn, _⟩ := I6.loc
      have nC : H5 s3.heap.objs.size = none := by rw [← eL]; exact I6.free
      rw [show (X.blk s3 (upd H2 D (.lst [])) scope ce fp).env.locals = s3.heap.objs.size from eL] at hn
      obtain ⟨g0, g1, g2, g3, g4, g5⟩ := I3.fpOk (Nat.le_refl _) nC
      exact ⟨m, hn, fun h'' sb => ⟨.ref D, H5, I7.turned (t' := s6.toks) (fun b o hb e => (sb.2 b hb).trans e) g0 g1 g3 g4 g5, rfl, fin⟩⟩
    · refine thnF (T.item (X.blk s3 (upd H2 D (.lst [])) scope ce fp) rfl rfl rfl hc i [] s5 _ H5 (fun _ _ => False) I5 (fpb I5 n5) t5 go) fun r s6 h6 => ?_
      obtain ⟨u, rfl, h6⟩ := h6
      refine thnF h6 fun _ s7 h7 => ?_
      obtain ⟨x, H7, I7, r7, y7, t7, n7⟩ := h7
      refine thnF (pg.run _ s7 _ H7 x u _ (I7.pinned (fpb I7 n7) (T.obj _ _ t7)) r7 (turn x H7 y7)) fun _ s8 h8 => ?_
      obtain ⟨σ8, H8, I8, e8, q8⟩ := h8
      refine thnF ((pts_nil (X := X.blk s3 (upd H2 D (.lst [])) scope ce fp)).run _ s8 σ8 H8 _ I8 q8) fun b s9 h9 => ?_
      obtain ⟨H9, I9, q9⟩ := h9
      have close : ∀ {s' : Shared} {H' : Hp}, Inv (X.blk s3 (upd H2 D (.lst [])) scope ce fp) ([] ++ pinsAt fp s7.heap) σ8 H' s' → Nx H' → ∃ m, m < n ∧ ∃ i H', Inv (X.blk s3 (upd H2 D (.lst [])) scope ce fp) [] (wipe σ [iy]) H' s' ∧ tn i s'.heap ∧ (∀ b ∈ fp, H' b = none) ∧ W i m H' := fun {s' H'} J' nx => by
        obtain ⟨m', lt, w'⟩ := hNx H' nx
        have stay : ∀ b ∈ fp, ∀ o, s7.heap.get? b = some o → s'.heap.get? b = some o ∧ H' b = none := fun b hb o e => by
          obtain ⟨z1, z2, _⟩ := J'.pin (b, o) (List.mem_append_right _ (List.mem_append_right _ (mem_pinsAt hb e)))
          exact ⟨z1, z2⟩
        refine ⟨m', lt, i + 1, H', (J'.unpinned (pins := [])).weak (by rw [← e8, wipe_length]) (fun j v e => ?_), T.keep _ _ _ t7 fun b hb o e => (stay b hb o e).1, fun b hb => ?_, w'⟩
        · rw [← e8] at e
          exact (wipe_some e).1
        · obtain ⟨o, e, _⟩ := T.obj _ _ t7 b hb
          exact (stay b hb o e).2
      cases b with
      | false => exact close I9 q9
      | true =>
        refine thnF (pe.run _ s9 σ8 H9 _ I9 q9) fun z s10 h10 => ?_
        obtain ⟨v, H10, I10, r10, acc, a1, a2, nx⟩ := h10
        exact app_ok (X := X.blk s3 (upd H2 D (.lst [])) scope ce fp) I10 a1 a2 r10 fun s11 I11 => close I11 nx
  exact codeAny_compStart_list loop (T.self X.A 0 _ _ _ t4 loop)
end
end VL

namespace VL
open PySem PySem.Spec PyProof.Rows L2
section
variable {Γ : Ctx} {Ψ : Exc → Ks → Prop} {ρ : List En} {κ : Ks} {c P : Addr} {q : Str} {x i iy k : Nat} {t : Ex} {pr : Arguments} {bd : Expr} {sc scope : Scope} {y z : Str} {pp lpos pos py yp zp : Pos} {Φ : Rs → Ks → Prop} {trf : Exc → Option D}
theorem St0.gOf {m : Pm} {F H : Hp} {w : Wd} {a : Addr} {φ : Heap → Prop} (s : St0 m F w H) (h : H a = some (.ext φ)) (hF : ∀ φ, F a ≠ some (.ext φ)) : w.G a = some (.ext φ) := by
  have f0 : F a = none := by
    cases e : F a with
    | none => rfl
    | some o =>
      rw [(s.fr a o e).1] at h
      cases h
      exact absurd e (hF φ)
  have c0 : w.C a = none := by
    cases e : w.C a with
    | none => rfl
    | some o =>
      rw [(s.cl a o e).1] at h
      cases h
      exact absurd e (s.nxC a φ)
  rcases s.rest a f0 c0 (fun p hp e => by
    obtain ⟨⟨ps, h1, _⟩, _⟩ := s.tab p hp
    rw [e, h] at h1
    cases h1) with h1 | ⟨⟨ps, h1⟩, _⟩
  · rw [← h1]
    exact h
  · rw [h] at h1
    cases h1
theorem ev_lam (hlam : Γ.lam = some (c, P, q)) (hact : Γ.act = some x) (hT : (P, q) ∈ Γ.g.T) (hu : ∀ p ∈ Γ.g.T, p.1 = P → p.2 = q) (hLP : Γ.LP t pr bd sc) (hL : LamX.lamSB Γ.sc sc = true) (hdef : ∀ env, defaultsOf pr env = ([], [])) (hΦ : Φ (.dat (.lam x t)) κ) : EV Γ Ψ ρ κ (.Lambda pr bd sc lpos) Φ := ⟨fun {X m F0 w0 F ow σ w H} s kk Q qq => by
  obtain ⟨hcode, hTB, hq⟩ := s.f.lam c P q hlam
  have hmT : m.T = Γ.g.T := s.x.T
  refine ⟨_, pe_lamV (T := m.T) hTB hcode (by rw [hmT, hq]; exact hT) (fun p hp e => by rw [hq]; exact hu p (by rw [← hmT]; exact hp) e) (LamX.lamS_by (by rw [s.f.sc]; exact hL)) (hdef _), fun p hp => (s.st.tab p hp).1, fun f c' H1 eN hT1 hc hn hf => ?_⟩
  obtain ⟨w1, e1, kw1, st1⟩ := s.st.lam eN hT1
  refine qq (.dat (.lam x t)) (.ref f) w1 H1 (by rw [kw1, kk]; exact hΦ) e1 ⟨st1, .lam (cl := cloFrom X.env.cells sc.names []) (f := f) (c' := c') ((s.x.lm x c P q hact hlam t pr bd sc _ _).mpr ⟨hLP, rfl, rfl⟩) ?_ ?_⟩
  · rw [← hq]
    exact st1.gOf hf (st1.nxF f)
  · rw [← hq]
    exact st1.gOf hc (st1.nxF c')⟩
theorem unOwn_get : ∀ {ρ : List En} {i : Nat} {en : En}, (unOwn ρ)[i]? = some en → en = .un ∨ (ρ[i]? = some en ∧ ∀ x, en ≠ .own x)
  | [], _, _, h => by simp [unOwn] at h
  | e :: r, 0, en, h => by
    cases e with
    | own x =>
      have h' : some En.un = some en := h
      cases h'
      exact .inl rfl
    | un =>
      have h' : some En.un = some en := h
      cases h'
      exact .inl rfl
    | dat d =>
      have h' : some (En.dat d) = some en := h
      cases h'
      exact .inr ⟨rfl, fun _ z => nomatch z⟩
    | ro d =>
      have h' : some (En.ro d) = some en := h
      cases h'
      exact .inr ⟨rfl, fun _ z => nomatch z⟩
  | e :: r, i + 1, en, h => by
    have h' : (unOwn r)[i]? = some en := by
      cases e <;> exact h
    rcases unOwn_get (ρ := r) (i := i) h' with z | z
    · exact .inl z
    · exact .inr ⟨by simpa using z.1, z.2⟩
theorem unOwn_len : ∀ ρ : List En, (unOwn ρ).length = ρ.length
  | [] => rfl
  | e :: r => by
    have : (unOwn (e :: r)).length = (unOwn r).length + 1 := by cases e <;> rfl
    rw [this, unOwn_len r]
    rfl
theorem Slots.unOwn {m : Pm} {F0 F F1 : Hp} {ow : Nat → Addr} {ρ : List En} {σ : L2.St} {w w1 : Wd} (s : Slots m F0 F ow ρ σ w) (e : w.le w1) (hs : ∀ a o, F0 a = some o → F1 a = some o) : Slots m F1 F1 ow (unOwn ρ) σ w1 :=
  ⟨by rw [unOwn_len]; exact s.len, fun i en hi => by
    rcases unOwn_get hi with rfl | ⟨h1, h2⟩
    · exact True.intro
    · have z := (s.ok i en h1).mono e
      cases en with
      | un => exact True.intro
      | dat d => exact z
      | own x => exact absurd rfl (h2 x)
      | ro d =>
        obtain ⟨v, g1, g2⟩ := z
        exact ⟨v, g1, g2.sub hs⟩, fun i j x y hi => by
    rcases unOwn_get hi with h | ⟨_, h⟩
    · cases h
    · exact absurd rfl (h x), fun _ _ z => z, fun i x hi => by
    rcases unOwn_get hi with h | ⟨_, h⟩
    · cases h
    · exact absurd rfl (h x)⟩
/-- what _law_tried makes of a kept lambda's run -/
theorem tried_body {X : Cx} {m : Pm} {F0 F F1 H : Hp} {w0 w w1 : Wd} {ow : Nat → Addr} {σ : L2.St} {f c' C1 C2 C3 C4 : Addr} {Q : VK} {Φt : D → Ks → Prop} {H1 : Hp} (s : Stt Γ X Ψ ρ m F0 w0 F ow σ w H) (m1 : Γ.g.mg "BadTable" = some (.ref C1)) (m2 : Γ.g.mg "BadSheet" = some (.ref C2)) (m3 : Γ.g.mg "LagError" = some (.ref C3)) (m4 : Γ.g.mg "WorksError" = some (.ref C4)) (hΨ : TrOk Γ.g trf)
    (hb : EVD (Γ.lamc sc k) (fun x κ' => ∃ d, trf x = some d ∧ Φt d κ') (unOwn ρ) w1.κ bd (fun d κ' => Φt (.tuple [.str "told", d]) κ')) (e1 : w.le w1) (hs : ∀ a o, F0 a = some o → F1 a = some o) (st1 : St0 m F1 w1 H1) (qq : ∀ d v w2 H2, Φt d w2.κ → w1.le w2 → St0 m F1 w2 H2 → RepW m w2 v d → Q v H2) :
    TT4 X.K C1 C2 C3 C4 (fun E H' Q' => ∀ (A : Around) (outer : List Env) (s1 : Shared) (H1 : Hp), Room k (A.deeper (LamX.lamEnv X sc s1.heap.objs.size f c')) → wE (LamX.lamCx X A outer s1 H1 E sc f c') bd σ H' Q') H1 Q := by
  have K1 := s.f.K
  intro A outer s1 H1' hr
  have hX : Fr (Γ.lamc sc k) (LamX.lamCx X A outer s1 H1' (HCase X.K C1 C2 C3 C4 Q) sc f c') :=
    ⟨s.f.prog, s.f.w, s.f.K, s.f.mg, s.f.base, s.f.N, rfl, hr, fun z => Bool.noConfusion z, fun z => Bool.noConfusion z, fun _ _ _ z => nomatch z⟩
  have tk : Takes (LamX.lamCx X A outer s1 H1' (HCase X.K C1 C2 C3 C4 Q) sc f c') (fun cls d _ H' => ExcPost m F1 w1 (fun x κ' => ∃ d, trf x = some d ∧ Φt d κ') cls d H') := by
    refine (takes_of (X := LamX.lamCx X A outer s1 H1' (HCase X.K C1 C2 C3 C4 Q) sc f c') rfl rfl rfl rfl).imp fun cls d σ' H' z => ?_
    obtain ⟨x, w', dd, fs, ⟨dr, y0, y1⟩, y2, y3, y4, y5, y6, y7, y8⟩ := z
    obtain ⟨two, wd, ⟨⟨C, D1, D2, D3, D4, z0, z1, z2, z3, z4, z5, z6, z7⟩⟩, hw, hres⟩ := hΨ x dr y0
    rw [m1] at z1; cases z1
    rw [m2] at z2; cases z2
    rw [m3] at z3; cases z3
    rw [m4] at z4; cases z4
    rw [s.mg, z0] at y2
    cases y2
    obtain ⟨vw, lw, dw⟩ := lookup_rep y7 y8 hw
    refine ⟨C, dd, fs, vw, rfl, y3, y5.same _ _ y6, by rw [K1]; exact z5, by rw [K1]; exact z6, lw, ?_⟩
    rw [K1]
    have fin : ∀ (vs : List V) (dl : List D), RepsW m w' vs dl → Φt (.tuple dl) w'.κ → ∀ p, H' p = none → Q (.ref p) (upd H' p (.tup vs)) := fun vs dl hdl hφ p hp => by
      obtain ⟨le, st, rp⟩ := new_tup y5 hp hdl
      exact qq _ _ (w'.addG p (.tup vs)) _ hφ (y4.trans le) st rp
    rcases hres with ⟨ht, v, lv, rfl⟩ | ⟨ht, rfl⟩
    · rcases z7 with ⟨_, z8, z9⟩ | ⟨z8, _⟩
      · obtain ⟨va, la, da⟩ := lookup_rep y7 y8 lv
        exact .inl ⟨z8, z9, va, la, fin _ _ (.cons dw (.cons da .nil)) y1⟩
      · rw [ht] at z8
        cases z8
    · rcases z7 with ⟨z8, _⟩ | ⟨_, z8, z9, z10⟩
      · rw [ht] at z8
        cases z8
      · exact .inr ⟨⟨z8, z9, z10⟩, fin _ _ (.cons dw .nil) y1⟩
  have xo : XOk (Γ.lamc sc k) (LamX.lamCx X A outer s1 H1' (HCase X.K C1 C2 C3 C4 Q) sc f c') m F1 w1 (fun x κ' => ∃ d, trf x = some d ∧ Φt d κ') := ⟨s.x.K, s.x.mg, s.x.T, s.x.nd, rfl, fun _ => passes_of (K := fun e s'' => L2.CX X.prog X.w outer H1' s1 (HCase X.K C1 C2 C3 C4 Q) e s'') rfl, tk, fun _ _ _ _ _ z => nomatch z⟩
  refine hb.run (F0 := F1) (w0 := w1) ⟨hX, xo, .refl _, s.sl.unOwn e1 hs, st1⟩ rfl _ fun d v w2 H2 p2 e2 s2 d2 => ⟨by show 2 ≤ sizeLine; decide, fun p hp => ?_⟩
  obtain ⟨le, st, rp⟩ := new_tup (vs := [.str "told", v]) (ds := [.str "told", d]) s2 hp (.cons (.str _) (.cons d2 .nil))
  exact qq _ _ (w2.addG p (.tup _)) _ p2 (e2.trans le) st rp
theorem sizeLine_le : 100000 ≤ sizeLine := by decide
theorem lams_rep {m : Pm} {w : Wd} {xs : List V} {ts : List Ex} (h : RepsW m w xs (ts.map (D.lam x))) {i : Nat} {v : V} (hv : xs[i]? = some v) : ∃ (t : Ex) (pr : Arguments) (bd : Expr) (sc : Scope) (cl : List (Str × Addr)) (q : Str) (f c' : Addr), ts[i]? = some t ∧ v = .ref f ∧ m.L x t pr bd sc cl q ∧ w.G f = some (LamO f q pr bd sc cl c') ∧ w.G c' = some (LamX.CodeO c' q) := by
  obtain ⟨d, h1, h2⟩ := h.getV hv
  rw [List.getElem?_map] at h1
  cases e : ts[i]? with
  | none => rw [e] at h1; cases h1
  | some t =>
    rw [e] at h1
    cases h1
    cases h2 with
    | lam h3 h4 h5 => exact ⟨_, _, _, _, _, _, _, _, rfl, rfl, h3, h4, h5⟩
theorem sat_tried {m : M Rs} {κ : Ks} {Φt : D → Ks → Prop} {Ψ : Exc → Ks → Prop} (h : (triedM trf m κ).sat Φt Ψ) : (m κ).sat (fun r κ' => Φt (.tuple [.str "told", r.data]) κ') (fun x κ' => ∃ d, trf x = some d ∧ Φt d κ') := by
  unfold triedM at h
  cases e : m κ with
  | ok r κ' => rw [e] at h; exact h
  | exc z κ' =>
    rw [e] at h
    dsimp only at h
    cases e2 : trf z with
    | none => rw [e2] at h; exact h.elim
    | some d => rw [e2] at h; exact ⟨d, e2, h⟩
  | stuck => rw [e] at h; exact h.elim
/-- [_law_tried(y) for y in z], z a list of kept lambdas -/
theorem ev_acts {ts : List Ex} {f : Ex → List En → M Rs} (tr : Tried Γ.g) (hlam : Γ.lam = some (c, P, q)) (hact : Γ.act = some x) (hd : ρ[i]? = some (.dat (.list (ts.map (.lam x))))) (hts : ts.length ≤ 1000) (hil : iy < ρ.length)
    (hLP : ∀ t pr bd sc, Γ.LP t pr bd sc → LamX.lamSB Γ.sc sc = true ∧ (∀ (q : Str) (cl : List (Str × Addr)) (pm cv ctv : Value), bindArgs (PySem.W.kla_fn "<lambda>" q pr bd sc cl pm cv ctv) ⟨[], []⟩ = pure []) ∧ ∀ ρ κ Φ Ψ, (f t ρ κ).sat Φ Ψ → EV (Γ.lamc sc k) Ψ ρ κ bd Φ)
    (hrun : (actL trf (fun t => f t (unOwn ρ)) ts κ).sat (fun ds κ' => Φ (.new (.lst ds)) κ') Ψ) (hΨ : TrOk Γ.g trf) (hk : k + 2 ≤ Γ.k) (hg : glB (relS scope Γ.sc) "_law_tried" = true) (hb : blkC Γ.N Γ.sc scope [(y, iy)] = true) (hN : Γ.N[i]? = some z) (hv : visB Γ.sc z = true) (hz1 : (z == ("__debug__" : Str)) = false) (hz2 : (z == ("__classdict__" : Str)) = false)
    (hy : Γ.N[iy]? = some y) (hyl : locB (relS scope Γ.sc) false y = true) (hyv : visB (relS scope Γ.sc) y = true) (hy1 : (y == ("__debug__" : Str)) = false) (hy2 : (y == ("__classdict__" : Str)) = false) :
    EV Γ Ψ ρ κ (.ListComp (.Call (.Name "_law_tried" pp) [.Name y py] [] pos) [⟨.Name y yp, .Name z zp, [], 0⟩] scope lpos) Φ := ⟨fun {X m F0 w0 F ow σ w H} s kk Q qq => by
  obtain ⟨fa, fd, prm, sg, k0, k1, k2, k3, k4, k5, ps, FD, hm, hS, hB, hva, hve, hgl⟩ := tr.ex
  obtain ⟨C1, C2, C3, C4, m1, m2, m3, m4⟩ := tr.cl
  obtain ⟨oc, od, dV, kV, doc, pm, an, cdv, ct, osl, rfl, lk, hcd, _, _⟩ := FD.ex
  have K1 := s.f.K
  have M1 := s.f.mg
  obtain ⟨hcode, hTB, hq⟩ := s.f.lam c P q hlam
  have lm := s.x.lm x c P q hact hlam
  obtain ⟨v, h1, h2⟩ := s.sl.ok i _ hd
  obtain ⟨aa, xs, rfl, hG, hR⟩ := h2.list_inv
  have ok : BlkOk X.N X.env.scope scope [(y, iy)] := by rw [s.f.N, s.f.sc]; exact blkOk_by hb
  have hlen := hR.len
  rw [List.length_map] at hlen
  have Fb : ∀ (s' : Shared) (H' : Hp) (C : Addr) (cl : List (Str × Addr)) (fp : List Addr), Fr (Γ.blk scope) (X.blk s' H' scope (compEnvC scope cl C X.env) fp) := fun s' H' C cl fp => s.f.blk scope s' H' C cl fp
  refine ⟨_, pe_lcI (te := fun σ => tAct (TT4 X.K C1 C2 C3 C4) iy (X.env.qual ++ "<lambda>") (fun pr bd sc cl => ∃ t, m.L x t pr bd sc cl q) (fun pr bd sc f c' E σ' H' Q' => ∀ (A : Around) (outer : List Env) (s1 : Shared) (H1 : Hp), Room k (A.deeper (LamX.lamEnv X sc s1.heap.objs.size f c')) → wE (LamX.lamCx X A outer s1 H1 E sc f c') bd σ' H' Q') σ) s.x.calm s.x.nd (pi_list (pe_var (s.f.nth hN) (s.f.vis hv) hz1 hz2)) ok
    (fun s' H' C cl fp => pg_name (X := X.blk s' H' scope (compEnvC scope cl C X.env) fp) s.x.nd ((Fb s' H' C cl fp).nth hy) ((Fb s' H' C cl fp).loc hyl).1 ((Fb s' H' C cl fp).loc hyl).2)
    (fun pins σ s' H' C cl fp wn => pe_acty (a := "_law_act") (k := k) wn ((Fb s' H' C cl fp).gl hg) (by rw [M1]; exact hm) (by rw [K1]; exact FD.kp) (by rw [K1]; exact lk) (by rw [K1]; exact hcd) (by rw [K1]; exact hB) hS rfl (.inl hva)
      (gives4 (by rw [M1]; exact m1) (by rw [M1]; exact m2) (by rw [M1]; exact m3) (by rw [M1]; exact m4) hS hve hgl) (s.f.room.mono hk) (fun pr bd sc cl hp => ?_) ((Fb s' H' C cl fp).nth hy) ((Fb s' H' C cl fp).vis hyv) hy1 hy2 (by kernel_rfl) (by kernel_rfl) (by kernel_rfl)) (fold_no rfl _), ?_⟩
  · obtain ⟨t, hL⟩ := hp
    obtain ⟨p1, p2, _⟩ := (lm t pr bd sc cl q).mp hL
    obtain ⟨l1, l2, l3⟩ := hLP t pr bd sc p1
    exact ⟨LamX.lamS_by (by rw [s.f.sc]; exact l1), p2, fun c' pm ct => l2 _ _ _ _ _, fun A outer s1 H1 E f1 c1 hr => ⟨fun pz sz σz Hz Qz Iz hz => pe_w.run pz sz σz Hz Qz Iz (hz A outer s1 H1 hr)⟩⟩
  · refine ⟨.ref aa, h1, aa, rfl, ⟨xs, SqL.of (s.st.same _ _ hG)⟩, fun Dl hD => ?_⟩
    have hFD := s.st.freshF hD
    have hF0D : F0 Dl = none := by
      cases z : F0 Dl with
      | none => rfl
      | some u => rw [s.sl.sub Dl u z] at hFD; cases hFD
    refine lc_list (K := X.K) (xs := xs) (fun j H' => ∃ (vs : List V) (acc : List D) (w' : Wd), acc.length = j ∧ (actL trf (fun t => f t (unOwn ρ)) (ts.drop j) w'.κ).sat (fun ds κ' => Φ (.new (.lst (acc ++ ds))) κ') Ψ ∧ w.le w' ∧ St0 m (upd F Dl (.lst vs)) w' H' ∧ RepsW m w' vs acc)
      ⟨[], [], w, rfl, by rw [kk]; exact hrun, .refl _, s.st.allocF hD, .nil⟩ (fun j H' hj hp => ?_) (fun j v H' hj hp => ?_) (fun H' hp => ?_)
    · obtain ⟨vs, acc, w', _, _, le, st, _⟩ := hp
      obtain ⟨o', e1, l⟩ := le.g _ _ hG
      rw [l.lst] at e1
      exact SqL.of (st.same _ _ e1)
    · obtain ⟨vs, acc, w', hacc, hr, le, st, dp⟩ := hp
      obtain ⟨t, pr, bd, sc, cl, q', f1, c1, ht, rfl, hL, hf, hc⟩ := lams_rep hR hj
      have hjl := (List.getElem?_eq_some_iff.mp hj).1
      obtain ⟨htl, rfl⟩ := List.getElem?_eq_some_iff.mp ht
      obtain ⟨p1, p2, rfl⟩ := (lm _ pr bd sc cl q').mp hL
      obtain ⟨l1, l2, l3⟩ := hLP _ pr bd sc p1
      rw [List.drop_eq_getElem_cons htl, actL, sat_bind] at hr
      have hf' : w'.G f1 = some (LamO f1 q' pr bd sc cl c1) := by
        obtain ⟨o', e1, l⟩ := le.g _ _ hf
        rw [l.ext] at e1
        exact e1
      have hc' : w'.G c1 = some (LamX.CodeO c1 q') := by
        obtain ⟨o', e1, l⟩ := le.g _ _ hc
        rw [l.ext] at e1
        exact e1
      refine ⟨?_, f1, c1, pr, bd, sc, cl, ⟨_, hL⟩, ?_, ?_, ?_, ?_, ?_⟩
      · show ((σ.set iy none).set iy (some (V.ref f1))).set iy none = σ.set iy none
        rw [List.set_set, List.set_set]
      · show ((σ.set iy none).set iy (some (V.ref f1)))[iy]? = _
        have hlt : iy < σ.length := by
          rw [s.sl.len]
          exact hil
        rw [List.getElem?_set_self (by rw [List.length_set]; exact hlt)]
      · rw [hq]
        exact st.same _ _ hf'
      · rw [hq]
        exact st.same _ _ hc'
      · rw [hq]
        exact st.same _ _ hf'
      · have hS := sizeLine_le
        refine tried_body (F1 := upd F Dl (.lst vs)) (w1 := w') (Φt := fun d κ' => (M.bind (actL trf (fun t => f t (unOwn ρ)) (ts.drop (j + 1))) (fun r => M.ret (d :: r)) κ').sat (fun ds κ' => Φ (.new (.lst (acc ++ ds))) κ') Ψ) s m1 m2 m3 m4 hΨ (l3 (unOwn ρ) w'.κ _ _ (sat_tried hr)).evd le (fun a o e => by
          rw [upd_ne (fun z => by rw [z, hF0D] at e; cases e)]
          exact s.sl.sub a o e) st fun d v w2 H2 hd le2 st2 rp => ?_
        refine ⟨vs, (st2.fr Dl _ upd_same).1, by rw [dp.len]; omega, vs ++ [v], acc ++ [d], w2, by rw [List.length_append, hacc]; rfl, ?_, le.trans le2, ?_, (dp.le le2).app (.cons rp .nil)⟩
        · rw [sat_bind] at hd
          refine hd.imp (fun r κ' z => ?_) fun _ _ z => z
          rw [List.append_assoc]
          exact z
        · have z := st2.write (p := Dl) (o := .lst (vs ++ [v])) upd_same lst_code
          rw [upd_upd] at z
          exact z
    · obtain ⟨vs, acc, w', hacc, hr, le, st, dp⟩ := hp
      rw [List.drop_of_length_le (by rw [hlen]; exact Nat.le_refl _)] at hr
      have hr' : Φ (.new (.lst (acc ++ []))) w'.κ := hr
      rw [List.append_nil] at hr'
      exact qq _ _ w' H' hr' le ⟨Dl, .lst vs, rfl, hFD, st, vs, rfl, dp⟩⟩
end
end VL

namespace VL
open PySem PySem.Spec PyProof.Rows L2
/-! ### a comprehension out of which an exception may come -/
section
variable {M : Model} {A : Around} {E : Value → Shared → Prop} {s : Shared} {env : Env}
def postX (M : Model) (A : Around) (E : Value → Shared → Prop) (Q : Value → Shared → Prop) (acc : Value) (ce : Env) : Result → Shared → Prop
  | .ok _, s' => ∃ m, s'.heap.Ns ce.locals m ∧ ∀ h', Heap.SameBut ce.locals s'.heap h' → Q acc { s' with heap := h' }
  | .error x, s' => ∃ m, s'.heap.Ns ce.locals m ∧ ∀ h', Heap.SameBut ce.locals s'.heap h' → wpAny M A (passOn "comprehension.variables-let-go" x ce : Sem Value) (fun _ _ => False) E { s' with heap := h' }
theorem comp_runs {e : Expr} {scope : Scope} {pos : Pos} {newAcc first : Sem Value} {g : Comprehension} {gs : List Comprehension} {cl : List (Str × Addr)} {Q : Value → Shared → Prop}
    (c1 : clausesOf e = g :: gs) (c2 : ∀ x, foldedSetIterable g.iter env x = pure x) (c3 : closureFor scope env = pure cl) (c4 : scope.kind = .function) (c5 : ∀ x ∈ scope.names, x.2 = .local → scope.names.lookup x.1 = some .local)
    (hh : wpAny M A first (fun x s₁ => wpAny M A (pyIter x) (fun it s₂ => wpAny M A newAcc (fun acc s₃ =>
      wpAny M A (newFunctionEnv scope env.globals cl [] env.qual none .none (some env)) (fun ce s₄ => codeAny M A (.compStart e 0 it acc { ce with scope := relabel scope env }) (postX M A E Q acc { ce with scope := relabel scope env }) s₄) E s₃) E s₂) E s₁) E s) :
    wpAny M A (comprehension e scope env pos newAcc false first none) Q E s := by
  unfold comprehension
  rw [c3, c1]
  have id' : ∀ (x : Value) (s : Shared), E x s → E x s := fun _ _ z => z
  refine wpAny_bind (wpAny_mono hh (fun x s₁ h₁ => ?_) id')
  refine wpAny_bind (wpAny_standAt (wpAny_bind (wpAny_of_eq (c2 x) (wpAny_bind (wpAny_holding (wpAny_mono h₁ (fun it s₂ h₂ => ?_) id'))))))
  refine wpAny_standIf (wpAny_bind (wpAny_mono h₂ (fun acc s₃ h₃ => ?_) id'))
  refine wpAny_bind (wpAny_pure (wpAny_bind (wpAny_mono h₃ (fun ce s₄ h₄ => ?_) id')))
  dsimp only
  generalize hce : ({ ce with scope := relabel scope env } : Env) = cf at h₄
  have hk : cf.scope.kind = .function := by rw [← hce]; exact c4
  have vis : ∀ x ∈ (scope.names.filter fun x => (x.2 == .local || x.2 == .cell) && x.1 != (".0" : Str)).reverse, x.2 = .local → cf.kindOf x.1 = some .local := fun x hx hl => by
    rw [← hce]
    exact lookup_relabel_local (c5 x (List.mem_filter.mp (List.mem_reverse.mp hx)).1 hl)
  have hl : cf.locals = ce.locals := by rw [← hce]
  have hcc : cf = { ce with scope := relabel scope env } := hce.symm
  refine wpAny_holding (wpAny_bind (wpAny_attempt (wpAny_holding (wpAny_run (codeAny_mono (by rw [hcc] at h₄; exact h₄) fun r s' hr => ?_)))))
  rw [← hcc] at hr
  cases r with
  | ok f =>
    obtain ⟨m, hn, q⟩ := hr
    exact wpAny_bind (wpAny_holding (wpAny_comp_letGo (cenv := { ce with scope := relabel scope env }) (by rw [← hcc]; exact hk) _ s' m (by rw [← hcc]; exact vis) (by rw [← hcc]; exact hn) fun h' m' _ sb => wpAny_pure (q h' (by rw [hcc]; exact sb))))
  | error x =>
    obtain ⟨m, hn, q⟩ := hr
    refine wpAny_bind (wpAny_holding (wpAny_comp_letGo (cenv := { ce with scope := relabel scope env }) (by rw [← hcc]; exact hk) _ s' m (by rw [← hcc]; exact vis) (by rw [← hcc]; exact hn) fun h' m' _ sb => ?_))
    have z := q h' (by rw [hcc]; exact sb)
    rw [hcc] at z
    exact wpAny_mono z (fun _ _ f => f.elim) fun _ _ y => y
end
/-! ### the exception leaves the block -/
section
variable {M : Model} {A : Around} {E : Value → Shared → Prop} {s : Shared} {env : Env} {outer : List Env} {base : Heap} {e L : Addr} {Z : Obj → Prop}
theorem note_eq {e : Value} {a b : Env} (h : a.frame = b.frame) : noteFrame e a = noteFrame e b := by
  unfold noteFrame PySem.frameOf
  rw [h]
/-- noted by another frame -/
theorem looks_atZ {fl : Value} {Q : Unit → Shared → Prop} (hZ : HandSPX.Steady Z) (hfr : A.frames = some (env :: outer)) (hf : env.frame = some L) (hb : base.StaysIn s.heap) (he0 : base.get? e = none) (hF : s.heap.FunFrames base (env :: outer)) (ht : HandSPX.TracedZ s.heap base e Z fl) (hfl : (fl == rawInt L) = false)
    (hQ : ∀ h', HandSPX.HeldZ base (env :: outer) e Z L h' → s.heap.UpToSlots h' → Q () { s with heap := h' }) : wpAny M A (noteFrame (.ref e) env) Q E s := by
  obtain ⟨oe, vs, T, oT, ts, q1, q2, q3, q4, q5, q6, q7, q8, q9⟩ := ht
  unfold noteFrame
  simp only [hf]
  refine wpAny_bind (wpAny_field q1 q3 q4 ?_)
  rw [if_pos (show (Value.ref T != Value.none) = true from by simp)]
  refine wpAny_bind (wpAny_field q7 q8 q9 ?_)
  rw [if_neg (by rw [hfl]; decide)]
  refine wpAny_bind (wpAny_setField q7 q8 (Array.getElem?_eq_some_iff.mp q9).1 ?_)
  have oth : ∀ b, b ≠ T → (s.heap.update T (Obj.mapFields (·.setIfInBounds 3 Value.none))).get? b = s.heap.get? b := fun b hb => Heap.get?_update_other _ _ (Ne.symm hb)
  have nrec : ∀ b o, s.heap.get? b = some o → (∀ vs, o.data ≠ .fields vs) → b ≠ T := fun b o hb hn q => by
    rw [q, q7] at hb
    cases hb
    exact hn ts q8
  refine HandSPX.wpAny_entryZ hZ hfr (hF.of_keeps fun b o hb hn => ⟨o, (oth b (nrec b o hb hn)).trans hb, rfl⟩) hf ((oth e (Ne.symm q6)).trans q1)
    (fun b o hbo => (oth b fun q => by rw [q, q5] at hbo; cases hbo).trans (hb b o hbo)) he0 q3 (Array.getElem?_eq_some_iff.mp q4).1 q2 fun h' hN => ?_
  obtain ⟨x1, x2, x3, x4⟩ := hN
  exact hQ h' ⟨x1, he0, x2, x3⟩ fun b o hb hn => x4 b o ((oth b (nrec b o hb hn)).trans hb) hn
/-- whatever it is, it is noted here -/
theorem sky_note {L' : Addr} {Q : Unit → Shared → Prop} (hZ : HandSPX.Steady Z) (hfr : A.frames = some (env :: outer)) (hf : env.frame = some L) (x : Sky base (env :: outer) e Z L' s.heap)
    (hQ : ∀ h', HandSPX.HeldZ base (env :: outer) e Z L h' → s.heap.UpToSlots h' → Q () { s with heap := h' }) : wpAny M A (noteFrame (.ref e) env) Q E s := by
  rcases x with ⟨hB, hn, hl, oe, vs, he, hz, hd, h1⟩ | fl | ⟨g1, g2, g3, g4⟩
  · exact HandSPX.look_newZ hZ hfr hl hf he hB hn hd h1 hz hQ
  · exact HandSPX.looks_onZ hZ hfr hf fl hQ
  · by_cases h : L' = L
    · subst h
      refine HandSPX.againZ hf g4 ?_
      exact hQ s.heap ⟨g1, g2, g3, g4⟩ fun b o hb _ => ⟨o.slots, hb⟩
    · exact looks_atZ hZ hfr hf g1 g2 g3 g4 (by
        have : ¬ ((L' : Int) = (L : Int)) := fun z => h (Int.ofNat_inj.mp z)
        simp [rawInt, this]) hQ
end
end VL
namespace VL
open PySem PySem.Spec PyProof.Rows L2
section
variable {X : Cx} {pins : List (Addr × Obj)} {σ : L2.St} {H : Hp} {s : Shared}
theorem ok_xe {E : Value → Shared → Prop} (k : Cx.Ok { X with xe := E }) : X.Ok :=
  ⟨k.mod, k.kind, k.glob, k.blt, k.above, k.inj, k.has, k.cab, k.hd, k.frames, k.stk, k.exf, k.bs, k.bsz, k.noex, k.exfs, k.funs, k.frf⟩
theorem ok_ex {E : Value → Shared → Prop} (k : X.Ok) : Cx.Ok { X with xe := E } :=
  ⟨k.mod, k.kind, k.glob, k.blt, k.above, k.inj, k.has, k.cab, k.hd, k.frames, k.stk, k.exf, k.bs, k.bsz, k.noex, k.exfs, k.funs, k.frf⟩
theorem inv_xe {E : Value → Shared → Prop} (I : Inv { X with xe := E } pins σ H s) : Inv X pins σ H s :=
  ⟨ok_xe I.ok, I.os, I.bare, I.base, I.loc, I.cell, I.free, I.freeC, I.pin, I.hok, I.len⟩
theorem inv_ex {E : Value → Shared → Prop} (I : Inv X pins σ H s) : Inv { X with xe := E } pins σ H s :=
  ⟨ok_ex I.ok, I.os, I.bare, I.base, I.loc, I.cell, I.free, I.freeC, I.pin, I.hok, I.len⟩
theorem frs_lt (I : Inv X pins σ H s) {b : Addr} (hb : b ∈ frs X.stack) : b < s.heap.objs.size := by
  obtain ⟨_, o, e, _⟩ := I.stack.mem hb
  exact Heap.lt_size e
theorem frames_but {B B' h h' : Heap} : ∀ {l : List Env}, h.FunFrames B l → (∀ L ∈ frs l, h'.get? L = h.get? L) → (∀ L ∈ frs l, B'.get? L = none) → h'.FunFrames B' l
  | [], _, _, _ => trivial
  | env :: l, x, k, n => by
    obtain ⟨x1, ⟨L, o, x2, x3, x4, x5⟩, x6⟩ := x
    have mem : L ∈ frs (env :: l) := List.mem_filterMap.mpr ⟨env, List.mem_cons_self, x2⟩
    have sub : ∀ b, b ∈ frs l → b ∈ frs (env :: l) := fun b hb => by
      obtain ⟨e, he, q⟩ := List.mem_filterMap.mp hb
      exact List.mem_filterMap.mpr ⟨e, List.mem_cons_of_mem _ he, q⟩
    exact ⟨x1, ⟨L, o, x2, n L mem, (k L mem).trans x4, x5⟩, frames_but x6 (fun b hb => k b (sub b hb)) fun b hb => n b (sub b hb)⟩
/-- what is raised in the block is raised by the comprehension -/
theorem blk_takes {W W' : WX} {scope : Scope} {cl : List (Str × Addr)} {C : Addr} {fp : List Addr} {E : Value → Shared → Prop} {Q : Value → Shared → Prop} {acc : Value} (tk : Takes X W) (hs : X.stack = X.env :: X.outer) (hf : X.env.frame = some X.env.locals) (I3 : Inv X pins σ H s) (f3 : ∀ b ∈ fp, FpOk X pins H b) (hC : s.heap.objs.size ≤ C) (hW : ∀ cls d σ' H', W' cls d σ' H' → W cls d σ H') {u : Value} {s' : Shared}
    (x : XE { X.blk s H scope (compEnvC scope cl C X.env) fp with xe := E } W' u s') :
    notedBy (model X.prog X.w) X.A (compEnvC scope cl C X.env) (fun e s'' => postX (model X.prog X.w) X.A X.xe Q acc (compEnvC scope cl C X.env) (.error e) s'') u s' := by
  obtain ⟨a, B, sI, pins', σ', H', cls, d, rfl, I', nb, up, sky, na, os, ag, w⟩ := x
  have Ib : Inv (X.blk s H scope (compEnvC scope cl C X.env) fp) pins' σ' H' sI := inv_xe (X := X.blk s H scope (compEnvC scope cl C X.env) fp) I'
  have hfr : X.A.frames = some (X.env :: X.outer) := by rw [I3.ok.frames, hs]
  have nb' : ∀ b o, sI.heap.get? b = some o → b ∉ frs X.stack → B.get? b = some o := nb
  have sky' : Sky B (X.env :: X.outer) a (Zc cls d) C s'.heap := by
    have z : Sky B X.stack a (Zc cls d) C s'.heap := sky
    rw [hs] at z
    exact z
  have nC : C ∉ frs X.stack := fun z => absurd (Nat.lt_of_lt_of_le (frs_lt I3 z) hC) (Nat.lt_irrefl _)
  show wpAny _ _ (noteFrame (.ref a) (compEnvC scope cl C X.env)) _ _ s'
  rw [note_eq (a := compEnvC scope cl C X.env) (b := X.env) rfl]
  refine sky_note Zc.steady hfr hf sky' fun h1 held up1 => ?_
  obtain ⟨m, hn, _⟩ := Ib.loc
  have hn : sI.heap.Ns C m := hn
  obtain ⟨b1, b2, b3, oe, vs, T, oT, ts, q1, q2, q3, q4, q5, q6, q7, q8, q9⟩ := held
  have keep1 : ∀ o, sI.heap.get? C = some o → h1.get? C = some o := fun o e => b1 C o (nb' C o e nC)
  refine ⟨m, hn.at' keep1, fun h2 sb => ?_⟩
  have sb : Heap.SameBut C h1 h2 := sb
  have hBC : ∃ o, B.get? C = some o := by
    obtain ⟨o, es, ep, e, _⟩ := hn
    exact ⟨o, nb' C o e nC⟩
  have aC : a ≠ C := fun z => by
    obtain ⟨o, e⟩ := hBC
    rw [← z, b2] at e
    cases e
  have TC : T ≠ C := fun z => by
    obtain ⟨o, e⟩ := hBC
    rw [← z, q5] at e
    cases e
  have hid : ∀ b o, (PySem.W.hideAll B [C]).get? b = some o → b ≠ C ∧ B.get? b = some o := fun b o e => by
    refine ⟨fun z => ?_, PySem.W.of_hideAll _ e⟩
    rw [z, PySem.W.hideAll_none [C] (List.mem_singleton.mpr rfl)] at e
    cases e
  have hidn : ∀ b, B.get? b = none → (PySem.W.hideAll B [C]).get? b = none := fun b e => by
    cases q : (PySem.W.hideAll B [C]).get? b with
    | none => rfl
    | some o =>
      rw [(hid b o q).2] at e
      cases e
  have held2 : HandSPX.HeldZ (PySem.W.hideAll B [C]) (X.env :: X.outer) a (Zc cls d) X.env.locals h2 := by
    refine ⟨fun b o e => ?_, hidn a b2, ?_, oe, vs, T, oT, ts, (sb.2 a aC).trans q1, q2, q3, q4, hidn T q5, q6, (sb.2 T TC).trans q7, q8, q9⟩
    · obtain ⟨z1, z2⟩ := hid b o e
      exact (sb.2 b z1).trans (b1 b o z2)
    · rw [← hs] at b3 ⊢
      refine frames_but b3 (fun L hL => sb.2 L fun z => nC (z ▸ hL)) fun L hL => hidn L ?_
      obtain ⟨e1, e2⟩ := b3.mem hL
      exact e1
  show wpAny _ _ (passOn "comprehension.variables-let-go" (.ref a) (compEnvC scope cl C X.env) : Sem Value) _ _ _
  unfold PySem.passOn
  refine wpAny_bind (wpAny_field ((sb.2 a aC).trans q1) q3 q4 ?_)
  rw [if_neg (show ¬ ((Value.ref T == Value.none) = true) from by simp)]
  show wpAny _ _ (setFlight (.ref a) X.env.frame >>= _) _ _ _
  rw [hf]
  refine wpAny_bind (HandSPX.setFlight_onZ held2 fun h3 held3 up3 => ?_)
  refine wpAny_throw ?_
  obtain ⟨g0, g1, g2, g3, g4, g5⟩ := I3.fpOk (H' := H') hC Ib.free
  have J0 : Inv X pins σ H' sI := I3.call' (ch := fp) Ib.os Ib.base Ib.hok Ib.bare fun b hb => by
    obtain ⟨_, r1, _, r3, r4, r5⟩ := f3 b hb
    exact ⟨r3, r1, r4, r5⟩
  have J := J0.turned (h' := PySem.W.hideAll sI.heap [C]) (t' := sI.toks) (it := C) (fun b o hb e => PySem.W.hideAll_get [C] e (fun z => hb (List.mem_singleton.mp z))) g0 g1 g3 g4 g5
  have hidI : ∀ b o, (PySem.W.hideAll sI.heap [C]).get? b = some o → b ≠ C ∧ sI.heap.get? b = some o := fun b o e => by
    refine ⟨fun z => ?_, PySem.W.of_hideAll _ e⟩
    rw [z, PySem.W.hideAll_none [C] (List.mem_singleton.mpr rfl)] at e
    cases e
  refine tk _ _ ⟨a, PySem.W.hideAll B [C], { sI with heap := PySem.W.hideAll sI.heap [C] }, pins, σ, H', cls, d, rfl, J, fun b o e hb => ?_, fun b o e hn => ?_, .inr (.inr (by rw [hs]; exact held3)), na, os, ag, hW _ _ _ _ w⟩
  · obtain ⟨z1, z2⟩ := hidI b o e
    exact PySem.W.hideAll_get [C] (nb' b o z2 hb) (fun z => z1 (List.mem_singleton.mp z))
  · obtain ⟨z1, z2⟩ := hidI b o e
    obtain ⟨sl, y1⟩ := up b o z2 hn
    obtain ⟨sl1, y2⟩ := up1 b _ y1 hn
    have y3 := (sb.2 b z1).trans y2
    obtain ⟨sl2, y4⟩ := up3 b _ y3 hn
    exact ⟨sl2, y4⟩
end
end VL

namespace VL
open PySem PySem.Spec PyProof.Rows L2
section
variable {X : Cx}
/-- the block's context with its exceptions -/
abbrev blkE (X : Cx) (s : Shared) (H : Hp) (scope : Scope) (ce : Env) (fp : List Addr) (E : Value → Shared → Prop) : Cx := { X.blk s H scope ce fp with xe := E }
def eBX (X : Cx) (scope : Scope) (elt : Expr) (W' : WX) : TE := fun σ H Q => ∀ (s : Shared) (H' : Hp) (C : Addr) (cl : List (Str × Addr)) (fp : List Addr) (E : Value → Shared → Prop), Takes (blkE X s H' scope (compEnvC scope cl C X.env) fp E) W' → wE (blkE X s H' scope (compEnvC scope cl C X.env) fp E) elt σ H Q
theorem pe_lcX {elt iter : Expr} {y : Str} {yp pos : Pos} {iy : Nat} {scope : Scope} {wi : TI} {W W' : WX} (hc : X.calm = true) (hN : X.N.Nodup) (hi : PI X (.Name y yp) iter wi) (ok : BlkOk X.N X.env.scope scope [(y, iy)]) (tk : Takes X W) (hW : ∀ cls d σ σ' H', W' cls d σ' H' → W cls d σ H') (hst : X.stack = X.env :: X.outer) (hfm : X.env.frame = some X.env.locals)
    (hg : ∀ (s : Shared) (H : Hp) (C : Addr) (cl : List (Str × Addr)) (fp : List Addr), PG (X.blk s H scope (compEnvC scope cl C X.env) fp) (.Name y yp) (gName iy))
    (hs : ∀ x, foldedSetIterable iter X.env x = pure x) :
    PE X (.ListComp elt [⟨.Name y yp, iter, [], 0⟩] scope pos) (fun σ H Q => tLc wi (gName iy) tYes (eBX X scope elt W') [iy] σ H Q) := by
  refine ⟨fun pins s σ H Q I hw => ?_⟩
  rw [eval_ListComp]
  have hfree : ∀ z ∈ scope.names, z.2 = .free → ∃ c, X.env.cells.lookup z.1 = some c := fun z hz e => (ok.free z hz e).elim (fun k => I.ok.has _ (.inl k)) fun k => I.ok.has _ (.inr k)
  refine comp_runs rfl hs (closure_ok hfree) ok.kind (fun z hz e => by rw [ok.uniq z hz, e]) ?_
  refine thn (hi.run pins s σ H _ I hw) fun xv s1 h1 => thn h1 fun itv s2 h2 => ?_
  obtain ⟨it, fp, tn, J, H2, rfl, I2, T, t2, f2, hq⟩ := h2
  refine wpAny_newObj_type (newEnv_comp ?_) (Nat.zero_le _)
  obtain ⟨D, eD⟩ : ∃ D, D = s2.heap.objs.size := ⟨_, rfl⟩
  rw [← eD]
  have free : H2 D = none := I2.hok.fresh (by rw [eD]; exact Nat.le_refl _)
  obtain ⟨W0, ⟨m0, w0⟩, step⟩ := hq D free
  obtain ⟨s3, e3⟩ : ∃ s3 : Shared, s3 = { s2 with heap := s2.heap.push { cls := .type "list", data := .seq ([] : List Value).toArray } } := ⟨_, rfl⟩
  have k3 : ∀ b o, s2.heap.get? b = some o → s3.heap.get? b = some o := fun b o e => by rw [e3]; exact Heap.get?_push_of_some _ e
  have I3 : Inv X pins σ (upd H2 D (.lst [])) s3 := by
    rw [e3]
    refine I2.laid (t' := s2.toks) (fun b o e => Heap.get?_push_of_some _ e) (by rw [eD]; exact Nat.le_refl _) ⟨Nat.zero_le _, [], 0, .nil, ?_⟩
    rw [eD]
    exact Heap.get?_push_size _ rfl
  have low : ∀ b ∈ fp, b < s2.heap.objs.size := fun b hb => by
    obtain ⟨o, e, _⟩ := T.obj _ _ t2 b hb
    exact Heap.lt_size e
  have f3 : ∀ b ∈ fp, FpOk X pins (upd H2 D (.lst [])) b := fun b hb => by
    obtain ⟨g0, g⟩ := f2 b hb
    exact ⟨by rw [upd_ne (by rw [eD]; exact Nat.ne_of_lt (low b hb))]; exact g0, g⟩
  have I4 := block_start I3 ok hN fun b hb => ⟨f3 b hb, by rw [e3]; exact Nat.lt_of_lt_of_le (low b hb) (by rw [Heap.size_push]; exact Nat.le_succ _)⟩
  rw [show ({ heap := s2.heap.push { cls := Value.type "list", data := .seq ([] : List Value).toArray }, gens := s2.gens, drawn := s2.drawn, toks := s2.toks, os := s2.os } : Shared) = s3 from e3.symm]
  obtain ⟨cl, ecl⟩ : ∃ cl, cl = cellsFrom (s3.heap.objs.size + 1) scope.names (cloFrom X.env.cells scope.names []) := ⟨_, rfl⟩
  obtain ⟨ce, ec⟩ : ∃ ce, ce = compEnvC scope cl s3.heap.objs.size X.env := ⟨_, rfl⟩
  have eL : ce.locals = s3.heap.objs.size := by rw [ec]; rfl
  have pg := hg s3 (upd H2 D (.lst [])) s3.heap.objs.size cl fp
  obtain ⟨E, eE⟩ : ∃ E, E = notedBy (model X.prog X.w) X.A ce (fun e s' => postX (model X.prog X.w) X.A X.xe (fun v s' => ∃ w' H', Inv X pins σ H' s' ∧ RelV w' v ∧ Q w' H') (.ref D) ce (.error e) s') := ⟨_, rfl⟩
  have tkE : Takes (blkE X s3 (upd H2 D (.lst [])) scope ce fp E) W' := fun u s' x => by
    rw [eE, ec]
    rw [ec] at x
    exact blk_takes tk hst hfm I3 f3 (Nat.le_refl _) (fun cls d σ' H' z => hW cls d σ σ' H' z) x
  have wn : Within X (X.blk s3 (upd H2 D (.lst [])) scope ce fp) pins σ := blk_within I3 f3
  have pe : PE (blkE X s3 (upd H2 D (.lst [])) scope ce fp E) elt (eBX X scope elt W') := ⟨fun pins s σ H Q I h => by
    rw [ec] at tkE I ⊢
    exact pe_w.run pins s σ H Q I (h _ _ _ _ _ _ tkE)⟩
  show codeAny _ _ (.compStart _ 0 (.ref it) (.ref D) (compEnvC scope (cellsFrom (s3.heap.objs.size + 1) scope.names (cloFrom X.env.cells scope.names [])) s3.heap.objs.size X.env)) (postX (model X.prog X.w) X.A X.xe _ (.ref D) (compEnvC scope (cellsFrom (s3.heap.objs.size + 1) scope.names (cloFrom X.env.cells scope.names [])) s3.heap.objs.size X.env)) _
  rw [← ecl, ← ec] at I4 ⊢
  rw [← ec] at pg
  obtain ⟨s4, e4⟩ : ∃ s4 : Shared, s4 = { s3 with heap := pushCells (s3.heap.push { cls := .type "dict", data := .dict #[] }) scope.names } := ⟨_, rfl⟩
  rw [← e4] at I4 ⊢
  have t4 : tn 0 s4.heap := T.keep _ _ _ t2 fun b _ o e => by
    rw [e4]
    exact pushCells_keeps _ _ _ _ (Heap.get?_push_of_some _ (k3 b o e))
  have n4 : ∀ b ∈ fp, upd H2 D (.lst []) b = none := fun b hb => (f3 b hb).1
  have fpb : ∀ {σ' : L2.St} {H' : Hp} {s' : Shared}, Inv (X.blk s3 (upd H2 D (.lst [])) scope ce fp) [] σ' H' s' → (∀ b ∈ fp, H' b = none) → ∀ b ∈ fp, FpOk (X.blk s3 (upd H2 D (.lst [])) scope ce fp) [] H' b := fun {σ' H' s'} J' n' b hb => by
    have z := J'.ok.exf b hb
    exact ⟨n' b hb, z.1, J'.ok.exfs b hb, .inl hb, z.2, fun p hp => nomatch (show p ∈ ([] : List (Addr × Obj)) from hp)⟩
  have loop : codeAny (model X.prog X.w) X.A (.compLoop (.ListComp elt [⟨.Name y yp, iter, [], 0⟩] scope pos) 0 (.ref it) (.ref D) ce) (postX (model X.prog X.w) X.A X.xe (fun v s' => ∃ w' H', Inv X pins σ H' s' ∧ RelV w' v ∧ Q w' H') (.ref D) ce) s4 := by
    refine compLoop_any (fun n s' => ∃ i H', Inv (X.blk s3 (upd H2 D (.lst [])) scope ce fp) [] (wipe σ [iy]) H' s' ∧ tn i s'.heap ∧ (∀ b ∈ fp, H' b = none) ∧ W0 i n H') (fun n s5 h5 => ?_) m0 ⟨0, _, I4, t4, n4, w0⟩
    obtain ⟨i, H5, I5, t5, n5, w5⟩ := h5
    rcases step i n H5 w5 with ⟨stop, fin⟩ | ⟨go, Nx, hNx, turn⟩
    · refine thnF (T.done (X.blk s3 (upd H2 D (.lst [])) scope ce fp) rfl rfl rfl hc i [] s5 _ H5 (fun _ _ => False) I5 (fpb I5 n5) t5 stop) fun r s6 h6 => ?_
      obtain ⟨rfl, I6⟩ := h6
      have I7 := wn.back _ _ _ _ I6
      obtain ⟨m, hn, _⟩ := I6.loc
      have nC : H5 s3.heap.objs.size = none := by rw [← eL]; exact I6.free
      obtain ⟨g0, g1, g2, g3, g4, g5⟩ := I3.fpOk (Nat.le_refl _) nC
      exact ⟨m, hn, fun h'' sb => by
        rw [eL] at sb
        exact ⟨.ref D, H5, I7.turned (t' := s6.toks) (fun b o hb e => (sb.2 b hb).trans e) g0 g1 g3 g4 g5, rfl, fin⟩⟩
    · refine thnF (T.item (X.blk s3 (upd H2 D (.lst [])) scope ce fp) rfl rfl rfl hc i [] s5 _ H5 (fun _ _ => False) I5 (fpb I5 n5) t5 go) fun r s6 h6 => ?_
      obtain ⟨u, rfl, h6⟩ := h6
      refine thnF h6 fun _ s7 h7 => ?_
      obtain ⟨x, H7, I7, r7, y7, t7, n7⟩ := h7
      refine thnF (pg.run _ s7 _ H7 x u _ (I7.pinned (fpb I7 n7) (T.obj _ _ t7)) r7 (turn x H7 y7)) fun _ s8 h8 => ?_
      obtain ⟨σ8, H8, I8, e8, q8⟩ := h8
      refine thnF ((pts_nil (X := X.blk s3 (upd H2 D (.lst [])) scope ce fp)).run _ s8 σ8 H8 _ I8 q8) fun b s9 h9 => ?_
      obtain ⟨H9, I9, q9⟩ := h9
      have close : ∀ {s' : Shared} {H' : Hp}, Inv (X.blk s3 (upd H2 D (.lst [])) scope ce fp) ([] ++ pinsAt fp s7.heap) σ8 H' s' → Nx H' → ∃ m, m < n ∧ ∃ i H', Inv (X.blk s3 (upd H2 D (.lst [])) scope ce fp) [] (wipe σ [iy]) H' s' ∧ tn i s'.heap ∧ (∀ b ∈ fp, H' b = none) ∧ W0 i m H' := fun {s' H'} J' nx => by
        obtain ⟨m', lt, w'⟩ := hNx H' nx
        have stay : ∀ b ∈ fp, ∀ o, s7.heap.get? b = some o → s'.heap.get? b = some o ∧ H' b = none := fun b hb o e => by
          obtain ⟨z1, z2, _⟩ := J'.pin (b, o) (List.mem_append_right _ (List.mem_append_right _ (mem_pinsAt hb e)))
          exact ⟨z1, z2⟩
        refine ⟨m', lt, i + 1, H', (J'.unpinned (pins := [])).weak (by rw [← e8, wipe_length]) (fun j v e => ?_), T.keep _ _ _ t7 fun b hb o e => (stay b hb o e).1, fun b hb => ?_, w'⟩
        · rw [← e8] at e
          exact (wipe_some e).1
        · obtain ⟨o, e, _⟩ := T.obj _ _ t7 b hb
          exact (stay b hb o e).2
      cases b with
      | false => exact close I9 q9
      | true =>
        have r10 := pe.run _ s9 σ8 H9 _ (inv_ex I9) q9
        rw [eE] at r10
        refine wpAny_mono r10 (fun z s10 h10 => ?_) fun _ _ z => z
        obtain ⟨v, H10, I10, r10, acc, a1, a2, nx⟩ := h10
        have I10' : Inv (X.blk s3 (upd H2 D (.lst [])) scope ce fp) ([] ++ pinsAt fp s7.heap) σ8 H10 s10 := inv_xe (X := X.blk s3 (upd H2 D (.lst [])) scope ce fp) I10
        exact app_ok (X := X.blk s3 (upd H2 D (.lst [])) scope ce fp) I10' a1 a2 r10 fun s11 I11 => close I11 nx
  exact codeAny_compStart_list loop (T.self X.A 0 _ _ _ t4 loop)
end
end VL

namespace VL
open PySem PySem.Spec PyProof.Rows L2
section
variable {Γ : Ctx} {Ψ : Exc → Ks → Prop} {ρ : List En} {κ : Ks} {iter elt : Expr} {y : Str} {yp pos : Pos} {iy : Nat} {scope : Scope} {Φ : Rs → Ks → Prop}
theorem Fr.blkE {X : Cx} (f : Fr Γ X) (scope : Scope) (s : Shared) (H' : Hp) (C : Addr) (cl : List (Str × Addr)) (fp : List Addr) (E : Value → Shared → Prop) : Fr (Γ.blk scope) (VL.blkE X s H' scope (compEnvC scope cl C X.env) fp E) := by
  have g := f.blk scope s H' C cl fp
  exact ⟨g.prog, g.w, g.K, g.mg, g.base, g.N, g.sc, g.room, g.fn, g.stk, g.lam⟩
theorem ev_lcX (Inv : List D → Nat → List D → Ks → Prop) (hi : EVI Γ Ψ ρ κ (.Name y yp) iter (fun ds κ' => ds.length ≤ sizeLine ∧ Inv ds 0 [] κ'))
    (turn : ∀ ds i d acc κ', ds[i]? = some d → Inv ds i acc κ' → EVD (Γ.blk scope) Ψ ((wipeE ρ [iy]).set iy (.dat d)) κ' elt (fun z κ2 => Inv ds (i + 1) (acc ++ [z]) κ2))
    (hd : ∀ ds ds' κ', Inv ds ds.length ds' κ' → Φ (.new (.lst ds')) κ') (hb : blkC Γ.N Γ.sc scope [(y, iy)] = true) (hs : ∀ env x, foldedSetIterable iter env x = pure x) (ht : Γ.top = true)
    (hy : Γ.N[iy]? = some y) (hyl : locB (relS scope Γ.sc) false y = true) : EV Γ Ψ ρ κ (.ListComp elt [⟨.Name y yp, iter, [], 0⟩] scope pos) Φ := ⟨fun {X m F0 w0 F ow σ w H} s hk Q q => by
  have ok : BlkOk X.N X.env.scope scope [(y, iy)] := by rw [s.f.N, s.f.sc]; exact blkOk_by hb
  obtain ⟨hst, hfm⟩ := s.f.stk ht
  let W' : WX := fun cls d _ H' => ExcPost m F0 w0 Ψ cls d H'
  obtain ⟨wi, hwi, hq⟩ := hi.run s hk (fun J H1 => ∀ D, H1 D = none → ∃ W : Nat → Nat → Hp → Prop, (∃ m, W 0 m (upd H1 D (.lst []))) ∧ ∀ i m H, W i m H →
    (J.stop i H ∧ Q (.ref D) H) ∨ (J.go i H ∧ ∃ Nx : Hp → Prop, (∀ H', Nx H' → ∃ m', m' < m ∧ W (i + 1) m' H') ∧ ∀ x H', J.yld i H x H' → gName iy x (L2.wipe σ [iy]) H' fun σ2 H2 => L2.wipe σ2 [iy] = L2.wipe σ [iy] ∧ tYes σ2 H2 fun b H3 =>
      if b = true then eBX X scope elt W' σ2 H3 fun y H4 => ∃ acc, H4 D = some (.lst acc) ∧ acc.length < sizeLine ∧ Nx (upd H4 D (.lst (acc ++ [y]))) else Nx H3)) fun ds J w1 H1 p1 e1 s1 it Dl hD => by
    have hFD := s1.freshF hD
    have hF0D : F0 Dl = none := by
      cases z : F0 Dl with
      | none => rfl
      | some u => rw [s.sl.sub Dl u z] at hFD; cases hFD
    let Wp : Nat → Hp → Prop := fun i H => ∃ (vs : List V) (acc : List D) (w' : Wd), acc.length ≤ i ∧ Inv ds i acc w'.κ ∧ w1.le w' ∧ St0 m (upd F Dl (.lst vs)) w' H ∧ RepsW m w' vs acc
    refine ⟨fun i mm H => i + mm = ds.length ∧ Wp i H, ⟨ds.length, by omega, [], [], w1, Nat.le_refl _, p1.2, .refl _, s1.allocF hD, .nil⟩, fun i mm H' hw => ?_⟩
    obtain ⟨hm, vs, acc, w', hacc, hI, e', st', dp'⟩ := hw
    have hsub : ∀ a o, F0 a = some o → upd F Dl (.lst vs) a = some o := fun a o z => by
      rw [upd_ne (fun q => by rw [q, hF0D] at z; cases z)]
      exact s.sl.sub a o z
    have key := it i (upd F Dl (.lst vs)) w' H' e' hsub st'
    by_cases hlt : i < ds.length
    · obtain ⟨go, yl⟩ := key.2 ds[i] (List.getElem?_eq_getElem hlt)
      refine .inr ⟨go, Wp (i + 1), fun H2 n => ⟨mm - 1, by omega, by omega, n⟩, fun x H2 yy => ?_⟩
      obtain ⟨w2, e2, k2, st2, dp⟩ := yl x H2 yy
      have sl0 : Slots m F0 (upd F Dl (.lst vs)) ow (wipeE ρ [iy]) (L2.wipe σ [iy]) w2 := ((s.sl.mono ((e1.trans e').trans e2)).grow hFD).wipe [iy]
      have sl1 := sl0.put (i := iy) (v := x) (en := .dat ds[i]) ⟨_, rfl, dp⟩ (fun _ z => by cases z)
      refine ⟨?_, ?_⟩
      · refine List.ext_getElem? fun j => ?_
        rw [wipe_get, wipe_get, List.length_set, wipe_length]
        by_cases hj : j ∈ [iy] ∧ j < σ.length
        · rw [if_pos hj, if_pos hj]
        · rw [if_neg hj, if_neg hj]
          by_cases hji : iy = j
          · subst hji
            have hlen : ¬ iy < σ.length := fun z => hj ⟨List.mem_singleton.mpr rfl, z⟩
            rw [List.getElem?_eq_none (by rw [List.length_set, wipe_length]; omega), List.getElem?_eq_none (by omega)]
          · rw [List.getElem?_set_ne hji, wipe_get, if_neg hj]
      · unfold tYes
        refine iteT ?_
        intro s' Hs C cl fp E tkE
        have xo : XOk (Γ.blk scope) (VL.blkE X s' Hs scope (compEnvC scope cl C X.env) fp E) m F0 w0 Ψ := ⟨s.x.K, s.x.mg, s.x.T, s.x.nd, s.x.calm, (fun z => Bool.noConfusion z), tkE, fun _ _ _ _ _ z => nomatch z⟩
        refine (turn ds i ds[i] acc w'.κ (List.getElem?_eq_getElem hlt) hI).run (F0 := F0) (w0 := w0) ⟨s.f.blkE scope s' Hs C cl fp E, xo, ((s.s0.trans e1).trans e').trans e2, sl1, st2⟩ k2 _ fun z vz w4 H4 pz e4 st4 dz => ?_
        have hD4 := (st4.fr Dl _ upd_same).1
        refine ⟨vs, hD4, ?_, vs ++ [vz], acc ++ [z], w4, by simp; omega, pz, (e'.trans e2).trans e4, ?_, (dp'.le (e2.trans e4)).app (.cons dz .nil)⟩
        · rw [dp'.len]
          have := p1.1
          omega
        · have z := st4.write (p := Dl) (o := .lst (vs ++ [vz])) upd_same lst_code
          rw [upd_upd] at z
          exact z
    · have hi' : i = ds.length := by omega
      subst hi'
      exact .inl ⟨key.1 (Nat.le_refl _), q _ (.ref Dl) w' H' (hd ds acc _ hI) (e1.trans e') ⟨Dl, .lst vs, rfl, hFD, st', vs, rfl, dp'⟩⟩
  refine ⟨_, pe_lcX (W := fun cls d _ H' => ExcPost m F0 w0 Ψ cls d H') (W' := W') s.x.calm s.x.nd hwi ok s.x.tk (fun _ _ _ _ _ z => z) hst hfm (fun s' H' C cl fp => ?_) (hs _), hq⟩
  have g := s.f.blk scope s' H' C cl fp
  exact pg_name (X := X.blk s' H' scope (compEnvC scope cl C X.env) fp) s.x.nd (g.nth hy) (g.loc hyl).1 (g.loc hyl).2⟩
end
end VL

namespace VL
open PySem PySem.Spec PyProof.Rows L2
/-! ### methods that change an owned list -/
structure EVP (Γ : Ctx) (Ψ : Exc → Ks → Prop) (ρ : List En) (κ : Ks) (e : Expr) (Φ : D → List En → Ks → Prop) : Prop where
  run : ∀ {X : Cx} {m : Pm} {F0 : Hp} {w0 : Wd} {F : Hp} {ow : Nat → Addr} {σ : L2.St} {w : Wd} {H : Hp}, Stt Γ X Ψ ρ m F0 w0 F ow σ w H → w.κ = κ →
    ∀ Q : VK, (∀ d v ρ2 F2 w2 H2, Φ d ρ2 w2.κ → w.le w2 → Slots m F0 F2 ow ρ2 σ w2 → St0 m F2 w2 H2 → RepW m w2 v d → Q v H2) → wE X e σ H Q
section
variable {Γ : Ctx} {Ψ : Exc → Ks → Prop} {ρ : List En} {κ : Ks} {e a : Expr} {pos pos' pp p2 p3 tpos : Pos} {p : Pst} {x y : Str} {i j : Nat} {ds : List D}
theorem RepAll.dropLast {m : Pm} {G : Hp} {A : List Addr} : ∀ {ds : List D} {vs : List V}, RepAll m G A vs ds → RepAll m G A vs.dropLast ds.dropLast := fun {ds vs} h => by
  rw [List.dropLast_eq_take, List.dropLast_eq_take, h.len]
  exact h.take _
theorem RepAll.erase {m : Pm} {G : Hp} {A : List Addr} : ∀ {ds : List D} {vs : List V} (k : Nat), RepAll m G A vs ds → RepAll m G A (vs.eraseIdx k) (ds.eraseIdx k)
  | _, _, _, .nil => .nil
  | _, _, 0, .cons _ r => r
  | _, _, k + 1, .cons h r => .cons h (RepAll.erase k r)
theorem seq_ix {n : Int} {l k : Nat} (h : ixN l n = some k) : seqIndex? n l = some k := by
  unfold ixN at h
  unfold seqIndex?
  by_cases h0 : 0 ≤ n
  · rw [if_pos h0] at h
    split at h
    · cases h
      rw [if_neg (show ¬ n < 0 by omega)]
      simp
      omega
    · cases h
  · rw [if_neg h0] at h
    split at h
    · cases h
      rw [if_pos (show n < 0 by omega)]
      simp
      omega
    · cases h
theorem evp_pop {Φ : D → List En → Ks → Prop} (hx : ρ[i]? = some (.own (.lst ds))) (h : ∃ d, ds.getLast? = some d ∧ Φ d (ρ.set i (.own (.lst ds.dropLast))) κ) (hN : Γ.N[i]? = some x) (hv : visB Γ.sc x = true) (hd : (x == ("__debug__" : Str)) = false) (hcd : (x == ("__classdict__" : Str)) = false) (hline : (p2.endLine == p3.line) = true) :
    EVP Γ Ψ ρ κ (.Call (.Attribute (.Name x pp) "pop" p2) [] [] p3) Φ := ⟨fun {X m F0 w0 F ow σ w H} s k Q q => by
  obtain ⟨g1, ob, g2, vs, rfl, g3⟩ := s.sl.ok i _ hx
  obtain ⟨d, hl, hΦ⟩ := h
  refine ⟨_, pe_bm0 PySem.F.plainAttrs_list PySem.F.slot_list_pop PySem.F.type_list_pop mt_pop (pe_var (s.f.nth hN) (s.f.vis hv) hd hcd) (hline := hline), ?_⟩
  refine ⟨.ref (ow i), g1, .inl ⟨rfl, vs, SqL.of (s.st.fr _ _ g2).1⟩, ?_⟩
  rw [List.getLast?_eq_getElem?] at hl
  obtain ⟨v, hv', dv⟩ := g3.get hl
  rw [← g3.len] at hv'
  refine ⟨ow i, vs, v, rfl, rfl, (s.st.fr _ _ g2).1, hv', ?_⟩
  exact q d v (ρ.set i (.own (.lst ds.dropLast))) (upd F (ow i) (.lst vs.dropLast)) w _ (by rw [k]; exact hΦ) (.refl _) (s.sl.write hx ⟨_, rfl, g3.dropLast⟩) (s.st.write g2 lst_code) dv⟩
theorem evp_popAt {Φ : D → List En → Ks → Prop} (hx : ρ[i]? = some (.own (.lst ds))) (he : EVD Γ Ψ ρ κ e (fun z κ1 => ∃ n k d, z = .int n ∧ -(2 ^ 63) ≤ n ∧ n < 2 ^ 63 ∧ ixN ds.length n = some k ∧ ds[k]? = some d ∧ Φ d (ρ.set i (.own (.lst (ds.eraseIdx k)))) κ1)) (hN : Γ.N[i]? = some x) (hv : visB Γ.sc x = true) (hd : (x == ("__debug__" : Str)) = false) (hcd : (x == ("__classdict__" : Str)) = false) (hs : isStar e = false) (hline : (p2.endLine == p3.line) = true) :
    EVP Γ Ψ ρ κ (.Call (.Attribute (.Name x pp) "pop" p2) [e] [] p3) Φ := ⟨fun {X m F0 w0 F ow σ w H} s k Q q => by
  obtain ⟨g1, ob, g2, vs, rfl, g3⟩ := s.sl.ok i _ hx
  refine ⟨_, pe_bm PySem.F.plainAttrs_list PySem.F.slot_list_pop PySem.F.type_list_pop mt_popAt (pe_var (s.f.nth hN) (s.f.vis hv) hd hcd) (pa_cons pe_w pa_nil (star_cons hs _)) (hfew := few1 hs _ _) (hline := hline) (hs := star_cons hs _), ?_⟩
  refine ⟨.ref (ow i), g1, .inl ⟨rfl, vs, SqL.of (s.st.fr _ _ g2).1⟩, he.run s k _ fun z vz w2 H2 hz e2 s2 d2 => ?_⟩
  obtain ⟨n, kk, d, rfl, h1, h2, h3, h4, hΦ⟩ := hz
  rw [d2.int_inv]
  have g3' := g3.le e2
  obtain ⟨v, hv', dv⟩ := g3'.get h4
  refine ⟨ow i, vs, n, kk, v, rfl, rfl, (s2.fr _ _ g2).1, h1, h2, ?_, hv', ?_⟩
  · rw [g3.len]
    exact seq_ix h3
  exact q d v (ρ.set i (.own (.lst (ds.eraseIdx kk)))) (upd F (ow i) (.lst (vs.eraseIdx kk))) w2 _ hΦ e2 ((s.sl.mono e2).write hx ⟨_, rfl, g3'.erase kk⟩) (s2.write g2 lst_code) dv⟩
/-- tg = e, e a change -/
theorem s1_asgP {t : Tg} {tg : Expr} (he : EVP Γ Ψ ρ κ e (fun d ρ2 κ' => ∃ ρ', tgPut ρ2 t d = some ρ' ∧ p.nx ρ' κ')) (hc : chkTg Γ.N Γ.sc Γ.top t tg = true) (hp : ∃ f as kws ps, e = .Call f as kws ps) : SD1 Γ Ψ ρ κ (.Assign [tg] e pos) p := ⟨fun {X m F0 w0 F ow σ w H} s kk => by
  obtain ⟨f, as, kws, ps, rfl⟩ := hp
  refine ⟨_, ps_asg pe_w pg_w rfl (stores_no rfl _) (by cases tg <;> first | rfl | (cases t <;> cases hc)), he.run s kk _ fun d v ρ2 F2 w2 H2 p2 e2 sl2 s2 d2 => ?_⟩
  obtain ⟨ρ', h1, h2⟩ := p2
  exact (tgt_ok hc h1).run ⟨s.f, s.x, s.s0.trans e2, sl2, s2⟩ v _ d2 fun σ' sl _ => ⟨ρ', F2, ow, w2, h2, s.s0.trans e2, sl, s2⟩⟩
/-- x.append(e), e a change of another -/
theorem s1_appP (he : EVP Γ Ψ ρ κ e (fun d ρ2 κ' => ∃ ds, ρ2[i]? = some (.own (.lst ds)) ∧ ρ[i]? = some (.own (.lst ds)) ∧ ds.length < sizeLine ∧ p.nx (ρ2.set i (.own (.lst (ds ++ [d])))) κ'))
    (hx : ∃ ds, ρ[i]? = some (.own (.lst ds))) (hN : Γ.N[i]? = some x) (hv : visB Γ.sc x = true) (hd : (x == ("__debug__" : Str)) = false) (hcd : (x == ("__classdict__" : Str)) = false) (hs : isStar e = false) (hline : (p2.endLine == pos'.line) = true) : SD1 Γ Ψ ρ κ (.Expr (.Call (.Attribute (.Name x pp) "append" p2) [e] [] pos') pos) p := ⟨fun {X m F0 w0 F ow σ w H} s k => by
  obtain ⟨ds0, hx⟩ := hx
  obtain ⟨g1, ob, g2, vs, rfl, g3⟩ := s.sl.ok i _ hx
  refine ⟨_, ps_expr (pe_bm PySem.F.plainAttrs_list PySem.F.slot_list_append PySem.F.type_list_append mt_append (pe_var (s.f.nth hN) (s.f.vis hv) hd hcd) (pa_cons pe_w pa_nil (star_cons hs _)) (hfew := few1 hs _ _) (hline := hline) (hs := star_cons hs _)) rfl, ?_⟩
  refine ⟨.ref (ow i), g1, .inl ⟨rfl, vs, SqL.of (s.st.fr _ _ g2).1⟩, he.run s k _ fun y v ρ2 F2 w2 H2 p2 e2 sl2 s2 d2 => ?_⟩
  obtain ⟨ds, h1, _, h2, h3⟩ := p2
  obtain ⟨f1, ob2, f2, vs2, rfl, f3⟩ := sl2.ok i _ h1
  refine ⟨ow i, vs2, v, rfl, rfl, (s2.fr _ _ f2).1, by rw [f3.len]; exact h2, ?_⟩
  exact ⟨_, _, ow, w2, h3, s.s0.trans e2, sl2.write h1 ⟨_, rfl, f3.app (.cons d2 .nil)⟩, s2.write f2 lst_code⟩⟩
theorem s1_ext (hx : ρ[i]? = some (.own (.lst ds))) (he : EVD Γ Ψ ρ κ e (fun y κ1 => ∃ zs, y = .list zs ∧ ds.length + zs.length ≤ sizeLine ∧ p.nx (ρ.set i (.own (.lst (ds ++ zs)))) κ1))
    (hN : Γ.N[i]? = some x) (hv : visB Γ.sc x = true) (hd : (x == ("__debug__" : Str)) = false) (hcd : (x == ("__classdict__" : Str)) = false) (hs : isStar e = false) (hline : (p2.endLine == pos'.line) = true) : SD1 Γ Ψ ρ κ (.Expr (.Call (.Attribute (.Name x pp) "extend" p2) [e] [] pos') pos) p := ⟨fun {X m F0 w0 F ow σ w H} s k => by
  obtain ⟨g1, ob, g2, vs, rfl, g3⟩ := s.sl.ok i _ hx
  refine ⟨_, ps_expr (pe_bm PySem.F.plainAttrs_list PySem.F.slot_list_extend PySem.F.type_list_extend mt_extend (pe_var (s.f.nth hN) (s.f.vis hv) hd hcd) (pa_cons pe_w pa_nil (star_cons hs _)) (hfew := few1 hs _ _) (hline := hline) (hs := star_cons hs _)) rfl, ?_⟩
  refine ⟨.ref (ow i), g1, .inl ⟨rfl, vs, SqL.of (s.st.fr _ _ g2).1⟩, he.run s k _ fun y v w2 H2 p2 e2 s2 d2 => ?_⟩
  obtain ⟨zs, rfl, hl, hn⟩ := p2
  obtain ⟨b, us, rfl, h2, h3⟩ := d2.list_inv
  refine ⟨ow i, b, vs, us, rfl, rfl, (s2.fr _ _ g2).1, s2.same _ _ h2, by rw [g3.len, h3.len]; exact hl, ?_⟩
  exact ⟨_, _, ow, w2, hn, s.s0.trans e2, (s.sl.mono e2).write hx ⟨_, rfl, (g3.le e2).app h3⟩, s2.write g2 lst_code⟩⟩
theorem few2 {e f : Expr} (hs : isStar e = false) (hf : isStar f = false) (env : Env) (pos : Pos) : (((backTo pos (starEach [e, f] env)).all fun x => !x.fst) && ((backToKw pos (keywordEach [] env)).all fun x => x.fst.isSome) && decide (([e, f].length + ([] : List Keyword).length + if ([] : List Keyword).isEmpty = true then 0 else 1) < 30)) = true := by
  rw [star_cons hs, star_cons hf]
  rfl
theorem s1_ins (hx : ρ[i]? = some (.own (.lst ds))) (he : EVD Γ Ψ ρ κ a (fun z κ1 => EVD Γ Ψ ρ κ1 e (fun y κ2 => ∃ n : Int, z = .int n ∧ 0 ≤ n ∧ n < 2 ^ 63 ∧ ds.length < sizeLine ∧ p.nx (ρ.set i (.own (.lst (ds.take n.toNat ++ [y] ++ ds.drop n.toNat)))) κ2)))
    (hN : Γ.N[i]? = some x) (hv : visB Γ.sc x = true) (hd : (x == ("__debug__" : Str)) = false) (hcd : (x == ("__classdict__" : Str)) = false) (hsa : isStar a = false) (hs : isStar e = false) (hline : (p2.endLine == pos'.line) = true) : SD1 Γ Ψ ρ κ (.Expr (.Call (.Attribute (.Name x pp) "insert" p2) [a, e] [] pos') pos) p := ⟨fun {X m F0 w0 F ow σ w H} s k => by
  obtain ⟨g1, ob, g2, vs, rfl, g3⟩ := s.sl.ok i _ hx
  refine ⟨_, ps_expr (pe_bm PySem.F.plainAttrs_list PySem.F.slot_list_insert PySem.F.type_list_insert mt_insert (pe_var (s.f.nth hN) (s.f.vis hv) hd hcd) (pa_cons pe_w (pa_cons pe_w pa_nil (star_cons hs _)) (star_cons hsa _)) (hfew := few2 hsa hs _ _) (hline := hline) (hs := star_cons hsa _) (hplain := star_any (by simp [hs]) _ _)) rfl, ?_⟩
  refine ⟨.ref (ow i), g1, .inl ⟨rfl, vs, SqL.of (s.st.fr _ _ g2).1⟩, he.run s k _ fun z vz w1 H1 p1 e1 s1 d1 => p1.run (s.next e1 s1) rfl _ fun y v w2 H2 p2 e2 s2 d2 => ?_⟩
  obtain ⟨n, rfl, h0, h1, hl, hn⟩ := p2
  rw [d1.int_inv]
  have g3' := g3.le (e1.trans e2)
  refine ⟨ow i, vs, n, v, rfl, rfl, (s2.fr _ _ g2).1, by rw [g3.len]; exact hl, h0, h1, ?_⟩
  exact ⟨_, _, ow, w2, hn, (s.s0.trans e1).trans e2, (s.sl.mono (e1.trans e2)).write hx ⟨_, rfl, ((g3'.take n.toNat).app (.cons d2 .nil)).app (g3'.drop n.toNat)⟩, s2.write g2 lst_code⟩⟩
end
end VL

namespace VL
open PySem PySem.Spec PyProof.Rows L2
/-! ### a, b, .. = e, f, ..: some of them new objects -/
inductive NewAt (m : Pm) (w : Wd) (F2 : Hp) : Hp → List V → List Rs → Prop
  | nil : NewAt m w F2 F2 [] []
  | dat {F : Hp} {v : V} {d : D} {vs : List V} {rs : List Rs} : RepW m w v d → NewAt m w F2 F vs rs → NewAt m w F2 F (v :: vs) (.dat d :: rs)
  | new {F : Hp} {p : Addr} {o : HO} {x : Ow} {vs : List V} {rs : List Rs} : F p = none → OwAt m w o x → NewAt m w F2 (upd F p o) vs rs → NewAt m w F2 F (.ref p :: vs) (.new x :: rs)
def parS : L2.St → List Nat → List V → L2.St
  | σ, i :: is, v :: vs => parS (σ.set i (some v)) is vs
  | σ, _, _ => σ
theorem Slots.par {m : Pm} {F0 F2 : Hp} {w : Wd} : ∀ {rs : List Rs} {vs : List V} {is : List Nat} {F : Hp} {ow : Nat → Addr} {ρ : List En} {σ : L2.St}, Slots m F0 F ow ρ σ w → NewAt m w F2 F vs rs → is.length = rs.length → ∃ ow', Slots m F0 F2 ow' (parE ρ is rs) (parS σ is vs) w
  | _, _, [], _, ow, _, _, s, .nil, _ => ⟨ow, s⟩
  | _, _, [], _, _, _, _, _, .dat _ _, h => nomatch h
  | _, _, [], _, _, _, _, _, .new _ _ _, h => nomatch h
  | _, _, _ :: _, _, _, _, _, _, .nil, h => nomatch h
  | _, _, i :: is, _, _, _, _, s, .dat (v := v) h r, hl => Slots.par (is := is) (s.put (i := i) ⟨v, rfl, h⟩ fun _ z => by cases z) r (Nat.succ.inj hl)
  | _, _, i :: is, _, _, _, _, s, .new h1 h2 r, hl => Slots.par (is := is) (s.putOwn (i := i) h1 h2) r (Nat.succ.inj hl)
structure EVN (Γ : Ctx) (Ψ : Exc → Ks → Prop) (ρ : List En) (κ : Ks) (es : List Expr) (Φ : List Rs → Ks → Prop) : Prop where
  run : ∀ {X : Cx} {m : Pm} {F0 : Hp} {w0 : Wd} {F : Hp} {ow : Nat → Addr} {σ : L2.St} {w : Wd} {H : Hp}, Stt Γ X Ψ ρ m F0 w0 F ow σ w H → w.κ = κ →
    ∀ Q : List V → Hp → Prop, (∀ rs vs F2 w2 H2, Φ rs w2.κ → w.le w2 → St0 m F2 w2 H2 → NewAt m w2 F2 F vs rs → Q vs H2) → wA X es σ H Q
section
variable {Γ : Ctx} {Ψ : Exc → Ks → Prop} {ρ : List En} {κ : Ks} {e a b c : Expr} {es : List Expr} {pos px py pz pt pt2 : Pos} {p : Pst} {x y z : Str} {i j l : Nat} {kt k2 : Nat}
theorem evn_nil {Φ : List Rs → Ks → Prop} (h : Φ [] κ) : EVN Γ Ψ ρ κ [] Φ := ⟨fun {X m F0 w0 F ow σ w H} s k Q q => ⟨_, pa_nil, q [] [] F w H (by rw [k]; exact h) (.refl _) s.st .nil⟩⟩
theorem evn_dat {Φ : List Rs → Ks → Prop} (ha : EVD Γ Ψ ρ κ a (fun d κ1 => EVN Γ Ψ ρ κ1 es (fun rs κ2 => Φ (.dat d :: rs) κ2))) (hs : isStar a = false) : EVN Γ Ψ ρ κ (a :: es) Φ := ⟨fun {X m F0 w0 F ow σ w H} s k Q q =>
  ⟨_, pa_cons pe_w pa_w (star_cons hs _), ha.run s k _ fun d v w1 H1 p1 e1 s1 d1 => p1.run (s.next e1 s1) rfl _ fun rs vs F2 w2 H2 p2 e2 s2 n2 => q _ _ F2 w2 H2 p2 (e1.trans e2) s2 (.dat (d1.le e2) n2)⟩⟩
theorem evn_new {Φ : List Rs → Ks → Prop} (ha : EV Γ Ψ ρ κ a (fun r κ1 => ∃ o, r = .new o ∧ EVN Γ Ψ ρ κ1 es (fun rs κ2 => Φ (.new o :: rs) κ2))) (hs : isStar a = false) : EVN Γ Ψ ρ κ (a :: es) Φ := ⟨fun {X m F0 w0 F ow σ w H} s k Q q =>
  ⟨_, pa_cons pe_w pa_w (star_cons hs _), ha.run s k _ fun r v w1 H1 p1 e1 s1 => by
    obtain ⟨o, rfl, hn⟩ := p1
    obtain ⟨pp, ob, rfl, hF, st, oa⟩ := s1
    exact hn.run ⟨s.f, s.x, s.s0.trans e1, (s.sl.mono e1).grow hF, st⟩ rfl _ fun rs vs F2 w2 H2 p2 e2 s2 n2 => q _ _ F2 w2 H2 p2 (e1.trans e2) s2 (.new hF (oa.le e2) n2)⟩⟩
theorem NewAt.len {m : Pm} {w : Wd} {F2 : Hp} : ∀ {F : Hp} {vs : List V} {rs : List Rs}, NewAt m w F2 F vs rs → vs.length = rs.length
  | _, _, _, .nil => rfl
  | _, _, _, .dat _ r => congrArg (· + 1) r.len
  | _, _, _, .new _ _ r => congrArg (· + 1) r.len
theorem s1_parN (ha : EVN Γ Ψ ρ κ [a, b] (fun rs κ' => rs.length = 2 ∧ p.nx (parE ρ [i, j] rs) κ')) (hi : Γ.N[i]? = some x) (hj : Γ.N[j]? = some y) (hij : i ≠ j) (hp : parB Γ.sc x y px py a b = true) :
    SD1 Γ Ψ ρ κ (.Assign [.Tuple [.Name x px, .Name y py] kt pt] (.Tuple [a, b] k2 pt2) pos) p := ⟨fun {X m F0 w0 F ow σ w H} s k => by
  have hp' := hp
  unfold parB at hp'
  simp only [Bool.and_eq_true, decide_eq_true_eq, Bool.not_eq_true'] at hp'
  obtain ⟨h1, h2, h3, h4, h5, h6, h7, h8, h9⟩ := hp'
  refine ⟨_, ps_par s.x.calm s.x.nd (s.f.nth hi) (s.f.nth hj) hij (by rw [s.f.sc]; exact h2) (by rw [s.f.sc]; exact h3) pa_w (par_stores (by rw [s.f.sc]; exact hp)) rfl, ha.run s k _ fun rs vs F2 w2 H2 p2 e2 s2 n2 => ?_⟩
  have hl := n2.len
  rw [p2.1] at hl
  match vs, hl with
  | [u, v], _ =>
    obtain ⟨ow', sl⟩ := (s.sl.mono e2).par (is := [i, j]) n2 (by rw [p2.1]; rfl)
    exact ⟨u, v, rfl, _, F2, ow', w2, p2.2, s.s0.trans e2, sl, s2⟩⟩
def parB3 (sc : Scope) (x y z : Str) (px py pz : Pos) (a b c : Expr) : Bool :=
  decide (sc.kind = .function) && (decide (sc.names.lookup x = some .local) && (decide (sc.names.lookup y = some .local) && (decide (sc.names.lookup z = some .local) && (decide (x ≠ y) && (decide (x ≠ z) && (decide (y ≠ z) && ((py.line == px.line) && ((pz.line == px.line) && (!isStar a && (!isStar b && (!isStar c && (!([a, b, c].all (foldedForSure 8)) && !([a, b, c].all (constantsAlone 8))))))))))))))
theorem par3_stores {env : Env} (h : parB3 env.scope x y z px py pz a b c = true) : swappedStores [.Tuple [.Name x px, .Name y py, .Name z pz] kt pt] (.Tuple [a, b, c] k2 pt2) env = pure (some [x, y, z]) := by
  unfold parB3 at h
  simp only [Bool.and_eq_true, decide_eq_true_eq, Bool.not_eq_true'] at h
  obtain ⟨h1, h2, h3, h3', h4, h4', h4'', h5, h5', h6, h7, h7', h8, h9⟩ := h
  have hbk : env.blockKind = .function := by
    unfold Env.blockKind
    rw [h1]
    rfl
  unfold swappedStores
  dsimp only
  have hst : ∀ f : Expr → Bool, (∀ e, isStar e = false → f e = false) → ([a, b, c].any f) = false := fun f hf => by
    rw [List.any_cons, List.any_cons, List.any_cons, hf a h6, hf b h7, hf c h7']
    rfl
  rw [hbk, hst _ (fun e he => by cases e <;> first | rfl | (cases he; done))]
  have k1 : env.kindOf x = some .local := h2
  have k2 : env.kindOf y = some .local := h3
  have k3 : env.kindOf z = some .local := h3'
  have h5a : py.line = px.line := by simpa using h5
  have h5b : pz.line = px.line := by simpa using h5'
  have nb : ∀ {u v : Str}, ¬ u = v → (u == v) = false := fun {u v} n => by
    cases q : (u == v) with
    | false => rfl
    | true => exact absurd (eq_of_beq q) n
  have e1 := nb (fun q => h4 q.symm)
  have e2 := nb (fun q => h4' q.symm)
  have e3 := nb (fun q => h4'' q.symm)
  simp [k1, k2, k3, h5a, h5b, h8, h9, e1, e2, e3, List.eraseDups, List.eraseDupsBy, List.eraseDupsBy.loop, Expr.pos, List.filterMap_cons]
  first
    | done
    | (intro q; exact absurd rfl q)
theorem s1_parN3 (ha : EVN Γ Ψ ρ κ [a, b, c] (fun rs κ' => rs.length = 3 ∧ p.nx (parE ρ [i, j, l] rs) κ')) (hi : Γ.N[i]? = some x) (hj : Γ.N[j]? = some y) (hl : Γ.N[l]? = some z) (hij : i ≠ j) (hil : i ≠ l) (hjl : j ≠ l) (hp : parB3 Γ.sc x y z px py pz a b c = true) :
    SD1 Γ Ψ ρ κ (.Assign [.Tuple [.Name x px, .Name y py, .Name z pz] kt pt] (.Tuple [a, b, c] k2 pt2) pos) p := ⟨fun {X m F0 w0 F ow σ w H} s k => by
  have hp' := hp
  unfold parB3 at hp'
  simp only [Bool.and_eq_true, decide_eq_true_eq, Bool.not_eq_true'] at hp'
  obtain ⟨h1, h2, h3, h3', _⟩ := hp'
  refine ⟨_, ps_par3 s.x.calm s.x.nd (s.f.nth hi) (s.f.nth hj) (s.f.nth hl) hij hil hjl (by rw [s.f.sc]; exact h2) (by rw [s.f.sc]; exact h3) (by rw [s.f.sc]; exact h3') pa_w (par3_stores (by rw [s.f.sc]; exact hp)) rfl, ha.run s k _ fun rs vs F2 w2 H2 p2 e2 s2 n2 => ?_⟩
  have hl := n2.len
  rw [p2.1] at hl
  match vs, hl with
  | [u, v, r], _ =>
    obtain ⟨ow', sl⟩ := (s.sl.mono e2).par (is := [i, j, l]) n2 (by rw [p2.1]; rfl)
    exact ⟨u, v, r, rfl, _, F2, ow', w2, p2.2, s.s0.trans e2, sl, s2⟩⟩
end
end VL

namespace VL
open PySem PySem.Spec PyProof.Rows L2
/-! ### more walks: reversed, the signs of a text -/
section
variable {Γ : Ctx} {Ψ : Exc → Ks → Prop} {ρ : List En} {κ : Ks} {a b c e tg iter : Expr} {es ts : List Expr} {pos pos' pp p2 p3 tpos : Pos} {p : Pst} {x y : Str} {i j : Nat} {d : D} {ds xs ys : List D} {kk : Nat} {elts : List Expr}
theorem rev_get {α : Type} {l : List α} {i : Nat} {d : α} (h : l.reverse[i]? = some d) : i < l.length ∧ l[l.length - 1 - i]? = some d := by
  by_cases hi : i < l.length
  · rw [List.getElem?_reverse hi] at h
    exact ⟨hi, h⟩
  · rw [List.getElem?_eq_none (by rw [List.length_reverse]; omega)] at h
    cases h
theorem evi_rev {Φ : List D → Ks → Prop} (h : EVF Γ Ψ ρ κ a (fun u κ1 => ∃ ds, (u = .list ds ∨ u = .tuple ds) ∧ Φ ds.reverse κ1)) (hm : Γ.g.mg "reversed" = none) (hg : glB Γ.sc "reversed" = true) (hs : isStar a = false) :
    EVI Γ Ψ ρ κ tg (.Call (.Name "reversed" pp) [a] [] pos) Φ := ⟨fun {X m F0 w0 F ow σ w H} s k R q => ⟨_, RT.pi_revA (s.f.gl hg) (by rw [s.f.mg]; exact hm) pe_w (star_cons hs _), h.run s k _ fun u va w2 H2 p2 e2 s2 d2 => by
  obtain ⟨ds, rfl | rfl, hΦ⟩ := p2
  · obtain ⟨pa, us, rfl, r1, h1⟩ := d2.listF
    refine ⟨pa, us, rfl, .inl ⟨by rw [← s.x.K]; exact h1 _ _ _ (.refl _) s.sl.sub s2, q _ _ w2 H2 hΦ e2 s2 fun i F' w' H' e' hs s' => ?_⟩⟩
    have k1 := h1 _ _ _ e' hs s'
    rw [← s.x.K]
    refine ⟨fun hi => ?_, fun d hd => ?_⟩
    · rw [List.length_reverse] at hi
      show us.length ≤ i
      rw [r1.len]
      exact hi
    · obtain ⟨hi, hd⟩ := rev_get hd
      rw [← r1.len] at hi hd
      obtain ⟨y1, f1, g1⟩ := r1.get hd
      refine ⟨⟨hi, us, y1, k1, f1⟩, fun x H' y => ?_⟩
      obtain ⟨rfl, w1⟩ := y
      have e1 := w1 us k1
      rw [f1] at e1
      cases e1
      exact ⟨w', .refl _, rfl, s', g1.le e'⟩
  · obtain ⟨pa, us, rfl, r1, h1⟩ := d2.tupF
    refine ⟨pa, us, rfl, .inr ⟨by rw [← s.x.K]; exact h1 _ _ _ (.refl _) s.sl.sub s2, q _ _ w2 H2 hΦ e2 s2 fun i F' w' H' e' hs s' => ?_⟩⟩
    have k1 := h1 _ _ _ e' hs s'
    rw [← s.x.K]
    refine ⟨fun hi => ?_, fun d hd => ?_⟩
    · rw [List.length_reverse] at hi
      show us.length ≤ i
      rw [r1.len]
      exact hi
    · obtain ⟨hi, hd⟩ := rev_get hd
      rw [← r1.len] at hi hd
      obtain ⟨y1, f1, g1⟩ := r1.get hd
      refine ⟨⟨hi, us, y1, k1, f1⟩, fun x H' y => ?_⟩
      obtain ⟨rfl, w1⟩ := y
      have e1 := w1 us k1
      rw [f1] at e1
      cases e1
      exact ⟨w', .refl _, rfl, s', g1.le e'⟩⟩⟩
theorem RepR.strF {m : Pm} {F0 : Hp} {w : Wd} {v : V} {z : Str} (h : RepR m F0 w v (.str z)) : v = .str z := h.str_inv
theorem evi_str {Φ : List D → Ks → Prop} (h : EVF Γ Ψ ρ κ iter (fun d κ' => ∃ z, d = .str z ∧ Φ (chrsD z) κ')) : EVI Γ Ψ ρ κ tg iter Φ := ⟨fun {X m F0 w0 F ow σ w H} s k R q => ⟨_, pi_str pe_w, h.run s k _ fun d v w2 H2 p2 e2 s2 d2 => by
  obtain ⟨z, rfl, hΦ⟩ := p2
  refine ⟨z, d2.str_inv, q _ _ w2 H2 hΦ e2 s2 fun i F' w' H' e' hs s' => ⟨fun hi => ?_, fun d hd => ?_⟩⟩
  · unfold chrsD at hi
    rw [List.length_map, Array.length_toList] at hi
    exact hi
  · unfold chrsD at hd
    rw [List.getElem?_map] at hd
    cases q : z.cps.toList[i]? with
    | none => rw [q] at hd; cases hd
    | some c =>
      rw [q] at hd
      cases hd
      have hlt := (List.getElem?_eq_some_iff.mp q).1
      rw [Array.length_toList] at hlt
      refine ⟨hlt, fun x H' y => ?_⟩
      obtain ⟨rfl, c', hc, rfl⟩ := y
      rw [Array.getElem?_toList] at q
      rw [q] at hc
      cases hc
      exact ⟨w', .refl _, rfl, s', .str _⟩⟩⟩
/-! ### list(range(..)), tuple(range(..)) -/
structure EVG (Γ : Ctx) (Ψ : Exc → Ks → Prop) (ρ : List En) (κ : Ks) (e : Expr) (Φ : List D → Ks → Prop) : Prop where
  run : ∀ {X : Cx} {m : Pm} {F0 : Hp} {w0 : Wd} {F : Hp} {ow : Nat → Addr} {σ : L2.St} {w : Wd} {H : Hp}, Stt Γ X Ψ ρ m F0 w0 F ow σ w H → w.κ = κ → ∀ Q : Int → Int → Hp → Prop,
    (∀ i j ds w2 H2, ranS i j = some ds → Φ ds w2.κ → w.le w2 → St0 m F w2 H2 → Q i j H2) → ∃ t, PRg X e t ∧ t σ H Q
theorem evg1 {Φ : List D → Ks → Prop} (h : EVD Γ Ψ ρ κ a (fun d κ' => ∃ i ds, d = .int i ∧ ranS 0 i = some ds ∧ Φ ds κ')) (hm : Γ.g.mg "range" = none) (hg : glB Γ.sc "range" = true) (hs : isStar a = false) :
    EVG Γ Ψ ρ κ (.Call (.Name "range" pp) [a] [] pos) Φ := ⟨fun {X m F0 w0 F ow σ w H} s k Q q => ⟨_, prg_1 (s.f.gl hg) (by rw [s.f.mg]; exact hm) pe_w (star_cons hs _), h.run s k _ fun d v w2 H2 p2 e2 s2 d2 => by
  obtain ⟨i, ds, rfl, hr, hΦ⟩ := p2
  exact ⟨i, d2.int_inv, q 0 i ds w2 H2 hr hΦ e2 s2⟩⟩⟩
theorem evg2 {Φ : List D → Ks → Prop} (h : EVD Γ Ψ ρ κ a (fun d κ1 => EVD Γ Ψ ρ κ1 b (fun d' κ' => ∃ i j ds, d = .int i ∧ d' = .int j ∧ ranS i j = some ds ∧ Φ ds κ'))) (hm : Γ.g.mg "range" = none) (hg : glB Γ.sc "range" = true) (hs : isStar a = false) (hs2 : isStar b = false) :
    EVG Γ Ψ ρ κ (.Call (.Name "range" pp) [a, b] [] pos) Φ := ⟨fun {X m F0 w0 F ow σ w H} s k Q q => ⟨_, prg_2 (s.f.gl hg) (by rw [s.f.mg]; exact hm) pe_w pe_w (star_cons hs _) (star_cons hs2 _) (star_any (by simp [hs2]) _ _), h.run s k _ fun d v w1 H1 p1 e1 s1 d1 => p1.run (s.next e1 s1) rfl _ fun d' v' w2 H2 p2 e2 s2 d2 => by
  obtain ⟨i, j, ds, rfl, rfl, hr, hΦ⟩ := p2
  exact ⟨i, j, d1.int_inv, d2.int_inv, q i j ds w2 H2 hr hΦ (e1.trans e2) s2⟩⟩⟩
theorem rg_rep {m : Pm} {w : Wd} {i j : Int} {ds : List D} (h : ranS i j = some ds) : RepsW m w (rgV i j) ds ∧ (ds.length ≤ 16777216 → RgOk i j) := by
  obtain ⟨rfl, h1, h2, h3, h4⟩ := ran_ok h
  refine ⟨?_, fun hl => ⟨h1, h2, h3, h4, by rw [rangeD_len] at hl; exact hl⟩⟩
  unfold rgV rangeD
  have : ∀ l : List Nat, RepAll m w.G w.A (l.map fun i_1 : Nat => V.int (i + (i_1 : Nat))) (l.map fun i_1 : Nat => D.int (i + i_1)) := fun l => by
    induction l with
    | nil => exact .nil
    | cons n r ih => exact .cons (.int _) ih
  exact this _
theorem ev_listRg {Φ : Rs → Ks → Prop} (h : EVG Γ Ψ ρ κ e (fun ds κ' => ds.length ≤ 16777216 ∧ Φ (.new (.lst ds)) κ')) (hm : Γ.g.mg "list" = none) (hg : glB Γ.sc "list" = true) (hs : isStar e = false) :
    EV Γ Ψ ρ κ (.Call (.Name "list" pp) [e] [] pos) Φ := ⟨fun {X m F0 w0 F ow σ w H} s k Q q => by
  obtain ⟨t, ht, r⟩ := h.run s k (fun a b H1 => RgOk a b ∧ ∀ q, H1 q = none → Q (.ref q) (upd H1 q (.lst (rgV a b)))) fun i j ds w2 H2 hr hΦ e2 s2 => by
    obtain ⟨h1, h2⟩ := rg_rep (m := m) (w := w2) hr
    exact ⟨h2 hΦ.1, fun p hp => q _ _ w2 _ hΦ.2 e2 (new_lst s2 hp h1)⟩
  exact ⟨_, pe_listRg s.x.calm (s.f.gl hg) (by rw [s.f.mg]; exact hm) ht (star_cons hs _), r⟩⟩
theorem ev_tupRg {Φ : Rs → Ks → Prop} (h : EVG Γ Ψ ρ κ e (fun ds κ' => ds.length ≤ 16777216 ∧ Φ (.dat (.tuple ds)) κ')) (hm : Γ.g.mg "tuple" = none) (hg : glB Γ.sc "tuple" = true) (hs : isStar e = false) :
    EV Γ Ψ ρ κ (.Call (.Name "tuple" pp) [e] [] pos) Φ := ⟨fun {X m F0 w0 F ow σ w H} s k Q q => by
  obtain ⟨t, ht, r⟩ := h.run s k (fun a b H1 => RgOk a b ∧ ∀ q, H1 q = none → Q (.ref q) (upd H1 q (.tup (rgV a b)))) fun i j ds w2 H2 hr hΦ e2 s2 => by
    obtain ⟨h1, h2⟩ := rg_rep (m := m) (w := w2) hr
    refine ⟨h2 hΦ.1, fun p hp => ?_⟩
    obtain ⟨le, at_⟩ := new_tup s2 hp h1
    exact q _ _ (w2.addG p (.tup _)) _ hΦ.2 (e2.trans le) at_
  exact ⟨_, pe_tupRg s.x.calm (s.f.gl hg) (by rw [s.f.mg]; exact hm) ht (star_cons hs _), r⟩⟩
end
/-! ### a table of the module -/
def entO (e : DictEntry) : Option (Str × D) := match e.key, e.val with
  | .str x _, .int i _ => some (x, .int i)
  | .str x _, .str z _ => some (x, .str z)
  | _, _ => none
def GlT (g : Gm) (x : Str) (kvs : List (Str × D)) : Prop := ∃ d es n, g.mg x = some (.ref d) ∧ KDict g.K g.w d es n ∧ es.toList.map entO = kvs.map some
theorem entO_inv {e : DictEntry} {x : Str} {d : D} (h : entO e = some (x, d)) : (∃ t, e.key = .str x t) ∧ ∃ v : V, RelV v e.val ∧ ∀ m G A, Rep m G A v d := by
  unfold entO at h
  split at h
  · rename_i x' t i t' h1 h2
    cases h
    exact ⟨⟨t, h1⟩, .int i, ⟨t', h2⟩, fun _ _ _ => .int i⟩
  · rename_i x' t i t' h1 h2
    cases h
    exact ⟨⟨t, h1⟩, .str i, ⟨t', h2⟩, fun _ _ _ => .str i⟩
  · cases h
theorem find_ent : ∀ {l : List DictEntry} {kvs : List (Str × D)} (z : Str), l.map entO = kvs.map some → match kvs.lookup z with
    | some d => ∃ e, l.find? (fun e => Value.isStrOf z e.key) = some e ∧ ∃ v : V, RelV v e.val ∧ ∀ m G A, Rep m G A v d
    | none => l.find? (fun e => Value.isStrOf z e.key) = none
  | [], [], z, _ => rfl
  | [], _ :: _, _, h => by cases h
  | _ :: _, [], _, h => by cases h
  | e :: l, (k, d) :: kvs, z, h => by
    rw [List.map_cons, List.map_cons] at h
    injection h with h1 h2
    obtain ⟨⟨t, hk⟩, v, hv⟩ := entO_inv h1
    have ih := find_ent z h2
    rw [List.lookup_cons, List.find?_cons, hk]
    by_cases hz : z = k
    · subst hz
      rw [beq_self_eq_true]
      have : Value.isStrOf z (Value.str z t) = true := by unfold Value.isStrOf; simp
      rw [this]
      exact ⟨e, rfl, v, hv⟩
    · have n1 : (z == k) = false := by simpa using hz
      have n2 : Value.isStrOf z (Value.str k t) = false := by
        unfold Value.isStrOf
        simpa using fun q : k = z => hz q.symm
      rw [n1, n2]
      exact ih
theorem findBy_ent {es : Array DictEntry} {kvs : List (Str × D)} (z : Str) (h : es.toList.map entO = kvs.map some) : match kvs.lookup z with
    | some d => ∃ u, findBy Value.isStrOf es z = some u ∧ ∃ v : V, RelV v u ∧ ∀ m G A, Rep m G A v d
    | none => findBy Value.isStrOf es z = none := by
  have h1 := find_ent z h
  obtain ⟨l⟩ := es
  unfold findBy
  rw [List.find?_toArray]
  cases q : kvs.lookup z with
  | none =>
    rw [q] at h1
    dsimp only at h1 ⊢
    rw [h1]
    rfl
  | some d =>
    rw [q] at h1
    obtain ⟨e, h2, v, h3⟩ := h1
    dsimp only
    rw [h2]
    exact ⟨_, rfl, v, h3⟩
section
variable {X : Cx} {o e f : Expr} {apos cpos : Pos} {td ty tx : TE} {d : Addr} {es : Array DictEntry} {n : Nat}
def tKGet (d : Addr) (es : Array DictEntry) (td ty tx : TE) : TE := fun σ H Q => td σ H fun x H1 => x = .ref d ∧ ty σ H1 fun y H2 => tx σ H2 fun z H3 => ∃ (k : Str) (v : V), y = .str k ∧ ((∃ u, findBy Value.isStrOf es k = some u ∧ RelV v u) ∨ (findBy Value.isStrOf es k = none ∧ v = z)) ∧ Q v H3
theorem pe_kget (D : KDict X.K X.w d es n) (ho : PE X o td) (he : PE X e ty) (hf : PE X f tx) (m : M2 X o "get" apos e f cpos) : PE X (.Call (.Attribute o "get" apos) [e, f] [] cpos) (tKGet d es td ty tx) := by
  refine ⟨fun pins s σ H Q I h => ?_⟩
  refine wpAny_Call_method m.base m.few m.line PySem.F.plainAttrs_dict PySem.F.slot_dict_get PySem.F.type_dict_get (thn (ho.run pins s σ H _ I h) fun u s1 ⟨x, H1, I1, rx, ex, q1⟩ => ?_)
  subst ex
  obtain rfl : u = Value.ref d := rx
  refine ⟨kd_type D I1, fun b q => ?_, ?_⟩
  · cases q
    exact ⟨_, I1.kIn _ _ D.at_, rfl⟩
  rw [m.trees]
  refine Calls.callWith_builtin rfl (Calls.evalArgs_plain (Calls.spliced_cons (thn (he.run pins s1 σ H1 _ I1 q1) fun iv s2 ⟨y, H2, I2, ry, q2⟩ =>
    Calls.spliced_cons (thn (hf.run pins s2 σ H2 _ I2 q2) fun fv s3 ⟨z, H3, I3, rz, k, v, ey, hv, q3⟩ => Calls.spliced_nil ?_))))
  subst ey
  obtain ⟨t, rfl⟩ := (show ∃ t, iv = Value.str k t from ry)
  refine call_meetsIn PySem.F.slot_dict_get (kd_type D I3) PySem.F.entry_dict_get (PySem.F.args_dict_get_3 _ _ _) (meets_dict_get_default (strKind X.prog X.w) d (strKind_is X.prog X.w k t) D.low fv) ⟨_, PySem.W.mapOf_K (prog := X.prog) I3.kIn D.at_ D.lit, ⟨v, H3, I3.tok _, ?_, q3⟩⟩
  rcases hv with ⟨u, h1, h2⟩ | ⟨h1, rfl⟩
  · rw [h1]
    exact h2
  · rw [h1]
    exact rz
end
section
variable {Γ : Ctx} {Ψ : Exc → Ks → Prop} {ρ : List En} {κ : Ks} {a b c e tg iter tg1 iter1 elt : Expr} {es ts ifs ifs1 : List Expr} {pos pos' pp p2 p3 tpos : Pos} {p : Pst} {x y : Str} {i j : Nat} {d : D} {ds xs ys : List D} {kk : Nat} {elts : List Expr} {scope : Scope} {own : List (Str × Nat)} {vs1 : List Nat}
theorem ev_kget {Φ : Rs → Ks → Prop} {kvs : List (Str × D)} (h : GlT Γ.g x kvs) (he : EVD Γ Ψ ρ κ a (fun k κ1 => EVD Γ Ψ ρ κ1 b (fun z κ2 => ∃ q, k = .str q ∧ Φ (.dat ((kvs.lookup q).getD z)) κ2))) (hg : glB Γ.sc x = true) (hdb : (x == ("__debug__" : Str)) = false) (hs : isStar a = false) (hs2 : isStar b = false) (hline : (p2.endLine == p3.line) = true) :
    EV Γ Ψ ρ κ (.Call (.Attribute (.Name x pp) "get" p2) [a, b] [] p3) Φ := ⟨fun {X m F0 w0 F ow σ w H} s k Q q => by
  obtain ⟨d, es, n, hm, D, hent⟩ := h
  have D' : KDict X.K X.w d es n := by rw [s.f.K, s.f.w]; exact D
  refine ⟨_, pe_kget D' (pe_glob (v := .ref d) (s.f.gl hg) (by rw [s.f.mg]; exact hm) rfl hdb) pe_w pe_w ⟨rfl, few2 hs hs2 _ _, hline, by rw [star_cons hs, star_cons hs2]; rfl⟩, rfl, he.run s k _ fun kd kv w1 H1 p1 e1 s1 d1 => p1.run (s.next e1 s1) rfl _ fun zd zv w2 H2 p2 e2 s2 d2 => ?_⟩
  obtain ⟨qs, rfl, hΦ⟩ := p2
  have fe := findBy_ent qs hent
  cases ql : kvs.lookup qs with
  | none =>
    rw [ql] at fe hΦ
    exact ⟨qs, zv, d1.str_inv, .inr ⟨fe, rfl⟩, q _ _ w2 H2 hΦ (e1.trans e2) ⟨s2, d2⟩⟩
  | some dd =>
    rw [ql] at fe hΦ
    obtain ⟨u, h1, v, h2, h3⟩ := fe
    exact ⟨qs, v, d1.str_inv, .inl ⟨u, h1, h2⟩, q _ _ w2 H2 hΦ (e1.trans e2) ⟨s2, h3 _ _ _⟩⟩⟩
/-! ### comprehensions with two fors -/
def iB (X : Cx) (scope : Scope) (tg iter : Expr) : TI := fun σ H R => ∀ (s : Shared) (H' : Hp) (C : Addr) (cl : List (Str × Addr)) (fp : List Addr), ∃ wi, PI (X.blk s H' scope (compEnvC scope cl C X.env) fp) tg iter wi ∧ wi σ H R
theorem pi_b {X : Cx} : ∀ (s : Shared) (H : Hp) (C : Addr) (cl : List (Str × Addr)) (fp : List Addr), PI (X.blk s H scope (compEnvC scope cl C X.env) fp) tg iter (iB X scope tg iter) := fun s H C cl fp => ⟨fun pins s σ H R I h => by
  obtain ⟨wi, hwi, q⟩ := h _ _ _ _ _
  exact hwi.run pins s σ H R I q⟩
theorem Slots.reF {m : Pm} {F0 F : Hp} {ow : Nat → Addr} {σ : L2.St} {w : Wd} {q : Addr} {o o' : HO} (s : Slots m F0 (upd F q o) ow ρ σ w) (h0 : F0 q = none) (hq : ∀ (i : Nat) (x : Ow), ρ[i]? = some (.own x) → ow i ≠ q) : Slots m F0 (upd F q o') ow ρ σ w := by
  refine ⟨s.len, fun i en hi => ?_, s.inj, fun a u e => ?_, s.new⟩
  · have z := s.ok i en hi
    cases en with
    | un => exact True.intro
    | dat d => exact z
    | ro d => exact z
    | own x =>
      obtain ⟨h1, ob, h2, h3⟩ := z
      have ne := hq i x hi
      rw [upd_ne ne] at h2
      exact ⟨h1, ob, by rw [upd_ne ne]; exact h2, h3⟩
  · have ne : a ≠ q := fun z => by rw [z, h0] at e; cases e
    have := s.sub a u e
    rw [upd_ne ne] at this ⊢
    exact this
theorem wipeE_own {ρ : List En} {i : Nat} {x : Ow} : ∀ {vs : List Nat}, (wipeE ρ vs)[i]? = some (.own x) → ρ[i]? = some (.own x)
  | [], h => h
  | v :: vs, h => by
    unfold wipeE at h
    by_cases e : v = i
    · subst e
      rw [List.getElem?_set] at h
      split at h
      · split at h <;> cases h
      · rename_i ne; exact absurd rfl ne
    · rw [List.getElem?_set_ne e] at h
      exact wipeE_own h
structure Lc2Turn (Γ : Ctx) (ρ : List En) (κ : Ks) (tg tg1 iter1 elt : Expr) (ifs1 : List Expr) (ix ix1 vs1 : List Nat) (d : D) (acc : List D) (next : List D → Ks → Prop) : Prop where
  ex : ∃ (ρ2 : List En) (I1 : List D → Nat → List D → Ks → Prop), TGT Γ NoXK ρ tg d ix ρ2 ∧ (∀ (i : Nat) (x : Ow), ρ2[i]? = some (.own x) → ρ[i]? = some (.own x)) ∧ EVI Γ NoXK ρ2 κ tg1 iter1 (fun ds1 κ' => I1 ds1 0 acc κ') ∧
    (∀ ds1 j e acc κ', ds1[j]? = some e → I1 ds1 j acc κ' → LcTurn Γ (wipeE ρ2 vs1) κ' tg1 elt ifs1 ix1 e (fun κ2 => I1 ds1 (j + 1) acc κ2) (fun y κ2 => acc.length < sizeLine ∧ I1 ds1 (j + 1) (acc ++ [y]) κ2)) ∧
    ∀ ds1 acc κ', I1 ds1 ds1.length acc κ' → next acc κ'
theorem lc2_main (Inv : List D → Nat → List D → Ks → Prop) {ix ix1 : List Nat} (hi : EVI Γ Ψ ρ κ tg iter (fun ds κ' => Inv ds 0 [] κ')) (hix : ∀ i ∈ ix, i ∈ own.map (·.2)) (hix1 : ∀ i ∈ ix1, i ∈ vs1)
    (turn : ∀ ds i d acc κ', ds[i]? = some d → Inv ds i acc κ' → Lc2Turn (Γ.blk scope) (wipeE ρ (own.map (·.2))) κ' tg tg1 iter1 elt ifs1 ix ix1 vs1 d acc (fun acc κ2 => Inv ds (i + 1) acc κ2))
    {X : Cx} {m : Pm} {F0 : Hp} {w0 : Wd} {F : Hp} {ow : Nat → Addr} {σ : L2.St} {w : Wd} {H : Hp} (s : Stt Γ X Ψ ρ m F0 w0 F ow σ w H) (hk : w.κ = κ) (Q : VK)
    (q : ∀ ds' v w2 H2, (∃ ds, Inv ds ds.length ds' w2.κ) → w.le w2 → RsAt m F w2 v H2 (.new (.lst ds')) → Q v H2) :
    ∃ wi, PI X tg iter wi ∧ tLc2 wi (gB X scope tg) (tB' X scope []) (iB X scope tg1 iter1) (gB X scope tg1) (tB' X scope ifs1) (eB X scope elt) (own.map (·.2)) vs1 σ H Q := by
  obtain ⟨wi, hwi, hq⟩ := hi.run s hk (fun J H1 => ∀ D, H1 D = none → ∃ W : Nat → Nat → Hp → Prop, (∃ m, W 0 m (upd H1 D (.lst []))) ∧ ∀ i m H, W i m H →
    (J.stop i H ∧ Q (.ref D) H) ∨ (J.go i H ∧ ∃ Nx : Hp → Prop, (∀ H', Nx H' → ∃ m', m' < m ∧ W (i + 1) m' H') ∧ ∀ x H', J.yld i H x H' → gB X scope tg x (L2.wipe σ (own.map (·.2))) H' fun σ2 H2 => L2.wipe σ2 (own.map (·.2)) = L2.wipe σ (own.map (·.2)) ∧ tB' X scope [] σ2 H2 fun b H3 =>
      if b = true then iB X scope tg1 iter1 σ2 H3 fun J1 H4 => ∃ W1 : Nat → Nat → Hp → Prop, (∃ m, W1 0 m H4) ∧ ∀ j k H, W1 j k H →
        (J1.stop j H ∧ Nx H) ∨ (J1.go j H ∧ ∃ Nx1 : Hp → Prop, (∀ H', Nx1 H' → ∃ k', k' < k ∧ W1 (j + 1) k' H') ∧ ∀ x H', J1.yld j H x H' → gB X scope tg1 x (L2.wipe σ2 vs1) H' fun σ3 H5 => L2.wipe σ3 vs1 = L2.wipe σ2 vs1 ∧ tB' X scope ifs1 σ3 H5 fun b H6 =>
          if b = true then eB X scope elt σ3 H6 fun y H7 => ∃ acc, H7 D = some (.lst acc) ∧ acc.length < sizeLine ∧ Nx1 (upd H7 D (.lst (acc ++ [y]))) else Nx1 H6)
      else Nx H3)) fun ds J w1 H1 p1 e1 s1 it Dl hD => by
    have hFD := s1.freshF hD
    have hF0D : F0 Dl = none := by
      cases z : F0 Dl with
      | none => rfl
      | some u => rw [s.sl.sub Dl u z] at hFD; cases hFD
    let Wp : Nat → Hp → Prop := fun i H => ∃ (vs : List V) (acc : List D) (w' : Wd), Inv ds i acc w'.κ ∧ w1.le w' ∧ St0 m (upd F Dl (.lst vs)) w' H ∧ RepsW m w' vs acc
    refine ⟨fun i mm H => i + mm = ds.length ∧ Wp i H, ⟨ds.length, by omega, [], [], w1, p1, .refl _, s1.allocF hD, .nil⟩, fun i mm H' hw => ?_⟩
    obtain ⟨hm, vs, acc, w', hI, e', st', dp'⟩ := hw
    have hsub : ∀ (vs : List V) a o, F0 a = some o → upd F Dl (.lst vs) a = some o := fun vs a o z => by
      rw [upd_ne (fun q => by rw [q, hF0D] at z; cases z)]
      exact s.sl.sub a o z
    have key := it i (upd F Dl (.lst vs)) w' H' e' (hsub vs) st'
    by_cases hlt : i < ds.length
    · obtain ⟨go, yl⟩ := key.2 ds[i] (List.getElem?_eq_getElem hlt)
      refine .inr ⟨go, Wp (i + 1), fun H2 n => ⟨mm - 1, by omega, by omega, n⟩, fun x H2 y => ?_⟩
      obtain ⟨w2, e2, k2, st2, dp⟩ := yl x H2 y
      have sl0 : Slots m F0 (upd F Dl (.lst vs)) ow (wipeE ρ (own.map (·.2))) (L2.wipe σ (own.map (·.2))) w2 := ((s.sl.mono ((e1.trans e').trans e2)).grow hFD).wipe _
      obtain ⟨ρ2, I1, t, hown, hev, hturn, hnext⟩ := (turn ds i ds[i] acc w'.κ (List.getElem?_eq_getElem hlt) hI).ex
      intro s' Hs C cl fp
      refine t.run (F0 := F0) (w0 := w1) ⟨s.f.blk scope s' Hs C cl fp, s.x.blk F0 w1 scope s' Hs C cl fp, e'.trans e2, sl0, st2⟩ x _ dp fun σ2 sl2 hw => ?_
      refine ⟨by rw [hw _ hix]; exact L2_wipe_wipe σ (own.map (·.2)), ?_⟩
      intro s' Hs C cl fp
      refine ⟨_, pts_nil, ?_⟩
      show iB X scope tg1 iter1 _ _ _
      intro s' Hs C cl fp
      rw [← k2] at hev
      refine hev.run (F0 := F0) (w0 := w1) ⟨s.f.blk scope s' Hs C cl fp, s.x.blk F0 w1 scope s' Hs C cl fp, e'.trans e2, sl2, st2⟩ rfl _ fun ds1 J1 w3 H3 p3 e3 s3 it3 => ?_
      let Wq : Nat → Hp → Prop := fun j H => ∃ (vs : List V) (acc : List D) (w' : Wd), I1 ds1 j acc w'.κ ∧ w3.le w' ∧ St0 m (upd F Dl (.lst vs)) w' H ∧ RepsW m w' vs acc
      refine ⟨fun j mm H => j + mm = ds1.length ∧ Wq j H, ⟨ds1.length, by omega, vs, acc, w3, p3, .refl _, s3, dp'.le (e2.trans e3)⟩, fun j mm H' hw => ?_⟩
      obtain ⟨hm, vs, acc, w', hI, e', st', dp'⟩ := hw
      have w13 : w1.le w3 := (‹w1.le _›.trans e2).trans e3
      have key := it3 j (upd F Dl (.lst vs)) w' H' e' (hsub vs) st'
      by_cases hlt : j < ds1.length
      · obtain ⟨go, yl⟩ := key.2 ds1[j] (List.getElem?_eq_getElem hlt)
        refine .inr ⟨go, Wq (j + 1), fun H2 n => ⟨mm - 1, by omega, by omega, n⟩, fun x H2 y => ?_⟩
        obtain ⟨w4, e4, k4, st4, dp4⟩ := yl x H2 y
        have sl4 : Slots m F0 (upd F Dl (.lst vs)) ow (wipeE ρ2 vs1) (L2.wipe σ2 vs1) w4 := by
          have z := (sl2.mono ((e3.trans e').trans e4)).wipe vs1
          exact z.reF hF0D fun i x hx => s.sl.free_of hFD i x (wipeE_own (hown i x (wipeE_own hx)))
        obtain ⟨ρ3, t3, ht3⟩ := hturn ds1 j ds1[j] acc w'.κ (List.getElem?_eq_getElem hlt) hI
        intro s' Hs C cl fp
        refine t3.run (F0 := F0) (w0 := w3) ⟨s.f.blk scope s' Hs C cl fp, s.x.blk F0 w3 scope s' Hs C cl fp, e'.trans e4, sl4, st4⟩ x _ dp4 fun σ3 sl3 hw3 => ?_
        refine ⟨by rw [hw3 _ hix1]; exact L2_wipe_wipe σ2 vs1, ?_⟩
        intro s' Hs C cl fp
        refine ht3.run (F0 := F0) (w0 := w3) ⟨s.f.blk scope s' Hs C cl fp, s.x.blk F0 w3 scope s' Hs C cl fp, e'.trans e4, sl3, st4⟩ k4 _ fun b w5 H5 pb e5 st5 => ?_
        cases b with
        | false => exact iteF ⟨vs, acc, w5, pb, (e'.trans e4).trans e5, st5, dp'.le (e4.trans e5)⟩
        | true =>
          refine iteT ?_
          intro s' Hs C cl fp
          refine (show EVD (Γ.blk scope) NoXK ρ3 w5.κ elt _ from pb).run (F0 := F0) (w0 := w3) ⟨s.f.blk scope s' Hs C cl fp, s.x.blk F0 w3 scope s' Hs C cl fp, (e'.trans e4).trans e5, sl3.mono e5, st5⟩ rfl _ fun y vy w6 H6 py e6 st6 dy => ?_
          have hD6 := (st6.fr Dl _ upd_same).1
          refine ⟨vs, hD6, ?_, vs ++ [vy], acc ++ [y], w6, py.2, ((e'.trans e4).trans e5).trans e6, ?_, (dp'.le ((e4.trans e5).trans e6)).app (.cons dy .nil)⟩
          · rw [dp'.len]
            exact py.1
          · have z := st6.write (p := Dl) (o := .lst (vs ++ [vy])) upd_same lst_code
            rw [upd_upd] at z
            exact z
      · have hj : j = ds1.length := by omega
        subst hj
        exact .inl ⟨key.1 (Nat.le_refl _), vs, acc, w', hnext ds1 acc _ hI, w13.trans e', st', dp'⟩
    · have hi' : i = ds.length := by omega
      subst hi'
      exact .inl ⟨key.1 (Nat.le_refl _), q acc (.ref Dl) w' H' ⟨ds, hI⟩ (e1.trans e') ⟨Dl, .lst vs, rfl, hFD, st', vs, rfl, dp'⟩⟩
  exact ⟨wi, hwi, hq⟩
theorem ev_lc2 (Inv : List D → Nat → List D → Ks → Prop) {ix ix1 : List Nat} {Φ : Rs → Ks → Prop} (hi : EVI Γ Ψ ρ κ tg iter (fun ds κ' => Inv ds 0 [] κ')) (hix : ∀ i ∈ ix, i ∈ own.map (·.2)) (hix1 : ∀ i ∈ ix1, i ∈ vs1) (hv : ∀ i ∈ vs1, i ∈ own.map (·.2))
    (turn : ∀ ds i d acc κ', ds[i]? = some d → Inv ds i acc κ' → Lc2Turn (Γ.blk scope) (wipeE ρ (own.map (·.2))) κ' tg tg1 iter1 elt ifs1 ix ix1 vs1 d acc (fun acc κ2 => Inv ds (i + 1) acc κ2))
    (hd : ∀ ds ds' κ', Inv ds ds.length ds' κ' → Φ (.new (.lst ds')) κ') (hb : blkC Γ.N Γ.sc scope own = true) (hs : ∀ env x, foldedSetIterable iter env x = pure x) (hs1 : ∀ env x, foldedSetIterable iter1 env x = pure x) : EV Γ Ψ ρ κ (.ListComp elt [⟨tg, iter, [], 0⟩, ⟨tg1, iter1, ifs1, 0⟩] scope pos) Φ := ⟨fun {X m F0 w0 F ow σ w H} s k Q q => by
  obtain ⟨wi, hwi, t⟩ := lc2_main (scope := scope) (own := own) (elt := elt) (ifs1 := ifs1) (vs1 := vs1) Inv hi hix hix1 turn s k Q fun ds' v w2 H2 ⟨ds, h⟩ le at_ => q _ v w2 H2 (hd ds ds' _ h) le at_
  have ok : BlkOk X.N X.env.scope scope own := by rw [s.f.N, s.f.sc]; exact blkOk_by hb
  have pb : ∀ {es : List Expr} (s : Shared) (H : Hp) (C : Addr) (cl : List (Str × Addr)) (fp : List Addr), PTs (X.blk s H scope (compEnvC scope cl C X.env) fp) es (tB' X scope es) := fun s H C cl fp => ⟨fun pins s σ H Q I h => pts_w.run pins s σ H Q I (h _ _ _ _ _)⟩
  exact ⟨_, pe_lc2 s.x.calm s.x.nd hwi ok hv pg_b pb pi_b pg_b pb (fun s H C cl fp => ⟨fun pins s σ H Q I h => pe_w.run pins s σ H Q I (h _ _ _ _ _)⟩) (hs _) hs1, t⟩⟩
end
end VL

namespace VL
open PySem PySem.Spec PyProof.Rows L2

/-! ### the text against the syntax -/
/-- names: defs called by place; with keywords; data; built-ins; exception classes -/
structure Nm where
  fns : List Str
  fks : List (Str × Nat × List Str)
  gls : List Str
  bis : List Str
  xs0 : List Str
  xs1 : List (Str × Str)
  lid : Option Nat
  gds : List Str
mutual
/-- can be asked as a test -/
def tst : Ex → Bool
  | .ite _ _ _ => false
  | .not a => tst a
  | .bop _ es => tsts es
  | _ => true
def tsts : Exs → Bool
  | .nil => true
  | .cons a es => tst a && tsts es
end
def isSlE : Expr → Bool
  | .Slice _ _ _ _ => true
  | _ => false
def isSetE : Expr → Bool
  | .Set _ _ _ => true
  | _ => false
def chkV (N : List Str) (sc : Scope) (i : Nat) (x : Str) : Bool := decide (N[i]? = some x) && (visB sc x && (!(x == ("__debug__" : Str)) && !(x == ("__classdict__" : Str))))
def chkG (sc : Scope) (x : Str) : Bool := glB sc x && !(x == ("__debug__" : Str))
def nost (es : List Expr) : Bool := es.all fun a => !isStar a
def defB (params : Arguments) : Bool := match params with
  | ⟨[], [], none, [], [], none, []⟩ => true
  | _ => false
def isRg : Itx → Bool
  | .rng1 _ => true
  | .rng2 _ _ => true
  | _ => false
mutual
def chkX (nm : Nm) (N : List Str) (sc : Scope) (top lm : Bool) : Ex → Expr → Bool
  | .v i, .Name x _ => chkV N sc i x
  | .bv i, .Name x _ => chkV N sc i x
  | .i n, .Constant (.int m) _ _ => decide (n = m)
  | .b n, .Constant (.bool m) _ _ => decide (n = m)
  | .s n, .Constant (.str m) _ _ => decide (n = m)
  | .non, .Constant .none _ _ => true
  | .gl j, .Name x _ => decide (nm.gls[j]? = some x) && chkG sc x
  | .bin o a b, .BinOp l op r _ => decide (o = op) && (chkX nm N sc top lm a l && chkX nm N sc top lm b r)
  | .neg a, .UnaryOp .USub e _ => chkX nm N sc top lm a e
  | .not a, .UnaryOp .Not e _ => chkX nm N sc top lm a e
  | .cmp o a b, .Compare l [op] [r] _ => decide (o = op) && (!behindInMarks op r && (chkX nm N sc top lm a l && chkX nm N sc top lm b r))
  | .cmp2 o o' a b c, .Compare l [op, op'] [r, r'] _ => decide (o = op) && (decide (o' = op') && (Ord o && (Ord o' && (!lastMarks [op, op'] [r, r'] && (chkX nm N sc top lm a l && (chkX nm N sc top lm b r && chkX nm N sc top lm c r'))))))
  | .bop o es, .BoolOp op vs _ => decide (o = op) && chkXs nm N sc top lm es vs
  | .ite c a b, .IfExp t x y _ => tst c && (chkX nm N sc top lm c t && (chkX nm N sc top lm a x && chkX nm N sc top lm b y))
  | .tup es, .Tuple vs _ _ => nost vs && chkXs nm N sc top lm es vs
  | .lst es, .List vs _ => nost vs && chkXs nm N sc top lm es vs
  | .call j es, .Call (.Name x _) args [] _ => decide (nm.fns[j]? = some x) && (chkG sc x && (nost args && chkXs nm N sc top lm es args))
  | .callK j es, .Call (.Name x _) args kws _ => (match nm.fks[j]? with
    | some (y, n, ks) => decide (y = x) && (decide (args.length = n) && decide (kwNames kws = some ks))
    | none => false) && (chkG sc x && (nost args && (nost (kws.map (·.value)) && chkXs nm N sc top lm es (args ++ kws.map (·.value)))))
  | .bi b es, .Call (.Name x _) args [] _ => match b with
    | .isi t => decide (x = "isinstance") && (nm.bis.contains x && (nm.bis.contains t.nm && (glB sc x && (glB sc t.nm && (match args with
      | [a, .Name y _] => decide (y = t.nm) && (nost [a] && chkXs nm N sc top lm es [a])
      | _ => false)))))
    | .isi2 t t' => decide (x = "isinstance") && (nm.bis.contains x && (nm.bis.contains t.nm && (nm.bis.contains t'.nm && (glB sc x && (glB sc t.nm && (glB sc t'.nm && (match args with
      | [a, .Tuple [.Name y _, .Name y' _] _ _] => decide (y = t.nm) && (decide (y' = t'.nm) && (nost [a] && chkXs nm N sc top lm es [a]))
      | _ => false)))))))
    | b => (match biNm b with
      | some (y, _) => decide (y = x)
      | none => false) && (nm.bis.contains x && (glB sc x && (!args.isEmpty && (nost args && chkXs nm N sc top lm es args))))
  | .ix a b, .Subscript e i _ => !isSlE i && (chkX nm N sc top lm a e && chkX nm N sc top lm b i)
  | .sl a lo hi, .Subscript e (.Slice l u none _) _ => chkX nm N sc top lm a e && (chkOx nm N sc top lm lo l && chkOx nm N sc top lm hi u)
  | .comp own elt tg it cs, .ListComp e [⟨t, iter, ifs, asy⟩] scope _ => decide (asy = 0) && (blkC N sc scope own && (chkTg N (relS scope sc) false tg t && ((tgIx tg).all ((own.map (·.2)).contains ·) && (!isSetE iter && (chkI nm N sc top lm it t iter &&
      (chkX nm N (relS scope sc) false false elt e && (tsts cs && chkXs nm N (relS scope sc) false false cs ifs)))))))
  | .compX y iy elt it, .ListComp e [⟨.Name y' p, iter, [], asy⟩] scope _ => top && (decide (asy = 0) && (decide (y' = y) && (blkC N sc scope [(y, iy)] && (decide (N[iy]? = some y) && (locB (relS scope sc) false y && (!isSetE iter && (chkI nm N sc top lm it (.Name y' p) iter && chkX nm N (relS scope sc) false false elt e)))))))
  | .tried e, .Call (.Name x _) [.Lambda params body scope _] [] _ => decide (x = "_law_tried") && (lm && (glB sc x && (LamX.lamSB sc scope && (defB params && chkX nm N scope false false e body))))
  | .gap, _ => true
  | .lam x t, .Lambda pr bd sc' _ => lm && (decide (nm.lid = some x) && (LamX.lamSB sc sc' && (defB pr && chkX nm N sc' false false t bd)))
  | .acts x i y, .ListComp (.Call (.Name f _) [.Name y1 _] [] _) [⟨.Name y2 _, .Name z _, [], asy⟩] scope _ => decide (asy = 0) && (lm && (decide (nm.lid = some x) && (decide (f = "_law_tried") && (decide (y1 = y2) && (glB (relS scope sc) f && (blkC N sc scope [(y2, y)] && (chkV N sc i z && (chkV N (relS scope sc) y y2 && locB (relS scope sc) false y2))))))))
  | .getG j k d, .Call (.Attribute (.Name x _) at_ p2) [e, e'] [] p3 => decide (at_ = "get") && (decide (nm.gds[j]? = some x) && (chkG sc x && (!isStar e && (!isStar e' && ((p2.endLine == p3.line) && (chkX nm N sc top lm k e && chkX nm N sc top lm d e'))))))
  | .conv t it, .Call (.Name x _) [e] [] _ => decide (x = (if t = true then "tuple" else "list")) && (nm.bis.contains x && (glB sc x && (!isStar e && (isRg it && chkI nm N sc top lm it e e))))
  | .comp2 own vs1 elt tg it tg1 it1 cs, .ListComp e [⟨t, iter, [], asy⟩, ⟨t1, iter1, ifs1, asy1⟩] scope _ => decide (asy = 0) && (decide (asy1 = 0) && (blkC N sc scope own && (chkTg N (relS scope sc) false tg t && ((tgIx tg).all ((own.map (·.2)).contains ·) && (chkTg N (relS scope sc) false tg1 t1 && ((tgIx tg1).all (vs1.contains ·) && (vs1.all ((own.map (·.2)).contains ·) &&
      (!isSetE iter && (!isSetE iter1 && (chkI nm N sc top lm it t iter && (chkI nm N (relS scope sc) false false it1 t1 iter1 && (chkX nm N (relS scope sc) false false elt e && (tsts cs && chkXs nm N (relS scope sc) false false cs ifs1)))))))))))))
  | _, _ => false
def chkXs (nm : Nm) (N : List Str) (sc : Scope) (top lm : Bool) : Exs → List Expr → Bool
  | .nil, [] => true
  | .cons a es, e :: r => chkX nm N sc top lm a e && chkXs nm N sc top lm es r
  | _, _ => false
def chkOx (nm : Nm) (N : List Str) (sc : Scope) (top lm : Bool) : Oex → Option Expr → Bool
  | .no, none => true
  | .so a, some e => chkX nm N sc top lm a e
  | _, _ => false
/-- t: the target of the walk -/
def chkI (nm : Nm) (N : List Str) (sc : Scope) (top lm : Bool) : Itx → Expr → Expr → Bool
  | .seq a, _, e => chkX nm N sc top lm a e
  | .rng1 a, _, .Call (.Name x _) [e] [] _ => decide (x = "range") && (nm.bis.contains x && (glB sc x && (!isStar e && chkX nm N sc top lm a e)))
  | .rng2 a b, _, .Call (.Name x _) [e, e'] [] _ => decide (x = "range") && (nm.bis.contains x && (glB sc x && (!isStar e && (!isStar e' && (chkX nm N sc top lm a e && chkX nm N sc top lm b e')))))
  | .enum a, .Tuple _ _ _, .Call (.Name x _) [e] [] _ => decide (x = "enumerate") && (nm.bis.contains x && (glB sc x && (!isStar e && chkX nm N sc top lm a e)))
  | .zip a b, .Tuple _ _ _, .Call (.Name x _) [e, e'] [] _ => decide (x = "zip") && (nm.bis.contains x && (glB sc x && (!isStar e && (!isStar e' && (chkX nm N sc top lm a e && chkX nm N sc top lm b e')))))
  | .rev a, _, .Call (.Name x _) [e] [] _ => decide (x = "reversed") && (nm.bis.contains x && (glB sc x && (!isStar e && chkX nm N sc top lm a e)))
  | _, _, _ => false
end
end VL

namespace VL
open PySem PySem.Spec PyProof.Rows L2
/-! ### what the evaluator tells is what happens -/
structure Fx (g : Gm) (kf : Nat) (nm : Nm) (E : Ev) : Prop where
  fns : ∀ (j : Nat) (x : Str), nm.fns[j]? = some x → ∃ f, E.fns[j]? = some f ∧ ∃ k, k ≤ kf ∧ CallD g k x f
  fks : ∀ (j : Nat) (x : Str) (n : Nat) (ks : List Str), nm.fks[j]? = some (x, n, ks) → ∃ f, E.fks[j]? = some f ∧ ∃ k, k ≤ kf ∧ CallK g k x n ks f
  gls : ∀ (j : Nat) (x : Str) (d : D), nm.gls[j]? = some x → E.gls[j]? = some d → GlD g x d
  bis : ∀ x : Str, nm.bis.contains x = true → g.mg x = none
  gds : ∀ (j : Nat) (x : Str) (kvs : List (Str × D)), nm.gds[j]? = some x → E.gds[j]? = some kvs → GlT g x kvs
  xs0 : ∀ x : Str, nm.xs0.contains x = true → ∃ k, k + 1 ≤ kf ∧ ExC g k x 0 (fun _ => [("word", .str x)])
  xs1 : ∀ x fl : Str, nm.xs1.contains (x, fl) = true → ∃ k, k + 1 ≤ kf ∧ ExC g k x 1 (fun ws => [(fl, ws.getD 0 .non), ("word", .str x)])
structure Gok (nm : Nm) (kf : Nat) (E : Ev) (Γ : Ctx) : Prop where
  le : kf ≤ Γ.k
  lam : ∀ c P q, Γ.lam = some (c, P, q) → kf + 2 ≤ Γ.k ∧ (P, q) ∈ Γ.g.T ∧ (∀ p ∈ Γ.g.T, p.1 = P → p.2 = q) ∧ Tried Γ.g ∧ TrOk Γ.g E.tr
  act : ∀ c P q x, Γ.lam = some (c, P, q) → nm.lid = some x → Γ.act = some x ∧ (∀ t pr bd sc', LamX.lamSB Γ.sc sc' = true → defB pr = true → chkX nm Γ.N sc' false false t bd = true → Γ.LP t pr bd sc') ∧
    ∀ t pr bd sc', Γ.LP t pr bd sc' → LamX.lamSB Γ.sc sc' = true ∧ defB pr = true ∧ ∀ ρ κ Φ Ψ, (E.lamM t ρ κ).sat Φ Ψ → EV (Γ.lamc sc' kf) Ψ ρ κ bd Φ
theorem Gok.blk {nm : Nm} {kf : Nat} {E : Ev} {Γ : Ctx} (h : Gok nm kf E Γ) (scope : Scope) : Gok nm kf E (Γ.blk scope) := ⟨h.le, fun _ _ _ z => (nomatch z), fun _ _ _ _ z => (nomatch z)⟩
theorem Gok.lamc {nm : Nm} {kf : Nat} {E : Ev} {Γ : Ctx} (scope : Scope) : Gok nm kf E (Γ.lamc scope kf) := ⟨Nat.le_refl _, fun _ _ _ z => (nomatch z), fun _ _ _ _ z => (nomatch z)⟩
abbrev Ck (nm : Nm) (Γ : Ctx) (x : Ex) (e : Expr) : Prop := chkX nm Γ.N Γ.sc Γ.top Γ.lam.isSome x e = true
abbrev Cks (nm : Nm) (Γ : Ctx) (x : Exs) (e : List Expr) : Prop := chkXs nm Γ.N Γ.sc Γ.top Γ.lam.isSome x e = true
section
variable (nm : Nm) (E : Ev) (kf : Nat)
def SX (x : Ex) : Prop := ∀ (Γ : Ctx) (e : Expr), Fx Γ.g kf nm E → Gok nm kf E Γ → Ck nm Γ x e → ∀ (ρ : List En) (κ : Ks) (Φ : Rs → Ks → Prop) (Ψ : Exc → Ks → Prop), (evX E ρ x κ).sat Φ Ψ → EV Γ Ψ ρ κ e Φ
def STt (x : Ex) : Prop := ∀ (Γ : Ctx) (e : Expr), Fx Γ.g kf nm E → Gok nm kf E Γ → Ck nm Γ x e → tst x = true → ∀ (ρ : List En) (κ : Ks) (Φ : Bool → Ks → Prop) (Ψ : Exc → Ks → Prop), (evX E ρ x κ).sat (fun r κ' => ∃ b, r.data = .bool b ∧ Φ b κ') Ψ → EVT Γ Ψ ρ κ e Φ
end
variable {nm : Nm} {E : Ev} {kf : Nat}
theorem sat_dat {α : Type} {m : M Rs} {κ : Ks} {Φ : D → Ks → Prop} {Ψ : Exc → Ks → Prop} : (datR m κ).sat Φ Ψ ↔ (m κ).sat (fun r κ' => Φ r.data κ') Ψ := by
  unfold datR
  rw [sat_bind]
  exact .rfl
theorem SX.d {x : Ex} (h : SX nm E kf x) {Γ : Ctx} {e : Expr} (F : Fx Γ.g kf nm E) (G : Gok nm kf E Γ) (c : Ck nm Γ x e) {ρ : List En} {κ : Ks} {Φ : D → Ks → Prop} {Ψ : Exc → Ks → Prop} (s : (datR (evX E ρ x) κ).sat Φ Ψ) : EVD Γ Ψ ρ κ e Φ :=
  (h Γ e F G c ρ κ _ Ψ ((sat_dat (α := Unit)).mp s)).evd
theorem chkV_ok {N : List Str} {sc : Scope} {i : Nat} {x : Str} (h : chkV N sc i x = true) : N[i]? = some x ∧ visB sc x = true ∧ (x == ("__debug__" : Str)) = false ∧ (x == ("__classdict__" : Str)) = false := by
  unfold chkV at h
  simp only [Bool.and_eq_true, decide_eq_true_eq, Bool.not_eq_true'] at h
  exact h
theorem chkG_ok {sc : Scope} {x : Str} (h : chkG sc x = true) : glB sc x = true ∧ (x == ("__debug__" : Str)) = false := by
  unfold chkG at h
  simp only [Bool.and_eq_true, Bool.not_eq_true'] at h
  exact h
theorem ck_v {Γ : Ctx} {i : Nat} {e : Expr} (h : Ck nm Γ (.v i) e) : ∃ x p, e = .Name x p ∧ chkV Γ.N Γ.sc i x = true := by
  cases e with
  | Name x p => exact ⟨x, p, rfl, h⟩
  | _ => cases h
theorem ck_bv {Γ : Ctx} {i : Nat} {e : Expr} (h : Ck nm Γ (.bv i) e) : ∃ x p, e = .Name x p ∧ chkV Γ.N Γ.sc i x = true := by
  cases e with
  | Name x p => exact ⟨x, p, rfl, h⟩
  | _ => cases h
theorem SX.r {x : Ex} (h : SX nm E kf x) {Γ : Ctx} {e : Expr} (F : Fx Γ.g kf nm E) (G : Gok nm kf E Γ) (c : Ck nm Γ x e) {ρ : List En} {κ : Ks} {Φ : D → Ks → Prop} {Ψ : Exc → Ks → Prop} (s : (rdS ρ x (evX E ρ x) κ).sat Φ Ψ) : EVR Γ Ψ ρ κ e Φ := by
  by_cases hv : ∃ i, x = .v i
  · obtain ⟨i, rfl⟩ := hv
    obtain ⟨y, p, rfl, hc⟩ := ck_v c
    obtain ⟨h1, h2, h3, h4⟩ := chkV_ok hc
    obtain ⟨d, hd, hΦ⟩ := sat_ofO.mp s
    exact evr_var hd hΦ h1 h2 h3 h4
  · have e' : rdS ρ x (evX E ρ x) = datR (evX E ρ x) := by
      cases x <;> first | rfl | exact absurd ⟨_, rfl⟩ hv
    rw [e'] at s
    exact (h.d F G c s).evr
theorem SX.f {x : Ex} (h : SX nm E kf x) {Γ : Ctx} {e : Expr} (F : Fx Γ.g kf nm E) (G : Gok nm kf E Γ) (c : Ck nm Γ x e) {ρ : List En} {κ : Ks} {Φ : D → Ks → Prop} {Ψ : Exc → Ks → Prop} (s : (rdI ρ x (evX E ρ x) κ).sat Φ Ψ) : EVF Γ Ψ ρ κ e Φ := by
  by_cases hv : ∃ i, x = .v i
  · obtain ⟨i, rfl⟩ := hv
    obtain ⟨y, p, rfl, hc⟩ := ck_v c
    obtain ⟨h1, h2, h3, h4⟩ := chkV_ok hc
    obtain ⟨d, hd, hΦ⟩ := sat_ofO.mp s
    refine evf_var (d := d) ?_ hΦ h1 h2 h3 h4
    split at hd
    · rename_i q; cases hd; exact .inl q
    · rename_i q; cases hd; exact .inr q
    · cases hd
  · have e' : rdI ρ x (evX E ρ x) = datR (evX E ρ x) := by
      cases x <;> first | rfl | exact absurd ⟨_, rfl⟩ hv
    rw [e'] at s
    exact (h.d F G c s).evf
theorem stVal {x : Ex} (h : SX nm E kf x) (ho : ∀ (Γ : Ctx) e, Ck nm Γ x e → ownTest e = false) : STt nm E kf x := fun Γ e F G c _ ρ κ Φ Ψ s =>
  evt_val ((h Γ e F G c ρ κ _ Ψ s).evd (Φ := fun d κ' => ∃ b, d = .bool b ∧ Φ b κ')) (ho Γ e c)
/-! ### lists of expressions -/
section
variable (nm : Nm) (E : Ev) (kf : Nat)
structure SS (es : Exs) : Prop where
  l : ∀ (Γ : Ctx) (vs : List Expr), Fx Γ.g kf nm E → Gok nm kf E Γ → Cks nm Γ es vs → nost vs = true → ∀ (ρ : List En) (κ : Ks) (Φ : List En → Ks → Prop) (Ψ : Exc → Ks → Prop), (evL E ρ es κ).sat (fun ds κ' => Φ (ds.map .dat) κ') Ψ → EVA Γ Ψ ρ κ vs Φ
  r : ∀ (Γ : Ctx) (vs : List Expr), Fx Γ.g kf nm E → Gok nm kf E Γ → Cks nm Γ es vs → nost vs = true → ∀ (ρ : List En) (κ : Ks) (Φ : List En → Ks → Prop) (Ψ : Exc → Ks → Prop), (evRs E ρ es κ).sat (fun ds κ' => Φ (ds.map .ro) κ') Ψ → EVA Γ Ψ ρ κ vs Φ
  a : ∀ (Γ : Ctx) (vs : List Expr), Fx Γ.g kf nm E → Gok nm kf E Γ → Cks nm Γ es vs → nost vs = true → ∀ (ρ : List En) (κ : Ks) (Φ : List En → Ks → Prop) (Ψ : Exc → Ks → Prop), (evA E ρ es κ).sat Φ Ψ → EVA Γ Ψ ρ κ vs Φ
  k : ∀ (Γ : Ctx) (kws : List Keyword), Fx Γ.g kf nm E → Gok nm kf E Γ → Cks nm Γ es (kws.map (·.value)) → ∀ (ρ : List En) (κ : Ks) (Φ : List En → Ks → Prop) (Ψ : Exc → Ks → Prop), (evA E ρ es κ).sat Φ Ψ → EVK Γ Ψ ρ κ kws (fun bs κ' => bs.length = kws.length ∧ Φ bs κ')
  ak : ∀ (Γ : Ctx) (vs : List Expr) (kws : List Keyword), Fx Γ.g kf nm E → Gok nm kf E Γ → Cks nm Γ es (vs ++ kws.map (·.value)) → nost vs = true → ∀ (ρ : List En) (κ : Ks) (Φ : List En → Ks → Prop) (Ψ : Exc → Ks → Prop), (evA E ρ es κ).sat Φ Ψ →
    EVA Γ Ψ ρ κ vs (fun as κ1 => as.length = vs.length ∧ EVK Γ Ψ ρ κ1 kws (fun bs κ2 => bs.length = kws.length ∧ Φ (as ++ bs) κ2))
  o : ∀ (o : BoolOp) (pos : Pos) (Γ : Ctx) (vs : List Expr), Fx Γ.g kf nm E → Gok nm kf E Γ → Cks nm Γ es vs → ∀ (ρ : List En) (κ : Ks) (Φ : Rs → Ks → Prop) (Ψ : Exc → Ks → Prop), (evO E ρ o es κ).sat Φ Ψ → EV Γ Ψ ρ κ (.BoolOp o vs pos) Φ
  t : ∀ (o : BoolOp) (pos : Pos) (Γ : Ctx) (vs : List Expr), Fx Γ.g kf nm E → Gok nm kf E Γ → Cks nm Γ es vs → tsts es = true → ∀ (ρ : List En) (κ : Ks) (Φ : Bool → Ks → Prop) (Ψ : Exc → Ks → Prop), (evO E ρ o es κ).sat (fun r κ' => ∃ b, r.data = .bool b ∧ Φ b κ') Ψ → EVW Γ Ψ ρ κ (.BoolOp o vs pos) Φ
  c : ∀ (Γ : Ctx) (vs : List Expr), Fx Γ.g kf nm E → Gok nm kf E Γ → Cks nm Γ es vs → tsts es = true → ∀ (ρ : List En) (κ : Ks) (Φ : Bool → Ks → Prop) (Ψ : Exc → Ks → Prop), (evC E ρ es κ).sat Φ Ψ → EVTs Γ Ψ ρ κ vs Φ
def SO (o : Oex) : Prop := ∀ (Γ : Ctx) (e : Option Expr), Fx Γ.g kf nm E → Gok nm kf E Γ → chkOx nm Γ.N Γ.sc Γ.top Γ.lam.isSome o e = true → ∀ (ρ : List En) (κ : Ks) (Φ : Option Int → Ks → Prop) (Ψ : Exc → Ks → Prop), (evOx E ρ o κ).sat Φ Ψ → EVO Γ Ψ ρ κ e Φ
def SI (it : Itx) : Prop := ∀ (Γ : Ctx) (t e : Expr), Fx Γ.g kf nm E → Gok nm kf E Γ → chkI nm Γ.N Γ.sc Γ.top Γ.lam.isSome it t e = true → ∀ (ρ : List En) (κ : Ks) (Φ : List D → Ks → Prop) (Ψ : Exc → Ks → Prop), (evI E ρ it κ).sat Φ Ψ → EVI Γ Ψ ρ κ t e Φ
end
theorem cks_nil {Γ : Ctx} {vs : List Expr} (h : Cks nm Γ .nil vs) : vs = [] := by
  cases vs with
  | nil => rfl
  | cons _ _ => cases h
theorem cks_cons {Γ : Ctx} {a : Ex} {es : Exs} {vs : List Expr} (h : Cks nm Γ (.cons a es) vs) : ∃ e r, vs = e :: r ∧ Ck nm Γ a e ∧ Cks nm Γ es r := by
  cases vs with
  | nil => cases h
  | cons e r =>
    have h' : (chkX nm Γ.N Γ.sc Γ.top Γ.lam.isSome a e && chkXs nm Γ.N Γ.sc Γ.top Γ.lam.isSome es r) = true := h
    rw [Bool.and_eq_true] at h'
    exact ⟨e, r, rfl, h'.1, h'.2⟩
theorem nost_cons {e : Expr} {r : List Expr} (h : nost (e :: r) = true) : isStar e = false ∧ nost r = true := by
  unfold nost at h
  rw [List.all_cons, Bool.and_eq_true, Bool.not_eq_true'] at h
  exact h
theorem ss_nil : SS nm E kf .nil where
  l := fun Γ vs F G c _ ρ κ Φ Ψ s => by obtain rfl := cks_nil c; exact eva_nil s
  r := fun Γ vs F G c _ ρ κ Φ Ψ s => by obtain rfl := cks_nil c; exact eva_nil s
  a := fun Γ vs F G c _ ρ κ Φ Ψ s => by obtain rfl := cks_nil c; exact eva_nil s
  k := fun Γ kws F G c ρ κ Φ Ψ s => by
    have := cks_nil c
    obtain rfl : kws = [] := by simpa using this
    exact evk_nil ⟨rfl, s⟩
  ak := fun Γ vs kws F G c _ ρ κ Φ Ψ s => by
    have := cks_nil c
    obtain ⟨rfl, h2⟩ := List.append_eq_nil_iff.mp this
    obtain rfl : kws = [] := by simpa using h2
    exact eva_nil ⟨rfl, evk_nil ⟨rfl, s⟩⟩
  o := fun o pos Γ vs F G c ρ κ Φ Ψ s => s.elim
  t := fun o pos Γ vs F G c _ ρ κ Φ Ψ s => s.elim
  c := fun Γ vs F G c _ ρ κ Φ Ψ s => by obtain rfl := cks_nil c; exact evts_nil s
/-- one argument -/
theorem SX.arg {x : Ex} (h : SX nm E kf x) {Γ : Ctx} {e : Expr} {es : List Expr} (F : Fx Γ.g kf nm E) (G : Gok nm kf E Γ) (c : Ck nm Γ x e) {ρ : List En} {κ : Ks} {Φ : List En → Ks → Prop} {Ψ : Exc → Ks → Prop} (hs : isStar e = false) (s : (argS ρ x (evX E ρ x) κ).sat (fun en κ' => EVA Γ Ψ ρ κ' es (fun as κ2 => Φ (en :: as) κ2)) Ψ) : EVA Γ Ψ ρ κ (e :: es) Φ := by
  by_cases hv : ∃ i, x = .bv i
  · obtain ⟨i, rfl⟩ := hv
    obtain ⟨y, p, rfl, hc⟩ := ck_bv c
    obtain ⟨h1, h2, h3, h4⟩ := chkV_ok hc
    obtain ⟨en, hd, hΦ⟩ := sat_ofO.mp s
    cases q : slotR ρ[i]? with
    | none => rw [q] at hd; cases hd
    | some d =>
      rw [q] at hd
      cases hd
      exact eva_consR (evr_var q hΦ h1 h2 h3 h4) rfl
  · have e' : argS ρ x (evX E ρ x) = M.bind (evX E ρ x) fun r => .ret (.dat r.data) := by
      cases x <;> first | rfl | exact absurd ⟨_, rfl⟩ hv
    rw [e', sat_bind] at s
    exact eva_cons (h Γ e F G c ρ κ _ Ψ s).evd hs
theorem SX.karg {x : Ex} (h : SX nm E kf x) {Γ : Ctx} {e : Expr} {n : Option Str} {kp : Pos} {kws : List Keyword} (F : Fx Γ.g kf nm E) (G : Gok nm kf E Γ) (c : Ck nm Γ x e) {ρ : List En} {κ : Ks} {Φ : List En → Ks → Prop} {Ψ : Exc → Ks → Prop} (s : (argS ρ x (evX E ρ x) κ).sat (fun en κ' => EVK Γ Ψ ρ κ' kws (fun as κ2 => Φ (en :: as) κ2)) Ψ) : EVK Γ Ψ ρ κ (⟨n, e, kp⟩ :: kws) Φ := by
  by_cases hv : ∃ i, x = .bv i
  · obtain ⟨i, rfl⟩ := hv
    obtain ⟨y, p, rfl, hc⟩ := ck_bv c
    obtain ⟨h1, h2, h3, h4⟩ := chkV_ok hc
    obtain ⟨en, hd, hΦ⟩ := sat_ofO.mp s
    cases q : slotR ρ[i]? with
    | none => rw [q] at hd; cases hd
    | some d =>
      rw [q] at hd
      cases hd
      exact evk_consR (evr_var q hΦ h1 h2 h3 h4)
  · have e' : argS ρ x (evX E ρ x) = M.bind (evX E ρ x) fun r => .ret (.dat r.data) := by
      cases x <;> first | rfl | exact absurd ⟨_, rfl⟩ hv
    rw [e', sat_bind] at s
    exact evk_cons (h Γ e F G c ρ κ _ Ψ s).evd
theorem sat_asB {d : D} {κ : Ks} {Φ : Bool → Ks → Prop} {Ψ : Exc → Ks → Prop} : (M.ofO (asB d) κ).sat Φ Ψ ↔ ∃ b, d = .bool b ∧ Φ b κ := by
  rw [sat_ofO]
  constructor
  · rintro ⟨b, h, q⟩
    cases d <;> cases h
    exact ⟨_, rfl, q⟩
  · rintro ⟨b, rfl, q⟩
    exact ⟨b, rfl, q⟩
theorem ss_cons {a : Ex} {es : Exs} (ha : SX nm E kf a) (ht : STt nm E kf a) (hs : SS nm E kf es) : SS nm E kf (.cons a es) where
  l := fun Γ vs F G c n ρ κ Φ Ψ s => by
    obtain ⟨e, r, rfl, c1, c2⟩ := cks_cons c
    obtain ⟨n1, n2⟩ := nost_cons n
    rw [evL, sat_bind] at s
    exact eva_cons ((ha.d F G c1 s).imp fun d κ1 h => by
      rw [sat_bind] at h
      exact hs.l Γ r F G c2 n2 ρ κ1 _ Ψ (h.imp (fun ds κ2 q => q) fun _ _ q => q)) n1
  r := fun Γ vs F G c n ρ κ Φ Ψ s => by
    obtain ⟨e, r, rfl, c1, c2⟩ := cks_cons c
    obtain ⟨n1, n2⟩ := nost_cons n
    rw [evRs, sat_bind] at s
    exact eva_consR ((ha.r F G c1 s).imp fun d κ1 h => by
      rw [sat_bind] at h
      exact hs.r Γ r F G c2 n2 ρ κ1 _ Ψ (h.imp (fun ds κ2 q => q) fun _ _ q => q)) n1
  a := fun Γ vs F G c n ρ κ Φ Ψ s => by
    obtain ⟨e, r, rfl, c1, c2⟩ := cks_cons c
    obtain ⟨n1, n2⟩ := nost_cons n
    rw [evA, sat_bind] at s
    exact ha.arg F G c1 n1 (s.imp (fun en κ1 h => by
      rw [sat_bind] at h
      exact hs.a Γ r F G c2 n2 ρ κ1 _ Ψ (h.imp (fun ds κ2 q => q) fun _ _ q => q)) fun _ _ q => q)
  k := fun Γ kws F G c ρ κ Φ Ψ s => by
    cases kws with
    | nil => cases c
    | cons kw kws =>
      obtain ⟨n, v, kp⟩ := kw
      obtain ⟨e, r, he, c1, c2⟩ := cks_cons c
      cases he
      rw [evA, sat_bind] at s
      exact ha.karg F G c1 (s.imp (fun en κ1 h => by
        rw [sat_bind] at h
        have := hs.k Γ kws F G c2 ρ κ1 (fun bs κ2 => Φ (en :: bs) κ2) Ψ (h.imp (fun ds κ2 q => q) fun _ _ q => q)
        exact ⟨fun st kk Q q => this.run st kk Q fun as vs w2 H2 p => q as vs w2 H2 ⟨by simp [p.1], p.2⟩⟩) fun _ _ q => q)
  ak := fun Γ vs kws F G c n ρ κ Φ Ψ s => by
    cases vs with
    | nil =>
      refine eva_nil ⟨rfl, ?_⟩
      cases kws with
      | nil => cases c
      | cons kw kws =>
        obtain ⟨n, v, kp⟩ := kw
        obtain ⟨e, r, he, c1, c2⟩ := cks_cons c
        cases he
        rw [evA, sat_bind] at s
        exact ha.karg F G c1 (s.imp (fun en κ1 h => by
          rw [sat_bind] at h
          have := hs.k Γ kws F G c2 ρ κ1 (fun bs κ2 => Φ (en :: bs) κ2) Ψ (h.imp (fun ds κ2 q => q) fun _ _ q => q)
          exact ⟨fun st kk Q q => this.run st kk Q fun as vs w2 H2 p => q as vs w2 H2 ⟨by simp [p.1], p.2⟩⟩) fun _ _ q => q)
    | cons e0 vs =>
      obtain ⟨e, r, he, c1, c2⟩ := cks_cons c
      cases he
      obtain ⟨n1, n2⟩ := nost_cons n
      rw [evA, sat_bind] at s
      exact ha.arg F G c1 n1 (s.imp (fun en κ1 h => by
        rw [sat_bind] at h
        have := hs.ak Γ vs kws F G c2 n2 ρ κ1 (fun bs κ2 => Φ (en :: bs) κ2) Ψ (h.imp (fun ds κ2 q => q) fun _ _ q => q)
        exact ⟨fun st kk Q q => this.run st kk Q fun as vs w2 H2 p => q as vs w2 H2 ⟨by simp [p.1], p.2⟩⟩) fun _ _ q => q)
  o := fun o pos Γ vs F G c ρ κ Φ Ψ s => by
    obtain ⟨e, r, rfl, c1, c2⟩ := cks_cons c
    cases es with
    | nil =>
      obtain rfl := cks_nil c2
      exact ev_one (ha Γ e F G c1 ρ κ Φ Ψ s)
    | cons b es =>
      obtain ⟨e', r', rfl, _, _⟩ := cks_cons c2
      rw [evO, sat_bind] at s
      · cases o with
        | And =>
          refine ev_and ((ha.d F G c1 s).imp fun d κ1 h => ?_)
          rw [sat_bind, sat_asB] at h
          obtain ⟨k, rfl, h⟩ := h
          refine ⟨k, rfl, ?_⟩
          cases k with
          | true => exact hs.o .And pos Γ _ F G c2 ρ κ1 Φ Ψ h
          | false => exact h
        | Or =>
          refine ev_or ((ha.d F G c1 s).imp fun d κ1 h => ?_)
          rw [sat_bind, sat_asB] at h
          obtain ⟨k, rfl, h⟩ := h
          refine ⟨k, rfl, ?_⟩
          cases k with
          | false => exact hs.o .Or pos Γ _ F G c2 ρ κ1 Φ Ψ h
          | true => exact h
      · intro z; cases z
  t := fun o pos Γ vs F G c n ρ κ Φ Ψ s => by
    obtain ⟨e, r, rfl, c1, c2⟩ := cks_cons c
    have n' : (tst a && tsts es) = true := n
    rw [Bool.and_eq_true] at n'
    cases es with
    | nil =>
      obtain rfl := cks_nil c2
      exact evw_one (ht Γ e F G c1 n'.1 ρ κ Φ Ψ s)
    | cons b es =>
      obtain ⟨e', r', rfl, _, _⟩ := cks_cons c2
      rw [evO, sat_bind] at s
      · cases o with
        | And =>
          refine evw_and ((ht Γ e F G c1 n'.1 ρ κ (fun k κ1 => match k with | true => EVW Γ Ψ ρ κ1 (.BoolOp .And (e' :: r') pos) Φ | false => Φ false κ1) Ψ) (((sat_dat (α := Unit)).mp s).imp (fun r κ1 h => ?_) fun _ _ q => q))
          rw [sat_bind, sat_asB] at h
          obtain ⟨k, hk, h⟩ := h
          refine ⟨k, hk, ?_⟩
          cases k with
          | true => exact hs.t .And pos Γ _ F G c2 n'.2 ρ κ1 Φ Ψ h
          | false =>
            obtain ⟨b, hb, hΦ⟩ := h
            cases hb
            exact hΦ
        | Or =>
          refine evw_or ((ht Γ e F G c1 n'.1 ρ κ (fun k κ1 => match k with | false => EVW Γ Ψ ρ κ1 (.BoolOp .Or (e' :: r') pos) Φ | true => Φ true κ1) Ψ) (((sat_dat (α := Unit)).mp s).imp (fun r κ1 h => ?_) fun _ _ q => q))
          rw [sat_bind, sat_asB] at h
          obtain ⟨k, hk, h⟩ := h
          refine ⟨k, hk, ?_⟩
          cases k with
          | false => exact hs.t .Or pos Γ _ F G c2 n'.2 ρ κ1 Φ Ψ h
          | true =>
            obtain ⟨b, hb, hΦ⟩ := h
            cases hb
            exact hΦ
      · intro z; cases z
  c := fun Γ vs F G c n ρ κ Φ Ψ s => by
    obtain ⟨e, r, rfl, c1, c2⟩ := cks_cons c
    have n' : (tst a && tsts es) = true := n
    rw [Bool.and_eq_true] at n'
    cases es with
    | nil =>
      obtain rfl := cks_nil c2
      refine evts_one (ht Γ e F G c1 n'.1 ρ κ Φ Ψ ?_)
      rw [evC, sat_bind] at s
      refine ((sat_dat (α := Unit)).mp s).imp (fun r κ1 h => ?_) fun _ _ q => q
      rw [sat_asB] at h
      exact h
    | cons b es => exact s.elim
end VL

namespace VL
open PySem PySem.Spec PyProof.Rows L2
variable {nm : Nm} {E : Ev} {kf : Nat}
theorem and2 {a b : Bool} (h : (a && b) = true) : a = true ∧ b = true := Bool.and_eq_true_iff.mp h
theorem not1 {a : Bool} (h : (!a) = true) : a = false := by simpa using h
theorem sx_v (i : Nat) : SX nm E kf (.v i) := fun Γ e F G c ρ κ Φ Ψ s => by
  obtain ⟨y, p, rfl, hc⟩ := ck_v c
  obtain ⟨h1, h2, h3, h4⟩ := chkV_ok hc
  have s' : ((match ρ[i]? with | some (En.dat d) => M.ret (Rs.dat d) | _ => M.fail) κ).sat Φ Ψ := s
  cases q : ρ[i]? with
  | none => rw [q] at s'; exact s'.elim
  | some en =>
    rw [q] at s'
    cases en with
    | dat d => exact ev_var q s' h1 h2 h3 h4
    | _ => exact s'.elim
theorem st_v (i : Nat) : STt nm E kf (.v i) := stVal (sx_v i) fun Γ e c => by obtain ⟨y, p, rfl, hc⟩ := ck_v c; rfl
theorem sx_bv (i : Nat) : SX nm E kf (.bv i) := fun Γ e F G c ρ κ Φ Ψ s => s.elim
theorem st_bv (i : Nat) : STt nm E kf (.bv i) := fun Γ e F G c _ ρ κ Φ Ψ s => s.elim
theorem sx_i (n : Int) : SX nm E kf (.i n) ∧ STt nm E kf (.i n) := by
  have h : SX nm E kf (.i n) := fun Γ e F G c ρ κ Φ Ψ s => by
    cases e with
    | Constant q k p =>
      cases q with
      | int m =>
        obtain rfl := of_decide_eq_true (show decide (n = m) = true from c)
        exact ev_const (fun _ => pe_int) (fun _ _ _ => .int n) s
      | _ => cases c
    | _ => cases c
  exact ⟨h, stVal h fun Γ e c => by cases e <;> first | rfl | cases c⟩
theorem sx_b (n : Bool) : SX nm E kf (.b n) ∧ STt nm E kf (.b n) := by
  have h : SX nm E kf (.b n) := fun Γ e F G c ρ κ Φ Ψ s => by
    cases e with
    | Constant q k p =>
      cases q with
      | bool m =>
        obtain rfl := of_decide_eq_true (show decide (n = m) = true from c)
        exact ev_const (fun _ => pe_bl) (fun _ _ _ => .bl n) s
      | _ => cases c
    | _ => cases c
  exact ⟨h, stVal h fun Γ e c => by cases e <;> first | rfl | cases c⟩
theorem sx_s (n : Str) : SX nm E kf (.s n) ∧ STt nm E kf (.s n) := by
  have h : SX nm E kf (.s n) := fun Γ e F G c ρ κ Φ Ψ s => by
    cases e with
    | Constant q k p =>
      cases q with
      | str m =>
        obtain rfl := of_decide_eq_true (show decide (n = m) = true from c)
        exact ev_const (fun _ => pe_str) (fun _ _ _ => .str n) s
      | _ => cases c
    | _ => cases c
  exact ⟨h, stVal h fun Γ e c => by cases e <;> first | rfl | cases c⟩
theorem sx_non : SX nm E kf .non ∧ STt nm E kf .non := by
  have h : SX nm E kf .non := fun Γ e F G c ρ κ Φ Ψ s => by
    cases e with
    | Constant q k p =>
      cases q with
      | none => exact ev_const (fun _ => pe_non) (fun _ _ _ => .non) s
      | _ => cases c
    | _ => cases c
  exact ⟨h, stVal h fun Γ e c => by cases e <;> first | rfl | cases c⟩
theorem sx_gl (j : Nat) : SX nm E kf (.gl j) ∧ STt nm E kf (.gl j) := by
  have h : SX nm E kf (.gl j) := fun Γ e F G c ρ κ Φ Ψ s => by
    cases e with
    | Name x p =>
      obtain ⟨c1, c2⟩ := and2 (show (decide (nm.gls[j]? = some x) && chkG Γ.sc x) = true from c)
      obtain ⟨c3, c4⟩ := chkG_ok c2
      rw [evX, sat_ofO] at s
      obtain ⟨r, hr, hΦ⟩ := s
      cases q : E.gls[j]? with
      | none => rw [q] at hr; cases hr
      | some d =>
        rw [q] at hr
        cases hr
        exact ev_gl (F.gls j x d (of_decide_eq_true c1) q) hΦ c3 c4
    | _ => cases c
  exact ⟨h, stVal h fun Γ e c => by cases e <;> first | rfl | cases c⟩
theorem sx_bin {a b : Ex} (o : Operator) (ha : SX nm E kf a) (hb : SX nm E kf b) : SX nm E kf (.bin o a b) ∧ STt nm E kf (.bin o a b) := by
  have h : SX nm E kf (.bin o a b) := fun Γ e F G c ρ κ Φ Ψ s => by
    cases e with
    | BinOp l op r p =>
      obtain ⟨c1, c2⟩ := and2 c
      obtain ⟨c2, c3⟩ := and2 c2
      obtain rfl := of_decide_eq_true c1
      rw [evX, sat_bind] at s
      refine ev_op (r := rB Γ.g.K o) (fun X f => by rw [← f.K]; exact op_B o) (ha.r F G c2 s) fun x κ1 h1 => ?_
      rw [sat_bind] at h1
      refine (hb.r F G c3 h1).imp fun y κ2 h2 => ?_
      rw [sat_rd] at h2
      obtain ⟨r, hr, hΦ⟩ := h2
      exact rd_B hr hΦ
    | _ => cases c
  exact ⟨h, stVal h fun Γ e c => by cases e <;> first | rfl | cases c⟩
theorem sx_neg {a : Ex} (ha : SX nm E kf a) : SX nm E kf (.neg a) ∧ STt nm E kf (.neg a) := by
  have h : SX nm E kf (.neg a) := fun Γ e F G c ρ κ Φ Ψ s => by
    cases e with
    | UnaryOp op x p =>
      cases op with
      | USub =>
        rw [evX, sat_bind] at s
        refine ev_neg ((ha.r F G c s).imp fun d κ1 h => ?_)
        cases d with
        | int i => exact ⟨i, rfl, h⟩
        | _ => exact h.elim
      | _ => cases c
    | _ => cases c
  refine ⟨h, stVal h fun Γ e c => ?_⟩
  cases e with
  | UnaryOp op x p => cases op <;> first | rfl | cases c
  | _ => cases c
theorem sx_not {a : Ex} (ha : SX nm E kf a) (ht : STt nm E kf a) : SX nm E kf (.not a) ∧ STt nm E kf (.not a) := by
  refine ⟨fun Γ e F G c ρ κ Φ Ψ s => ?_, fun Γ e F G c n ρ κ Φ Ψ s => ?_⟩
  · cases e with
    | UnaryOp op x p =>
      cases op with
      | Not =>
        rw [evX, sat_bind] at s
        refine ev_not ((ha.d F G c s).imp fun d κ1 h => ?_)
        cases d with
        | bool k => exact ⟨k, rfl, h⟩
        | _ => exact h.elim
      | _ => cases c
    | _ => cases c
  · cases e with
    | UnaryOp op x p =>
      cases op with
      | Not =>
        rw [evX, sat_bind] at s
        refine evt_not (ht Γ x F G c n ρ κ _ Ψ (((sat_dat (α := Unit)).mp s).imp (fun r κ1 h => ?_) fun _ _ q => q))
        cases q : r.data with
        | bool k =>
          rw [q] at h
          obtain ⟨b, hb, hΦ⟩ := (show ∃ b, (Rs.dat (.bool (!k))).data = .bool b ∧ Φ b κ1 from h)
          cases hb
          exact ⟨k, rfl, hΦ⟩
        | _ => rw [q] at h; exact h.elim
      | _ => cases c
    | _ => cases c
theorem sx_cmp {a b : Ex} (o : CmpOp) (ha : SX nm E kf a) (hb : SX nm E kf b) : SX nm E kf (.cmp o a b) ∧ STt nm E kf (.cmp o a b) := by
  have key : ∀ (Γ : Ctx) e, Ck nm Γ (.cmp o a b) e → ∃ l r p, e = .Compare l [o] [r] p ∧ behindInMarks o r = false ∧ Ck nm Γ a l ∧ Ck nm Γ b r := fun Γ e c => by
    cases e with
    | Compare l ops cs p =>
      match ops, cs, c with
      | [op], [r], c =>
        obtain ⟨c1, c2⟩ := and2 c
        obtain ⟨c2, c3⟩ := and2 c2
        obtain ⟨c3, c4⟩ := and2 c3
        obtain rfl := of_decide_eq_true c1
        exact ⟨l, r, p, rfl, not1 c2, c3, c4⟩
      | [], _, c => cases c
      | [_], [], c => cases c
      | [_], _ :: _ :: _, c => cases c
      | _ :: _ :: _, _, c => cases c
    | _ => cases c
  refine ⟨fun Γ e F G c ρ κ Φ Ψ s => ?_, fun Γ e F G c n ρ κ Φ Ψ s => ?_⟩
  · obtain ⟨l, r, p, rfl, hm, c1, c2⟩ := key Γ e c
    rw [evX, sat_bind] at s
    refine ev_cmp (r := rC Γ.g.K o) (fun X f => by rw [← f.K]; exact op_C f o) hm (ha.r F G c1 s) fun x κ1 h1 => ?_
    rw [sat_bind] at h1
    refine (hb.r F G c2 h1).imp fun y κ2 h2 => ?_
    rw [sat_rd] at h2
    obtain ⟨r, hr, hΦ⟩ := h2
    cases q : cmpD o κ2 x y with
    | none => rw [q] at hr; cases hr
    | some k =>
      rw [q] at hr
      cases hr
      exact rd_C q hΦ
  · obtain ⟨l, r, p, rfl, hm, c1, c2⟩ := key Γ e c
    rw [evX, sat_bind] at s
    refine evt_cmp (r := rC Γ.g.K o) (fun X f => by rw [← f.K]; exact op_C f o) hm (ha.r F G c1 s) fun x κ1 h1 => ?_
    rw [sat_bind] at h1
    refine (hb.r F G c2 h1).imp fun y κ2 h2 => ?_
    rw [sat_rd] at h2
    obtain ⟨r, hr, b, hb', hΦ⟩ := h2
    cases q : cmpD o κ2 x y with
    | none => rw [q] at hr; cases hr
    | some k =>
      rw [q] at hr
      cases hr
      cases hb'
      exact rd_C q ⟨_, rfl, hΦ⟩
theorem sx_cmp2 {a b c' : Ex} (o o' : CmpOp) (ha : SX nm E kf a) (hb : SX nm E kf b) (hc : SX nm E kf c') : SX nm E kf (.cmp2 o o' a b c') ∧ STt nm E kf (.cmp2 o o' a b c') := by
  have key : ∀ (Γ : Ctx) e, Ck nm Γ (.cmp2 o o' a b c') e → ∃ l r r' p, e = .Compare l [o, o'] [r, r'] p ∧ Ord o = true ∧ Ord o' = true ∧ lastMarks [o, o'] [r, r'] = false ∧ Ck nm Γ a l ∧ Ck nm Γ b r ∧ Ck nm Γ c' r' := fun Γ e c => by
    cases e with
    | Compare l ops cs p =>
      match ops, cs, c with
      | [op, op'], [r, r'], c =>
        obtain ⟨c1, c⟩ := and2 c
        obtain ⟨c2, c⟩ := and2 c
        obtain ⟨c3, c⟩ := and2 c
        obtain ⟨c4, c⟩ := and2 c
        obtain ⟨c5, c⟩ := and2 c
        obtain ⟨c6, c⟩ := and2 c
        obtain ⟨c7, c8⟩ := and2 c
        obtain rfl := of_decide_eq_true c1
        obtain rfl := of_decide_eq_true c2
        exact ⟨l, r, r', p, rfl, c3, c4, not1 c5, c6, c7, c8⟩
      | [], _, c => cases c
      | [_], _, c => cases c
      | [_, _], [], c => cases c
      | [_, _], [_], c => cases c
      | [_, _], _ :: _ :: _ :: _, c => cases c
      | _ :: _ :: _ :: _, _, c => cases c
    | _ => cases c
  have chain : ∀ {Γ : Ctx} {l r r' : Expr} {ρ : List En} {κ : Ks} {Φ : Bool → Ks → Prop} {Ψ : Exc → Ks → Prop}, Fx Γ.g kf nm E → Gok nm kf E Γ → Ck nm Γ a l → Ck nm Γ b r → Ck nm Γ c' r' → (evX E ρ (.cmp2 o o' a b c') κ).sat (fun z κ' => ∃ k, z.data = .bool k ∧ Φ k κ') Ψ → EVR Γ Ψ ρ κ l (fun x κ1 => EVR Γ Ψ ρ κ1 r (fun y κ2 => ChainK Γ Ψ ρ o o' r' Φ x y κ2)) := fun {Γ l r r' ρ κ Φ Ψ} F G c1 c2 c3 s => by
    rw [evX, sat_bind] at s
    refine (ha.r F G c1 s).imp fun x κ1 h1 => ?_
    rw [sat_bind] at h1
    refine (hb.r F G c2 h1).imp fun y κ2 h2 => ?_
    split at h2
    · rename_i i j
      rw [sat_bind, sat_ofO] at h2
      obtain ⟨k, hk, h2⟩ := h2
      refine ⟨i, j, k, rfl, rfl, hk, ?_⟩
      cases k with
      | true =>
        rw [if_pos rfl] at h2 ⊢
        rw [sat_bind] at h2
        refine (hc.r F G c3 h2).imp fun z κ3 h3 => ?_
        cases z with
        | int l =>
          obtain ⟨r, hr, k', hk', hΦ⟩ := sat_ofO.mp h3
          cases q : cmpI o' j l with
          | none => rw [q] at hr; cases hr
          | some kk =>
            rw [q] at hr
            cases hr
            cases hk'
            exact ⟨l, _, rfl, q, hΦ⟩
        | _ => exact h3.elim
      | false =>
        rw [if_neg Bool.false_ne_true] at h2 ⊢
        obtain ⟨k', hk', hΦ⟩ := h2
        cases hk'
        exact hΦ
    · exact h2.elim
  refine ⟨fun Γ e F G c ρ κ Φ Ψ s => ?_, fun Γ e F G c n ρ κ Φ Ψ s => ?_⟩
  · obtain ⟨l, r, r', p, rfl, o1, o2, hm, c1, c2, c3⟩ := key Γ e c
    refine (ev_chain (Φ := fun k κ' => Φ (.dat (.bool k)) κ') o1 o2 (chain F G c1 c2 c3 ?_) hm).imp fun r κ' ⟨k, h1, h2⟩ => by rw [h1]; exact h2
    rw [evX, sat_bind] at s ⊢
    refine s.imp (fun x κ1 h1 => ?_) fun _ _ q => q
    rw [sat_bind] at h1 ⊢
    refine h1.imp (fun y κ2 h2 => ?_) fun _ _ q => q
    split at h2
    · rename_i i j
      rw [sat_bind, sat_ofO] at h2 ⊢
      obtain ⟨k, hk, h2⟩ := h2
      refine ⟨k, hk, ?_⟩
      cases k with
      | true =>
        rw [if_pos rfl] at h2 ⊢
        rw [sat_bind] at h2 ⊢
        refine h2.imp (fun z κ3 h3 => ?_) fun _ _ q => q
        cases z with
        | int l =>
          obtain ⟨r, hr, hΦ⟩ := sat_ofO.mp h3
          refine sat_ofO.mpr ⟨r, hr, ?_⟩
          cases q : cmpI o' j l with
          | none => rw [q] at hr; cases hr
          | some kk =>
            rw [q] at hr
            cases hr
            exact ⟨kk, rfl, hΦ⟩
        | _ => exact h3.elim
      | false =>
        rw [if_neg Bool.false_ne_true] at h2 ⊢
        exact ⟨false, rfl, h2⟩
    · exact h2.elim
  · obtain ⟨l, r, r', p, rfl, o1, o2, hm, c1, c2, c3⟩ := key Γ e c
    exact evt_chain o1 o2 (chain F G c1 c2 c3 s) hm
theorem sx_bop {es : Exs} (o : BoolOp) (hs : SS nm E kf es) : SX nm E kf (.bop o es) ∧ STt nm E kf (.bop o es) := by
  refine ⟨fun Γ e F G c ρ κ Φ Ψ s => ?_, fun Γ e F G c n ρ κ Φ Ψ s => ?_⟩
  · cases e with
    | BoolOp op vs p =>
      obtain ⟨c1, c2⟩ := and2 c
      obtain rfl := of_decide_eq_true c1
      rw [evX] at s
      exact hs.o o p Γ vs F G c2 ρ κ Φ Ψ s
    | _ => cases c
  · cases e with
    | BoolOp op vs p =>
      obtain ⟨c1, c2⟩ := and2 c
      obtain rfl := of_decide_eq_true c1
      rw [evX] at s
      exact (hs.t o p Γ vs F G c2 n ρ κ Φ Ψ s).evt
    | _ => cases c
theorem sx_ite {c' a b : Ex} (hc : STt nm E kf c') (ha : SX nm E kf a) (hb : SX nm E kf b) : SX nm E kf (.ite c' a b) ∧ STt nm E kf (.ite c' a b) := by
  refine ⟨fun Γ e F G c ρ κ Φ Ψ s => ?_, fun Γ e F G c n ρ κ Φ Ψ s => by cases n⟩
  cases e with
  | IfExp t x y p =>
    obtain ⟨c1, c⟩ := and2 c
    obtain ⟨c2, c⟩ := and2 c
    obtain ⟨c3, c4⟩ := and2 c
    rw [evX, sat_bind] at s
    refine ev_if (hc Γ t F G c2 c1 ρ κ _ Ψ (((sat_dat (α := Unit)).mp s).imp (fun r κ1 h => ?_) fun _ _ q => q))
    rw [sat_bind, sat_asB] at h
    obtain ⟨k, hk, h⟩ := h
    refine ⟨k, hk, ?_⟩
    cases k with
    | true => exact ha Γ x F G c3 ρ κ1 Φ Ψ h
    | false => exact hb Γ y F G c4 ρ κ1 Φ Ψ h
  | _ => cases c
theorem sx_tup {es : Exs} (hs : SS nm E kf es) : SX nm E kf (.tup es) ∧ STt nm E kf (.tup es) := by
  have h : SX nm E kf (.tup es) := fun Γ e F G c ρ κ Φ Ψ s => by
    cases e with
    | Tuple vs k p =>
      obtain ⟨c1, c2⟩ := and2 c
      rw [evX, sat_bind] at s
      refine ev_tup (hs.l Γ vs F G c2 c1 ρ κ _ Ψ (s.imp (fun ds κ1 h => ?_) fun _ _ q => q))
      split at h
      · rename_i hl
        exact ⟨ds, rfl, hl, h⟩
      · exact h.elim
    | _ => cases c
  exact ⟨h, stVal h fun Γ e c => by cases e <;> first | rfl | cases c⟩
theorem sx_lst {es : Exs} (hs : SS nm E kf es) : SX nm E kf (.lst es) ∧ STt nm E kf (.lst es) := by
  have h : SX nm E kf (.lst es) := fun Γ e F G c ρ κ Φ Ψ s => by
    cases e with
    | List vs p =>
      obtain ⟨c1, c2⟩ := and2 c
      rw [evX, sat_bind] at s
      refine ev_lst (hs.l Γ vs F G c2 c1 ρ κ _ Ψ (s.imp (fun ds κ1 h => ?_) fun _ _ q => q))
      split at h
      · rename_i hl
        exact ⟨ds, rfl, hl, h⟩
      · exact h.elim
    | _ => cases c
  exact ⟨h, stVal h fun Γ e c => by cases e <;> first | rfl | cases c⟩
end VL

namespace VL
open PySem PySem.Spec PyProof.Rows L2
variable {nm : Nm} {E : Ev} {kf : Nat}
theorem sx_call {es : Exs} (j : Nat) (hs : SS nm E kf es) : SX nm E kf (.call j es) ∧ STt nm E kf (.call j es) := by
  have h : SX nm E kf (.call j es) := fun Γ e F G c ρ κ Φ Ψ s => by
    cases e with
    | Call f args kws p =>
      cases f with
      | Name x p' =>
        cases kws with
        | nil =>
          obtain ⟨c1, c⟩ := and2 c
          obtain ⟨c2, c⟩ := and2 c
          obtain ⟨c3, c4⟩ := and2 c
          obtain ⟨c5, c6⟩ := chkG_ok c2
          rw [evX, sat_bind] at s
          obtain ⟨g, q, k, hk, hf⟩ := F.fns j x (of_decide_eq_true c1)
          rw [q] at s
          cases args with
          | nil =>
            cases es with
            | nil => exact ev_call0 hf (Nat.le_trans hk G.le) c5 s c6
            | cons _ _ => cases c4
          | cons a as =>
            obtain ⟨n1, n2⟩ := nost_cons c3
            exact ev_call hf (Nat.le_trans hk G.le) c5 (hs.a Γ _ F G c4 c3 ρ κ _ Ψ s) c6 n1 n2
        | cons _ _ => cases c
      | _ => cases c
    | _ => cases c
  exact ⟨h, stVal h fun Γ e c => by cases e <;> first | rfl | cases c⟩
theorem sx_callK {es : Exs} (j : Nat) (hs : SS nm E kf es) : SX nm E kf (.callK j es) ∧ STt nm E kf (.callK j es) := by
  have h : SX nm E kf (.callK j es) := fun Γ e F G c ρ κ Φ Ψ s => by
    cases e with
    | Call f args kws p =>
      cases f with
      | Name x p' =>
        obtain ⟨c1, c⟩ := and2 c
        obtain ⟨c2, c⟩ := and2 c
        obtain ⟨c3, c⟩ := and2 c
        obtain ⟨c3', c4⟩ := and2 c
        obtain ⟨c5, c6⟩ := chkG_ok c2
        rw [evX, sat_bind] at s
        cases q0 : nm.fks[j]? with
        | none => rw [q0] at c1; cases c1
        | some t =>
          obtain ⟨y, n, ks⟩ := t
          rw [q0] at c1
          obtain ⟨d1, d2⟩ := and2 c1
          obtain ⟨d2, d3⟩ := and2 d2
          obtain rfl := of_decide_eq_true d1
          have d2 := of_decide_eq_true d2
          have d3 := of_decide_eq_true d3
          have hkl : ks.length = kws.length := by
            have : ∀ {kws : List Keyword} {ks : List Str}, kwNames kws = some ks → ks.length = kws.length := by
              intro kws
              induction kws with
              | nil => intro ks h; cases h; rfl
              | cons kw r ih =>
                intro ks h
                obtain ⟨nn, v, p⟩ := kw
                cases nn with
                | none => cases h
                | some z =>
                  unfold kwNames at h
                  cases q : kwNames r with
                  | none => rw [q] at h; cases h
                  | some ks' =>
                    rw [q] at h
                    cases h
                    simp [ih q]
            exact this d3
          obtain ⟨g, q, k, hk, hf⟩ := F.fks j y n ks q0
          rw [q] at s
          cases args with
          | nil =>
            obtain rfl : n = 0 := d2.symm
            refine ev_callK0 hf (Nat.le_trans hk G.le) c5 ?_ c6 d3
            have := hs.k Γ kws F G c4 ρ κ _ Ψ s
            rw [hkl]
            exact this
          | cons a as =>
            obtain ⟨n1, n2⟩ := nost_cons c3
            refine ev_callK hf (Nat.le_trans hk G.le) c5 ?_ c6 d3 n1 c3
            have := hs.ak Γ (a :: as) kws F G c4 c3 ρ κ _ Ψ s
            rw [hkl, ← d2]
            exact this
      | _ => cases c
    | _ => cases c
  exact ⟨h, stVal h fun Γ e c => by cases e <;> first | rfl | cases c⟩
theorem es_one {Γ : Ctx} {es : Exs} {a : Expr} (h : Cks nm Γ es [a]) : ∃ x, es = .cons x .nil ∧ Ck nm Γ x a := by
  cases es with
  | nil => cases h
  | cons x r =>
    obtain ⟨e, r', he, h1, h2⟩ := cks_cons h
    cases he
    cases r with
    | nil => exact ⟨x, rfl, h1⟩
    | cons _ _ => cases h2
theorem sx_bi {es : Exs} (b : Bi) (hs : SS nm E kf es) (h1 : ∀ x, es = .cons x .nil → SX nm E kf x) : SX nm E kf (.bi b es) ∧ STt nm E kf (.bi b es) := by
  have h : SX nm E kf (.bi b es) := fun Γ e F G c ρ κ Φ Ψ s => by
    cases e with
    | Call f args kws p =>
      cases f with
      | Name x p' =>
        cases kws with
        | nil =>
          rw [evX, sat_bind] at s
          by_cases hb : ∃ y f, biNm b = some (y, f)
          · obtain ⟨y, f, hb⟩ := hb
            have c' : ((match biNm b with | some (y, _) => decide (y = x) | none => false) && (nm.bis.contains x && (glB Γ.sc x && (!args.isEmpty && (nost args && chkXs nm Γ.N Γ.sc Γ.top Γ.lam.isSome es args))))) = true := by
              cases b <;> first | exact c | cases hb
            rw [hb] at c'
            obtain ⟨c1, c⟩ := and2 c'
            obtain ⟨c2, c⟩ := and2 c
            obtain ⟨c3, c⟩ := and2 c
            obtain ⟨c4, c⟩ := and2 c
            obtain ⟨c5, c6⟩ := and2 c
            obtain rfl := of_decide_eq_true c1
            obtain ⟨b1, b2, b3, b4⟩ := bi_boot hb
            have hn : biNm b ≠ none := by rw [hb]; intro z; cases z
            cases args with
            | nil => cases c4
            | cons a as =>
              obtain ⟨n1, n2⟩ := nost_cons c5
              have hA := hs.r Γ (a :: as) F G c6 c5 ρ κ (fun as κ' => ∃ ds : List D, as = ds.map .ro ∧ CDx Γ.g (rBi Γ.g.K b) κ' ds Φ) Ψ (s.imp (fun ds κ' h => by
                rw [sat_rd] at h
                obtain ⟨r, hr, hΦ⟩ := h
                exact ⟨ds, rfl, cd_bi hr hn hΦ⟩) fun _ _ q => q)
              rcases b4 with ⟨id, rfl⟩ | ⟨T, rfl⟩
              · exact ev_callB (r := rBi Γ.g.K b) (fun X f hc => by rw [← f.K]; exact call_bi hc hb) hA (F.bis _ c2) b1 c3 b2 b3 n1 n2
              · exact ev_callTy (r := rBi Γ.g.K b) (fun X f hc => by rw [← f.K]; exact call_bi hc hb) hA (F.bis _ c2) b1 c3 b2 b3 n1 n2
          · cases b with
            | isi t =>
              obtain ⟨c1, c⟩ := and2 c
              obtain ⟨c2, c⟩ := and2 c
              obtain ⟨c3, c⟩ := and2 c
              obtain ⟨c4, c⟩ := and2 c
              obtain ⟨c5, cz⟩ := and2 c
              clear c
              obtain rfl := of_decide_eq_true c1
              have key : ∃ a y pp, args = [a, .Name y pp] := by
                cases args with
                | nil => cases cz
                | cons a r =>
                  cases r with
                  | nil => cases cz
                  | cons b r =>
                    cases b with
                    | Name y pp =>
                      cases r with
                      | nil => exact ⟨a, y, pp, rfl⟩
                      | cons _ _ => cases cz
                    | _ => cases r <;> cases cz
              obtain ⟨a, y, pp, rfl⟩ := key
              have c := cz
              ·
                obtain ⟨d1, cy⟩ := and2 c
                obtain ⟨d2, d3⟩ := and2 cy
                obtain rfl := of_decide_eq_true d1
                obtain ⟨z, rfl, d4⟩ := es_one d3
                refine ev_isi (((h1 z rfl).r F G d4 (Φ := fun d κ' => (M.rd (fun κ => biS (.isi t) κ [d]) κ').sat Φ Ψ) (Ψ := Ψ) (ρ := ρ) (κ := κ) ?_).imp fun d κ' hd => ?_) (F.bis _ c2) (F.bis _ c3) c4 c5 (nost_cons d2).1
                · rw [evRs, sat_bind] at s
                  refine s.imp (fun d κ1 h => ?_) fun _ _ q => q
                  rw [sat_bind] at h
                  exact h
                · rw [sat_rd] at hd
                  obtain ⟨r, hr, hΦ⟩ := hd
                  have hr' : (if plainOf d = true then some (Rs.dat (.bool (isT t d))) else none) = some r := hr
                  split at hr'
                  · rename_i hp
                    cases hr'
                    exact ⟨hp, hΦ⟩
                  · cases hr'
            | isi2 t t' =>
              obtain ⟨c1, c⟩ := and2 c
              obtain ⟨c2, c⟩ := and2 c
              obtain ⟨c3, c⟩ := and2 c
              obtain ⟨c3', c⟩ := and2 c
              obtain ⟨c4, c⟩ := and2 c
              obtain ⟨c5, c⟩ := and2 c
              obtain ⟨c5', cz⟩ := and2 c
              obtain rfl := of_decide_eq_true c1
              have key : ∃ a y pp y' pp' kk ppp, args = [a, .Tuple [.Name y pp, .Name y' pp'] kk ppp] := by
                cases args with
                | nil => cases cz
                | cons a r =>
                  cases r with
                  | nil => cases cz
                  | cons b r =>
                    cases b with
                    | Tuple ts kk ppp =>
                      cases ts with
                      | nil => cases r <;> cases cz
                      | cons t1 ts =>
                        cases t1 with
                        | Name y pp =>
                          cases ts with
                          | nil => cases r <;> cases cz
                          | cons t2 ts =>
                            cases t2 with
                            | Name y' pp' =>
                              cases ts with
                              | nil =>
                                cases r with
                                | nil => exact ⟨a, y, pp, y', pp', kk, ppp, rfl⟩
                                | cons _ _ => cases cz
                              | cons _ _ => cases r <;> cases cz
                            | _ => cases r <;> cases cz
                        | _ => cases r <;> cases cz
                    | _ => cases r <;> cases cz
              obtain ⟨a, y, pp, y', pp', kk, ppp, rfl⟩ := key
              have c := cz
              ·
                obtain ⟨d1, cy⟩ := and2 c
                obtain ⟨d1', cy⟩ := and2 cy
                obtain ⟨d2, d3⟩ := and2 cy
                obtain rfl := of_decide_eq_true d1
                obtain rfl := of_decide_eq_true d1'
                obtain ⟨z, rfl, d4⟩ := es_one d3
                refine ev_isi2 (((h1 z rfl).r F G d4 (Φ := fun d κ' => (M.rd (fun κ => biS (.isi2 t t') κ [d]) κ').sat Φ Ψ) (Ψ := Ψ) (ρ := ρ) (κ := κ) ?_).imp fun d κ' hd => ?_) (F.bis _ c2) (F.bis _ c3) (F.bis _ c3') c4 c5 c5' (nost_cons d2).1
                · rw [evRs, sat_bind] at s
                  refine s.imp (fun d κ1 h => ?_) fun _ _ q => q
                  rw [sat_bind] at h
                  exact h
                · rw [sat_rd] at hd
                  obtain ⟨r, hr, hΦ⟩ := hd
                  have hr' : (if plainOf d = true then some (Rs.dat (.bool (isT t d || isT t' d))) else none) = some r := hr
                  split at hr'
                  · rename_i hp
                    cases hr'
                    exact ⟨hp, hΦ⟩
                  · cases hr'
            | x b => cases b <;> exact absurd ⟨_, _, rfl⟩ hb
            | _ => exact absurd ⟨_, _, rfl⟩ hb
        | cons _ _ => cases c
      | _ => cases c
    | _ => cases c
  exact ⟨h, stVal h fun Γ e c => by cases e <;> first | rfl | cases c⟩
theorem plain_ix {b : Expr} (h : isSlE b = false) : PlainIx b := fun o i => by
  cases b <;> first | rfl | cases h
theorem sx_ix {a b : Ex} (ha : SX nm E kf a) (hb : SX nm E kf b) : SX nm E kf (.ix a b) ∧ STt nm E kf (.ix a b) := by
  have h : SX nm E kf (.ix a b) := fun Γ e F G c ρ κ Φ Ψ s => by
    cases e with
    | Subscript x i p =>
      have c' : (!isSlE i && (chkX nm Γ.N Γ.sc Γ.top Γ.lam.isSome a x && chkX nm Γ.N Γ.sc Γ.top Γ.lam.isSome b i)) = true := c
      obtain ⟨c1, c⟩ := and2 c'
      obtain ⟨c2, c3⟩ := and2 c
      rw [evX, sat_bind] at s
      refine ev2 (r := rIx Γ.g.K) (fun X f => by rw [← f.K]; exact pe_ix ix_seq pe_w pe_w (plain_ix (not1 c1))) (fun _ _ _ _ h => h) (ha.r F G c2 s) fun x κ1 h1 => ?_
      rw [sat_bind] at h1
      refine (hb.r F G c3 h1).imp fun y κ2 h2 => ?_
      rw [sat_rd] at h2
      obtain ⟨r, hr, hΦ⟩ := h2
      cases q : itemS κ2 x y with
      | none => rw [q] at hr; cases hr
      | some z =>
        rw [q] at hr
        cases hr
        exact rd_ix q hΦ
    | _ => cases c
  exact ⟨h, stVal h fun Γ e c => by cases e <;> first | rfl | cases c⟩
theorem sx_sl {a : Ex} {lo hi : Oex} (ha : SX nm E kf a) (hl : SO nm E kf lo) (hh : SO nm E kf hi) : SX nm E kf (.sl a lo hi) ∧ STt nm E kf (.sl a lo hi) := by
  have h : SX nm E kf (.sl a lo hi) := fun Γ e F G c ρ κ Φ Ψ s => by
    cases e with
    | Subscript x i p =>
      cases i with
      | Slice l u st p2 =>
        cases st with
        | none =>
          obtain ⟨c1, c⟩ := and2 c
          obtain ⟨c2, c3⟩ := and2 c
          rw [evX, sat_bind] at s
          refine ev_slice ((ha.r F G c1 s).imp fun x κ1 h1 => ?_)
          rw [sat_bind] at h1
          refine hl Γ l F G c2 ρ κ1 _ Ψ (h1.imp (fun l' κ2 h2 => ?_) fun _ _ q => q)
          rw [sat_bind] at h2
          refine hh Γ u F G c3 ρ κ2 _ Ψ (h2.imp (fun h' κ3 h3 => ?_) fun _ _ q => q)
          rw [sat_rd] at h3
          exact h3
        | some _ => cases c
      | _ => cases c
    | _ => cases c
  exact ⟨h, stVal h fun Γ e c => by cases e <;> first | rfl | cases c⟩
theorem so_no : SO nm E kf .no := fun Γ e F G c ρ κ Φ Ψ s => by
  cases e with
  | none => exact evo_none s
  | some _ => cases c
theorem so_so {a : Ex} (ha : SX nm E kf a) : SO nm E kf (.so a) := fun Γ e F G c ρ κ Φ Ψ s => by
  cases e with
  | none => cases c
  | some e =>
    rw [evOx, sat_bind] at s
    refine evo_some ((ha.d F G c s).imp fun d κ1 h => ?_)
    cases d with
    | int i => exact ⟨i, rfl, h⟩
    | _ => exact h.elim
/-! ### walks -/
theorem si_seq {a : Ex} (ha : SX nm E kf a) : SI nm E kf (.seq a) := fun Γ t e F G c ρ κ Φ Ψ s => by
  rw [evI] at s
  have s' := s
  rw [sat_bind] at s
  cases q : rdI ρ a (evX E ρ a) κ with
  | ok d κ' =>
    rw [q] at s
    obtain ⟨ds, hd, hΦ⟩ := sat_ofO.mp (show (M.ofO (sqW d) κ').sat Φ Ψ from s)
    cases d with
    | str z =>
      cases hd
      exact evi_str (ha.f F G c (by rw [q]; exact ⟨z, rfl, hΦ⟩))
    | list xs =>
      cases hd
      exact evi_list (ha.f F G c (by rw [q]; exact ⟨ds, rfl, hΦ⟩))
    | tuple xs =>
      cases hd
      exact evi_tup (ha.f F G c (by rw [q]; exact ⟨ds, rfl, hΦ⟩))
    | _ => cases hd
  | exc x κ' =>
    rw [q] at s
    exact evi_list (ha.f F G c (by rw [q]; exact s))
  | stuck => rw [q] at s; exact s.elim
theorem si_rng1 {a : Ex} (ha : SX nm E kf a) : SI nm E kf (.rng1 a) := fun Γ t e F G c ρ κ Φ Ψ s => by
  cases e with
  | Call f args kws pos =>
    cases f with
    | Name x p =>
      cases args with
      | nil => cases c
      | cons e' r =>
        cases r with
        | cons _ _ => cases c
        | nil =>
          cases kws with
          | cons _ _ => cases c
          | nil =>
            obtain ⟨c1, c⟩ := and2 c
            obtain ⟨c2, c⟩ := and2 c
            obtain ⟨c3, c⟩ := and2 c
            obtain ⟨c4, c5⟩ := and2 c
            obtain rfl := of_decide_eq_true c1
            rw [evI, sat_bind] at s
            refine evi_range1 ((ha.d F G c5 s).imp fun d κ1 h => ?_) (F.bis _ c2) c3 (not1 c4)
            obtain ⟨ds, hd, hΦ⟩ := sat_ofO.mp h
            cases d with
            | int i => exact ⟨i, ds, rfl, hd, hΦ⟩
            | _ => cases hd
    | _ => cases args <;> cases c
  | _ => cases c
theorem si_rng2 {a b : Ex} (ha : SX nm E kf a) (hb : SX nm E kf b) : SI nm E kf (.rng2 a b) := fun Γ t e F G c ρ κ Φ Ψ s => by
  cases e with
  | Call f args kws pos =>
    cases f with
    | Name x p =>
      cases args with
      | nil => cases c
      | cons e' r =>
        cases r with
        | nil => cases c
        | cons e2 r =>
          cases r with
          | cons _ _ => cases c
          | nil =>
            cases kws with
            | cons _ _ => cases c
            | nil =>
              obtain ⟨c1, c⟩ := and2 c
              obtain ⟨c2, c⟩ := and2 c
              obtain ⟨c3, c⟩ := and2 c
              obtain ⟨c4, c⟩ := and2 c
              obtain ⟨c5, c⟩ := and2 c
              obtain ⟨c6, c7⟩ := and2 c
              obtain rfl := of_decide_eq_true c1
              rw [evI, sat_bind] at s
              refine evi_range2 ((ha.d F G c6 s).imp fun d κ1 h => ?_) (F.bis _ c2) c3 (not1 c4) (not1 c5)
              rw [sat_bind] at h
              refine (hb.d F G c7 h).imp fun d' κ2 h => ?_
              obtain ⟨ds, hd, hΦ⟩ := sat_ofO.mp h
              cases d with
              | int i =>
                cases d' with
                | int j => exact ⟨i, j, ds, rfl, rfl, hd, hΦ⟩
                | _ => cases hd
              | _ => cases hd
    | _ => cases args <;> cases c
  | _ => cases c
theorem si_zip {a b : Ex} (ha : SX nm E kf a) (hb : SX nm E kf b) : SI nm E kf (.zip a b) := fun Γ t e F G c ρ κ Φ Ψ s => by
  cases t with
  | Tuple el kk tp =>
    cases e with
    | Call f args kws pos =>
      cases f with
      | Name x p =>
        cases args with
        | nil => cases c
        | cons e' r =>
          cases r with
          | nil => cases c
          | cons e2 r =>
            cases r with
            | cons _ _ => cases c
            | nil =>
              cases kws with
              | cons _ _ => cases c
              | nil =>
                obtain ⟨c1, c⟩ := and2 c
                obtain ⟨c2, c⟩ := and2 c
                obtain ⟨c3, c⟩ := and2 c
                obtain ⟨c4, c⟩ := and2 c
                obtain ⟨c5, c⟩ := and2 c
                obtain ⟨c6, c7⟩ := and2 c
                obtain rfl := of_decide_eq_true c1
                rw [evI, sat_bind] at s
                refine evi_zip ⟨fun st kk Q q => (ha.f F G c6 s).run st kk Q fun d v w2 H2 p le st2 rp => q d v w2 H2 ?_ le st2 rp⟩ (F.bis _ c2) c3 (not1 c4) (not1 c5)
                rw [sat_bind] at p
                exact ⟨fun st kk Q q => (hb.f F G c7 p).run st kk Q fun d v w2 H2 p le st2 rp => q d v w2 H2 (sat_ofO.mp p) le st2 rp⟩
      | _ => cases args <;> cases c
    | _ => cases c
  | _ => cases e <;> cases c
theorem si_enum {a : Ex} (ha : SX nm E kf a) : SI nm E kf (.enum a) := fun Γ t e F G c ρ κ Φ Ψ s => by
  cases t with
  | Tuple el kk tp =>
    cases e with
    | Call f args kws pos =>
      cases f with
      | Name x p =>
        cases args with
        | nil => cases c
        | cons e' r =>
          cases r with
          | cons _ _ => cases c
          | nil =>
            cases kws with
            | cons _ _ => cases c
            | nil =>
              obtain ⟨c1, c⟩ := and2 c
              obtain ⟨c2, c⟩ := and2 c
              obtain ⟨c3, c⟩ := and2 c
              obtain ⟨c4, c5⟩ := and2 c
              obtain rfl := of_decide_eq_true c1
              rw [evI, sat_bind] at s
              cases q : rdI ρ a (evX E ρ a) κ with
              | ok d κ' =>
                rw [q] at s
                obtain ⟨ds, hd, hΦ⟩ := sat_ofO.mp (show (M.ofO ((sqD d).map fun ds => zipD (rangeD 0 ds.length) ds) κ').sat Φ Ψ from s)
                cases d with
                | list xs =>
                  cases hd
                  exact evi_enum (ha.f F G c5 (by rw [q]; exact ⟨xs, rfl, hΦ⟩)) (F.bis _ c2) c3 (not1 c4)
                | tuple xs =>
                  cases hd
                  exact evi_enumT (ha.f F G c5 (by rw [q]; exact ⟨xs, rfl, hΦ⟩)) (F.bis _ c2) c3 (not1 c4)
                | _ => cases hd
              | exc x κ' =>
                rw [q] at s
                exact evi_enum (ha.f F G c5 (by rw [q]; exact s)) (F.bis _ c2) c3 (not1 c4)
              | stuck => rw [q] at s; exact s.elim
      | _ => cases args <;> cases c
    | _ => cases c
  | _ => cases e <;> cases c
/-! ### comprehensions, tried -/
/-- a comprehension's parts -/
theorem comp_parts {own : List (Str × Nat)} {elt : Ex} {tg : Tg} {it : Itx} {cs : Exs} {Γ : Ctx} {e : Expr} (c : Ck nm Γ (.comp own elt tg it cs) e) : ∃ el t iter ifs scope p, e = .ListComp el [⟨t, iter, ifs, 0⟩] scope p ∧ blkC Γ.N Γ.sc scope own = true ∧ chkTg Γ.N (relS scope Γ.sc) false tg t = true ∧ (∀ i ∈ tgIx tg, i ∈ own.map (·.2)) ∧ isSetE iter = false ∧ chkI nm Γ.N Γ.sc Γ.top Γ.lam.isSome it t iter = true ∧ chkX nm Γ.N (relS scope Γ.sc) false false elt el = true ∧ tsts cs = true ∧ chkXs nm Γ.N (relS scope Γ.sc) false false cs ifs = true := by
  cases e with
  | ListComp el gs scope p =>
    cases gs with
    | nil => cases c
    | cons g r =>
      obtain ⟨t, iter, ifs, asy⟩ := g
      cases r with
      | cons _ _ => cases c
      | nil =>
        obtain ⟨c1, c⟩ := and2 c
        obtain ⟨c2, c⟩ := and2 c
        obtain ⟨c3, c⟩ := and2 c
        obtain ⟨c4, c⟩ := and2 c
        obtain ⟨c5, c⟩ := and2 c
        obtain ⟨c6, c⟩ := and2 c
        obtain ⟨c7, c⟩ := and2 c
        obtain ⟨c8, c9⟩ := and2 c
        obtain rfl := of_decide_eq_true c1
        refine ⟨el, t, iter, ifs, scope, p, rfl, c2, c3, fun i hi => ?_, not1 c5, c6, c7, c8, c9⟩
        have := List.all_eq_true.mp c4 i hi
        simpa using this
  | _ => cases c
def compF (E : Ev) (ρ : List En) (own : List (Str × Nat)) (elt : Ex) (tg : Tg) (cs : Exs) : D → M (Option D) := fun d => match tgPut (wipeE ρ (own.map (·.2))) tg d with
      | some ρ2 => .bind (evC E ρ2 cs) fun k => if k = true then .bind (datR (evX E ρ2 elt)) fun y => .ret (some y) else .ret none
      | none => .fail
def compInv (E : Ev) (ρ : List En) (own : List (Str × Nat)) (elt : Ex) (tg : Tg) (cs : Exs) (Φ : List D → Ks → Prop) (ds : List D) (i : Nat) (acc : List D) (κ : Ks) : Prop :=
  (compL (compF E ρ own elt tg cs) (ds.drop i) κ).sat (fun ys κ' => Φ (acc ++ ys) κ') NoXK
theorem sat_noX {α : Type} {m : M α} {κ : Ks} {Φ : α → Ks → Prop} {Ψ : Exc → Ks → Prop} (h : (noX m κ).sat Φ Ψ) : (m κ).sat Φ NoXK := by
  unfold noX at h
  cases q : m κ with
  | ok a κ' => rw [q] at h; exact h
  | exc x κ' => rw [q] at h; exact h
  | stuck => rw [q] at h; exact h
theorem comp_turn {own : List (Str × Nat)} {elt : Ex} {tg : Tg} {cs : Exs} {Γ : Ctx} {el t : Expr} {ifs : List Expr} {scope : Scope} (he : SX nm E kf elt) (hcs : SS nm E kf cs) (F : Fx Γ.g kf nm E) (G : Gok nm kf E Γ) (c3 : chkTg Γ.N (relS scope Γ.sc) false tg t = true) (c7 : chkX nm Γ.N (relS scope Γ.sc) false false elt el = true) (c8 : tsts cs = true) (c9 : chkXs nm Γ.N (relS scope Γ.sc) false false cs ifs = true)
    {ρ : List En} {Φ : List D → Ks → Prop} (ds : List D) (i : Nat) (d : D) (acc : List D) (κ' : Ks) (hd : ds[i]? = some d) (hI : compInv E ρ own elt tg cs Φ ds i acc κ') : LcTurn (Γ.blk scope) (wipeE ρ (own.map (·.2))) κ' t el ifs (tgIx tg) d (fun κ2 => compInv E ρ own elt tg cs Φ ds (i + 1) acc κ2) (fun y κ2 => compInv E ρ own elt tg cs Φ ds (i + 1) (acc ++ [y]) κ2) := by
  obtain ⟨hlt, rfl⟩ := List.getElem?_eq_some_iff.mp hd
  unfold compInv at hI
  rw [List.drop_eq_getElem_cons hlt, compL, sat_bind] at hI
  have hI' : (compF E ρ own elt tg cs ds[i] κ').sat _ NoXK := hI
  unfold compF at hI'
  cases q : tgPut (wipeE ρ (own.map (·.2))) tg ds[i] with
  | none => rw [q] at hI'; exact hI'.elim
  | some ρ2 =>
    rw [q] at hI'
    refine ⟨ρ2, tgt_ok (Γ := Γ.blk scope) c3 q, ?_⟩
    have hI2 : (M.bind (evC E ρ2 cs) (fun k => if k = true then M.bind (datR (evX E ρ2 elt)) fun y => .ret (some y) else .ret none) κ').sat _ NoXK := hI'
    rw [sat_bind] at hI2
    refine hcs.c (Γ.blk scope) ifs F (G.blk scope) c9 c8 ρ2 κ' _ NoXK (hI2.imp (fun k κ2 h => ?_) fun _ _ z => z)
    cases k with
    | true =>
      rw [if_pos rfl] at h ⊢
      rw [sat_bind] at h
      refine (he.d (Γ := Γ.blk scope) F (G.blk scope) c7 h).imp fun y κ3 hy => ?_
      have hy' : (M.bind (compL (compF E ρ own elt tg cs) (ds.drop (i + 1))) (fun r => .ret (y :: r)) κ3).sat (fun ys κ' => Φ (acc ++ ys) κ') NoXK := hy
      rw [sat_bind] at hy'
      unfold compInv
      refine hy'.imp (fun r κ4 z => ?_) fun _ _ z => z
      rw [List.append_assoc]
      exact z
    | false =>
      rw [if_neg Bool.false_ne_true] at h ⊢
      have hy' : (M.bind (compL (compF E ρ own elt tg cs) (ds.drop (i + 1))) (fun r => .ret r) κ2).sat (fun ys κ' => Φ (acc ++ ys) κ') NoXK := h
      rw [sat_bind] at hy'
      exact hy'
theorem sx_comp {own : List (Str × Nat)} {elt : Ex} {tg : Tg} {it : Itx} {cs : Exs} (he : SX nm E kf elt) (hi : SI nm E kf it) (hcs : SS nm E kf cs) : SX nm E kf (.comp own elt tg it cs) ∧ STt nm E kf (.comp own elt tg it cs) := by
  have h : SX nm E kf (.comp own elt tg it cs) := fun Γ e F G c ρ κ Φ Ψ s => by
    obtain ⟨el, t, iter, ifs, scope, p, rfl, c2, c3, c4, c5, c6, c7, c8, c9⟩ := comp_parts c
    rw [evX, sat_bind] at s
    refine ev_lc (compInv E ρ own elt tg cs (fun ds κ' => Φ (.new (.lst ds)) κ')) (ix := tgIx tg) (hi Γ t iter F G c6 ρ κ _ Ψ (s.imp (fun ds κ1 h => ?_) fun _ _ q => q)) c4 (fun ds i d acc κ' hd hI => comp_turn he hcs F G c3 c7 c8 c9 ds i d acc κ' hd hI) (fun ds ds' κ' hI => ?_) c2 (fold_no (by cases iter <;> first | rfl | cases c5))
    · split at h
      · rename_i hl
        rw [sat_bind] at h
        exact ⟨hl, (sat_noX h).imp (fun ys κ2 z => z) fun _ _ z => z⟩
      · exact h.elim
    · unfold compInv at hI
      rw [List.drop_length] at hI
      have hI' : Φ (.new (.lst (ds' ++ []))) κ' := hI
      rw [List.append_nil] at hI'
      exact hI'
  refine ⟨h, stVal h fun Γ e c => ?_⟩
  obtain ⟨el, t, iter, ifs, scope, p, rfl, _⟩ := comp_parts c
  rfl
def compXF (E : Ev) (ρ : List En) (iy : Nat) (elt : Ex) : D → M (Option D) := fun d => .bind (datR (evX E ((wipeE ρ [iy]).set iy (.dat d)) elt)) fun y => .ret (some y)
def compXInv (E : Ev) (ρ : List En) (iy : Nat) (elt : Ex) (Φ : List D → Ks → Prop) (Ψ : Exc → Ks → Prop) (ds : List D) (i : Nat) (acc : List D) (κ : Ks) : Prop :=
  (compL (compXF E ρ iy elt) (ds.drop i) κ).sat (fun ys κ' => Φ (acc ++ ys) κ') Ψ
theorem compX_parts {y : Str} {iy : Nat} {elt : Ex} {it : Itx} {Γ : Ctx} {e : Expr} (c : Ck nm Γ (.compX y iy elt it) e) : ∃ el yp iter scope p, e = .ListComp el [⟨.Name y yp, iter, [], 0⟩] scope p ∧ Γ.top = true ∧ blkC Γ.N Γ.sc scope [(y, iy)] = true ∧ Γ.N[iy]? = some y ∧ locB (relS scope Γ.sc) false y = true ∧ isSetE iter = false ∧ chkI nm Γ.N Γ.sc Γ.top Γ.lam.isSome it (.Name y yp) iter = true ∧ chkX nm Γ.N (relS scope Γ.sc) false false elt el = true := by
  cases e with
  | ListComp el gs scope p =>
    cases gs with
    | nil => cases c
    | cons g r =>
      obtain ⟨t, iter, ifs, asy⟩ := g
      cases r with
      | cons _ _ => cases t <;> cases ifs <;> cases c
      | nil =>
        cases ifs with
        | cons _ _ => cases t <;> cases c
        | nil =>
          cases t with
          | Name y' yp =>
            obtain ⟨c0, c⟩ := and2 c
            obtain ⟨c1, c⟩ := and2 c
            obtain ⟨c2, c⟩ := and2 c
            obtain ⟨c3, c⟩ := and2 c
            obtain ⟨c4, c⟩ := and2 c
            obtain ⟨c5, c⟩ := and2 c
            obtain ⟨c6, c⟩ := and2 c
            obtain ⟨c7, c8⟩ := and2 c
            obtain rfl := of_decide_eq_true c1
            obtain rfl := of_decide_eq_true c2
            exact ⟨el, yp, iter, scope, p, rfl, c0, c3, of_decide_eq_true c4, c5, not1 c6, c7, c8⟩
          | _ => cases c
  | _ => cases c
theorem sx_compX {y : Str} {iy : Nat} {elt : Ex} {it : Itx} (he : SX nm E kf elt) (hi : SI nm E kf it) : SX nm E kf (.compX y iy elt it) ∧ STt nm E kf (.compX y iy elt it) := by
  have h : SX nm E kf (.compX y iy elt it) := fun Γ e F G c ρ κ Φ Ψ s => by
    obtain ⟨el, yp, iter, scope, p, rfl, c0, c3, c4, c5, c6, c7, c8⟩ := compX_parts c
    rw [evX, sat_bind] at s
    refine ev_lcX (compXInv E ρ iy elt (fun ds κ' => Φ (.new (.lst ds)) κ') Ψ) (hi Γ (.Name y yp) iter F G c7 ρ κ _ Ψ (s.imp (fun ds κ1 h => ?_) fun _ _ q => q)) (fun ds i d acc κ' hd hI => ?_) (fun ds ds' κ' hI => ?_) c3 (fold_no (by cases iter <;> first | rfl | cases c6)) c0 c4 c5
    · split at h
      · rename_i hl
        rw [sat_bind] at h
        exact ⟨hl, h⟩
      · exact h.elim
    · obtain ⟨hlt, rfl⟩ := List.getElem?_eq_some_iff.mp hd
      unfold compXInv at hI
      rw [List.drop_eq_getElem_cons hlt, compL, sat_bind] at hI
      have hI' : (M.bind (datR (evX E ((wipeE ρ [iy]).set iy (.dat ds[i])) elt)) (fun y => .ret (some y)) κ').sat _ Ψ := hI
      rw [sat_bind] at hI'
      refine (he.d (Γ := Γ.blk scope) F (G.blk scope) c8 hI').imp fun z κ3 hy => ?_
      have hy' : (M.bind (compL (compXF E ρ iy elt) (ds.drop (i + 1))) (fun r => .ret (z :: r)) κ3).sat (fun ys κ' => Φ (.new (.lst (acc ++ ys))) κ') Ψ := hy
      rw [sat_bind] at hy'
      unfold compXInv
      refine hy'.imp (fun r κ4 z => ?_) fun _ _ z => z
      rw [List.append_assoc]
      exact z
    · unfold compXInv at hI
      rw [List.drop_length] at hI
      have hI' : Φ (.new (.lst (ds' ++ []))) κ' := hI
      rw [List.append_nil] at hI'
      exact hI'
  refine ⟨h, stVal h fun Γ e c => ?_⟩
  obtain ⟨el, yp, iter, scope, p, rfl, _⟩ := compX_parts c
  rfl
theorem sx_tried {x : Ex} (hx : SX nm E kf x) : SX nm E kf (.tried x) ∧ STt nm E kf (.tried x) := by
  have h : SX nm E kf (.tried x) := fun Γ e F G c ρ κ Φ Ψ s => by
    have key : ∃ y p params body scope lp pos, e = .Call (.Name y p) [.Lambda params body scope lp] [] pos := by
      cases e with
      | Call f args kws pos =>
        cases f with
        | Name y p =>
          cases args with
          | nil => cases c
          | cons a r =>
            cases a with
            | Lambda params body scope lp =>
              cases r with
              | cons _ _ => cases c
              | nil =>
                cases kws with
                | cons _ _ => cases c
                | nil => exact ⟨y, p, params, body, scope, lp, pos, rfl⟩
            | _ => cases r <;> cases c
        | _ => cases args <;> cases c
      | _ => cases c
    obtain ⟨y, p, params, body, scope, lp, pos, rfl⟩ := key
    ·
      obtain ⟨c1, c⟩ := and2 c
      obtain ⟨c2, c⟩ := and2 c
      obtain ⟨c3, c⟩ := and2 c
      obtain ⟨c4, c⟩ := and2 c
      obtain ⟨c5, c6⟩ := and2 c
      obtain rfl := of_decide_eq_true c1
      cases hl : Γ.lam with
      | none => rw [hl] at c2; cases c2
      | some t =>
        obtain ⟨cc, P, q⟩ := t
        obtain ⟨g1, g2, g3, g4, g5⟩ := G.lam cc P q hl
        have s' : ((if noOwn ρ = true then (match evX E ρ x κ with
          | .ok r κ' => Res.ok (Rs.dat (.tuple [.str "told", r.data])) κ'
          | .exc x κ' => match E.tr x with
            | some d => .ok (.dat d) κ'
            | none => .stuck
          | .stuck => .stuck) else .stuck)).sat Φ Ψ := s
        split at s'
        · rename_i hno
          obtain ⟨pa, ar, va, ko, kd, kw, df⟩ := params
          have key : pa = [] ∧ ar = [] ∧ va = none ∧ ko = [] ∧ kd = [] ∧ kw = none ∧ df = [] := by
            cases pa <;> first | (cases c5; done) | skip
            cases ar <;> first | (cases c5; done) | skip
            cases va <;> first | (cases c5; done) | skip
            cases ko <;> first | (cases c5; done) | skip
            cases kd <;> first | (cases c5; done) | skip
            cases kw <;> first | (cases c5; done) | skip
            cases df <;> first | (cases c5; done) | skip
            exact ⟨rfl, rfl, rfl, rfl, rfl, rfl, rfl⟩
          obtain ⟨rfl, rfl, rfl, rfl, rfl, rfl, rfl⟩ := key
          ·
            refine ev_tried (k := kf) g4 hl g2 g3 (trf := E.tr) ((hx (Γ.lamc scope kf) body F (Gok.lamc scope) c6 ρ κ _ _ ?_).evd) g5 hno g1 c3 c4 (fun _ => rfl) (fun _ _ _ _ _ => rfl)
            cases q : evX E ρ x κ with
            | ok r κ' => rw [q] at s'; exact s'
            | exc z κ' =>
              rw [q] at s'
              dsimp only at s'
              cases qq : E.tr z with
              | none => rw [qq] at s'; exact s'.elim
              | some d => rw [qq] at s'; exact ⟨d, qq, s'⟩
            | stuck => rw [q] at s'; exact s'.elim
        · exact s'.elim
  exact ⟨h, stVal h fun Γ e c => by cases e <;> first | rfl | cases c⟩
theorem sx_gap : SX nm E kf .gap ∧ STt nm E kf .gap := ⟨fun _ _ _ _ _ _ _ _ _ s => s.elim, fun _ _ _ _ _ _ _ _ _ _ s => s.elim⟩
theorem defB_ok {pr : Arguments} (h : defB pr = true) : pr = ⟨[], [], none, [], [], none, []⟩ := by
  obtain ⟨pa, ar, va, ko, kd, kw, df⟩ := pr
  cases pa <;> first | (cases h; done) | skip
  cases ar <;> first | (cases h; done) | skip
  cases va <;> first | (cases h; done) | skip
  cases ko <;> first | (cases h; done) | skip
  cases kd <;> first | (cases h; done) | skip
  cases kw <;> first | (cases h; done) | skip
  cases df <;> first | (cases h; done) | skip
  rfl
theorem sx_lam (x : Nat) (t : Ex) : SX nm E kf (.lam x t) ∧ STt nm E kf (.lam x t) := by
  have h : SX nm E kf (.lam x t) := fun Γ e F G c ρ κ Φ Ψ s => by
    cases e with
    | Lambda pr bd sc' p =>
      obtain ⟨c1, c⟩ := and2 c
      obtain ⟨c2, c⟩ := and2 c
      obtain ⟨c3, c⟩ := and2 c
      obtain ⟨c4, c5⟩ := and2 c
      cases hl : Γ.lam with
      | none => rw [hl] at c1; cases c1
      | some z =>
        obtain ⟨cc, P, q⟩ := z
        obtain ⟨g1, g2, g3, g4, g5⟩ := G.lam cc P q hl
        obtain ⟨a1, a2, a3⟩ := G.act cc P q x hl (of_decide_eq_true c2)
        exact ev_lam hl a1 g2 g3 (a2 t pr bd sc' c3 c4 c5) c3 (fun env => by rw [defB_ok c4]; rfl) s
    | _ => cases c
  exact ⟨h, stVal h fun Γ e c => by cases e <;> first | rfl | cases c⟩
theorem lamsD_ok {x : Nat} : ∀ {ds : List D} {ts : List Ex}, lamsD x ds = some ts → ds = ts.map (D.lam x)
  | [], _, h => by cases h; rfl
  | d :: r, ts, h => by
    cases d with
    | lam y t =>
      have h' : (if y = x then (lamsD x r).map (t :: ·) else none) = some ts := h
      split at h'
      · rename_i e
        subst e
        cases q : lamsD y r with
        | none => rw [q] at h'; cases h'
        | some us =>
          rw [q] at h'
          cases h'
          rw [lamsD_ok q]
          rfl
      · cases h'
    | _ => cases h
theorem acts_parts {x i y : Nat} {N : List Str} {sc : Scope} {top lm : Bool} {e : Expr} (c : chkX nm N sc top lm (.acts x i y) e = true) : ∃ (pp py yp zp pos lpos : Pos) (y2 z : Str) (scope : Scope), e = .ListComp (.Call (.Name "_law_tried" pp) [.Name y2 py] [] pos) [⟨.Name y2 yp, .Name z zp, [], 0⟩] scope lpos ∧ lm = true ∧ nm.lid = some x ∧ glB (relS scope sc) "_law_tried" = true ∧ blkC N sc scope [(y2, y)] = true ∧ chkV N sc i z = true ∧ chkV N (relS scope sc) y y2 = true ∧ locB (relS scope sc) false y2 = true := by
  cases e with
  | ListComp el gs scope lpos =>
    cases el with
    | Call f args kws pos =>
      cases f with
      | Name f pp =>
        cases args with
        | nil => cases c
        | cons a r =>
          cases a with
          | Name y1 py =>
            cases r with
            | cons _ _ => cases c
            | nil =>
              cases kws with
              | cons _ _ => cases c
              | nil =>
                cases gs with
                | nil => cases c
                | cons g gr =>
                  obtain ⟨tg, it, ifs, asy⟩ := g
                  cases gr with
                  | cons _ _ => cases tg <;> first | (cases c; done) | (cases it <;> first | (cases c; done) | (cases ifs <;> cases c))
                  | nil =>
                    cases tg with
                    | Name y2 yp =>
                      cases it with
                      | Name z zp =>
                        cases ifs with
                        | cons _ _ => cases c
                        | nil =>
                          obtain ⟨c1, c⟩ := and2 c
                          obtain ⟨c2, c⟩ := and2 c
                          obtain ⟨c3, c⟩ := and2 c
                          obtain ⟨c4, c⟩ := and2 c
                          obtain ⟨c5, c⟩ := and2 c
                          obtain ⟨c6, c⟩ := and2 c
                          obtain ⟨c7, c⟩ := and2 c
                          obtain ⟨c8, c⟩ := and2 c
                          obtain ⟨c9, c10⟩ := and2 c
                          obtain rfl := of_decide_eq_true c1
                          obtain rfl := of_decide_eq_true c4
                          obtain rfl := of_decide_eq_true c5
                          exact ⟨pp, py, yp, zp, pos, lpos, y1, z, scope, rfl, c2, of_decide_eq_true c3, c6, c7, c8, c9, c10⟩
                      | _ => cases c
                    | _ => cases c
          | _ => cases r <;> cases c
      | _ => cases args <;> cases c
    | _ => cases c
  | _ => cases c
theorem sx_acts (x i y : Nat) : SX nm E kf (.acts x i y) ∧ STt nm E kf (.acts x i y) := by
  have h : SX nm E kf (.acts x i y) := fun Γ e F G c ρ κ Φ Ψ s => by
    obtain ⟨pp, py, yp, zp, pos, lpos, y2, z, scope, rfl, c1, c2, c3, c4, c5, c6, c7⟩ := acts_parts c
    cases hl : Γ.lam with
    | none => rw [hl] at c1; cases c1
    | some w =>
      obtain ⟨cc, P, q⟩ := w
      obtain ⟨g1, g2, g3, g4, g5⟩ := G.lam cc P q hl
      obtain ⟨a1, a2, a3⟩ := G.act cc P q x hl c2
      obtain ⟨d1, d2, d3, d4⟩ := chkV_ok c5
      obtain ⟨d5, d6, d7, d8⟩ := chkV_ok c6
      rw [evX, sat_bind, sat_ofO] at s
      obtain ⟨ts, hts, s⟩ := s
      split at s
      · rename_i hc
        rw [sat_bind] at s
        cases hi : ρ[i]? with
        | none => rw [hi] at hts; cases hts
        | some en =>
          rw [hi] at hts
          cases en with
          | dat d =>
            cases d with
            | list ds =>
              obtain rfl := lamsD_ok (show lamsD x ds = some ts from hts)
              exact ev_acts (k := kf) g4 hl a1 hi hc.1 hc.2 (fun t pr bd sc hp => by
                obtain ⟨b1, b2, b3⟩ := a3 t pr bd sc hp
                refine ⟨b1, fun _ _ _ _ _ => by rw [defB_ok b2]; rfl, b3⟩) s g5 g1 c3 c4 d1 d2 d3 d4 d5 c7 d6 d7 d8
            | _ => cases hts
          | _ => cases hts
      · exact s.elim
  exact ⟨h, stVal h fun Γ e c => by obtain ⟨pp, py, yp, zp, pos, lpos, y2, z, scope, rfl, _⟩ := acts_parts c; rfl⟩
theorem si_rev {a : Ex} (ha : SX nm E kf a) : SI nm E kf (.rev a) := fun Γ t e F G c ρ κ Φ Ψ s => by
  cases e with
  | Call f args kws pos =>
    cases f with
    | Name x p =>
      cases args with
      | nil => cases c
      | cons e' r =>
        cases r with
        | cons _ _ => cases c
        | nil =>
          cases kws with
          | cons _ _ => cases c
          | nil =>
            obtain ⟨c1, c⟩ := and2 c
            obtain ⟨c2, c⟩ := and2 c
            obtain ⟨c3, c⟩ := and2 c
            obtain ⟨c4, c5⟩ := and2 c
            obtain rfl := of_decide_eq_true c1
            rw [evI, sat_bind] at s
            refine evi_rev (ha.f F G c5 (s.imp (fun d κ1 h => ?_) fun _ _ q => q)) (F.bis _ c2) c3 (not1 c4)
            obtain ⟨ds, hd, hΦ⟩ := sat_ofO.mp h
            cases d with
            | list xs => cases hd; exact ⟨xs, .inl rfl, hΦ⟩
            | tuple xs => cases hd; exact ⟨xs, .inr rfl, hΦ⟩
            | _ => cases hd
    | _ => cases args <;> cases c
  | _ => cases c
theorem sx_getG {k d : Ex} (j : Nat) (hk : SX nm E kf k) (hd : SX nm E kf d) : SX nm E kf (.getG j k d) ∧ STt nm E kf (.getG j k d) := by
  have key : ∀ (Γ : Ctx) e, Ck nm Γ (.getG j k d) e → ∃ x pp p2 e1 e2 p3, e = .Call (.Attribute (.Name x pp) "get" p2) [e1, e2] [] p3 ∧ nm.gds[j]? = some x ∧ chkG Γ.sc x = true ∧ isStar e1 = false ∧ isStar e2 = false ∧ (p2.endLine == p3.line) = true ∧ Ck nm Γ k e1 ∧ Ck nm Γ d e2 := fun Γ e c => by
    cases e with
    | Call f args kws p3 =>
      cases f with
      | Attribute o at_ p2 =>
        cases o with
        | Name x pp =>
          match args, kws, c with
          | [e1, e2], [], c =>
            obtain ⟨c1, c⟩ := and2 c
            obtain ⟨c2, c⟩ := and2 c
            obtain ⟨c3, c⟩ := and2 c
            obtain ⟨c4, c⟩ := and2 c
            obtain ⟨c5, c⟩ := and2 c
            obtain ⟨c6, c⟩ := and2 c
            obtain ⟨c7, c8⟩ := and2 c
            obtain rfl := of_decide_eq_true c1
            exact ⟨x, pp, p2, e1, e2, p3, rfl, of_decide_eq_true c2, c3, not1 c4, not1 c5, c6, c7, c8⟩
          | [], _, c => cases c
          | [_], _, c => cases c
          | _ :: _ :: _ :: _, _, c => cases c
          | [_, _], _ :: _, c => cases c
        | _ => cases args <;> cases c
      | _ => cases args <;> cases c
    | _ => cases c
  have h : SX nm E kf (.getG j k d) := fun Γ e F G c ρ κ Φ Ψ s => by
    obtain ⟨x, pp, p2, e1, e2, p3, rfl, c1, c2, c3, c4, c5, c6, c7⟩ := key Γ e c
    obtain ⟨g1, g2⟩ := chkG_ok c2
    rw [evX] at s
    cases hq : E.gds[j]? with
    | none => rw [hq] at s; exact s.elim
    | some kvs =>
      rw [hq] at s
      dsimp only at s
      rw [sat_bind] at s
      refine ev_kget (F.gds j x kvs c1 hq) ((hk.d F G c6 s).imp fun kd κ1 h => ?_) g1 g2 c3 c4 c5
      rw [sat_bind] at h
      refine (hd.d F G c7 h).imp fun zd κ2 h => ?_
      obtain ⟨r, hr, hΦ⟩ := sat_ofO.mp h
      cases kd with
      | str z => cases hr; exact ⟨z, rfl, hΦ⟩
      | _ => cases hr
  refine ⟨h, stVal h fun Γ e c => ?_⟩
  obtain ⟨x, pp, p2, e1, e2, p3, rfl, _⟩ := key Γ e c
  rfl
/-! ### list(range(..)), tuple(range(..)) -/
section
variable (nm : Nm) (E : Ev) (kf : Nat)
def SG (it : Itx) : Prop := ∀ (Γ : Ctx) (t e : Expr), Fx Γ.g kf nm E → Gok nm kf E Γ → isRg it = true → chkI nm Γ.N Γ.sc Γ.top Γ.lam.isSome it t e = true → ∀ (ρ : List En) (κ : Ks) (Φ : List D → Ks → Prop) (Ψ : Exc → Ks → Prop), (evI E ρ it κ).sat Φ Ψ → EVG Γ Ψ ρ κ e Φ
end
theorem sg_rng1 {a : Ex} (ha : SX nm E kf a) : SG nm E kf (.rng1 a) := fun Γ t e F G _ c ρ κ Φ Ψ s => by
  cases e with
  | Call f args kws pos =>
    cases f with
    | Name x p =>
      cases args with
      | nil => cases c
      | cons e' r =>
        cases r with
        | cons _ _ => cases c
        | nil =>
          cases kws with
          | cons _ _ => cases c
          | nil =>
            obtain ⟨c1, c⟩ := and2 c
            obtain ⟨c2, c⟩ := and2 c
            obtain ⟨c3, c⟩ := and2 c
            obtain ⟨c4, c5⟩ := and2 c
            obtain rfl := of_decide_eq_true c1
            rw [evI, sat_bind] at s
            refine evg1 ((ha.d F G c5 s).imp fun d κ1 h => ?_) (F.bis _ c2) c3 (not1 c4)
            obtain ⟨ds, hd, hΦ⟩ := sat_ofO.mp h
            cases d with
            | int i => exact ⟨i, ds, rfl, hd, hΦ⟩
            | _ => cases hd
    | _ => cases args <;> cases c
  | _ => cases c
theorem sg_rng2 {a b : Ex} (ha : SX nm E kf a) (hb : SX nm E kf b) : SG nm E kf (.rng2 a b) := fun Γ t e F G _ c ρ κ Φ Ψ s => by
  cases e with
  | Call f args kws pos =>
    cases f with
    | Name x p =>
      cases args with
      | nil => cases c
      | cons e' r =>
        cases r with
        | nil => cases c
        | cons e2 r =>
          cases r with
          | cons _ _ => cases c
          | nil =>
            cases kws with
            | cons _ _ => cases c
            | nil =>
              obtain ⟨c1, c⟩ := and2 c
              obtain ⟨c2, c⟩ := and2 c
              obtain ⟨c3, c⟩ := and2 c
              obtain ⟨c4, c⟩ := and2 c
              obtain ⟨c4', c⟩ := and2 c
              obtain ⟨c5, c6⟩ := and2 c
              obtain rfl := of_decide_eq_true c1
              rw [evI, sat_bind] at s
              refine evg2 ((ha.d F G c5 s).imp fun d κ1 h => ?_) (F.bis _ c2) c3 (not1 c4) (not1 c4')
              rw [sat_bind] at h
              refine (hb.d F G c6 h).imp fun d' κ2 h => ?_
              obtain ⟨ds, hd, hΦ⟩ := sat_ofO.mp h
              cases d with
              | int i =>
                cases d' with
                | int j => exact ⟨i, j, ds, rfl, rfl, hd, hΦ⟩
                | _ => cases hd
              | _ => cases hd
    | _ => cases args <;> cases c
  | _ => cases c
theorem sg_no {it : Itx} (h : isRg it = false) : SG nm E kf it := fun Γ t e F G c => by rw [h] at c; cases c
theorem sx_conv {it : Itx} (t : Bool) (hi : SG nm E kf it) : SX nm E kf (.conv t it) ∧ STt nm E kf (.conv t it) := by
  have h : SX nm E kf (.conv t it) := fun Γ e F G c ρ κ Φ Ψ s => by
    cases e with
    | Call f args kws pos =>
      cases f with
      | Name x p =>
        cases args with
        | nil => cases c
        | cons e' r =>
          cases r with
          | cons _ _ => cases c
          | nil =>
            cases kws with
            | cons _ _ => cases c
            | nil =>
              obtain ⟨c1, c⟩ := and2 c
              obtain ⟨c2, c⟩ := and2 c
              obtain ⟨c3, c⟩ := and2 c
              obtain ⟨c4, c⟩ := and2 c
              obtain ⟨c5, c6⟩ := and2 c
              obtain rfl := of_decide_eq_true c1
              rw [evX, sat_bind] at s
              have hg := hi Γ e' e' F G c5 c6 ρ κ _ Ψ s
              cases t with
              | true =>
                refine ev_tupRg (e := e') ⟨fun st k Q q => hg.run st k Q fun i j ds w2 H2 h1 h2 => q i j ds w2 H2 h1 ?_⟩ (F.bis _ c2) c3 (not1 c4)
                split at h2
                · rename_i hl; exact ⟨hl, h2⟩
                · exact h2.elim
              | false =>
                refine ev_listRg (e := e') ⟨fun st k Q q => hg.run st k Q fun i j ds w2 H2 h1 h2 => q i j ds w2 H2 h1 ?_⟩ (F.bis _ c2) c3 (not1 c4)
                split at h2
                · rename_i hl; exact ⟨hl, h2⟩
                · exact h2.elim
      | _ => cases args <;> cases c
    | _ => cases c
  exact ⟨h, stVal h fun Γ e c => by cases e <;> first | rfl | cases c⟩
/-! ### comprehensions with two fors -/
theorem sat_some {α : Type} {m : M α} {κ : Ks} {Φ : α → Ks → Prop} (h : (m κ).sat Φ NoXK) : ∃ a κ', Φ a κ' := by
  cases q : m κ with
  | ok a κ' => rw [q] at h; exact ⟨a, κ', h⟩
  | exc x κ' => rw [q] at h; exact h.elim
  | stuck => rw [q] at h; exact h.elim
def comp3F (E : Ev) (ρ2 : List En) (vs1 : List Nat) (elt : Ex) (tg1 : Tg) (cs : Exs) : D → M (Option D) := fun d1 => match tgPut (wipeE ρ2 vs1) tg1 d1 with
        | some ρ3 => .bind (evC E ρ3 cs) fun k => if k = true then .bind (datR (evX E ρ3 elt)) fun y => .ret (some y) else .ret none
        | none => .fail
def comp2F (E : Ev) (ρ : List En) (own : List (Str × Nat)) (vs1 : List Nat) (elt : Ex) (tg tg1 : Tg) (it1 : Itx) (cs : Exs) : D → M (List D) := fun d => match tgPut (wipeE ρ (own.map (·.2))) tg d with
      | some ρ2 => .bind (evI E ρ2 it1) fun ds1 => compL (comp3F E ρ2 vs1 elt tg1 cs) ds1
      | none => .fail
def comp2Inv (E : Ev) (ρ : List En) (own : List (Str × Nat)) (vs1 : List Nat) (elt : Ex) (tg tg1 : Tg) (it1 : Itx) (cs : Exs) (Φ : List D → Ks → Prop) (ds : List D) (i : Nat) (acc : List D) (κ : Ks) : Prop :=
  (comp2L (comp2F E ρ own vs1 elt tg tg1 it1 cs) (ds.drop i) κ).sat (fun ys κ' => (acc ++ ys).length ≤ sizeLine ∧ Φ (acc ++ ys) κ') NoXK
theorem tgPut_own {ρ ρ2 : List En} {tg : Tg} {d : D} {i : Nat} {x : Ow} (h : tgPut ρ tg d = some ρ2) (e : ρ2[i]? = some (.own x)) : ρ[i]? = some (.own x) := by
  have one : ∀ {ρ : List En} {j : Nat} {d : D}, (ρ.set j (.dat d))[i]? = some (.own x) → ρ[i]? = some (.own x) := fun {ρ j d} q => by
    by_cases z : j = i
    · subst z
      rw [List.getElem?_set] at q
      split at q
      · split at q <;> cases q
      · rename_i ne; exact absurd rfl ne
    · rw [List.getElem?_set_ne z] at q
      exact q
  cases tg with
  | nm j =>
    cases h
    exact one e
  | tup is =>
    cases d with
    | tuple ds =>
      have h' : (if is.length = ds.length then some ((is.zip ds).foldl (fun ρ q => ρ.set q.1 (.dat q.2)) ρ) else none) = some ρ2 := h
      split at h'
      · cases h'
        have : ∀ (l : List (Nat × D)) (ρ : List En), (l.foldl (fun ρ q => ρ.set q.1 (.dat q.2)) ρ)[i]? = some (.own x) → ρ[i]? = some (.own x) := by
          intro l
          induction l with
          | nil => intro ρ q; exact q
          | cons p l ih => intro ρ q; exact one (ih _ q)
        exact this _ _ e
      · cases h'
    | _ => cases h
theorem comp2_parts {own : List (Str × Nat)} {vs1 : List Nat} {elt : Ex} {tg tg1 : Tg} {it it1 : Itx} {cs : Exs} {Γ : Ctx} {e : Expr} (c : Ck nm Γ (.comp2 own vs1 elt tg it tg1 it1 cs) e) : ∃ el t iter t1 iter1 ifs1 scope p, e = .ListComp el [⟨t, iter, [], 0⟩, ⟨t1, iter1, ifs1, 0⟩] scope p ∧ blkC Γ.N Γ.sc scope own = true ∧ chkTg Γ.N (relS scope Γ.sc) false tg t = true ∧ (∀ i ∈ tgIx tg, i ∈ own.map (·.2)) ∧ chkTg Γ.N (relS scope Γ.sc) false tg1 t1 = true ∧ (∀ i ∈ tgIx tg1, i ∈ vs1) ∧ (∀ i ∈ vs1, i ∈ own.map (·.2)) ∧ isSetE iter = false ∧ isSetE iter1 = false ∧
    chkI nm Γ.N Γ.sc Γ.top Γ.lam.isSome it t iter = true ∧ chkI nm Γ.N (relS scope Γ.sc) false false it1 t1 iter1 = true ∧ chkX nm Γ.N (relS scope Γ.sc) false false elt el = true ∧ tsts cs = true ∧ chkXs nm Γ.N (relS scope Γ.sc) false false cs ifs1 = true := by
  cases e with
  | ListComp el gs scope p =>
    match gs, c with
    | [], c => cases c
    | [⟨t, iter, [], asy⟩], c => cases c
    | [⟨t, iter, _ :: _, asy⟩], c => cases c
    | ⟨t, iter, _ :: _, asy⟩ :: _ :: _, c => cases c
    | ⟨t, iter, [], asy⟩ :: ⟨_, _, _, _⟩ :: _ :: _, c => cases c
    | [⟨t, iter, [], asy⟩, ⟨t1, iter1, ifs1, asy1⟩], c =>
      obtain ⟨c1, c⟩ := and2 c
      obtain ⟨c2, c⟩ := and2 c
      obtain ⟨c3, c⟩ := and2 c
      obtain ⟨c4, c⟩ := and2 c
      obtain ⟨c5, c⟩ := and2 c
      obtain ⟨c6, c⟩ := and2 c
      obtain ⟨c7, c⟩ := and2 c
      obtain ⟨c8, c⟩ := and2 c
      obtain ⟨c9, c⟩ := and2 c
      obtain ⟨c10, c⟩ := and2 c
      obtain ⟨c11, c⟩ := and2 c
      obtain ⟨c12, c⟩ := and2 c
      obtain ⟨c13, c⟩ := and2 c
      obtain ⟨c14, c15⟩ := and2 c
      obtain rfl := of_decide_eq_true c1
      obtain rfl := of_decide_eq_true c2
      refine ⟨el, t, iter, t1, iter1, ifs1, scope, p, rfl, c3, c4, fun i hi => ?_, c6, fun i hi => ?_, fun i hi => ?_, not1 c9, not1 c10, c11, c12, c13, c14, c15⟩
      · have := List.all_eq_true.mp c5 i hi
        simpa using this
      · have := List.all_eq_true.mp c7 i hi
        simpa using this
      · have := List.all_eq_true.mp c8 i hi
        simpa using this
  | _ => cases c
theorem comp2_turn {own : List (Str × Nat)} {vs1 : List Nat} {elt : Ex} {tg tg1 : Tg} {it1 : Itx} {cs : Exs} {Γ : Ctx} {el t t1 iter1 : Expr} {ifs : List Expr} {scope : Scope} (he : SX nm E kf elt) (hi1 : SI nm E kf it1) (hcs : SS nm E kf cs) (F : Fx Γ.g kf nm E) (G : Gok nm kf E Γ) (c3 : chkTg Γ.N (relS scope Γ.sc) false tg t = true) (c3' : chkTg Γ.N (relS scope Γ.sc) false tg1 t1 = true) (c6 : chkI nm Γ.N (relS scope Γ.sc) false false it1 t1 iter1 = true) (c7 : chkX nm Γ.N (relS scope Γ.sc) false false elt el = true) (c8 : tsts cs = true) (c9 : chkXs nm Γ.N (relS scope Γ.sc) false false cs ifs = true)
    {ρ : List En} {Φ : List D → Ks → Prop} (ds : List D) (i : Nat) (d : D) (acc : List D) (κ' : Ks) (hd : ds[i]? = some d) (hI : comp2Inv E ρ own vs1 elt tg tg1 it1 cs Φ ds i acc κ') : Lc2Turn (Γ.blk scope) (wipeE ρ (own.map (·.2))) κ' t t1 iter1 el ifs (tgIx tg) (tgIx tg1) vs1 d acc (fun acc κ2 => comp2Inv E ρ own vs1 elt tg tg1 it1 cs Φ ds (i + 1) acc κ2) := by
  obtain ⟨hlt, rfl⟩ := List.getElem?_eq_some_iff.mp hd
  unfold comp2Inv at hI
  rw [List.drop_eq_getElem_cons hlt, comp2L, sat_bind] at hI
  have hI' : (comp2F E ρ own vs1 elt tg tg1 it1 cs ds[i] κ').sat _ NoXK := hI
  unfold comp2F at hI'
  cases q : tgPut (wipeE ρ (own.map (·.2))) tg ds[i] with
  | none => rw [q] at hI'; exact hI'.elim
  | some ρ2 =>
    rw [q] at hI'
    have hI2 : (M.bind (evI E ρ2 it1) (fun ds1 => compL (comp3F E ρ2 vs1 elt tg1 cs) ds1) κ').sat _ NoXK := hI'
    rw [sat_bind] at hI2
    refine ⟨ρ2, fun ds1 j acc κ => (compL (comp3F E ρ2 vs1 elt tg1 cs) (ds1.drop j) κ).sat (fun ys κ' => comp2Inv E ρ own vs1 elt tg tg1 it1 cs Φ ds (i + 1) (acc ++ ys) κ') NoXK, tgt_ok (Γ := Γ.blk scope) c3 q, fun i x h => tgPut_own q h, ?_, ?_, ?_⟩
    · refine hi1 (Γ.blk scope) t1 iter1 F (G.blk scope) c6 ρ2 κ' _ NoXK (hI2.imp (fun ds1 κ2 h => ?_) fun _ _ z => z)
      refine h.imp (fun ys κ3 h => ?_) fun _ _ z => z
      rw [sat_bind] at h
      unfold comp2Inv
      refine h.imp (fun zs κ4 h => ?_) fun _ _ z => z
      rw [List.append_assoc]
      exact h
    · intro ds1 j e1 acc1 κ1 hd1 h1
      obtain ⟨hlt1, rfl⟩ := List.getElem?_eq_some_iff.mp hd1
      rw [List.drop_eq_getElem_cons hlt1, compL, sat_bind] at h1
      have h1' : (comp3F E ρ2 vs1 elt tg1 cs ds1[j] κ1).sat _ NoXK := h1
      unfold comp3F at h1'
      cases q1 : tgPut (wipeE ρ2 vs1) tg1 ds1[j] with
      | none => rw [q1] at h1'; exact h1'.elim
      | some ρ3 =>
        rw [q1] at h1'
        refine ⟨ρ3, tgt_ok (Γ := Γ.blk scope) c3' q1, ?_⟩
        have h2 : (M.bind (evC E ρ3 cs) (fun k => if k = true then M.bind (datR (evX E ρ3 elt)) fun y => .ret (some y) else .ret none) κ1).sat _ NoXK := h1'
        rw [sat_bind] at h2
        refine hcs.c (Γ.blk scope) ifs F (G.blk scope) c9 c8 ρ3 κ1 _ NoXK (h2.imp (fun k κ2 h => ?_) fun _ _ z => z)
        cases k with
        | true =>
          rw [if_pos rfl] at h ⊢
          rw [sat_bind] at h
          refine (he.d (Γ := Γ.blk scope) F (G.blk scope) c7 h).imp fun y κ3 hy => ?_
          have hy' : (M.bind (compL (comp3F E ρ2 vs1 elt tg1 cs) (ds1.drop (j + 1))) (fun r => .ret (y :: r)) κ3).sat (fun ys κ' => comp2Inv E ρ own vs1 elt tg tg1 it1 cs Φ ds (i + 1) (acc1 ++ ys) κ') NoXK := hy
          rw [sat_bind] at hy'
          have hy2 : (compL (comp3F E ρ2 vs1 elt tg1 cs) (ds1.drop (j + 1)) κ3).sat (fun ys κ' => comp2Inv E ρ own vs1 elt tg tg1 it1 cs Φ ds (i + 1) (acc1 ++ [y] ++ ys) κ') NoXK := hy'.imp (fun r κ4 z => by
            rw [List.append_assoc]
            exact z) fun _ _ z => z
          refine ⟨?_, hy2⟩
          obtain ⟨ys, κ4, z⟩ := sat_some hy2
          obtain ⟨zs, κ5, z, _⟩ := sat_some (show (comp2L (comp2F E ρ own vs1 elt tg tg1 it1 cs) (ds.drop (i + 1)) κ4).sat _ NoXK from z)
          simp only [List.length_append, List.length_singleton] at z
          omega
        | false =>
          rw [if_neg Bool.false_ne_true] at h ⊢
          have hy' : (M.bind (compL (comp3F E ρ2 vs1 elt tg1 cs) (ds1.drop (j + 1))) (fun r => .ret r) κ2).sat (fun ys κ' => comp2Inv E ρ own vs1 elt tg tg1 it1 cs Φ ds (i + 1) (acc1 ++ ys) κ') NoXK := h
          rw [sat_bind] at hy'
          exact hy'
    · intro ds1 acc1 κ1 h1
      rw [List.drop_length] at h1
      have h2 : comp2Inv E ρ own vs1 elt tg tg1 it1 cs Φ ds (i + 1) (acc1 ++ []) κ1 := h1
      rw [List.append_nil] at h2
      exact h2
theorem sx_comp2 {own : List (Str × Nat)} {vs1 : List Nat} {elt : Ex} {tg tg1 : Tg} {it it1 : Itx} {cs : Exs} (he : SX nm E kf elt) (hi : SI nm E kf it) (hi1 : SI nm E kf it1) (hcs : SS nm E kf cs) : SX nm E kf (.comp2 own vs1 elt tg it tg1 it1 cs) ∧ STt nm E kf (.comp2 own vs1 elt tg it tg1 it1 cs) := by
  have h : SX nm E kf (.comp2 own vs1 elt tg it tg1 it1 cs) := fun Γ e F G c ρ κ Φ Ψ s => by
    obtain ⟨el, t, iter, t1, iter1, ifs1, scope, p, rfl, d1, d2, d3, d4, d5, d6, d7, d8, d9, d10, d11, d12, d13⟩ := comp2_parts c
    rw [evX, sat_bind] at s
    refine ev_lc2 (comp2Inv E ρ own vs1 elt tg tg1 it1 cs (fun ds κ' => Φ (.new (.lst ds)) κ')) (ix := tgIx tg) (ix1 := tgIx tg1) (vs1 := vs1) (hi Γ t iter F G d9 ρ κ _ Ψ (s.imp (fun ds κ1 h => ?_) fun _ _ q => q)) d3 d5 d6 (fun ds i d acc κ' hd hI => comp2_turn he hi1 hcs F G d2 d4 d10 d11 d12 d13 ds i d acc κ' hd hI) (fun ds ds' κ' hI => ?_) d1 (fold_no (by cases iter <;> first | rfl | cases d7)) (fold_no (by cases iter1 <;> first | rfl | cases d8))
    · rw [sat_bind] at h
      refine (sat_noX h).imp (fun ys κ2 z => ?_) fun _ _ z => z
      split at z
      · rename_i hl
        exact ⟨hl, z⟩
      · exact z.elim
    · unfold comp2Inv at hI
      rw [List.drop_length] at hI
      have hI' : (ds' ++ []).length ≤ sizeLine ∧ Φ (.new (.lst (ds' ++ []))) κ' := hI
      rw [List.append_nil] at hI'
      exact hI'.2
  refine ⟨h, stVal h fun Γ e c => ?_⟩
  obtain ⟨el, t, iter, t1, iter1, ifs1, scope, p, rfl, _⟩ := comp2_parts c
  rfl
end VL

namespace VL
open PySem PySem.Spec PyProof.Rows L2
section
variable {nm : Nm} {E : Ev} {kf : Nat}
mutual
theorem sndX : ∀ x : Ex, SX nm E kf x ∧ STt nm E kf x
  | .v i => ⟨sx_v i, st_v i⟩
  | .bv i => ⟨sx_bv i, st_bv i⟩
  | .i n => sx_i n
  | .b n => sx_b n
  | .s n => sx_s n
  | .non => sx_non
  | .gl j => sx_gl j
  | .bin o a b => sx_bin o (sndX a).1 (sndX b).1
  | .neg a => sx_neg (sndX a).1
  | .not a => sx_not (sndX a).1 (sndX a).2
  | .cmp o a b => sx_cmp o (sndX a).1 (sndX b).1
  | .cmp2 o o' a b c => sx_cmp2 o o' (sndX a).1 (sndX b).1 (sndX c).1
  | .bop o es => sx_bop o (sndS es).1
  | .ite c a b => sx_ite (sndX c).2 (sndX a).1 (sndX b).1
  | .tup es => sx_tup (sndS es).1
  | .lst es => sx_lst (sndS es).1
  | .call j es => sx_call j (sndS es).1
  | .callK j es => sx_callK j (sndS es).1
  | .bi b es => sx_bi b (sndS es).1 (sndS es).2
  | .ix a b => sx_ix (sndX a).1 (sndX b).1
  | .sl a lo hi => sx_sl (sndX a).1 (sndO lo) (sndO hi)
  | .comp _ elt _ it cs => sx_comp (sndX elt).1 (sndI it) (sndS cs).1
  | .compX _ _ elt it => sx_compX (sndX elt).1 (sndI it)
  | .tried e => sx_tried (sndX e).1
  | .gap => sx_gap
  | .lam x t => sx_lam x t
  | .acts x i y => sx_acts x i y
  | .getG j k d => sx_getG j (sndX k).1 (sndX d).1
  | .conv t it => sx_conv t (sndG it)
  | .comp2 _ _ elt _ it _ it1 cs => sx_comp2 (sndX elt).1 (sndI it) (sndI it1) (sndS cs).1
theorem sndS : ∀ es : Exs, SS nm E kf es ∧ (∀ x, es = .cons x .nil → SX nm E kf x)
  | .nil => ⟨ss_nil, fun _ h => nomatch h⟩
  | .cons a es => ⟨ss_cons (sndX a).1 (sndX a).2 (sndS es).1, fun x h => by cases h; exact (sndX a).1⟩
theorem sndO : ∀ o : Oex, SO nm E kf o
  | .no => so_no
  | .so a => so_so (sndX a).1
theorem sndI : ∀ it : Itx, SI nm E kf it
  | .seq a => si_seq (sndX a).1
  | .rng1 a => si_rng1 (sndX a).1
  | .rng2 a b => si_rng2 (sndX a).1 (sndX b).1
  | .enum a => si_enum (sndX a).1
  | .zip a b => si_zip (sndX a).1 (sndX b).1
  | .rev a => si_rev (sndX a).1
theorem sndG : ∀ it : Itx, SG nm E kf it
  | .seq a => sg_no rfl
  | .rng1 a => sg_rng1 (sndX a).1
  | .rng2 a b => sg_rng2 (sndX a).1 (sndX b).1
  | .enum a => sg_no rfl
  | .zip a b => sg_no rfl
  | .rev a => sg_no rfl
end
end
/-! ### statements -/
def chkB (e : Expr) : Bool := !isComp e
def isCx : Ex → Bool
  | .comp _ _ _ _ _ => true
  | _ => false
def chkPop (nm : Nm) (N : List Str) (sc : Scope) (top lm : Bool) : Oex → List Expr → Bool
  | .no, [] => true
  | .so a, [e] => !isStar e && chkX nm N sc top lm a e
  | _, _ => false
def nmsOf : List Expr → Option (List (Str × Pos))
  | [] => some []
  | .Name x p :: r => (nmsOf r).map ((x, p) :: ·)
  | _ => none
def parC (N : List Str) (sc : Scope) : List Nat → List (Str × Pos) → List Expr → Bool
  | [i, j], [(x, px), (y, py)], [e, e'] => decide (N[i]? = some x) && (decide (N[j]? = some y) && (decide (i ≠ j) && parB sc x y px py e e'))
  | [i, j, l], [(x, px), (y, py), (z, pz)], [e, e', e''] => decide (N[i]? = some x) && (decide (N[j]? = some y) && (decide (N[l]? = some z) && (decide (i ≠ j) && (decide (i ≠ l) && (decide (j ≠ l) && parB3 sc x y z px py pz e e' e'')))))
  | _, _, _ => false
def chkPar (N : List Str) (sc : Scope) (is : List Nat) (ts vs : List Expr) : Bool := match nmsOf ts with
  | some l => parC N sc is l vs
  | none => false
theorem nms_ok : ∀ {ts : List Expr} {l : List (Str × Pos)}, nmsOf ts = some l → ts = l.map fun q => .Name q.1 q.2
  | [], _, h => by cases h; rfl
  | t :: r, l, h => by
    cases t with
    | Name x p =>
      have h' : (nmsOf r).map ((x, p) :: ·) = some l := h
      cases q : nmsOf r with
      | none => rw [q] at h'; cases h'
      | some l' =>
        rw [q] at h'
        cases h'
        rw [nms_ok q]
        rfl
    | _ => cases h
theorem parC_ok {N : List Str} {sc : Scope} : ∀ {is : List Nat} {l : List (Str × Pos)} {vs : List Expr}, parC N sc is l vs = true →
    (∃ i j x px y py e e', is = [i, j] ∧ l = [(x, px), (y, py)] ∧ vs = [e, e'] ∧ N[i]? = some x ∧ N[j]? = some y ∧ i ≠ j ∧ parB sc x y px py e e' = true) ∨
    (∃ i j k x px y py z pz e e' e'', is = [i, j, k] ∧ l = [(x, px), (y, py), (z, pz)] ∧ vs = [e, e', e''] ∧ N[i]? = some x ∧ N[j]? = some y ∧ N[k]? = some z ∧ i ≠ j ∧ i ≠ k ∧ j ≠ k ∧ parB3 sc x y z px py pz e e' e'' = true) := fun {is l vs} h => by
  unfold parC at h
  split at h
  · simp only [Bool.and_eq_true, decide_eq_true_eq] at h
    exact .inl ⟨_, _, _, _, _, _, _, _, rfl, rfl, rfl, h.1, h.2.1, h.2.2.1, h.2.2.2⟩
  · simp only [Bool.and_eq_true, decide_eq_true_eq] at h
    exact .inr ⟨_, _, _, _, _, _, _, _, _, _, _, _, rfl, rfl, rfl, h.1, h.2.1, h.2.2.1, h.2.2.2.1, h.2.2.2.2.1, h.2.2.2.2.2.1, h.2.2.2.2.2.2⟩
  · cases h
theorem chkPar_ok {N : List Str} {sc : Scope} {is : List Nat} {ts vs : List Expr} (h : chkPar N sc is ts vs = true) : ∃ l, ts = l.map (fun q => .Name q.1 q.2) ∧ parC N sc is l vs = true := by
  unfold chkPar at h
  split at h
  · rename_i l q
    exact ⟨l, nms_ok q, h⟩
  · cases h
/-- x = [..] : where the store goes -/
def chkSet (N : List Str) (sc : Scope) (top : Bool) (i : Nat) (x : Str) : Bool := decide (N[i]? = some x) && locB sc top x
mutual
def chkS (nm : Nm) (N : List Str) (sc : Scope) (top lm : Bool) : Sm → Stmt → Bool
  | .set i x, .Assign [.Name y py] e _ => decide (N[i]? = some y) && (chkX nm N sc top lm x e && (match e with
    | .ListComp _ _ scope p => isCx x && swB sc y py p scope
    | e => locB sc top y && !isComp e))
  | .setN i x, .Assign [.Name y py] e _ => decide (N[i]? = some y) && (chkX nm N sc top lm x e && (match e with
    | .ListComp _ _ scope p => isCx x && swB sc y py p scope
    | e => locB sc top y && !isComp e))
  | .setC i x, .Assign [.Name y _] e _ => decide (N[i]? = some y) && (chkX nm N sc top lm x e && (locB sc top y && !isComp e))
  | .unp is x, .Assign [.Tuple ts _ _] e _ => unpB sc ts e && (chkNs N sc top is ts && chkX nm N sc top lm x e)
  | .par i j a b, .Assign [.Tuple [.Name x px, .Name y py] _ _] (.Tuple [e, e'] _ _) _ => decide (N[i]? = some x) && (decide (N[j]? = some y) && (decide (i ≠ j) && (parB sc x y px py e e' && (chkX nm N sc top lm a e && chkX nm N sc top lm b e'))))
  | .aug i o x, .AugAssign (.Name y _) op e _ => decide (o = op) && ((decide (o = .Add) || decide (o = .Sub)) && (decide (N[i]? = some y) && (locB sc top y && chkX nm N sc top lm x e)))
  | .put i k x, .Assign [.Subscript (.Name y _) idx _] e _ => chkV N sc i y && (!isSlE idx && (chkX nm N sc top lm k idx && chkX nm N sc top lm x e))
  | .app i x, .Expr (.Call (.Attribute (.Name y _) m p2) [e] [] p3) _ => decide (m = "append") && (chkV N sc i y && (!isStar e && ((p2.endLine == p3.line) && chkX nm N sc top lm x e)))
  | .ifS c a b, .If t x y _ => tst c && (chkX nm N sc top lm c t && (chkSs nm N sc top lm a x && chkSs nm N sc top lm b y))
  | .forS tg it b, .For t iter body [] _ => top && (chkTg N sc top tg t && (!isSetE iter && (chkI nm N sc top lm it t iter && chkSs nm N sc top lm b body)))
  | .whS c b, .While t body [] _ => top && (tst c && (chkX nm N sc top lm c t && chkSs nm N sc top lm b body))
  | .ret x, .Return (some e) _ => chkX nm N sc top lm x e
  | .retD x, .Return (some e) _ => chkX nm N sc top lm x e
  | .retO i, .Return (some (.Name y _)) _ => chkV N sc i y
  | .retU, .Return none _ => true
  | .expr x, .Expr e _ => !isComp e && chkX nm N sc top lm x e
  | .raise0 c, .Raise (some (.Call (.Name y _) [] [] _)) none _ => decide (c = y) && (nm.xs0.contains c && chkG sc y)
  | .raise1 c fl x, .Raise (some (.Call (.Name y _) [e] [] _)) none _ => decide (c = y) && (nm.xs1.contains (c, fl) && (chkG sc y && (!isStar e && chkX nm N sc top lm x e)))
  | .cont, .Continue _ => true
  | .brk, .Break _ => true
  | .pass, .Pass _ => true
  | .gap, _ => true
  | .pop tg i o, .Assign [t] (.Call (.Attribute (.Name y _) m p2) args [] p3) _ => decide (m = "pop") && (chkV N sc i y && (chkTg N sc top tg t && ((p2.endLine == p3.line) && chkPop nm N sc top lm o args)))
  | .ext i x, .Expr (.Call (.Attribute (.Name y _) m p2) [e] [] p3) _ => decide (m = "extend") && (chkV N sc i y && (!isStar e && ((p2.endLine == p3.line) && chkX nm N sc top lm x e)))
  | .ins i k x, .Expr (.Call (.Attribute (.Name y _) m p2) [e, e'] [] p3) _ => decide (m = "insert") && (chkV N sc i y && (!isStar e && (!isStar e' && ((p2.endLine == p3.line) && (chkX nm N sc top lm k e && chkX nm N sc top lm x e')))))
  | .appP i j o, .Expr (.Call (.Attribute (.Name y _) m p2) [.Call (.Attribute (.Name z _) m' p4) args [] p5] [] p3) _ => decide (m = "append") && (decide (m' = "pop") && (chkV N sc i y && (chkV N sc j z && ((p2.endLine == p3.line) && ((p4.endLine == p5.line) && chkPop nm N sc top lm o args)))))
  | .parN is ns es, .Assign [.Tuple ts _ _] (.Tuple vs _ _) _ => chkPar N sc is ts vs && (nost vs && chkXs nm N sc top lm es vs)
  | _, _ => false
def chkSs (nm : Nm) (N : List Str) (sc : Scope) (top lm : Bool) : Sms → List Stmt → Bool
  | .nil, [] => true
  | .cons a es, s :: ss => chkS nm N sc top lm a s && chkSs nm N sc top lm es ss
  | .frz _ es, ss => chkSs nm N sc top lm es ss
  | _, _ => false
end
end VL

namespace VL
open PySem PySem.Spec PyProof.Rows L2
section
variable (nm : Nm) (E : Ev) (kf : Nat)
def SM (x : Sm) : Prop := ∀ (Γ : Ctx) (st : Stmt), Fx Γ.g kf nm E → Gok nm kf E Γ → chkS nm Γ.N Γ.sc Γ.top Γ.lam.isSome x st = true → ∀ (ρ : List En) (κ : Ks) (p : Pst) (Ψ : Exc → Ks → Prop), (evS E ρ x κ).sat p.o Ψ → SD1 Γ Ψ ρ κ st p
def SMs (x : Sms) : Prop := ∀ (Γ : Ctx) (ss : List Stmt), Fx Γ.g kf nm E → Gok nm kf E Γ → chkSs nm Γ.N Γ.sc Γ.top Γ.lam.isSome x ss = true → ∀ (ρ : List En) (κ : Ks) (p : Pst) (Ψ : Exc → Ks → Prop), (evSs E ρ x κ).sat p.o Ψ → SD Γ Ψ ρ κ ss p
end
variable {nm : Nm} {E : Ev} {kf : Nat}
theorem ex_comp {x : Ex} (h : isCx x = true) : ∃ own elt tg it cs, x = .comp own elt tg it cs := by
  cases x with
  | comp own elt tg it cs => exact ⟨own, elt, tg, it, cs, rfl⟩
  | _ => cases h
theorem asg_name {Γ : Ctx} {st : Stmt} {f : Str → Pos → Expr → Bool} (h : (match st with | .Assign [.Name y py] e _ => f y py e | _ => false) = true) : ∃ y py e pos, st = .Assign [.Name y py] e pos ∧ f y py e = true := by
  cases st with
  | Assign tg e pos =>
    cases tg with
    | nil => cases h
    | cons t r =>
      cases r with
      | nil =>
        cases t with
        | Name y py => exact ⟨y, py, e, pos, rfl, h⟩
        | _ => cases h
      | cons _ _ => cases t <;> cases h
  | _ => cases h
theorem sm_set (i : Nat) (x : Ex) : SM nm E kf (.set i x) := fun Γ st F G c ρ κ p Ψ s => by
  cases st with
  | Assign tg e pos =>
    cases tg with
    | nil => cases c
    | cons t r =>
      cases r with
      | cons _ _ => cases t <;> cases c
      | nil =>
        cases t with
        | Name y py =>
          obtain ⟨c1, c⟩ := and2 c
          obtain ⟨c2, c3⟩ := and2 c
          have c1 := of_decide_eq_true c1
          rw [evS, sat_bind] at s
          by_cases hlc : ∃ el gs scope p', e = .ListComp el gs scope p'
          · obtain ⟨el, gs, scope, p', rfl⟩ := hlc
            obtain ⟨c3x, c3⟩ := and2 c3
            obtain ⟨own, elt, tg, it, cs, rfl⟩ := ex_comp c3x
            obtain ⟨el, t, iter, ifs, scope, p2, he, d2, d3, d4, d5, d6, d7, d8, d9⟩ := comp_parts c2
            cases he
            have s' := (sat_dat (α := Unit)).mp s
            rw [evX, sat_bind] at s'
            refine s1_lc (compInv E ρ own elt tg cs (fun ds κ' => p.nx (ρ.set i (.dat (.list ds))) κ')) (ix := tgIx tg) ((sndI it) Γ t iter F G d6 ρ κ _ Ψ (s'.imp (fun ds κ1 h => ?_) fun _ _ q => q)) d4 (fun ds i d acc κ' hd hI => comp_turn (sndX elt).1 (sndS cs).1 F G d3 d7 d8 d9 ds i d acc κ' hd hI) false (fun ds ds' κ' hI => ?_) c1 c3 d2 (fold_no (by cases iter <;> first | rfl | cases d5))
            · split at h
              · rename_i hl
                rw [sat_bind] at h
                exact ⟨hl, (sat_noX h).imp (fun ys κ2 z => z) fun _ _ z => z⟩
              · exact h.elim
            · unfold compInv at hI
              rw [List.drop_length] at hI
              have hI' : p.nx (ρ.set i (.dat (.list (ds' ++ [])))) κ' := hI
              rw [List.append_nil] at hI'
              exact hI'
          · have c3' : (locB Γ.sc Γ.top y && !isComp e) = true := by
              cases e <;> first | exact c3 | exact absurd ⟨_, _, _, _, rfl⟩ hlc
            obtain ⟨d1, d2⟩ := and2 c3'
            exact s1_set ((sndX x).1.d F G c2 s) c1 d1 fun env _ => swaps_no (not1 d2) _ _ env
        | _ => cases c
  | _ => cases c
theorem sm_setN (i : Nat) (x : Ex) : SM nm E kf (.setN i x) := fun Γ st F G c ρ κ p Ψ s => by
  cases st with
  | Assign tg e pos =>
    cases tg with
    | nil => cases c
    | cons t r =>
      cases r with
      | cons _ _ => cases t <;> cases c
      | nil =>
        cases t with
        | Name y py =>
          obtain ⟨c1, c⟩ := and2 c
          obtain ⟨c2, c3⟩ := and2 c
          have c1 := of_decide_eq_true c1
          rw [evS, sat_bind] at s
          by_cases hlc : ∃ el gs scope p', e = .ListComp el gs scope p'
          · obtain ⟨el, gs, scope, p', rfl⟩ := hlc
            obtain ⟨c3x, c3⟩ := and2 c3
            obtain ⟨own, elt, tg, it, cs, rfl⟩ := ex_comp c3x
            obtain ⟨el, t, iter, ifs, scope, p2, he, d2, d3, d4, d5, d6, d7, d8, d9⟩ := comp_parts c2
            cases he
            rw [evX, sat_bind] at s
            refine s1_lc (compInv E ρ own elt tg cs (fun ds κ' => p.nx (ρ.set i (.own (.lst ds))) κ')) (ix := tgIx tg) ((sndI it) Γ t iter F G d6 ρ κ _ Ψ (s.imp (fun ds κ1 h => ?_) fun _ _ q => q)) d4 (fun ds i d acc κ' hd hI => comp_turn (sndX elt).1 (sndS cs).1 F G d3 d7 d8 d9 ds i d acc κ' hd hI) true (fun ds ds' κ' hI => ?_) c1 c3 d2 (fold_no (by cases iter <;> first | rfl | cases d5))
            · split at h
              · rename_i hl
                rw [sat_bind] at h
                exact ⟨hl, (sat_noX h).imp (fun ys κ2 z => z) fun _ _ z => z⟩
              · exact h.elim
            · unfold compInv at hI
              rw [List.drop_length] at hI
              have hI' : p.nx (ρ.set i (.own (.lst (ds' ++ [])))) κ' := hI
              rw [List.append_nil] at hI'
              exact hI'
          · have c3' : (locB Γ.sc Γ.top y && !isComp e) = true := by
              cases e <;> first | exact c3 | exact absurd ⟨_, _, _, _, rfl⟩ hlc
            obtain ⟨d1, d2⟩ := and2 c3'
            refine s1_setN ((sndX x).1 Γ e F G c2 ρ κ _ Ψ (s.imp (fun r κ1 h => ?_) fun _ _ q => q)) c1 d1 fun env _ => swaps_no (not1 d2) _ _ env
            cases r with
            | new o => exact ⟨o, rfl, h⟩
            | dat _ => exact h.elim
        | _ => cases c
  | _ => cases c
theorem sm_setC (i : Nat) (x : Ex) : SM nm E kf (.setC i x) := fun Γ st F G c ρ κ p Ψ s => by
  cases st with
  | Assign tg e pos =>
    cases tg with
    | nil => cases c
    | cons t r =>
      cases r with
      | cons _ _ => cases t <;> cases c
      | nil =>
        cases t with
        | Name y py =>
          obtain ⟨c1, c⟩ := and2 c
          obtain ⟨c2, c⟩ := and2 c
          obtain ⟨d1, d2⟩ := and2 c
          rw [evS, sat_bind] at s
          refine s1_setC ((sndX x).1 Γ e F G c2 ρ κ _ Ψ (s.imp (fun r κ1 h => ?_) fun _ _ q => q)) (of_decide_eq_true c1) d1 fun env _ => swaps_no (not1 d2) _ _ env
          cases r with
          | new o =>
            cases o with
            | lst ds => exact ⟨ds, rfl, h⟩
            | dct _ _ => exact h.elim
          | dat _ => exact h.elim
        | _ => cases c
  | _ => cases c
theorem sm_unp (is : List Nat) (x : Ex) : SM nm E kf (.unp is x) := fun Γ st F G c ρ κ p Ψ s => by
  cases st with
  | Assign tg e pos =>
    cases tg with
    | nil => cases c
    | cons t r =>
      cases r with
      | cons _ _ => cases t <;> cases c
      | nil =>
        cases t with
        | Tuple ts k tp =>
          obtain ⟨c1, c⟩ := and2 c
          obtain ⟨c2, c3⟩ := and2 c
          rw [evS, sat_bind] at s
          refine s1_unp (is := is) (((sndX x).1.d F G c3 s).imp fun d κ1 h => ?_) c2 fun env he => unp_stores env (by rw [he]; exact c1)
          obtain ⟨o, ho, hp⟩ := sat_ofO.mp h
          cases q : tgPut ρ (.tup is) d with
          | none => rw [q] at ho; cases ho
          | some ρ' =>
            rw [q] at ho
            cases ho
            exact ⟨ρ', rfl, hp⟩
        | _ => cases c
  | _ => cases c
theorem sm_par (i j : Nat) (a b : Ex) : SM nm E kf (.par i j a b) := fun Γ st F G c ρ κ p Ψ s => by
  have key : ∃ x px y py kt pt e e' k2 pt2 pos, st = .Assign [.Tuple [.Name x px, .Name y py] kt pt] (.Tuple [e, e'] k2 pt2) pos ∧ (decide (Γ.N[i]? = some x) && (decide (Γ.N[j]? = some y) && (decide (i ≠ j) && (parB Γ.sc x y px py e e' && (chkX nm Γ.N Γ.sc Γ.top Γ.lam.isSome a e && chkX nm Γ.N Γ.sc Γ.top Γ.lam.isSome b e'))))) = true := by
    cases st with
    | Assign tg e pos =>
      cases tg with
      | nil => cases c
      | cons t r =>
        cases t with
        | Tuple ts kt pt =>
          cases ts with
          | nil => cases r <;> cases c
          | cons t1 ts =>
            cases t1 with
            | Name x px =>
              cases ts with
              | nil => cases r <;> cases c
              | cons t2 ts =>
                cases t2 with
                | Name y py =>
                  cases ts with
                  | nil =>
                    cases r with
                    | nil =>
                      cases e with
                      | Tuple es k2 pt2 =>
                        cases es with
                        | nil => cases c
                        | cons e1 es =>
                          cases es with
                          | nil => cases c
                          | cons e2 es =>
                            cases es with
                            | nil => exact ⟨x, px, y, py, kt, pt, e1, e2, k2, pt2, pos, rfl, c⟩
                            | cons _ _ => cases c
                      | _ => cases c
                    | cons _ _ => cases c
                  | cons _ _ => cases r <;> cases c
                | _ => cases r <;> cases c
            | _ => cases r <;> cases c
        | _ => cases r <;> cases c
    | _ => cases c
  obtain ⟨x, px, y, py, kt, pt, e, e', k2, pt2, pos, rfl, c⟩ := key
  obtain ⟨c1, c⟩ := and2 c
  obtain ⟨c2, c⟩ := and2 c
  obtain ⟨c3, c⟩ := and2 c
  obtain ⟨c4, c⟩ := and2 c
  obtain ⟨c5, c6⟩ := and2 c
  rw [evS, sat_bind] at s
  refine s1_par (((sndX a).1.d F G c5 s).imp fun d κ1 h => ?_) (of_decide_eq_true c1) (of_decide_eq_true c2) (of_decide_eq_true c3) c4
  rw [sat_bind] at h
  exact ((sndX b).1.d F G c6 h).imp fun d' κ2 h => h
theorem sm_aug (i : Nat) (o : Operator) (x : Ex) : SM nm E kf (.aug i o x) := fun Γ st F G c ρ κ p Ψ s => by
  cases st with
  | AugAssign t op e pos =>
    cases t with
    | Name y py =>
      obtain ⟨c1, c⟩ := and2 c
      obtain ⟨c2, c⟩ := and2 c
      obtain ⟨c3, c⟩ := and2 c
      obtain ⟨c4, c5⟩ := and2 c
      have c1 := of_decide_eq_true c1
      have c3 := of_decide_eq_true c3
      subst c1
      have s' : ((match ρ[i]? with
        | some (En.dat (.int n)) => M.bind (datR (evX E ρ x)) fun d => match o, d with
          | .Add, .int k => M.ret (Out.nx (ρ.set i (.dat (.int (n + k)))))
          | .Sub, .int k => .ret (.nx (ρ.set i (.dat (.int (n - k)))))
          | _, _ => .fail
        | _ => .fail) κ).sat p.o Ψ := s
      cases q : ρ[i]? with
      | none => rw [q] at s'; exact s'.elim
      | some en =>
        rw [q] at s'
        cases en with
        | dat d =>
          cases d with
          | int n =>
            have s2 : (M.bind (datR (evX E ρ x)) (fun d => match o, d with
              | .Add, .int k => M.ret (Out.nx (ρ.set i (.dat (.int (n + k)))))
              | .Sub, .int k => .ret (.nx (ρ.set i (.dat (.int (n - k)))))
              | _, _ => .fail) κ).sat p.o Ψ := s'
            rw [sat_bind] at s2
            by_cases ho : o = .Add
            · subst ho
              refine s1_augAdd q (((sndX x).1.d F G c5 s2).imp fun d κ1 h => ?_) c3 c4
              cases d with
              | int k => exact ⟨k, rfl, h⟩
              | _ => exact h.elim
            · have ho2 : o = .Sub := by simpa [ho] using c2
              subst ho2
              refine s1_augSub q (((sndX x).1.d F G c5 s2).imp fun d κ1 h => ?_) c3 c4
              cases d with
              | int k => exact ⟨k, rfl, h⟩
              | _ => exact h.elim
          | _ => exact s'.elim
        | _ => exact s'.elim
    | _ => cases c
  | _ => cases c
theorem sm_put (i : Nat) (k x : Ex) : SM nm E kf (.put i k x) := fun Γ st F G c ρ κ p Ψ s => by
  have key : ∃ y pp idx tp e pos, st = .Assign [.Subscript (.Name y pp) idx tp] e pos ∧ (chkV Γ.N Γ.sc i y && (!isSlE idx && (chkX nm Γ.N Γ.sc Γ.top Γ.lam.isSome k idx && chkX nm Γ.N Γ.sc Γ.top Γ.lam.isSome x e))) = true := by
    cases st with
    | Assign tg e pos =>
      cases tg with
      | nil => cases c
      | cons t r =>
        cases t with
        | Subscript o idx tp =>
          cases o with
          | Name y pp =>
            cases r with
            | nil => exact ⟨y, pp, idx, tp, e, pos, rfl, c⟩
            | cons _ _ => cases c
          | _ => cases r <;> cases c
        | _ => cases r <;> cases c
    | _ => cases c
  obtain ⟨y, pp, idx, tp, e, pos, rfl, c⟩ := key
  obtain ⟨c1, c⟩ := and2 c
  obtain ⟨c2, c⟩ := and2 c
  obtain ⟨c3, c4⟩ := and2 c
  obtain ⟨h1, h2, h3, h4⟩ := chkV_ok c1
  have hasg : ∀ env v, assign (.Subscript (.Name y pp) idx tp) env v = (do
      let ov ← holding [v] (eval (.Name y pp) env)
      let iv ← holding [v, ov] (eval idx env)
      standAt tp
      holding [v, ov, iv] (setItem ov iv v)
      release [v, ov, iv] []) := fun env v => by cases idx <;> first | rfl | cases c2
  have s' : ((match ρ[i]? with
    | some (En.own (.lst ds)) => M.bind (datR (evX E ρ x)) fun y => .bind (datR (evX E ρ k)) fun z => putO ρ i ds z y
    | some (.dat (.hd h)) => .bind (datR (evX E ρ x)) fun y => .bind (datR (evX E ρ k)) fun z => putH ρ h z y
    | _ => .fail) κ).sat p.o Ψ := s
  cases hen : ρ[i]? with
  | none => rw [hen] at s'; exact s'.elim
  | some en =>
    rw [hen] at s'
    cases en with
    | own o =>
      cases o with
      | lst ds =>
        have s2 : (M.bind (datR (evX E ρ x)) (fun y => .bind (datR (evX E ρ k)) fun z => putO ρ i ds z y) κ).sat p.o Ψ := s'
        rw [sat_bind] at s2
        refine s1_putO hen (((sndX x).1.d F G c4 s2).imp fun d κ1 h => ?_) h1 h2 h3 h4 hasg
        rw [sat_bind] at h
        refine ((sndX k).1.d F G c3 h).imp fun z κ2 h => ?_
        unfold putO at h
        cases z with
        | int n =>
          dsimp only at h
          cases q : ixN ds.length n with
          | none => rw [q] at h; exact h.elim
          | some j => rw [q] at h; exact ⟨n, j, rfl, q, h⟩
        | _ => exact h.elim
      | dct _ _ => exact s'.elim
    | dat d =>
      cases d with
      | hd hh =>
        have s2 : (M.bind (datR (evX E ρ x)) (fun y => .bind (datR (evX E ρ k)) fun z => putH ρ hh z y) κ).sat p.o Ψ := s'
        rw [sat_bind] at s2
        refine s1_putH hen (((sndX x).1.d F G c4 s2).imp fun d κ1 h => ?_) h1 h2 h3 h4 hasg
        rw [sat_bind] at h
        refine ((sndX k).1.d F G c3 h).imp fun z κ2 h => ?_
        unfold putH at h
        cases z with
        | int n =>
          have h' : (match κ2[hh]? with
            | some (.lst ds) => match ixN ds.length n with
              | some j => Res.ok (Out.nx ρ) (κ2.set hh (.lst (ds.set j d)))
              | none => .stuck
            | _ => .stuck).sat p.o Ψ := h
          cases q : κ2[hh]? with
          | none => rw [q] at h'; exact h'.elim
          | some cl =>
            rw [q] at h'
            cases cl with
            | lst ds =>
              dsimp only at h'
              cases q2 : ixN ds.length n with
              | none => rw [q2] at h'; exact h'.elim
              | some j => rw [q2] at h'; exact ⟨n, j, ds, rfl, rfl, q2, h'⟩
            | _ => exact h'.elim
        | _ => exact h.elim
      | _ => exact s'.elim
    | _ => exact s'.elim
theorem sm_app (i : Nat) (x : Ex) : SM nm E kf (.app i x) := fun Γ st F G c ρ κ p Ψ s => by
  have key : ∃ y pp m p2 e p3 pos, st = .Expr (.Call (.Attribute (.Name y pp) m p2) [e] [] p3) pos ∧ (decide (m = "append") && (chkV Γ.N Γ.sc i y && (!isStar e && ((p2.endLine == p3.line) && chkX nm Γ.N Γ.sc Γ.top Γ.lam.isSome x e)))) = true := by
    cases st with
    | Expr e pos =>
      cases e with
      | Call f args kws p3 =>
        cases f with
        | Attribute o m p2 =>
          cases o with
          | Name y pp =>
            cases args with
            | nil => cases c
            | cons a r =>
              cases r with
              | nil =>
                cases kws with
                | nil => exact ⟨y, pp, m, p2, a, p3, pos, rfl, c⟩
                | cons _ _ => cases c
              | cons _ _ => cases c
          | _ => cases args <;> cases c
        | _ => cases c
      | _ => cases c
    | _ => cases c
  obtain ⟨y, pp, m, p2, e, p3, pos, rfl, c⟩ := key
  obtain ⟨c1, c⟩ := and2 c
  obtain ⟨c2, c⟩ := and2 c
  obtain ⟨c3, c⟩ := and2 c
  obtain ⟨c4, c5⟩ := and2 c
  have c1 := of_decide_eq_true c1
  subst c1
  obtain ⟨h1, h2, h3, h4⟩ := chkV_ok c2
  have s' : ((match ρ[i]? with
    | some (En.own (.lst ds)) => M.bind (datR (evX E ρ x)) fun y => if ds.length < sizeLine then M.ret (Out.nx (ρ.set i (.own (.lst (ds ++ [y]))))) else .fail
    | _ => .fail) κ).sat p.o Ψ := s
  cases hen : ρ[i]? with
  | none => rw [hen] at s'; exact s'.elim
  | some en =>
    rw [hen] at s'
    cases en with
    | own o =>
      cases o with
      | lst ds =>
        have s2 : (M.bind (datR (evX E ρ x)) (fun y => if ds.length < sizeLine then M.ret (Out.nx (ρ.set i (.own (.lst (ds ++ [y]))))) else .fail) κ).sat p.o Ψ := s'
        rw [sat_bind] at s2
        refine s1_app hen (((sndX x).1.d F G c5 s2).imp fun d κ1 h => ?_) h1 h2 h3 h4 (not1 c3) c4
        split at h
        · rename_i hl
          exact ⟨hl, h⟩
        · exact h.elim
      | dct _ _ => exact s'.elim
    | _ => exact s'.elim
theorem sm_ret (x : Ex) : SM nm E kf (.ret x) := fun Γ st F G c ρ κ p Ψ s => by
  cases st with
  | Return v pos =>
    cases v with
    | some e =>
      rw [evS, sat_bind] at s
      exact s1_ret ((sndX x).1 Γ e F G c ρ κ _ Ψ (s.imp (fun _ _ h => h) fun _ _ q => q))
    | none => cases c
  | _ => cases c
theorem sm_retD (x : Ex) : SM nm E kf (.retD x) := fun Γ st F G c ρ κ p Ψ s => by
  cases st with
  | Return v pos =>
    cases v with
    | some e =>
      rw [evS, sat_bind] at s
      exact s1_retD (((sndX x).1.d F G c s).imp fun _ _ h => h)
    | none => cases c
  | _ => cases c
theorem sm_retO (i : Nat) : SM nm E kf (.retO i) := fun Γ st F G c ρ κ p Ψ s => by
  cases st with
  | Return v pos =>
    cases v with
    | some e =>
      cases e with
      | Name y py =>
        obtain ⟨h1, h2, h3, h4⟩ := chkV_ok c
        have s' : ((match ρ[i]? with
          | some (En.own x) => M.ret (Out.rt (.new x))
          | _ => .fail) κ).sat p.o Ψ := s
        cases hen : ρ[i]? with
        | none => rw [hen] at s'; exact s'.elim
        | some en =>
          rw [hen] at s'
          cases en with
          | own o => exact s1_retO hen s' h1 h2 h3 h4
          | _ => exact s'.elim
      | _ => cases c
    | none => cases c
  | _ => cases c
theorem sm_retU : SM nm E kf .retU := fun Γ st F G c ρ κ p Ψ s => by
  cases st with
  | Return v pos =>
    cases v with
    | some e => cases c
    | none => exact s1_retU s
  | _ => cases c
theorem sm_expr (x : Ex) : SM nm E kf (.expr x) := fun Γ st F G c ρ κ p Ψ s => by
  cases st with
  | Expr e pos =>
    have c' : (!isComp e && chkX nm Γ.N Γ.sc Γ.top Γ.lam.isSome x e) = true := c
    obtain ⟨c1, c2⟩ := and2 c'
    rw [evS, sat_bind] at s
    exact s1_expr ((sndX x).1 Γ e F G c2 ρ κ _ Ψ (s.imp (fun _ _ h => h) fun _ _ q => q)) fun env => swaps_no (not1 c1) _ _ env
  | _ => cases c
theorem sm_raise0 (x : Str) : SM nm E kf (.raise0 x) := fun Γ st F G c ρ κ p Ψ s => by
  have key : ∃ y pp p3 pos, st = .Raise (some (.Call (.Name y pp) [] [] p3)) none pos ∧ (decide (x = y) && (nm.xs0.contains x && chkG Γ.sc y)) = true := by
    cases st with
    | Raise e ca pos =>
      cases e with
      | none => cases c
      | some e =>
        cases e with
        | Call f args kws p3 =>
          cases f with
          | Name y pp =>
            cases args with
            | nil =>
              cases kws with
              | nil =>
                cases ca with
                | none => exact ⟨y, pp, p3, pos, rfl, c⟩
                | some _ => cases c
              | cons _ _ => cases c
            | cons _ _ => cases c
          | _ => cases c
        | _ => cases c
    | _ => cases c
  obtain ⟨y, pp, p3, pos, rfl, c⟩ := key
  obtain ⟨c1, c⟩ := and2 c
  obtain ⟨c2, c3⟩ := and2 c
  obtain rfl := of_decide_eq_true c1
  obtain ⟨k, hk, hx⟩ := F.xs0 x c2
  obtain ⟨d1, d2⟩ := chkG_ok c3
  exact s1_raise0 hx s (Nat.le_trans hk G.le) d1 d2
theorem sm_raise1 (x fl : Str) (a : Ex) : SM nm E kf (.raise1 x fl a) := fun Γ st F G c ρ κ p Ψ s => by
  have key : ∃ y pp e p3 pos, st = .Raise (some (.Call (.Name y pp) [e] [] p3)) none pos ∧ (decide (x = y) && (nm.xs1.contains (x, fl) && (chkG Γ.sc y && (!isStar e && chkX nm Γ.N Γ.sc Γ.top Γ.lam.isSome a e)))) = true := by
    cases st with
    | Raise e ca pos =>
      cases e with
      | none => cases c
      | some e =>
        cases e with
        | Call f args kws p3 =>
          cases f with
          | Name y pp =>
            cases args with
            | nil => cases c
            | cons a' r =>
              cases r with
              | nil =>
                cases kws with
                | nil =>
                  cases ca with
                  | none => exact ⟨y, pp, a', p3, pos, rfl, c⟩
                  | some _ => cases c
                | cons _ _ => cases c
              | cons _ _ => cases c
          | _ => cases args <;> cases c
        | _ => cases c
    | _ => cases c
  obtain ⟨y, pp, e, p3, pos, rfl, c⟩ := key
  obtain ⟨c1, c⟩ := and2 c
  obtain ⟨c2, c⟩ := and2 c
  obtain ⟨c3, c⟩ := and2 c
  obtain ⟨c4, c5⟩ := and2 c
  obtain rfl := of_decide_eq_true c1
  obtain ⟨k, hk, hx⟩ := F.xs1 x fl c2
  obtain ⟨d1, d2⟩ := chkG_ok c3
  rw [evS, sat_bind] at s
  exact s1_raise1 hx (((sndX a).1.d F G c5 s).imp fun _ _ h => h) (Nat.le_trans hk G.le) d1 d2 (not1 c4)
theorem sm_cont : SM nm E kf .cont := fun Γ st F G c ρ κ p Ψ s => by
  cases st with
  | Continue pos => exact s1_continue s
  | _ => cases c
theorem sm_brk : SM nm E kf .brk := fun Γ st F G c ρ κ p Ψ s => by
  cases st with
  | Break pos => exact s1_break s
  | _ => cases c
theorem sm_pass : SM nm E kf .pass := fun Γ st F G c ρ κ p Ψ s => by
  cases st with
  | Pass pos => exact s1_pass s
  | _ => cases c
theorem sm_if {cc : Ex} {a b : Sms} (ha : SMs nm E kf a) (hb : SMs nm E kf b) : SM nm E kf (.ifS cc a b) := fun Γ st F G c ρ κ p Ψ s => by
  cases st with
  | If t x y pos =>
    obtain ⟨c1, c⟩ := and2 c
    obtain ⟨c2, c⟩ := and2 c
    obtain ⟨c3, c4⟩ := and2 c
    rw [evS, sat_bind] at s
    refine s1_if ((sndX cc).2 Γ t F G c2 c1 ρ κ _ Ψ (((sat_dat (α := Unit)).mp s).imp (fun r κ1 h => ?_) fun _ _ q => q))
    rw [sat_bind, sat_asB] at h
    obtain ⟨k, hk, h⟩ := h
    refine ⟨k, hk, ?_⟩
    cases k with
    | true => exact ha Γ x F G c3 ρ κ1 p Ψ h
    | false => exact hb Γ y F G c4 ρ κ1 p Ψ h
  | _ => cases c
theorem sm_for {tg : Tg} {it : Itx} {b : Sms} (hb : SMs nm E kf b) : SM nm E kf (.forS tg it b) := fun Γ st F G c ρ κ p Ψ s => by
  cases st with
  | For t iter body orelse pos =>
    cases orelse with
    | nil =>
      obtain ⟨ht, c⟩ := and2 c
      obtain ⟨c1, c⟩ := and2 c
      obtain ⟨c2, c⟩ := and2 c
      obtain ⟨c3, c4⟩ := and2 c
      rw [evS, sat_bind] at s
      refine s1_for (step := fun d ρ' => match tgPut ρ' tg d with | some ρ2 => evSs E ρ2 b | none => .fail) ((sndI it) Γ t iter F G c3 ρ κ _ Ψ s) (fun d ρ' κ' p' h => ?_) (fold_no (by cases iter <;> first | rfl | cases c2)) ht
      have h' : ((match tgPut ρ' tg d with | some ρ2 => evSs E ρ2 b | none => M.fail) κ').sat p'.o Ψ := h
      cases q : tgPut ρ' tg d with
      | none => rw [q] at h'; exact h'.elim
      | some ρ2 =>
        rw [q] at h'
        exact ⟨ρ2, tgIx tg, tgt_ok c1 q, hb Γ body F G c4 ρ2 κ' p' Ψ h'⟩
    | cons _ _ => cases c
  | _ => cases c
theorem sm_wh {cc : Ex} {b : Sms} (hb : SMs nm E kf b) : SM nm E kf (.whS cc b) := fun Γ st F G c ρ κ p Ψ s => by
  cases st with
  | While t body orelse pos =>
    cases orelse with
    | nil =>
      obtain ⟨ht, c⟩ := and2 c
      obtain ⟨c1, c⟩ := and2 c
      obtain ⟨c2, c3⟩ := and2 c
      rw [evS] at s
      refine s1_while s (fun ρ' κ' Φ h => ?_) (fun ρ' κ' p' h => hb Γ body F G c3 ρ' κ' p' Ψ h) ht
      rw [sat_bind] at h
      refine (sndX cc).2 Γ t F G c2 c1 ρ' κ' Φ Ψ (((sat_dat (α := Unit)).mp h).imp (fun r κ1 h => ?_) fun _ _ q => q)
      rw [sat_asB] at h
      exact h
    | cons _ _ => cases c
  | _ => cases c
theorem evp_of {Γ : Ctx} {o : Oex} {args : List Expr} {i : Nat} {y : Str} {pp p2 p3 : Pos} {ρ : List En} {κ : Ks} {ds : List D} {Φ : D → List En → Ks → Prop} {Ψ : Exc → Ks → Prop} (F : Fx Γ.g kf nm E) (G : Gok nm kf E Γ) (hx : ρ[i]? = some (.own (.lst ds))) (c : chkPop nm Γ.N Γ.sc Γ.top Γ.lam.isSome o args = true) (hv : chkV Γ.N Γ.sc i y = true) (hl : (p2.endLine == p3.line) = true)
    (s : (evOx E ρ o κ).sat (fun k κ' => ∃ d ρ2, popS ρ i ds k = some (d, ρ2) ∧ Φ d ρ2 κ') Ψ) : EVP Γ Ψ ρ κ (.Call (.Attribute (.Name y pp) "pop" p2) args [] p3) Φ := by
  obtain ⟨h1, h2, h3, h4⟩ := chkV_ok hv
  cases o with
  | no =>
    cases args with
    | nil =>
      obtain ⟨d, ρ2, hp, hΦ⟩ := s
      have hp' : (ds.getLast?.map fun d => (d, ρ.set i (En.own (.lst ds.dropLast)))) = some (d, ρ2) := hp
      cases q : ds.getLast? with
      | none => rw [q] at hp'; cases hp'
      | some d' =>
        rw [q] at hp'
        cases hp'
        exact evp_pop hx ⟨_, q, hΦ⟩ h1 h2 h3 h4 hl
    | cons _ _ => cases c
  | so a =>
    cases args with
    | nil => cases c
    | cons e r =>
      cases r with
      | cons _ _ => cases c
      | nil =>
        obtain ⟨c1, c2⟩ := and2 c
        rw [evOx, sat_bind] at s
        refine evp_popAt hx (((sndX a).1.d F G c2 s).imp fun z κ1 h => ?_) h1 h2 h3 h4 (not1 c1) hl
        cases z with
        | int n =>
          obtain ⟨d, ρ2, hp, hΦ⟩ := (show ∃ d ρ2, popS ρ i ds (some n) = some (d, ρ2) ∧ Φ d ρ2 κ1 from h)
          have hp : (if -(2 ^ 63) ≤ n ∧ n < 2 ^ 63 then match ixN ds.length n with
            | some j => ds[j]?.map fun d => (d, ρ.set i (En.own (.lst (ds.eraseIdx j))))
            | none => none
            else none) = some (d, ρ2) := hp
          split at hp
          · rename_i hb
            split at hp
            · rename_i jx hjx
              cases q : ds[jx]? with
              | none => rw [q] at hp; cases hp
              | some d' =>
                rw [q] at hp
                cases hp
                exact ⟨n, jx, _, rfl, hb.1, hb.2, hjx, q, hΦ⟩
            · cases hp
          · cases hp
        | _ => exact h.elim
theorem sm_pop (tg : Tg) (i : Nat) (o : Oex) : SM nm E kf (.pop tg i o) := fun Γ st F G c ρ κ p Ψ s => by
  have key : ∃ t y pp m p2 args p3 pos, st = .Assign [t] (.Call (.Attribute (.Name y pp) m p2) args [] p3) pos ∧ (decide (m = "pop") && (chkV Γ.N Γ.sc i y && (chkTg Γ.N Γ.sc Γ.top tg t && ((p2.endLine == p3.line) && chkPop nm Γ.N Γ.sc Γ.top Γ.lam.isSome o args)))) = true := by
    cases st with
    | Assign tgs e pos =>
      cases tgs with
      | nil => cases c
      | cons t r =>
        cases r with
        | cons _ _ => cases c
        | nil =>
          cases e with
          | Call f args kws p3 =>
            cases f with
            | Attribute ob m p2 =>
              cases ob with
              | Name y pp =>
                cases kws with
                | nil => exact ⟨t, y, pp, m, p2, args, p3, pos, rfl, c⟩
                | cons _ _ => cases c
              | _ => cases c
            | _ => cases c
          | _ => cases c
    | _ => cases c
  obtain ⟨t, y, pp, m, p2, args, p3, pos, rfl, c⟩ := key
  obtain ⟨c1, c⟩ := and2 c
  obtain ⟨c2, c⟩ := and2 c
  obtain ⟨c3, c⟩ := and2 c
  obtain ⟨c4, c5⟩ := and2 c
  have c1 := of_decide_eq_true c1
  subst c1
  have s' : ((match ρ[i]? with
    | some (En.own (.lst ds)) => M.bind (evOx E ρ o) fun k => .ofO (popT tg (popS ρ i ds k))
    | _ => .fail) κ).sat p.o Ψ := s
  cases hen : ρ[i]? with
  | none => rw [hen] at s'; exact s'.elim
  | some en =>
    rw [hen] at s'
    cases en with
    | own ow =>
      cases ow with
      | lst ds =>
        have s2 : (M.bind (evOx E ρ o) (fun k => .ofO (popT tg (popS ρ i ds k))) κ).sat p.o Ψ := s'
        rw [sat_bind] at s2
        refine s1_asgP (t := tg) (evp_of F G hen c5 c2 c4 (s2.imp (fun k κ1 h => ?_) fun _ _ q => q)) c3 ⟨_, _, _, _, rfl⟩
        obtain ⟨ou, ho, hp⟩ := sat_ofO.mp h
        cases q : popS ρ i ds k with
        | none => rw [q] at ho; cases ho
        | some z =>
          obtain ⟨d, ρ2⟩ := z
          rw [q] at ho
          have ho' : (tgPut ρ2 tg d).map Out.nx = some ou := ho
          cases q2 : tgPut ρ2 tg d with
          | none => rw [q2] at ho'; cases ho'
          | some ρ3 =>
            rw [q2] at ho'
            cases ho'
            exact ⟨d, ρ2, rfl, ρ3, q2, hp⟩
      | dct _ _ => exact s'.elim
    | _ => exact s'.elim
theorem sm_ext (i : Nat) (x : Ex) : SM nm E kf (.ext i x) := fun Γ st F G c ρ κ p Ψ s => by
  have key : ∃ y pp m p2 e p3 pos, st = .Expr (.Call (.Attribute (.Name y pp) m p2) [e] [] p3) pos ∧ (decide (m = "extend") && (chkV Γ.N Γ.sc i y && (!isStar e && ((p2.endLine == p3.line) && chkX nm Γ.N Γ.sc Γ.top Γ.lam.isSome x e)))) = true := by
    cases st with
    | Expr e pos =>
      cases e with
      | Call f args kws p3 =>
        cases f with
        | Attribute o m p2 =>
          cases o with
          | Name y pp =>
            cases args with
            | nil => cases c
            | cons a r =>
              cases r with
              | nil =>
                cases kws with
                | nil => exact ⟨y, pp, m, p2, a, p3, pos, rfl, c⟩
                | cons _ _ => cases c
              | cons _ _ => cases c
          | _ => cases args <;> cases c
        | _ => cases c
      | _ => cases c
    | _ => cases c
  obtain ⟨y, pp, m, p2, e, p3, pos, rfl, c⟩ := key
  obtain ⟨c1, c⟩ := and2 c
  obtain ⟨c2, c⟩ := and2 c
  obtain ⟨c3, c⟩ := and2 c
  obtain ⟨c4, c5⟩ := and2 c
  have c1 := of_decide_eq_true c1
  subst c1
  obtain ⟨h1, h2, h3, h4⟩ := chkV_ok c2
  have s' : ((match ρ[i]? with
    | some (En.own (.lst ds)) => M.bind (datR (evX E ρ x)) fun y => match y with
      | .list zs => if ds.length + zs.length ≤ sizeLine then M.ret (Out.nx (ρ.set i (.own (.lst (ds ++ zs))))) else .fail
      | _ => .fail
    | _ => .fail) κ).sat p.o Ψ := s
  cases hen : ρ[i]? with
  | none => rw [hen] at s'; exact s'.elim
  | some en =>
    rw [hen] at s'
    cases en with
    | own o =>
      cases o with
      | lst ds =>
        have s2 : (M.bind (datR (evX E ρ x)) (fun y => match y with
          | .list zs => if ds.length + zs.length ≤ sizeLine then M.ret (Out.nx (ρ.set i (.own (.lst (ds ++ zs))))) else .fail
          | _ => .fail) κ).sat p.o Ψ := s'
        rw [sat_bind] at s2
        refine s1_ext hen (((sndX x).1.d F G c5 s2).imp fun d κ1 h => ?_) h1 h2 h3 h4 (not1 c3) c4
        cases d with
        | list zs =>
          dsimp only at h
          split at h
          · rename_i hl
            exact ⟨zs, rfl, hl, h⟩
          · exact h.elim
        | _ => exact h.elim
      | dct _ _ => exact s'.elim
    | _ => exact s'.elim
theorem sm_ins (i : Nat) (k x : Ex) : SM nm E kf (.ins i k x) := fun Γ st F G c ρ κ p Ψ s => by
  have key : ∃ y pp m p2 e e' p3 pos, st = .Expr (.Call (.Attribute (.Name y pp) m p2) [e, e'] [] p3) pos ∧ (decide (m = "insert") && (chkV Γ.N Γ.sc i y && (!isStar e && (!isStar e' && ((p2.endLine == p3.line) && (chkX nm Γ.N Γ.sc Γ.top Γ.lam.isSome k e && chkX nm Γ.N Γ.sc Γ.top Γ.lam.isSome x e')))))) = true := by
    cases st with
    | Expr e pos =>
      cases e with
      | Call f args kws p3 =>
        cases f with
        | Attribute o m p2 =>
          cases o with
          | Name y pp =>
            match args, kws, c with
            | [e, e'], [], c => exact ⟨y, pp, m, p2, e, e', p3, pos, rfl, c⟩
            | [], _, c => cases c
            | [_], _, c => cases c
            | _ :: _ :: _ :: _, _, c => cases c
            | [_, _], _ :: _, c => cases c
          | _ => cases args <;> cases c
        | _ => cases c
      | _ => cases c
    | _ => cases c
  obtain ⟨y, pp, m, p2, e, e', p3, pos, rfl, c⟩ := key
  obtain ⟨c1, c⟩ := and2 c
  obtain ⟨c2, c⟩ := and2 c
  obtain ⟨c3, c⟩ := and2 c
  obtain ⟨c3', c⟩ := and2 c
  obtain ⟨c4, c⟩ := and2 c
  obtain ⟨c5, c6⟩ := and2 c
  have c1 := of_decide_eq_true c1
  subst c1
  obtain ⟨h1, h2, h3, h4⟩ := chkV_ok c2
  have s' : ((match ρ[i]? with
    | some (En.own (.lst ds)) => M.bind (datR (evX E ρ k)) fun z => .bind (datR (evX E ρ x)) fun y => insS ρ i ds z y
    | _ => .fail) κ).sat p.o Ψ := s
  cases hen : ρ[i]? with
  | none => rw [hen] at s'; exact s'.elim
  | some en =>
    rw [hen] at s'
    cases en with
    | own o =>
      cases o with
      | lst ds =>
        have s2 : (M.bind (datR (evX E ρ k)) (fun z => .bind (datR (evX E ρ x)) fun y => insS ρ i ds z y) κ).sat p.o Ψ := s'
        rw [sat_bind] at s2
        refine s1_ins hen (((sndX k).1.d F G c5 s2).imp fun d κ1 h => ?_) h1 h2 h3 h4 (not1 c3) (not1 c3') c4
        rw [sat_bind] at h
        refine ((sndX x).1.d F G c6 h).imp fun z κ2 h => ?_
        unfold insS at h
        cases d with
        | int n =>
          dsimp only at h
          split at h
          · rename_i hb
            exact ⟨n, rfl, hb.1, hb.2.1, hb.2.2, h⟩
          · exact h.elim
        | _ => exact h.elim
      | dct _ _ => exact s'.elim
    | _ => exact s'.elim
theorem sm_appP (i j : Nat) (o : Oex) : SM nm E kf (.appP i j o) := fun Γ st F G c ρ κ p Ψ s => by
  have key : ∃ y pp m p2 z pz m' p4 args p5 p3 pos, st = .Expr (.Call (.Attribute (.Name y pp) m p2) [.Call (.Attribute (.Name z pz) m' p4) args [] p5] [] p3) pos ∧ (decide (m = "append") && (decide (m' = "pop") && (chkV Γ.N Γ.sc i y && (chkV Γ.N Γ.sc j z && ((p2.endLine == p3.line) && ((p4.endLine == p5.line) && chkPop nm Γ.N Γ.sc Γ.top Γ.lam.isSome o args)))))) = true := by
    cases st with
    | Expr e pos =>
      cases e with
      | Call f args kws p3 =>
        cases f with
        | Attribute o m p2 =>
          cases o with
          | Name y pp =>
            cases args with
            | nil => cases c
            | cons a r =>
              cases a with
              | Call f' args' kws' p5 =>
                cases f' with
                | Attribute o' m' p4 =>
                  cases o' with
                  | Name z pz =>
                    cases kws' with
                    | nil =>
                      cases r with
                      | nil =>
                        cases kws with
                        | nil => exact ⟨y, pp, m, p2, z, pz, m', p4, args', p5, p3, pos, rfl, c⟩
                        | cons _ _ => cases c
                      | cons _ _ => cases c
                    | cons _ _ => cases r <;> cases c
                  | _ => cases r <;> cases c
                | _ => cases r <;> cases c
              | _ => cases r <;> cases c
          | _ => cases args <;> cases c
        | _ => cases c
      | _ => cases c
    | _ => cases c
  obtain ⟨y, pp, m, p2, z, pz, m', p4, args, p5, p3, pos, rfl, c⟩ := key
  obtain ⟨c1, c⟩ := and2 c
  obtain ⟨c1', c⟩ := and2 c
  obtain ⟨c2, c⟩ := and2 c
  obtain ⟨c3, c⟩ := and2 c
  obtain ⟨c4, c⟩ := and2 c
  obtain ⟨c5, c6⟩ := and2 c
  have c1 := of_decide_eq_true c1
  have c1' := of_decide_eq_true c1'
  subst c1 c1'
  obtain ⟨h1, h2, h3, h4⟩ := chkV_ok c2
  have s' : ((if i = j then M.fail else match ρ[j]?, ρ[i]? with
    | some (En.own (.lst ds)), some (En.own (.lst es)) => M.bind (evOx E ρ o) fun k => .ofO (popA i es (popS ρ j ds k))
    | _, _ => .fail) κ).sat p.o Ψ := s
  split at s'
  · exact s'.elim
  · rename_i hij
    have hj : ∃ ds, ρ[j]? = some (.own (.lst ds)) := by
      cases q : ρ[j]? with
      | none => rw [q] at s'; exact s'.elim
      | some en =>
        rw [q] at s'
        cases en with
        | own o =>
          cases o with
          | lst ds => exact ⟨ds, rfl⟩
          | dct _ _ => exact s'.elim
        | _ => exact s'.elim
    obtain ⟨ds, hj⟩ := hj
    rw [hj] at s'
    have hi : ∃ es, ρ[i]? = some (.own (.lst es)) := by
      cases q : ρ[i]? with
      | none => rw [q] at s'; exact s'.elim
      | some en =>
        rw [q] at s'
        cases en with
        | own o =>
          cases o with
          | lst ds => exact ⟨ds, rfl⟩
          | dct _ _ => exact s'.elim
        | _ => exact s'.elim
    obtain ⟨es, hi⟩ := hi
    rw [hi] at s'
    · have s' : (M.bind (evOx E ρ o) (fun k => .ofO (popA i es (popS ρ j ds k))) κ).sat p.o Ψ := s'
      rw [sat_bind] at s'
      refine s1_appP (i := i) (evp_of F G hj c6 c3 c5 (s'.imp (fun k κ1 h => ?_) fun _ _ q => q)) ⟨es, hi⟩ h1 h2 h3 h4 rfl c4
      obtain ⟨ou, ho, hp⟩ := sat_ofO.mp h
      cases q : popS ρ j ds k with
      | none => rw [q] at ho; cases ho
      | some zz =>
        obtain ⟨d, ρ2⟩ := zz
        rw [q] at ho
        have ho' : (if es.length < sizeLine then some (Out.nx (ρ2.set i (.own (.lst (es ++ [d]))))) else none) = some ou := ho
        split at ho'
        · rename_i hl
          cases ho'
          refine ⟨d, ρ2, rfl, es, ?_, hi, hl, hp⟩
          have hρ2 : ∃ e, ρ2 = ρ.set j e := by
            cases k with
            | none =>
              have q' : (ds.getLast?.map fun d => (d, ρ.set j (En.own (.lst ds.dropLast)))) = some (d, ρ2) := q
              cases g : ds.getLast? with
              | none => rw [g] at q'; cases q'
              | some d' => rw [g] at q'; cases q'; exact ⟨_, rfl⟩
            | some n =>
              have q : (if -(2 ^ 63) ≤ n ∧ n < 2 ^ 63 then match ixN ds.length n with
                | some jx => ds[jx]?.map fun d => (d, ρ.set j (En.own (.lst (ds.eraseIdx jx))))
                | none => none
                else none) = some (d, ρ2) := q
              split at q
              · split at q
                · rename_i jx hjx
                  cases g : ds[jx]? with
                  | none => rw [g] at q; cases q
                  | some d' => rw [g] at q; cases q; exact ⟨_, rfl⟩
                · cases q
              · cases q
          obtain ⟨e, rfl⟩ := hρ2
          rw [List.getElem?_set_ne (fun z => hij z.symm)]
          exact hi
        · cases ho'
theorem evn_of {Γ : Ctx} {ρ : List En} {Ψ : Exc → Ks → Prop} (F : Fx Γ.g kf nm E) (G : Gok nm kf E Γ) : ∀ {es : Exs} {ns : List Bool} {vs : List Expr} {κ : Ks} {Φ : List Rs → Ks → Prop}, Cks nm Γ es vs → nost vs = true → (evN E ρ ns es κ).sat Φ Ψ → EVN Γ Ψ ρ κ vs (fun rs κ' => rs.length = vs.length ∧ Φ rs κ')
  | .nil, [], vs, κ, Φ, c, n, s => by
    obtain rfl := cks_nil c
    exact evn_nil ⟨rfl, s⟩
  | .nil, _ :: _, vs, κ, Φ, c, n, s => by
    rename_i b bs
    cases b <;> exact s.elim
  | .cons a es, [], vs, κ, Φ, c, n, s => s.elim
  | .cons a es, true :: ns, vs, κ, Φ, c, n, s => by
    obtain ⟨e, r, rfl, c1, c2⟩ := cks_cons c
    obtain ⟨n1, n2⟩ := nost_cons n
    rw [evN, sat_bind] at s
    refine evn_new ((sndX a).1 Γ e F G c1 ρ κ _ Ψ (s.imp (fun rr κ1 h => ?_) fun _ _ q => q)) n1
    cases rr with
    | new o =>
      have h' : (M.bind (evN E ρ ns es) (fun rs => .ret (Rs.new o :: rs)) κ1).sat Φ Ψ := h
      rw [sat_bind] at h'
      refine ⟨o, rfl, ?_⟩
      have := evn_of F G (Φ := fun rs κ' => Φ (.new o :: rs) κ') c2 n2 (h'.imp (fun _ _ q => q) fun _ _ q => q)
      exact ⟨fun st k Q q => this.run st k Q fun rs vs F2 w2 H2 hp => q rs vs F2 w2 H2 ⟨by simp [hp.1], hp.2⟩⟩
    | dat _ => exact h.elim
  | .cons a es, false :: ns, vs, κ, Φ, c, n, s => by
    obtain ⟨e, r, rfl, c1, c2⟩ := cks_cons c
    obtain ⟨n1, n2⟩ := nost_cons n
    rw [evN, sat_bind] at s
    refine evn_dat (((sndX a).1.d F G c1 s).imp fun d κ1 h => ?_) n1
    rw [sat_bind] at h
    have := evn_of F G (Φ := fun rs κ' => Φ (.dat d :: rs) κ') c2 n2 (h.imp (fun _ _ q => q) fun _ _ q => q)
    exact ⟨fun st k Q q => this.run st k Q fun rs vs F2 w2 H2 hp => q rs vs F2 w2 H2 ⟨by simp [hp.1], hp.2⟩⟩
theorem sm_parN (is : List Nat) (ns : List Bool) (es : Exs) : SM nm E kf (.parN is ns es) := fun Γ st F G c ρ κ p Ψ s => by
  have key : ∃ ts kt pt vs k2 pt2 pos, st = .Assign [.Tuple ts kt pt] (.Tuple vs k2 pt2) pos ∧ (chkPar Γ.N Γ.sc is ts vs && (nost vs && chkXs nm Γ.N Γ.sc Γ.top Γ.lam.isSome es vs)) = true := by
    cases st with
    | Assign tgs e pos =>
      cases tgs with
      | nil => cases c
      | cons t r =>
        cases t with
        | Tuple ts kt pt =>
          cases r with
          | nil =>
            cases e with
            | Tuple vs k2 pt2 => exact ⟨ts, kt, pt, vs, k2, pt2, pos, rfl, c⟩
            | _ => cases c
          | cons _ _ => cases c
        | _ => cases r <;> cases c
    | _ => cases c
  obtain ⟨ts, kt, pt, vs, k2, pt2, pos, rfl, c⟩ := key
  obtain ⟨c1, c⟩ := and2 c
  obtain ⟨c2, c3⟩ := and2 c
  rw [evS, sat_bind] at s
  have hv := evn_of F G (Φ := fun rs κ' => p.nx (parE ρ is rs) κ') c3 c2 (s.imp (fun _ _ q => q) fun _ _ q => q)
  obtain ⟨l, rfl, c4⟩ := chkPar_ok c1
  rcases parC_ok c4 with ⟨i, j, x, px, y, py, e, e', rfl, rfl, rfl, d1, d2, d3, d4⟩ | ⟨i, j, k, x, px, y, py, z, pz, e, e', e'', rfl, rfl, rfl, d1, d2, d3, d4, d5, d6, d7⟩
  · exact s1_parN hv d1 d2 d3 d4
  · exact s1_parN3 hv d1 d2 d3 d4 d5 d6 d7
mutual
theorem sndM : ∀ x : Sm, SM nm E kf x
  | .set i x => sm_set i x
  | .setN i x => sm_setN i x
  | .setC i x => sm_setC i x
  | .unp is x => sm_unp is x
  | .par i j a b => sm_par i j a b
  | .aug i o x => sm_aug i o x
  | .put i k x => sm_put i k x
  | .app i x => sm_app i x
  | .ifS _ a b => sm_if (sndMs a) (sndMs b)
  | .forS _ _ b => sm_for (sndMs b)
  | .whS _ b => sm_wh (sndMs b)
  | .ret x => sm_ret x
  | .retD x => sm_retD x
  | .retO i => sm_retO i
  | .retU => sm_retU
  | .expr x => sm_expr x
  | .raise0 c => sm_raise0 c
  | .raise1 c fl x => sm_raise1 c fl x
  | .cont => sm_cont
  | .brk => sm_brk
  | .pass => sm_pass
  | .pop tg i o => sm_pop tg i o
  | .ext i x => sm_ext i x
  | .ins i k x => sm_ins i k x
  | .appP i j o => sm_appP i j o
  | .parN is ns es => sm_parN is ns es
  | .gap => fun _ _ _ _ _ _ _ _ _ s => s.elim
theorem sndMs : ∀ x : Sms, SMs nm E kf x
  | .nil => fun Γ ss F G c ρ κ p Ψ s => by
    cases ss with
    | nil => exact sd_nil s
    | cons _ _ => cases c
  | .cons a es => fun Γ ss F G c ρ κ p Ψ s => by
    cases ss with
    | nil => cases c
    | cons st ss =>
      obtain ⟨c1, c2⟩ := and2 c
      rw [evSs, sat_bind] at s
      refine sd_cons (sndM a Γ st F G c1 ρ κ _ Ψ (s.imp (fun o κ1 h => ?_) fun _ _ q => q))
      cases o with
      | nx ρ' => exact sndMs es Γ ss F G c2 ρ' κ1 p Ψ h
      | rt r => exact h
      | bk ρ' => exact h
      | ct ρ' => exact h
  | .frz i es => fun Γ ss F G c ρ κ p Ψ s => by
    have c' : chkSs nm Γ.N Γ.sc Γ.top Γ.lam.isSome es ss = true := by
      cases ss <;> exact c
    rw [evSs] at s
    exact sd_frz (i := i) (sndMs es Γ ss F G c' (frzS ρ i) κ p Ψ s)
end
end VL

namespace VL
open PySem PySem.Spec PyProof.Rows L2
def HasDef (g : Gm) (x : Str) (s : Stmt) (kws : List (Str × V)) : Prop := ∃ f fd, FunD g.K x x (defArgs s) (defBody s) (defScope s) [] kws f fd ∧ g.mg x = some (.ref f)
/-! ### own exception classes by Bools of the head -/
def clsB (K : PySem.W.Frag) (x : Str) : Bool := oexB K (He.ga K x) && (xfB K (He.ga K x) && (He.eqO (PySem.W.findIn K (.ref (He.ga K x)) "word") (some none) && (He.eqO (PySem.W.findIn K (.ref (He.ga K x)) "at") (some none) &&
  (He.eqO (PySem.W.findIn K (.ref (He.ga K x)) "__init__") (some (some (.ref (He.ma K (He.ga K x) "__init__")))) && decide (PySem.W.typeIn K (.ref (He.ma K (He.ga K x) "__init__")) = some (.type "function"))))))
structure Cls (K : PySem.W.Frag) (x : Str) : Prop where
  oex : OexC K (He.ga K x)
  xf : XfC K (He.ga K x)
  word : PySem.W.findIn K (.ref (He.ga K x)) "word" = some none
  at_ : PySem.W.findIn K (.ref (He.ga K x)) "at" = some none
  init : PySem.W.findIn K (.ref (He.ga K x)) "__init__" = some (some (.ref (He.ma K (He.ga K x) "__init__")))
  ty : PySem.W.typeIn K (.ref (He.ma K (He.ga K x) "__init__")) = some (.type "function")
theorem clsB_ok {K : PySem.W.Frag} {x : Str} (h : clsB K x = true) : Cls K x := by
  obtain ⟨h1, h⟩ := He.ba h
  obtain ⟨h2, h⟩ := He.ba h
  obtain ⟨h3, h⟩ := He.ba h
  obtain ⟨h4, h⟩ := He.ba h
  obtain ⟨h5, h6⟩ := He.ba h
  exact ⟨oexB_ok h1, xfB_ok h2, He.eqO_ok h3, He.eqO_ok h4, He.eqO_ok h5, of_decide_eq_true h6⟩
section
variable {P : Program} {w : World} {K : PySem.W.Frag} {h base : Heap} {mg : Str → Option Value} {T : List (Addr × Str)} {fa : List He.Fa} {fn : List He.DefD} {x y : Str} {s : Stmt}
theorem hasDef_of {kwd : List (Str × He.Dv)} {kws : List (Str × V)} (X : K.In h) (G : h.Ns mainGlobals mg) (c : He.SaysD fa fn K) (i j : Nat) (hi : fn[i]? = some ⟨(x, none), x, x, defArgs s, defBody s, defScope s, [], kwd⟩) (hj : fa[j]? = some (.glo x)) (hk : (kwd.map fun q => (q.1, q.2.v K)) = kws) : HasDef ⟨P, w, K, mg, base, T⟩ x s kws := by
  obtain ⟨fd, F⟩ := c.def_ i hi
  subst hk
  exact ⟨_, fd, F, He.glo_ok X G (c.fact j hj)⟩
theorem free_of (X : K.In h) (G : h.Ns mainGlobals mg) (c : He.SaysD fa fn K) (j : Nat) (hj : fa[j]? = some (.free x)) : mg x = none := He.free_ok X G (c.fact j hj)
theorem glInt_of {i : Int} (X : K.In h) (G : h.Ns mainGlobals mg) (c : He.SaysD fa fn K) (j : Nat) (hj : fa[j]? = some (.int x i)) : GlD ⟨P, w, K, mg, base, T⟩ x (.int i) := by
  obtain ⟨t, e⟩ := He.int_ok X G (c.fact j hj)
  exact ⟨.int i, _, e, ⟨t, rfl⟩, fun _ _ _ _ _ => .int i⟩
theorem glStr_of {z : Str} (X : K.In h) (G : h.Ns mainGlobals mg) (c : He.SaysD fa fn K) (j : Nat) (hj : fa[j]? = some (.str x z)) : GlD ⟨P, w, K, mg, base, T⟩ x (.str z) := by
  obtain ⟨t, e⟩ := He.str_ok X G (c.fact j hj)
  exact ⟨.str z, _, e, ⟨t, rfl⟩, fun _ _ _ _ _ => .str z⟩
theorem glTup_of {vs : List He.Dv} {ds : List D} (X : K.In h) (G : h.Ns mainGlobals mg) (c : He.SaysD fa fn K) (j : Nat) (hj : fa[j]? = some (.glo x)) (ht : He.tupB K x vs = true) (hd : ∀ m G' A, RepAll m G' A (vs.map (He.Dv.v K)) ds) : GlD ⟨P, w, K, mg, base, T⟩ x (.tuple ds) :=
  ⟨.ref (He.ga K x), _, He.glo_ok X G (c.fact j hj), rfl, fun m G' A hK _ => .tup (by rw [hK]; exact He.tupB_ok ht G') (hd m G' A)⟩
def entE (e : DictEntry) (q : Str × D) : Bool := match e.key, e.val, q.2 with
  | .str x _, .int i _, .int j => decide (x = q.1) && decide (i = j)
  | .str x _, .str z _, .str z' => decide (x = q.1) && decide (z = z')
  | _, _, _ => false
theorem entE_ok {e : DictEntry} {q : Str × D} (h : entE e q = true) : entO e = some q := by
  obtain ⟨k, d⟩ := q
  unfold entE at h
  split at h
  · rename_i x t i t' j h1 h2 h3
    simp only [Bool.and_eq_true, decide_eq_true_eq] at h
    obtain ⟨rfl, rfl⟩ := h
    dsimp only at h3
    subst h3
    unfold entO
    rw [h1, h2]
  · rename_i x t i t' j h1 h2 h3
    simp only [Bool.and_eq_true, decide_eq_true_eq] at h
    obtain ⟨rfl, rfl⟩ := h
    dsimp only at h3
    subst h3
    unfold entO
    rw [h1, h2]
  · cases h
def entsE : List DictEntry → List (Str × D) → Bool
  | [], [] => true
  | e :: r, q :: qs => entE e q && entsE r qs
  | _, _ => false
theorem entsE_ok : ∀ {l : List DictEntry} {qs : List (Str × D)}, entsE l qs = true → l.map entO = qs.map some
  | [], [], _ => rfl
  | [], _ :: _, h => nomatch h
  | _ :: _, [], h => nomatch h
  | e :: r, q :: qs, h => by
    have h' : (entE e q && entsE r qs) = true := h
    rw [Bool.and_eq_true] at h'
    rw [List.map_cons, List.map_cons, entE_ok h'.1, entsE_ok h'.2]
def tabE (K : PySem.W.Frag) (x : Str) (qs : List (Str × D)) : Bool := match K.lookup (He.ga K x) with
  | some ⟨_, _, .dict es _, _⟩ => entsE es.toList qs
  | _ => false
theorem glT_of {fa : List He.Fa} {fn : List He.DefD} {ts : List He.Tab} {K : PySem.W.Frag} {h : Heap} {mg : Str → Option Value} {w : World} {P : Program} {base : Heap} {T : List (Addr × Str)} {x : Str} {ks : List Str} {qs : List (Str × D)} (X : K.In h) (G : h.Ns mainGlobals mg) (c : He.SaysT fa fn ts w K) (j i : Nat) (hj : fa[j]? = some (.glo x)) (hi : ts[i]? = some (fun K => He.ga K x, ks)) (ht : tabE K x qs = true) : GlT ⟨P, w, K, mg, base, T⟩ x qs := by
  obtain ⟨es, n, D⟩ := c.tab i hi
  refine ⟨He.ga K x, es, n, He.glo_ok X G (c.d.fact j hj), D, ?_⟩
  unfold tabE at ht
  have at_ : K.lookup (He.ga K x) = some ⟨.type "dict", none, .dict es n, #[]⟩ := D.at_
  rw [at_] at ht
  exact entsE_ok ht
theorem exC0_of {wd qual : Str} {p1 p2 p3 p4 : Pos} {k0 : Nat} (X : K.In h) (G : h.Ns mainGlobals mg) (c : He.SaysD fa fn K) (i j : Nat) (hi : fn[i]? = some ⟨(x, some "__init__"), "__init__", qual, defArgs s, defBody s, defScope s, [], []⟩) (hj : fa[j]? = some (.glo x)) (cl : Cls K x)
    (hb : defBody s = [.Assign [.Attribute (.Name "self" p1) "word" p2] (.Constant (.str wd) k0 p3) p4]) (S : FnScope ["self"] ["self"] (defScope s)) (hv : (defScope s).names.lookup ("self" : Str) = some .local)
    (hbi : ∀ (kV doc pm : Value) (an : Option Addr) (cdv ct : Value) (us : List Value), us.length = 1 → bindArgs (PySem.W.fnOf "__init__" qual (defArgs s) (defBody s) (defScope s) .none kV doc pm an cdv ct) ⟨us, []⟩ = pure ((["self"] : List Str).zip us)) : ExC ⟨P, w, K, mg, base, T⟩ 1 x 0 (fun _ => [("word", .str wd)]) := by
  obtain ⟨fd, F⟩ := c.def_ i hi
  have B := F.bindsN (ps := ["self"]) hbi
  refine ⟨He.ga K x, _, fd, ["self"], He.glo_ok X G (c.fact j hj), cl.oex, cl.init, cl.ty, B, ?_⟩
  have F' : FunD K "__init__" qual (defArgs s) (defBody s) (defScope s) [] [] (He.ma K (He.ga K x) "__init__") fd := F
  rw [hb] at F'
  exact init0 (g := ⟨P, w, K, mg, base, T⟩) F' S cl.oex cl.word hv
theorem exC1_of {wd fl qual : Str} {p1 p2 p3 p4 p5 p6 p7 p8 : Pos} {k0 : Nat} (X : K.In h) (G : h.Ns mainGlobals mg) (c : He.SaysD fa fn K) (i j : Nat) (hi : fn[i]? = some ⟨(x, some "__init__"), "__init__", qual, defArgs s, defBody s, defScope s, [], []⟩) (hj : fa[j]? = some (.glo x)) (cl : Cls K x)
    (hb : defBody s = [.Assign [.Attribute (.Name "self" p1) "word" p2] (.Constant (.str wd) k0 p3) p4, .Assign [.Attribute (.Name "self" p5) fl p6] (.Name fl p7) p8]) (hno : PySem.W.findIn K (.ref (He.ga K x)) fl = some none) (S : FnScope ["self", fl] ["self", fl] (defScope s)) (hv : (defScope s).names.lookup ("self" : Str) = some .local) (hv2 : (defScope s).names.lookup fl = some .local)
    (hd : (fl == ("__debug__" : Str)) = false) (hcd : (fl == ("__classdict__" : Str)) = false)
    (hbi : ∀ (kV doc pm : Value) (an : Option Addr) (cdv ct : Value) (us : List Value), us.length = 2 → bindArgs (PySem.W.fnOf "__init__" qual (defArgs s) (defBody s) (defScope s) .none kV doc pm an cdv ct) ⟨us, []⟩ = pure ((["self", fl] : List Str).zip us)) : ExC ⟨P, w, K, mg, base, T⟩ 1 x 1 (fun ws => [(fl, ws.getD 0 .non), ("word", .str wd)]) := by
  obtain ⟨fd, F⟩ := c.def_ i hi
  have B := F.bindsN (ps := ["self", fl]) hbi
  refine ⟨He.ga K x, _, fd, ["self", fl], He.glo_ok X G (c.fact j hj), cl.oex, cl.init, cl.ty, B, ?_⟩
  have F' : FunD K "__init__" qual (defArgs s) (defBody s) (defScope s) [] [] (He.ma K (He.ga K x) "__init__") fd := F
  rw [hb] at F'
  exact init1 (g := ⟨P, w, K, mg, base, T⟩) F' S cl.oex cl.word hno hv hv2 hd hcd
/-- j: the class; j1 .. j4: the four of _law_tried; e1 ..: by which -/
theorem caught1_of (X : K.In h) (G : h.Ns mainGlobals mg) (c : He.SaysD fa fn K) (cl : Cls K x) (j j1 j2 j3 j4 e1 e2 e3 : Nat) (hj : fa[j]? = some (.glo x)) (h1 : fa[j1]? = some (.glo "BadTable")) (h2 : fa[j2]? = some (.glo "BadSheet")) (h3 : fa[j3]? = some (.glo "LagError")) (h4 : fa[j4]? = some (.glo "WorksError"))
    (x1 : fa[e1]? = some (.exm x "BadTable" false)) (x2 : fa[e2]? = some (.exm x "BadSheet" false)) (x3 : fa[e3]? = some (.exm x "LagError" true)) : Caught ⟨P, w, K, mg, base, T⟩ x false :=
  ⟨_, _, _, _, _, He.glo_ok X G (c.fact j hj), He.glo_ok X G (c.fact j1 h1), He.glo_ok X G (c.fact j2 h2), He.glo_ok X G (c.fact j3 h3), He.glo_ok X G (c.fact j4 h4), cl.xf, cl.word, .inr ⟨rfl, He.exm_ok (c.fact e1 x1), He.exm_ok (c.fact e2 x2), .inl (He.exm_ok (c.fact e3 x3))⟩⟩
theorem caughtW_of (X : K.In h) (G : h.Ns mainGlobals mg) (c : He.SaysD fa fn K) (cl : Cls K x) (j j1 j2 j3 j4 e1 e2 e3 e4 : Nat) (hj : fa[j]? = some (.glo x)) (h1 : fa[j1]? = some (.glo "BadTable")) (h2 : fa[j2]? = some (.glo "BadSheet")) (h3 : fa[j3]? = some (.glo "LagError")) (h4 : fa[j4]? = some (.glo "WorksError"))
    (x1 : fa[e1]? = some (.exm x "BadTable" false)) (x2 : fa[e2]? = some (.exm x "BadSheet" false)) (x3 : fa[e3]? = some (.exm x "LagError" false)) (x4 : fa[e4]? = some (.exm x "WorksError" true)) : Caught ⟨P, w, K, mg, base, T⟩ x false :=
  ⟨_, _, _, _, _, He.glo_ok X G (c.fact j hj), He.glo_ok X G (c.fact j1 h1), He.glo_ok X G (c.fact j2 h2), He.glo_ok X G (c.fact j3 h3), He.glo_ok X G (c.fact j4 h4), cl.xf, cl.word, .inr ⟨rfl, He.exm_ok (c.fact e1 x1), He.exm_ok (c.fact e2 x2), .inr ⟨He.exm_ok (c.fact e3 x3), He.exm_ok (c.fact e4 x4)⟩⟩⟩
theorem caughtT_of (X : K.In h) (G : h.Ns mainGlobals mg) (c : He.SaysD fa fn K) (cl : Cls K x) (j j1 j2 j3 j4 e1 : Nat) (hj : fa[j]? = some (.glo x)) (h1 : fa[j1]? = some (.glo "BadTable")) (h2 : fa[j2]? = some (.glo "BadSheet")) (h3 : fa[j3]? = some (.glo "LagError")) (h4 : fa[j4]? = some (.glo "WorksError"))
    (x1 : fa[e1]? = some (.exm x "BadTable" true)) : Caught ⟨P, w, K, mg, base, T⟩ x true :=
  ⟨_, _, _, _, _, He.glo_ok X G (c.fact j hj), He.glo_ok X G (c.fact j1 h1), He.glo_ok X G (c.fact j2 h2), He.glo_ok X G (c.fact j3 h3), He.glo_ok X G (c.fact j4 h4), cl.xf, cl.word, .inl ⟨rfl, .inl (He.exm_ok (c.fact e1 x1)), cl.at_⟩⟩
theorem caughtS_of (X : K.In h) (G : h.Ns mainGlobals mg) (c : He.SaysD fa fn K) (cl : Cls K x) (j j1 j2 j3 j4 e1 e2 : Nat) (hj : fa[j]? = some (.glo x)) (h1 : fa[j1]? = some (.glo "BadTable")) (h2 : fa[j2]? = some (.glo "BadSheet")) (h3 : fa[j3]? = some (.glo "LagError")) (h4 : fa[j4]? = some (.glo "WorksError"))
    (x1 : fa[e1]? = some (.exm x "BadTable" false)) (x2 : fa[e2]? = some (.exm x "BadSheet" true)) : Caught ⟨P, w, K, mg, base, T⟩ x true :=
  ⟨_, _, _, _, _, He.glo_ok X G (c.fact j hj), He.glo_ok X G (c.fact j1 h1), He.glo_ok X G (c.fact j2 h2), He.glo_ok X G (c.fact j3 h3), He.glo_ok X G (c.fact j4 h4), cl.xf, cl.word, .inl ⟨rfl, .inr ⟨He.exm_ok (c.fact e1 x1), He.exm_ok (c.fact e2 x2)⟩, cl.at_⟩⟩
theorem tried_of {k0 k1 k2 k3 k4 k5 : Nat} {ps : Nat → Pos} (X : K.In h) (G : h.Ns mainGlobals mg) (c : He.SaysD fa fn K) (i j j1 j2 j3 j4 : Nat) (hi : fn[i]? = some ⟨("_law_tried", none), "_law_tried", "_law_tried", defArgs s, defBody s, defScope s, [], []⟩) (hj : fa[j]? = some (.glo "_law_tried"))
    (h1 : fa[j1]? = some (.glo "BadTable")) (h2 : fa[j2]? = some (.glo "BadSheet")) (h3 : fa[j3]? = some (.glo "LagError")) (h4 : fa[j4]? = some (.glo "WorksError")) (hb : defBody s = triedB k0 k1 k2 k3 k4 k5 ps) (S : FnScope ["_law_act", "e"] ["_law_act"] (defScope s))
    (hbi : ∀ (kV doc pm : Value) (an : Option Addr) (cdv ct : Value) (us : List Value), us.length = 1 → bindArgs (PySem.W.fnOf "_law_tried" "_law_tried" (defArgs s) (defBody s) (defScope s) .none kV doc pm an cdv ct) ⟨us, []⟩ = pure ((["_law_act"] : List Str).zip us))
    (hv : (defScope s).names.lookup ("_law_act" : Str) = some .local) (hv2 : (defScope s).names.lookup ("e" : Str) = some .local) (g1 : (defScope s).names.lookup ("BadTable" : Str) = some .globalImplicit) (g2 : (defScope s).names.lookup ("BadSheet" : Str) = some .globalImplicit) (g3 : (defScope s).names.lookup ("LagError" : Str) = some .globalImplicit) (g4 : (defScope s).names.lookup ("WorksError" : Str) = some .globalImplicit) : Tried ⟨P, w, K, mg, base, T⟩ := by
  obtain ⟨fd, F⟩ := c.def_ i hi
  have B := F.bindsN (ps := ["_law_act"]) hbi
  have F' : FunD K "_law_tried" "_law_tried" (defArgs s) (defBody s) (defScope s) [] [] _ fd := F
  rw [hb] at F'
  refine ⟨⟨_, fd, _, _, _, _, _, _, _, _, _, F', He.glo_ok X G (c.fact j hj), S, B, hv, hv2, fun z hz => ?_⟩, ⟨_, _, _, _, He.glo_ok X G (c.fact j1 h1), He.glo_ok X G (c.fact j2 h2), He.glo_ok X G (c.fact j3 h3), He.glo_ok X G (c.fact j4 h4)⟩⟩
  rcases hz with rfl | rfl | rfl | rfl
  · exact g1
  · exact g2
  · exact g3
  · exact g4
theorem code_of {qual : Str} {params : Arguments} {body : List Stmt} {scope : Scope} {q : Str × Option Str} {fd : FuncData} (F : FunD K x qual params body scope [] [] (He.fAd K q) fd) : fd.code = .ref (He.codeOf K q) := by
  obtain ⟨oc, od, dV, kV, doc, pm, an, cdv, ct, osl, rfl, lk, hcd, _, _⟩ := F.ex
  obtain ⟨cc, rfl⟩ := He.codeIn_ref hcd
  rw [He.codeOf_eq (c := cc) lk rfl]
theorem ex_of {exL : List (PySem.W.Frag → Bool)} {f : PySem.W.Frag → Bool} (h : (exL.all fun f => f K) = true) (i : Nat) (hi : exL[i]? = some f) : f K = true := List.all_eq_true.mp h f (List.mem_of_getElem? hi)
end
theorem noCX {P : Program} {w : World} {H : Hp} {s : Shared} {e : Value} {s' : Shared} (h : L2.CX P w [] H s (fun _ _ _ => False) e s') : False := by
  obtain ⟨_, _, _, _, _, _, _, _, _, _, _, _, z⟩ := h
  exact z
def pick {α : Type} (ix : List Nat) (z : α) (xs : List α) : List α := ix.map fun i => xs.getD i z
theorem vals_pick {us : List Value} {vs : List V} (h : Vals vs us) : ∀ {ix : List Nat}, Vals (pick ix .non vs) (pick ix .none us)
  | [] => .nil
  | i :: ix => by
    refine .cons ?_ (vals_pick h)
    induction h generalizing i with
    | nil => exact rfl
    | cons h1 _ ih =>
      cases i with
      | zero => exact h1
      | succ i => exact ih i

theorem args_pick {m : Pm} {F : Hp} {w : Wd} {vs : List V} {as : List En} (h : Args m F w vs as) : ∀ {ix : List Nat}, (∀ i ∈ ix, i < vs.length) → Args m F w (pick ix .non vs) (pick ix .un as)
  | [], _ => .nil
  | i :: ix, hi => by
    refine .cons ?_ (args_pick h fun j hj => hi j (List.mem_cons_of_mem _ hj))
    have hl := hi i (List.mem_cons_self ..)
    clear hi
    induction h generalizing i with
    | nil => cases hl
    | cons h1 _ ih =>
      cases i with
      | zero => exact h1
      | succ i => exact ih i (Nat.lt_of_succ_lt_succ hl)
/-! ### a def -/
theorem start_ok {m : Pm} {F : Hp} {w : Wd} {vs : List V} {as : List En} {N : List Str} {ow : Nat → Addr} (h : Args m F w vs as) (hl : as.length ≤ N.length) : Slots m F F ow (as ++ List.replicate (N.length - as.length) .un) (L2.start N vs) w := by
  have hlen := h.len
  have ne : ∀ (i : Nat) (x : Ow), (as ++ List.replicate (N.length - as.length) En.un)[i]? ≠ some (En.own x) := fun i x z => by
    by_cases hi : i < as.length
    · rw [List.getElem?_append_left hi] at z
      obtain ⟨v, _, q⟩ := h.get i _ z
      exact q
    · rw [List.getElem?_append_right (by omega), List.getElem?_replicate] at z
      split at z <;> cases z
  refine ⟨by unfold L2.start; simp; omega, fun i en hi => ?_, fun i j x y hi => (ne i x hi).elim, fun _ _ e => e, fun i x hi => (ne i x hi).elim⟩
  by_cases hlt : i < as.length
  · rw [List.getElem?_append_left hlt] at hi
    obtain ⟨v, hv, q⟩ := h.get i _ hi
    have e : (L2.start N vs)[i]? = some (some v) := by
      unfold L2.start
      rw [List.getElem?_append_left (by simp; omega), List.getElem?_map, hv]
      rfl
    rw [e]
    cases en with
    | un => exact True.intro
    | dat d => exact ⟨v, rfl, q⟩
    | ro d => exact ⟨v, rfl, q⟩
    | own x => exact q.elim
  · rw [List.getElem?_append_right (by omega), List.getElem?_replicate] at hi
    split at hi
    · cases hi
      exact True.intro
    · cases hi
theorem fn_body {g : Gm} {x qual : Str} {params : Arguments} {body : List Stmt} {scope : Scope} {dvs : List V} {kws : List (Str × V)} {f : Addr} {fd : FuncData} {N ps : List Str} {k kf np n : Nat} {nm : Nm} {E : Ev} {b : Sms}
    (F : FunD g.K x qual params body scope dvs kws f fd) (S : FnScope N ps scope) (hf : Fx g kf nm E) (hk : kf ≤ k) (hc : chkSs nm N scope true false b body = true) (hnp : ps.length = np) (hn : N.length = n) :
    FnOk g.P g.w g.K g.mg g.base (L2.CX g.P g.w) (k + 1) f fd ps (spD g (evF E np n b)) := by
  subst hnp hn
  have hpl : ps.length ≤ N.length := by have := congrArg List.length S.pre; rw [List.length_take] at this; omega
  have key : ∀ {as : List En} {κ : Ks} {Φ : Rs → Ks → Prop} {Ψ : Exc → Ks → Prop}, (evF E ps.length N.length b as κ).sat Φ Ψ → as.length = ps.length ∧ (evSs E (as ++ List.replicate (N.length - ps.length) .un) b κ).sat (Pst.o { nx := fun _ κ' => Φ (.dat .none) κ', rt := Φ }) Ψ := fun {as κ Φ Ψ} h => by
    unfold evF at h
    by_cases e : as.length = ps.length
    · rw [if_pos e, sat_bind] at h
      refine ⟨e, h.imp (fun o κ' z => ?_) fun _ _ z => z⟩
      cases o with
      | nx ρ => exact z
      | rt r => exact z
      | bk ρ => exact z.elim
      | ct ρ => exact z.elim
    · rw [if_neg e] at h
      exact h.elim
  refine F.ok S (fun vs H Q E h => ?_) fun cdv A outer s H vs Q E' hr h => ?_
  · obtain ⟨m, F', w, as, _, _, _, _, ha, Φ, Ψ, hs, _⟩ := h
    rw [ha.len]
    exact (key hs).1
  · obtain ⟨m, F', w, as, hK, hmg, hT, st, ha, Φ, Ψ, hs, hQ, hE⟩ := h
    obtain ⟨hl, hs⟩ := key hs
    have hX : Fr ⟨g, N, scope, k, true, none, none, fun _ _ _ _ => False⟩ (cxOf (L2.CX g.P g.w) g.P g.w g.K g.mg g.base N qual scope f cdv A outer s H E') :=
      ⟨rfl, rfl, rfl, rfl, rfl, rfl, rfl, hr, fun _ _ => rfl, fun _ => ⟨rfl, rfl⟩, fun _ _ _ z => nomatch z⟩
    have tk : Takes (cxOf (L2.CX g.P g.w) g.P g.w g.K g.mg g.base N qual scope f cdv A outer s H E') (fun cls d _ H' => ExcPost m F' w Ψ cls d H') :=
      (takes_of rfl rfl rfl rfl).imp fun cls d σ H' z => hE cls d H' z
    have xo : XOk ⟨g, N, scope, k, true, none, none, fun _ _ _ _ => False⟩ (cxOf (L2.CX g.P g.w) g.P g.w g.K g.mg g.base N qual scope f cdv A outer s H E') m F' w Ψ := ⟨hK, hmg, hT, S.nd, rfl, fun _ => passes_of (K := fun e s'' => L2.CX g.P g.w outer H s E' e s'') rfl, tk, fun _ _ _ _ z => (nomatch z)⟩
    have q := (sndMs b ⟨g, N, scope, k, true, none, none, fun _ _ _ _ => False⟩ body hf ⟨hk, fun _ _ _ z => (nomatch z), fun _ _ _ _ z => (nomatch z)⟩ hc _ _ _ Ψ hs).run (w0 := w) (ow := fun _ => 0) ⟨hX, xo, .refl _, by rw [← hl]; exact start_ok ha (by rw [hl]; exact hpl), st⟩ rfl
    refine wSs_mono q (fun σ' H' z => ?_) (fun v H' z => ?_) (fun σ' H' z => ?_) (fun σ' H' z => ?_)
    · obtain ⟨ρ', F2, ow', w', h1, h2, h3, h4⟩ := z
      obtain ⟨w3, e3, k3, at_⟩ := (show RsAt m F2 w' .non H' (.dat .none) from ⟨h4, .non⟩).back h3.sub
      exact hQ (.dat .none) .non w3 H' (by rw [k3]; exact h1) (h2.trans e3) at_
    · obtain ⟨r, w', h1, h2, h3⟩ := z
      exact hQ r v w' H' h1 h2 h3
    · obtain ⟨_, _, _, _, z, _⟩ := z
      exact z.elim
    · obtain ⟨_, _, _, _, z, _⟩ := z
      exact z.elim
section
variable {g : Gm} {x : Str} {s : Stmt} {N ps : List Str} {k kf np n : Nat} {nm : Nm} {E : Ev} {b : Sms}
/-- a def without defaults -/
theorem fn_def (h : HasDef g x s []) (S : FnScope N ps (defScope s)) (hb : ∀ (kV doc pm : Value) (an : Option Addr) (cdv ct : Value) (us : List Value), us.length = ps.length → bindArgs (PySem.W.fnOf x x (defArgs s) (defBody s) (defScope s) .none kV doc pm an cdv ct) ⟨us, []⟩ = pure (ps.zip us))
    (hf : Fx g kf nm E) (hc : chkSs nm N (defScope s) true false b (defBody s) = true) (hnp : ps.length = np) (hn : N.length = n) : CallD g (kf + 1) x (evF E np n b) := by
  obtain ⟨f, fd, F, hm⟩ := h
  exact ⟨f, fd, ps, [], [], [], _, hm, F.kp, F.bindsN hb, .nil, fun _ _ _ _ _ => .nil, fn_body F S hf (Nat.le_refl _) hc hnp hn, fun as => by rw [List.map_nil, List.append_nil]⟩
/-- keyword-only parameters, all left out -/
theorem fn_kw {kws : List (Str × V)} {dds : List D} (h : HasDef g x s kws) (S : FnScope N ps (defScope s)) (n0 : Nat) (hk : kws ≠ []) (hn0 : n0 + kws.length = ps.length)
    (hb : ∀ (D : Addr) (doc pm : Value) (an : Option Addr) (cdv ct : Value) (us ks : List Value), us.length = n0 → ks.length = kws.length → KwChain D ((kws.map (·.1)).zip ks) (bindArgs (PySem.W.fnOf x x (defArgs s) (defBody s) (defScope s) .none (.ref D) doc pm an cdv ct) ⟨us, []⟩) (ps.zip (us ++ ks)))
    (hd : ∀ m G A, RepAll m G A (kws.map (·.2)) dds) (hf : Fx g kf nm E) (hc : chkSs nm N (defScope s) true false b (defBody s) = true) (hnp : ps.length = np) (hn : N.length = n) : CallD g (kf + 1) x (fun as => evF E np n b (as ++ dds.map .dat)) := by
  obtain ⟨f, fd, F, hm⟩ := h
  obtain ⟨vs, hv, hB⟩ := F.binds0 (ps := ps) n0 hk hn0 hb
  exact ⟨f, fd, ps, _, vs, dds, _, hm, F.kp, hB, hv, fun m G A _ _ => hd m G A, fn_body F S hf (Nat.le_refl _) hc hnp hn, fun as => rfl⟩
/-- all parameters are written, some by keywords in any order: ix: where each parameter's value stands -/
theorem fn_kwP {kws : List (Str × V)} {ks : List Str} (ix : List Nat) (h : HasDef g x s kws) (S : FnScope N ps (defScope s)) (n0 : Nat) (hix : ∀ i ∈ ix, i < n0 + ks.length)
    (hb : ∀ (kV doc pm : Value) (an : Option Addr) (cdv ct : Value) (us ws : List Value), us.length = n0 → ws.length = ks.length → bindArgs (PySem.W.fnOf x x (defArgs s) (defBody s) (defScope s) .none kV doc pm an cdv ct) ⟨us, ks.zip ws⟩ = pure (ps.zip (pick ix .none (us ++ ws))))
    (hf : Fx g kf nm E) (hc : chkSs nm N (defScope s) true false b (defBody s) = true) (hnp : ps.length = np) (hn : N.length = n) : CallK g (kf + 1) x n0 ks (fun as => evF E np n b (pick ix .un as)) := by
  obtain ⟨f, fd, F, hm⟩ := h
  refine ⟨f, fd, ps, (fun us ws => pick ix .none (us ++ ws)), (fun us ws => pick ix .non (us ++ ws)), (fun as bs => pick ix .un (as ++ bs)), evF E np n b, hm, F.kp, ?_, fun _ h1 h2 l1 l2 => args_pick (h1.app h2) (by rw [List.length_append, l1, l2]; exact hix), fn_body F S hf (Nat.le_refl _) hc hnp hn, fun as bs _ => rfl⟩
  obtain ⟨oc, od, dV, kV, doc, pm, an, cdv, ct, osl, rfl, lk, hcd, hD, hK⟩ := F.ex
  rcases hD with ⟨_, rfl⟩ | ⟨e, _⟩
  · exact ⟨fun s us ws _ h1 h2 => .of_eq (hb kV doc pm an cdv ct us ws h1 h2), fun h1 h2 => vals_pick (h1.append h2)⟩
  · exact absurd rfl e
end
/-! ### the law itself -/
def bagL (c : Addr) (i j s t : Int) : List V := [.ref c, .int i, .int j, .int s, .int t]
def bagC (ns : List Int) (i j s t : Int) : Cell := .lst [.list (ns.map .int), .int i, .int j, .int s, .int t]
/-- _law_bag(script): a new bag -/
def spBag (K : PySem.W.Frag) : Sp := fun vs H Q _ => ∃ (a : Addr) (ns : List Int), vs = [.ref a] ∧ SqL K H a (ns.map V.int) ∧ ns.length ≤ 63 ∧
  ∀ (H' : Hp) (b c : Addr) (salt : Int), Same H H' → H b = none → c ≠ b → H' c = some (.lst (ns.map V.int)) → H' b = some (.lst (bagL c 0 0 salt 0)) → 0 ≤ salt ∧ salt < 2147483563 → Q (.ref b) H'
structure BagFn (g : Gm) (k : Nat) : Prop where
  ex : ∃ (f : Addr) (fd : FuncData) (ps : List Str), g.mg "_law_bag" = some (.ref f) ∧ PySem.W.keepIn g.K (.ref f) = true ∧ Binds g.K fd ps [] ∧ FnOk g.P g.w g.K g.mg g.base (L2.CX g.P g.w) k f fd ps (spBag g.K)
/-- law(script): True -/
def spLaw (g : Gm) : Sp := fun vs H Q _ => ∃ (a : Addr) (ns : List Int), vs = [.ref a] ∧ SqL g.K H a (ns.map V.int) ∧ ns.length ≤ 63 ∧ (∀ p ∈ g.T, H p.1 = some (.tbl #[])) ∧ ∀ H', Q (.bl true) H'
open Classical in
theorem law_start {g : Gm} {L : Nat → Ex → Arguments → Expr → Scope → List (Str × Addr) → Str → Prop} {H H' : Hp} {b c : Addr} {ns : List Int} {salt : Int} (hT : ∀ p ∈ g.T, H p.1 = some (.tbl #[])) (sm : Same H H') (nb : H b = none) (ncb : c ≠ b) (hc : H' c = some (.lst (ns.map V.int))) (hb : H' b = some (.lst (bagL c 0 0 salt 0))) :
    ∃ G : Hp, St0 ⟨g.K, g.mg, g.T, L⟩ (fun _ => none) ⟨G, fun a => if a = b then some (.lst (bagL c 0 0 salt 0)) else none, [b], [bagC ns 0 0 salt 0]⟩ H' := by
  have nT : ∀ p ∈ g.T, p.1 ≠ b := fun p hp z => by rw [← z, hT p hp] at nb; cases nb
  have tb : ∀ p ∈ g.T, H' p.1 = some (.tbl #[]) := fun p hp => sm _ _ (hT p hp)
  have hCb : ∀ a, (fun a => if a = b then some (HO.lst (bagL c 0 0 salt 0)) else none) a = none → a ≠ b := fun a h z => by
    have h' : (if a = b then some (HO.lst (bagL c 0 0 salt 0)) else none) = none := h
    rw [if_pos z] at h'
    cases h'
  let G : Hp := fun a => if a = b ∨ (∃ p ∈ g.T, p.1 = a) then none else noTbl (H' a)
  have hGc : G c = some (.lst (ns.map V.int)) := by
    show (if c = b ∨ (∃ p ∈ g.T, p.1 = c) then none else noTbl (H' c)) = _
    rw [if_neg (fun z => by
      rcases z with z | ⟨p, hp, z⟩
      · exact ncb z
      · rw [← z, tb p hp] at hc
        cases hc), hc]
    rfl
  refine ⟨G, fun _ _ z => (nomatch z), fun a o e => ?_, fun p hp => ?_, fun a _ h2 h3 => ?_, fun a ps q => ?_, fun _ _ z => (nomatch z), fun a => ?_, ⟨rfl, by simp, fun k a cl hk hcl => ?_⟩, fun _ _ z => (nomatch z), fun a φ z => ?_⟩
  · have e' : (if a = b then some (HO.lst (bagL c 0 0 salt 0)) else none) = some o := e
    by_cases z : a = b
    · rw [if_pos z] at e'
      cases e'
      subst z
      exact ⟨hb, if_pos (.inl rfl)⟩
    · rw [if_neg z] at e'
      cases e'
  · refine ⟨LamX.TabS.nil (tb p hp), if_pos (.inr ⟨p, hp, rfl⟩), if_neg (nT p hp), rfl⟩
  · have h2' := hCb a h2
    show H' a = (if a = b ∨ (∃ p ∈ g.T, p.1 = a) then none else noTbl (H' a)) ∨ ((∃ ps, H' a = some (.tbl ps)) ∧ (if a = b ∨ (∃ p ∈ g.T, p.1 = a) then none else noTbl (H' a)) = none)
    rw [if_neg (fun z => by
      rcases z with z | ⟨p, hp, z⟩
      · exact h2' z
      · exact h3 p hp z)]
    cases q : H' a with
    | none => exact .inl rfl
    | some o =>
      cases o with
      | tbl ps => exact .inr ⟨⟨ps, rfl⟩, rfl⟩
      | _ => exact .inl rfl
  · have q' : (if a = b ∨ (∃ p ∈ g.T, p.1 = a) then none else noTbl (H' a)) = some (.tbl ps) := q
    split at q'
    · cases q'
    · exact noTbl_ne q'
  · show (∀ ps, (if a = b then some (HO.lst (bagL c 0 0 salt 0)) else none) ≠ _) ∧ ∀ c' q, (if a = b then some (HO.lst (bagL c 0 0 salt 0)) else none) ≠ _
    by_cases z : a = b
    · rw [if_pos z]
      exact ⟨fun ps e => lst_tbl ps (Option.some.inj e), fun c' q e => lst_code c' q (Option.some.inj e)⟩
    · rw [if_neg z]
      exact ⟨fun ps e => (nomatch e), fun c' q e => nomatch e⟩
  · cases k with
    | zero =>
      have hk' : some b = some a := hk
      have hc' : some (bagC ns 0 0 salt 0) = some cl := hcl
      cases hk'
      cases hc'
      exact ⟨bagL c 0 0 salt 0, if_pos rfl, .cons (.lst hGc (RepAll.ints ns)) (.cons (.int _) (.cons (.int _) (.cons (.int _) (.cons (.int _) .nil))))⟩
    | succ k =>
      have hk' : ([] : List Addr)[k]? = some a := hk
      simp at hk'
  · have z' : (if a = b then some (HO.lst (bagL c 0 0 salt 0)) else none) = some (.ext φ) := z
    split at z'
    · cases z'
    · cases z'
theorem law_ok {g : Gm} {params : Arguments} {scope : Scope} {f : Addr} {fd : FuncData} {N : List Str} {k kf kb : Nat} {p1 p2 p3 p4 p5 : Pos} {rest : List Stmt} {lam : Option (Addr × Addr × Str)} {act : Option Nat} {LP : Ex → Arguments → Expr → Scope → Prop} {nm : Nm} {E : Ev} {b : Sms}
    (F : FunD g.K "law" "law" params (.Assign [.Name "_law_bag_here" p1] (.Call (.Name "_law_bag" p2) [.Name "_law_script" p3] [] p4) p5 :: rest) scope [] [] f fd) (S : FnScope ("_law_script" :: "_law_bag_here" :: N) ["_law_script"] scope)
    (hlam : ∀ c P q, lam = some (c, P, q) → fd.code = .ref c ∧ LamX.TabB g.base g.mg c P ∧ q = "law.<locals>.<lambda>") (bag : BagFn g kb) (hkb : kb ≤ k) (hgb : scope.names.lookup ("_law_bag" : Str) = some .globalImplicit) (hv1 : visB scope "_law_script" = true) (hl1 : locB scope true "_law_bag_here" = true)
    (hf : Fx g kf nm E) (hgok : Gok nm kf E ⟨g, "_law_script" :: "_law_bag_here" :: N, scope, k, true, lam, act, LP⟩) (hc : chkSs nm ("_law_script" :: "_law_bag_here" :: N) scope true lam.isSome b rest = true)
    (hrest : ∀ (ns : List Int) (salt : Int), ns.length ≤ 63 → 0 ≤ salt → salt < 2147483563 → (evSs E (.un :: .dat (.hd 0) :: List.replicate N.length .un) b [bagC ns 0 0 salt 0]).sat (fun o _ => o = .rt (.dat (.bool true))) NoXK) :
    FnOk g.P g.w g.K g.mg g.base (L2.CX g.P g.w) (k + 1) f fd ["_law_script"] (spLaw g) := by
  obtain ⟨oc, od, dV, kV, doc, pm, an, cdv, ct, osl, rfl, lk, hcd, _, _⟩ := F.ex
  refine fn_of lk hcd S (fun vs H Q E h => ?_) fun A outer s H vs Q E' hr h => ?_
  · obtain ⟨a, ns, rfl, _⟩ := h
    rfl
  · obtain ⟨a, ns, rfl, hS, hl, hT, hQ⟩ := h
    obtain ⟨fb, fdb, psb, mb, kpb, bb, fob⟩ := bag.ex
    have hX : Fr ⟨g, "_law_script" :: "_law_bag_here" :: N, scope, k, true, lam, act, LP⟩ (cxOf (L2.CX g.P g.w) g.P g.w g.K g.mg g.base ("_law_script" :: "_law_bag_here" :: N) "law" scope f cdv A outer s H E') :=
      ⟨rfl, rfl, rfl, rfl, rfl, rfl, rfl, hr, fun _ _ => rfl, fun _ => ⟨rfl, rfl⟩, fun c P q e => by
        obtain ⟨h1, h2, h3⟩ := hlam c P q e
        exact ⟨h1, h2, by rw [h3]; kernel_rfl⟩⟩
    generalize hXe : cxOf (L2.CX g.P g.w) g.P g.w g.K g.mg g.base ("_law_script" :: "_law_bag_here" :: N) "law" scope f cdv A outer s H E' = X at hX
    have tk : Takes X (fun _ _ _ _ => False) := L2.takes0
    have hgX : Gl X "_law_bag" := by
      show X.env.scope.names.lookup _ = _
      rw [hX.sc]
      exact hgb
    have hp0 : Passes (L2.CX X.prog X.w) X E0 := passL
    refine ⟨_, pss_cons (ps_set (i := 1) (by rw [hX.N]; exact S.nd) (by rw [hX.N]; rfl) (hX.loc hl1).1 (pe_call (call_fr hX fob) (hX.room.mono hkb) hgX (by rw [hX.mg]; exact mb) (by rw [hX.K]; exact kpb) (by rw [hX.K]; exact bb) .nil hp0 (pa_cons (pe_var (i := 0) (by rw [hX.N]; rfl) (hX.vis hv1) (by kernel_rfl) (by kernel_rfl)) pa_nil) (by kernel_rfl)) (by kernel_rfl) (hX.loc hl1).2) pss_w, ?_⟩
    refine ⟨.ref a, rfl, a, ns, rfl, hS, hl, fun H' bb c salt sm nb ncb hc' hb hs => ?_⟩
    obtain ⟨L, hL⟩ : ∃ L : Nat → Ex → Arguments → Expr → Scope → List (Str × Addr) → Str → Prop, L = fun x t pr bd sc cl q' => act = some x ∧ ∃ c P q, lam = some (c, P, q) ∧ LP t pr bd sc ∧ cl = cloFrom X.env.cells sc.names [] ∧ q' = q := ⟨_, rfl⟩
    obtain ⟨G, st⟩ := law_start (L := L) hT sm nb ncb hc' hb
    generalize hw : (⟨G, fun a => if a = bb then some (.lst (bagL c 0 0 salt 0)) else none, [bb], [bagC ns 0 0 salt 0]⟩ : Wd) = w at st
    have hwk : w.κ = [bagC ns 0 0 salt 0] := by rw [← hw]
    have hwA : w.A = [bb] := by rw [← hw]
    have xo : XOk ⟨g, "_law_script" :: "_law_bag_here" :: N, scope, k, true, lam, act, LP⟩ X ⟨g.K, g.mg, g.T, L⟩ (fun _ => none) w NoXK := ⟨hX.K.symm, hX.mg.symm, rfl, by rw [hX.N]; exact S.nd, by rw [← hXe]; rfl, by rw [← hXe]; exact fun _ => passes_of (K := fun e s'' => L2.CX g.P g.w outer H s E' e s'') rfl, tk.imp fun _ _ _ _ ⟨_, _, _, _, z, _⟩ => z, fun x c P q ha hl t pr bd sc cl q' => by
      have ha' : act = some x := ha
      have hl' : lam = some (c, P, q) := hl
      rw [hL]
      exact ⟨fun ⟨_, c', P', q2, e, h1, h2, h3⟩ => by rw [hl'] at e; cases e; exact ⟨h1, h2, h3⟩, fun ⟨h1, h2, h3⟩ => ⟨ha', c, P, q, hl', h1, h2, h3⟩⟩⟩
    have sl : Slots ⟨g.K, g.mg, g.T, L⟩ (fun _ => none) (fun _ => none) (fun _ => 0) (.un :: .dat (.hd 0) :: List.replicate N.length .un) ((L2.start ("_law_script" :: "_law_bag_here" :: N) [V.ref a]).set 1 (some (.ref bb))) w := by
      have ne : ∀ (i : Nat) (x : Ow), (En.un :: En.dat (.hd 0) :: List.replicate N.length En.un)[i]? ≠ some (En.own x) := fun i x z => by
        match i, z with
        | 0, z => cases z
        | 1, z => cases z
        | i + 2, z =>
          have z' : (List.replicate N.length En.un)[i]? = some (En.own x) := z
          rw [List.getElem?_replicate] at z'
          split at z' <;> cases z'
      refine ⟨by simp [L2.start], fun i en hi => ?_, fun i j x y hi => (ne i x hi).elim, fun _ _ z => z, fun i x hi => (ne i x hi).elim⟩
      match i, hi with
      | 0, hi =>
        cases hi
        exact True.intro
      | 1, hi =>
        cases hi
        exact ⟨.ref bb, rfl, .hd (by rw [hwA]; rfl)⟩
      | i + 2, hi =>
        have hi' : (List.replicate N.length En.un)[i]? = some en := hi
        rw [List.getElem?_replicate] at hi'
        split at hi'
        · cases hi'
          exact True.intro
        · cases hi'
    have q := (sndMs b ⟨g, "_law_script" :: "_law_bag_here" :: N, scope, k, true, lam, act, LP⟩ rest hf hgok hc _ _ { nx := fun _ _ => False, rt := fun r _ => r = .dat (.bool true) } NoXK ((hrest ns salt hl hs.1 hs.2).imp (fun o κ' z => by rw [z]; exact rfl) fun _ _ z => z)).run (F0 := fun _ => none) (w0 := w) (ow := fun _ => 0) ⟨hX, xo, .refl _, sl, st⟩ hwk
    refine wSs_mono q (fun σ' H2 z => ?_) (fun v H2 z => ?_) (fun σ' H2 z => ?_) (fun σ' H2 z => ?_)
    · obtain ⟨_, _, _, _, z, _⟩ := z
      exact z.elim
    · obtain ⟨r, w2, rfl, _, _, dp⟩ := z
      rw [Rep.bool_inv dp]
      exact hQ H2
    · obtain ⟨_, _, _, _, z, _⟩ := z
      exact z.elim
    · obtain ⟨_, _, _, _, z, _⟩ := z
      exact z.elim
end VL

namespace VL
open PySem PySem.Spec PyProof.Rows L2
/-! ### facts by lists -/
inductive CallsOk (g : Gm) (kf : Nat) : List Str → List FnM → Prop
  | nil : CallsOk g kf [] []
  | cons {x : Str} {f : FnM} {xs : List Str} {fs : List FnM} {k : Nat} : CallD g k x f → k ≤ kf → CallsOk g kf xs fs → CallsOk g kf (x :: xs) (f :: fs)
theorem CallsOk.get {g : Gm} {kf : Nat} : ∀ {xs : List Str} {fs : List FnM}, CallsOk g kf xs fs → ∀ (j : Nat) (x : Str), xs[j]? = some x → ∃ f, fs[j]? = some f ∧ ∃ k, k ≤ kf ∧ CallD g k x f
  | _, _, .nil, j, x, h => by simp at h
  | _, _, .cons c hk _, 0, x, h => by
    simp at h
    subst h
    exact ⟨_, rfl, _, hk, c⟩
  | _, _, .cons _ _ r, j + 1, x, h => r.get j x (by simpa using h)
inductive KCallsOk (g : Gm) (kf : Nat) : List (Str × Nat × List Str) → List FnM → Prop
  | nil : KCallsOk g kf [] []
  | cons {x : Str} {n : Nat} {ks : List Str} {f : FnM} {xs : List (Str × Nat × List Str)} {fs : List FnM} {k : Nat} : CallK g k x n ks f → k ≤ kf → KCallsOk g kf xs fs → KCallsOk g kf ((x, n, ks) :: xs) (f :: fs)
theorem KCallsOk.get {g : Gm} {kf : Nat} : ∀ {xs : List (Str × Nat × List Str)} {fs : List FnM}, KCallsOk g kf xs fs → ∀ (j : Nat) (x : Str) (n : Nat) (ks : List Str), xs[j]? = some (x, n, ks) → ∃ f, fs[j]? = some f ∧ ∃ k, k ≤ kf ∧ CallK g k x n ks f
  | _, _, .nil, j, x, n, ks, h => by simp at h
  | _, _, .cons c hk _, 0, x, n, ks, h => by
    simp at h
    obtain ⟨rfl, rfl, rfl⟩ := h
    exact ⟨_, rfl, _, hk, c⟩
  | _, _, .cons _ _ r, j + 1, x, n, ks, h => r.get j x n ks (by simpa using h)
inductive GlsOk (g : Gm) : List Str → List D → Prop
  | nil : GlsOk g [] []
  | cons {x : Str} {d : D} {xs : List Str} {ds : List D} : GlD g x d → GlsOk g xs ds → GlsOk g (x :: xs) (d :: ds)
theorem GlsOk.get {g : Gm} : ∀ {xs : List Str} {ds : List D}, GlsOk g xs ds → ∀ (j : Nat) (x : Str) (d : D), xs[j]? = some x → ds[j]? = some d → GlD g x d
  | _, _, .nil, j, x, d, h, _ => by simp at h
  | _, _, .cons c _, 0, x, d, h, h' => by
    simp at h h'
    subst h h'
    exact c
  | _, _, .cons _ r, j + 1, x, d, h, h' => r.get j x d (by simpa using h) (by simpa using h')
inductive GdsOk (g : Gm) : List Str → List (List (Str × D)) → Prop
  | nil : GdsOk g [] []
  | cons {x : Str} {d : List (Str × D)} {xs : List Str} {ds : List (List (Str × D))} : GlT g x d → GdsOk g xs ds → GdsOk g (x :: xs) (d :: ds)
theorem GdsOk.get {g : Gm} : ∀ {xs : List Str} {ds : List (List (Str × D))}, GdsOk g xs ds → ∀ (j : Nat) (x : Str) (d : List (Str × D)), xs[j]? = some x → ds[j]? = some d → GlT g x d
  | _, _, .nil, j, x, d, h, _ => by simp at h
  | _, _, .cons c _, 0, x, d, h, h' => by
    simp at h h'
    subst h h'
    exact c
  | _, _, .cons _ r, j + 1, x, d, h, h' => r.get j x d (by simpa using h) (by simpa using h')
inductive All {α : Type} (P : α → Prop) : List α → Prop
  | nil : All P []
  | cons {a : α} {as : List α} : P a → All P as → All P (a :: as)
theorem All.get {α : Type} {P : α → Prop} : ∀ {l : List α}, All P l → ∀ a ∈ l, P a
  | _, .nil, a, h => by cases h
  | _, .cons p r, a, h => by
    rcases List.mem_cons.mp h with rfl | h
    · exact p
    · exact r.get a h
def X0 (g : Gm) (x : Str) : Prop := ExC g 1 x 0 (fun _ => [("word", .str x)])
def X1 (g : Gm) (q : Str × Str) : Prop := ExC g 1 q.1 1 (fun ws => [(q.2, ws.getD 0 .non), ("word", .str q.1)])
theorem mkFx {g : Gm} {kf : Nat} {fns : List Str} {fks : List (Str × Nat × List Str)} {gls bis xs0 : List Str} {xs1 : List (Str × Str)} {fs ks : List FnM} {gs : List D} {tr : Exc → Option D} {lid : Option Nat} {lamM : Ex → List En → M Rs} {gds : List Str} {gdd : List (List (Str × D))} (h1 : CallsOk g kf fns fs) (h2 : KCallsOk g kf fks ks) (h3 : GlsOk g gls gs) (h4 : All (fun x => g.mg x = none) bis) (h5 : All (X0 g) xs0) (h6 : All (X1 g) xs1) (hk : xs0 = [] ∧ xs1 = [] ∨ 2 ≤ kf) (h7 : GdsOk g gds gdd) :
    Fx g kf ⟨fns, fks, gls, bis, xs0, xs1, lid, gds⟩ ⟨fs, ks, gs, tr, lamM, gdd⟩ where
  gds := h7.get
  fns := h1.get
  fks := h2.get
  gls := h3.get
  bis := fun x h => h4.get x (by simpa using h)
  xs0 := fun x h => ⟨1, by
    rcases hk with ⟨rfl, rfl⟩ | hk
    · cases h
    · exact hk, h5.get x (by simpa using h)⟩
  xs1 := fun x fl h => ⟨1, by
    rcases hk with ⟨rfl, rfl⟩ | hk
    · cases h
    · exact hk, h6.get (x, fl) (by simpa using h)⟩
/-- the lambdas of a frame: by their trees -/
def LPof (nm : Nm) (N : List Str) (scope : Scope) : Ex → Arguments → Expr → Scope → Prop := fun t pr bd sc' => LamX.lamSB scope sc' = true ∧ defB pr = true ∧ chkX nm N sc' false false t bd = true
theorem gok_act {g : Gm} {N : List Str} {scope : Scope} {k kf x0 : Nat} {lam : Option (Addr × Addr × Str)} {nm : Nm} {E E0 : Ev} (hl : nm.lid = some x0) (hE : E.lamM = fun t ρ => evX E0 ρ t) (hF : Fx g kf nm E0) :
    ∀ c P q x, (⟨g, N, scope, k, true, lam, some x0, LPof nm N scope⟩ : Ctx).lam = some (c, P, q) → nm.lid = some x → (⟨g, N, scope, k, true, lam, some x0, LPof nm N scope⟩ : Ctx).act = some x ∧
      (∀ t pr bd sc', LamX.lamSB scope sc' = true → defB pr = true → chkX nm N sc' false false t bd = true → LPof nm N scope t pr bd sc') ∧
      ∀ t pr bd sc', LPof nm N scope t pr bd sc' → LamX.lamSB scope sc' = true ∧ defB pr = true ∧ ∀ ρ κ Φ Ψ, (E.lamM t ρ κ).sat Φ Ψ → EV ((⟨g, N, scope, k, true, lam, some x0, LPof nm N scope⟩ : Ctx).lamc sc' kf) Ψ ρ κ bd Φ := fun c P q x _ h => by
  rw [hl] at h
  cases h
  refine ⟨rfl, fun t pr bd sc' a b c => ⟨a, b, c⟩, fun t pr bd sc' hp => ⟨hp.1, hp.2.1, fun ρ κ Φ Ψ s => ?_⟩⟩
  rw [hE] at s
  exact (sndX t).1 _ bd hF (Gok.lamc sc') hp.2.2 ρ κ Φ Ψ s
/-- what _law_tried tells -/
def trL (twos ones : List Str) : Exc → Option D := fun x => if twos.contains x.1 = true then (match x.2.lookup ("word" : Str), x.2.lookup ("at" : Str) with
    | some w, some v => some (.tuple [w, v])
    | _, _ => none) else if ones.contains x.1 = true then (x.2.lookup ("word" : Str)).map fun w => .tuple [w] else none
theorem trL_ok {g : Gm} {twos ones : List Str} (h1 : All (fun x => Caught g x true) twos) (h2 : All (fun x => Caught g x false) ones) : TrOk g (trL twos ones) := fun x d h => by
  unfold trL at h
  split at h
  · rename_i c
    split at h
    · rename_i w v e1 e2
      cases h
      exact ⟨true, w, h1.get x.1 (by simpa using c), e1, .inl ⟨rfl, v, e2, rfl⟩⟩
    · cases h
  · split at h
    · rename_i c
      cases e : x.2.lookup ("word" : Str) with
      | none => rw [e] at h; cases h
      | some w =>
        rw [e] at h
        cases h
        exact ⟨false, w, h2.get x.1 (by simpa using c), rfl, .inr ⟨rfl, rfl⟩⟩
    · cases h
theorem CallD.up {g : Gm} {k k' : Nat} {x : Str} {f : FnM} (F : CallD g k x f) (h : k ≤ k') : CallD g k' x f := by
  obtain ⟨fa, fd, ps, dvs, ds, dds, f0, h1, h2, h3, h4, h5, h6, h7⟩ := F.ex
  exact ⟨fa, fd, ps, dvs, ds, dds, f0, h1, h2, h3, h4, h5, ⟨h6.len, fun A st s H args vs' us Q E hr => h6.run A st s H args vs' us Q E (hr.mono h)⟩, h7⟩
/-- a def of which nothing is said -/
theorem fn_fail {g : Gm} {x : Str} {s : Stmt} {N ps : List Str} (h : HasDef g x s []) (S : FnScope N ps (defScope s)) (hb : ∀ (kV doc pm : Value) (an : Option Addr) (cdv ct : Value) (us : List Value), us.length = ps.length → bindArgs (PySem.W.fnOf x x (defArgs s) (defBody s) (defScope s) .none kV doc pm an cdv ct) ⟨us, []⟩ = pure (ps.zip us)) : CallD g 1 x (fun _ => M.fail) := by
  obtain ⟨f, fd, F, hm⟩ := h
  refine ⟨f, fd, ps, [], [], [], fun _ => M.fail, hm, F.kp, F.bindsN hb, .nil, fun _ _ _ _ _ => .nil, ?_, fun as => rfl⟩
  refine F.ok S (fun vs H Q E h => ?_) fun cdv A outer s H vs Q E' hr h => ?_
  · obtain ⟨m, F', w, as, _, _, _, _, ha, Φ, Ψ, hs, _⟩ := h
    exact hs.elim
  · obtain ⟨m, F', w, as, _, _, _, _, ha, Φ, Ψ, hs, _⟩ := h
    exact hs.elim
end VL

namespace VL
open PySem PySem.Spec PyProof.Rows L2
/-! ### reckoning with the evaluator -/
section
variable {α β : Type} {a : α} {κ : Ks}
theorem bind_ret {f : α → M β} : M.bind (M.ret a) f = f a := rfl
theorem bind_fail {f : α → M β} : M.bind (M.fail : M α) f = M.fail := rfl
theorem bind_raise {x : Exc} {f : α → M β} : M.bind (M.raise x : M α) f = M.raise x := rfl
theorem bind_bind {γ : Type} {m : M α} {f : α → M β} {g : β → M γ} : M.bind (M.bind m f) g = M.bind m fun a => M.bind (f a) g := by
  funext κ
  unfold M.bind
  cases m κ <;> rfl
theorem ofO_some : M.ofO (some a) = M.ret a := rfl
theorem ofO_none : M.ofO (none : Option α) = M.fail := rfl
theorem rd_some : M.rd (fun _ => some a) = M.ret a := rfl
theorem datR_ret {r : Rs} : datR (M.ret r) = M.ret r.data := rfl
theorem bind_if {c : Prop} [Decidable c] {m m' : M α} {f : α → M β} : M.bind (if c then m else m') f = if c then M.bind m f else M.bind m' f := by split <;> rfl
theorem opB_addI {i j : Int} : opB .Add κ (.int i) (.int j) = some (.dat (.int (i + j))) := rfl
theorem opB_subI {i j : Int} : opB .Sub κ (.int i) (.int j) = some (.dat (.int (i - j))) := rfl
theorem opB_mulI {i j : Int} (h : cMul i j = true) : opB .Mult κ (.int i) (.int j) = some (.dat (.int (i * j))) := if_pos h
theorem opB_modI {i j : Int} (h : 0 < j) : opB .Mod κ (.int i) (.int j) = some (.dat (.int (i % j))) := if_pos h
theorem opB_divI {i j : Int} (h : cDiv i j = true) : opB .FloorDiv κ (.int i) (.int j) = some (.dat (.int (i / j))) := if_pos h
theorem opB_cat {xs ys : List D} (h : xs.length + ys.length ≤ sizeLine) : opB .Add κ (.list xs) (.list ys) = some (.new (.lst (xs ++ ys))) := if_pos h
theorem opB_catT {xs ys : List D} (h : xs.length + ys.length ≤ sizeLine) : opB .Add κ (.tuple xs) (.tuple ys) = some (.dat (.tuple (xs ++ ys))) := if_pos h
theorem opB_rep {xs : List D} {k : Int} (h : -(2 ^ 63) ≤ k ∧ k < 2 ^ 63 ∧ xs.length * k.toNat ≤ sizeLine) : opB .Mult κ (.list xs) (.int k) = some (.new (.lst (List.replicate k.toNat xs).flatten)) := if_pos h
theorem opB_repT {xs : List D} {k : Int} (h : xs ≠ [] ∧ xs.length ≤ 1000 ∧ -1000 ≤ k ∧ k ≤ 1000) : opB .Mult κ (.tuple xs) (.int k) = some (.dat (.tuple (List.replicate k.toNat xs).flatten)) := if_pos h
theorem cmulR {i j : Int} (h1 : -(2 ^ 64) < j) (h2 : j < 2 ^ 64) : cMul i j = true := by
  unfold cMul
  rw [decide_eq_true h1, decide_eq_true h2]
  simp
theorem cmulL {i j : Int} (h1 : -(2 ^ 64) < i) (h2 : i < 2 ^ 64) : cMul i j = true := by
  unfold cMul
  rw [decide_eq_true h1, decide_eq_true h2]
  simp
end
/-! ### lists of ints -/
abbrev tupI (ns : List Int) : D := .tuple (ns.map .int)
abbrev lstI (ns : List Int) : D := .list (ns.map .int)
theorem pys_ints : ∀ ns : List Int, pysOf (ns.map .int) = some (ns.map .int)
  | [] => rfl
  | n :: r => by
    show (match pyOf (.int n), pysOf (r.map .int) with | some p, some ps => some (p :: ps) | _, _ => none) = _
    rw [pys_ints r]
    rfl
theorem lay_ints : ∀ ns : List Int, PyData.canLayAll0 (ns.map .int) = true
  | [] => rfl
  | n :: r => by
    show (PyData.canLay0 (.int n) && PyData.canLayAll0 (r.map .int)) = true
    rw [lay_ints r]
    rfl
theorem dep_ints : ∀ ns : List Int, PyData.depthAll (ns.map .int) = 0
  | [] => rfl
  | n :: r => by
    show max (PyData.depth (.int n)) (PyData.depthAll (r.map .int)) = 0
    rw [dep_ints r]
    rfl
theorem eqvAll_ints : ∀ (ns ms : List Int), PyData.eqvAll (ns.map .int) (ms.map .int) = decide (ns = ms)
  | [], [] => rfl
  | [], _ :: _ => rfl
  | _ :: _, [] => rfl
  | n :: ns, m :: ms => by
    show (PyData.eqv (.int n) (.int m) && PyData.eqvAll (ns.map .int) (ms.map .int)) = _
    rw [eqvAll_ints ns ms]
    show ((n == m) && decide (ns = ms)) = _
    by_cases h : n = m
    · by_cases h2 : ns = ms <;> simp [h, h2]
    · simp [h]
theorem shp_tupI (ns : List Int) : shpOf (tupI ns) = some (.tuple (ns.map .int)) := by
  have e : pyOf (tupI ns) = some (.tuple (ns.map .int)) := by
    show (pysOf (ns.map .int)).map PyData.tuple = _
    rw [pys_ints]
    rfl
  unfold shpOf
  rw [e]
  have h : SeqAt.shaped (.tuple (ns.map PyData.int)) = true := by
    unfold SeqAt.shaped
    have h1 : PyData.canLay0 (.tuple (ns.map PyData.int)) = true := lay_ints ns
    have h2 : PyData.depth (.tuple (ns.map PyData.int)) = PyData.depthAll (ns.map PyData.int) + 1 := rfl
    rw [h1, h2, dep_ints]
    rfl
  dsimp only
  rw [if_pos h]
theorem eqO_tupI (ns ms : List Int) : eqO (tupI ns) (tupI ms) = some (decide (ns = ms)) := by
  unfold eqO
  rw [shp_tupI, shp_tupI]
  exact congrArg some (eqvAll_ints ns ms)
theorem cmp_eqT {κ : Ks} (ns ms : List Int) : cmpD .Eq κ (tupI ns) (tupI ms) = some (decide (ns = ms)) := eqO_tupI ns ms
theorem cmp_neT {κ : Ks} (ns ms : List Int) : cmpD .NotEq κ (tupI ns) (tupI ms) = some (!decide (ns = ms)) := by
  show (eqO (tupI ns) (tupI ms)).map (!·) = _
  rw [eqO_tupI]
  rfl
theorem atI_nat' {α : Type} {xs : List α} {n : Nat} (h : n < xs.length) : atI xs (n : Int) = some xs[n] := by
  unfold atI ixN
  rw [if_pos (by omega), if_pos (by omega)]
  show xs[(n : Int).toNat]? = _
  rw [Int.toNat_natCast, List.getElem?_eq_getElem h]
theorem atI_last' {α : Type} {xs : List α} (h : xs ≠ []) : atI xs (-1) = some (xs.getLast h) := by
  have hl : 0 < xs.length := List.length_pos_iff.mpr h
  unfold atI ixN
  rw [if_neg (by omega), if_pos (by omega)]
  show xs[(-1 + (xs.length : Int)).toNat]? = _
  rw [show (-1 + (xs.length : Int)).toNat = xs.length - 1 by omega, List.getElem?_eq_getElem (by omega), List.getLast_eq_getElem]
theorem sq_tup {κ : Ks} {ds : List D} : sqOf κ (.tuple ds) = some ds := rfl
theorem sq_lst {κ : Ks} {ds : List D} : sqOf κ (.list ds) = some ds := rfl
theorem ints_ok : ∀ ns : List Int, intsOf (ns.map .int) = some ns
  | [] => rfl
  | n :: r => by
    show (match intsOf (r.map .int) with | some is => some (n :: is) | none => none) = _
    rw [ints_ok r]
theorem bools_ok : ∀ ns : List Bool, boolsOf (ns.map .bool) = some ns
  | [] => rfl
  | n :: r => by
    show (match boolsOf (r.map .bool) with | some is => some (n :: is) | none => none) = _
    rw [bools_ok r]
/-! ### comprehensions of what is plain -/
theorem compL_map {f : D → M (Option D)} {h : D → D} : ∀ {ds : List D}, (∀ d ∈ ds, f d = M.ret (some (h d))) → compL f ds = M.ret (ds.map h)
  | [], _ => rfl
  | d :: ds, hf => by
    rw [compL, hf d (List.mem_cons_self ..), bind_ret, compL_map fun x hx => hf x (List.mem_cons_of_mem _ hx), bind_ret]
    rfl
theorem compL_filter {f : D → M (Option D)} {t : D → Bool} {h : D → D} : ∀ {ds : List D}, (∀ d ∈ ds, f d = M.ret (if t d = true then some (h d) else none)) → compL f ds = M.ret ((ds.filter t).map h)
  | [], _ => rfl
  | d :: ds, hf => by
    rw [compL, hf d (List.mem_cons_self ..), bind_ret, compL_filter fun x hx => hf x (List.mem_cons_of_mem _ hx), bind_ret]
    by_cases ht : t d = true
    · rw [if_pos ht, List.filter_cons_of_pos ht]
      rfl
    · rw [if_neg ht, List.filter_cons_of_neg ht]
/-- [.. for x in xs], xs of one kind -/
theorem compL_mapF {γ : Type} {f : D → M (Option D)} {enc : γ → D} {h : γ → D} : ∀ {cs : List γ}, (∀ c ∈ cs, f (enc c) = M.ret (some (h c))) → compL f (cs.map enc) = M.ret (cs.map h)
  | [], _ => rfl
  | c :: cs, hf => by
    rw [List.map_cons, compL, hf c (List.mem_cons_self ..), bind_ret, compL_mapF fun x hx => hf x (List.mem_cons_of_mem _ hx), bind_ret]
    rfl
theorem noX_ret {α : Type} {a : α} : noX (M.ret a) = M.ret a := rfl
/-! ### draws -/
def BagOk (κ R : Ks) : Prop := ∃ (ns : List Int) (i j s t : Int), κ = bagC ns i j s t :: R ∧ ns.length ≤ 63 ∧ 0 ≤ i ∧ i ≤ ns.length ∧ 0 ≤ j ∧ 0 ≤ s ∧ s < 2147483563 ∧ 0 ≤ t
/-- m tells something of which P is known, and keeps all cells but the bag -/
def Dr {α : Type} (m : M α) (P : α → Prop) : Prop := ∀ R κ, BagOk κ R → ∃ a κ', m κ = .ok a κ' ∧ BagOk κ' R ∧ P a
section
variable {α β : Type} {P Q : α → Prop}
theorem Dr.ret {a : α} (h : P a) : Dr (M.ret a) P := fun R κ hb => ⟨a, κ, rfl, hb, h⟩
theorem Dr.imp {m : M α} (h : Dr m P) (i : ∀ a, P a → Q a) : Dr m Q := fun R κ hb => by
  obtain ⟨a, κ', h1, h2, h3⟩ := h R κ hb
  exact ⟨a, κ', h1, h2, i a h3⟩
theorem Dr.bind {m : M α} {f : α → M β} {Q : β → Prop} (h : Dr m P) (k : ∀ a, P a → Dr (f a) Q) : Dr (M.bind m f) Q := fun R κ hb => by
  obtain ⟨a, κ', h1, h2, h3⟩ := h R κ hb
  obtain ⟨b, κ2, h4, h5, h6⟩ := k a h3 R κ' h2
  refine ⟨b, κ2, ?_, h5, h6⟩
  unfold M.bind
  rw [h1]
  exact h4
theorem Dr.noX {m : M α} (h : Dr m P) : Dr (noX m) P := fun R κ hb => by
  obtain ⟨a, κ', h1, h2, h3⟩ := h R κ hb
  refine ⟨a, κ', ?_, h2, h3⟩
  unfold VL.noX
  rw [h1]
theorem Dr.compL {f : D → M (Option D)} {P : D → Prop} : ∀ {ds : List D}, (∀ d ∈ ds, Dr (f d) (fun o => ∃ y, o = some y ∧ P y)) → Dr (compL f ds) (fun ys => ys.length = ds.length ∧ ∀ y ∈ ys, P y)
  | [], _ => Dr.ret ⟨rfl, fun _ h => nomatch h⟩
  | d :: ds, hf => by
    rw [VL.compL]
    refine (hf d (List.mem_cons_self ..)).bind fun o ho => ?_
    obtain ⟨y, rfl, hy⟩ := ho
    refine (Dr.compL fun x hx => hf x (List.mem_cons_of_mem _ hx)).bind fun ys hys => Dr.ret ⟨by simp [hys.1], fun z hz => ?_⟩
    rcases List.mem_cons.mp hz with rfl | hz
    · exact hy
    · exact hys.2 z hz
/-- for with an invariant of the slots -/
theorem Dr.forL {step : D → List En → M Out} {Inv : List En → Prop} {Q : Out → Prop} : ∀ {ds : List D} {ρ : List En}, Inv ρ → (∀ d ∈ ds, ∀ ρ, Inv ρ → Dr (step d ρ) (fun o => (∃ ρ', (o = .nx ρ' ∨ o = .ct ρ') ∧ Inv ρ'))) → (∀ ρ, Inv ρ → Q (.nx ρ)) → Dr (forL step ds ρ) Q
  | [], ρ, h0, _, hd => Dr.ret (hd ρ h0)
  | d :: ds, ρ, h0, hs, hd => by
    rw [VL.forL]
    refine (hs d (List.mem_cons_self ..) ρ h0).bind fun o ho => ?_
    obtain ⟨ρ', h1 | h1, h2⟩ := ho
    · subst h1
      exact Dr.forL h2 (fun x hx => hs x (List.mem_cons_of_mem _ hx)) hd
    · subst h1
      exact Dr.forL h2 (fun x hx => hs x (List.mem_cons_of_mem _ hx)) hd
end
theorem Dr.runs {m : M Out} (h : Dr m (· = .rt (.dat (.bool true)))) {ns : List Int} {salt : Int} (hl : ns.length ≤ 63) (h0 : 0 ≤ salt) (h1 : salt < 2147483563) : (m [bagC ns 0 0 salt 0]).sat (fun o _ => o = .rt (.dat (.bool true))) NoXK := by
  obtain ⟨a, κ', e1, e2, e3⟩ := h [] _ ⟨ns, 0, 0, salt, 0, rfl, hl, by omega, by omega, by omega, h0, h1, by omega⟩
  rw [e1]
  exact e3
end VL

namespace VL
open PySem PySem.Spec PyProof.Rows L2
/-! ### sums, plainly -/
abbrev co (ns : List Int) (i : Nat) : Int := ns.getD i 0
def cutN (ns : List Int) : List Int := (ns.reverse.dropWhile fun z => z == 0).reverse
theorem cutN_nil : cutN [] = [] := rfl
theorem cutN_zero (ns : List Int) : cutN (ns ++ [0]) = cutN ns := by
  unfold cutN
  rw [List.reverse_append]
  rfl
theorem cutN_last {ns : List Int} {z : Int} (h : z ≠ 0) : cutN (ns ++ [z]) = ns ++ [z] := by
  unfold cutN
  rw [List.reverse_append]
  show ((z :: ns.reverse).dropWhile fun z => z == 0).reverse = _
  rw [List.dropWhile_cons_of_neg (by simpa using h), List.reverse_cons, List.reverse_reverse]
/-- backwards over a list -/
theorem snoc_ind {P : List Int → Prop} (h0 : P []) (h1 : ∀ xs x, P xs → P (xs ++ [x])) (xs : List Int) : P xs := by
  have : ∀ ys : List Int, P ys.reverse := fun ys => by
    induction ys with
    | nil => exact h0
    | cons y ys ih =>
      rw [List.reverse_cons]
      exact h1 _ _ ih
  have h := this xs.reverse
  rwa [List.reverse_reverse] at h
theorem cutN_or (xs : List Int) : cutN xs = [] ∨ ∃ ys z, z ≠ 0 ∧ cutN xs = ys ++ [z] := by
  induction xs using snoc_ind with
  | h0 => exact .inl rfl
  | h1 xs x ih =>
    by_cases hx : x = 0
    · rw [hx, cutN_zero]
      exact ih
    · exact .inr ⟨xs, x, hx, cutN_last hx⟩
theorem co_app (xs : List Int) (i : Nat) : co (xs ++ [0]) i = co xs i := by
  unfold co
  rw [List.getD_eq_getElem?_getD, List.getD_eq_getElem?_getD, List.getElem?_append]
  split
  · rfl
  · rename_i h
    rw [List.getElem?_eq_none (l := xs) (by omega)]
    cases q : i - xs.length with
    | zero => rfl
    | succ n => rfl
theorem co_cut (xs : List Int) (i : Nat) : co (cutN xs) i = co xs i := by
  induction xs using snoc_ind with
  | h0 => rfl
  | h1 xs x ih =>
    by_cases hx : x = 0
    · rw [hx, cutN_zero, co_app]
      exact ih
    · rw [cutN_last hx]
theorem cutN_prefix (xs : List Int) : ∃ n, n ≤ xs.length ∧ cutN xs = xs.take n := by
  induction xs using snoc_ind with
  | h0 => exact ⟨0, Nat.le_refl _, rfl⟩
  | h1 xs x ih =>
    by_cases hx : x = 0
    · obtain ⟨n, h1, h2⟩ := ih
      refine ⟨n, by rw [List.length_append]; omega, ?_⟩
      rw [hx, cutN_zero, h2, List.take_append_of_le_length h1]
    · exact ⟨(xs ++ [x]).length, Nat.le_refl _, by rw [cutN_last hx, List.take_length]⟩
theorem cutN_len (xs : List Int) : (cutN xs).length ≤ xs.length := by
  obtain ⟨n, h1, h2⟩ := cutN_prefix xs
  rw [h2, List.length_take]
  omega
theorem co_beyond {xs : List Int} {i : Nat} (h : xs.length ≤ i) : co xs i = 0 := by
  unfold co
  rw [List.getD_eq_getElem?_getD, List.getElem?_eq_none h]
  rfl
/-- lists that end by no nought are told by their parts -/
theorem canon_ext {xs ys : List Int} (hx : xs = [] ∨ ∃ us z, z ≠ 0 ∧ xs = us ++ [z]) (hy : ys = [] ∨ ∃ us z, z ≠ 0 ∧ ys = us ++ [z]) (h : ∀ i, co xs i = co ys i) : xs = ys := by
  have key : ∀ {xs ys : List Int}, (xs = [] ∨ ∃ us z, z ≠ 0 ∧ xs = us ++ [z]) → (∀ i, co xs i = co ys i) → xs.length ≤ ys.length := fun {xs ys} hx h => by
    rcases hx with rfl | ⟨us, z, hz, rfl⟩
    · exact Nat.zero_le _
    · rw [List.length_append]
      show us.length + 1 ≤ _
      by_cases hl : us.length < ys.length
      · exact hl
      · have := h us.length
        rw [co_beyond (xs := ys) (by omega)] at this
        unfold co at this
        rw [List.getD_eq_getElem?_getD, List.getElem?_append_right (Nat.le_refl _), Nat.sub_self] at this
        exact absurd this hz
  have hl : xs.length = ys.length := Nat.le_antisymm (key hx h) (key hy fun i => (h i).symm)
  refine List.ext_getElem hl fun i h1 h2 => ?_
  have := h i
  unfold co at this
  rw [List.getD_eq_getElem?_getD, List.getD_eq_getElem?_getD, List.getElem?_eq_getElem h1, List.getElem?_eq_getElem h2] at this
  exact this
theorem cutN_ext {xs ys : List Int} (h : ∀ i, co xs i = co ys i) : cutN xs = cutN ys :=
  canon_ext (cutN_or xs) (cutN_or ys) fun i => by rw [co_cut, co_cut]; exact h i
/-- a sum of the prime p: residues, the last one not nought -/
def Su (p : Int) (ns : List Int) : Prop := (∀ z ∈ ns, 0 ≤ z ∧ z < p) ∧ cutN ns = ns
theorem Su.co {p : Int} {ns : List Int} (hp : 0 < p) (h : ∀ z ∈ ns, 0 ≤ z ∧ z < p) (i : Nat) : 0 ≤ co ns i ∧ co ns i < p := by
  unfold VL.co
  rw [List.getD_eq_getElem?_getD]
  cases q : ns[i]? with
  | none => exact ⟨Int.le_refl _, hp⟩
  | some z => exact h z (List.mem_of_getElem? q)
theorem cut_sm {p : Int} {ns : List Int} (h : ∀ z ∈ ns, 0 ≤ z ∧ z < p) : Su p (cutN ns) := by
  refine ⟨fun z hz => ?_, ?_⟩
  · obtain ⟨n, _, e⟩ := cutN_prefix ns
    rw [e] at hz
    exact h z (List.mem_of_mem_take hz)
  · rcases cutN_or ns with e | ⟨us, z, hz, e⟩
    · rw [e]
      rfl
    · rw [e, cutN_last hz]
/-! ### joined -/
def joinL (p number : Int) : List Int → List Int → Nat → List Int
  | found, [], _ => found
  | found, q :: qs, at_ => joinL p number (found.set at_ ((co found at_ + number * q) % p)) qs (at_ + 1)
theorem joinL_len (p number : Int) : ∀ (qs found : List Int) (at_ : Nat), (joinL p number found qs at_).length = found.length
  | [], _, _ => rfl
  | q :: qs, found, at_ => by
    rw [joinL, joinL_len p number qs, List.length_set]
theorem co_set {xs : List Int} {n i : Nat} {z : Int} (h : n < xs.length) : co (xs.set n z) i = if i = n then z else co xs i := by
  unfold co
  rw [List.getD_eq_getElem?_getD, List.getElem?_set]
  by_cases e : n = i
  · rw [if_pos e, if_pos h, if_pos e.symm]
    rfl
  · rw [if_neg e, if_neg (Ne.symm e), List.getD_eq_getElem?_getD]
theorem joinL_co (p number : Int) : ∀ (qs found : List Int) (at_ : Nat), at_ + qs.length ≤ found.length → ∀ i, co (joinL p number found qs at_) i = if at_ ≤ i ∧ i < at_ + qs.length then (co found i + number * co qs (i - at_)) % p else co found i
  | [], found, at_, _, i => by
    rw [joinL, if_neg (by rw [List.length_nil]; omega)]
  | q :: qs, found, at_, h, i => by
    have hl : at_ + qs.length + 1 ≤ found.length := h
    rw [joinL, joinL_co p number qs _ (at_ + 1) (by rw [List.length_set]; omega), co_set (by omega)]
    by_cases e : i = at_
    · subst e
      rw [if_neg (by omega), if_pos rfl, if_pos ⟨Nat.le_refl _, by rw [List.length_cons]; omega⟩, Nat.sub_self]
      rfl
    · rw [if_neg e]
      by_cases h1 : at_ + 1 ≤ i ∧ i < at_ + 1 + qs.length
      · rw [if_pos h1, if_pos ⟨by omega, by rw [List.length_cons]; omega⟩]
        obtain ⟨k, rfl⟩ : ∃ k, i = at_ + 1 + k := ⟨i - (at_ + 1), by omega⟩
        rw [show at_ + 1 + k - (at_ + 1) = k by omega, show at_ + 1 + k - at_ = k + 1 by omega]
        rfl
      · rw [if_neg h1, if_neg (by rw [List.length_cons]; omega)]
def padN (one : List Int) (n : Int) : List Int := one ++ List.replicate n.toNat 0
theorem co_pad (one : List Int) (n : Int) (i : Nat) : co (padN one n) i = co one i := by
  unfold padN co
  rw [List.getD_eq_getElem?_getD, List.getD_eq_getElem?_getD, List.getElem?_append]
  split
  · rfl
  · rename_i h
    rw [List.getElem?_eq_none (l := one) (by omega), List.getElem?_replicate]
    split <;> rfl
def joinedN (p number : Int) (one other : List Int) (at_ : Nat) : List Int := cutN (joinL p number (padN one ((other.length : Int) + at_ - one.length)) other at_)
theorem pad_len (one : List Int) (m : Nat) (at_ : Nat) : at_ + m ≤ (padN one ((m : Int) + at_ - one.length)).length := by
  unfold padN
  rw [List.length_append, List.length_replicate]
  omega
theorem joined_co (p number : Int) (hp : 0 < p) (one other : List Int) (at_ : Nat) (h1 : ∀ z ∈ one, 0 ≤ z ∧ z < p) (i : Nat) : co (joinedN p number one other at_) i = if at_ ≤ i then (co one i + number * co other (i - at_)) % p else co one i := by
  unfold joinedN
  rw [co_cut, joinL_co p number other _ at_ (pad_len one other.length at_), co_pad]
  have hr := Su.co hp h1 i
  by_cases h2 : at_ ≤ i
  · rw [if_pos h2]
    by_cases h3 : i < at_ + other.length
    · rw [if_pos ⟨h2, h3⟩]
    · rw [if_neg (fun z => h3 z.2), co_beyond (xs := other) (by omega), Int.mul_zero, Int.add_zero, Int.emod_eq_of_lt hr.1 hr.2]
  · rw [if_neg (fun z => h2 z.1), if_neg h2]
theorem co_all {p : Int} {ns : List Int} (h : ∀ i, 0 ≤ co ns i ∧ co ns i < p) : ∀ z ∈ ns, 0 ≤ z ∧ z < p := fun z hz => by
  obtain ⟨i, hi, rfl⟩ := List.mem_iff_getElem.mp hz
  have := h i
  unfold co at this
  rw [List.getD_eq_getElem?_getD, List.getElem?_eq_getElem hi] at this
  exact this
theorem joined_sm {p number : Int} (hp : 0 < p) {one other : List Int} {at_ : Nat} (h1 : ∀ z ∈ one, 0 ≤ z ∧ z < p) : Su p (joinedN p number one other at_) := by
  refine ⟨co_all fun i => ?_, ?_⟩
  · rw [joined_co p number hp one other at_ h1]
    split
    · exact ⟨Int.emod_nonneg _ (by omega), Int.emod_lt_of_pos _ hp⟩
    · exact Su.co hp h1 i
  · unfold joinedN
    rcases cutN_or (joinL p number (padN one ((other.length : Int) + at_ - one.length)) other at_) with e | ⟨us, z, hz, e⟩
    · rw [e]
      rfl
    · rw [e, cutN_last hz]
theorem joined_len {p number : Int} {one other : List Int} {at_ n : Nat} (h1 : one.length ≤ n) (h2 : other.length + at_ ≤ n) : (joinedN p number one other at_).length ≤ n := by
  unfold joinedN
  refine Nat.le_trans (cutN_len _) ?_
  rw [joinL_len]
  unfold padN
  rw [List.length_append, List.length_replicate]
  omega
def isSumB (ns : List Int) (p : Int) : Bool := ns.all (fun i => decide (0 ≤ i) && decide (i < p)) && (decide (ns = []) || (match ns.getLast? with | some z => !decide (z = 0) | none => false))
theorem isSumB_of {p : Int} {ns : List Int} (h : Su p ns) : isSumB ns p = true := by
  unfold isSumB
  refine Bool.and_eq_true_iff.mpr ⟨List.all_eq_true.mpr fun z hz => ?_, ?_⟩
  · have := h.1 z hz
    rw [decide_eq_true this.1, decide_eq_true this.2]
    rfl
  · rcases cutN_or ns with e | ⟨us, z, hz, e⟩
    · rw [h.2] at e
      rw [e]
      rfl
    · rw [h.2] at e
      rw [e, List.getLast?_append]
      simp [hz]
theorem sm_of_isSumB {p : Int} {ns : List Int} (h : isSumB ns p = true) : Su p ns := by
  unfold isSumB at h
  obtain ⟨h1, h2⟩ := Bool.and_eq_true_iff.mp h
  refine ⟨fun z hz => ?_, ?_⟩
  · have := List.all_eq_true.mp h1 z hz
    obtain ⟨q1, q2⟩ := Bool.and_eq_true_iff.mp this
    exact ⟨of_decide_eq_true q1, of_decide_eq_true q2⟩
  · rcases List.eq_nil_or_concat ns with rfl | ⟨us, z, rfl⟩
    · rfl
    · rw [List.concat_eq_append]
      refine cutN_last fun z0 => ?_
      rw [List.concat_eq_append, List.getLast?_append] at h2
      subst z0
      simp at h2
/-! ### multiplied -/
def mulL (p : Int) (other : List Int) : List Int → Nat → List Int → List Int
  | [], _, found => found
  | q :: qs, at_, found => mulL p other qs (at_ + 1) (if q = 0 then found else joinedN p q found other at_)

/-! ### the law's own sums -/
theorem cut_count (ns : List Int) : ((List.range ns.length).filter fun k => (ns.drop k).any fun z => !decide (z = 0)).length = (cutN ns).length := by
  induction ns using snoc_ind with
  | h0 => rfl
  | h1 xs x ih =>
    by_cases hx : x = 0
    · subst hx
      rw [cutN_zero, ← ih, List.length_append, List.length_singleton, List.range_succ, List.filter_append]
      have e1 : ([xs.length].filter fun k => ((xs ++ [0]).drop k).any fun z => !decide (z = 0)) = [] := by
        rw [List.filter_cons, List.drop_append_of_le_length (Nat.le_refl _), List.drop_length]
        rfl
      rw [e1, List.append_nil]
      congr 1
      refine List.filter_congr fun k hk => ?_
      rw [List.drop_append_of_le_length (by have := List.mem_range.mp hk; omega), List.any_append]
      simp
    · rw [cutN_last hx]
      have : ((List.range (xs ++ [x]).length).filter fun k => ((xs ++ [x]).drop k).any fun z => !decide (z = 0)) = List.range (xs ++ [x]).length := by
        refine List.filter_eq_self.mpr fun k hk => ?_
        have hk' := List.mem_range.mp hk
        rw [List.length_append, List.length_singleton] at hk'
        rw [List.drop_append_of_le_length (by omega), List.any_append]
        simp [hx]
      rw [this, List.length_range]
theorem take_cut (ns : List Int) : ns.take (cutN ns).length = cutN ns := by
  obtain ⟨n, h1, h2⟩ := cutN_prefix ns
  rw [h2, List.length_take, Nat.min_eq_left h1]
def anyFrom (ns : List Int) : D → Bool
  | .int k => (ns.drop k.toNat).any fun z => !decide (z = 0)
  | _ => false
def neZ : D → Bool
  | .int z => !decide (z = 0)
  | _ => false
theorem ne_map (ns : List Int) : (ns.map D.int).map (fun d => D.bool (neZ d)) = (ns.map fun z => !decide (z = 0)).map D.bool := by
  rw [List.map_map, List.map_map]
  rfl
/-! ### scaled, plus, minus, times -/
def sclN (p number : Int) (one : List Int) : List Int := cutN (one.map fun z => z * number % p)
def sclD (p number : Int) : D → D
  | .int z => .int (z * number % p)
  | _ => .none
def plsN (p : Int) (one other : List Int) : List Int := cutN ((List.range (max one.length other.length)).map fun k => (co one k + co other k) % p)
theorem rep_zeroT (n : Nat) : (List.replicate n [D.int 0]).flatten = (List.replicate n (0 : Int)).map D.int := by
  induction n with
  | zero => rfl
  | succ n ih =>
    rw [List.replicate_succ, List.flatten_cons, ih]
    rfl
def plD (one other : List Int) : D → D
  | .int k => .int (co one k.toNat + co other k.toNat)
  | _ => .none
def modD (p : Int) : D → D
  | .int k => .int (k % p)
  | _ => .none
def minN (p : Int) (one other : List Int) : List Int := plsN p one (sclN p (p - 1) other)
theorem scl_sm {p number : Int} (hp : 0 < p) (one : List Int) : Su p (sclN p number one) := cut_sm fun z hz => by
  obtain ⟨y, _, rfl⟩ := List.mem_map.mp hz
  exact ⟨Int.emod_nonneg _ (by omega), Int.emod_lt_of_pos _ hp⟩
theorem scl_len (p number : Int) (one : List Int) : (sclN p number one).length ≤ one.length := by
  have := cutN_len (one.map fun z => z * number % p)
  rw [List.length_map] at this
  exact this
def tmsL (p : Int) (other : List Int) : List Int → Nat → List Int → List Int
  | [], _, f => f
  | q :: qs, at_, f => tmsL p other qs (at_ + 1) (joinL p q f other at_)
def tmsN (p : Int) (one other : List Int) : List Int := cutN (tmsL p other one 0 (List.replicate (one.length + other.length) 0))
/-! ### the law's own answers are the program's -/
theorem pls_co {p : Int} (one other : List Int) (i : Nat) : co (plsN p one other) i = (co one i + co other i) % p := by
  unfold plsN
  rw [co_cut]
  unfold co
  by_cases h : i < max one.length other.length
  · rw [List.getD_eq_getElem?_getD (l := List.map _ _), List.getElem?_map, List.getElem?_range h]
    rfl
  · rw [List.getD_eq_getElem?_getD (l := List.map _ _), List.getElem?_eq_none (by rw [List.length_map, List.length_range]; omega), List.getD_eq_getElem?_getD, List.getD_eq_getElem?_getD, List.getElem?_eq_none (by omega), List.getElem?_eq_none (by omega)]
    show (0 : Int) = (0 + 0) % p
    simp
theorem scl_co {p n : Int} (one : List Int) (i : Nat) : co (sclN p n one) i = co one i * n % p := by
  unfold sclN
  rw [co_cut]
  unfold co
  rw [List.getD_eq_getElem?_getD, List.getElem?_map, List.getD_eq_getElem?_getD]
  cases one[i]? with
  | none =>
    show (0 : Int) = 0 * n % p
    simp
  | some z => rfl
def addN (p : Int) (one other : List Int) : List Int := joinedN p 1 one other 0
def lesN (p : Int) (one other : List Int) : List Int := joinedN p (p - 1) one other 0
def mulN (p : Int) (one other : List Int) : List Int := mulL p other one 0 []
theorem add_same {p : Int} (hp : 0 < p) {one other : List Int} (h1 : ∀ z ∈ one, 0 ≤ z ∧ z < p) : addN p one other = plsN p one other := by
  refine canon_ext (cutN_or _) (cutN_or _) fun i => ?_
  show co (joinedN p 1 one other 0) i = co (plsN p one other) i
  rw [joined_co p 1 hp one other 0 h1, if_pos (Nat.zero_le _), Int.one_mul, Nat.sub_zero, pls_co]
theorem les_same {p : Int} (hp : 0 < p) {one other : List Int} (h1 : ∀ z ∈ one, 0 ≤ z ∧ z < p) : lesN p one other = minN p one other := by
  refine canon_ext (cutN_or _) (cutN_or _) fun i => ?_
  show co (joinedN p (p - 1) one other 0) i = co (plsN p one (sclN p (p - 1) other)) i
  rw [joined_co p (p - 1) hp one other 0 h1, if_pos (Nat.zero_le _), Nat.sub_zero, pls_co, scl_co, Int.mul_comm (p - 1)]
  simp


abbrev Can (xs : List Int) : Prop := xs = [] ∨ ∃ us z, z ≠ 0 ∧ xs = us ++ [z]
theorem mul_can (p : Int) (other : List Int) : ∀ (qs : List Int) (at_ : Nat) (f : List Int), Can f → Can (mulL p other qs at_ f)
  | [], _, _, h => h
  | q :: qs, at_, f, h => by
    rw [mulL]
    refine mul_can p other qs _ _ ?_
    split
    · exact h
    · exact cutN_or _
theorem mul_tms {p : Int} (hp : 0 < p) (other : List Int) : ∀ (qs : List Int) (at_ : Nat) (f h : List Int), (∀ i, co f i = co h i) → (∀ z ∈ f, 0 ≤ z ∧ z < p) → at_ + qs.length + other.length ≤ h.length → ∀ i, co (mulL p other qs at_ f) i = co (tmsL p other qs at_ h) i
  | [], _, _, _, e, _, _ => e
  | q :: qs, at_, f, h, e, hr, hl => by
    rw [mulL, tmsL]
    have hl' : at_ + (qs.length + 1) + other.length ≤ h.length := hl
    refine mul_tms hp other qs (at_ + 1) _ _ (fun i => ?_) ?_ (by rw [joinL_len]; omega)
    · rw [joinL_co p q other h at_ (by omega)]
      have hc := Su.co hp hr i
      have e0 := e i
      split
      · rename_i q0
        rw [q0, Int.zero_mul, Int.add_zero, ← e0]
        split
        · rw [Int.emod_eq_of_lt hc.1 hc.2]
        · rfl
      · rw [joined_co p q hp f other at_ hr, ← e0]
        by_cases h1 : at_ ≤ i
        · rw [if_pos h1]
          by_cases h2 : i < at_ + other.length
          · rw [if_pos ⟨h1, h2⟩]
          · rw [if_neg (fun z => h2 z.2), co_beyond (xs := other) (by omega), Int.mul_zero, Int.add_zero, Int.emod_eq_of_lt hc.1 hc.2]
        · rw [if_neg h1, if_neg (fun z => h1 z.1)]
    · split
      · exact hr
      · exact (joined_sm hp hr).1
theorem co_zeros (n i : Nat) : co (List.replicate n 0) i = 0 := by
  unfold co
  rw [List.getD_eq_getElem?_getD, List.getElem?_replicate]
  split <;> rfl
theorem mul_same {p : Int} (hp : 0 < p) (one other : List Int) : mulN p one other = tmsN p one other := by
  refine canon_ext (mul_can p other one 0 [] (.inl rfl)) (cutN_or _) fun i => ?_
  show co (mulL p other one 0 []) i = co (cutN _) i
  rw [co_cut]
  refine mul_tms hp other one 0 [] _ (fun i => ?_) (fun _ z => nomatch z) (by rw [List.length_replicate]; omega) i
  rw [co_zeros]
  rfl
theorem mul_sm {p : Int} (hp : 0 < p) (other : List Int) : ∀ (qs : List Int) (at_ : Nat) (f : List Int), Su p f → Su p (mulL p other qs at_ f)
  | [], _, _, h => h
  | q :: qs, at_, f, h => by
    rw [mulL]
    refine mul_sm hp other qs _ _ ?_
    split
    · exact h
    · exact joined_sm hp h.1

/-! ### products by their parts; division -/
def cvL (other : List Int) : List Int → Nat → Nat → Int
  | [], _, _ => 0
  | x :: xs, at_, i => (if at_ ≤ i then x * co other (i - at_) else 0) + cvL other xs (at_ + 1) i
theorem emod_congr {a b p : Int} (h : ∃ k, a = b + p * k) : a % p = b % p := by
  obtain ⟨k, rfl⟩ := h
  exact Int.add_mul_emod_self_left b p k
theorem emod_ex (a p : Int) : ∃ k, a % p = a + p * k := ⟨-(a / p), by
  have := Int.emod_add_mul_ediv a p
  rw [Int.mul_neg]
  omega⟩
theorem tms_cv {p : Int} (hp : 0 < p) (other : List Int) : ∀ (qs : List Int) (at_ : Nat) (f : List Int), at_ + qs.length + other.length ≤ f.length → ∀ i, ∃ k, co (tmsL p other qs at_ f) i = co f i + cvL other qs at_ i + p * k
  | [], _, f, _, i => ⟨0, by show co f i = co f i + 0 + p * 0; rw [Int.mul_zero, Int.add_zero, Int.add_zero]⟩
  | q :: qs, at_, f, hl, i => by
    have hl' : at_ + (qs.length + 1) + other.length ≤ f.length := hl
    obtain ⟨k, hk⟩ := tms_cv hp other qs (at_ + 1) (joinL p q f other at_) (by rw [joinL_len]; omega) i
    rw [tmsL, hk, joinL_co p q other f at_ (by omega), cvL]
    by_cases h1 : at_ ≤ i
    · rw [if_pos h1]
      by_cases h2 : i < at_ + other.length
      · rw [if_pos ⟨h1, h2⟩]
        obtain ⟨k2, hk2⟩ := emod_ex (co f i + q * co other (i - at_)) p
        rw [hk2]
        exact ⟨k + k2, by rw [Int.mul_add]; omega⟩
      · rw [if_neg (fun z => h2 z.2), co_beyond (xs := other) (by omega), Int.mul_zero]
        exact ⟨k, by omega⟩
    · rw [if_neg (fun z => h1 z.1), if_neg h1]
      exact ⟨k, by omega⟩
theorem tms_co {p : Int} (hp : 0 < p) (one other : List Int) (i : Nat) : ∃ k, co (tmsN p one other) i = cvL other one 0 i + p * k := by
  unfold tmsN
  rw [co_cut]
  obtain ⟨k, hk⟩ := tms_cv hp other one 0 (List.replicate (one.length + other.length) 0) (by rw [List.length_replicate]; omega) i
  exact ⟨k, by rw [hk, co_zeros, Int.zero_add]⟩
/-- the product's parts by the parts alone -/
def sumN (f : Nat → Int) : Nat → Int
  | 0 => 0
  | n + 1 => sumN f n + f n
theorem sumN_congr {f g : Nat → Int} : ∀ {n : Nat}, (∀ k, k < n → f k = g k) → sumN f n = sumN g n
  | 0, _ => rfl
  | n + 1, h => by
    rw [sumN, sumN, sumN_congr fun k hk => h k (by omega), h n (by omega)]
theorem sumN_ext {f : Nat → Int} {m : Nat} : ∀ {n : Nat}, m ≤ n → (∀ k, m ≤ k → f k = 0) → sumN f n = sumN f m
  | 0, h, _ => by rw [show m = 0 by omega]
  | n + 1, h, hz => by
    by_cases e : m = n + 1
    · rw [e]
    · rw [sumN, sumN_ext (n := n) (by omega) hz, hz n (by omega), Int.add_zero]
theorem sumN_any {f : Nat → Int} {m n k : Nat} (h : ∀ j, k ≤ j → f j = 0) (h1 : k ≤ m) (h2 : k ≤ n) : sumN f m = sumN f n := by
  rw [sumN_ext h1 h, sumN_ext h2 h]
theorem sumN_add (f g : Nat → Int) : ∀ n, sumN (fun k => f k + g k) n = sumN f n + sumN g n
  | 0 => rfl
  | n + 1 => by
    rw [sumN, sumN, sumN, sumN_add f g n]
    omega
theorem sumN_one (c : Int) (j : Nat) : ∀ n, sumN (fun k => if k = j then c else 0) n = if j < n then c else 0
  | 0 => rfl
  | n + 1 => by
    rw [sumN, sumN_one c j n]
    by_cases h : j < n
    · rw [if_pos h, if_neg (by omega), if_pos (by omega), Int.add_zero]
    · rw [if_neg h]
      by_cases h2 : n = j
      · rw [if_pos h2, if_pos (by omega), Int.zero_add]
      · rw [if_neg h2, if_neg (by omega), Int.add_zero]
theorem sumN_mod {p : Int} {f g : Nat → Int} (h : ∀ k, ∃ z, f k = g k + p * z) : ∀ n, ∃ z, sumN f n = sumN g n + p * z
  | 0 => ⟨0, by rw [Int.mul_zero]; rfl⟩
  | n + 1 => by
    obtain ⟨z1, h1⟩ := sumN_mod h n
    obtain ⟨z2, h2⟩ := h n
    exact ⟨z1 + z2, by rw [sumN, sumN, h1, h2, Int.mul_add]; omega⟩
def cv (a b : Nat → Int) (i : Nat) : Int := sumN (fun k => a k * b (i - k)) (i + 1)
theorem sumN_shift (f : Nat → Int) : ∀ n, sumN f (n + 1) = f 0 + sumN (fun k => f (k + 1)) n
  | 0 => by
    show 0 + f 0 = f 0 + 0
    omega
  | n + 1 => by
    rw [sumN, sumN_shift f n, sumN]
    omega
theorem cvL_sum (other : List Int) : ∀ (qs : List Int) (at_ i : Nat), cvL other qs at_ i = sumN (fun k => if at_ + k ≤ i then co qs k * co other (i - (at_ + k)) else 0) qs.length
  | [], _, _ => rfl
  | q :: qs, at_, i => by
    rw [cvL, cvL_sum other qs, List.length_cons, sumN_shift]
    congr 1
    refine sumN_congr fun k _ => ?_
    show (if at_ + 1 + k ≤ i then co qs k * co other (i - (at_ + 1 + k)) else 0) = if at_ + (k + 1) ≤ i then co (q :: qs) (k + 1) * co other (i - (at_ + (k + 1))) else 0
    rw [show at_ + 1 + k = at_ + (k + 1) by omega]
    rfl
theorem cvL_cv (other qs : List Int) (i : Nat) : cvL other qs 0 i = cv (co qs) (co other) i := by
  rw [cvL_sum]
  unfold cv
  have e : sumN (fun k => co qs k * co other (i - k)) (i + 1) = sumN (fun k => if 0 + k ≤ i then co qs k * co other (i - (0 + k)) else 0) (i + 1) := sumN_congr fun k hk => by
    rw [if_pos (by omega), Nat.zero_add]
  rw [e]
  by_cases h : qs.length ≤ i + 1
  · exact (sumN_ext h fun k hk => by
      rw [co_beyond hk, Int.zero_mul]
      split <;> rfl).symm
  · exact sumN_ext (by omega) fun k hk => if_neg (by omega)
theorem tms_cv2 {p : Int} (hp : 0 < p) (one other : List Int) (i : Nat) : ∃ k, co (tmsN p one other) i = cv (co one) (co other) i + p * k := by
  obtain ⟨k, h⟩ := tms_co hp one other i
  exact ⟨k, by rw [h, cvL_cv]⟩
/-- one part more -/
theorem cv_more {p c : Int} {a a' b : Nat → Int} {j : Nat} (h : ∀ k, ∃ z, a' k = a k + (if k = j then c else 0) + p * z) (i : Nat) : ∃ z, cv a' b i = cv a b i + (if j ≤ i then c * b (i - j) else 0) + p * z := by
  unfold cv
  obtain ⟨z, hz⟩ := sumN_mod (p := p) (f := fun k => a' k * b (i - k)) (g := fun k => a k * b (i - k) + if k = j then c * b (i - j) else 0) (fun k => by
    obtain ⟨z, hz⟩ := h k
    refine ⟨z * b (i - k), ?_⟩
    show a' k * b (i - k) = _
    rw [hz, Int.add_mul, Int.add_mul, Int.mul_assoc]
    congr 2
    by_cases e : k = j
    · rw [if_pos e, if_pos e, e]
    · rw [if_neg e, if_neg e, Int.zero_mul]) (i + 1)
  refine ⟨z, ?_⟩
  rw [hz, sumN_add, sumN_one]
  by_cases e : j ≤ i
  · rw [if_pos e, if_pos (by omega)]
  · rw [if_neg e, if_neg (by omega)]

/-! ### numbers -/
def primesL : List Int := [2, 3, 5, 7, 11, 13, 17, 19, 23, 29, 31, 37, 41, 43, 47, 53, 59, 61, 67, 71, 73, 79, 83, 89, 97]
def isPrimeD : D → Bool
  | .int i => decide (i ∈ primesL)
  | _ => false
def isResD : D → Int → Bool
  | .int i, p => decide (0 ≤ i) && decide (i < p)
  | _, _ => false
theorem primes_range {p : Int} (h : p ∈ primesL) : 2 ≤ p ∧ p < 1000 := by
  have : ∀ q ∈ primesL, 2 ≤ q ∧ q < 1000 := by decide
  exact this p h
def undoneM (n p : Int) : Int := (List.range (p - 2).toNat).foldl (fun f _ => f * n % p) 1
def undoneAll : Bool := primesL.all fun p => (List.range p.toNat).all fun n => n == 0 || (decide ((n : Int) * undoneM n p % p = 1) && (decide (0 ≤ undoneM n p) && decide (undoneM n p < p)))
theorem undone_all : undoneAll = true := by decide +kernel
theorem undone_ok {p n : Int} (hp : p ∈ primesL) (h0 : 0 < n) (h1 : n < p) : n * undoneM n p % p = 1 ∧ 0 ≤ undoneM n p ∧ undoneM n p < p := by
  have h := List.all_eq_true.mp (show (primesL.all _) = true from undone_all) p hp
  have h2 := List.all_eq_true.mp h n.toNat (List.mem_range.mpr (by omega))
  rw [show ((n.toNat : Nat) : Int) = n by omega] at h2
  simp only [Bool.or_eq_true, Bool.and_eq_true, decide_eq_true_eq, beq_iff_eq] at h2
  rcases h2 with h2 | h2
  · omega
  · exact h2
theorem inV_ints (i : Int) (ns : List Int) : inV (.int i) (ns.map V.int) = decide (i ∈ ns) := by
  induction ns with
  | nil => rfl
  | cons n r ih =>
    show (eqV (.int n) (.int i) || inV (.int i) (r.map V.int)) = _
    rw [ih]
    have e : eqV (.int n) (.int i) = decide (n = i) := by
      unfold eqV
      simp
      rfl
    rw [e]
    by_cases h : n = i
    · simp [h]
    · have h' : ¬ i = n := fun z => h z.symm
      simp [h, h']
theorem flats_ints : ∀ ns : List Int, flats (ns.map .int) = some (ns.map V.int)
  | [] => rfl
  | n :: r => by
    show (match flatOf (.int n), flats (r.map .int) with | some v, some vs => some (v :: vs) | _, _ => none) = _
    rw [flats_ints r]
    rfl
theorem cmp_inT {κ : Ks} (i : Int) (ns : List Int) : cmpD .In κ (.int i) (tupI ns) = some (decide (i ∈ ns)) := by
  show (match some (ns.map D.int) with | some ds => (match flatOf (.int i), flats ds with | some v, some vs => some (inV v vs) | _, _ => none) | none => none) = _
  dsimp only
  rw [flats_ints]
  exact congrArg some (inV_ints i ns)
/-! ### loops of what is plain -/
theorem forL_ex {step : D → List En → M Out} {Inv : Nat → List En → Prop} : ∀ {ds : List D} {ρ : List En}, Inv 0 ρ → (∀ (i : Nat) (d : D) (ρ : List En), ds[i]? = some d → Inv i ρ → ∃ ρ', (step d ρ = M.ret (.nx ρ') ∨ step d ρ = M.ret (.ct ρ')) ∧ Inv (i + 1) ρ') → ∃ ρ', forL step ds ρ = M.ret (.nx ρ') ∧ Inv ds.length ρ'
  | [], ρ, h0, _ => ⟨ρ, rfl, h0⟩
  | d :: ds, ρ, h0, hs => by
    obtain ⟨ρ1, h1, h2⟩ := hs 0 d ρ rfl h0
    obtain ⟨ρ2, h3, h4⟩ := forL_ex (Inv := fun i => Inv (i + 1)) (ds := ds) h2 fun i d ρ hd hI => hs (i + 1) d ρ (by simpa using hd) hI
    refine ⟨ρ2, ?_, h4⟩
    rcases h1 with h1 | h1 <;> (rw [forL, h1, bind_ret]; exact h3)
theorem whL_ex {c : List En → M Bool} {b : List En → M Out} {Inv : Nat → List En → Prop} {Q : List En → Prop} (hs : ∀ n ρ, Inv n ρ → (c ρ = M.ret false ∧ Q ρ) ∨ (c ρ = M.ret true ∧ ∃ ρ' n', (b ρ = M.ret (.nx ρ') ∨ b ρ = M.ret (.ct ρ')) ∧ n' < n ∧ Inv n' ρ')) : ∀ (N n : Nat) (ρ : List En), n < N → Inv n ρ → ∃ ρ', whL c b N ρ = M.ret (.nx ρ') ∧ Q ρ'
  | 0, n, ρ, h, _ => absurd h (Nat.not_lt_zero n)
  | N + 1, n, ρ, h, hI => by
    rw [whL]
    rcases hs n ρ hI with ⟨h1, h2⟩ | ⟨h1, ρ', n', h2, h3, h4⟩
    · exact ⟨ρ, by rw [h1, bind_ret]; rfl, h2⟩
    · obtain ⟨ρ2, h5, h6⟩ := whL_ex hs N n' ρ' (by omega) h4
      refine ⟨ρ2, ?_, h6⟩
      rw [h1, bind_ret, if_pos rfl]
      rcases h2 with h2 | h2 <;> (rw [h2, bind_ret]; exact h5)
end VL

namespace VL
open PySem PySem.Spec PyProof.Rows L2
/-! ### the evaluator's equations, in one -/
def forB (E : Ev) (tg : Tg) (b : Sms) : D → List En → M Out := fun d ρ' => match tgPut ρ' tg d with
    | some ρ2 => evSs E ρ2 b
    | none => .fail
def whC (E : Ev) (c : Ex) : List En → M Bool := fun ρ' => .bind (datR (evX E ρ' c)) fun x => .ofO (asB x)
def whB (E : Ev) (b : Sms) : List En → M Out := fun ρ' => evSs E ρ' b
def compH (E : Ev) (ρ : List En) (vs1 : List Nat) (elt : Ex) (tg tg1 : Tg) (it1 : Itx) (cs : Exs) : D → M (List D) := fun d => match tgPut ρ tg d with
      | some ρ2 => .bind (evI E ρ2 it1) fun ds1 => compL (fun d1 => match tgPut (wipeE ρ2 vs1) tg1 d1 with
        | some ρ3 => .bind (evC E ρ3 cs) fun k => if k = true then .bind (datR (evX E ρ3 elt)) fun y => .ret (some y) else .ret none
        | none => .fail) ds1
      | none => .fail
def compX1 (E : Ev) (ρ : List En) (iy : Nat) (elt : Ex) : D → M (Option D) := fun d => .bind (datR (evX E (ρ.set iy (.dat d)) elt)) fun y => .ret (some y)
def compG (E : Ev) (ρ : List En) (elt : Ex) (tg : Tg) (cs : Exs) : D → M (Option D) := fun d => match tgPut ρ tg d with
      | some ρ2 => .bind (evC E ρ2 cs) fun k => if k = true then .bind (datR (evX E ρ2 elt)) fun y => .ret (some y) else .ret none
      | none => .fail
theorem bind_pure {α : Type} {m : M α} : M.bind m M.ret = m := by
  funext κ
  unfold M.bind
  cases m κ <;> rfl
theorem bind_pure' {α : Type} {m : M α} : M.bind m (fun r => M.ret r) = m := bind_pure
theorem ite_and {k c : Bool} : (if k = true then (M.ret (Rs.dat (.bool c)) : M Rs) else M.ret (.dat (.bool false))) = M.ret (.dat (.bool (k && c))) := by cases k <;> rfl
theorem ite_or {k c : Bool} : (if k = true then (M.ret (Rs.dat (.bool true)) : M Rs) else M.ret (.dat (.bool c))) = M.ret (.dat (.bool (k || c))) := by cases k <;> rfl
theorem if_len0 {α : Type} {ds : List D} {a b : M α} (h : ds.length ≤ sizeLine) : (if ds.length ≤ sizeLine then a else b) = a := if_pos h
theorem sizeLine_big : 100000 ≤ sizeLine := by decide
theorem EV1 (E : Ev) (ρ : List En) :
    (∀ i, evX E ρ (.v i) = match ρ[i]? with | some (.dat d) => .ret (.dat d) | _ => .fail)
    ∧ (∀ n, evX E ρ (.i n) = M.ret (.dat (.int n)))
    ∧ (∀ k, evX E ρ (.b k) = M.ret (.dat (.bool k)))
    ∧ (∀ z, evX E ρ (.s z) = M.ret (.dat (.str z)))
    ∧ (evX E ρ .non = M.ret (.dat .none))
    ∧ (∀ j, evX E ρ (.gl j) = .ofO (E.gls[j]?.map .dat))
    ∧ (∀ o a b, evX E ρ (.bin o a b) = .bind (rdS ρ a (evX E ρ a)) fun x => .bind (rdS ρ b (evX E ρ b)) fun y => .rd fun κ => opB o κ x y)
    ∧ (∀ a, evX E ρ (.neg a) = .bind (rdS ρ a (evX E ρ a)) fun x => match x with | .int i => .ret (.dat (.int (-i))) | _ => .fail)
    ∧ (∀ a, evX E ρ (.not a) = .bind (datR (evX E ρ a)) fun x => .ofO ((asB x).map fun b => .dat (.bool (!b))))
    ∧ (∀ o a b, evX E ρ (.cmp o a b) = .bind (rdS ρ a (evX E ρ a)) fun x => .bind (rdS ρ b (evX E ρ b)) fun y => .rd fun κ => (cmpD o κ x y).map fun k => .dat (.bool k))
    ∧ (∀ o o' a b c, evX E ρ (.cmp2 o o' a b c) = .bind (rdS ρ a (evX E ρ a)) fun x => .bind (rdS ρ b (evX E ρ b)) fun y => match x, y with
      | .int i, .int j => .bind (.ofO (cmpI o i j)) fun k => if k = true then .bind (rdS ρ c (evX E ρ c)) fun z => (match z with
        | .int l => .ofO ((cmpI o' j l).map fun k => .dat (.bool k))
        | _ => .fail)
        else .ret (.dat (.bool false))
      | _, _ => .fail)
    ∧ (∀ o es, evX E ρ (.bop o es) = evO E ρ o es)
    ∧ (∀ c a b, evX E ρ (.ite c a b) = .bind (datR (evX E ρ c)) fun x => .bind (.ofO (asB x)) fun k => if k = true then evX E ρ a else evX E ρ b)
    ∧ (∀ es, evX E ρ (.tup es) = .bind (evL E ρ es) fun ds => if ds.length ≤ sizeLine then .ret (.dat (.tuple ds)) else .fail)
    ∧ (∀ es, evX E ρ (.lst es) = .bind (evL E ρ es) fun ds => if ds.length ≤ sizeLine then .ret (.new (.lst ds)) else .fail)
    ∧ (∀ j es, evX E ρ (.call j es) = .bind (evA E ρ es) fun as => match E.fns[j]? with | some f => f as | none => .fail)
    ∧ (∀ j es, evX E ρ (.callK j es) = .bind (evA E ρ es) fun as => match E.fks[j]? with | some f => f as | none => .fail)
    ∧ (∀ b es, evX E ρ (.bi b es) = .bind (evRs E ρ es) fun ds => .rd fun κ => biS b κ ds)
    ∧ (∀ a b, evX E ρ (.ix a b) = .bind (rdS ρ a (evX E ρ a)) fun x => .bind (rdS ρ b (evX E ρ b)) fun y => .rd fun κ => (itemS κ x y).map .dat)
    ∧ (∀ a lo hi, evX E ρ (.sl a lo hi) = .bind (rdS ρ a (evX E ρ a)) fun x => .bind (evOx E ρ lo) fun l => .bind (evOx E ρ hi) fun h => .rd fun κ => sliceS κ x l h)
    ∧ (∀ own elt tg it cs, evX E ρ (.comp own elt tg it cs) = .bind (evI E ρ it) fun ds => if ds.length ≤ sizeLine then .bind (noX (compL (compG E (wipeE ρ (own.map (·.2))) elt tg cs) ds)) fun ys => .ret (.new (.lst ys)) else .fail)
    ∧ (evX E ρ .gap = M.fail)
    ∧ (∀ z iy elt it, evX E ρ (.compX z iy elt it) = .bind (evI E ρ it) fun ds => if ds.length ≤ sizeLine then .bind (compL (compX1 E (wipeE ρ [iy]) iy elt) ds) fun ys => .ret (.new (.lst ys)) else .fail)
    ∧ (∀ x t, evX E ρ (.lam x t) = M.ret (.dat (.lam x t)))
    ∧ (∀ x i y, evX E ρ (.acts x i y) = .bind (.ofO (lamsIn x ρ[i]?)) fun ts => if ts.length ≤ 1000 ∧ y < ρ.length then .bind (actL E.tr (fun t => E.lamM t (unOwn ρ)) ts) fun ds => .ret (.new (.lst ds)) else .fail)
    ∧ (∀ j k d, evX E ρ (.getG j k d) = match E.gds[j]? with | some kvs => .bind (datR (evX E ρ k)) fun x => .bind (datR (evX E ρ d)) fun y => .ofO (getS kvs x y) | none => .fail)
    ∧ (∀ t it, evX E ρ (.conv t it) = .bind (evI E ρ it) fun ds => if ds.length ≤ 16777216 then .ret (if t = true then .dat (.tuple ds) else .new (.lst ds)) else .fail)
    ∧ (∀ own vs1 elt tg it tg1 it1 cs, evX E ρ (.comp2 own vs1 elt tg it tg1 it1 cs) = .bind (evI E ρ it) fun ds => .bind (noX (comp2L (compH E (wipeE ρ (own.map (·.2))) vs1 elt tg tg1 it1 cs) ds)) fun ys => if ys.length ≤ sizeLine then .ret (.new (.lst ys)) else .fail)
    ∧ (∀ o a, evO E ρ o (.cons a .nil) = evX E ρ a)
    ∧ (∀ a b es, evO E ρ .And (.cons a (.cons b es)) = .bind (datR (evX E ρ a)) fun x => .bind (.ofO (asB x)) fun k => if k = true then evO E ρ .And (.cons b es) else .ret (.dat (.bool false)))
    ∧ (∀ a b es, evO E ρ .Or (.cons a (.cons b es)) = .bind (datR (evX E ρ a)) fun x => .bind (.ofO (asB x)) fun k => if k = true then .ret (.dat (.bool true)) else evO E ρ .Or (.cons b es))
    ∧ (evL E ρ .nil = .ret [])
    ∧ (∀ a es, evL E ρ (.cons a es) = .bind (datR (evX E ρ a)) fun d => .bind (evL E ρ es) fun r => .ret (d :: r))
    ∧ (evRs E ρ .nil = .ret [])
    ∧ (∀ a es, evRs E ρ (.cons a es) = .bind (rdS ρ a (evX E ρ a)) fun d => .bind (evRs E ρ es) fun r => .ret (d :: r))
    ∧ (evA E ρ .nil = .ret [])
    ∧ (∀ a es, evA E ρ (.cons a es) = .bind (argS ρ a (evX E ρ a)) fun d => .bind (evA E ρ es) fun r => .ret (d :: r))
    ∧ (evC E ρ .nil = .ret true)
    ∧ (∀ a, evC E ρ (.cons a .nil) = .bind (datR (evX E ρ a)) fun x => .ofO (asB x))
    ∧ (evOx E ρ .no = .ret none)
    ∧ (∀ a, evOx E ρ (.so a) = .bind (datR (evX E ρ a)) fun x => match x with | .int i => .ret (some i) | _ => .fail)
    ∧ (∀ a, evI E ρ (.seq a) = .bind (rdI ρ a (evX E ρ a)) fun x => .ofO (sqW x))
    ∧ (∀ a, evI E ρ (.rev a) = .bind (rdI ρ a (evX E ρ a)) fun x => .ofO ((sqD x).map List.reverse))
    ∧ (∀ a, evI E ρ (.rng1 a) = .bind (datR (evX E ρ a)) fun x => .ofO (match x with | .int i => ranS 0 i | _ => none))
    ∧ (∀ a b, evI E ρ (.rng2 a b) = .bind (datR (evX E ρ a)) fun x => .bind (datR (evX E ρ b)) fun y => .ofO (match x, y with | .int i, .int j => ranS i j | _, _ => none))
    ∧ (∀ a, evI E ρ (.enum a) = .bind (rdI ρ a (evX E ρ a)) fun x => .ofO ((sqD x).map fun ds => zipD (rangeD 0 ds.length) ds))
    ∧ (∀ a b, evI E ρ (.zip a b) = .bind (rdI ρ a (evX E ρ a)) fun x => .bind (rdI ρ b (evX E ρ b)) fun y => .ofO (zipS x y)) := by
  refine ⟨?_, ?_, ?_, ?_, ?_, ?_, ?_, ?_, ?_, ?_, ?_, ?_, ?_, ?_, ?_, ?_, ?_, ?_, ?_, ?_, ?_, ?_, ?_, ?_, ?_, ?_, ?_, ?_, ?_, fun a b es => ?_, fun a b es => ?_, ?_, ?_, ?_, ?_, ?_, ?_, ?_, ?_, ?_, ?_, ?_, ?_, ?_, ?_, ?_, ?_⟩
  case refine_30 | refine_31 =>
    rw [evO]
    congr 1
    funext x
    congr 1
    funext k
    cases k <;> rfl
    all_goals (intro h; cases h)
  all_goals (intros; rfl)
theorem EV2 (E : Ev) (ρ : List En) :
    (∀ i x, evS E ρ (.set i x) = .bind (datR (evX E ρ x)) fun d => .ret (.nx (ρ.set i (.dat d))))
    ∧ (∀ i x, evS E ρ (.setN i x) = .bind (evX E ρ x) fun r => match r with | .new o => .ret (.nx (ρ.set i (.own o))) | .dat _ => .fail)
    ∧ (∀ is x, evS E ρ (.unp is x) = .bind (datR (evX E ρ x)) fun d => .ofO ((tgPut ρ (.tup is) d).map .nx))
    ∧ (∀ i j a b, evS E ρ (.par i j a b) = .bind (datR (evX E ρ a)) fun x => .bind (datR (evX E ρ b)) fun y => .ret (.nx ((ρ.set i (.dat x)).set j (.dat y))))
    ∧ (∀ i o x, evS E ρ (.aug i o x) = match ρ[i]? with | some (.dat (.int n)) => .bind (datR (evX E ρ x)) fun d => (match o, d with | .Add, .int k => .ret (.nx (ρ.set i (.dat (.int (n + k))))) | .Sub, .int k => .ret (.nx (ρ.set i (.dat (.int (n - k))))) | _, _ => .fail) | _ => .fail)
    ∧ (∀ i k x, evS E ρ (.put i k x) = match ρ[i]? with
      | some (.own (.lst ds)) => .bind (datR (evX E ρ x)) fun y => .bind (datR (evX E ρ k)) fun z => putO ρ i ds z y
      | some (.dat (.hd h)) => .bind (datR (evX E ρ x)) fun y => .bind (datR (evX E ρ k)) fun z => putH ρ h z y
      | _ => .fail)
    ∧ (∀ i x, evS E ρ (.app i x) = match ρ[i]? with
      | some (.own (.lst ds)) => .bind (datR (evX E ρ x)) fun y => if ds.length < sizeLine then .ret (.nx (ρ.set i (.own (.lst (ds ++ [y]))))) else .fail
      | _ => .fail)
    ∧ (∀ tg i o, evS E ρ (.pop tg i o) = match ρ[i]? with | some (.own (.lst ds)) => .bind (evOx E ρ o) fun k => .ofO (popT tg (popS ρ i ds k)) | _ => .fail)
    ∧ (∀ i x, evS E ρ (.ext i x) = match ρ[i]? with
      | some (.own (.lst ds)) => .bind (datR (evX E ρ x)) fun y => (match y with | .list zs => if ds.length + zs.length ≤ sizeLine then .ret (.nx (ρ.set i (.own (.lst (ds ++ zs))))) else .fail | _ => .fail)
      | _ => .fail)
    ∧ (∀ i k x, evS E ρ (.ins i k x) = match ρ[i]? with | some (.own (.lst ds)) => .bind (datR (evX E ρ k)) fun z => .bind (datR (evX E ρ x)) fun y => insS ρ i ds z y | _ => .fail)
    ∧ (∀ i j o, evS E ρ (.appP i j o) = if i = j then .fail else match ρ[j]?, ρ[i]? with | some (.own (.lst ds)), some (.own (.lst es)) => .bind (evOx E ρ o) fun k => .ofO (popA i es (popS ρ j ds k)) | _, _ => .fail)
    ∧ (∀ is ns es, evS E ρ (.parN is ns es) = .bind (evN E ρ ns es) fun rs => .ret (.nx (parE ρ is rs)))
    ∧ (evN E ρ [] .nil = .ret [])
    ∧ (∀ ns a es, evN E ρ (true :: ns) (.cons a es) = .bind (evX E ρ a) fun r => match r with | .new o => .bind (evN E ρ ns es) fun rs => .ret (.new o :: rs) | .dat _ => .fail)
    ∧ (∀ ns a es, evN E ρ (false :: ns) (.cons a es) = .bind (datR (evX E ρ a)) fun d => .bind (evN E ρ ns es) fun rs => .ret (.dat d :: rs))
    ∧ (∀ c a b, evS E ρ (.ifS c a b) = .bind (datR (evX E ρ c)) fun x => .bind (.ofO (asB x)) fun k => if k = true then evSs E ρ a else evSs E ρ b)
    ∧ (∀ tg it b, evS E ρ (.forS tg it b) = .bind (evI E ρ it) fun ds => forL (forB E tg b) ds ρ)
    ∧ (∀ c b, evS E ρ (.whS c b) = whL (whC E c) (whB E b) whN ρ)
    ∧ (∀ x, evS E ρ (.ret x) = .bind (evX E ρ x) fun r => .ret (.rt r))
    ∧ (∀ x, evS E ρ (.retD x) = .bind (datR (evX E ρ x)) fun d => .ret (.rt (.dat d)))
    ∧ (∀ i, evS E ρ (.retO i) = match ρ[i]? with | some (.own x) => .ret (.rt (.new x)) | _ => .fail)
    ∧ (evS E ρ .retU = .ret (.rt (.dat .none)))
    ∧ (∀ x, evS E ρ (.expr x) = .bind (evX E ρ x) fun _ => .ret (.nx ρ))
    ∧ (∀ c, evS E ρ (.raise0 c) = .raise (c, [("word", .str c)]))
    ∧ (∀ c fl x, evS E ρ (.raise1 c fl x) = .bind (datR (evX E ρ x)) fun d => .raise (c, [(fl, d), ("word", .str c)]))
    ∧ (evS E ρ .cont = .ret (.ct ρ))
    ∧ (evS E ρ .brk = .ret (.bk ρ))
    ∧ (evS E ρ .gap = M.fail)
    ∧ (evS E ρ .pass = .ret (.nx ρ))
    ∧ (evSs E ρ .nil = .ret (.nx ρ))
    ∧ (∀ a es, evSs E ρ (.cons a es) = .bind (evS E ρ a) fun o => match o with | .nx ρ' => evSs E ρ' es | o => .ret o)
    ∧ (∀ i es, evSs E ρ (.frz i es) = evSs E (frzS ρ i) es) := by
  refine ⟨?_, ?_, ?_, ?_, ?_, ?_, ?_, ?_, ?_, ?_, ?_, ?_, ?_, ?_, ?_, ?_, ?_, ?_, ?_, ?_, ?_, ?_, ?_, ?_, ?_, ?_, ?_, ?_, ?_, ?_, ?_, ?_⟩
  all_goals (intros; rfl)
theorem EV3 (κ : Ks) :
    (∀ i j, opB .Add κ (.int i) (.int j) = some (.dat (.int (i + j))))
    ∧ (∀ i j, opB .Sub κ (.int i) (.int j) = some (.dat (.int (i - j))))
    ∧ (∀ ds, sqOf κ (.tuple ds) = some ds)
    ∧ (∀ ds, sqOf κ (.list ds) = some ds)
    ∧ (∀ ds, biS .len κ [.tuple ds] = some (.dat (.int ds.length)))
    ∧ (∀ ds, biS .len κ [.list ds] = some (.dat (.int ds.length)))
    ∧ (∀ ds, biS .list κ [.tuple ds] = some (.new (.lst ds)))
    ∧ (∀ ds, biS .list κ [.list ds] = some (.new (.lst ds)))
    ∧ (∀ ds, biS .tuple κ [.tuple ds] = some (.dat (.tuple ds)))
    ∧ (∀ ds, biS .tuple κ [.list ds] = some (.dat (.tuple ds)))
    ∧ (∀ i j, biS .max2 κ [.int i, .int j] = some (.dat (.int (if j > i then j else i))))
    ∧ (∀ i j, biS .min2 κ [.int i, .int j] = some (.dat (.int (if j < i then j else i))))
    ∧ (∀ ds : List Bool, biS .all κ [.list (ds.map .bool)] = some (.dat (.bool (ds.all id))))
    ∧ (∀ ds : List Bool, biS .any κ [.list (ds.map .bool)] = some (.dat (.bool (ds.any id))))
    ∧ (∀ i j, cmpD .Lt κ (.int i) (.int j) = some (decide (i < j)))
    ∧ (∀ i j, cmpD .LtE κ (.int i) (.int j) = some (decide (i ≤ j)))
    ∧ (∀ i j, cmpD .Gt κ (.int i) (.int j) = some (decide (j < i)))
    ∧ (∀ i j, cmpD .GtE κ (.int i) (.int j) = some (decide (j ≤ i)))
    ∧ (∀ i j, cmpD .Eq κ (.int i) (.int j) = some (decide (i = j)))
    ∧ (∀ i j, cmpD .NotEq κ (.int i) (.int j) = some (!decide (i = j)))
    ∧ (∀ x, cmpD .Is κ x .none = some (isNoneD x))
    ∧ (∀ x, cmpD .IsNot κ x .none = some (!isNoneD x))
    ∧ (∀ x ds, inO κ x (.tuple ds) = inQ κ x (.tuple ds))
    ∧ (∀ ds i, itemS κ (.tuple ds) (.int i) = atI ds i)
    ∧ (∀ ds i, itemS κ (.list ds) (.int i) = atI ds i)
    ∧ (∀ ds l h, sliceS κ (.tuple ds) l h = some (.dat (.tuple (cutD ds l h))))
    ∧ (∀ ds l h, sliceS κ (.list ds) l h = some (.new (.lst (cutD ds l h)))) := by
  refine ⟨?_, ?_, ?_, ?_, ?_, ?_, ?_, ?_, ?_, ?_, ?_, ?_, ?_, ?_, ?_, ?_, ?_, ?_, ?_, ?_, ?_, ?_, ?_, ?_, ?_, ?_, ?_⟩
  case refine_13 | refine_14 =>
    intro ds
    simp only [biS, lsOf, bools_ok, Option.map_some]
  all_goals (intros; rfl)
theorem EV4 :
    (∀ {α β : Type} (a : α) (f : α → M β), M.bind (M.ret a) f = f a)
    ∧ (∀ {α β : Type} (f : α → M β), M.bind (M.fail : M α) f = M.fail)
    ∧ (∀ {α β : Type} (x : Exc) (f : α → M β), M.bind (M.raise x : M α) f = M.raise x)
    ∧ (∀ {α β γ : Type} (m : M α) (f : α → M β) (g : β → M γ), M.bind (M.bind m f) g = M.bind m fun a => M.bind (f a) g)
    ∧ (∀ {α : Type} (m : M α), M.bind m (fun r => M.ret r) = m)
    ∧ (∀ {α β : Type} (c : Prop) [Decidable c] (m m' : M α) (f : α → M β), M.bind (if c then m else m') f = if c then M.bind m f else M.bind m' f)
    ∧ (∀ {α : Type} (a : α), M.ofO (some a) = M.ret a)
    ∧ (∀ {α : Type}, M.ofO (none : Option α) = M.fail)
    ∧ (∀ {α : Type} (a : α), M.rd (fun _ => some a) = M.ret a)
    ∧ (∀ (k c : Bool), (if k = true then (M.ret (Rs.dat (.bool c)) : M Rs) else M.ret (.dat (.bool false))) = M.ret (.dat (.bool (k && c))))
    ∧ (∀ (k c : Bool), (if k = true then (M.ret (Rs.dat (.bool true)) : M Rs) else M.ret (.dat (.bool c))) = M.ret (.dat (.bool (k || c))))
    ∧ (∀ (m : M Rs), datR m = .bind m fun r => .ret r.data)
    ∧ (∀ {α : Type} (a : α), noX (M.ret a) = M.ret a)
    ∧ (∀ d, Rs.data (.dat d) = d)
    ∧ (∀ o, Rs.data (.new o) = o.data)
    ∧ (∀ ds, Ow.data (.lst ds) = .list ds)
    ∧ (∀ b, asB (.bool b) = some b)
    ∧ (∀ i, asI (.int i) = some i)
    ∧ (∀ ds, sqD (.tuple ds) = some ds)
    ∧ (∀ ds, sqD (.list ds) = some ds)
    ∧ (∀ ds, sqW (.tuple ds) = some ds)
    ∧ (∀ ds, sqW (.list ds) = some ds)
    ∧ (∀ z, sqW (.str z) = some (chrsD z))
    ∧ (∀ kvs q z, getS kvs (.str q) z = some (.dat ((kvs.lookup q).getD z)))
    ∧ (∀ tg d ρ2, popT tg (some (d, ρ2)) = (tgPut ρ2 tg d).map .nx)
    ∧ (∀ ρ i is d rs, parE ρ (i :: is) (.dat d :: rs) = parE (ρ.set i (.dat d)) is rs)
    ∧ (∀ ρ i is x rs, parE ρ (i :: is) (.new x :: rs) = parE (ρ.set i (.own x)) is rs)
    ∧ (∀ ρ, parE ρ [] [] = ρ) :=
  ⟨fun _ _ => rfl, fun _ => rfl, fun _ _ => rfl, fun _ _ _ => bind_bind, fun _ => bind_pure, fun _ _ _ _ _ => bind_if, fun _ => rfl, rfl, fun _ => rfl, fun _ _ => ite_and, fun _ _ => ite_or, fun _ => rfl, fun _ => rfl, fun _ => rfl, fun _ => rfl, fun _ => rfl, fun _ => rfl, fun _ => rfl, fun _ => rfl, fun _ => rfl, fun _ => rfl, fun _ => rfl, fun _ => rfl, fun _ _ _ => rfl, fun _ _ _ => rfl, fun _ _ _ _ _ => rfl, fun _ _ _ _ _ => rfl, fun _ => rfl⟩
end VL

namespace VL
open PySem PySem.Spec PyProof.Rows L2
theorem EV5 {α : Type} :
    (∀ (a : α) (as : List α), (a :: as)[0]? = some a)
    ∧ (∀ (a : α) (as : List α) (i : Nat), (a :: as)[i + 1]? = as[i]?)
    ∧ (∀ (a b : α) (as : List α), (a :: as).set 0 b = b :: as)
    ∧ (∀ (a b : α) (as : List α) (i : Nat), (a :: as).set (i + 1) b = a :: as.set i b)
    ∧ (∀ (a : α) (as bs : List α), (a :: as) ++ bs = a :: (as ++ bs))
    ∧ (∀ (bs : List α), [] ++ bs = bs)
    ∧ (∀ (n : Nat) (a : α), List.replicate (n + 1) a = a :: List.replicate n a)
    ∧ (∀ (a : α), List.replicate 0 a = [])
    ∧ (∀ (a : α) (as : List α), (a :: as).length = as.length + 1)
    ∧ ([] : List α).length = 0 :=
  ⟨fun _ _ => rfl, fun _ _ _ => rfl, fun _ _ _ => rfl, fun _ _ _ _ => rfl, fun _ _ _ => rfl, fun _ => rfl, fun _ _ => rfl, fun _ => rfl, fun _ _ => rfl, rfl⟩
theorem EV6 : ((0 ≤ sizeLine) = True) ∧ ((1 ≤ sizeLine) = True) ∧ ((2 ≤ sizeLine) = True) ∧ ((3 ≤ sizeLine) = True) ∧ ((4 ≤ sizeLine) = True) ∧ ((5 ≤ sizeLine) = True) ∧ ((6 ≤ sizeLine) = True) ∧ ((7 ≤ sizeLine) = True) ∧ ((8 ≤ sizeLine) = True) ∧ ((9 ≤ sizeLine) = True) ∧ ((10 ≤ sizeLine) = True) ∧ ((11 ≤ sizeLine) = True) ∧ ((12 ≤ sizeLine) = True) ∧ ((13 ≤ sizeLine) = True) ∧ ((14 ≤ sizeLine) = True) ∧ ((15 ≤ sizeLine) = True) ∧ ((16 ≤ sizeLine) = True) ∧ ((17 ≤ sizeLine) = True) ∧ ((18 ≤ sizeLine) = True) ∧ ((19 ≤ sizeLine) = True) ∧ ((20 ≤ sizeLine) = True) ∧ ((21 ≤ sizeLine) = True) ∧ ((22 ≤ sizeLine) = True) ∧ ((23 ≤ sizeLine) = True) ∧ ((24 ≤ sizeLine) = True) ∧ ((25 ≤ sizeLine) = True) ∧ ((26 ≤ sizeLine) = True) ∧ ((27 ≤ sizeLine) = True) ∧ ((28 ≤ sizeLine) = True) ∧ ((29 ≤ sizeLine) = True) ∧ ((30 ≤ sizeLine) = True) ∧ ((31 ≤ sizeLine) = True) ∧ ((32 ≤ sizeLine) = True) ∧ ((33 ≤ sizeLine) = True) ∧ ((34 ≤ sizeLine) = True) ∧ ((35 ≤ sizeLine) = True) ∧ ((36 ≤ sizeLine) = True) ∧ ((37 ≤ sizeLine) = True) ∧ ((38 ≤ sizeLine) = True) ∧ ((39 ≤ sizeLine) = True) ∧ ((40 ≤ sizeLine) = True) := by
  refine ⟨?_, ?_, ?_, ?_, ?_, ?_, ?_, ?_, ?_, ?_, ?_, ?_, ?_, ?_, ?_, ?_, ?_, ?_, ?_, ?_, ?_, ?_, ?_, ?_, ?_, ?_, ?_, ?_, ?_, ?_, ?_, ?_, ?_, ?_, ?_, ?_, ?_, ?_, ?_, ?_, ?_⟩ <;> exact eq_true (by decide)
/-! ### loops, with what comes after -/
section
variable {β : Type} {f : Out → M β} {r : M β}
theorem forL_then {step : D → List En → M Out} (Inv : Nat → List En → Prop) {ds : List D} {ρ : List En} (h0 : Inv 0 ρ) (hs : ∀ (i : Nat) (d : D) (ρ : List En), ds[i]? = some d → Inv i ρ → ∃ ρ', (step d ρ = M.ret (.nx ρ') ∨ step d ρ = M.ret (.ct ρ')) ∧ Inv (i + 1) ρ') (hk : ∀ ρ', Inv ds.length ρ' → f (.nx ρ') = r) : M.bind (forL step ds ρ) f = r := by
  obtain ⟨ρ', e, h⟩ := forL_ex h0 hs
  rw [e, bind_ret]
  exact hk ρ' h
theorem whL_then {c : List En → M Bool} {b : List En → M Out} (Inv : Nat → List En → Prop) (Q : List En → Prop) {ρ : List En} {n : Nat} (h0 : Inv n ρ) (hn : n < whN) (hs : ∀ n ρ, Inv n ρ → (c ρ = M.ret false ∧ Q ρ) ∨ (c ρ = M.ret true ∧ ∃ ρ' n', (b ρ = M.ret (.nx ρ') ∨ b ρ = M.ret (.ct ρ')) ∧ n' < n ∧ Inv n' ρ')) (hk : ∀ ρ', Q ρ' → f (.nx ρ') = r) : M.bind (whL c b whN ρ) f = r := by
  obtain ⟨ρ', e, h⟩ := whL_ex hs whN n ρ hn h0
  rw [e, bind_ret]
  exact hk ρ' h
theorem Dr.eq {α : Type} {m : M α} {a : α} {P : α → Prop} (e : m = M.ret a) (h : P a) : Dr m P := by
  rw [e]
  exact Dr.ret h
end
theorem ranS_ok {i j : Int} (h : -(2 ^ 62) ≤ i ∧ i < 2 ^ 62 ∧ -(2 ^ 62) ≤ j ∧ j < 2 ^ 62) : ranS i j = some (rangeD i (j - i).toNat) := if_pos h
theorem rangeD_get' {lo : Int} {n i : Nat} {d : D} (h : (rangeD lo n)[i]? = some d) : i < n ∧ d = .int (lo + i) := by
  unfold rangeD at h
  rw [List.getElem?_map] at h
  by_cases hi : i < n
  · rw [List.getElem?_range hi] at h
    exact ⟨hi, (Option.some.inj h).symm⟩
  · rw [List.getElem?_eq_none (by rw [List.length_range]; omega)] at h
    cases h
theorem rangeD_mem {lo : Int} {n : Nat} {d : D} (h : d ∈ rangeD lo n) : ∃ i : Nat, i < n ∧ d = .int (lo + i) := by
  unfold rangeD at h
  obtain ⟨i, hi, rfl⟩ := List.mem_map.mp h
  exact ⟨i, List.mem_range.mp hi, rfl⟩
end VL

namespace VL
open PySem PySem.Spec PyProof.Rows L2
/-! ### polynomials over the integers, taken mod p -/
abbrev Fn := Nat → Int
def shF (f : Fn) : Fn
  | 0 => 0
  | i + 1 => f i
def act : List Int → Fn → Fn
  | [], _ => fun _ => 0
  | x :: xs, f => fun i => x * f i + shF (act xs f) i
def Cg (p : Int) (f g : Fn) : Prop := ∀ i, ∃ k, f i = g i + p * k
theorem Cg.refl {p : Int} (f : Fn) : Cg p f f := fun i => ⟨0, by rw [Int.mul_zero, Int.add_zero]⟩
theorem Cg.symm {p : Int} {f g : Fn} (h : Cg p f g) : Cg p g f := fun i => by
  obtain ⟨k, hk⟩ := h i
  exact ⟨-k, by rw [hk, Int.mul_neg]; omega⟩
theorem Cg.trans {p : Int} {f g h : Fn} (h1 : Cg p f g) (h2 : Cg p g h) : Cg p f h := fun i => by
  obtain ⟨k, hk⟩ := h1 i
  obtain ⟨l, hl⟩ := h2 i
  exact ⟨l + k, by rw [hk, hl, Int.mul_add]; omega⟩
theorem Cg.add {p : Int} {f g f' g' : Fn} (h1 : Cg p f f') (h2 : Cg p g g') : Cg p (fun i => f i + g i) (fun i => f' i + g' i) := fun i => by
  obtain ⟨k, hk⟩ := h1 i
  obtain ⟨l, hl⟩ := h2 i
  exact ⟨k + l, by show f i + g i = f' i + g' i + _; rw [hk, hl, Int.mul_add]; omega⟩
theorem Cg.smul {p : Int} {f f' : Fn} (c : Int) (h1 : Cg p f f') : Cg p (fun i => c * f i) (fun i => c * f' i) := fun i => by
  obtain ⟨k, hk⟩ := h1 i
  exact ⟨c * k, by show c * f i = c * f' i + _; rw [hk, Int.mul_add, Int.mul_left_comm]⟩
theorem Cg.sh {p : Int} {f f' : Fn} (h : Cg p f f') : Cg p (shF f) (shF f') := fun i => by
  cases i with
  | zero => exact ⟨0, by rw [Int.mul_zero]; rfl⟩
  | succ i => exact h i
theorem Cg.act {p : Int} {f f' : Fn} (h : Cg p f f') : ∀ xs : List Int, Cg p (act xs f) (act xs f')
  | [] => Cg.refl _
  | x :: xs => (h.smul x).add (Cg.act h xs).sh
theorem sh_add (f g : Fn) : shF (fun i => f i + g i) = fun i => shF f i + shF g i := by
  funext i
  cases i <;> rfl
theorem sh_smul (c : Int) (f : Fn) : shF (fun i => c * f i) = fun i => c * shF f i := by
  funext i
  cases i with
  | zero => show (0 : Int) = c * 0; rw [Int.mul_zero]
  | succ i => rfl
theorem act_add (f g : Fn) : ∀ xs : List Int, act xs (fun i => f i + g i) = fun i => act xs f i + act xs g i
  | [] => rfl
  | x :: xs => by
    funext i
    show x * (f i + g i) + shF (act xs fun i => f i + g i) i = (x * f i + shF (act xs f) i) + (x * g i + shF (act xs g) i)
    rw [act_add f g xs, sh_add, Int.mul_add]
    show x * f i + x * g i + (shF (act xs f) i + shF (act xs g) i) = _
    omega
theorem act_smul (c : Int) (f : Fn) : ∀ xs : List Int, act xs (fun i => c * f i) = fun i => c * act xs f i
  | [] => by
    funext i
    show (0 : Int) = c * 0
    rw [Int.mul_zero]
  | x :: xs => by
    funext i
    show x * (c * f i) + shF (act xs fun i => c * f i) i = c * (x * f i + shF (act xs f) i)
    rw [act_smul c f xs, sh_smul, Int.mul_add, Int.mul_left_comm]
theorem act_sh (f : Fn) : ∀ xs : List Int, act xs (shF f) = shF (act xs f)
  | [] => by
    funext i
    cases i <;> rfl
  | x :: xs => by
    funext i
    show x * shF f i + shF (act xs (shF f)) i = shF (act (x :: xs) f) i
    rw [act_sh f xs]
    cases i with
    | zero =>
      show x * 0 + 0 = 0
      rw [Int.mul_zero]
      rfl
    | succ i => rfl
theorem act_comm (f : Fn) (ys : List Int) : ∀ xs : List Int, act xs (act ys f) = act ys (act xs f)
  | [] => by
    show (fun _ => (0 : Int)) = act ys fun _ => 0
    have : ∀ zs : List Int, act zs (fun _ => 0) = fun _ => 0 := fun zs => by
      induction zs with
      | nil => rfl
      | cons z zs ih =>
        funext i
        show z * 0 + shF (act zs fun _ => 0) i = 0
        rw [ih, Int.mul_zero]
        cases i <;> rfl
    exact (this ys).symm
  | x :: xs => by
    show (fun i => x * act ys f i + shF (act xs (act ys f)) i) = act ys (fun i => x * f i + shF (act xs f) i)
    rw [act_add, act_smul, act_sh, act_comm f ys xs]
/-! ### lists as polynomials -/
def addP : List Int → List Int → List Int
  | [], ys => ys
  | xs, [] => xs
  | x :: xs, y :: ys => (x + y) :: addP xs ys
theorem act_addP (f : Fn) : ∀ xs ys : List Int, act (addP xs ys) f = fun i => act xs f i + act ys f i
  | [], ys => by
    funext i
    show act ys f i = 0 + act ys f i
    omega
  | x :: xs, [] => by
    funext i
    show act (x :: xs) f i = act (x :: xs) f i + 0
    omega
  | x :: xs, y :: ys => by
    funext i
    show (x + y) * f i + shF (act (addP xs ys) f) i = (x * f i + shF (act xs f) i) + (y * f i + shF (act ys f) i)
    rw [act_addP f xs ys, sh_add, Int.add_mul]
    show _ + (shF (act xs f) i + shF (act ys f) i) = _
    omega
def sclP (c : Int) (xs : List Int) : List Int := xs.map (c * ·)
theorem act_sclP (c : Int) (f : Fn) : ∀ xs : List Int, act (sclP c xs) f = fun i => c * act xs f i
  | [] => by
    funext i
    show (0 : Int) = c * 0
    rw [Int.mul_zero]
  | x :: xs => by
    funext i
    show c * x * f i + shF (act (sclP c xs) f) i = c * (x * f i + shF (act xs f) i)
    rw [act_sclP c f xs, sh_smul, Int.mul_add, Int.mul_assoc]
def mulP : List Int → List Int → List Int
  | [], _ => []
  | x :: xs, ys => addP (sclP x ys) (0 :: mulP xs ys)
theorem act_mulP (f : Fn) (ys : List Int) : ∀ xs : List Int, act (mulP xs ys) f = act xs (act ys f)
  | [] => rfl
  | x :: xs => by
    funext i
    show act (addP (sclP x ys) (0 :: mulP xs ys)) f i = x * act ys f i + shF (act xs (act ys f)) i
    rw [act_addP, act_sclP]
    show x * act ys f i + (0 * f i + shF (act (mulP xs ys) f) i) = _
    rw [act_mulP f ys xs, Int.zero_mul, Int.zero_add]
/-- d divides f, mod p -/
def Dv (p : Int) (d f : Fn) : Prop := ∃ q : List Int, Cg p f (act q d)
theorem Dv.refl {p : Int} (d : Fn) : Dv p d d := ⟨[1], fun i => ⟨0, by
  show d i = 1 * d i + shF (act [] d) i + p * 0
  have : shF (act [] d) i = 0 := by cases i <;> rfl
  rw [this, Int.one_mul, Int.mul_zero]
  omega⟩⟩
theorem Dv.act {p : Int} {d f : Fn} (h : Dv p d f) (xs : List Int) : Dv p d (act xs f) := by
  obtain ⟨q, hq⟩ := h
  refine ⟨mulP xs q, ?_⟩
  rw [act_mulP]
  exact hq.act xs
theorem Dv.add {p : Int} {d f g : Fn} (h1 : Dv p d f) (h2 : Dv p d g) : Dv p d (fun i => f i + g i) := by
  obtain ⟨q, hq⟩ := h1
  obtain ⟨r, hr⟩ := h2
  refine ⟨addP q r, ?_⟩
  rw [act_addP]
  exact hq.add hr
theorem Dv.cg {p : Int} {d f g : Fn} (h : Dv p d f) (e : Cg p g f) : Dv p d g := by
  obtain ⟨q, hq⟩ := h
  exact ⟨q, e.trans hq⟩
theorem Dv.trans {p : Int} {d f g : Fn} (h1 : Dv p d f) (h2 : Dv p f g) : Dv p d g := by
  obtain ⟨q, hq⟩ := h2
  exact (h1.act q).cg hq
end VL

namespace VL
open PySem PySem.Spec PyProof.Rows L2
/-! ### degrees -/
theorem act_beyond {f : Fn} {n : Nat} (hf : ∀ i, n ≤ i → f i = 0) : ∀ (xs : List Int) (i : Nat), n + xs.length ≤ i + 1 → act xs f i = 0
  | [], _, _ => rfl
  | x :: xs, i, h => by
    have h' : n + (xs.length + 1) ≤ i + 1 := h
    show x * f i + shF (act xs f) i = 0
    rw [hf i (by omega), Int.mul_zero, Int.zero_add]
    cases i with
    | zero => rfl
    | succ i => exact act_beyond hf xs i (by omega)
theorem act_lead {f : Fn} {n : Nat} (hf : ∀ i, n < i → f i = 0) : ∀ (xs : List Int) (x : Int), act (xs ++ [x]) f (n + xs.length) = x * f n
  | [], x => by
    show x * f n + shF (act [] f) n = x * f n
    have : shF (act [] f) n = 0 := by cases n <;> rfl
    omega
  | y :: xs, x => by
    show y * f (n + (xs.length + 1)) + shF (act (xs ++ [x]) f) (n + (xs.length + 1)) = x * f n
    rw [hf _ (by omega), Int.mul_zero, Int.zero_add]
    exact act_lead hf xs x
theorem act_mod {p : Int} {f : Fn} : ∀ {xs ys : List Int}, (∀ i, ∃ k, co xs i = co ys i + p * k) → Cg p (act xs f) (act ys f)
  | [], [], _ => Cg.refl _
  | [], y :: ys, h => fun i => by
    obtain ⟨k, hk⟩ := h 0
    have hk' : (0 : Int) = y + p * k := hk
    obtain ⟨l, hl⟩ := (act_mod (xs := []) (ys := ys) fun i => h (i + 1)).sh i
    refine ⟨k * f i + l, ?_⟩
    show (0 : Int) = y * f i + shF (act ys f) i + p * (k * f i + l)
    have e : shF (act [] f) i = 0 := by cases i <;> rfl
    rw [e] at hl
    have e2 : y * f i = -(p * (k * f i)) := by
      rw [show y = -(p * k) by omega, Int.neg_mul, Int.mul_assoc]
    rw [Int.mul_add, e2]
    omega
  | x :: xs, [], h => fun i => by
    obtain ⟨k, hk⟩ := h 0
    have hk' : x = 0 + p * k := hk
    obtain ⟨l, hl⟩ := (act_mod (xs := xs) (ys := []) fun i => h (i + 1)).sh i
    refine ⟨k * f i + l, ?_⟩
    show x * f i + shF (act xs f) i = 0 + p * (k * f i + l)
    have e : shF (act [] f) i = 0 := by cases i <;> rfl
    rw [e] at hl
    rw [hl, hk', Int.zero_add, Int.mul_add, Int.mul_assoc]
    omega
  | x :: xs, y :: ys, h => fun i => by
    obtain ⟨k, hk⟩ := h 0
    have hk' : x = y + p * k := hk
    obtain ⟨l, hl⟩ := (act_mod (xs := xs) (ys := ys) fun i => h (i + 1)).sh i
    refine ⟨k * f i + l, ?_⟩
    show x * f i + shF (act xs f) i = y * f i + shF (act ys f) i + p * (k * f i + l)
    rw [hl, hk', Int.add_mul, Int.mul_add, Int.mul_assoc]
    omega
def redN (p : Int) (xs : List Int) : List Int := cutN (xs.map fun z => z % p)
theorem red_sm {p : Int} (hp : 0 < p) (xs : List Int) : Su p (redN p xs) := cut_sm fun z hz => by
  obtain ⟨y, _, rfl⟩ := List.mem_map.mp hz
  exact ⟨Int.emod_nonneg _ (by omega), Int.emod_lt_of_pos _ hp⟩
theorem red_co {p : Int} (xs : List Int) (i : Nat) : ∃ k, co xs i = co (redN p xs) i + p * k := by
  unfold redN
  rw [co_cut]
  unfold co
  rw [List.getD_eq_getElem?_getD, List.getD_eq_getElem?_getD, List.getElem?_map]
  cases xs[i]? with
  | none => exact ⟨0, by rw [Int.mul_zero]; rfl⟩
  | some z =>
    refine ⟨z / p, ?_⟩
    show z = z % p + p * (z / p)
    exact (Int.emod_add_mul_ediv z p).symm
theorem no_zero {p x y : Int} (hp : p ∈ primesL) (hx : 0 < x ∧ x < p) (hy : 0 < y ∧ y < p) : ¬ ∃ k, x * y = p * k := fun ⟨k, hk⟩ => by
  obtain ⟨u1, u2, u3⟩ := undone_ok hp hx.1 hx.2
  obtain ⟨l, hl⟩ := emod_ex (x * undoneM x p) p
  rw [u1] at hl
  have e : y = 0 + p * (k * undoneM x p + y * l) := by
    have e1 : y * 1 = y * (x * undoneM x p + p * l) := by rw [← hl]
    rw [Int.mul_one, Int.mul_add] at e1
    have e2 : y * (x * undoneM x p) = p * (k * undoneM x p) := by
      rw [← Int.mul_assoc, Int.mul_comm y x, hk, Int.mul_assoc]
    rw [e2, Int.mul_left_comm y p l] at e1
    rw [Int.zero_add, Int.mul_add]
    exact e1
  have h1 : y % p = 0 := by rw [emod_congr ⟨_, e⟩]; rfl
  rw [Int.emod_eq_of_lt (by omega) hy.2] at h1
  omega
theorem su_or {p : Int} {xs : List Int} (h : Su p xs) : xs = [] ∨ ∃ us z, xs = us ++ [z] ∧ 0 < z ∧ z < p := by
  rcases cutN_or xs with e | ⟨us, z, hz, e⟩
  · exact .inl (by rw [← h.2, e])
  · have e' : xs = us ++ [z] := by rw [← h.2, e]
    have := h.1 z (by rw [e']; simp)
    exact .inr ⟨us, z, e', by omega, this.2⟩
theorem co_end (us : List Int) (z : Int) : co (us ++ [z]) us.length = z := by
  unfold co
  rw [List.getD_eq_getElem?_getD, List.getElem?_append_right (Nat.le_refl _), Nat.sub_self]
  rfl
/-- what divides something that is not nought is no longer than it -/
theorem dv_len {p : Int} (hp : p ∈ primesL) {d r : List Int} (hd : Su p d) (hdn : d ≠ []) (hr : Su p r) (h : Dv p (co d) (co r)) (hrn : r ≠ []) : ∃ q, Su p q ∧ q ≠ [] ∧ Cg p (co r) (act q (co d)) ∧ r.length + 1 = d.length + q.length := by
  have hp2 := primes_range hp
  have hp0 : 0 < p := by omega
  obtain ⟨q0, h0⟩ := h
  have hq := red_sm hp0 q0
  have h1 : Cg p (co r) (act (redN p q0) (co d)) := h0.trans (act_mod fun i => red_co q0 i)
  generalize redN p q0 = q at hq h1
  rcases su_or hr with e | ⟨us, z, e, hz0, hz1⟩
  · exact absurd e hrn
  rcases su_or hd with e2 | ⟨vs, y, e2, hy0, hy1⟩
  · exact absurd e2 hdn
  rcases su_or hq with e3 | ⟨ws, x, e3, hx0, hx1⟩
  · obtain ⟨k, hk⟩ := h1 us.length
    rw [e, co_end, e3] at hk
    have hk' : z = 0 + p * k := hk
    have : z % p = 0 := by rw [emod_congr ⟨_, hk'⟩]; rfl
    rw [Int.emod_eq_of_lt (by omega) hz1] at this
    omega
  · refine ⟨q, hq, by rw [e3]; simp, h1, ?_⟩
    have hb : ∀ i, vs.length < i → co d i = 0 := fun i hi => co_beyond (by rw [e2, List.length_append]; show vs.length + 1 ≤ i; omega)
    have hlead := act_lead hb ws x
    rw [← e3, show co d vs.length = y by rw [e2, co_end]] at hlead
    rw [e, e2, e3, List.length_append, List.length_append, List.length_append]
    show us.length + 1 + 1 = vs.length + 1 + (ws.length + 1)
    rcases Nat.lt_trichotomy us.length (vs.length + ws.length) with hlt | heq | hgt
    · obtain ⟨k, hk⟩ := h1 (vs.length + ws.length)
      rw [hlead, co_beyond (xs := r) (by rw [e, List.length_append]; show us.length + 1 ≤ _; omega)] at hk
      exact absurd ⟨-k, by rw [Int.mul_neg]; omega⟩ (no_zero hp ⟨hx0, hx1⟩ ⟨hy0, hy1⟩)
    · omega
    · obtain ⟨k, hk⟩ := h1 us.length
      rw [act_beyond (n := vs.length + 1) (fun i hi => hb i (by omega)) q _ (by rw [e3, List.length_append]; show vs.length + 1 + (ws.length + 1) ≤ _; omega), e, co_end] at hk
      have : z % p = 0 := by rw [emod_congr ⟨_, hk⟩]; rfl
      rw [Int.emod_eq_of_lt (by omega) hz1] at this
      omega
theorem dv_short {p : Int} (hp : p ∈ primesL) {d r : List Int} (hd : Su p d) (hr : Su p r) (h : Dv p (co d) (co r)) (hl : r.length < d.length) : r = [] := by
  by_cases hrn : r = []
  · exact hrn
  · obtain ⟨q, _, hq, _, e⟩ := dv_len hp hd (fun z => by rw [z] at hl; exact absurd hl (Nat.not_lt_zero _)) hr h hrn
    have : 0 < q.length := List.length_pos_iff.mpr hq
    omega
theorem su_ext {p : Int} (hp : 0 < p) {a b : List Int} (ha : Su p a) (hb : Su p b) (h : Cg p (co a) (co b)) : a = b := by
  have can : ∀ {xs : List Int}, Su p xs → Can xs := fun {xs} h => by
    rcases cutN_or xs with e | ⟨us, z, hz, e⟩
    · exact .inl (by rw [← h.2, e])
    · exact .inr ⟨us, z, hz, by rw [← h.2, e]⟩
  refine canon_ext (can ha) (can hb) fun i => ?_
  have h1 := Su.co hp ha.1 i
  have h2 := Su.co hp hb.1 i
  rw [← Int.emod_eq_of_lt h1.1 h1.2, ← Int.emod_eq_of_lt h2.1 h2.2]
  exact emod_congr (h i)
/-- two that divide each other and end by 1 are one -/
theorem dv_anti {p : Int} (hp : p ∈ primesL) {a b : List Int} (ha : Su p a) (hb : Su p b) (h1 : Dv p (co a) (co b)) (h2 : Dv p (co b) (co a)) (la : ∃ us, a = us ++ [1]) (lb : ∃ us, b = us ++ [1]) : a = b := by
  have hp2 := primes_range hp
  have hp0 : 0 < p := by omega
  obtain ⟨us, e1⟩ := la
  obtain ⟨vs, e2⟩ := lb
  have an : a ≠ [] := by rw [e1]; simp
  have bn : b ≠ [] := by rw [e2]; simp
  obtain ⟨q, hq, hqn, hqc, hql⟩ := dv_len hp ha an hb h1 bn
  obtain ⟨r, hr, hrn, hrc, hrl⟩ := dv_len hp hb bn ha h2 an
  have lq : 0 < q.length := List.length_pos_iff.mpr hqn
  have lr : 0 < r.length := List.length_pos_iff.mpr hrn
  have lq1 : q.length = 1 := by omega
  match q, lq1 with
  | [x], _ =>
    have hx := hq.1 x (by simp)
    have hab : us.length = vs.length := by
      have h3 : a.length = us.length + 1 := by rw [e1, List.length_append]; rfl
      have h4 : b.length = vs.length + 1 := by rw [e2, List.length_append]; rfl
      have h5 : ([x] : List Int).length = 1 := rfl
      omega
    have hs : ∀ i, act [x] (co a) i = x * co a i := fun i => by
      show x * co a i + shF (act [] (co a)) i = _
      have : shF (act [] (co a)) i = 0 := by cases i <;> rfl
      rw [this, Int.add_zero]
    obtain ⟨k, hk⟩ := hqc vs.length
    rw [hs, ← hab, e1, co_end, hab, e2, co_end, Int.mul_one] at hk
    have hx1 : x = 1 := by
      have h6 : (1 : Int) % p = x % p := emod_congr ⟨k, hk⟩
      rw [Int.emod_eq_of_lt (by omega) (by omega), Int.emod_eq_of_lt hx.1 hx.2] at h6
      omega
    refine su_ext hp0 ha hb (Cg.symm fun i => ?_)
    obtain ⟨k, hk⟩ := hqc i
    rw [hs, hx1, Int.one_mul] at hk
    exact ⟨k, hk⟩
end VL

namespace VL
open PySem PySem.Spec PyProof.Rows L2
/-! ### data held against each other -/
mutual
def dOk : D → Bool
  | .none => true
  | .int _ => true
  | .str s => PyData.strOk s
  | .list ds => dOks ds
  | .tuple ds => dOks ds
  | _ => false
def dOks : List D → Bool
  | [] => true
  | d :: ds => dOk d && dOks ds
end
mutual
def dDep : D → Nat
  | .list ds => dDeps ds + 1
  | .tuple ds => dDeps ds + 1
  | _ => 0
def dDeps : List D → Nat
  | [] => 0
  | d :: ds => max (dDep d) (dDeps ds)
end
mutual
theorem py_ok : ∀ d : D, dOk d = true → ∃ q, pyOf d = some q ∧ PyData.canLay0 q = true ∧ PyData.depth q = dDep d
  | .none, _ => ⟨_, rfl, rfl, rfl⟩
  | .int _, _ => ⟨_, rfl, rfl, rfl⟩
  | .str _, h => ⟨_, rfl, h, rfl⟩
  | .list ds, h => by
    obtain ⟨qs, e, h1, h2⟩ := pys_ok ds h
    refine ⟨.list qs, ?_, h1, ?_⟩
    · show (pysOf ds).map PyData.list = _
      rw [e]
      rfl
    · show PyData.depthAll qs + 1 = dDeps ds + 1
      rw [h2]
  | .tuple ds, h => by
    obtain ⟨qs, e, h1, h2⟩ := pys_ok ds h
    refine ⟨.tuple qs, ?_, h1, ?_⟩
    · show (pysOf ds).map PyData.tuple = _
      rw [e]
      rfl
    · show PyData.depthAll qs + 1 = dDeps ds + 1
      rw [h2]
  | .bool _, h => nomatch h
  | .dict _ _, h => nomatch h
  | .obj _ _ _, h => nomatch h
  | .hd _, h => nomatch h
  | .fn _, h => nomatch h
theorem pys_ok : ∀ ds : List D, dOks ds = true → ∃ qs, pysOf ds = some qs ∧ PyData.canLayAll0 qs = true ∧ PyData.depthAll qs = dDeps ds
  | [], _ => ⟨[], rfl, rfl, rfl⟩
  | d :: ds, h => by
    have h' : dOk d = true ∧ dOks ds = true := by
      have : (dOk d && dOks ds) = true := h
      simpa using this
    obtain ⟨q, e, h1, h2⟩ := py_ok d h'.1
    obtain ⟨qs, e', h1', h2'⟩ := pys_ok ds h'.2
    refine ⟨q :: qs, ?_, ?_, ?_⟩
    · show (match pyOf d, pysOf ds with | some p, some ps => some (p :: ps) | _, _ => none) = _
      rw [e, e']
    · show (PyData.canLay0 q && PyData.canLayAll0 qs) = true
      rw [h1, h1']
      rfl
    · show max (PyData.depth q) (PyData.depthAll qs) = max (dDep d) (dDeps ds)
      rw [h2, h2']
end
mutual
theorem py_eqv : ∀ (x y : D) (p q : PyData), dOk x = true → dOk y = true → pyOf x = some p → pyOf y = some q → (PyData.eqv p q = true ↔ x = y)
  | .none, y, p, q, _, hy, e1, e2 => by
    cases e1
    cases y <;> first | exact Bool.noConfusion hy | skip
    case none => cases e2; exact ⟨fun _ => rfl, fun _ => rfl⟩
    case int => cases e2; exact ⟨fun h => (nomatch h), fun h => (nomatch h)⟩
    case str => cases e2; exact ⟨fun h => (nomatch h), fun h => (nomatch h)⟩
    case list ds => obtain ⟨qs, e3, _⟩ := pys_ok ds hy; have e2 : (pysOf ds).map PyData.list = _ := e2; rw [e3] at e2; cases e2; exact ⟨fun h => (nomatch h), fun h => (nomatch h)⟩
    case tuple ds => obtain ⟨qs, e3, _⟩ := pys_ok ds hy; have e2 : (pysOf ds).map PyData.tuple = _ := e2; rw [e3] at e2; cases e2; exact ⟨fun h => (nomatch h), fun h => (nomatch h)⟩
  | .int i, y, p, q, _, hy, e1, e2 => by
    cases e1
    cases y <;> first | exact Bool.noConfusion hy | skip
    case none => cases e2; exact ⟨fun h => (nomatch h), fun h => (nomatch h)⟩
    case int j => cases e2; show (i == j) = true ↔ _; rw [beq_iff_eq]; exact ⟨fun h => by rw [h], fun h => by injection h⟩
    case str => cases e2; exact ⟨fun h => (nomatch h), fun h => (nomatch h)⟩
    case list ds => obtain ⟨qs, e3, _⟩ := pys_ok ds hy; have e2 : (pysOf ds).map PyData.list = _ := e2; rw [e3] at e2; cases e2; exact ⟨fun h => (nomatch h), fun h => (nomatch h)⟩
    case tuple ds => obtain ⟨qs, e3, _⟩ := pys_ok ds hy; have e2 : (pysOf ds).map PyData.tuple = _ := e2; rw [e3] at e2; cases e2; exact ⟨fun h => (nomatch h), fun h => (nomatch h)⟩
  | .str i, y, p, q, _, hy, e1, e2 => by
    cases e1
    cases y <;> first | exact Bool.noConfusion hy | skip
    case none => cases e2; exact ⟨fun h => (nomatch h), fun h => (nomatch h)⟩
    case int j => cases e2; exact ⟨fun h => (nomatch h), fun h => (nomatch h)⟩
    case str j => cases e2; show (i == j) = true ↔ _; rw [beq_iff_eq]; exact ⟨fun h => by rw [h], fun h => by injection h⟩
    case list ds => obtain ⟨qs, e3, _⟩ := pys_ok ds hy; have e2 : (pysOf ds).map PyData.list = _ := e2; rw [e3] at e2; cases e2; exact ⟨fun h => (nomatch h), fun h => (nomatch h)⟩
    case tuple ds => obtain ⟨qs, e3, _⟩ := pys_ok ds hy; have e2 : (pysOf ds).map PyData.tuple = _ := e2; rw [e3] at e2; cases e2; exact ⟨fun h => (nomatch h), fun h => (nomatch h)⟩
  | .list xs, y, p, q, hx, hy, e1, e2 => by
    obtain ⟨ps, e3, _⟩ := pys_ok xs hx
    have e1 : (pysOf xs).map PyData.list = _ := e1
    rw [e3] at e1
    cases e1
    cases y <;> first | exact Bool.noConfusion hy | skip
    case none => cases e2; exact ⟨fun h => (nomatch h), fun h => (nomatch h)⟩
    case int j => cases e2; exact ⟨fun h => (nomatch h), fun h => (nomatch h)⟩
    case str j => cases e2; exact ⟨fun h => (nomatch h), fun h => (nomatch h)⟩
    case list ds =>
      obtain ⟨qs, e4, _⟩ := pys_ok ds hy; have e2 : (pysOf ds).map PyData.list = _ := e2; rw [e4] at e2; cases e2
      refine Iff.trans (pys_eqv xs ds ps qs hx hy e3 e4) ⟨fun h => by rw [h], fun h => by injection h⟩
    case tuple ds => obtain ⟨qs, e3, _⟩ := pys_ok ds hy; have e2 : (pysOf ds).map PyData.tuple = _ := e2; rw [e3] at e2; cases e2; exact ⟨fun h => (nomatch h), fun h => (nomatch h)⟩
  | .tuple xs, y, p, q, hx, hy, e1, e2 => by
    obtain ⟨ps, e3, _⟩ := pys_ok xs hx
    have e1 : (pysOf xs).map PyData.tuple = _ := e1
    rw [e3] at e1
    cases e1
    cases y <;> first | exact Bool.noConfusion hy | skip
    case none => cases e2; exact ⟨fun h => (nomatch h), fun h => (nomatch h)⟩
    case int j => cases e2; exact ⟨fun h => (nomatch h), fun h => (nomatch h)⟩
    case str j => cases e2; exact ⟨fun h => (nomatch h), fun h => (nomatch h)⟩
    case list ds => obtain ⟨qs, e3, _⟩ := pys_ok ds hy; have e2 : (pysOf ds).map PyData.list = _ := e2; rw [e3] at e2; cases e2; exact ⟨fun h => (nomatch h), fun h => (nomatch h)⟩
    case tuple ds =>
      obtain ⟨qs, e4, _⟩ := pys_ok ds hy; have e2 : (pysOf ds).map PyData.tuple = _ := e2; rw [e4] at e2; cases e2
      refine Iff.trans (pys_eqv xs ds ps qs hx hy e3 e4) ⟨fun h => by rw [h], fun h => by injection h⟩
  | .bool _, _, _, _, h, _, _, _ => nomatch h
  | .dict _ _, _, _, _, h, _, _, _ => nomatch h
  | .obj _ _ _, _, _, _, h, _, _, _ => nomatch h
  | .hd _, _, _, _, h, _, _, _ => nomatch h
  | .fn _, _, _, _, h, _, _, _ => nomatch h
theorem pys_eqv : ∀ (xs ys : List D) (ps qs : List PyData), dOks xs = true → dOks ys = true → pysOf xs = some ps → pysOf ys = some qs → (PyData.eqvAll ps qs = true ↔ xs = ys)
  | [], [], ps, qs, _, _, e1, e2 => by cases e1; cases e2; exact ⟨fun _ => rfl, fun _ => rfl⟩
  | [], y :: ys, ps, qs, _, hy, e1, e2 => by
    cases e1
    obtain ⟨us, e4, _⟩ := pys_ok (y :: ys) hy
    rw [e4] at e2; cases e2
    cases qs with
    | nil =>
      exfalso
      have e4 : (match pyOf y, pysOf ys with | some p, some ps => some (p :: ps) | _, _ => none) = _ := e4
      split at e4 <;> simp at e4
    | cons u us => exact ⟨fun h => (nomatch h), fun h => (nomatch h)⟩
  | x :: xs, [], ps, qs, hx, _, e1, e2 => by
    cases e2
    obtain ⟨us, e4, _⟩ := pys_ok (x :: xs) hx
    rw [e4] at e1; cases e1
    cases ps with
    | nil =>
      exfalso
      have e4 : (match pyOf x, pysOf xs with | some p, some ps => some (p :: ps) | _, _ => none) = _ := e4
      split at e4 <;> simp at e4
    | cons u us => exact ⟨fun h => (nomatch h), fun h => (nomatch h)⟩
  | x :: xs, y :: ys, ps, qs, hx, hy, e1, e2 => by
    have hx' : dOk x = true ∧ dOks xs = true := by
      have : (dOk x && dOks xs) = true := hx
      simpa using this
    have hy' : dOk y = true ∧ dOks ys = true := by
      have : (dOk y && dOks ys) = true := hy
      simpa using this
    obtain ⟨p1, a1, _⟩ := py_ok x hx'.1
    obtain ⟨p2, a2, _⟩ := py_ok y hy'.1
    obtain ⟨q1, b1, _⟩ := pys_ok xs hx'.2
    obtain ⟨q2, b2, _⟩ := pys_ok ys hy'.2
    have e1 : (match pyOf x, pysOf xs with | some p, some ps => some (p :: ps) | _, _ => none) = _ := e1
    have e2 : (match pyOf y, pysOf ys with | some p, some ps => some (p :: ps) | _, _ => none) = _ := e2
    rw [a1, b1] at e1
    rw [a2, b2] at e2
    cases e1
    cases e2
    show (PyData.eqv p1 p2 && PyData.eqvAll q1 q2) = true ↔ _
    rw [Bool.and_eq_true, py_eqv x y p1 p2 hx'.1 hy'.1 a1 a2, pys_eqv xs ys q1 q2 hx'.2 hy'.2 b1 b2]
    exact ⟨fun h => by rw [h.1, h.2], fun h => by injection h with h1 h2; exact ⟨h1, h2⟩⟩
end
theorem shp_ok {d : D} (h : dOk d = true) (hd : dDep d ≤ 64) : ∃ q, shpOf d = some q ∧ pyOf d = some q := by
  obtain ⟨q, e, h1, h2⟩ := py_ok d h
  refine ⟨q, ?_, e⟩
  unfold shpOf
  rw [e]
  dsimp only
  rw [if_pos]
  unfold SeqAt.shaped
  rw [h1, h2, decide_eq_true hd]
  rfl
theorem eqO_ok {x y : D} (hx : dOk x = true) (hy : dOk y = true) (dx : dDep x ≤ 64) (dy : dDep y ≤ 64) : ∃ b, eqO x y = some b ∧ (b = true ↔ x = y) := by
  obtain ⟨p, e1, e2⟩ := shp_ok hx dx
  obtain ⟨q, e3, e4⟩ := shp_ok hy dy
  refine ⟨PyData.eqv p q, ?_, py_eqv x y p q hx hy e2 e4⟩
  unfold eqO
  rw [e1, e3]
theorem eqO_self {x : D} (hx : dOk x = true) (dx : dDep x ≤ 64) : eqO x x = some true := by
  obtain ⟨b, e, h⟩ := eqO_ok hx hx dx dx
  rw [e, h.mpr rfl]
theorem eqO_ne {x y : D} (hx : dOk x = true) (hy : dOk y = true) (dx : dDep x ≤ 64) (dy : dDep y ≤ 64) (hne : x ≠ y) : eqO x y = some false := by
  obtain ⟨b, e, h⟩ := eqO_ok hx hy dx dy
  rw [e]
  cases b with
  | false => rfl
  | true => exact absurd (h.mp rfl) hne
theorem cmp_eq_self {κ : Ks} {x : D} (hx : dOk x = true) (dx : dDep x ≤ 64) : cmpD .Eq κ x x = some true := by
  cases x with
  | int i => show some (decide (i = i)) = _; rw [decide_eq_true rfl]
  | _ => exact eqO_self hx dx
theorem cmp_ne_self {κ : Ks} {x : D} (hx : dOk x = true) (dx : dDep x ≤ 64) : cmpD .NotEq κ x x = some false := by
  cases x with
  | int i => show some (!decide (i = i)) = _; rw [decide_eq_true rfl]; rfl
  | none => show (eqO .none .none).map (!·) = _; rw [eqO_self hx dx]; rfl
  | str s => show (eqO (.str s) (.str s)).map (!·) = _; rw [eqO_self hx dx]; rfl
  | list s => show (eqO (.list s) (.list s)).map (!·) = _; rw [eqO_self hx dx]; rfl
  | tuple s => show (eqO (.tuple s) (.tuple s)).map (!·) = _; rw [eqO_self hx dx]; rfl
  | _ => exact Bool.noConfusion hx
theorem cmp_eq_ne {κ : Ks} {x y : D} (hx : dOk x = true) (hy : dOk y = true) (dx : dDep x ≤ 64) (dy : dDep y ≤ 64) (hne : x ≠ y) : cmpD .Eq κ x y = some false := by
  by_cases h : (∃ i, x = .int i) ∧ ∃ j, y = .int j
  · obtain ⟨⟨i, rfl⟩, j, rfl⟩ := h
    show some (decide (i = j)) = _
    rw [decide_eq_false fun e => hne (by rw [e])]
  · rw [show cmpD .Eq κ x y = eqO x y from ?_, eqO_ne hx hy dx dy hne]
    cases x <;> cases y <;> first | rfl | exact absurd ⟨⟨_, rfl⟩, _, rfl⟩ h
theorem cmp_ne_ne {κ : Ks} {x y : D} (hx : dOk x = true) (hy : dOk y = true) (dx : dDep x ≤ 64) (dy : dDep y ≤ 64) (hne : x ≠ y) : cmpD .NotEq κ x y = some true := by
  by_cases h : (∃ i, x = .int i) ∧ ∃ j, y = .int j
  · obtain ⟨⟨i, rfl⟩, j, rfl⟩ := h
    show some (!decide (i = j)) = _
    rw [decide_eq_false fun e => hne (by rw [e])]
    rfl
  · rw [show cmpD .NotEq κ x y = (eqO x y).map (!·) from ?_, eqO_ne hx hy dx dy hne]
    · rfl
    cases x <;> cases y <;> first | rfl | exact absurd ⟨⟨_, rfl⟩, _, rfl⟩ h
theorem dOks_ints : ∀ ns : List Int, dOks (ns.map .int) = true
  | [] => rfl
  | n :: r => by
    show (dOk (.int n) && dOks (r.map .int)) = true
    rw [dOks_ints r]
    rfl
theorem dDeps_ints : ∀ ns : List Int, dDeps (ns.map .int) = 0
  | [] => rfl
  | n :: r => by
    show max (dDep (.int n)) (dDeps (r.map .int)) = 0
    rw [dDeps_ints r]
    rfl
theorem dOk_tupI (ns : List Int) : dOk (tupI ns) = true := dOks_ints ns
theorem dDep_tupI (ns : List Int) : dDep (tupI ns) = 1 := by
  show dDeps (ns.map .int) + 1 = 1
  rw [dDeps_ints]
end VL

namespace VL
open PySem PySem.Spec PyProof.Rows L2
theorem ltS {k : Nat} (h : k < 100000) : (k < sizeLine) = True := eq_true (Nat.lt_of_lt_of_le h sizeLine_big)
theorem leS {k : Nat} (h : k < 100000) : (k ≤ sizeLine) = True := eq_true (Nat.le_of_lt (Nat.lt_of_lt_of_le h sizeLine_big))
theorem triedM_raise {tr : Exc → Option D} {x : Exc} {d : D} (h : tr x = some d) : triedM tr (M.raise x) = M.ret d := by
  funext κ
  show (match tr x with | some d => Res.ok d κ | none => .stuck) = _
  rw [h]
theorem triedM_ret {tr : Exc → Option D} {r : Rs} : triedM tr (M.ret r) = M.ret (.tuple [.str "told", r.data]) := rfl
end VL

namespace VL
open PySem PySem.Spec PyProof.Rows L2
def top (i : Nat) : Stmt := PySem.Challenge.pw_lagworks_k16_ends_that_do_not_fit.main.body.getD i (.Pass ⟨0, 0, 0, 0⟩)
abbrev s_is_whole : Stmt := top 8
abbrev N_is_whole : List Str := ["thing"]
abbrev P_is_whole : List Str := ["thing"]
abbrev s_is_name : Stmt := top 20
abbrev N_is_name : List Str := ["text", "sign"]
abbrev P_is_name : List Str := ["text"]
abbrev s_is_within : Stmt := top 21
abbrev N_is_within : List Str := ["thing", "low", "high"]
abbrev P_is_within : List Str := ["thing", "low", "high"]
abbrev s_is_weights : Stmt := top 22
abbrev N_is_weights : List Str := ["rows", "row", "one"]
abbrev P_is_weights : List Str := ["rows"]
abbrev s_is_order : Stmt := top 23
abbrev N_is_order : List Str := ["order", "one"]
abbrev P_is_order : List Str := ["order"]
abbrev s_is_box : Stmt := top 24
abbrev N_is_box : List Str := ["thing", "word"]
abbrev P_is_box : List Str := ["thing"]
abbrev s_parts_of : Stmt := top 25
abbrev N_parts_of : List Str := ["thing", "good"]
abbrev P_parts_of : List Str := ["thing"]
abbrev s_leaves : Stmt := top 26
abbrev N_leaves : List Str := ["wiring", "waiting", "found", "thing", "depth", "parts", "part", "many", "box"]
abbrev P_leaves : List Str := ["wiring"]
abbrev s_uses : Stmt := top 27
abbrev N_uses : List Str := ["boxes", "box"]
abbrev P_uses : List Str := ["boxes"]
abbrev s_need_boxes : Stmt := top 28
abbrev N_need_boxes : List Str := ["wiring", "found"]
abbrev P_need_boxes : List Str := ["wiring"]
abbrev s_box_shape : Stmt := top 29
abbrev N_box_shape : List Str := ["box", "word"]
abbrev P_box_shape : List Str := ["box"]
abbrev s_joined_shape : Stmt := top 30
abbrev N_joined_shape : List Str := ["word", "shapes", "one", "k"]
abbrev P_joined_shape : List Str := ["word", "shapes"]
abbrev s_shape_of : Stmt := top 31
abbrev N_shape_of : List Str := ["wiring", "parts", "found", "part"]
abbrev P_shape_of : List Str := ["wiring"]
abbrev s_shape : Stmt := top 32
abbrev N_shape : List Str := ["wiring"]
abbrev P_shape : List Str := ["wiring"]
abbrev s_boxes : Stmt := top 33
abbrev N_boxes : List Str := ["wiring", "found"]
abbrev P_boxes : List Str := ["wiring"]
abbrev s_lags : Stmt := top 34
abbrev N_lags : List Str := ["wiring", "found", "box"]
abbrev P_lags : List Str := ["wiring"]
abbrev s__law_bag : Stmt := top 36
abbrev N__law_bag : List Str := ["_law_script", "_law_salt", "_law_cell"]
abbrev P__law_bag : List Str := ["_law_script"]
abbrev s__law_pull : Stmt := top 37
abbrev N__law_pull : List Str := ["_law_bag_here", "_law_many", "_law_cell", "_law_digit", "_law_s", "_law_t"]
abbrev P__law_pull : List Str := ["_law_bag_here", "_law_many"]
abbrev s__law_of : Stmt := top 38
abbrev N__law_of : List Str := ["_law_bag_here", "_law_some"]
abbrev P__law_of : List Str := ["_law_bag_here", "_law_some"]
abbrev s__law_box : Stmt := top 39
abbrev N__law_box : List Str := ["_law_bag_here", "_law_room", "_law_left", "_law_word"]
abbrev P__law_box : List Str := ["_law_bag_here", "_law_room", "_law_left"]
abbrev s__law_layer : Stmt := top 40
abbrev N__law_layer : List Str := ["_law_bag_here", "_law_left", "_law_most", "_law_room", "_law_boxes_", "_law_right", "_law_lags_", "_law_at", "_law_box_here", "_law_low", "_law_high"]
abbrev P__law_layer : List Str := ["_law_bag_here", "_law_left", "_law_most", "_law_room"]
abbrev s__law_wiring : Stmt := top 41
abbrev N__law_wiring : List Str := ["_law_bag_here", "_law_left", "_law_most", "_law_few", "_law_layers", "_law_room", "_law_k", "_law_extra", "_law_boxes_", "_law_lags_"]
abbrev P__law_wiring : List Str := ["_law_bag_here", "_law_left", "_law_most", "_law_few"]
abbrev s__law_any_wiring : Stmt := top 42
abbrev N__law_any_wiring : List Str := ["_law_bag_here", "_law_most", "_law_few", "_law_begin", "_law_found", "_law_right", "_law_room", "_law_left", "_law_kind", "_law_lagged", "_law_rows", "_law_k", "_law_j"]
abbrev P__law_any_wiring : List Str := ["_law_bag_here", "_law_most", "_law_few"]
abbrev s__law_misfit : Stmt := top 43
abbrev N__law_misfit : List Str := ["_law_bag_here", "_law_wiring_here", "_law_left", "_law_right", "_law_other", "_law_odds", "_law_wide", "_law_drops"]
abbrev P__law_misfit : List Str := ["_law_bag_here", "_law_wiring_here", "_law_left", "_law_right"]
abbrev s__law_tried : Stmt := top 44
abbrev N__law_tried : List Str := ["_law_act", "e"]
abbrev P__law_tried : List Str := ["_law_act"]
abbrev s__law_same : Stmt := top 45
abbrev N__law_same : List Str := ["_law_got", "_law_due", "_law_good", "_law_a", "_law_b"]
abbrev P__law_same : List Str := ["_law_got", "_law_due"]
abbrev s_law : Stmt := top 46
abbrev N_law : List Str := ["_law_script", "_law_bag_here", "_law_again", "_law_wiring_here", "_law_left", "_law_right", "_law_bad", "_law_k", "_law_acts", "_law_act", "_law_good"]
abbrev P_law : List Str := ["_law_script"]
theorem sc_is_whole : FnScope N_is_whole P_is_whole (defScope s_is_whole) := ⟨rfl, rfl, rfl, by decide +kernel, rfl, by decide +kernel, by decide +kernel⟩
theorem sc_is_name : FnScope N_is_name P_is_name (defScope s_is_name) := ⟨rfl, rfl, rfl, by decide +kernel, rfl, by decide +kernel, by decide +kernel⟩
theorem sc_is_within : FnScope N_is_within P_is_within (defScope s_is_within) := ⟨rfl, rfl, rfl, by decide +kernel, rfl, by decide +kernel, by decide +kernel⟩
theorem sc_is_weights : FnScope N_is_weights P_is_weights (defScope s_is_weights) := ⟨rfl, rfl, rfl, by decide +kernel, rfl, by decide +kernel, by decide +kernel⟩
theorem sc_is_order : FnScope N_is_order P_is_order (defScope s_is_order) := ⟨rfl, rfl, rfl, by decide +kernel, rfl, by decide +kernel, by decide +kernel⟩
theorem sc_is_box : FnScope N_is_box P_is_box (defScope s_is_box) := ⟨rfl, rfl, rfl, by decide +kernel, rfl, by decide +kernel, by decide +kernel⟩
theorem sc_parts_of : FnScope N_parts_of P_parts_of (defScope s_parts_of) := ⟨rfl, rfl, rfl, by decide +kernel, rfl, by decide +kernel, by decide +kernel⟩
theorem sc_leaves : FnScope N_leaves P_leaves (defScope s_leaves) := ⟨rfl, rfl, rfl, by decide +kernel, rfl, by decide +kernel, by decide +kernel⟩
theorem sc_uses : FnScope N_uses P_uses (defScope s_uses) := ⟨rfl, rfl, rfl, by decide +kernel, rfl, by decide +kernel, by decide +kernel⟩
theorem sc_need_boxes : FnScope N_need_boxes P_need_boxes (defScope s_need_boxes) := ⟨rfl, rfl, rfl, by decide +kernel, rfl, by decide +kernel, by decide +kernel⟩
theorem sc_box_shape : FnScope N_box_shape P_box_shape (defScope s_box_shape) := ⟨rfl, rfl, rfl, by decide +kernel, rfl, by decide +kernel, by decide +kernel⟩
theorem sc_joined_shape : FnScope N_joined_shape P_joined_shape (defScope s_joined_shape) := ⟨rfl, rfl, rfl, by decide +kernel, rfl, by decide +kernel, by decide +kernel⟩
theorem sc_shape_of : FnScope N_shape_of P_shape_of (defScope s_shape_of) := ⟨rfl, rfl, rfl, by decide +kernel, rfl, by decide +kernel, by decide +kernel⟩
theorem sc_shape : FnScope N_shape P_shape (defScope s_shape) := ⟨rfl, rfl, rfl, by decide +kernel, rfl, by decide +kernel, by decide +kernel⟩
theorem sc_boxes : FnScope N_boxes P_boxes (defScope s_boxes) := ⟨rfl, rfl, rfl, by decide +kernel, rfl, by decide +kernel, by decide +kernel⟩
theorem sc_lags : FnScope N_lags P_lags (defScope s_lags) := ⟨rfl, rfl, rfl, by decide +kernel, rfl, by decide +kernel, by decide +kernel⟩
theorem sc__law_bag : FnScope N__law_bag P__law_bag (defScope s__law_bag) := ⟨rfl, rfl, rfl, by decide +kernel, rfl, by decide +kernel, by decide +kernel⟩
theorem sc__law_pull : FnScope N__law_pull P__law_pull (defScope s__law_pull) := ⟨rfl, rfl, rfl, by decide +kernel, rfl, by decide +kernel, by decide +kernel⟩
theorem sc__law_of : FnScope N__law_of P__law_of (defScope s__law_of) := ⟨rfl, rfl, rfl, by decide +kernel, rfl, by decide +kernel, by decide +kernel⟩
theorem sc__law_box : FnScope N__law_box P__law_box (defScope s__law_box) := ⟨rfl, rfl, rfl, by decide +kernel, rfl, by decide +kernel, by decide +kernel⟩
theorem sc__law_layer : FnScope N__law_layer P__law_layer (defScope s__law_layer) := ⟨rfl, rfl, rfl, by decide +kernel, rfl, by decide +kernel, by decide +kernel⟩
theorem sc__law_wiring : FnScope N__law_wiring P__law_wiring (defScope s__law_wiring) := ⟨rfl, rfl, rfl, by decide +kernel, rfl, by decide +kernel, by decide +kernel⟩
theorem sc__law_any_wiring : FnScope N__law_any_wiring P__law_any_wiring (defScope s__law_any_wiring) := ⟨rfl, rfl, rfl, by decide +kernel, rfl, by decide +kernel, by decide +kernel⟩
theorem sc__law_misfit : FnScope N__law_misfit P__law_misfit (defScope s__law_misfit) := ⟨rfl, rfl, rfl, by decide +kernel, rfl, by decide +kernel, by decide +kernel⟩
theorem sc__law_tried : FnScope N__law_tried P__law_tried (defScope s__law_tried) := ⟨rfl, rfl, rfl, by decide +kernel, rfl, by decide +kernel, by decide +kernel⟩
theorem sc__law_same : FnScope N__law_same P__law_same (defScope s__law_same) := ⟨rfl, rfl, rfl, by decide +kernel, rfl, by decide +kernel, by decide +kernel⟩
theorem sc_law : FnScope N_law P_law (defScope s_law) := ⟨rfl, rfl, rfl, by decide +kernel, rfl, by decide +kernel, by decide +kernel⟩
class Hd (g : Gm) : Prop where
  D_is_whole : HasDef g "is_whole" s_is_whole []
  D_is_name : HasDef g "is_name" s_is_name []
  D_is_within : HasDef g "is_within" s_is_within []
  D_is_weights : HasDef g "is_weights" s_is_weights []
  D_is_order : HasDef g "is_order" s_is_order []
  D_is_box : HasDef g "is_box" s_is_box []
  D_parts_of : HasDef g "parts_of" s_parts_of []
  D_leaves : HasDef g "leaves" s_leaves []
  D_uses : HasDef g "uses" s_uses []
  D_need_boxes : HasDef g "need_boxes" s_need_boxes []
  D_box_shape : HasDef g "box_shape" s_box_shape []
  D_joined_shape : HasDef g "joined_shape" s_joined_shape []
  D_shape_of : HasDef g "shape_of" s_shape_of []
  D_shape : HasDef g "shape" s_shape []
  D_boxes : HasDef g "boxes" s_boxes []
  D_lags : HasDef g "lags" s_lags []
  D__law_bag : HasDef g "_law_bag" s__law_bag []
  D__law_pull : HasDef g "_law_pull" s__law_pull []
  D__law_of : HasDef g "_law_of" s__law_of []
  D__law_box : HasDef g "_law_box" s__law_box []
  D__law_layer : HasDef g "_law_layer" s__law_layer []
  D__law_wiring : HasDef g "_law_wiring" s__law_wiring []
  D__law_any_wiring : HasDef g "_law_any_wiring" s__law_any_wiring []
  D__law_misfit : HasDef g "_law_misfit" s__law_misfit []
  D__law_same : HasDef g "_law_same" s__law_same []
  B_LookupError : g.mg "LookupError" = none
  B_ValueError : g.mg "ValueError" = none
  B_all : g.mg "all" = none
  B_bool : g.mg "bool" = none
  B_int : g.mg "int" = none
  B_isinstance : g.mg "isinstance" = none
  B_len : g.mg "len" = none
  B_list : g.mg "list" = none
  B_max : g.mg "max" = none
  B_range : g.mg "range" = none
  B_reversed : g.mg "reversed" = none
  B_sorted : g.mg "sorted" = none
  B_str : g.mg "str" = none
  B_sum : g.mg "sum" = none
  B_tuple : g.mg "tuple" = none
  B_zip : g.mg "zip" = none
  V_MOST_BOXES : GlD g "MOST_BOXES" (.int 60)
  V_MOST_LAGS : GlD g "MOST_LAGS" (.int 8)
  V_MOST_ENDS : GlD g "MOST_ENDS" (.int 12)
  V_MOST_PARTS : GlD g "MOST_PARTS" (.int 12)
  V_MOST_FORKS : GlD g "MOST_FORKS" (.int 4)
  V_MOST_WEIGHT : GlD g "MOST_WEIGHT" (.int 96)
  V_DEEPEST : GlD g "DEEPEST" (.int 16)
  V_LONGEST : GlD g "LONGEST" (.int 8)
  V_LETTERS : GlD g "LETTERS" (.str "abcdefghijklmnopqrstuvwxyz")
  T_SIZES : GlT g "SIZES" [("wire", (.int 1)), ("lag", (.int 1)), ("weigh", (.int 2)), ("copy", (.int 2)), ("sum", (.int 2)), ("mix", (.int 2)), ("shuffle", (.int 2)), ("use", (.int 2)), ("then", (.int 2)), ("beside", (.int 2)), ("turned", (.int 2)), ("ring", (.int 2))]
  X_BadWiring : ExC g 1 "BadWiring" 0 (fun _ => [("word", .str "BadWiring")])
  K_BadWiring : Caught g "BadWiring" false
  X_Unshaped : ExC g 1 "Unshaped" 0 (fun _ => [("word", .str "Unshaped")])
  K_Unshaped : Caught g "Unshaped" false
  X_BadTable : ExC g 1 "BadTable" 1 (fun ws => [("at", ws.getD 0 .non), ("word", .str "BadTable")])
  K_BadTable : Caught g "BadTable" true
  X_BadSheet : ExC g 1 "BadSheet" 1 (fun ws => [("at", ws.getD 0 .non), ("word", .str "BadSheet")])
  K_BadSheet : Caught g "BadSheet" true
  tried : Tried g
theorem sq_same {K : PySem.W.Frag} {H H' : Hp} {a : Addr} {xs : List V} (e : Same H H') (h : SqL K H a xs) : SqL K H' a xs := sqL_ext (.of e) h
/-! ### _law_bag -/
theorem cut63 {xs : List V} (h : xs.length ≤ 63) : cutV xs none (some 63) = xs := by
  unfold cutV
  have e1 : HT.sIx xs.length 0 none = 0 := rfl
  have e2 : HT.sIx xs.length xs.length (some 63) = xs.length := by
    unfold HT.sIx
    simp only []
    rw [if_neg (by decide)]
    show min 63 xs.length = xs.length
    omega
  rw [e1, e2, List.drop_zero, Nat.sub_zero, List.take_length]
theorem ok_bag {g : Gm} {f : Addr} {fd : FuncData} (F : FunD g.K "_law_bag" "_law_bag" (defArgs s__law_bag) (defBody s__law_bag) (defScope s__law_bag) [] [] f fd) (hlen : g.mg "len" = none) (hlist : g.mg "list" = none) :
    FnOk g.P g.w g.K g.mg g.base (L2.CX g.P g.w) 1 f fd P__law_bag (spBag g.K) := by
  refine F.ok sc__law_bag (fun vs H Q E h => ?_) fun cdv A outer s H vs Q E hr h => ?_
  · obtain ⟨a, ns, rfl, _⟩ := h
    rfl
  · obtain ⟨a, ns, rfl, hS, hl, hQ⟩ := h
    have hl' : (ns.map V.int).length ≤ 63 := by rw [List.length_map]; exact hl
    refine ⟨_, pss_cons (ps_set (i := 1) sc__law_bag.nd rfl (.inl rfl) (pe_op op_add pe_int (pe_callB call_len (by rfl) hlen boot_len (pa_cons (pe_slice sl_list (pv 0) po_none (po_some pe_int)) pa_nil))))
      (pss_cons (ps_for (passes_of rfl) rfl (pi_list (pe_slice sl_list (pv 0) po_none (po_some pe_int))) (pg_name (i := 2) sc__law_bag.nd rfl (.inl rfl)) (pss_one (ps_set (i := 1) sc__law_bag.nd rfl (.inl rfl) (pe_op op_mod (pe_op op_add (pe_op op_mul (pv 1) pe_int) (pv 2)) pe_int))))
      (pss_one (ps_ret (pe_lst (pa_cons (pe_callTy call_list_of (by rfl) hlist boot_list (pa_cons (pe_slice sl_list (pv 0) po_none (po_some pe_int)) pa_nil)) (pa_cons pe_int (pa_cons pe_int (pa_cons (pv 1) (pa_cons pe_int pa_nil))))))))), ?_⟩
    refine ⟨.ref a, rfl, 63, rfl, a, ns.map V.int, rfl, hS, fun p1 hp1 => ?_⟩
    rw [cut63 hl']
    have s1 : Same H (upd H p1 (.lst (ns.map V.int))) := same_upd hp1
    refine ⟨.ref p1, (ns.map V.int).length, rfl, .inl ⟨_, SqL.of upd_same, rfl⟩, 17, _, rfl, rfl, ?_⟩
    refine ⟨.ref a, rfl, 63, rfl, a, ns.map V.int, rfl, sq_same s1 hS, fun p2 hp2 => ?_⟩
    rw [cut63 hl']
    have s2 : Same H (upd (upd H p1 (.lst (ns.map V.int))) p2 (.lst (ns.map V.int))) := s1.trans (same_upd hp2)
    have e2 : (upd (upd H p1 (.lst (ns.map V.int))) p2 (.lst (ns.map V.int))) p2 = some (.lst (ns.map V.int)) := upd_same
    generalize upd (upd H p1 (.lst (ns.map V.int))) p2 (.lst (ns.map V.int)) = H2 at s2 e2 ⊢
    have q2 : SqL g.K H2 p2 (ns.map V.int) := SqL.of e2
    refine ⟨p2, rfl, ⟨_, q2⟩, ?_⟩
    refine ⟨fun i m σ H' => m + i = ns.length ∧ H' = H2 ∧ ∃ (sv : Int) (z : Option V), σ = [some (.ref a), some (.int sv), z] ∧ 0 ≤ sv ∧ sv < 2147483563, ⟨ns.length, rfl, rfl, 17 + ((ns.map V.int).length : Nat), none, rfl, by omega, by omega⟩, ?_⟩
    rintro i m σ H' ⟨hm, rfl, sv, z, rfl, b1, b2⟩
    by_cases hi : i < ns.length
    · refine .inr ⟨⟨ns.map V.int, .int ns[i], q2, by rw [List.getElem?_map, List.getElem?_eq_getElem hi]; rfl⟩, _, fun σ' H'' n => ⟨m - 1, by omega, n⟩, ?_⟩
      rintro x H'' ⟨rfl, hy⟩
      have hx := hy _ q2
      rw [List.getElem?_map, List.getElem?_eq_getElem hi] at hx
      obtain rfl : V.int ns[i] = x := Option.some.inj hx
      refine ⟨_, rfl, sv, 52817, rfl, rfl, .inr ⟨by decide, by decide⟩, _, rfl, _, _, rfl, rfl, _, 2147483563, rfl, rfl, (show (0 : Int) < 2147483563 by decide), ?_⟩
      exact ⟨by omega, rfl, _, _, rfl, Int.emod_nonneg _ (by decide), Int.emod_lt_of_pos _ (by decide)⟩
    · refine .inl ⟨⟨ns.map V.int, q2, by rw [List.length_map]; omega⟩, ?_⟩
      refine ⟨.ref a, rfl, 63, rfl, a, ns.map V.int, rfl, sq_same s2 hS, fun p3 hp3 => ?_⟩
      rw [cut63 hl']
      refine ⟨p3, ns.map V.int, rfl, .inl (SqL.of upd_same), fun c hc => ?_⟩
      refine ⟨_, rfl, by show 5 ≤ sizeLine; decide, fun b hb => ?_⟩
      have s3 := s2.trans ((same_upd (o := .lst (ns.map V.int)) hp3).trans (same_upd (o := .lst (ns.map V.int)) hc))
      have ncb : c ≠ b := fun z => by
        rw [← z, upd_same] at hb
        cases hb
      refine hQ _ b c sv (s3.trans (same_upd hb)) ?_ ncb (by rw [upd_ne ncb, upd_same]) upd_same ⟨b1, b2⟩
      cases q : H b with
      | none => rfl
      | some o =>
        rw [s3 b o q] at hb
        cases hb
theorem bag_fn {g : Gm} [Hd g] : BagFn g 1 := by
  obtain ⟨f, fd, F, hm⟩ := Hd.D__law_bag (g := g)
  exact ⟨f, fd, P__law_bag, hm, F.kp, F.bindsN fun _ _ _ _ _ _ us hl => (match us, hl with | [_], _ => rfl), ok_bag F Hd.B_len Hd.B_list⟩

def b_is_whole : Sms := (.cons (.ret (.bop .And (.cons (.bi (.isi .int) (.cons (.v 0) .nil)) (.cons (.not (.bi (.isi .bool) (.cons (.v 0) .nil))) .nil)))) .nil)
def M_is_whole : FnM := evF ⟨[], [], [], fun _ => none, fun _ _ => M.fail, []⟩ 1 1 b_is_whole
theorem fn_is_whole {g : Gm} [Hd g] : CallD g 1 "is_whole" M_is_whole := fn_def (kf := 0) (nm := ⟨[], [], [], ["isinstance", "int", "bool"], [], [], none, []⟩) Hd.D_is_whole sc_is_whole (fun _ _ _ _ _ _ us hl => match us, hl with | [_], _ => rfl) (mkFx (kf := 0) .nil .nil .nil (.cons Hd.B_isinstance (.cons Hd.B_int (.cons Hd.B_bool .nil))) .nil .nil (.inl ⟨rfl, rfl⟩) .nil) (by kernel_rfl) rfl rfl
def b_is_name : Sms := (.cons (.ret (.bop .And (.cons (.bi (.isi .str) (.cons (.v 0) .nil)) (.cons (.cmp2 .LtE .LtE (.i 1) (.bi .len (.cons (.v 0) .nil)) (.gl 0)) (.cons (.bi .all (.cons (.comp [("sign", 1)] (.cmp .In (.v 1) (.gl 1)) (.nm 1) (.seq (.v 0)) .nil) .nil)) .nil))))) .nil)
def M_is_name : FnM := evF ⟨[], [], [(.int 8), (.str "abcdefghijklmnopqrstuvwxyz")], fun _ => none, fun _ _ => M.fail, []⟩ 1 2 b_is_name
theorem fn_is_name {g : Gm} [Hd g] : CallD g 1 "is_name" M_is_name := fn_def (kf := 0) (nm := ⟨[], [], ["LONGEST", "LETTERS"], ["isinstance", "str", "len", "all"], [], [], none, []⟩) Hd.D_is_name sc_is_name (fun _ _ _ _ _ _ us hl => match us, hl with | [_], _ => rfl) (mkFx (kf := 0) .nil .nil (.cons Hd.V_LONGEST (.cons Hd.V_LETTERS .nil)) (.cons Hd.B_isinstance (.cons Hd.B_str (.cons Hd.B_len (.cons Hd.B_all .nil)))) .nil .nil (.inl ⟨rfl, rfl⟩) .nil) (by kernel_rfl) rfl rfl
def b_is_within : Sms := (.cons (.ret (.bop .And (.cons (.call 0 (.cons (.v 0) .nil)) (.cons (.cmp2 .LtE .LtE (.v 1) (.v 0) (.v 2)) .nil)))) .nil)
def M_is_within : FnM := evF ⟨[M_is_whole], [], [], fun _ => none, fun _ _ => M.fail, []⟩ 3 3 b_is_within
theorem fn_is_within {g : Gm} [Hd g] : CallD g 2 "is_within" M_is_within := fn_def (kf := 1) (nm := ⟨["is_whole"], [], [], [], [], [], none, []⟩) Hd.D_is_within sc_is_within (fun _ _ _ _ _ _ us hl => match us, hl with | [_, _, _], _ => rfl) (mkFx (kf := 1) (.cons fn_is_whole (by decide) .nil) .nil .nil .nil .nil .nil (.inl ⟨rfl, rfl⟩) .nil) (by kernel_rfl) rfl rfl
def b_is_weights : Sms := (.cons (.ifS (.bop .Or (.cons (.not (.bi (.isi .tuple) (.cons (.v 0) .nil))) (.cons (.not (.cmp2 .LtE .LtE (.i 1) (.bi .len (.cons (.v 0) .nil)) (.gl 1))) .nil))) (.cons (.ret (.b false)) .nil) .nil) (.cons (.ifS (.not (.bi .all (.cons (.comp [("row", 1)] (.bop .And (.cons (.bi (.isi .tuple) (.cons (.v 1) .nil)) (.cons (.cmp .Eq (.bi .len (.cons (.v 1) .nil)) (.bi .len (.cons (.ix (.v 0) (.i 0)) .nil))) .nil))) (.nm 1) (.seq (.v 0)) .nil) .nil))) (.cons (.ret (.b false)) .nil) .nil) (.cons (.ifS (.not (.cmp2 .LtE .LtE (.i 1) (.bi .len (.cons (.ix (.v 0) (.i 0)) .nil)) (.gl 1))) (.cons (.ret (.b false)) .nil) .nil) (.cons (.ret (.bi .all (.cons (.comp2 [("row", 1), ("one", 2)] [2] (.call 0 (.cons (.v 2) (.cons (.i 0) (.cons (.gl 0) .nil)))) (.nm 1) (.seq (.v 0)) (.nm 2) (.seq (.v 1)) .nil) .nil))) .nil))))
def M_is_weights : FnM := evF ⟨[M_is_within], [], [(.int 96), (.int 12)], fun _ => none, fun _ _ => M.fail, []⟩ 1 3 b_is_weights
theorem fn_is_weights {g : Gm} [Hd g] : CallD g 3 "is_weights" M_is_weights := fn_def (kf := 2) (nm := ⟨["is_within"], [], ["MOST_WEIGHT", "MOST_ENDS"], ["all", "len", "isinstance", "tuple"], [], [], none, []⟩) Hd.D_is_weights sc_is_weights (fun _ _ _ _ _ _ us hl => match us, hl with | [_], _ => rfl) (mkFx (kf := 2) (.cons fn_is_within (by decide) .nil) .nil (.cons Hd.V_MOST_WEIGHT (.cons Hd.V_MOST_ENDS .nil)) (.cons Hd.B_all (.cons Hd.B_len (.cons Hd.B_isinstance (.cons Hd.B_tuple .nil)))) .nil .nil (.inl ⟨rfl, rfl⟩) .nil) (by kernel_rfl) rfl rfl
def b_is_order : Sms := (.cons (.ifS (.bop .Or (.cons (.not (.bi (.isi .tuple) (.cons (.v 0) .nil))) (.cons (.not (.cmp2 .LtE .LtE (.i 1) (.bi .len (.cons (.v 0) .nil)) (.gl 0))) .nil))) (.cons (.ret (.b false)) .nil) .nil) (.cons (.ret (.bop .And (.cons (.bi .all (.cons (.comp [("one", 1)] (.call 0 (.cons (.v 1) .nil)) (.nm 1) (.seq (.v 0)) .nil) .nil)) (.cons (.cmp .Eq (.bi (.x .sort) (.cons (.v 0) .nil)) (.conv false (.rng1 (.bi .len (.cons (.v 0) .nil))))) .nil)))) .nil))
def M_is_order : FnM := evF ⟨[M_is_whole], [], [(.int 12)], fun _ => none, fun _ _ => M.fail, []⟩ 1 2 b_is_order
theorem fn_is_order {g : Gm} [Hd g] : CallD g 2 "is_order" M_is_order := fn_def (kf := 1) (nm := ⟨["is_whole"], [], ["MOST_ENDS"], ["all", "sorted", "list", "range", "len", "isinstance", "tuple"], [], [], none, []⟩) Hd.D_is_order sc_is_order (fun _ _ _ _ _ _ us hl => match us, hl with | [_], _ => rfl) (mkFx (kf := 1) (.cons fn_is_whole (by decide) .nil) .nil (.cons Hd.V_MOST_ENDS .nil) (.cons Hd.B_all (.cons Hd.B_sorted (.cons Hd.B_list (.cons Hd.B_range (.cons Hd.B_len (.cons Hd.B_isinstance (.cons Hd.B_tuple .nil))))))) .nil .nil (.inl ⟨rfl, rfl⟩) .nil) (by kernel_rfl) rfl rfl
def b_is_box : Sms := (.cons (.set 1 (.ix (.v 0) (.i 0))) (.cons (.ifS (.cmp .In (.v 1) (.tup (.cons (.s "copy") (.cons (.s "sum") .nil)))) (.cons (.ret (.call 3 (.cons (.ix (.v 0) (.i 1)) (.cons (.i 0) (.cons (.gl 1) .nil))))) .nil) .nil) (.cons (.ifS (.cmp .Eq (.v 1) (.s "weigh")) (.cons (.ret (.call 3 (.cons (.ix (.v 0) (.i 1)) (.cons (.i 0) (.cons (.gl 0) .nil))))) .nil) .nil) (.cons (.ifS (.cmp .Eq (.v 1) (.s "mix")) (.cons (.ret (.call 2 (.cons (.ix (.v 0) (.i 1)) .nil))) .nil) .nil) (.cons (.ifS (.cmp .Eq (.v 1) (.s "shuffle")) (.cons (.ret (.call 1 (.cons (.ix (.v 0) (.i 1)) .nil))) .nil) .nil) (.cons (.ret (.bop .Or (.cons (.cmp .NotEq (.v 1) (.s "use")) (.cons (.call 0 (.cons (.ix (.v 0) (.i 1)) .nil)) .nil)))) .nil))))))
def M_is_box : FnM := evF ⟨[M_is_name, M_is_order, M_is_weights, M_is_within], [], [(.int 96), (.int 4)], fun _ => none, fun _ _ => M.fail, []⟩ 1 2 b_is_box
theorem fn_is_box {g : Gm} [Hd g] : CallD g 4 "is_box" M_is_box := fn_def (kf := 3) (nm := ⟨["is_name", "is_order", "is_weights", "is_within"], [], ["MOST_WEIGHT", "MOST_FORKS"], [], [], [], none, []⟩) Hd.D_is_box sc_is_box (fun _ _ _ _ _ _ us hl => match us, hl with | [_], _ => rfl) (mkFx (kf := 3) (.cons fn_is_name (by decide) (.cons fn_is_order (by decide) (.cons fn_is_weights (by decide) (.cons fn_is_within (by decide) .nil)))) .nil (.cons Hd.V_MOST_WEIGHT (.cons Hd.V_MOST_FORKS .nil)) .nil .nil .nil (.inl ⟨rfl, rfl⟩) .nil) (by kernel_rfl) rfl rfl
def b_parts_of : Sms := (.cons (.ifS (.bop .Or (.cons (.not (.bi (.isi .tuple) (.cons (.v 0) .nil))) (.cons (.cmp .Eq (.bi .len (.cons (.v 0) .nil)) (.i 0)) (.cons (.not (.bi (.isi .str) (.cons (.ix (.v 0) (.i 0)) .nil))) .nil)))) (.cons (.ret (.non)) .nil) .nil) (.cons (.ifS (.cmp .NotEq (.getG 0 (.ix (.v 0) (.i 0)) (.i 0)) (.bi .len (.cons (.v 0) .nil))) (.cons (.ret (.non)) .nil) .nil) (.cons (.ifS (.cmp .In (.ix (.v 0) (.i 0)) (.tup (.cons (.s "turned") (.cons (.s "ring") .nil)))) (.cons (.ret (.lst (.cons (.ix (.v 0) (.i 1)) .nil))) .nil) .nil) (.cons (.ifS (.cmp .In (.ix (.v 0) (.i 0)) (.tup (.cons (.s "then") (.cons (.s "beside") .nil)))) (.cons (.set 1 (.bop .And (.cons (.bi (.isi .tuple) (.cons (.ix (.v 0) (.i 1)) .nil)) (.cons (.cmp2 .LtE .LtE (.i 1) (.bi .len (.cons (.ix (.v 0) (.i 1)) .nil)) (.gl 0)) .nil)))) (.cons (.ret (.ite (.v 1) (.bi .list (.cons (.ix (.v 0) (.i 1)) .nil)) (.non))) .nil)) .nil) (.cons (.ret (.ite (.call 0 (.cons (.v 0) .nil)) (.lst .nil) (.non))) .nil)))))
def M_parts_of : FnM := evF ⟨[M_is_box], [], [(.int 12)], fun _ => none, fun _ _ => M.fail, [[("wire", (.int 1)), ("lag", (.int 1)), ("weigh", (.int 2)), ("copy", (.int 2)), ("sum", (.int 2)), ("mix", (.int 2)), ("shuffle", (.int 2)), ("use", (.int 2)), ("then", (.int 2)), ("beside", (.int 2)), ("turned", (.int 2)), ("ring", (.int 2))]]⟩ 1 2 b_parts_of
theorem fn_parts_of {g : Gm} [Hd g] : CallD g 5 "parts_of" M_parts_of := fn_def (kf := 4) (nm := ⟨["is_box"], [], ["MOST_PARTS"], ["list", "isinstance", "tuple", "len", "str"], [], [], none, ["SIZES"]⟩) Hd.D_parts_of sc_parts_of (fun _ _ _ _ _ _ us hl => match us, hl with | [_], _ => rfl) (mkFx (kf := 4) (.cons fn_is_box (by decide) .nil) .nil (.cons Hd.V_MOST_PARTS .nil) (.cons Hd.B_list (.cons Hd.B_isinstance (.cons Hd.B_tuple (.cons Hd.B_len (.cons Hd.B_str .nil))))) .nil .nil (.inl ⟨rfl, rfl⟩) (.cons Hd.T_SIZES .nil)) (by kernel_rfl) rfl rfl
def b_leaves : Sms := (.cons (.setN 1 (.lst (.cons (.tup (.cons (.v 0) (.cons (.i 1) .nil))) .nil))) (.cons (.setN 2 (.lst .nil)) (.cons (.whS (.bop .And (.cons (.cmp .NotEq (.v 1) (.lst .nil)) (.cons (.cmp .LtE (.bi .len (.cons (.v 2) .nil)) (.gl 0)) .nil))) (.cons (.pop (.tup [3, 4]) 1 .no) (.cons (.set 5 (.call 0 (.cons (.v 3) .nil))) (.cons (.ifS (.bop .Or (.cons (.cmp .Is (.v 5) (.non)) (.cons (.cmp .Gt (.v 4) (.gl 2)) .nil))) (.cons (.ret (.non)) .nil) .nil) (.cons (.ifS (.cmp .Eq (.v 5) (.lst .nil)) (.cons (.app 2 (.v 3)) .nil) .nil) (.cons (.ext 1 (.comp [("part", 6)] (.tup (.cons (.v 6) (.cons (.bin .Add (.v 4) (.i 1)) .nil))) (.nm 6) (.rev (.v 5)) .nil)) .nil)))))) (.frz 2 (.cons (.set 7 (.bi .len (.cons (.comp [("box", 8)] (.v 8) (.nm 8) (.seq (.v 2)) (.cons (.cmp .Eq (.ix (.v 8) (.i 0)) (.s "lag")) .nil)) .nil))) (.frz 2 (.cons (.ret (.ite (.bop .And (.cons (.cmp .LtE (.bi .len (.cons (.v 2) .nil)) (.gl 0)) (.cons (.cmp .LtE (.v 7) (.gl 1)) .nil))) (.v 2) (.non))) .nil)))))))
def M_leaves : FnM := evF ⟨[M_parts_of], [], [(.int 60), (.int 8), (.int 16)], fun _ => none, fun _ _ => M.fail, []⟩ 1 9 b_leaves
theorem fn_leaves {g : Gm} [Hd g] : CallD g 6 "leaves" M_leaves := fn_def (kf := 5) (nm := ⟨["parts_of"], [], ["MOST_BOXES", "MOST_LAGS", "DEEPEST"], ["len", "reversed"], [], [], none, []⟩) Hd.D_leaves sc_leaves (fun _ _ _ _ _ _ us hl => match us, hl with | [_], _ => rfl) (mkFx (kf := 5) (.cons fn_parts_of (by decide) .nil) .nil (.cons Hd.V_MOST_BOXES (.cons Hd.V_MOST_LAGS (.cons Hd.V_DEEPEST .nil))) (.cons Hd.B_len (.cons Hd.B_reversed .nil)) .nil .nil (.inl ⟨rfl, rfl⟩) .nil) (by kernel_rfl) rfl rfl
def b_uses : Sms := (.cons (.ret (.comp [("box", 1)] (.ix (.v 1) (.i 1)) (.nm 1) (.seq (.v 0)) (.cons (.cmp .Eq (.ix (.v 1) (.i 0)) (.s "use")) .nil))) .nil)
def M_uses : FnM := evF ⟨[], [], [], fun _ => none, fun _ _ => M.fail, []⟩ 1 2 b_uses
theorem fn_uses {g : Gm} [Hd g] : CallD g 1 "uses" M_uses := fn_def (kf := 0) (nm := ⟨[], [], [], [], [], [], none, []⟩) Hd.D_uses sc_uses (fun _ _ _ _ _ _ us hl => match us, hl with | [_], _ => rfl) (mkFx (kf := 0) .nil .nil .nil .nil .nil .nil (.inl ⟨rfl, rfl⟩) .nil) (by kernel_rfl) rfl rfl
def b_need_boxes : Sms := (.cons (.set 1 (.call 1 (.cons (.v 0) .nil))) (.cons (.ifS (.bop .Or (.cons (.cmp .Is (.v 1) (.non)) (.cons (.cmp .NotEq (.call 0 (.cons (.v 1) .nil)) (.lst .nil)) .nil))) (.cons (.raise0 "BadWiring") .nil) .nil) (.cons (.ret (.v 1)) .nil)))
def M_need_boxes : FnM := evF ⟨[M_uses, M_leaves], [], [], fun _ => none, fun _ _ => M.fail, []⟩ 1 2 b_need_boxes
theorem fn_need_boxes {g : Gm} [Hd g] : CallD g 7 "need_boxes" M_need_boxes := fn_def (kf := 6) (nm := ⟨["uses", "leaves"], [], [], [], ["BadWiring"], [], none, []⟩) Hd.D_need_boxes sc_need_boxes (fun _ _ _ _ _ _ us hl => match us, hl with | [_], _ => rfl) (mkFx (kf := 6) (.cons fn_uses (by decide) (.cons fn_leaves (by decide) .nil)) .nil .nil .nil (.cons Hd.X_BadWiring .nil) .nil (.inr (by decide)) .nil) (by kernel_rfl) rfl rfl
def b_box_shape : Sms := (.cons (.set 1 (.ix (.v 0) (.i 0))) (.cons (.ifS (.cmp .Eq (.v 1) (.s "copy")) (.cons (.ret (.tup (.cons (.i 1) (.cons (.ix (.v 0) (.i 1)) .nil)))) .nil) .nil) (.cons (.ifS (.cmp .Eq (.v 1) (.s "sum")) (.cons (.ret (.tup (.cons (.ix (.v 0) (.i 1)) (.cons (.i 1) .nil)))) .nil) .nil) (.cons (.ifS (.cmp .Eq (.v 1) (.s "mix")) (.cons (.ret (.tup (.cons (.bi .len (.cons (.ix (.ix (.v 0) (.i 1)) (.i 0)) .nil)) (.cons (.bi .len (.cons (.ix (.v 0) (.i 1)) .nil)) .nil)))) .nil) .nil) (.cons (.ret (.ite (.cmp .Eq (.v 1) (.s "shuffle")) (.tup (.cons (.bi .len (.cons (.ix (.v 0) (.i 1)) .nil)) (.cons (.bi .len (.cons (.ix (.v 0) (.i 1)) .nil)) .nil))) (.tup (.cons (.i 1) (.cons (.i 1) .nil))))) .nil)))))
def M_box_shape : FnM := evF ⟨[], [], [], fun _ => none, fun _ _ => M.fail, []⟩ 1 2 b_box_shape
theorem fn_box_shape {g : Gm} [Hd g] : CallD g 1 "box_shape" M_box_shape := fn_def (kf := 0) (nm := ⟨[], [], [], ["len"], [], [], none, []⟩) Hd.D_box_shape sc_box_shape (fun _ _ _ _ _ _ us hl => match us, hl with | [_], _ => rfl) (mkFx (kf := 0) .nil .nil .nil (.cons Hd.B_len .nil) .nil .nil (.inl ⟨rfl, rfl⟩) .nil) (by kernel_rfl) rfl rfl
def b_joined_shape : Sms := (.cons (.ifS (.cmp .Eq (.v 0) (.s "beside")) (.cons (.ret (.tup (.cons (.bi .sum (.cons (.comp [("one", 2)] (.ix (.v 2) (.i 0)) (.nm 2) (.seq (.v 1)) .nil) .nil)) (.cons (.bi .sum (.cons (.comp [("one", 2)] (.ix (.v 2) (.i 1)) (.nm 2) (.seq (.v 1)) .nil) .nil)) .nil)))) .nil) .nil) (.cons (.ifS (.cmp .Eq (.v 0) (.s "turned")) (.cons (.ret (.tup (.cons (.ix (.ix (.v 1) (.i 0)) (.i 1)) (.cons (.ix (.ix (.v 1) (.i 0)) (.i 0)) .nil)))) .nil) .nil) (.cons (.ifS (.cmp .Eq (.v 0) (.s "ring")) (.cons (.ifS (.cmp .In (.i 0) (.ix (.v 1) (.i 0))) (.cons (.raise0 "Unshaped") .nil) .nil) (.cons (.ret (.tup (.cons (.bin .Sub (.ix (.ix (.v 1) (.i 0)) (.i 0)) (.i 1)) (.cons (.bin .Sub (.ix (.ix (.v 1) (.i 0)) (.i 1)) (.i 1)) .nil)))) .nil)) .nil) (.cons (.ifS (.not (.bi .all (.cons (.comp [("k", 3)] (.cmp .Eq (.ix (.ix (.v 1) (.bin .Sub (.v 3) (.i 1))) (.i 1)) (.ix (.ix (.v 1) (.v 3)) (.i 0))) (.nm 3) (.rng2 (.i 1) (.bi .len (.cons (.v 1) .nil))) .nil) .nil))) (.cons (.raise0 "Unshaped") .nil) .nil) (.cons (.ret (.tup (.cons (.ix (.ix (.v 1) (.i 0)) (.i 0)) (.cons (.ix (.ix (.v 1) (.neg (.i 1))) (.i 1)) .nil)))) .nil)))))
def M_joined_shape : FnM := evF ⟨[], [], [], fun _ => none, fun _ _ => M.fail, []⟩ 2 4 b_joined_shape
theorem fn_joined_shape {g : Gm} [Hd g] : CallD g 3 "joined_shape" M_joined_shape := fn_def (kf := 2) (nm := ⟨[], [], [], ["all", "range", "len", "sum"], ["Unshaped"], [], none, []⟩) Hd.D_joined_shape sc_joined_shape (fun _ _ _ _ _ _ us hl => match us, hl with | [_, _], _ => rfl) (mkFx (kf := 2) .nil .nil .nil (.cons Hd.B_all (.cons Hd.B_range (.cons Hd.B_len (.cons Hd.B_sum .nil)))) (.cons Hd.X_Unshaped .nil) .nil (.inr (by decide)) .nil) (by kernel_rfl) rfl rfl
def b_shape_of : Sms := (.cons (.set 1 (.call 3 (.cons (.v 0) .nil))) (.cons (.set 2 (.ite (.cmp .Eq (.v 1) (.lst .nil)) (.call 0 (.cons (.v 0) .nil)) (.call 1 (.cons (.ix (.v 0) (.i 0)) (.cons (.compX "part" 3 (.call 2 (.cons (.v 3) .nil)) (.seq (.v 1))) .nil))))) (.cons (.ifS (.cmp .Gt (.bi (.x .maxq) (.cons (.v 2) .nil)) (.gl 0)) (.cons (.raise0 "Unshaped") .nil) .nil) (.cons (.ret (.v 2)) .nil))))
def M_shape_of : Nat → FnM
  | 0 => fun _ => M.fail
  | n + 1 => evF ⟨[M_box_shape, M_joined_shape, (M_shape_of n), M_parts_of], [], [(.int 12)], fun _ => none, fun _ _ => M.fail, []⟩ 1 4 b_shape_of
theorem fn_shape_of {g : Gm} [Hd g] : ∀ n : Nat, CallD g (6 + n) "shape_of" (M_shape_of n)
  | 0 => (fn_fail Hd.D_shape_of sc_shape_of (fun _ _ _ _ _ _ us hl => match us, hl with | [_], _ => rfl)).up (by decide)
  | n + 1 => fn_def (kf := 6 + n) (nm := ⟨["box_shape", "joined_shape", "shape_of", "parts_of"], [], ["MOST_ENDS"], ["max"], ["Unshaped"], [], none, []⟩) Hd.D_shape_of sc_shape_of (fun _ _ _ _ _ _ us hl => match us, hl with | [_], _ => rfl) (mkFx (kf := 6 + n) (.cons fn_box_shape (by omega) (.cons fn_joined_shape (by omega) (.cons (fn_shape_of n) (by omega) (.cons fn_parts_of (by omega) .nil)))) .nil (.cons Hd.V_MOST_ENDS .nil) (.cons Hd.B_max .nil) (.cons Hd.X_Unshaped .nil) .nil (.inr (by omega)) .nil) (by kernel_rfl) rfl rfl
def b_shape : Sms := (.cons (.expr (.call 1 (.cons (.v 0) .nil))) (.cons (.ret (.call 0 (.cons (.v 0) .nil))) .nil))
def M_shape : FnM := evF ⟨[(M_shape_of 18), M_need_boxes], [], [], fun _ => none, fun _ _ => M.fail, []⟩ 1 1 b_shape
theorem fn_shape {g : Gm} [Hd g] : CallD g 25 "shape" M_shape := fn_def (kf := 24) (nm := ⟨["shape_of", "need_boxes"], [], [], [], [], [], none, []⟩) Hd.D_shape sc_shape (fun _ _ _ _ _ _ us hl => match us, hl with | [_], _ => rfl) (mkFx (kf := 24) (.cons (fn_shape_of 18) (by decide) (.cons fn_need_boxes (by decide) .nil)) .nil .nil .nil .nil .nil (.inl ⟨rfl, rfl⟩) .nil) (by kernel_rfl) rfl rfl
def b_boxes : Sms := (.cons (.set 1 (.call 1 (.cons (.v 0) .nil))) (.cons (.expr (.call 0 (.cons (.v 0) .nil))) (.cons (.ret (.bi .len (.cons (.v 1) .nil))) .nil)))
def M_boxes : FnM := evF ⟨[(M_shape_of 18), M_need_boxes], [], [], fun _ => none, fun _ _ => M.fail, []⟩ 1 2 b_boxes
theorem fn_boxes {g : Gm} [Hd g] : CallD g 25 "boxes" M_boxes := fn_def (kf := 24) (nm := ⟨["shape_of", "need_boxes"], [], [], ["len"], [], [], none, []⟩) Hd.D_boxes sc_boxes (fun _ _ _ _ _ _ us hl => match us, hl with | [_], _ => rfl) (mkFx (kf := 24) (.cons (fn_shape_of 18) (by decide) (.cons fn_need_boxes (by decide) .nil)) .nil .nil (.cons Hd.B_len .nil) .nil .nil (.inl ⟨rfl, rfl⟩) .nil) (by kernel_rfl) rfl rfl
def b_lags : Sms := (.cons (.set 1 (.call 1 (.cons (.v 0) .nil))) (.cons (.expr (.call 0 (.cons (.v 0) .nil))) (.cons (.ret (.bi .len (.cons (.comp [("box", 2)] (.v 2) (.nm 2) (.seq (.v 1)) (.cons (.cmp .Eq (.ix (.v 2) (.i 0)) (.s "lag")) .nil)) .nil))) .nil)))
def M_lags : FnM := evF ⟨[(M_shape_of 18), M_need_boxes], [], [], fun _ => none, fun _ _ => M.fail, []⟩ 1 3 b_lags
theorem fn_lags {g : Gm} [Hd g] : CallD g 25 "lags" M_lags := fn_def (kf := 24) (nm := ⟨["shape_of", "need_boxes"], [], [], ["len"], [], [], none, []⟩) Hd.D_lags sc_lags (fun _ _ _ _ _ _ us hl => match us, hl with | [_], _ => rfl) (mkFx (kf := 24) (.cons (fn_shape_of 18) (by decide) (.cons fn_need_boxes (by decide) .nil)) .nil .nil (.cons Hd.B_len .nil) .nil .nil (.inl ⟨rfl, rfl⟩) .nil) (by kernel_rfl) rfl rfl
def b__law_pull : Sms := (.cons (.put 0 (.i 4) (.bin .Add (.ix (.v 0) (.i 4)) (.i 1))) (.cons (.ifS (.bop .And (.cons (.cmp .Eq (.ix (.v 0) (.i 2)) (.i 0)) (.cons (.cmp .Lt (.ix (.v 0) (.i 1)) (.bi .len (.cons (.ix (.v 0) (.i 0)) .nil))) .nil))) (.cons (.set 2 (.ix (.ix (.v 0) (.i 0)) (.ix (.v 0) (.i 1)))) (.cons (.put 0 (.i 1) (.bin .Add (.ix (.v 0) (.i 1)) (.i 1))) (.cons (.ifS (.cmp .GtE (.v 2) (.bin .Pow (.i 10) (.i 18))) (.cons (.put 0 (.i 2) (.v 2)) .nil) (.cons (.put 0 (.i 3) (.bin .Mod (.bin .Add (.bin .Add (.bin .Mult (.ix (.v 0) (.i 3)) (.i 69069)) (.bin .Mult (.bin .Mod (.v 2) (.i 2147483629)) (.i 40503))) (.i 11)) (.i 2147483563))) .nil)) .nil))) .nil) (.cons (.ifS (.cmp .Gt (.ix (.v 0) (.i 2)) (.i 0)) (.cons (.set 3 (.bin .Mod (.ix (.v 0) (.i 2)) (.v 1))) (.cons (.put 0 (.i 2) (.bin .FloorDiv (.ix (.v 0) (.i 2)) (.v 1))) (.cons (.ret (.v 3)) .nil))) .nil) (.cons (.set 4 (.ix (.v 0) (.i 3))) (.cons (.set 5 (.bin .Add (.bin .Mult (.bin .Mod (.bin .Mult (.v 4) (.v 4)) (.i 2147483629)) (.i 16807)) (.bin .Mult (.v 4) (.i 48271)))) (.cons (.put 0 (.i 3) (.bin .Mod (.bin .Add (.bin .Add (.v 5) (.i 40692)) (.ix (.v 0) (.i 4))) (.i 2147483563))) (.cons (.set 4 (.ix (.v 0) (.i 3))) (.cons (.ret (.bin .Mod (.bin .Add (.bin .Add (.bin .FloorDiv (.v 4) (.i 89)) (.bin .Mult (.bin .Mod (.v 4) (.i 7919)) (.i 31))) (.bin .Mult (.bin .Mult (.v 4) (.ix (.v 0) (.i 4))) (.i 2147483629))) (.v 1))) .nil))))))))
def M__law_pull : FnM := evF ⟨[], [], [], fun _ => none, fun _ _ => M.fail, []⟩ 2 6 b__law_pull
theorem fn__law_pull {g : Gm} [Hd g] : CallD g 1 "_law_pull" M__law_pull := fn_def (kf := 0) (nm := ⟨[], [], [], ["len"], [], [], none, []⟩) Hd.D__law_pull sc__law_pull (fun _ _ _ _ _ _ us hl => match us, hl with | [_, _], _ => rfl) (mkFx (kf := 0) .nil .nil .nil (.cons Hd.B_len .nil) .nil .nil (.inl ⟨rfl, rfl⟩) .nil) (by kernel_rfl) rfl rfl
def b__law_of : Sms := (.cons (.ret (.ix (.v 1) (.call 0 (.cons (.v 0) (.cons (.bi .len (.cons (.v 1) .nil)) .nil))))) .nil)
def M__law_of : FnM := evF ⟨[M__law_pull], [], [], fun _ => none, fun _ _ => M.fail, []⟩ 2 2 b__law_of
theorem fn__law_of {g : Gm} [Hd g] : CallD g 2 "_law_of" M__law_of := fn_def (kf := 1) (nm := ⟨["_law_pull"], [], [], ["len"], [], [], none, []⟩) Hd.D__law_of sc__law_of (fun _ _ _ _ _ _ us hl => match us, hl with | [_, _], _ => rfl) (mkFx (kf := 1) (.cons fn__law_pull (by decide) .nil) .nil .nil (.cons Hd.B_len .nil) .nil .nil (.inl ⟨rfl, rfl⟩) .nil) (by kernel_rfl) rfl rfl
def b__law_box : Sms := (.cons (.set 3 (.call 1 (.cons (.v 0) (.cons (.i 11) .nil)))) (.cons (.ifS (.cmp .Lt (.v 3) (.i 2)) (.cons (.ret (.tup (.cons (.tup (.cons (.s "wire") .nil)) (.cons (.i 1) (.cons (.i 1) .nil))))) .nil) .nil) (.cons (.ifS (.cmp .Lt (.v 3) (.i 4)) (.cons (.ret (.tup (.cons (.tup (.cons (.s "weigh") (.cons (.call 0 (.cons (.v 0) (.cons (.lst (.cons (.i 0) (.cons (.i 1) (.cons (.i 2) (.cons (.i 3) (.cons (.i 96) (.cons (.call 1 (.cons (.v 0) (.cons (.i 97) .nil))) .nil))))))) .nil))) .nil))) (.cons (.i 1) (.cons (.i 1) .nil))))) .nil) .nil) (.cons (.ifS (.bop .And (.cons (.cmp .Lt (.v 3) (.i 6)) (.cons (.cmp .Gt (.v 1) (.i 0)) .nil))) (.cons (.ret (.tup (.cons (.call 0 (.cons (.v 0) (.cons (.lst (.cons (.tup (.cons (.s "lag") .nil)) (.cons (.tup (.cons (.s "lag") .nil)) (.cons (.tup (.cons (.s "turned") (.cons (.tup (.cons (.s "lag") .nil)) .nil))) .nil)))) .nil))) (.cons (.i 1) (.cons (.i 1) .nil))))) .nil) .nil) (.cons (.ifS (.bop .And (.cons (.cmp .Eq (.v 3) (.i 6)) (.cons (.cmp .Gt (.v 2) (.i 1)) .nil))) (.cons (.ret (.tup (.cons (.call 0 (.cons (.v 0) (.cons (.lst (.cons (.tup (.cons (.s "sum") (.cons (.i 2) .nil))) (.cons (.tup (.cons (.s "turned") (.cons (.tup (.cons (.s "copy") (.cons (.i 2) .nil))) .nil))) .nil))) .nil))) (.cons (.i 2) (.cons (.i 1) .nil))))) .nil) .nil) (.cons (.ifS (.cmp .Eq (.v 3) (.i 7)) (.cons (.ret (.tup (.cons (.call 0 (.cons (.v 0) (.cons (.lst (.cons (.tup (.cons (.s "copy") (.cons (.i 2) .nil))) (.cons (.tup (.cons (.s "turned") (.cons (.tup (.cons (.s "sum") (.cons (.i 2) .nil))) .nil))) .nil))) .nil))) (.cons (.i 1) (.cons (.i 2) .nil))))) .nil) .nil) (.cons (.ifS (.cmp .Eq (.v 3) (.i 8)) (.cons (.ret (.tup (.cons (.tup (.cons (.s "turned") (.cons (.tup (.cons (.s "weigh") (.cons (.call 1 (.cons (.v 0) (.cons (.i 97) .nil))) .nil))) .nil))) (.cons (.i 1) (.cons (.i 1) .nil))))) .nil) .nil) (.cons (.ifS (.cmp .Eq (.v 3) (.i 9)) (.cons (.ret (.tup (.cons (.call 0 (.cons (.v 0) (.cons (.lst (.cons (.tup (.cons (.s "copy") (.cons (.i 0) .nil))) (.cons (.tup (.cons (.s "turned") (.cons (.tup (.cons (.s "sum") (.cons (.i 0) .nil))) .nil))) .nil))) .nil))) (.cons (.i 1) (.cons (.i 0) .nil))))) .nil) .nil) (.cons (.ifS (.cmp .Gt (.v 2) (.i 1)) (.cons (.ret (.tup (.cons (.tup (.cons (.s "shuffle") (.cons (.tup (.cons (.i 1) (.cons (.i 0) .nil))) .nil))) (.cons (.i 2) (.cons (.i 2) .nil))))) .nil) .nil) (.cons (.ret (.tup (.cons (.tup (.cons (.s "copy") (.cons (.i 1) .nil))) (.cons (.i 1) (.cons (.i 1) .nil))))) .nil))))))))))
def M__law_box : FnM := evF ⟨[M__law_of, M__law_pull], [], [], fun _ => none, fun _ _ => M.fail, []⟩ 3 4 b__law_box
theorem fn__law_box {g : Gm} [Hd g] : CallD g 3 "_law_box" M__law_box := fn_def (kf := 2) (nm := ⟨["_law_of", "_law_pull"], [], [], [], [], [], none, []⟩) Hd.D__law_box sc__law_box (fun _ _ _ _ _ _ us hl => match us, hl with | [_, _, _], _ => rfl) (mkFx (kf := 2) (.cons fn__law_of (by decide) (.cons fn__law_pull (by decide) .nil)) .nil .nil .nil .nil .nil (.inl ⟨rfl, rfl⟩) .nil) (by kernel_rfl) rfl rfl
def b__law_layer : Sms := (.cons (.parN [4, 5, 6] [true, false, false] (.cons (.lst .nil) (.cons (.i 0) (.cons (.i 0) .nil)))) (.cons (.forS (.nm 7) (.rng1 (.bin .Add (.v 1) (.i 1))) (.cons (.ifS (.bop .And (.cons (.cmp .Gt (.v 1) (.i 0)) (.cons (.bop .Or (.cons (.cmp .Lt (.v 5) (.v 2)) (.cons (.cmp .Eq (.v 7) (.i 0)) .nil))) .nil))) (.cons (.unp [8, 9, 10] (.call 0 (.cons (.v 0) (.cons (.bin .Sub (.v 3) (.v 6)) (.cons (.v 1) .nil))))) (.cons (.app 4 (.v 8)) (.cons (.par 1 5 (.bin .Sub (.v 1) (.v 9)) (.bin .Add (.v 5) (.v 10))) (.cons (.set 6 (.bin .Add (.v 6) (.bi (.x .intb) (.cons (.cmp .In (.s "lag") (.tup (.cons (.ix (.v 8) (.i 0)) (.cons (.ite (.cmp .Eq (.ix (.v 8) (.i 0)) (.s "turned")) (.ix (.ix (.v 8) (.i 1)) (.i 0)) (.s "")) .nil)))) .nil)))) .nil)))) .nil) .nil)) (.cons (.ret (.tup (.cons (.bin .Add (.v 4) (.bin .Mult (.lst (.cons (.tup (.cons (.s "copy") (.cons (.i 0) .nil))) .nil)) (.v 1))) (.cons (.v 5) (.cons (.v 6) .nil))))) .nil)))
def M__law_layer : FnM := evF ⟨[M__law_box], [], [], fun _ => none, fun _ _ => M.fail, []⟩ 4 11 b__law_layer
theorem fn__law_layer {g : Gm} [Hd g] : CallD g 4 "_law_layer" M__law_layer := fn_def (kf := 3) (nm := ⟨["_law_box"], [], [], ["range", "int"], [], [], none, []⟩) Hd.D__law_layer sc__law_layer (fun _ _ _ _ _ _ us hl => match us, hl with | [_, _, _, _], _ => rfl) (mkFx (kf := 3) (.cons fn__law_box (by decide) .nil) .nil .nil (.cons Hd.B_range (.cons Hd.B_int .nil)) .nil .nil (.inl ⟨rfl, rfl⟩) .nil) (by kernel_rfl) rfl rfl
def b__law_wiring : Sms := (.cons (.parN [4, 5] [true, false] (.cons (.lst .nil) (.cons (.v 3) .nil))) (.cons (.forS (.nm 6) (.rng1 (.bin .Add (.i 1) (.call 0 (.cons (.v 0) (.cons (.i 3) .nil))))) (.cons (.set 7 (.ix (.lst (.cons (.tup (.cons (.s "sum") (.cons (.i 0) .nil))) (.cons (.tup (.cons (.s "turned") (.cons (.tup (.cons (.s "copy") (.cons (.i 0) .nil))) .nil))) .nil))) (.call 0 (.cons (.v 0) (.cons (.i 2) .nil))))) (.cons (.ifS (.bop .Or (.cons (.cmp .Eq (.v 1) (.i 0)) (.cons (.bop .And (.cons (.cmp .Lt (.v 1) (.v 2)) (.cons (.cmp .Eq (.call 0 (.cons (.v 0) (.cons (.i 5) .nil))) (.i 0)) .nil))) .nil))) (.cons (.app 4 (.tup (.cons (.s "beside") (.cons (.bin .Add (.bin .Mult (.tup (.cons (.tup (.cons (.s "wire") .nil)) .nil)) (.v 1)) (.tup (.cons (.v 7) .nil))) .nil)))) (.cons (.set 1 (.bin .Add (.v 1) (.i 1))) .nil)) .nil) (.cons (.unp [8, 1, 9] (.call 1 (.cons (.v 0) (.cons (.v 1) (.cons (.v 2) (.cons (.v 5) .nil)))))) (.cons (.set 5 (.bin .Sub (.v 5) (.v 9))) (.cons (.app 4 (.tup (.cons (.s "beside") (.cons (.bi .tuple (.cons (.v 8) .nil)) .nil)))) .nil)))))) (.cons (.ret (.tup (.cons (.tup (.cons (.s "then") (.cons (.bi .tuple (.cons (.v 4) .nil)) .nil))) (.cons (.v 1) (.cons (.v 5) .nil))))) .nil)))
def M__law_wiring : FnM := evF ⟨[M__law_pull, M__law_layer], [], [], fun _ => none, fun _ _ => M.fail, []⟩ 4 10 b__law_wiring
theorem fn__law_wiring {g : Gm} [Hd g] : CallD g 5 "_law_wiring" M__law_wiring := fn_def (kf := 4) (nm := ⟨["_law_pull", "_law_layer"], [], [], ["tuple", "range"], [], [], none, []⟩) Hd.D__law_wiring sc__law_wiring (fun _ _ _ _ _ _ us hl => match us, hl with | [_, _, _, _], _ => rfl) (mkFx (kf := 4) (.cons fn__law_pull (by decide) (.cons fn__law_layer (by decide) .nil)) .nil .nil (.cons Hd.B_tuple (.cons Hd.B_range .nil)) .nil .nil (.inl ⟨rfl, rfl⟩) .nil) (by kernel_rfl) rfl rfl
def b__law_any_wiring : Sms := (.cons (.set 3 (.call 0 (.cons (.v 0) (.cons (.bin .Add (.v 1) (.i 1)) .nil)))) (.cons (.unp [4, 5, 6] (.call 1 (.cons (.v 0) (.cons (.v 3) (.cons (.v 1) (.cons (.v 2) .nil)))))) (.cons (.set 7 (.v 3)) (.cons (.set 8 (.call 0 (.cons (.v 0) (.cons (.i 6) .nil)))) (.cons (.ifS (.bop .And (.cons (.cmp .Eq (.v 8) (.i 0)) (.cons (.cmp .Gt (.v 7) (.i 0)) (.cons (.cmp .Gt (.v 5) (.i 0)) .nil)))) (.cons (.ret (.tup (.cons (.tup (.cons (.s "ring") (.cons (.v 4) .nil))) (.cons (.bin .Sub (.v 7) (.i 1)) (.cons (.bin .Sub (.v 5) (.i 1)) .nil))))) .nil) .nil) (.cons (.ifS (.cmp .Eq (.v 8) (.i 1)) (.cons (.ret (.tup (.cons (.tup (.cons (.s "turned") (.cons (.v 4) .nil))) (.cons (.v 5) (.cons (.v 7) .nil))))) .nil) .nil) (.cons (.ifS (.bop .And (.cons (.cmp .Eq (.v 8) (.i 2)) (.cons (.cmp .Gt (.v 7) (.i 0)) (.cons (.cmp .Gt (.v 5) (.i 0)) (.cons (.cmp .Gt (.v 6) (.i 0)) .nil))))) (.cons (.set 9 (.tup (.cons (.s "then") (.cons (.tup (.cons (.v 4) (.cons (.tup (.cons (.s "beside") (.cons (.bin .Add (.bin .Mult (.tup (.cons (.tup (.cons (.s "wire") .nil)) .nil)) (.bin .Sub (.v 5) (.i 1))) (.tup (.cons (.tup (.cons (.s "lag") .nil)) .nil))) .nil))) .nil))) .nil)))) (.cons (.ret (.tup (.cons (.tup (.cons (.s "ring") (.cons (.v 9) .nil))) (.cons (.bin .Sub (.v 7) (.i 1)) (.cons (.bin .Sub (.v 5) (.i 1)) .nil))))) .nil)) .nil) (.cons (.ifS (.bop .And (.cons (.cmp .Eq (.v 8) (.i 3)) (.cons (.cmp .Gt (.v 5) (.i 0)) .nil))) (.cons (.set 10 (.bi .tuple (.cons (.comp [("_law_j", 12)] (.bi .tuple (.cons (.comp [("_law_k", 11)] (.call 0 (.cons (.v 0) (.cons (.i 97) .nil))) (.nm 11) (.rng1 (.v 5)) .nil) .nil)) (.nm 12) (.rng1 (.bin .Add (.i 1) (.call 0 (.cons (.v 0) (.cons (.v 1) .nil))))) .nil) .nil))) (.cons (.ret (.tup (.cons (.tup (.cons (.s "then") (.cons (.tup (.cons (.v 4) (.cons (.tup (.cons (.s "mix") (.cons (.v 10) .nil))) .nil))) .nil))) (.cons (.v 7) (.cons (.bi .len (.cons (.v 10) .nil)) .nil))))) .nil)) .nil) (.cons (.ret (.tup (.cons (.v 4) (.cons (.v 7) (.cons (.v 5) .nil))))) .nil)))))))))
def M__law_any_wiring : FnM := evF ⟨[M__law_pull, M__law_wiring], [], [], fun _ => none, fun _ _ => M.fail, []⟩ 3 13 b__law_any_wiring
theorem fn__law_any_wiring {g : Gm} [Hd g] : CallD g 6 "_law_any_wiring" M__law_any_wiring := fn_def (kf := 5) (nm := ⟨["_law_pull", "_law_wiring"], [], [], ["len", "tuple", "range"], [], [], none, []⟩) Hd.D__law_any_wiring sc__law_any_wiring (fun _ _ _ _ _ _ us hl => match us, hl with | [_, _, _], _ => rfl) (mkFx (kf := 5) (.cons fn__law_pull (by decide) (.cons fn__law_wiring (by decide) .nil)) .nil .nil (.cons Hd.B_len (.cons Hd.B_tuple (.cons Hd.B_range .nil))) .nil .nil (.inl ⟨rfl, rfl⟩) .nil) (by kernel_rfl) rfl rfl
def b__law_misfit : Sms := (.cons (.set 4 (.tup (.cons (.s "beside") (.cons (.bin .Mult (.tup (.cons (.tup (.cons (.s "wire") .nil)) .nil)) (.bin .Add (.v 3) (.i 1))) .nil)))) (.cons (.setN 5 (.lst (.cons (.tup (.cons (.s "then") (.cons (.tup (.cons (.v 1) (.cons (.v 4) .nil))) .nil))) (.cons (.tup (.cons (.s "then") (.cons (.tup (.cons (.v 4) (.cons (.tup (.cons (.s "beside") (.cons (.bin .Mult (.tup (.cons (.tup (.cons (.s "wire") .nil)) .nil)) (.v 3)) .nil))) .nil))) .nil))) (.cons (.tup (.cons (.s "ring") (.cons (.tup (.cons (.s "copy") (.cons (.i 0) .nil))) .nil))) .nil))))) (.cons (.setN 5 (.bin .Add (.v 5) (.lst (.cons (.tup (.cons (.s "ring") (.cons (.tup (.cons (.s "sum") (.cons (.i 0) .nil))) .nil))) (.cons (.tup (.cons (.s "beside") (.cons (.bin .Mult (.tup (.cons (.tup (.cons (.s "mix") (.cons (.tup (.cons (.bin .Mult (.tup (.cons (.i 1) .nil)) (.i 7)) .nil)) .nil))) .nil)) (.i 2)) .nil))) (.cons (.tup (.cons (.s "beside") (.cons (.bin .Mult (.tup (.cons (.tup (.cons (.s "copy") (.cons (.i 4) .nil))) .nil)) (.i 4)) .nil))) .nil)))))) (.cons (.ifS (.cmp .Gt (.v 2) (.i 0)) (.cons (.app 5 (.tup (.cons (.s "ring") (.cons (.ite (.cmp .Gt (.v 3) (.i 0)) (.tup (.cons (.s "then") (.cons (.tup (.cons (.v 1) (.cons (.tup (.cons (.s "beside") (.cons (.bin .Mult (.tup (.cons (.tup (.cons (.s "copy") (.cons (.i 0) .nil))) .nil)) (.v 3)) .nil))) .nil))) .nil))) (.v 1)) .nil)))) .nil) .nil) (.cons (.set 6 (.tup (.cons (.s "beside") (.cons (.tup (.cons (.tup (.cons (.s "copy") (.cons (.i 4) .nil))) (.cons (.tup (.cons (.s "copy") (.cons (.i 4) .nil))) (.cons (.tup (.cons (.s "copy") (.cons (.i 4) .nil))) (.cons (.tup (.cons (.s "wire") .nil)) .nil))))) .nil)))) (.cons (.set 7 (.tup (.cons (.s "beside") (.cons (.tup (.cons (.tup (.cons (.s "beside") (.cons (.bin .Mult (.tup (.cons (.tup (.cons (.s "copy") (.cons (.i 0) .nil))) .nil)) (.i 12)) .nil))) (.cons (.tup (.cons (.s "wire") .nil)) .nil))) .nil)))) (.cons (.ret (.call 0 (.cons (.v 0) (.cons (.bin .Add (.v 5) (.lst (.cons (.tup (.cons (.s "then") (.cons (.tup (.cons (.v 6) (.cons (.v 7) .nil))) .nil))) .nil))) .nil)))) .nil)))))))
def M__law_misfit : FnM := evF ⟨[M__law_of], [], [], fun _ => none, fun _ _ => M.fail, []⟩ 4 8 b__law_misfit
theorem fn__law_misfit {g : Gm} [Hd g] : CallD g 3 "_law_misfit" M__law_misfit := fn_def (kf := 2) (nm := ⟨["_law_of"], [], [], [], [], [], none, []⟩) Hd.D__law_misfit sc__law_misfit (fun _ _ _ _ _ _ us hl => match us, hl with | [_, _, _, _], _ => rfl) (mkFx (kf := 2) (.cons fn__law_of (by decide) .nil) .nil .nil .nil .nil .nil (.inl ⟨rfl, rfl⟩) .nil) (by kernel_rfl) rfl rfl
def b__law_same : Sms := (.cons (.ifS (.bop .Or (.cons (.cmp .Is (.v 1) (.non)) (.cons (.cmp .Is (.v 0) (.non)) .nil))) (.cons (.ret (.bop .And (.cons (.cmp .Is (.v 0) (.non)) (.cons (.cmp .Is (.v 1) (.non)) .nil)))) .nil) .nil) (.cons (.ifS (.bi (.isi2 .list .tuple) (.cons (.v 1) .nil)) (.cons (.ifS (.cmp .NotEq (.bi (.isi .list) (.cons (.v 0) .nil)) (.bi (.isi .list) (.cons (.v 1) .nil))) (.cons (.ret (.b false)) .nil) .nil) (.cons (.set 2 (.bop .And (.cons (.bi (.isi2 .list .tuple) (.cons (.v 0) .nil)) (.cons (.cmp .Eq (.bi .len (.cons (.v 0) .nil)) (.bi .len (.cons (.v 1) .nil))) .nil)))) (.cons (.ret (.bop .And (.cons (.v 2) (.cons (.bi .all (.cons (.comp [("_law_a", 3), ("_law_b", 4)] (.call 0 (.cons (.v 3) (.cons (.v 4) .nil))) (.tup [3, 4]) (.zip (.v 0) (.v 1)) .nil) .nil)) .nil)))) .nil))) .nil) (.cons (.ifS (.bop .Or (.cons (.cmp .NotEq (.bi (.isi .bool) (.cons (.v 0) .nil)) (.bi (.isi .bool) (.cons (.v 1) .nil))) (.cons (.cmp .NotEq (.bi (.isi .int) (.cons (.v 0) .nil)) (.bi (.isi .int) (.cons (.v 1) .nil))) .nil))) (.cons (.ret (.b false)) .nil) .nil) (.cons (.ret (.bop .And (.cons (.cmp .Eq (.bi (.isi .str) (.cons (.v 0) .nil)) (.bi (.isi .str) (.cons (.v 1) .nil))) (.cons (.cmp .Eq (.v 0) (.v 1)) .nil)))) .nil))))
def M__law_same : Nat → FnM
  | 0 => fun _ => M.fail
  | n + 1 => evF ⟨[(M__law_same n)], [], [], fun _ => none, fun _ _ => M.fail, []⟩ 2 5 b__law_same
theorem fn__law_same {g : Gm} [Hd g] : ∀ n : Nat, CallD g (1 + n) "_law_same" (M__law_same n)
  | 0 => (fn_fail Hd.D__law_same sc__law_same (fun _ _ _ _ _ _ us hl => match us, hl with | [_, _], _ => rfl)).up (by decide)
  | n + 1 => fn_def (kf := 1 + n) (nm := ⟨["_law_same"], [], [], ["isinstance", "str", "bool", "int", "list", "tuple", "all", "zip", "len"], [], [], none, []⟩) Hd.D__law_same sc__law_same (fun _ _ _ _ _ _ us hl => match us, hl with | [_, _], _ => rfl) (mkFx (kf := 1 + n) (.cons (fn__law_same n) (by omega) .nil) .nil .nil (.cons Hd.B_isinstance (.cons Hd.B_str (.cons Hd.B_bool (.cons Hd.B_int (.cons Hd.B_list (.cons Hd.B_tuple (.cons Hd.B_all (.cons Hd.B_zip (.cons Hd.B_len .nil))))))))) .nil .nil (.inl ⟨rfl, rfl⟩) .nil) (by kernel_rfl) rfl rfl
def b_law : Sms := (.cons (.forS (.nm 2) (.rng1 (.i 6)) (.cons (.unp [3, 4, 5] (.call 7 (.cons (.v 1) (.cons (.i 3) (.cons (.i 4) .nil))))) (.cons (.ifS (.cmp .Eq (.v 5) (.i 0)) (.cons (.parN [3, 4, 5] [false, false, false] (.cons (.tup (.cons (.s "beside") (.cons (.tup (.cons (.v 3) (.cons (.tup (.cons (.s "wire") .nil)) .nil))) .nil))) (.cons (.bin .Add (.v 4) (.i 1)) (.cons (.i 1) .nil)))) .nil) .nil) (.cons (.set 6 (.call 6 (.cons (.v 1) (.cons (.v 3) (.cons (.v 4) (.cons (.v 5) .nil)))))) (.cons (.forS (.nm 7) (.rng1 (.call 4 (.cons (.v 1) (.cons (.i 4) .nil)))) (.cons (.set 6 (.call 5 (.cons (.v 1) (.cons (.lst (.cons (.tup (.cons (.s "turned") (.cons (.v 6) .nil))) (.cons (.tup (.cons (.s "beside") (.cons (.tup (.cons (.tup (.cons (.s "wire") .nil)) (.cons (.v 6) .nil))) .nil))) (.cons (.tup (.cons (.s "then") (.cons (.tup (.cons (.v 6) .nil)) .nil))) (.cons (.tup (.cons (.s "beside") (.cons (.tup (.cons (.v 6) (.cons (.tup (.cons (.s "lag") .nil)) .nil))) .nil))) .nil))))) .nil)))) .nil)) (.cons (.setN 8 (.lst (.cons (.lam 0 (.call 0 (.cons (.v 6) .nil))) .nil))) (.cons (.app 8 (.lam 0 (.call 3 (.cons (.v 6) .nil)))) (.cons (.app 8 (.lam 0 (.call 2 (.cons (.v 6) .nil)))) (.frz 8 (.cons (.ifS (.cmp .NotEq (.acts 0 8 9) (.bin .Mult (.lst (.cons (.tup (.cons (.s "Unshaped") .nil)) .nil)) (.i 3))) (.cons (.ret (.b false)) .nil) .nil) (.cons (.set 10 (.tup (.cons (.s "then") (.cons (.tup (.cons (.v 3) (.cons (.tup (.cons (.s "beside") (.cons (.bin .Mult (.tup (.cons (.tup (.cons (.s "wire") .nil)) .nil)) (.v 5)) .nil))) .nil))) .nil)))) (.cons (.ifS (.not (.call 1 (.cons (.call 0 (.cons (.v 10) .nil)) (.cons (.tup (.cons (.v 4) (.cons (.v 5) .nil))) .nil)))) (.cons (.ret (.b false)) .nil) .nil) .nil)))))))))))) (.cons (.ret (.cmp .Eq (.call 0 (.cons (.tup (.cons (.s "beside") (.cons (.bin .Mult (.tup (.cons (.tup (.cons (.s "copy") (.cons (.i 4) .nil))) .nil)) (.i 3)) .nil))) .nil)) (.tup (.cons (.i 3) (.cons (.i 12) .nil))))) .nil))
def E_law0 : Ev := ⟨[M_shape, (M__law_same 3), M_lags, M_boxes, M__law_pull, M__law_of, M__law_misfit, M__law_any_wiring], [], [], trL ["BadTable", "BadSheet"] ["BadWiring", "Unshaped"], fun _ _ => M.fail, []⟩
def E_law : Ev := ⟨[M_shape, (M__law_same 3), M_lags, M_boxes, M__law_pull, M__law_of, M__law_misfit, M__law_any_wiring], [], [], trL ["BadTable", "BadSheet"] ["BadWiring", "Unshaped"], fun t ρ => evX E_law0 ρ t, []⟩
def lawK : Nat := 27
def lamQ : Str := "law.<locals>.<lambda>"
def LawRuns : Prop := ∀ (ns : List Int) (salt : Int), ns.length ≤ 63 → 0 ≤ salt → salt < 2147483563 → (evSs E_law (.un :: .dat (.hd 0) :: List.replicate 9 .un) b_law [bagC ns 0 0 salt 0]).sat (fun o _ => o = .rt (.dat (.bool true))) NoXK
theorem ok_law {g : Gm} [Hd g] {f c P : Addr} {fd : FuncData} (hrun : LawRuns) (F : FunD g.K "law" "law" (defArgs s_law) (defBody s_law) (defScope s_law) [] [] f fd) (hT : g.T = [(P, lamQ)]) (hc : fd.code = .ref c) (TB : LamX.TabB g.base g.mg c P) :
    FnOk g.P g.w g.K g.mg g.base (L2.CX g.P g.w) (lawK + 1) f fd ["_law_script"] (spLaw g) := by
  exact law_ok (lam := (some (c, P, lamQ))) (act := some 0) (LP := LPof ⟨["shape", "_law_same", "lags", "boxes", "_law_pull", "_law_of", "_law_misfit", "_law_any_wiring"], [], [], ["range"], [], [], (some 0), []⟩ ["_law_script", "_law_bag_here", "_law_again", "_law_wiring_here", "_law_left", "_law_right", "_law_bad", "_law_k", "_law_acts", "_law_act", "_law_good"] (defScope s_law)) (N := ["_law_again", "_law_wiring_here", "_law_left", "_law_right", "_law_bad", "_law_k", "_law_acts", "_law_act", "_law_good"]) (kf := 25) (nm := ⟨["shape", "_law_same", "lags", "boxes", "_law_pull", "_law_of", "_law_misfit", "_law_any_wiring"], [], [], ["range"], [], [], (some 0), []⟩) (E := E_law) (b := b_law) F sc_law (fun c' P' q e => by
      cases e
      exact ⟨hc, TB, rfl⟩) bag_fn (by decide) rfl rfl rfl
    (mkFx (kf := 25) (.cons fn_shape (by decide) (.cons (fn__law_same 3) (by decide) (.cons fn_lags (by decide) (.cons fn_boxes (by decide) (.cons fn__law_pull (by decide) (.cons fn__law_of (by decide) (.cons fn__law_misfit (by decide) (.cons fn__law_any_wiring (by decide) .nil)))))))) .nil .nil (.cons Hd.B_range .nil) .nil .nil (.inl ⟨rfl, rfl⟩) .nil) ⟨(show 25 ≤ lawK by decide), fun c P q e => by
      cases e
      exact ⟨(show 25 + 2 ≤ lawK by decide), by rw [hT]; exact List.mem_singleton.mpr rfl, fun p hp _ => by rw [hT] at hp; rw [List.mem_singleton.mp hp], Hd.tried, trL_ok (.cons Hd.K_BadTable (.cons Hd.K_BadSheet .nil)) (.cons Hd.K_BadWiring (.cons Hd.K_Unshaped .nil))⟩, gok_act (E0 := E_law0) rfl rfl (mkFx (kf := 25) (.cons fn_shape (by decide) (.cons (fn__law_same 3) (by decide) (.cons fn_lags (by decide) (.cons fn_boxes (by decide) (.cons fn__law_pull (by decide) (.cons fn__law_of (by decide) (.cons fn__law_misfit (by decide) (.cons fn__law_any_wiring (by decide) .nil)))))))) .nil .nil (.cons Hd.B_range .nil) .nil .nil (.inl ⟨rfl, rfl⟩) .nil)⟩ (by kernel_rfl) hrun
theorem bind_at {α β : Type} {m : M α} {f : α → M β} {κ : Ks} : M.bind m f κ = match m κ with | .ok a κ' => f a κ' | .exc x κ' => .exc x κ' | .stuck => .stuck := rfl
theorem rd_at {α : Type} {f : Ks → Option α} {κ : Ks} : M.rd f κ = match f κ with | some a => .ok a κ | none => .stuck := rfl
theorem ret_at {α : Type} {a : α} {κ : Ks} : M.ret a κ = .ok a κ := rfl
theorem ite_at {α : Type} {c : Prop} [Decidable c] {m m' : M α} {κ : Ks} : (if c then m else m') κ = if c then m κ else m' κ := by split <;> rfl
theorem bagI {ns : List Int} {i j s t : Int} {R : Ks} :
    itemS (bagC ns i j s t :: R) (.hd 0) (.int 0) = some (.list (ns.map .int))
    ∧ itemS (bagC ns i j s t :: R) (.hd 0) (.int 1) = some (.int i)
    ∧ itemS (bagC ns i j s t :: R) (.hd 0) (.int 2) = some (.int j)
    ∧ itemS (bagC ns i j s t :: R) (.hd 0) (.int 3) = some (.int s)
    ∧ itemS (bagC ns i j s t :: R) (.hd 0) (.int 4) = some (.int t) := ⟨rfl, rfl, rfl, rfl, rfl⟩
theorem bagP {ns : List Int} {i j s t v : Int} {R : Ks} {ρ : List En} :
    putH ρ 0 (.int 1) (.int v) (bagC ns i j s t :: R) = .ok (.nx ρ) (bagC ns v j s t :: R)
    ∧ putH ρ 0 (.int 2) (.int v) (bagC ns i j s t :: R) = .ok (.nx ρ) (bagC ns i v s t :: R)
    ∧ putH ρ 0 (.int 3) (.int v) (bagC ns i j s t :: R) = .ok (.nx ρ) (bagC ns i j v t :: R)
    ∧ putH ρ 0 (.int 4) (.int v) (bagC ns i j s t :: R) = .ok (.nx ρ) (bagC ns i j s v :: R) := ⟨rfl, rfl, rfl, rfl⟩
def dropS : Nat → Sms → Sms
  | n + 1, .cons _ es => dropS n es
  | _, es => es
def hdS : Sms → Sm
  | .cons a _ => a
  | _ => .pass
theorem evSs_cons {E : Ev} {ρ : List En} {a : Sm} {es : Sms} : evSs E ρ (.cons a es) = .bind (evS E ρ a) fun o => match o with | .nx ρ' => evSs E ρ' es | o => .ret o := rfl
theorem mulC {j : Int} (h : -(2 ^ 64) < j ∧ j < 2 ^ 64) (κ : Ks) (z : Int) : opB .Mult κ (.int z) (.int j) = some (.dat (.int (z * j))) := opB_mulI (cmulR h.1 h.2)
def PullOk (R : Ks) (n : Int) (r : Res Out) : Prop := ∃ i κ', r = .ok (.rt (.dat (.int i))) κ' ∧ BagOk κ' R ∧ 0 ≤ i ∧ i < n
abbrev E0 : Ev := ⟨[], [], [], fun _ => none, fun _ _ => M.fail, []⟩
section
variable {n : Int} {R : Ks} {ns : List Int} {i j s t : Int}
theorem pull_t3 (n0 : 0 < n) (z2 z3 : En) (hl : ns.length ≤ 63) (i0 : 0 ≤ i) (i1 : i ≤ ns.length) (j0 : 0 ≤ j) (s0 : 0 ≤ s) (s1 : s < 2147483563) (t0 : 0 ≤ t) : PullOk R n (evSs E0 [.dat (.hd 0), .dat (.int n), z2, z3, .un, .un] (dropS 3 b__law_pull) (bagC ns i j s t :: R)) := by
  simp only [dropS, b__law_pull]
  simp only [Nat.reduceAdd, Nat.reduceSub, Nat.zero_add, Nat.reduceEqDiff, EV1, EV2, EV3, EV4, EV5, EV6, rdS, rdI, argS, slotR, tgPut, wipeE, frzS, cmpI, decide_eq_true_eq, Bool.not_true, Bool.not_false, Option.map_some, Option.map_none, List.map_cons, List.map_nil, List.zip_cons_cons, List.zip_nil_right, List.zip_nil_left, List.foldl_cons, List.foldl_nil, if_true, if_false, bind_pure', Bool.and_true, Bool.or_false, Bool.and_false, Bool.or_true, Bool.true_and, Bool.false_and, Bool.true_or, Bool.false_or, if_neg Bool.false_ne_true, bind_at, rd_at, bagI, bagP, opB_mulI (show cMul s s = true from cmulL (by omega) (by omega)), opB_modI (show (0 : Int) < 2147483629 by decide), mulC (show -(2 ^ 64) < (16807 : Int) ∧ (16807 : Int) < 2 ^ 64 by decide), mulC (show -(2 ^ 64) < (48271 : Int) ∧ (48271 : Int) < 2 ^ 64 by decide)]
  generalize s * s % 2147483629 * 16807 + s * 48271 = w
  simp only [Nat.reduceAdd, Nat.reduceSub, Nat.zero_add, Nat.reduceEqDiff, EV1, EV2, EV3, EV4, EV5, EV6, rdS, rdI, argS, slotR, tgPut, wipeE, frzS, cmpI, decide_eq_true_eq, Bool.not_true, Bool.not_false, Option.map_some, Option.map_none, List.map_cons, List.map_nil, List.zip_cons_cons, List.zip_nil_right, List.zip_nil_left, List.foldl_cons, List.foldl_nil, if_true, if_false, bind_pure', Bool.and_true, Bool.or_false, Bool.and_false, Bool.or_true, Bool.true_and, Bool.false_and, Bool.true_or, Bool.false_or, if_neg Bool.false_ne_true, bind_at, rd_at, bagI, bagP, opB_modI (show (0 : Int) < 2147483563 by decide)]
  have hs2 : 0 ≤ (w + 40692 + t) % 2147483563 ∧ (w + 40692 + t) % 2147483563 < 2147483563 := ⟨Int.emod_nonneg _ (by decide), Int.emod_lt_of_pos _ (by decide)⟩
  generalize (w + 40692 + t) % 2147483563 = v at hs2
  simp only [Nat.reduceAdd, Nat.reduceSub, Nat.zero_add, Nat.reduceEqDiff, EV1, EV2, EV3, EV4, EV5, EV6, rdS, rdI, argS, slotR, tgPut, wipeE, frzS, cmpI, decide_eq_true_eq, Bool.not_true, Bool.not_false, Option.map_some, Option.map_none, List.map_cons, List.map_nil, List.zip_cons_cons, List.zip_nil_right, List.zip_nil_left, List.foldl_cons, List.foldl_nil, if_true, if_false, bind_pure', Bool.and_true, Bool.or_false, Bool.and_false, Bool.or_true, Bool.true_and, Bool.false_and, Bool.true_or, Bool.false_or, if_neg Bool.false_ne_true, bind_at, rd_at, bagI, bagP, opB_modI (show (0 : Int) < 7919 by decide), opB_divI (show cDiv v 89 = true by unfold cDiv; decide), mulC (show -(2 ^ 64) < (31 : Int) ∧ (31 : Int) < 2 ^ 64 by decide), opB_mulI (show cMul v t = true from cmulL (by omega) (by omega)), mulC (show -(2 ^ 64) < (2147483629 : Int) ∧ (2147483629 : Int) < 2 ^ 64 by decide), opB_modI n0]
  exact ⟨_, _, rfl, ⟨ns, i, j, v, t, rfl, hl, i0, i1, j0, hs2.1, hs2.2, t0⟩, Int.emod_nonneg _ (by omega), Int.emod_lt_of_pos _ n0⟩
theorem pull_t2 (n0 : 0 < n) (n1 : n < 2 ^ 80) (z2 : En) (hl : ns.length ≤ 63) (i0 : 0 ≤ i) (i1 : i ≤ ns.length) (j0 : 0 ≤ j) (s0 : 0 ≤ s) (s1 : s < 2147483563) (t0 : 0 ≤ t) : PullOk R n (evSs E0 [.dat (.hd 0), .dat (.int n), z2, .un, .un, .un] (dropS 2 b__law_pull) (bagC ns i j s t :: R)) := by
  have h3 := pull_t3 (R := R) n0 z2 .un hl i0 i1 j0 s0 s1 t0
  rw [show dropS 2 b__law_pull = .cons (hdS (dropS 2 b__law_pull)) (dropS 3 b__law_pull) from rfl, evSs_cons, bind_at]
  generalize dropS 3 b__law_pull = T at h3 ⊢
  simp only [dropS, hdS, b__law_pull]
  by_cases hj : 0 < j
  · have hd : cDiv j n = true := by
      unfold cDiv
      rw [decide_eq_true n0, decide_eq_true (Int.lt_trans n1 (by decide))]
      rfl
    simp only [Nat.reduceAdd, Nat.reduceSub, Nat.zero_add, Nat.reduceEqDiff, EV1, EV2, EV3, EV4, EV5, EV6, rdS, rdI, argS, slotR, tgPut, wipeE, frzS, cmpI, decide_eq_true_eq, Bool.not_true, Bool.not_false, Option.map_some, Option.map_none, List.map_cons, List.map_nil, List.zip_cons_cons, List.zip_nil_right, List.zip_nil_left, List.foldl_cons, List.foldl_nil, if_true, if_false, bind_pure', Bool.and_true, Bool.or_false, Bool.and_false, Bool.or_true, Bool.true_and, Bool.false_and, Bool.true_or, Bool.false_or, if_neg Bool.false_ne_true, bind_at, rd_at, bagI, bagP, ite_at, hj, opB_modI n0, opB_divI hd]
    exact ⟨_, _, rfl, ⟨ns, i, j / n, s, t, rfl, hl, i0, i1, Int.ediv_nonneg j0 (by omega), s0, s1, t0⟩, Int.emod_nonneg _ (by omega), Int.emod_lt_of_pos _ n0⟩
  · simp only [Nat.reduceAdd, Nat.reduceSub, Nat.zero_add, Nat.reduceEqDiff, EV1, EV2, EV3, EV4, EV5, EV6, rdS, rdI, argS, slotR, tgPut, wipeE, frzS, cmpI, decide_eq_true_eq, Bool.not_true, Bool.not_false, Option.map_some, Option.map_none, List.map_cons, List.map_nil, List.zip_cons_cons, List.zip_nil_right, List.zip_nil_left, List.foldl_cons, List.foldl_nil, if_true, if_false, bind_pure', Bool.and_true, Bool.or_false, Bool.and_false, Bool.or_true, Bool.true_and, Bool.false_and, Bool.true_or, Bool.false_or, if_neg Bool.false_ne_true, bind_at, rd_at, bagI, ite_at, hj]
    exact h3
theorem m_pull (n0 : 0 < n) (n1 : n < 2 ^ 80) : Dr (M__law_pull [.dat (.hd 0), .dat (.int n)]) (fun r => ∃ i, r = .dat (.int i) ∧ 0 ≤ i ∧ i < n) := by
  intro R κ hb
  obtain ⟨ns, i, j, s, t, rfl, hl, i0, i1, j0, s0, s1, t0⟩ := hb
  suffices h : PullOk R n (evSs E0 [.dat (.hd 0), .dat (.int n), .un, .un, .un, .un] b__law_pull (bagC ns i j s t :: R)) by
    obtain ⟨r, κ', e, h1, h2, h3⟩ := h
    refine ⟨.dat (.int r), κ', ?_, h1, r, rfl, h2, h3⟩
    show M.bind (evSs E0 [.dat (.hd 0), .dat (.int n), .un, .un, .un, .un] b__law_pull) _ _ = _
    rw [bind_at, e]
  have h2 := fun z2 (i' j' s' : Int) a b c d e => pull_t2 (R := R) (ns := ns) (i := i') (j := j') (s := s') (t := t + 1) n0 n1 z2 hl a b c d e (by omega)
  rw [show b__law_pull = .cons (hdS b__law_pull) (.cons (hdS (dropS 1 b__law_pull)) (dropS 2 b__law_pull)) from rfl, evSs_cons, bind_at]
  generalize dropS 2 b__law_pull = T at h2 ⊢
  simp only [dropS, hdS, b__law_pull]
  rw [show evS E0 [.dat (.hd 0), .dat (.int n), .un, .un, .un, .un] (.put 0 (.i 4) (.bin .Add (.ix (.v 0) (.i 4)) (.i 1))) (bagC ns i j s t :: R) = .ok (.nx [.dat (.hd 0), .dat (.int n), .un, .un, .un, .un]) (bagC ns i j s (t + 1) :: R) from rfl]
  dsimp only
  rw [evSs_cons, bind_at]
  obtain ⟨i, rfl⟩ : ∃ k : Nat, i = k := ⟨i.toNat, by omega⟩
  by_cases hj : j = 0
  · by_cases hi : (i : Int) < (ns.length : Int)
    · have hin : i < ns.length := by omega
      have eA : atI (ns.map D.int) (i : Int) = some (.int ns[i]) := by
        rw [atI_nat' (by rw [List.length_map]; omega), List.getElem_map]
      generalize ns[i] = cell at eA
      have eP : ∀ κ, opB .Pow κ (.int 10) (.int 18) = some (.dat (.int (10 ^ 18))) := fun _ => rfl
      by_cases hc : (10 ^ 18 : Int) ≤ cell
      · simp only [Nat.reduceAdd, Nat.reduceSub, Nat.zero_add, Nat.reduceEqDiff, EV1, EV2, EV3, EV4, EV5, EV6, rdS, rdI, argS, slotR, tgPut, wipeE, frzS, cmpI, decide_eq_true_eq, Bool.not_true, Bool.not_false, Option.map_some, Option.map_none, List.map_cons, List.map_nil, List.zip_cons_cons, List.zip_nil_right, List.zip_nil_left, List.foldl_cons, List.foldl_nil, if_true, if_false, bind_pure', Bool.and_true, Bool.or_false, Bool.and_false, Bool.or_true, Bool.true_and, Bool.false_and, Bool.true_or, Bool.false_or, if_neg Bool.false_ne_true, bind_at, rd_at, bagI, bagP, ite_at, hj, hi, List.length_map, decide_true, eA, eP, hc]
        exact h2 _ (i + 1) cell s (by omega) (by omega) (Int.le_trans (by decide) hc) s0 s1
      · simp only [Nat.reduceAdd, Nat.reduceSub, Nat.zero_add, Nat.reduceEqDiff, EV1, EV2, EV3, EV4, EV5, EV6, rdS, rdI, argS, slotR, tgPut, wipeE, frzS, cmpI, decide_eq_true_eq, Bool.not_true, Bool.not_false, Option.map_some, Option.map_none, List.map_cons, List.map_nil, List.zip_cons_cons, List.zip_nil_right, List.zip_nil_left, List.foldl_cons, List.foldl_nil, if_true, if_false, bind_pure', Bool.and_true, Bool.or_false, Bool.and_false, Bool.or_true, Bool.true_and, Bool.false_and, Bool.true_or, Bool.false_or, if_neg Bool.false_ne_true, bind_at, rd_at, bagI, bagP, ite_at, hj, hi, List.length_map, decide_true, eA, eP, hc, mulC (show -(2 ^ 64) < (69069 : Int) ∧ (69069 : Int) < 2 ^ 64 by decide), mulC (show -(2 ^ 64) < (40503 : Int) ∧ (40503 : Int) < 2 ^ 64 by decide), opB_modI (show (0 : Int) < 2147483629 by decide), opB_modI (show (0 : Int) < 2147483563 by decide)]
        exact h2 _ (i + 1) 0 _ (by omega) (by omega) (Int.le_refl 0) (Int.emod_nonneg _ (by decide)) (Int.emod_lt_of_pos _ (by decide))
    · simp only [Nat.reduceAdd, Nat.reduceSub, Nat.zero_add, Nat.reduceEqDiff, EV1, EV2, EV3, EV4, EV5, EV6, rdS, rdI, argS, slotR, tgPut, wipeE, frzS, cmpI, decide_eq_true_eq, Bool.not_true, Bool.not_false, Option.map_some, Option.map_none, List.map_cons, List.map_nil, List.zip_cons_cons, List.zip_nil_right, List.zip_nil_left, List.foldl_cons, List.foldl_nil, if_true, if_false, bind_pure', Bool.and_true, Bool.or_false, Bool.and_false, Bool.or_true, Bool.true_and, Bool.false_and, Bool.true_or, Bool.false_or, if_neg Bool.false_ne_true, bind_at, rd_at, bagI, bagP, ite_at, hj, hi, List.length_map, decide_true, decide_false]
      exact h2 _ _ _ _ i0 i1 (Int.le_refl 0) s0 s1
  · simp only [Nat.reduceAdd, Nat.reduceSub, Nat.zero_add, Nat.reduceEqDiff, EV1, EV2, EV3, EV4, EV5, EV6, rdS, rdI, argS, slotR, tgPut, wipeE, frzS, cmpI, decide_eq_true_eq, Bool.not_true, Bool.not_false, Option.map_some, Option.map_none, List.map_cons, List.map_nil, List.zip_cons_cons, List.zip_nil_right, List.zip_nil_left, List.foldl_cons, List.foldl_nil, if_true, if_false, bind_pure', Bool.and_true, Bool.or_false, Bool.and_false, Bool.or_true, Bool.true_and, Bool.false_and, Bool.true_or, Bool.false_or, if_neg Bool.false_ne_true, bind_at, rd_at, bagI, bagP, ite_at, hj, decide_false]
    exact h2 _ _ _ _ i0 i1 j0 s0 s1
end

/-! ### what is no wiring: the parts of a thing -/
def resO : Option (List D) → Rs
  | none => .dat .none
  | some ps => .new (.lst ps)
def PO (d : D) (o : Option (List D)) : Prop := M_parts_of [.dat d] = M.ret (resO o)
theorem po_turned (d : D) : PO (.tuple [.str "turned", d]) (some [d]) := by
  unfold PO
  funext κ
  first | rfl | kernel_rfl
theorem po_ring (d : D) : PO (.tuple [.str "ring", d]) (some [d]) := by
  unfold PO
  funext κ
  first | rfl | kernel_rfl
theorem po_wire : PO (.tuple [.str "wire"]) (some []) := by
  unfold PO
  funext κ
  first | rfl | kernel_rfl
theorem po_str (z : Str) : PO (.str z) none := by
  unfold PO
  funext κ
  first | rfl | kernel_rfl
theorem po_int (z : Int) : PO (.int z) none := by
  unfold PO
  funext κ
  first | rfl | kernel_rfl
theorem po_odd : PO (.tuple [.str "mix", .tuple [.tuple [.int 1, .int 2], .tuple [.int 3]]]) none := by
  unfold PO
  funext κ
  first | rfl | kernel_rfl
theorem po_use : PO (.tuple [.str "use", .str "mill"]) (some []) := by
  unfold PO
  funext κ
  first | rfl | kernel_rfl
theorem po_sh : PO (.tuple [.str "shuffle", .tuple [.int 1, .int 0]]) (some []) := by
  unfold PO
  funext κ
  first | rfl | kernel_rfl

/-! ### things whose parts are told -/
def BoxF (d : D) : Prop := ∃ (w : Str) (r : List D), d = .tuple (.str w :: r) ∧ PyData.strOk w = true ∧ (w = "use" → ∃ z, r = [.str z] ∧ PyData.strOk z = true)
mutual
inductive Tr : Nat → Nat → D → Prop
  | no {n s : Nat} {d : D} : PO d none → dOk d = true → dDep d ≤ n → Tr n (s + 1) d
  | yes {n s : Nat} {d : D} {ps : List D} : PO d (some ps) → dOk d = true → dDep d ≤ n → (ps = [] → BoxF d) → TrL n s ps → Tr n (s + 1) d
inductive TrL : Nat → Nat → List D → Prop
  | nil {n s : Nat} : TrL n s []
  | cons {n a b : Nat} {d : D} {ds : List D} : Tr n a d → TrL n b ds → TrL n (a + b) (d :: ds)
end
inductive Bd : D → Nat → Prop
  | no {d : D} {k : Nat} : PO d none → Bd d k
  | deep {d : D} {k : Nat} : 16 < k → Bd d k
  | sub {d p : D} {ps : List D} {k : Nat} : PO d (some ps) → p ∈ ps → Bd p (k + 1) → Bd d k
  | use {d z : D} {k : Nat} : PO d (some []) → d = .tuple [.str "use", z] → Bd d k
theorem po_uniq {d : D} {o o' : Option (List D)} (h : PO d o) (h' : PO d o') : o = o' := by
  have e : M.ret (resO o) = M.ret (resO o') := h.symm.trans h'
  have e2 := congrFun e []
  injection e2 with e3 _
  cases o with
  | none =>
    cases o' with
    | none => rfl
    | some _ => cases e3
  | some ps =>
    cases o' with
    | none => cases e3
    | some qs => cases e3; rfl
theorem Tr.ok {n s : Nat} {d : D} (h : Tr n s d) : dOk d = true ∧ dDep d ≤ n := by
  cases h with
  | no _ h1 h2 => exact ⟨h1, h2⟩
  | yes _ h1 h2 _ _ => exact ⟨h1, h2⟩
theorem Tr.pos {n s : Nat} {d : D} (h : Tr n s d) : 0 < s := by
  cases h with
  | no _ _ _ => exact Nat.succ_pos _
  | yes _ _ _ _ _ => exact Nat.succ_pos _
theorem TrL.len {n : Nat} : ∀ {ds : List D} {s : Nat}, TrL n s ds → ds.length ≤ s
  | _, _, .nil => Nat.zero_le _
  | _, _, .cons h r => by
    have h1 := h.pos
    have h2 := r.len
    rw [List.length_cons]
    omega
mutual
theorem Tr.up {n : Nat} (c : Nat) : ∀ {d : D} {s : Nat}, Tr n s d → Tr n (s + c) d
  | _, _, .no (s := s) p q r => by
    rw [Nat.add_right_comm]
    exact .no p q r
  | _, _, .yes (s := s) p q r t u => by
    rw [Nat.add_right_comm]
    exact .yes p q r t (TrL.up c u)
theorem TrL.up {n : Nat} (c : Nat) : ∀ {ds : List D} {s : Nat}, TrL n s ds → TrL n (s + c) ds
  | _, _, .nil => .nil
  | _, _, .cons h r => by
    rw [Nat.add_assoc]
    exact .cons h (TrL.up c r)
end
theorem Tr.le {n s t : Nat} {d : D} (h : Tr n s d) (e : s ≤ t) : Tr n t d := by
  have := h.up (t - s)
  rwa [Nat.add_sub_cancel' e] at this
theorem TrL.le {n s t : Nat} {d : List D} (h : TrL n s d) (e : s ≤ t) : TrL n t d := by
  have := h.up (t - s)
  rwa [Nat.add_sub_cancel' e] at this
theorem TrL.app {n : Nat} : ∀ {xs ys : List D} {a b : Nat}, TrL n a xs → TrL n b ys → TrL n (a + b) (xs ++ ys)
  | _, _, a, b, .nil, h => by
    rw [List.nil_append, Nat.add_comm]
    exact h.up a
  | _, _, _, _, .cons h1 h2, h => by
    rw [List.cons_append, Nat.add_assoc]
    exact .cons h1 (h2.app h)
theorem TrL.split {n : Nat} : ∀ {xs ys : List D} {s : Nat}, TrL n s (xs ++ ys) → ∃ a b, a + b = s ∧ TrL n a xs ∧ TrL n b ys
  | [], ys, s, h => ⟨0, s, Nat.zero_add _, .nil, h⟩
  | x :: xs, ys, s, h => by
    cases h with
    | @cons a b _ _ h1 h2 =>
      obtain ⟨i, j, e, h3, h4⟩ := TrL.split h2
      exact ⟨a + i, j, by omega, .cons h1 h3, h4⟩
theorem TrL.rev {n : Nat} : ∀ {xs : List D} {s : Nat}, TrL n s xs → TrL n s xs.reverse
  | _, _, .nil => .nil
  | _, _, .cons (a := a) (b := b) h r => by
    rw [List.reverse_cons, Nat.add_comm]
    have h1 : TrL n (a + 0) [_] := .cons h (.nil (s := 0))
    exact r.rev.app h1
theorem TrL.all {n : Nat} : ∀ {xs : List D} {s : Nat}, TrL n s xs → ∀ x ∈ xs, dOk x = true ∧ dDep x ≤ n
  | _, _, .nil, x, h => by cases h
  | _, _, .cons h r, x, hx => by
    rcases List.mem_cons.mp hx with rfl | hx
    · exact h.ok
    · exact r.all x hx
theorem dOks_of : ∀ {ds : List D}, (∀ d ∈ ds, dOk d = true) → dOks ds = true
  | [], _ => rfl
  | d :: ds, h => by
    show (dOk d && dOks ds) = true
    rw [h d (List.mem_cons_self ..), dOks_of fun x hx => h x (List.mem_cons_of_mem _ hx)]
    rfl
theorem dDeps_of {n : Nat} : ∀ {ds : List D}, (∀ d ∈ ds, dDep d ≤ n) → dDeps ds ≤ n
  | [], _ => Nat.zero_le _
  | d :: ds, h => by
    show max (dDep d) (dDeps ds) ≤ n
    have h1 := h d (List.mem_cons_self ..)
    have h2 := dDeps_of fun x hx => h x (List.mem_cons_of_mem _ hx)
    omega
/-! ### the walk over the leaves -/
def encW (q : D × Nat) : D := .tuple [q.1, .int q.2]
def isUse (x : D) : Prop := ∃ z, x = .tuple [.str "use", .str z] ∧ PyData.strOk z = true
def FnOkL (n : Nat) (fs : List D) : Prop := ∀ x ∈ fs, BoxF x ∧ dOk x = true ∧ dDep x ≤ n
theorem whL_out {c : List En → M Bool} {b : List En → M Out} (Inv : Nat → List En → Prop) (P : Out → Prop) (hs : ∀ n ρ, Inv n ρ → (c ρ = M.ret false ∧ P (.nx ρ)) ∨ (c ρ = M.ret true ∧ ((∃ r, b ρ = M.ret (.rt r) ∧ P (.rt r)) ∨ ∃ ρ' n', b ρ = M.ret (.nx ρ') ∧ n' < n ∧ Inv n' ρ'))) : ∀ (N n : Nat) (ρ : List En), n < N → Inv n ρ → ∃ o, whL c b N ρ = M.ret o ∧ P o
  | 0, n, ρ, h, _ => absurd h (Nat.not_lt_zero _)
  | N + 1, n, ρ, h, hI => by
    rw [whL]
    rcases hs n ρ hI with ⟨h1, h2⟩ | ⟨h1, ⟨r, h2, h3⟩ | ⟨ρ', n', h2, h3, h4⟩⟩
    · rw [h1]
      exact ⟨_, rfl, h2⟩
    · rw [h1]
      refine ⟨.rt r, ?_, h3⟩
      rw [bind_ret, if_pos rfl, h2]
      rfl
    · rw [h1]
      obtain ⟨o, e, hp⟩ := whL_out Inv P hs N n' ρ' (by omega) h4
      refine ⟨o, ?_, hp⟩
      rw [bind_ret, if_pos rfl, h2, bind_ret]
      exact e

def bodyW : Sm → Sms
  | .whS _ b => b
  | _ => .nil
def condW : Sm → Ex
  | .whS c _ => c
  | _ => .non
def nthS : Nat → Sms → Sm
  | 0, .cons a _ => a
  | n + 1, .cons _ r => nthS n r
  | n, .frz _ r => nthS n r
  | _, .nil => .gap
def E_lv : Ev := ⟨[M_parts_of], [], [(.int 60), (.int 8), (.int 16)], fun _ => none, fun _ _ => M.fail, []⟩
def LvP (n : Nat) (d0 : D) : Out → Prop
  | .nx ρ => ∃ ws fs z3 z4 z5, ρ = [.dat d0, .own (.lst ws), .own (.lst fs), z3, z4, z5, .un, .un, .un] ∧ FnOkL n fs ∧ fs.length ≤ 61 ∧ ((∃ x ∈ fs, isUse x) ∨ 60 < fs.length)
  | .rt r => r = .dat .none
  | _ => False
def LvI (n : Nat) (d0 : D) (s : Nat) (ρ : List En) : Prop := ∃ (wl : List (D × Nat)) (fs : List D) (z3 z4 z5 : En), ρ = [.dat d0, .own (.lst (wl.map encW)), .own (.lst fs), z3, z4, z5, .un, .un, .un] ∧ TrL n s (wl.map (·.1)) ∧ FnOkL n fs ∧ fs.length ≤ 61 ∧ ((∃ q ∈ wl, Bd q.1 q.2) ∨ ∃ x ∈ fs, isUse x)
theorem enc_ok {n s : Nat} {wl : List (D × Nat)} (h : TrL n s (wl.map (·.1))) : dOk (.list (wl.map encW)) = true ∧ dDep (.list (wl.map encW)) ≤ n + 2 := by
  have ha := h.all
  constructor
  · show dOks _ = true
    refine dOks_of fun d hd => ?_
    obtain ⟨q, hq, rfl⟩ := List.mem_map.mp hd
    have := (ha q.1 (List.mem_map.mpr ⟨q, hq, rfl⟩)).1
    show (dOk q.1 && (dOk (.int q.2) && true)) = true
    rw [this]
    rfl
  · show dDeps _ + 1 ≤ n + 2
    have : dDeps (wl.map encW) ≤ n + 1 := dDeps_of fun d hd => by
      obtain ⟨q, hq, rfl⟩ := List.mem_map.mp hd
      have := (ha q.1 (List.mem_map.mpr ⟨q, hq, rfl⟩)).2
      show dDeps [q.1, .int q.2] + 1 ≤ n + 1
      have e : dDeps [q.1, .int q.2] = max (dDep q.1) (max 0 0) := rfl
      rw [e]
      omega
    omega
theorem lv_cond {n s : Nat} {d0 : D} {wl : List (D × Nat)} {fs : List D} {z3 z4 z5 : En} (hn : n ≤ 60) (h : TrL n s (wl.map (·.1))) : whC E_lv (condW (nthS 2 b_leaves)) [.dat d0, .own (.lst (wl.map encW)), .own (.lst fs), z3, z4, z5, .un, .un, .un] = M.ret (decide (wl ≠ []) && decide (fs.length ≤ 60)) := by
  obtain ⟨h1, h2⟩ := enc_ok h
  unfold whC
  simp only [condW, nthS, b_leaves, E_lv]
  have e : ∀ κ, cmpD .NotEq κ (.list (wl.map encW)) (.list []) = some (decide (wl ≠ [])) := fun κ => by
    cases wl with
    | nil => exact (cmp_ne_self (x := .list []) rfl (by decide)).trans (by simp)
    | cons q wl =>
      rw [cmp_ne_ne h1 (show dOk (.list []) = true from rfl) (by omega) (show dDep (.list []) ≤ 64 by decide) (by simp)]
      simp
  simp only [Nat.reduceAdd, Nat.reduceSub, Nat.zero_add, Nat.reduceEqDiff, EV1, EV2, EV3, EV4, EV5, EV6, rdS, rdI, argS, slotR, tgPut, wipeE, frzS, cmpI, decide_eq_true_eq, Bool.not_true, Bool.not_false, Option.map_some, Option.map_none, List.map_cons, List.map_nil, List.zip_cons_cons, List.zip_nil_right, List.zip_nil_left, List.foldl_cons, List.foldl_nil, if_true, if_false, bind_pure', Bool.and_true, Bool.or_false, Bool.and_false, Bool.or_true, Bool.true_and, Bool.false_and, Bool.true_or, Bool.false_or, if_neg Bool.false_ne_true, e]
  first | done | skip
  have e2 : ((fs.length : Int) ≤ 60) = (fs.length ≤ 60) := by
    apply propext
    omega
  cases hw : decide (wl ≠ []) <;> simp [e2]
  all_goals rfl

theorem cmp_nil {n s : Nat} {ps : List D} (hn : n ≤ 60) (h : TrL n s ps) : ∀ κ, cmpD .Eq κ (.list ps) (.list []) = some (decide (ps = [])) := fun κ => by
  have ha := h.all
  have h1 : dOk (.list ps) = true := dOks_of fun d hd => (ha d hd).1
  have h2 : dDep (.list ps) ≤ 64 := by
    have := dDeps_of (n := n) fun d hd => (ha d hd).2
    show dDeps ps + 1 ≤ 64
    omega
  cases ps with
  | nil => exact (cmp_eq_self (x := .list []) rfl (by decide)).trans (by simp)
  | cons q wl =>
    rw [cmp_eq_ne h1 (show dOk (.list []) = true from rfl) h2 (show dDep (.list []) ≤ 64 by decide) (by simp)]
    simp
theorem lv_step {n s : Nat} {d0 d : D} {k : Nat} {wl : List (D × Nat)} {fs : List D} {z3 z4 z5 : En} (hn : n ≤ 60) (hs : s ≤ 50000) (h : TrL n s ((wl ++ [(d, k)]).map (·.1))) (hf : FnOkL n fs) (hl : fs.length ≤ 60) (hb : (∃ q ∈ wl ++ [(d, k)], Bd q.1 q.2) ∨ ∃ x ∈ fs, isUse x) :
    (∃ r, whB E_lv (bodyW (nthS 2 b_leaves)) [.dat d0, .own (.lst ((wl ++ [(d, k)]).map encW)), .own (.lst fs), z3, z4, z5, .un, .un, .un] = M.ret (.rt r) ∧ LvP n d0 (.rt r)) ∨
    ∃ ρ' s', whB E_lv (bodyW (nthS 2 b_leaves)) [.dat d0, .own (.lst ((wl ++ [(d, k)]).map encW)), .own (.lst fs), z3, z4, z5, .un, .un, .un] = M.ret (.nx ρ') ∧ s' < s ∧ LvI n d0 s' ρ' := by
  have hS := sizeLine_big
  rw [List.map_append] at h
  obtain ⟨a, b, e, h1, h2⟩ := h.split
  cases h2 with
  | @cons b1 b2 _ _ h3 h4 =>
    have pop : ∀ ρ : List En, popS ρ 1 ((wl ++ [(d, k)]).map encW) none = some (encW (d, k), ρ.set 1 (.own (.lst (wl.map encW)))) := fun ρ => by
      unfold popS
      rw [List.map_append, List.map_cons, List.map_nil, List.getLast?_concat, List.dropLast_concat]
      rfl
    have hpop : encW (d, k) = .tuple [d, .int k] := rfl
    unfold whB
    simp only [bodyW, nthS, b_leaves]
    cases h3 with
    | @no s1 _ p q r =>
      left
      refine ⟨.dat .none, ?_, rfl⟩
      have pc : M_parts_of [.dat d] = M.ret (.dat .none) := p
      simp only [Nat.reduceAdd, Nat.reduceSub, Nat.zero_add, Nat.reduceEqDiff, EV1, EV2, EV3, EV4, EV5, EV6, rdS, rdI, argS, slotR, tgPut, wipeE, frzS, cmpI, decide_eq_true_eq, Bool.not_true, Bool.not_false, Option.map_some, Option.map_none, List.map_cons, List.map_nil, List.zip_cons_cons, List.zip_nil_right, List.zip_nil_left, List.foldl_cons, List.foldl_nil, if_true, if_false, bind_pure', Bool.and_true, Bool.or_false, Bool.and_false, Bool.or_true, Bool.true_and, Bool.false_and, Bool.true_or, Bool.false_or, if_neg Bool.false_ne_true, E_lv, pop, hpop, pc, isNoneD]
      first | done | rfl
    | @yes s1 _ ps p q r t u =>
      have pc : M_parts_of [.dat d] = M.ret (.new (.lst ps)) := p
      by_cases hk : 16 < k
      · left
        refine ⟨.dat .none, ?_, rfl⟩
        have hk' : decide ((16 : Int) < (k : Int)) = true := decide_eq_true (by omega)
        simp only [Nat.reduceAdd, Nat.reduceSub, Nat.zero_add, Nat.reduceEqDiff, EV1, EV2, EV3, EV4, EV5, EV6, rdS, rdI, argS, slotR, tgPut, wipeE, frzS, cmpI, decide_eq_true_eq, Bool.not_true, Bool.not_false, Option.map_some, Option.map_none, List.map_cons, List.map_nil, List.zip_cons_cons, List.zip_nil_right, List.zip_nil_left, List.foldl_cons, List.foldl_nil, if_true, if_false, bind_pure', Bool.and_true, Bool.or_false, Bool.and_false, Bool.or_true, Bool.true_and, Bool.false_and, Bool.true_or, Bool.false_or, if_neg Bool.false_ne_true, E_lv, pop, hpop, pc, isNoneD, hk']
        first | done | rfl
      · right
        have hk' : decide ((16 : Int) < (k : Int)) = false := decide_eq_false (by omega)
        have comp : ∀ gs : List D, compL (compG ⟨[M_parts_of], [], [(.int 60), (.int 8), (.int 16)], fun _ => none, fun _ _ => M.fail, []⟩ [.dat d0, .own (.lst (wl.map encW)), .own (.lst gs), .dat d, .dat (.int k), .dat (.list ps), .un, .un, .un] (.tup (.cons (.v 6) (.cons (.bin .Add (.v 4) (.i 1)) .nil))) (.nm 6) .nil) ps.reverse = M.ret (ps.reverse.map fun x => encW (x, k + 1)) := fun gs => by
          refine compL_map fun x hx => ?_
          simp only [compG, Nat.reduceAdd, Nat.reduceSub, Nat.zero_add, Nat.reduceEqDiff, EV1, EV2, EV3, EV4, EV5, EV6, rdS, rdI, argS, slotR, tgPut, wipeE, frzS, cmpI, decide_eq_true_eq, Bool.not_true, Bool.not_false, Option.map_some, Option.map_none, List.map_cons, List.map_nil, List.zip_cons_cons, List.zip_nil_right, List.zip_nil_left, List.foldl_cons, List.foldl_nil, if_true, if_false, bind_pure', Bool.and_true, Bool.or_false, Bool.and_false, Bool.or_true, Bool.true_and, Bool.false_and, Bool.true_or, Bool.false_or, if_neg Bool.false_ne_true]
          rfl
        have hpl := u.len
        have hwl := h1.len
        rw [List.length_map] at hwl
        have L1 : ps.reverse.length ≤ sizeLine := by rw [List.length_reverse]; omega
        have L2 : (wl.map encW).length + (ps.reverse.map fun x => encW (x, k + 1)).length ≤ sizeLine := by
          rw [List.length_map, List.length_map, List.length_reverse]
          omega
        have L3 : fs.length < sizeLine := by omega
        have newW : wl.map encW ++ (ps.reverse.map fun x => encW (x, k + 1)) = (wl ++ ps.reverse.map fun x => (x, k + 1)).map encW := by
          rw [List.map_append, List.map_map]
          rfl
        have newT : TrL n (a + s1) ((wl ++ ps.reverse.map fun x => (x, k + 1)).map (·.1)) := by
          rw [List.map_append, List.map_map]
          have : (ps.reverse.map ((fun q : D × Nat => q.1) ∘ fun x => (x, k + 1))) = ps.reverse := by
            rw [show ((fun q : D × Nat => q.1) ∘ fun x : D => (x, k + 1)) = id from rfl, List.map_id]
          rw [this]
          exact h1.app u.rev
        have newB : (ps = [] → ∀ z, d ≠ .tuple [.str "use", z]) → (∃ q ∈ wl ++ [(d, k)], Bd q.1 q.2) → ∃ q ∈ wl ++ ps.reverse.map fun x => (x, k + 1), Bd q.1 q.2 := fun hu ⟨q, hq, hB⟩ => by
          rcases List.mem_append.mp hq with hq | hq
          · exact ⟨q, List.mem_append_left _ hq, hB⟩
          · obtain rfl := List.mem_singleton.mp hq
            cases hB with
            | no p' => cases po_uniq p p'
            | deep h => exact absurd h hk
            | sub p' hm hB' =>
              cases po_uniq p p'
              exact ⟨_, List.mem_append_right _ (List.mem_map.mpr ⟨_, List.mem_reverse.mpr hm, rfl⟩), hB'⟩
            | use p' e' =>
              cases po_uniq p p'
              exact absurd e' (hu rfl _)
        have hc := cmp_nil (ps := ps) hn u
        by_cases hps : ps = []
        · have hd : decide (ps = []) = true := decide_eq_true hps
          simp only [Nat.reduceAdd, Nat.reduceSub, Nat.zero_add, Nat.reduceEqDiff, EV1, EV2, EV3, EV4, EV5, EV6, rdS, rdI, argS, slotR, tgPut, wipeE, frzS, cmpI, decide_eq_true_eq, Bool.not_true, Bool.not_false, Option.map_some, Option.map_none, List.map_cons, List.map_nil, List.zip_cons_cons, List.zip_nil_right, List.zip_nil_left, List.foldl_cons, List.foldl_nil, if_true, if_false, bind_pure', Bool.and_true, Bool.or_false, Bool.and_false, Bool.or_true, Bool.true_and, Bool.false_and, Bool.true_or, Bool.false_or, if_neg Bool.false_ne_true, E_lv, pop, hpop, pc, isNoneD, hk', hc, hd, if_pos L3, comp, if_pos L1, if_pos L2, newW]
          refine ⟨_, a + s1, rfl, by omega, _, fs ++ [d], _, _, _, rfl, newT, fun x hx => ?_, by rw [List.length_append]; show _ + 1 ≤ 61; omega, ?_⟩
          · rcases List.mem_append.mp hx with hx | hx
            · exact hf x hx
            · obtain rfl := List.mem_singleton.mp hx
              exact ⟨t hps, q, r⟩
          · by_cases hu : ∃ z, d = .tuple [.str "use", z]
            · obtain ⟨z, rfl⟩ := hu
              obtain ⟨w, rr, e1, _, e2⟩ := t hps
              cases e1
              obtain ⟨z', e3, e4⟩ := e2 rfl
              cases e3
              exact .inr ⟨_, List.mem_append_right _ (List.mem_singleton.mpr rfl), z', rfl, e4⟩
            · rcases hb with hb | ⟨x, hx, hu'⟩
              · exact .inl (newB (fun _ z e => hu ⟨z, e⟩) hb)
              · exact .inr ⟨x, List.mem_append_left _ hx, hu'⟩
        · have hd : decide (ps = []) = false := decide_eq_false hps
          simp only [Nat.reduceAdd, Nat.reduceSub, Nat.zero_add, Nat.reduceEqDiff, EV1, EV2, EV3, EV4, EV5, EV6, rdS, rdI, argS, slotR, tgPut, wipeE, frzS, cmpI, decide_eq_true_eq, Bool.not_true, Bool.not_false, Option.map_some, Option.map_none, List.map_cons, List.map_nil, List.zip_cons_cons, List.zip_nil_right, List.zip_nil_left, List.foldl_cons, List.foldl_nil, if_true, if_false, bind_pure', Bool.and_true, Bool.or_false, Bool.and_false, Bool.or_true, Bool.true_and, Bool.false_and, Bool.true_or, Bool.false_or, if_neg Bool.false_ne_true, E_lv, pop, hpop, pc, isNoneD, hk', hc, hd, if_pos L3, comp, if_pos L1, if_pos L2, newW]
          refine ⟨_, a + s1, rfl, by omega, _, fs, _, _, _, rfl, newT, hf, by omega, ?_⟩
          rcases hb with hb | hb
          · exact .inl (newB (fun z => absurd z hps) hb)
          · exact .inr hb

theorem lv_loop {n s : Nat} {d : D} {k : Nat} (hn : n ≤ 60) (hs : s ≤ 50000) (h : Tr n s d) (hb : Bd d k) : ∃ o, whL (whC E_lv (condW (nthS 2 b_leaves))) (whB E_lv (bodyW (nthS 2 b_leaves))) whN [.dat d, .own (.lst [.tuple [d, .int k]]), .own (.lst []), .un, .un, .un, .un, .un, .un] = M.ret o ∧ LvP n d o := by
  refine whL_out (fun s' ρ => s' ≤ 50000 ∧ LvI n d s' ρ) (LvP n d) (fun s' ρ hI => ?_) whN (s + 0) _ (by show s + 0 < 18446744073709551616; omega) ⟨by omega, [(d, k)], [], .un, .un, .un, rfl, .cons h .nil, fun _ z => (nomatch z), Nat.zero_le _, .inl ⟨(d, k), List.mem_singleton.mpr rfl, hb⟩⟩
  obtain ⟨hs', wl, fs, z3, z4, z5, rfl, hT, hF, hl, hB⟩ := hI
  rw [lv_cond hn hT]
  by_cases hw : wl = []
  · subst hw
    left
    refine ⟨by simp, _, _, _, _, _, rfl, hF, hl, .inl ?_⟩
    rcases hB with ⟨q, hq, _⟩ | hB
    · cases hq
    · exact hB
  · by_cases hf : fs.length ≤ 60
    · right
      refine ⟨by simp [hw, hf], ?_⟩
      obtain ⟨wl', ⟨d', k'⟩, rfl⟩ : ∃ wl' q, wl = wl' ++ [q] := ⟨wl.dropLast, wl.getLast hw, (List.dropLast_concat_getLast hw).symm⟩
      rcases lv_step (d0 := d) (z3 := z3) (z4 := z4) (z5 := z5) hn hs' hT hF hf hB with h1 | ⟨ρ', s2, e, h2, h3⟩
      · exact .inl h1
      · exact .inr ⟨ρ', s2, e, h2, by omega, h3⟩
    · left
      refine ⟨by simp [hf], _, _, _, _, _, rfl, hF, hl, .inr (by omega)⟩
theorem cmp_str {a b : Str} (ha : PyData.strOk a = true) (hb : PyData.strOk b = true) (κ : Ks) : cmpD .Eq κ (.str a) (.str b) = some (decide (a = b)) := by
  by_cases h : a = b
  · subst h
    rw [cmp_eq_self (x := .str a) ha (Nat.zero_le _)]
    simp
  · rw [cmp_eq_ne (x := .str a) (y := .str b) ha hb (Nat.zero_le _) (Nat.zero_le _) (fun z => h (by cases z; rfl))]
    simp [h]
theorem cmp_strN {a b : Str} (ha : PyData.strOk a = true) (hb : PyData.strOk b = true) (κ : Ks) : cmpD .NotEq κ (.str a) (.str b) = some (!decide (a = b)) := by
  by_cases h : a = b
  · subst h
    rw [cmp_ne_self (x := .str a) ha (Nat.zero_le _)]
    simp
  · rw [cmp_ne_ne (x := .str a) (y := .str b) ha hb (Nat.zero_le _) (Nat.zero_le _) (fun z => h (by cases z; rfl))]
    simp [h]
theorem at0 {x : D} {r : List D} : atI (x :: r) 0 = some x := by
  unfold atI ixN
  simp
def wordIs (z : Str) : D → Bool
  | .tuple (.str w :: _) => decide (w = z)
  | _ => false
def LvR (n : Nat) (r : Rs) : Prop := r = .dat .none ∨ ∃ fs, r = .dat (.list fs) ∧ FnOkL n fs ∧ fs.length ≤ 60 ∧ ∃ x ∈ fs, isUse x
theorem m_leaves {n s : Nat} {d : D} (hn : n ≤ 60) (hs : s ≤ 50000) (h : Tr n s d) (hb : Bd d 1) : ∃ r, M_leaves [.dat d] = M.ret r ∧ LvR n r := by
  obtain ⟨o, e, hp⟩ := lv_loop hn hs h hb
  have hS := sizeLine_big
  cases o with
  | bk _ => exact hp.elim
  | ct _ => exact hp.elim
  | rt r =>
    obtain rfl : r = .dat .none := hp
    refine ⟨.dat .none, ?_, .inl rfl⟩
    unfold M_leaves evF
    rw [show b_leaves = .cons (nthS 0 b_leaves) (.cons (nthS 1 b_leaves) (.cons (.whS (condW (nthS 2 b_leaves)) (bodyW (nthS 2 b_leaves))) (dropS 3 b_leaves))) from rfl]
    generalize dropS 3 b_leaves = T3
    generalize hc : condW (nthS 2 b_leaves) = cc at e ⊢
    generalize hb' : bodyW (nthS 2 b_leaves) = bb at e ⊢
    simp only [nthS, b_leaves]
    simp only [E_lv] at e
    simp only [Nat.reduceAdd, Nat.reduceSub, Nat.zero_add, Nat.reduceEqDiff, EV1, EV2, EV3, EV4, EV5, EV6, rdS, rdI, argS, slotR, tgPut, wipeE, frzS, cmpI, decide_eq_true_eq, Bool.not_true, Bool.not_false, Option.map_some, Option.map_none, List.map_cons, List.map_nil, List.zip_cons_cons, List.zip_nil_right, List.zip_nil_left, List.foldl_cons, List.foldl_nil, if_true, if_false, bind_pure', Bool.and_true, Bool.or_false, Bool.and_false, Bool.or_true, Bool.true_and, Bool.false_and, Bool.true_or, Bool.false_or, if_neg Bool.false_ne_true]
    have e' := e
    rw [show ((1 : Nat) : Int) = (1 : Int) from rfl] at e'
    rw [e']
    rfl
  | nx ρ =>
    obtain ⟨ws, fs, z3, z4, z5, rfl, hF, hl, hu⟩ := hp
    have hT : ∃ r, evSs E_lv [.dat d, .own (.lst ws), .own (.lst fs), z3, z4, z5, .un, .un, .un] (dropS 3 b_leaves) = M.ret (.rt r) ∧ LvR n r := by
      have hlen : fs.length ≤ sizeLine := by omega
      have hcomp : compL (compG ⟨[M_parts_of], [], [(.int 60), (.int 8), (.int 16)], fun _ => none, fun _ _ => M.fail, []⟩ [.dat d, .own (.lst ws), .dat (.list fs), z3, z4, z5, .un, .un, .un] (.v 8) (.nm 8) (.cons (.cmp .Eq (.ix (.v 8) (.i 0)) (.s "lag")) .nil)) fs = M.ret ((fs.filter (wordIs "lag")).map id) := by
        refine compL_filter fun x hx => ?_
        obtain ⟨⟨w, r, rfl, hw, _⟩, _⟩ := hF x hx
        have c1 := cmp_str hw (show PyData.strOk "lag" = true by decide +kernel)
        have at0 := at0 (x := .str w) (r := r)
        simp only [compG, Nat.reduceAdd, Nat.reduceSub, Nat.zero_add, Nat.reduceEqDiff, EV1, EV2, EV3, EV4, EV5, EV6, rdS, rdI, argS, slotR, tgPut, wipeE, frzS, cmpI, decide_eq_true_eq, Bool.not_true, Bool.not_false, Option.map_some, Option.map_none, List.map_cons, List.map_nil, List.zip_cons_cons, List.zip_nil_right, List.zip_nil_left, List.foldl_cons, List.foldl_nil, if_true, if_false, bind_pure', Bool.and_true, Bool.or_false, Bool.and_false, Bool.or_true, Bool.true_and, Bool.false_and, Bool.true_or, Bool.false_or, if_neg Bool.false_ne_true, at0, c1, wordIs]
        split <;> rfl
      simp only [dropS, b_leaves]
      simp only [Nat.reduceAdd, Nat.reduceSub, Nat.zero_add, Nat.reduceEqDiff, EV1, EV2, EV3, EV4, EV5, EV6, rdS, rdI, argS, slotR, tgPut, wipeE, frzS, cmpI, decide_eq_true_eq, Bool.not_true, Bool.not_false, Option.map_some, Option.map_none, List.map_cons, List.map_nil, List.zip_cons_cons, List.zip_nil_right, List.zip_nil_left, List.foldl_cons, List.foldl_nil, if_true, if_false, bind_pure', Bool.and_true, Bool.or_false, Bool.and_false, Bool.or_true, Bool.true_and, Bool.false_and, Bool.true_or, Bool.false_or, if_neg Bool.false_ne_true, E_lv, hcomp, if_pos hlen]
      by_cases h60 : fs.length ≤ 60
      · have hu' : ∃ x ∈ fs, isUse x := hu.resolve_right (by omega)
        rw [if_pos (show (fs.length : Int) ≤ 60 by omega)]
        by_cases hm : (((fs.filter (wordIs "lag")).map id).length : Int) ≤ 8
        · rw [if_pos hm]
          exact ⟨.dat (.list fs), rfl, .inr ⟨fs, rfl, hF, h60, hu'⟩⟩
        · rw [if_neg hm]
          exact ⟨.dat .none, rfl, .inl rfl⟩
      · rw [if_neg (show ¬ (fs.length : Int) ≤ 60 by omega)]
        exact ⟨.dat .none, rfl, .inl rfl⟩
    obtain ⟨r, hr, hR⟩ := hT
    refine ⟨r, ?_, hR⟩
    unfold M_leaves evF
    rw [show b_leaves = .cons (nthS 0 b_leaves) (.cons (nthS 1 b_leaves) (.cons (.whS (condW (nthS 2 b_leaves)) (bodyW (nthS 2 b_leaves))) (dropS 3 b_leaves))) from rfl]
    generalize dropS 3 b_leaves = T3 at hr ⊢
    generalize hc : condW (nthS 2 b_leaves) = cc at e ⊢
    generalize hb' : bodyW (nthS 2 b_leaves) = bb at e ⊢
    simp only [nthS, b_leaves]
    simp only [E_lv] at e hr
    simp only [Nat.reduceAdd, Nat.reduceSub, Nat.zero_add, Nat.reduceEqDiff, EV1, EV2, EV3, EV4, EV5, EV6, rdS, rdI, argS, slotR, tgPut, wipeE, frzS, cmpI, decide_eq_true_eq, Bool.not_true, Bool.not_false, Option.map_some, Option.map_none, List.map_cons, List.map_nil, List.zip_cons_cons, List.zip_nil_right, List.zip_nil_left, List.foldl_cons, List.foldl_nil, if_true, if_false, bind_pure', Bool.and_true, Bool.or_false, Bool.and_false, Bool.or_true, Bool.true_and, Bool.false_and, Bool.true_or, Bool.false_or, if_neg Bool.false_ne_true]
    have e' := e
    rw [show ((1 : Nat) : Int) = (1 : Int) from rfl] at e'
    rw [e']
    simp only [Nat.reduceAdd, Nat.reduceSub, Nat.zero_add, Nat.reduceEqDiff, EV1, EV2, EV3, EV4, EV5, EV6, rdS, rdI, argS, slotR, tgPut, wipeE, frzS, cmpI, decide_eq_true_eq, Bool.not_true, Bool.not_false, Option.map_some, Option.map_none, List.map_cons, List.map_nil, List.zip_cons_cons, List.zip_nil_right, List.zip_nil_left, List.foldl_cons, List.foldl_nil, if_true, if_false, bind_pure', Bool.and_true, Bool.or_false, Bool.and_false, Bool.or_true, Bool.true_and, Bool.false_and, Bool.true_or, Bool.false_or, if_neg Bool.false_ne_true, hr]
    first | done | rfl

def xBadWiring : Exc := ("BadWiring", [("word", .str "BadWiring")])
theorem dOk_box {n : Nat} {fs : List D} (hF : FnOkL n fs) : ∀ x ∈ fs, dOk x = true := fun x hx => (hF x hx).2.1
def useNm : D → D
  | .tuple [_, z] => z
  | _ => .none
theorem m_uses {n : Nat} {fs : List D} (hF : FnOkL n fs) (hl : fs.length ≤ 60) : M_uses [.dat (.list fs)] = M.ret (.new (.lst ((fs.filter (wordIs "use")).map useNm))) := by
  have hS := sizeLine_big
  have hlen : fs.length ≤ sizeLine := by omega
  unfold M_uses b_uses evF
  have hcomp : compL (compG ⟨[], [], [], fun _ => none, fun _ _ => M.fail, []⟩ [.dat (.list fs), .un] (.ix (.v 1) (.i 1)) (.nm 1) (.cons (.cmp .Eq (.ix (.v 1) (.i 0)) (.s "use")) .nil)) fs = M.ret ((fs.filter (wordIs "use")).map useNm) := by
    refine compL_filter fun x hx => ?_
    obtain ⟨⟨w, r, rfl, hw, hu⟩, _⟩ := hF x hx
    have c1 := cmp_str hw (show PyData.strOk "use" = true by decide +kernel)
    have at0 := at0 (x := .str w) (r := r)
    by_cases h : w = "use"
    · subst h
      obtain ⟨z, rfl, hz⟩ := hu rfl
      have at1 : atI [D.str "use", D.str z] 1 = some (D.str z) := rfl
      have c2 : ∀ κ, cmpD .Eq κ (.str "use") (.str "use") = some true := fun κ => (c1 κ).trans (by simp)
      simp only [compG, Nat.reduceAdd, Nat.reduceSub, Nat.zero_add, Nat.reduceEqDiff, EV1, EV2, EV3, EV4, EV5, EV6, rdS, rdI, argS, slotR, tgPut, wipeE, frzS, cmpI, decide_eq_true_eq, Bool.not_true, Bool.not_false, Option.map_some, Option.map_none, List.map_cons, List.map_nil, List.zip_cons_cons, List.zip_nil_right, List.zip_nil_left, List.foldl_cons, List.foldl_nil, if_true, if_false, bind_pure', Bool.and_true, Bool.or_false, Bool.and_false, Bool.or_true, Bool.true_and, Bool.false_and, Bool.true_or, Bool.false_or, if_neg Bool.false_ne_true, at0, c2, at1, wordIs, useNm]
      try simp
    · simp only [compG, Nat.reduceAdd, Nat.reduceSub, Nat.zero_add, Nat.reduceEqDiff, EV1, EV2, EV3, EV4, EV5, EV6, rdS, rdI, argS, slotR, tgPut, wipeE, frzS, cmpI, decide_eq_true_eq, Bool.not_true, Bool.not_false, Option.map_some, Option.map_none, List.map_cons, List.map_nil, List.zip_cons_cons, List.zip_nil_right, List.zip_nil_left, List.foldl_cons, List.foldl_nil, if_true, if_false, bind_pure', Bool.and_true, Bool.or_false, Bool.and_false, Bool.or_true, Bool.true_and, Bool.false_and, Bool.true_or, Bool.false_or, if_neg Bool.false_ne_true, at0, c1, wordIs, h, decide_false, if_neg Bool.false_ne_true]
      try rfl
  simp only [Nat.reduceAdd, Nat.reduceSub, Nat.zero_add, Nat.reduceEqDiff, EV1, EV2, EV3, EV4, EV5, EV6, rdS, rdI, argS, slotR, tgPut, wipeE, frzS, cmpI, decide_eq_true_eq, Bool.not_true, Bool.not_false, Option.map_some, Option.map_none, List.map_cons, List.map_nil, List.zip_cons_cons, List.zip_nil_right, List.zip_nil_left, List.foldl_cons, List.foldl_nil, if_true, if_false, bind_pure', Bool.and_true, Bool.or_false, Bool.and_false, Bool.or_true, Bool.true_and, Bool.false_and, Bool.true_or, Bool.false_or, if_neg Bool.false_ne_true, hcomp, if_pos hlen]
theorem m_need_bad {n s : Nat} {d : D} (hn : n ≤ 60) (hs : s ≤ 50000) (h : Tr n s d) (hb : Bd d 1) : M_need_boxes [.dat d] = M.raise xBadWiring := by
  obtain ⟨r, e, hR⟩ := m_leaves hn hs h hb
  unfold M_need_boxes b_need_boxes evF
  rcases hR with rfl | ⟨fs, rfl, hF, hl, x, hx, z, rfl, hz⟩
  · simp only [Nat.reduceAdd, Nat.reduceSub, Nat.zero_add, Nat.reduceEqDiff, EV1, EV2, EV3, EV4, EV5, EV6, rdS, rdI, argS, slotR, tgPut, wipeE, frzS, cmpI, decide_eq_true_eq, Bool.not_true, Bool.not_false, Option.map_some, Option.map_none, List.map_cons, List.map_nil, List.zip_cons_cons, List.zip_nil_right, List.zip_nil_left, List.foldl_cons, List.foldl_nil, if_true, if_false, bind_pure', Bool.and_true, Bool.or_false, Bool.and_false, Bool.or_true, Bool.true_and, Bool.false_and, Bool.true_or, Bool.false_or, if_neg Bool.false_ne_true, e, isNoneD]
    first | done | rfl
  · have hu := m_uses hF hl
    have hm : useNm (.tuple [.str "use", .str z]) ∈ (fs.filter (wordIs "use")).map useNm := List.mem_map.mpr ⟨_, List.mem_filter.mpr ⟨hx, rfl⟩, rfl⟩
    have hok : ∀ y ∈ (fs.filter (wordIs "use")).map useNm, ∃ z, y = .str z ∧ PyData.strOk z = true := fun y hy => by
      obtain ⟨x, hx, rfl⟩ := List.mem_map.mp hy
      obtain ⟨hx1, hx2⟩ := List.mem_filter.mp hx
      obtain ⟨⟨w, r, rfl, hw, hu⟩, _⟩ := hF x hx1
      obtain ⟨z, rfl, hz⟩ := hu (of_decide_eq_true (show decide (w = "use") = true from hx2))
      exact ⟨z, rfl, hz⟩
    have c : ∀ κ, cmpD .NotEq κ (.list ((fs.filter (wordIs "use")).map useNm)) (.list []) = some true := fun κ => by
      refine cmp_ne_ne (dOks_of fun d hd => ?_) rfl ?_ (by decide) ?_
      · obtain ⟨z, rfl, hz⟩ := hok d hd
        exact hz
      · have := dDeps_of (n := 0) (ds := (fs.filter (wordIs "use")).map useNm) fun d hd => by
          obtain ⟨z, rfl, hz⟩ := hok d hd
          exact Nat.le_refl _
        show dDeps _ + 1 ≤ 64
        omega
      · intro z
        injection z with z
        rw [z] at hm
        cases hm
    simp only [Nat.reduceAdd, Nat.reduceSub, Nat.zero_add, Nat.reduceEqDiff, EV1, EV2, EV3, EV4, EV5, EV6, rdS, rdI, argS, slotR, tgPut, wipeE, frzS, cmpI, decide_eq_true_eq, Bool.not_true, Bool.not_false, Option.map_some, Option.map_none, List.map_cons, List.map_nil, List.zip_cons_cons, List.zip_nil_right, List.zip_nil_left, List.foldl_cons, List.foldl_nil, if_true, if_false, bind_pure', Bool.and_true, Bool.or_false, Bool.and_false, Bool.or_true, Bool.true_and, Bool.false_and, Bool.true_or, Bool.false_or, if_neg Bool.false_ne_true, e, isNoneD, hu, c]
    first | done | rfl
theorem m_three {n s : Nat} {d : D} (hn : n ≤ 60) (hs : s ≤ 50000) (h : Tr n s d) (hb : Bd d 1) : M_shape [.dat d] = M.raise xBadWiring ∧ M_boxes [.dat d] = M.raise xBadWiring ∧ M_lags [.dat d] = M.raise xBadWiring := by
  have e := m_need_bad hn hs h hb
  refine ⟨?_, ?_, ?_⟩
  · unfold M_shape b_shape evF
    simp only [Nat.reduceAdd, Nat.reduceSub, Nat.zero_add, Nat.reduceEqDiff, EV1, EV2, EV3, EV4, EV5, EV6, rdS, rdI, argS, slotR, tgPut, wipeE, frzS, cmpI, decide_eq_true_eq, Bool.not_true, Bool.not_false, Option.map_some, Option.map_none, List.map_cons, List.map_nil, List.zip_cons_cons, List.zip_nil_right, List.zip_nil_left, List.foldl_cons, List.foldl_nil, if_true, if_false, bind_pure', Bool.and_true, Bool.or_false, Bool.and_false, Bool.or_true, Bool.true_and, Bool.false_and, Bool.true_or, Bool.false_or, if_neg Bool.false_ne_true, e]
  · unfold M_boxes b_boxes evF
    simp only [Nat.reduceAdd, Nat.reduceSub, Nat.zero_add, Nat.reduceEqDiff, EV1, EV2, EV3, EV4, EV5, EV6, rdS, rdI, argS, slotR, tgPut, wipeE, frzS, cmpI, decide_eq_true_eq, Bool.not_true, Bool.not_false, Option.map_some, Option.map_none, List.map_cons, List.map_nil, List.zip_cons_cons, List.zip_nil_right, List.zip_nil_left, List.foldl_cons, List.foldl_nil, if_true, if_false, bind_pure', Bool.and_true, Bool.or_false, Bool.and_false, Bool.or_true, Bool.true_and, Bool.false_and, Bool.true_or, Bool.false_or, if_neg Bool.false_ne_true, e]
  · unfold M_lags b_lags evF
    simp only [Nat.reduceAdd, Nat.reduceSub, Nat.zero_add, Nat.reduceEqDiff, EV1, EV2, EV3, EV4, EV5, EV6, rdS, rdI, argS, slotR, tgPut, wipeE, frzS, cmpI, decide_eq_true_eq, Bool.not_true, Bool.not_false, Option.map_some, Option.map_none, List.map_cons, List.map_nil, List.zip_cons_cons, List.zip_nil_right, List.zip_nil_left, List.foldl_cons, List.foldl_nil, if_true, if_false, bind_pure', Bool.and_true, Bool.or_false, Bool.and_false, Bool.or_true, Bool.true_and, Bool.false_and, Bool.true_or, Bool.false_or, if_neg Bool.false_ne_true, e]

theorem m_of {ds : List D} (h : ds ≠ []) (hl : ds.length ≤ 100000) : Dr (M__law_of [.dat (.hd 0), .dat (.list ds)]) (fun r => ∃ d ∈ ds, r = .dat d) := by
  have h0 : 0 < ds.length := List.length_pos_iff.mpr h
  unfold M__law_of b__law_of evF
  simp only [Nat.reduceAdd, Nat.reduceSub, Nat.zero_add, Nat.reduceEqDiff, EV1, EV2, EV3, EV4, EV5, EV6, rdS, rdI, argS, slotR, tgPut, wipeE, frzS, cmpI, decide_eq_true_eq, Bool.not_true, Bool.not_false, Option.map_some, Option.map_none, List.map_cons, List.map_nil, List.zip_cons_cons, List.zip_nil_right, List.zip_nil_left, List.foldl_cons, List.foldl_nil, if_true, if_false, bind_pure', Bool.and_true, Bool.or_false, Bool.and_false, Bool.or_true, Bool.true_and, Bool.false_and, Bool.true_or, Bool.false_or, if_neg Bool.false_ne_true]
  refine (m_pull (by omega) (by omega)).bind fun r hr => ?_
  obtain ⟨i, rfl, h1, h2⟩ := hr
  obtain ⟨k, rfl⟩ : ∃ k : Nat, i = k := ⟨i.toNat, by omega⟩
  have hk : k < ds.length := by omega
  refine Dr.eq ?_ ⟨ds[k], List.getElem_mem hk, rfl⟩
  simp only [Nat.reduceAdd, Nat.reduceSub, Nat.zero_add, Nat.reduceEqDiff, EV1, EV2, EV3, EV4, EV5, EV6, rdS, rdI, argS, slotR, tgPut, wipeE, frzS, cmpI, decide_eq_true_eq, Bool.not_true, Bool.not_false, Option.map_some, Option.map_none, List.map_cons, List.map_nil, List.zip_cons_cons, List.zip_nil_right, List.zip_nil_left, List.foldl_cons, List.foldl_nil, if_true, if_false, bind_pure', Bool.and_true, Bool.or_false, Bool.and_false, Bool.or_true, Bool.true_and, Bool.false_and, Bool.true_or, Bool.false_or, if_neg Bool.false_ne_true, atI_nat' hk]

mutual
theorem Tr.mono {n m : Nat} (e : n ≤ m) : ∀ {d : D} {s : Nat}, Tr n s d → Tr m s d
  | _, _, .no p q r => .no p q (Nat.le_trans r e)
  | _, _, .yes p q r t u => .yes p q (Nat.le_trans r e) t (TrL.mono e u)
theorem TrL.mono {n m : Nat} (e : n ≤ m) : ∀ {ds : List D} {s : Nat}, TrL n s ds → TrL m s ds
  | _, _, .nil => .nil
  | _, _, .cons h r => .cons (Tr.mono e h) (TrL.mono e r)
end
theorem isT_tup {ds : List D} {κ : Ks} : biS (.isi .tuple) κ [.tuple ds] = some (.dat (.bool true)) := rfl
theorem isT_str {w : Str} {κ : Ks} : biS (.isi .str) κ [.str w] = some (.dat (.bool true)) := rfl
theorem po_then (ds : List D) : PO (.tuple [.str "then", .tuple ds]) (if 1 ≤ ds.length ∧ ds.length ≤ 12 then some ds else none) := by
  have a1 : List.lookup ("then" : Str) ([("wire", D.int 1), ("lag", D.int 1), ("weigh", D.int 2), ("copy", D.int 2), ("sum", D.int 2), ("mix", D.int 2), ("shuffle", D.int 2), ("use", D.int 2), ("then", D.int 2), ("beside", D.int 2), ("turned", D.int 2), ("ring", D.int 2)] : List (Str × D)) = some (D.int 2) := by rfl
  have a2 : ∀ κ, cmpD .In κ (.str "then") (.tuple [.str "turned", .str "ring"]) = some false := fun κ => by rfl
  have a3 : ∀ κ, cmpD .In κ (.str "then") (.tuple [.str "then", .str "beside"]) = some true := fun κ => by rfl
  have a4 : atI [D.str "then", .tuple ds] 0 = some (.str "then") := rfl
  have a5 : atI [D.str "then", .tuple ds] 1 = some (.tuple ds) := rfl
  unfold PO M_parts_of b_parts_of evF
  simp only [Nat.reduceAdd, Nat.reduceSub, Nat.zero_add, Nat.reduceEqDiff, EV1, EV2, EV3, EV4, EV5, EV6, rdS, rdI, argS, slotR, tgPut, wipeE, frzS, cmpI, decide_eq_true_eq, Bool.not_true, Bool.not_false, Option.map_some, Option.map_none, List.map_cons, List.map_nil, List.zip_cons_cons, List.zip_nil_right, List.zip_nil_left, List.foldl_cons, List.foldl_nil, if_true, if_false, bind_pure', Bool.and_true, Bool.or_false, Bool.and_false, Bool.or_true, Bool.true_and, Bool.false_and, Bool.true_or, Bool.false_or, if_neg Bool.false_ne_true, isT_tup, isT_str, a1, a2, a3, a4, a5, Option.getD_some]
  by_cases h : 1 ≤ ds.length ∧ ds.length ≤ 12
  · rw [if_pos h]
    simp only [Nat.reduceAdd, Nat.reduceSub, Nat.zero_add, Nat.reduceEqDiff, EV1, EV2, EV3, EV4, EV5, EV6, rdS, rdI, argS, slotR, tgPut, wipeE, frzS, cmpI, decide_eq_true_eq, Bool.not_true, Bool.not_false, Option.map_some, Option.map_none, List.map_cons, List.map_nil, List.zip_cons_cons, List.zip_nil_right, List.zip_nil_left, List.foldl_cons, List.foldl_nil, if_true, if_false, bind_pure', Bool.and_true, Bool.or_false, Bool.and_false, Bool.or_true, Bool.true_and, Bool.false_and, Bool.true_or, Bool.false_or, if_neg Bool.false_ne_true, decide_eq_true (show (1 : Int) ≤ (ds.length : Int) by omega), decide_eq_true (show (ds.length : Int) ≤ 12 by omega), resO]
    first | done | rfl
  · rw [if_neg h]
    by_cases h1 : 1 ≤ ds.length
    · simp only [Nat.reduceAdd, Nat.reduceSub, Nat.zero_add, Nat.reduceEqDiff, EV1, EV2, EV3, EV4, EV5, EV6, rdS, rdI, argS, slotR, tgPut, wipeE, frzS, cmpI, decide_eq_true_eq, Bool.not_true, Bool.not_false, Option.map_some, Option.map_none, List.map_cons, List.map_nil, List.zip_cons_cons, List.zip_nil_right, List.zip_nil_left, List.foldl_cons, List.foldl_nil, if_true, if_false, bind_pure', Bool.and_true, Bool.or_false, Bool.and_false, Bool.or_true, Bool.true_and, Bool.false_and, Bool.true_or, Bool.false_or, if_neg Bool.false_ne_true, decide_eq_true (show (1 : Int) ≤ (ds.length : Int) by omega), decide_eq_false (show ¬ (ds.length : Int) ≤ 12 by omega), resO]
      first | done | rfl
    · simp only [Nat.reduceAdd, Nat.reduceSub, Nat.zero_add, Nat.reduceEqDiff, EV1, EV2, EV3, EV4, EV5, EV6, rdS, rdI, argS, slotR, tgPut, wipeE, frzS, cmpI, decide_eq_true_eq, Bool.not_true, Bool.not_false, Option.map_some, Option.map_none, List.map_cons, List.map_nil, List.zip_cons_cons, List.zip_nil_right, List.zip_nil_left, List.foldl_cons, List.foldl_nil, if_true, if_false, bind_pure', Bool.and_true, Bool.or_false, Bool.and_false, Bool.or_true, Bool.true_and, Bool.false_and, Bool.true_or, Bool.false_or, if_neg Bool.false_ne_true, decide_eq_false (show ¬ (1 : Int) ≤ (ds.length : Int) by omega), resO]
      first | done | rfl
theorem tr_then {n s : Nat} {ds : List D} (h : TrL n s ds) : Tr (n + 2) (s + 1) (.tuple [.str "then", .tuple ds]) := by
  have ha := h.all
  have h1 : dOk (.tuple [.str "then", .tuple ds]) = true := by
    show (PyData.strOk "then" && (dOks ds && true)) = true
    rw [dOks_of fun d hd => (ha d hd).1]
    decide +kernel
  have h2 : dDep (.tuple [.str "then", .tuple ds]) ≤ n + 2 := by
    have := dDeps_of (n := n) fun d hd => (ha d hd).2
    show max 0 (max (dDeps ds + 1) 0) + 1 ≤ n + 2
    omega
  have p := po_then ds
  by_cases hl : 1 ≤ ds.length ∧ ds.length ≤ 12
  · rw [if_pos hl] at p
    exact .yes p h1 h2 (fun z => by rw [z] at hl; exact absurd hl.1 (by decide)) (h.mono (by omega))
  · rw [if_neg hl] at p
    exact .no p h1 h2
theorem po_beside (ds : List D) : PO (.tuple [.str "beside", .tuple ds]) (if 1 ≤ ds.length ∧ ds.length ≤ 12 then some ds else none) := by
  have a1 : List.lookup ("beside" : Str) ([("wire", D.int 1), ("lag", D.int 1), ("weigh", D.int 2), ("copy", D.int 2), ("sum", D.int 2), ("mix", D.int 2), ("shuffle", D.int 2), ("use", D.int 2), ("then", D.int 2), ("beside", D.int 2), ("turned", D.int 2), ("ring", D.int 2)] : List (Str × D)) = some (D.int 2) := by rfl
  have a2 : ∀ κ, cmpD .In κ (.str "beside") (.tuple [.str "turned", .str "ring"]) = some false := fun κ => by rfl
  have a3 : ∀ κ, cmpD .In κ (.str "beside") (.tuple [.str "then", .str "beside"]) = some true := fun κ => by rfl
  have a4 : atI [D.str "beside", .tuple ds] 0 = some (.str "beside") := rfl
  have a5 : atI [D.str "beside", .tuple ds] 1 = some (.tuple ds) := rfl
  unfold PO M_parts_of b_parts_of evF
  simp only [Nat.reduceAdd, Nat.reduceSub, Nat.zero_add, Nat.reduceEqDiff, EV1, EV2, EV3, EV4, EV5, EV6, rdS, rdI, argS, slotR, tgPut, wipeE, frzS, cmpI, decide_eq_true_eq, Bool.not_true, Bool.not_false, Option.map_some, Option.map_none, List.map_cons, List.map_nil, List.zip_cons_cons, List.zip_nil_right, List.zip_nil_left, List.foldl_cons, List.foldl_nil, if_true, if_false, bind_pure', Bool.and_true, Bool.or_false, Bool.and_false, Bool.or_true, Bool.true_and, Bool.false_and, Bool.true_or, Bool.false_or, if_neg Bool.false_ne_true, isT_tup, isT_str, a1, a2, a3, a4, a5, Option.getD_some]
  by_cases h : 1 ≤ ds.length ∧ ds.length ≤ 12
  · rw [if_pos h]
    simp only [Nat.reduceAdd, Nat.reduceSub, Nat.zero_add, Nat.reduceEqDiff, EV1, EV2, EV3, EV4, EV5, EV6, rdS, rdI, argS, slotR, tgPut, wipeE, frzS, cmpI, decide_eq_true_eq, Bool.not_true, Bool.not_false, Option.map_some, Option.map_none, List.map_cons, List.map_nil, List.zip_cons_cons, List.zip_nil_right, List.zip_nil_left, List.foldl_cons, List.foldl_nil, if_true, if_false, bind_pure', Bool.and_true, Bool.or_false, Bool.and_false, Bool.or_true, Bool.true_and, Bool.false_and, Bool.true_or, Bool.false_or, if_neg Bool.false_ne_true, decide_eq_true (show (1 : Int) ≤ (ds.length : Int) by omega), decide_eq_true (show (ds.length : Int) ≤ 12 by omega), resO]
    first | done | rfl
  · rw [if_neg h]
    by_cases h1 : 1 ≤ ds.length
    · simp only [Nat.reduceAdd, Nat.reduceSub, Nat.zero_add, Nat.reduceEqDiff, EV1, EV2, EV3, EV4, EV5, EV6, rdS, rdI, argS, slotR, tgPut, wipeE, frzS, cmpI, decide_eq_true_eq, Bool.not_true, Bool.not_false, Option.map_some, Option.map_none, List.map_cons, List.map_nil, List.zip_cons_cons, List.zip_nil_right, List.zip_nil_left, List.foldl_cons, List.foldl_nil, if_true, if_false, bind_pure', Bool.and_true, Bool.or_false, Bool.and_false, Bool.or_true, Bool.true_and, Bool.false_and, Bool.true_or, Bool.false_or, if_neg Bool.false_ne_true, decide_eq_true (show (1 : Int) ≤ (ds.length : Int) by omega), decide_eq_false (show ¬ (ds.length : Int) ≤ 12 by omega), resO]
      first | done | rfl
    · simp only [Nat.reduceAdd, Nat.reduceSub, Nat.zero_add, Nat.reduceEqDiff, EV1, EV2, EV3, EV4, EV5, EV6, rdS, rdI, argS, slotR, tgPut, wipeE, frzS, cmpI, decide_eq_true_eq, Bool.not_true, Bool.not_false, Option.map_some, Option.map_none, List.map_cons, List.map_nil, List.zip_cons_cons, List.zip_nil_right, List.zip_nil_left, List.foldl_cons, List.foldl_nil, if_true, if_false, bind_pure', Bool.and_true, Bool.or_false, Bool.and_false, Bool.or_true, Bool.true_and, Bool.false_and, Bool.true_or, Bool.false_or, if_neg Bool.false_ne_true, decide_eq_false (show ¬ (1 : Int) ≤ (ds.length : Int) by omega), resO]
      first | done | rfl
theorem tr_beside {n s : Nat} {ds : List D} (h : TrL n s ds) : Tr (n + 2) (s + 1) (.tuple [.str "beside", .tuple ds]) := by
  have ha := h.all
  have h1 : dOk (.tuple [.str "beside", .tuple ds]) = true := by
    show (PyData.strOk "beside" && (dOks ds && true)) = true
    rw [dOks_of fun d hd => (ha d hd).1]
    decide +kernel
  have h2 : dDep (.tuple [.str "beside", .tuple ds]) ≤ n + 2 := by
    have := dDeps_of (n := n) fun d hd => (ha d hd).2
    show max 0 (max (dDeps ds + 1) 0) + 1 ≤ n + 2
    omega
  have p := po_beside ds
  by_cases hl : 1 ≤ ds.length ∧ ds.length ≤ 12
  · rw [if_pos hl] at p
    exact .yes p h1 h2 (fun z => by rw [z] at hl; exact absurd hl.1 (by decide)) (h.mono (by omega))
  · rw [if_neg hl] at p
    exact .no p h1 h2
theorem tr_turned {n s : Nat} {d : D} (h : Tr n s d) : Tr (n + 1) (s + 1) (.tuple [.str "turned", d]) := by
  obtain ⟨k1, k2⟩ := h.ok
  refine .yes (ps := [d]) (po_turned d) ?_ ?_ (fun z => (nomatch z)) ?_
  · show (PyData.strOk "turned" && (dOk d && true)) = true
    rw [k1]
    decide +kernel
  · show max 0 (max (dDep d) 0) + 1 ≤ n + 1
    omega
  · exact (TrL.cons (h.mono (Nat.le_succ n)) (TrL.nil (s := 0)))
theorem tr_ring {n s : Nat} {d : D} (h : Tr n s d) : Tr (n + 1) (s + 1) (.tuple [.str "ring", d]) := by
  obtain ⟨k1, k2⟩ := h.ok
  refine .yes (ps := [d]) (po_ring d) ?_ ?_ (fun z => (nomatch z)) ?_
  · show (PyData.strOk "ring" && (dOk d && true)) = true
    rw [k1]
    decide +kernel
  · show max 0 (max (dDep d) 0) + 1 ≤ n + 1
    omega
  · exact (TrL.cons (h.mono (Nat.le_succ n)) (TrL.nil (s := 0)))
theorem tr_box {d : D} (p : PO d (some [])) (h1 : dOk d = true) (h2 : dDep d ≤ 4) (hb : BoxF d) : Tr 4 1 d := .yes (s := 0) p h1 h2 (fun _ => hb) .nil
theorem po_num {w : Str} {i lo hi : Int} : True := trivial
/-- the boxes that the law draws -/
inductive Bx15 : D → Prop
  | wire : Bx15 (.tuple [.str "wire"])
  | lag : Bx15 (.tuple [.str "lag"])
  | weigh {i : Int} : 0 ≤ i → i ≤ 96 → Bx15 (.tuple [.str "weigh", .int i])
  | tlag : Bx15 (.tuple [.str "turned", .tuple [.str "lag"]])
  | sum2 : Bx15 (.tuple [.str "sum", .int 2])
  | sum0 : Bx15 (.tuple [.str "sum", .int 0])
  | copy0 : Bx15 (.tuple [.str "copy", .int 0])
  | copy1 : Bx15 (.tuple [.str "copy", .int 1])
  | copy2 : Bx15 (.tuple [.str "copy", .int 2])
  | tcopy2 : Bx15 (.tuple [.str "turned", .tuple [.str "copy", .int 2]])
  | tcopy0 : Bx15 (.tuple [.str "turned", .tuple [.str "copy", .int 0]])
  | tsum2 : Bx15 (.tuple [.str "turned", .tuple [.str "sum", .int 2]])
  | tsum0 : Bx15 (.tuple [.str "turned", .tuple [.str "sum", .int 0]])
  | tweigh {i : Int} : 0 ≤ i → i ≤ 96 → Bx15 (.tuple [.str "turned", .tuple [.str "weigh", .int i]])
  | shuf : Bx15 (.tuple [.str "shuffle", .tuple [.int 1, .int 0]])
theorem po_lag : PO (.tuple [.str "lag"]) (some []) := by unfold PO; funext κ; kernel_rfl
theorem po_sum2 : PO (.tuple [.str "sum", .int 2]) (some []) := by unfold PO; funext κ; kernel_rfl
theorem po_sum0 : PO (.tuple [.str "sum", .int 0]) (some []) := by unfold PO; funext κ; kernel_rfl
theorem po_copy0 : PO (.tuple [.str "copy", .int 0]) (some []) := by unfold PO; funext κ; kernel_rfl
theorem po_copy1 : PO (.tuple [.str "copy", .int 1]) (some []) := by unfold PO; funext κ; kernel_rfl
theorem po_copy2 : PO (.tuple [.str "copy", .int 2]) (some []) := by unfold PO; funext κ; kernel_rfl
theorem po_weigh {i : Int} (h0 : 0 ≤ i) (h1 : i ≤ 96) : PO (.tuple [.str "weigh", .int i]) (some []) := by
  obtain ⟨k, rfl⟩ : ∃ k : Nat, i = k := ⟨i.toNat, by omega⟩
  have hk : k ≤ 96 := by omega
  unfold PO
  funext κ
  have key : ∀ k : Fin 97, M_parts_of [.dat (.tuple [.str "weigh", .int (k.val : Int)])] κ = M.ret (resO (some [])) κ := fun k => by
    have e : M_is_within [.dat (.int (k.val : Int)), .dat (.int 0), .dat (.int 96)] = M.ret (.dat (.bool true)) := by
      have hk := k.isLt
      unfold M_is_within b_is_within evF
      have w : M_is_whole [.dat (.int (k.val : Int))] = M.ret (.dat (.bool true)) := by funext κ; rfl
      simp only [Nat.reduceAdd, Nat.reduceSub, Nat.zero_add, Nat.reduceEqDiff, EV1, EV2, EV3, EV4, EV5, EV6, rdS, rdI, argS, slotR, tgPut, wipeE, frzS, cmpI, decide_eq_true_eq, Bool.not_true, Bool.not_false, Option.map_some, Option.map_none, List.map_cons, List.map_nil, List.zip_cons_cons, List.zip_nil_right, List.zip_nil_left, List.foldl_cons, List.foldl_nil, if_true, if_false, bind_pure', Bool.and_true, Bool.or_false, Bool.and_false, Bool.or_true, Bool.true_and, Bool.false_and, Bool.true_or, Bool.false_or, if_neg Bool.false_ne_true, w, decide_eq_true (show (0 : Int) ≤ (k.val : Int) by omega), decide_eq_true (show ((k.val : Int)) ≤ 96 by omega)]
      first | done | rfl
    have b : M_is_box [.dat (.tuple [.str "weigh", .int (k.val : Int)])] = M.ret (.dat (.bool true)) := by
      unfold M_is_box b_is_box evF
      have c1 : ∀ κ, cmpD .In κ (.str "weigh") (.tuple [.str "copy", .str "sum"]) = some false := fun κ => by kernel_rfl
      have c2 : ∀ κ, cmpD .Eq κ (.str "weigh") (.str "weigh") = some true := fun κ => by kernel_rfl
      have a4 : atI [D.str "weigh", .int (k.val : Int)] 0 = some (.str "weigh") := rfl
      have a5 : atI [D.str "weigh", .int (k.val : Int)] 1 = some (.int (k.val : Int)) := rfl
      simp only [Nat.reduceAdd, Nat.reduceSub, Nat.zero_add, Nat.reduceEqDiff, EV1, EV2, EV3, EV4, EV5, EV6, rdS, rdI, argS, slotR, tgPut, wipeE, frzS, cmpI, decide_eq_true_eq, Bool.not_true, Bool.not_false, Option.map_some, Option.map_none, List.map_cons, List.map_nil, List.zip_cons_cons, List.zip_nil_right, List.zip_nil_left, List.foldl_cons, List.foldl_nil, if_true, if_false, bind_pure', Bool.and_true, Bool.or_false, Bool.and_false, Bool.or_true, Bool.true_and, Bool.false_and, Bool.true_or, Bool.false_or, if_neg Bool.false_ne_true, a4, a5, c1, c2, e]
    have a1 : List.lookup ("weigh" : Str) ([("wire", D.int 1), ("lag", D.int 1), ("weigh", D.int 2), ("copy", D.int 2), ("sum", D.int 2), ("mix", D.int 2), ("shuffle", D.int 2), ("use", D.int 2), ("then", D.int 2), ("beside", D.int 2), ("turned", D.int 2), ("ring", D.int 2)] : List (Str × D)) = some (D.int 2) := by rfl
    have a2 : ∀ κ, cmpD .In κ (.str "weigh") (.tuple [.str "turned", .str "ring"]) = some false := fun κ => by rfl
    have a3 : ∀ κ, cmpD .In κ (.str "weigh") (.tuple [.str "then", .str "beside"]) = some false := fun κ => by rfl
    have a4 : atI [D.str "weigh", .int (k.val : Int)] 0 = some (.str "weigh") := rfl
    have : M_parts_of [.dat (.tuple [.str "weigh", .int (k.val : Int)])] = M.ret (resO (some [])) := by
      unfold M_parts_of b_parts_of evF
      simp only [Nat.reduceAdd, Nat.reduceSub, Nat.zero_add, Nat.reduceEqDiff, EV1, EV2, EV3, EV4, EV5, EV6, rdS, rdI, argS, slotR, tgPut, wipeE, frzS, cmpI, decide_eq_true_eq, Bool.not_true, Bool.not_false, Option.map_some, Option.map_none, List.map_cons, List.map_nil, List.zip_cons_cons, List.zip_nil_right, List.zip_nil_left, List.foldl_cons, List.foldl_nil, if_true, if_false, bind_pure', Bool.and_true, Bool.or_false, Bool.and_false, Bool.or_true, Bool.true_and, Bool.false_and, Bool.true_or, Bool.false_or, if_neg Bool.false_ne_true, isT_tup, isT_str, a1, a2, a3, a4, Option.getD_some, b]
      first | done | rfl
    rw [this]
  exact key ⟨k, by omega⟩
theorem boxF {w : Str} {r : List D} (h : PyData.strOk w = true) (hu : w ≠ "use") : BoxF (.tuple (.str w :: r)) := ⟨w, r, rfl, h, fun z => absurd z hu⟩
theorem Bx15.tr {d : D} (h : Bx15 d) : Tr 5 2 d := by
  have t : ∀ {d : D}, Tr 4 1 d → Tr 5 2 d := fun h => (h.mono (by decide)).le (by decide)
  cases h with
  | wire => exact t (tr_box po_wire (by decide +kernel) (by decide +kernel) (boxF (by decide +kernel) (by decide +kernel)))
  | lag => exact t (tr_box po_lag (by decide +kernel) (by decide +kernel) (boxF (by decide +kernel) (by decide +kernel)))
  | weigh h0 h1 => exact t (tr_box (po_weigh h0 h1) (show (PyData.strOk "weigh" && (true && true)) = true by decide +kernel) (show 1 ≤ 4 by decide) (boxF (by decide +kernel) (by decide +kernel)))
  | tlag => exact tr_turned (tr_box po_lag (by decide +kernel) (by decide +kernel) (boxF (by decide +kernel) (by decide +kernel)))
  | sum2 => exact t (tr_box po_sum2 (by decide +kernel) (by decide +kernel) (boxF (by decide +kernel) (by decide +kernel)))
  | sum0 => exact t (tr_box po_sum0 (by decide +kernel) (by decide +kernel) (boxF (by decide +kernel) (by decide +kernel)))
  | copy0 => exact t (tr_box po_copy0 (by decide +kernel) (by decide +kernel) (boxF (by decide +kernel) (by decide +kernel)))
  | copy1 => exact t (tr_box po_copy1 (by decide +kernel) (by decide +kernel) (boxF (by decide +kernel) (by decide +kernel)))
  | copy2 => exact t (tr_box po_copy2 (by decide +kernel) (by decide +kernel) (boxF (by decide +kernel) (by decide +kernel)))
  | tcopy2 => exact tr_turned (tr_box po_copy2 (by decide +kernel) (by decide +kernel) (boxF (by decide +kernel) (by decide +kernel)))
  | tcopy0 => exact tr_turned (tr_box po_copy0 (by decide +kernel) (by decide +kernel) (boxF (by decide +kernel) (by decide +kernel)))
  | tsum2 => exact tr_turned (tr_box po_sum2 (by decide +kernel) (by decide +kernel) (boxF (by decide +kernel) (by decide +kernel)))
  | tsum0 => exact tr_turned (tr_box po_sum0 (by decide +kernel) (by decide +kernel) (boxF (by decide +kernel) (by decide +kernel)))
  | tweigh h0 h1 => exact tr_turned (tr_box (po_weigh h0 h1) (show (PyData.strOk "weigh" && (true && true)) = true by decide +kernel) (show 1 ≤ 4 by decide) (boxF (by decide +kernel) (by decide +kernel)))
  | shuf => exact t (tr_box po_sh (by decide +kernel) (by decide +kernel) (boxF (by decide +kernel) (by decide +kernel)))

/-! ### good boxes -/
theorem cmpS_ne {a b : Str} (ha : PyData.strOk a = true := by decide +kernel) (hb : PyData.strOk b = true := by decide +kernel) (h : a ≠ b := by decide +kernel) (κ : Ks) : cmpD .Eq κ (.str a) (.str b) = some false := by
  rw [cmp_str ha hb, decide_eq_false h]
theorem cmpS_eq {a : Str} (ha : PyData.strOk a = true := by decide +kernel) (κ : Ks) : cmpD .Eq κ (.str a) (.str a) = some true := by
  rw [cmp_str ha ha, decide_eq_true rfl]
def rowD (r : List Int) : D := .tuple (r.map .int)
theorem m_within_ok {i lo hi : Int} (h0 : lo ≤ i) (h1 : i ≤ hi) : M_is_within [.dat (.int i), .dat (.int lo), .dat (.int hi)] = M.ret (.dat (.bool true)) := by
  unfold M_is_within b_is_within evF
  have w : M_is_whole [.dat (.int i)] = M.ret (.dat (.bool true)) := by funext κ; rfl
  simp only [Nat.reduceAdd, Nat.reduceSub, Nat.zero_add, Nat.reduceEqDiff, EV1, EV2, EV3, EV4, EV5, EV6, rdS, rdI, argS, slotR, tgPut, wipeE, frzS, cmpI, decide_eq_true_eq, Bool.not_true, Bool.not_false, Option.map_some, Option.map_none, List.map_cons, List.map_nil, List.zip_cons_cons, List.zip_nil_right, List.zip_nil_left, List.foldl_cons, List.foldl_nil, if_true, if_false, bind_pure', Bool.and_true, Bool.or_false, Bool.and_false, Bool.or_true, Bool.true_and, Bool.false_and, Bool.true_or, Bool.false_or, if_neg Bool.false_ne_true, w, decide_eq_true h0, decide_eq_true h1]
  first | done | rfl
theorem all_true : ∀ (n : Nat), (List.replicate n true).all id = true
  | 0 => rfl
  | n + 1 => by
    rw [List.replicate_succ, List.all_cons, all_true n]
    rfl
theorem compL_trues {f : D → M (Option D)} : ∀ {ds : List D}, (∀ d ∈ ds, f d = M.ret (some (.bool true))) → compL f ds = M.ret ((List.replicate ds.length true).map .bool)
  | [], _ => rfl
  | d :: ds, h => by
    rw [compL, h d (List.mem_cons_self ..), bind_ret, compL_trues fun x hx => h x (List.mem_cons_of_mem _ hx), bind_ret]
    rfl
theorem comp2L_trues {f : D → M (List D)} : ∀ {ds : List D}, (∀ d ∈ ds, ∃ n, f d = M.ret ((List.replicate n true).map .bool) ∧ n ≤ 1000) → ∃ n, comp2L f ds = M.ret ((List.replicate n true).map .bool) ∧ n ≤ 1000 * ds.length
  | [], _ => ⟨0, rfl, Nat.zero_le _⟩
  | d :: ds, h => by
    obtain ⟨a, e1, l1⟩ := h d (List.mem_cons_self ..)
    obtain ⟨b, e2, l2⟩ := comp2L_trues fun x hx => h x (List.mem_cons_of_mem _ hx)
    refine ⟨a + b, ?_, by rw [List.length_cons]; omega⟩
    rw [comp2L, e1, bind_ret, e2, bind_ret, ← List.map_append, List.replicate_append_replicate]
structure MixOk (rows : List (List Int)) (c : Nat) : Prop where
  h0 : 1 ≤ rows.length
  h1 : rows.length ≤ 12
  c0 : 1 ≤ c
  c1 : c ≤ 12
  len : ∀ r ∈ rows, r.length = c
  wt : ∀ r ∈ rows, ∀ i ∈ r, 0 ≤ i ∧ i ≤ 96
theorem m_weights_ok {rows : List (List Int)} {c : Nat} (h : MixOk rows c) : M_is_weights [.dat (.tuple (rows.map rowD))] = M.ret (.dat (.bool true)) := by
  have hS := sizeLine_big
  have hr1 := h.h1
  have hlen : (rows.map rowD).length ≤ sizeLine := by rw [List.length_map]; omega
  unfold M_is_weights b_is_weights evF
  cases rows with
  | nil => exact absurd h.h0 (by decide)
  | cons r0 rs =>
    have hc0 := h.c0
    have hc1 := h.c1
    have hr0 : r0.length = c := h.len r0 (List.mem_cons_self ..)
    have hb := compL_trues (f := compG ⟨[M_is_within], [], [(.int 96), (.int 12)], fun _ => none, fun _ _ => M.fail, []⟩ [.dat (.tuple ((r0 :: rs).map rowD)), .un, .un] (.bop .And (.cons (.bi (.isi .tuple) (.cons (.v 1) .nil)) (.cons (.cmp .Eq (.bi .len (.cons (.v 1) .nil)) (.bi .len (.cons (.ix (.v 0) (.i 0)) .nil))) .nil))) (.nm 1) .nil) (ds := (r0 :: rs).map rowD) (fun d hd => by
      obtain ⟨ms, hm, rfl⟩ := List.mem_map.mp hd
      have hl := h.len ms hm
      have at0 := at0 (x := D.tuple (r0.map .int)) (r := rs.map rowD)
      have e : ((ms.map D.int).length : Int) = ((r0.map D.int).length : Int) := by rw [List.length_map, List.length_map, hl, hr0]
      simp only [List.map_cons]
      simp only [compG, Nat.reduceAdd, Nat.reduceSub, Nat.zero_add, Nat.reduceEqDiff, EV1, EV2, EV3, EV4, EV5, EV6, rdS, rdI, argS, slotR, tgPut, wipeE, frzS, cmpI, decide_eq_true_eq, Bool.not_true, Bool.not_false, Option.map_some, Option.map_none, List.map_cons, List.map_nil, List.zip_cons_cons, List.zip_nil_right, List.zip_nil_left, List.foldl_cons, List.foldl_nil, if_true, if_false, bind_pure', Bool.and_true, Bool.or_false, Bool.and_false, Bool.or_true, Bool.true_and, Bool.false_and, Bool.true_or, Bool.false_or, if_neg Bool.false_ne_true, isT_tup, at0, rowD, decide_eq_true e]
      first | done | rfl)
    obtain ⟨n, hcs, hn⟩ := comp2L_trues (f := compH ⟨[M_is_within], [], [(.int 96), (.int 12)], fun _ => none, fun _ _ => M.fail, []⟩ [.dat (.tuple ((r0 :: rs).map rowD)), .un, .un] [2] (.call 0 (.cons (.v 2) (.cons (.i 0) (.cons (.gl 0) .nil)))) (.nm 1) (.nm 2) (.seq (.v 1)) .nil) (ds := (r0 :: rs).map rowD) (fun d hd => by
      obtain ⟨ms, hm, rfl⟩ := List.mem_map.mp hd
      have hl := h.len ms hm
      refine ⟨ms.length, ?_, by omega⟩
      have he := compL_trues (ds := ms.map D.int) (f := fun d1 => M.bind (M_is_within [.dat d1, .dat (.int 0), .dat (.int 96)]) fun a => M.ret (some a.data)) (fun d1 hd1 => by
        obtain ⟨i, hi, rfl⟩ := List.mem_map.mp hd1
        obtain ⟨w0, w1⟩ := h.wt ms hm i hi
        rw [m_within_ok w0 w1]
        rfl)
      rw [List.length_map] at he
      simp only [compH, Nat.reduceAdd, Nat.reduceSub, Nat.zero_add, Nat.reduceEqDiff, EV1, EV2, EV3, EV4, EV5, EV6, rdS, rdI, argS, slotR, tgPut, wipeE, frzS, cmpI, decide_eq_true_eq, Bool.not_true, Bool.not_false, Option.map_some, Option.map_none, List.map_cons, List.map_nil, List.zip_cons_cons, List.zip_nil_right, List.zip_nil_left, List.foldl_cons, List.foldl_nil, if_true, if_false, bind_pure', Bool.and_true, Bool.or_false, Bool.and_false, Bool.or_true, Bool.true_and, Bool.false_and, Bool.true_or, Bool.false_or, if_neg Bool.false_ne_true, rowD]
      exact he)
    have c2 : n ≤ sizeLine := by
      rw [List.length_map] at hn
      omega
    have c3 : ((List.replicate n true).map D.bool).length ≤ sizeLine := by rw [List.length_map, List.length_replicate]; exact c2
    have at0 := at0 (x := rowD r0) (r := rs.map rowD)
    have g1 : decide ((1 : Int) ≤ (((r0 :: rs).map rowD).length : Int)) = true := decide_eq_true (by rw [List.length_map, List.length_cons]; omega)
    have g2 : decide ((((r0 :: rs).map rowD).length : Int) ≤ 12) = true := decide_eq_true (by rw [List.length_map]; omega)
    have g3 : decide ((1 : Int) ≤ ((r0.map D.int).length : Int)) = true := decide_eq_true (by rw [List.length_map]; omega)
    have g4 : decide (((r0.map D.int).length : Int) ≤ 12) = true := decide_eq_true (by rw [List.length_map]; omega)
    have ex : rowD r0 = .tuple (r0.map .int) := rfl
    generalize hQ : (r0 :: rs).map rowD = Q at *
    have at0' : atI Q 0 = some (rowD r0) := by rw [← hQ]; exact at0
    simp only [Nat.reduceAdd, Nat.reduceSub, Nat.zero_add, Nat.reduceEqDiff, EV1, EV2, EV3, EV4, EV5, EV6, rdS, rdI, argS, slotR, tgPut, wipeE, frzS, cmpI, decide_eq_true_eq, Bool.not_true, Bool.not_false, Option.map_some, Option.map_none, List.map_cons, List.map_nil, List.zip_cons_cons, List.zip_nil_right, List.zip_nil_left, List.foldl_cons, List.foldl_nil, if_true, if_false, bind_pure', Bool.and_true, Bool.or_false, Bool.and_false, Bool.or_true, Bool.true_and, Bool.false_and, Bool.true_or, Bool.false_or, if_neg Bool.false_ne_true, isT_tup, if_pos hlen, hb, hcs, at0', all_true, if_pos c3, g1, g2, g3, g4, ex]
    first | done | rfl

structure ShufOk (is : List Int) : Prop where
  h0 : 1 ≤ is.length
  h1 : is.length ≤ 12
  srt : (sortI is).map D.int = rangeD 0 is.length
theorem m_order_ok {is : List Int} (h : ShufOk is) : M_is_order [.dat (.tuple (is.map .int))] = M.ret (.dat (.bool true)) := by
  have hS := sizeLine_big
  have h0 := h.h0
  have h1 := h.h1
  have hlen : (is.map D.int).length ≤ sizeLine := by rw [List.length_map]; omega
  unfold M_is_order b_is_order evF
  have hb := compL_trues (f := compG ⟨[M_is_whole], [], [(.int 12)], fun _ => none, fun _ _ => M.fail, []⟩ [.dat (.tuple (is.map .int)), .un] (.call 0 (.cons (.v 1) .nil)) (.nm 1) .nil) (ds := is.map D.int) (fun d hd => by
    obtain ⟨i, _, rfl⟩ := List.mem_map.mp hd
    have w : M_is_whole [.dat (.int i)] = M.ret (.dat (.bool true)) := by funext κ; rfl
    simp only [compG, Nat.reduceAdd, Nat.reduceSub, Nat.zero_add, Nat.reduceEqDiff, EV1, EV2, EV3, EV4, EV5, EV6, rdS, rdI, argS, slotR, tgPut, wipeE, frzS, cmpI, decide_eq_true_eq, Bool.not_true, Bool.not_false, Option.map_some, Option.map_none, List.map_cons, List.map_nil, List.zip_cons_cons, List.zip_nil_right, List.zip_nil_left, List.foldl_cons, List.foldl_nil, if_true, if_false, bind_pure', Bool.and_true, Bool.or_false, Bool.and_false, Bool.or_true, Bool.true_and, Bool.false_and, Bool.true_or, Bool.false_or, if_neg Bool.false_ne_true, w]
    first | done | rfl)
  have g1 : decide ((1 : Int) ≤ ((is.map D.int).length : Int)) = true := decide_eq_true (by rw [List.length_map]; omega)
  have g2 : decide (((is.map D.int).length : Int) ≤ 12) = true := decide_eq_true (by rw [List.length_map]; omega)
  have hr : ranS 0 ((is.map D.int).length : Int) = some (rangeD 0 is.length) := by
    rw [ranS_ok (by rw [List.length_map]; omega)]
    congr 2
    rw [List.length_map]
    omega
  have hrl : (rangeD 0 is.length).length ≤ 16777216 := by rw [rangeD_len]; omega
  have bs : ∀ κ, biS (.x .sort) κ [.tuple (is.map D.int)] = some (.new (.lst (rangeD 0 is.length))) := fun κ => by
    show bxS .sort κ [.tuple (is.map D.int)] = _
    unfold bxS
    simp only [sq_tup, ints_ok, Option.map_some, h.srt]
  have ce : ∀ κ, cmpD .Eq κ (.list (rangeD 0 is.length)) (.list (rangeD 0 is.length)) = some true := fun κ => by
    have e : D.list (rangeD 0 is.length) = .list ((sortI is).map D.int) := by rw [h.srt]
    rw [e]
    exact cmp_eq_self (dOks_ints _) (by show dDeps _ + 1 ≤ 64; rw [dDeps_ints]; decide)
  simp only [Nat.reduceAdd, Nat.reduceSub, Nat.zero_add, Nat.reduceEqDiff, EV1, EV2, EV3, EV4, EV5, EV6, rdS, rdI, argS, slotR, tgPut, wipeE, frzS, cmpI, decide_eq_true_eq, Bool.not_true, Bool.not_false, Option.map_some, Option.map_none, List.map_cons, List.map_nil, List.zip_cons_cons, List.zip_nil_right, List.zip_nil_left, List.foldl_cons, List.foldl_nil, if_true, if_false, bind_pure', Bool.and_true, Bool.or_false, Bool.and_false, Bool.or_true, Bool.true_and, Bool.false_and, Bool.true_or, Bool.false_or, if_neg Bool.false_ne_true, isT_tup, if_pos hlen, hb, all_true, g1, g2, hr, if_pos hrl, bs, ce]
  first | done | rfl
inductive Box : D → Int → Int → Prop
  | wire : Box (.tuple [.str "wire"]) 1 1
  | lag : Box (.tuple [.str "lag"]) 1 1
  | weigh {i : Int} : 0 ≤ i → i ≤ 96 → Box (.tuple [.str "weigh", .int i]) 1 1
  | copy {i : Int} : 0 ≤ i → i ≤ 4 → Box (.tuple [.str "copy", .int i]) 1 i
  | sum {i : Int} : 0 ≤ i → i ≤ 4 → Box (.tuple [.str "sum", .int i]) i 1
  | mix {rows : List (List Int)} {c : Nat} : MixOk rows c → Box (.tuple [.str "mix", .tuple (rows.map rowD)]) c rows.length
  | shuf {is : List Int} : ShufOk is → Box (.tuple [.str "shuffle", .tuple (is.map .int)]) is.length is.length
theorem Box.rng {d : D} {l r : Int} (h : Box d l r) : 0 ≤ l ∧ l ≤ 12 ∧ 0 ≤ r ∧ r ≤ 12 := by
  cases h with
  | mix h => have := h.h1; have := h.c1; omega
  | shuf h => have := h.h1; omega
  | _ => omega
def TabS : List (Str × D) := [("wire", .int 1), ("lag", .int 1), ("weigh", .int 2), ("copy", .int 2), ("sum", .int 2), ("mix", .int 2), ("shuffle", .int 2), ("use", .int 2), ("then", .int 2), ("beside", .int 2), ("turned", .int 2), ("ring", .int 2)]
theorem po_two {w : Str} {x : D} (hb : M_is_box [.dat (.tuple [.str w, x])] = M.ret (.dat (.bool true))) (a1 : List.lookup w TabS = some (.int 2)) (a2 : ∀ κ, cmpD .In κ (.str w) (.tuple [.str "turned", .str "ring"]) = some false) (a3 : ∀ κ, cmpD .In κ (.str w) (.tuple [.str "then", .str "beside"]) = some false) : PO (.tuple [.str w, x]) (some []) := by
  have a4 : atI [D.str w, x] 0 = some (.str w) := rfl
  unfold PO M_parts_of b_parts_of evF
  unfold TabS at a1
  simp only [Nat.reduceAdd, Nat.reduceSub, Nat.zero_add, Nat.reduceEqDiff, EV1, EV2, EV3, EV4, EV5, EV6, rdS, rdI, argS, slotR, tgPut, wipeE, frzS, cmpI, decide_eq_true_eq, Bool.not_true, Bool.not_false, Option.map_some, Option.map_none, List.map_cons, List.map_nil, List.zip_cons_cons, List.zip_nil_right, List.zip_nil_left, List.foldl_cons, List.foldl_nil, if_true, if_false, bind_pure', Bool.and_true, Bool.or_false, Bool.and_false, Bool.or_true, Bool.true_and, Bool.false_and, Bool.true_or, Bool.false_or, if_neg Bool.false_ne_true, isT_tup, isT_str, a1, a2, a3, a4, Option.getD_some, hb]
  first | done | rfl
theorem ib_fork {w : Str} {i : Int} (h0 : 0 ≤ i) (h1 : i ≤ 4) (c1 : ∀ κ, cmpD .In κ (.str w) (.tuple [.str "copy", .str "sum"]) = some true) : M_is_box [.dat (.tuple [.str w, .int i])] = M.ret (.dat (.bool true)) := by
  unfold M_is_box b_is_box evF
  have a4 : atI [D.str w, .int i] 0 = some (.str w) := rfl
  have a5 : atI [D.str w, .int i] 1 = some (.int i) := rfl
  simp only [Nat.reduceAdd, Nat.reduceSub, Nat.zero_add, Nat.reduceEqDiff, EV1, EV2, EV3, EV4, EV5, EV6, rdS, rdI, argS, slotR, tgPut, wipeE, frzS, cmpI, decide_eq_true_eq, Bool.not_true, Bool.not_false, Option.map_some, Option.map_none, List.map_cons, List.map_nil, List.zip_cons_cons, List.zip_nil_right, List.zip_nil_left, List.foldl_cons, List.foldl_nil, if_true, if_false, bind_pure', Bool.and_true, Bool.or_false, Bool.and_false, Bool.or_true, Bool.true_and, Bool.false_and, Bool.true_or, Bool.false_or, if_neg Bool.false_ne_true, a4, a5, c1, m_within_ok h0 h1]
theorem ib_mix {rows : List (List Int)} {c : Nat} (h : MixOk rows c) : M_is_box [.dat (.tuple [.str "mix", .tuple (rows.map rowD)])] = M.ret (.dat (.bool true)) := by
  unfold M_is_box b_is_box evF
  have c1 : ∀ κ, cmpD .In κ (.str "mix") (.tuple [.str "copy", .str "sum"]) = some false := fun κ => by kernel_rfl
  have c2 : ∀ κ, cmpD .Eq κ (.str "mix") (.str "weigh") = some false := fun κ => by kernel_rfl
  have c3 : ∀ κ, cmpD .Eq κ (.str "mix") (.str "mix") = some true := fun κ => by kernel_rfl
  have a4 : atI [D.str "mix", .tuple (rows.map rowD)] 0 = some (.str "mix") := rfl
  have a5 : atI [D.str "mix", .tuple (rows.map rowD)] 1 = some (.tuple (rows.map rowD)) := rfl
  simp only [Nat.reduceAdd, Nat.reduceSub, Nat.zero_add, Nat.reduceEqDiff, EV1, EV2, EV3, EV4, EV5, EV6, rdS, rdI, argS, slotR, tgPut, wipeE, frzS, cmpI, decide_eq_true_eq, Bool.not_true, Bool.not_false, Option.map_some, Option.map_none, List.map_cons, List.map_nil, List.zip_cons_cons, List.zip_nil_right, List.zip_nil_left, List.foldl_cons, List.foldl_nil, if_true, if_false, bind_pure', Bool.and_true, Bool.or_false, Bool.and_false, Bool.or_true, Bool.true_and, Bool.false_and, Bool.true_or, Bool.false_or, if_neg Bool.false_ne_true, a4, a5, c1, c2, c3, m_weights_ok h]
theorem ib_shuf {is : List Int} (h : ShufOk is) : M_is_box [.dat (.tuple [.str "shuffle", .tuple (is.map .int)])] = M.ret (.dat (.bool true)) := by
  unfold M_is_box b_is_box evF
  have c1 : ∀ κ, cmpD .In κ (.str "shuffle") (.tuple [.str "copy", .str "sum"]) = some false := fun κ => by kernel_rfl
  have c2 : ∀ κ, cmpD .Eq κ (.str "shuffle") (.str "weigh") = some false := fun κ => by kernel_rfl
  have c3 : ∀ κ, cmpD .Eq κ (.str "shuffle") (.str "mix") = some false := fun κ => by kernel_rfl
  have c4 : ∀ κ, cmpD .Eq κ (.str "shuffle") (.str "shuffle") = some true := fun κ => by kernel_rfl
  have a4 : atI [D.str "shuffle", .tuple (is.map .int)] 0 = some (.str "shuffle") := rfl
  have a5 : atI [D.str "shuffle", .tuple (is.map .int)] 1 = some (.tuple (is.map .int)) := rfl
  simp only [Nat.reduceAdd, Nat.reduceSub, Nat.zero_add, Nat.reduceEqDiff, EV1, EV2, EV3, EV4, EV5, EV6, rdS, rdI, argS, slotR, tgPut, wipeE, frzS, cmpI, decide_eq_true_eq, Bool.not_true, Bool.not_false, Option.map_some, Option.map_none, List.map_cons, List.map_nil, List.zip_cons_cons, List.zip_nil_right, List.zip_nil_left, List.foldl_cons, List.foldl_nil, if_true, if_false, bind_pure', Bool.and_true, Bool.or_false, Bool.and_false, Bool.or_true, Bool.true_and, Bool.false_and, Bool.true_or, Bool.false_or, if_neg Bool.false_ne_true, a4, a5, c1, c2, c3, c4, m_order_ok h]
theorem Box.po {d : D} {l r : Int} (h : Box d l r) : PO d (some []) := by
  cases h with
  | wire => exact po_wire
  | lag => exact po_lag
  | weigh h0 h1 => exact po_weigh h0 h1
  | copy h0 h1 => exact po_two (ib_fork h0 h1 fun κ => by kernel_rfl) (by rfl) (fun κ => by kernel_rfl) fun κ => by kernel_rfl
  | sum h0 h1 => exact po_two (ib_fork h0 h1 fun κ => by kernel_rfl) (by rfl) (fun κ => by kernel_rfl) fun κ => by kernel_rfl
  | mix h => exact po_two (ib_mix h) (by rfl) (fun κ => by kernel_rfl) fun κ => by kernel_rfl
  | shuf h => exact po_two (ib_shuf h) (by rfl) (fun κ => by kernel_rfl) fun κ => by kernel_rfl
theorem Box.ok {d : D} {l r : Int} (h : Box d l r) : dOk d = true ∧ dDep d ≤ 3 ∧ ∃ (w : Str) (t : List D), d = .tuple (.str w :: t) ∧ PyData.strOk w = true ∧ w ≠ "use" := by
  cases h with
  | wire => exact ⟨by decide +kernel, by decide +kernel, _, _, rfl, by decide +kernel, by decide +kernel⟩
  | lag => exact ⟨by decide +kernel, by decide +kernel, _, _, rfl, by decide +kernel, by decide +kernel⟩
  | weigh _ _ => exact ⟨show (PyData.strOk "weigh" && (true && true)) = true by decide +kernel, show 1 ≤ 3 by decide, _, _, rfl, by decide +kernel, by decide +kernel⟩
  | copy _ _ => exact ⟨show (PyData.strOk "copy" && (true && true)) = true by decide +kernel, show 1 ≤ 3 by decide, _, _, rfl, by decide +kernel, by decide +kernel⟩
  | sum _ _ => exact ⟨show (PyData.strOk "sum" && (true && true)) = true by decide +kernel, show 1 ≤ 3 by decide, _, _, rfl, by decide +kernel, by decide +kernel⟩
  | @mix rows c h =>
    refine ⟨?_, ?_, _, _, rfl, by decide +kernel, by decide +kernel⟩
    · show (PyData.strOk "mix" && (dOks (rows.map rowD) && true)) = true
      rw [dOks_of fun d hd => by
        obtain ⟨ns, _, rfl⟩ := List.mem_map.mp hd
        exact dOks_ints ns]
      decide +kernel
    · have := dDeps_of (n := 1) (ds := rows.map rowD) fun d hd => by
        obtain ⟨ns, _, rfl⟩ := List.mem_map.mp hd
        show dDeps (ns.map D.int) + 1 ≤ 1
        rw [dDeps_ints]
        exact Nat.le_refl _
      show max 0 (max (dDeps (rows.map rowD) + 1) 0) + 1 ≤ 3
      omega
  | @shuf is h =>
    refine ⟨?_, ?_, _, _, rfl, by decide +kernel, by decide +kernel⟩
    · show (PyData.strOk "shuffle" && (dOks (is.map D.int) && true)) = true
      rw [dOks_ints]
      decide +kernel
    · show max 0 (max (dDeps (is.map D.int) + 1) 0) + 1 ≤ 3
      rw [dDeps_ints]
      decide
def shpD (l r : Int) : D := .tuple [.int l, .int r]
theorem Box.bs {d : D} {l r : Int} (h : Box d l r) : M_box_shape [.dat d] = M.ret (.dat (shpD l r)) := by
  cases h with
  | wire => funext κ; kernel_rfl
  | lag => funext κ; kernel_rfl
  | weigh _ _ => funext κ; kernel_rfl
  | copy _ _ => funext κ; kernel_rfl
  | sum _ _ => funext κ; kernel_rfl
  | @mix rows c h =>
    cases rows with
    | nil => exact absurd h.h0 (by decide)
    | cons r0 rs =>
      have hl := h.len r0 (List.mem_cons_self ..)
      have c1 : ∀ κ, cmpD .Eq κ (.str "mix") (.str "copy") = some false := fun κ => by kernel_rfl
      have c2 : ∀ κ, cmpD .Eq κ (.str "mix") (.str "sum") = some false := fun κ => by kernel_rfl
      have c3 : ∀ κ, cmpD .Eq κ (.str "mix") (.str "mix") = some true := fun κ => by kernel_rfl
      have a4 : atI [D.str "mix", .tuple ((r0 :: rs).map rowD)] 0 = some (.str "mix") := rfl
      have a5 : atI [D.str "mix", .tuple ((r0 :: rs).map rowD)] 1 = some (.tuple ((r0 :: rs).map rowD)) := rfl
      have at0 : atI ((r0 :: rs).map rowD) 0 = some (.tuple (r0.map .int)) := at0
      have e1 : ((r0.map D.int).length : Int) = (c : Int) := by rw [List.length_map, hl]
      have e2 : (((r0 :: rs).map rowD).length : Int) = ((r0 :: rs).length : Int) := by rw [List.length_map]
      unfold M_box_shape b_box_shape evF
      generalize hQ : (r0 :: rs).map rowD = Q at *
      simp only [Nat.reduceAdd, Nat.reduceSub, Nat.zero_add, Nat.reduceEqDiff, EV1, EV2, EV3, EV4, EV5, EV6, rdS, rdI, argS, slotR, tgPut, wipeE, frzS, cmpI, decide_eq_true_eq, Bool.not_true, Bool.not_false, Option.map_some, Option.map_none, List.map_cons, List.map_nil, List.zip_cons_cons, List.zip_nil_right, List.zip_nil_left, List.foldl_cons, List.foldl_nil, if_true, if_false, bind_pure', Bool.and_true, Bool.or_false, Bool.and_false, Bool.or_true, Bool.true_and, Bool.false_and, Bool.true_or, Bool.false_or, if_neg Bool.false_ne_true, a4, a5, at0, c1, c2, c3, e1, e2]
      first | done | rfl
  | @shuf is h =>
    have c1 : ∀ κ, cmpD .Eq κ (.str "shuffle") (.str "copy") = some false := fun κ => by kernel_rfl
    have c2 : ∀ κ, cmpD .Eq κ (.str "shuffle") (.str "sum") = some false := fun κ => by kernel_rfl
    have c3 : ∀ κ, cmpD .Eq κ (.str "shuffle") (.str "mix") = some false := fun κ => by kernel_rfl
    have c4 : ∀ κ, cmpD .Eq κ (.str "shuffle") (.str "shuffle") = some true := fun κ => by kernel_rfl
    have a4 : atI [D.str "shuffle", .tuple (is.map .int)] 0 = some (.str "shuffle") := rfl
    have a5 : atI [D.str "shuffle", .tuple (is.map .int)] 1 = some (.tuple (is.map .int)) := rfl
    unfold M_box_shape b_box_shape evF
    simp only [Nat.reduceAdd, Nat.reduceSub, Nat.zero_add, Nat.reduceEqDiff, EV1, EV2, EV3, EV4, EV5, EV6, rdS, rdI, argS, slotR, tgPut, wipeE, frzS, cmpI, decide_eq_true_eq, Bool.not_true, Bool.not_false, Option.map_some, Option.map_none, List.map_cons, List.map_nil, List.zip_cons_cons, List.zip_nil_right, List.zip_nil_left, List.foldl_cons, List.foldl_nil, if_true, if_false, bind_pure', Bool.and_true, Bool.or_false, Bool.and_false, Bool.or_true, Bool.true_and, Bool.false_and, Bool.true_or, Bool.false_or, if_neg Bool.false_ne_true, a4, a5, c1, c2, c3, c4, List.length_map]
    first | done | rfl

mutual
/-- a good wiring of at most n levels: its boxes, its left and right ends -/
inductive Wg : Nat → D → List D → Int → Int → Prop
  | box {n : Nat} {d : D} {l r : Int} : Box d l r → Wg (n + 1) d [d] l r
  | trn {n : Nat} {d : D} {ls : List D} {l r : Int} : Wg n d ls l r → Wg (n + 1) (.tuple [.str "turned", d]) ls r l
  | rng {n : Nat} {d : D} {ls : List D} {l r : Int} : Wg n d ls (l + 1) (r + 1) → 0 ≤ l → 0 ≤ r → Wg (n + 1) (.tuple [.str "ring", d]) ls l r
  | bes {n : Nat} {ds ls : List D} {l r : Int} : WgL n ds ls l r → 1 ≤ ds.length → ds.length ≤ 12 → l ≤ 12 → r ≤ 12 → Wg (n + 1) (.tuple [.str "beside", .tuple ds]) ls l r
  | thn {n : Nat} {ds ls : List D} {l r : Int} : WgC n ds ls l r → ds.length ≤ 12 → Wg (n + 1) (.tuple [.str "then", .tuple ds]) ls l r
/-- .. one below the other -/
inductive WgL : Nat → List D → List D → Int → Int → Prop
  | nil {n : Nat} : WgL n [] [] 0 0
  | cons {n : Nat} {d : D} {ds ls ls' : List D} {l r l' r' : Int} : Wg n d ls l r → WgL n ds ls' l' r' → WgL n (d :: ds) (ls ++ ls') (l + l') (r + r')
/-- .. one behind the other -/
inductive WgC : Nat → List D → List D → Int → Int → Prop
  | one {n : Nat} {d : D} {ls : List D} {l r : Int} : Wg n d ls l r → WgC n [d] ls l r
  | cons {n : Nat} {d : D} {ds ls ls' : List D} {l m r : Int} : Wg n d ls l m → WgC n ds ls' m r → WgC n (d :: ds) (ls ++ ls') l r
end
mutual
theorem Wg.rng' : ∀ {n : Nat} {d : D} {ls : List D} {l r : Int}, Wg n d ls l r → 0 ≤ l ∧ l ≤ 12 ∧ 0 ≤ r ∧ r ≤ 12
  | _, _, _, _, _, .box h => h.rng
  | _, _, _, _, _, .trn h => by
    have := Wg.rng' h
    omega
  | _, _, _, _, _, .rng h _ _ => by
    have := Wg.rng' h
    omega
  | _, _, _, _, _, .bes h _ _ _ _ => by
    have := WgL.rng' h
    omega
  | _, _, _, _, _, .thn h _ => WgC.rng' h
theorem WgL.rng' : ∀ {n : Nat} {ds ls : List D} {l r : Int}, WgL n ds ls l r → 0 ≤ l ∧ 0 ≤ r
  | _, _, _, _, _, .nil => ⟨Int.le_refl _, Int.le_refl _⟩
  | _, _, _, _, _, .cons h t => by
    have := Wg.rng' h
    have := WgL.rng' t
    omega
theorem WgC.rng' : ∀ {n : Nat} {ds ls : List D} {l r : Int}, WgC n ds ls l r → 0 ≤ l ∧ l ≤ 12 ∧ 0 ≤ r ∧ r ≤ 12
  | _, _, _, _, _, .one h => Wg.rng' h
  | _, _, _, _, _, .cons h t => by
    have := Wg.rng' h
    have := WgC.rng' t
    omega
end
mutual
theorem Wg.up : ∀ {n : Nat} {d : D} {ls : List D} {l r : Int}, Wg n d ls l r → Wg (n + 1) d ls l r
  | _, _, _, _, _, .box h => .box h
  | _, _, _, _, _, .trn h => .trn (Wg.up h)
  | _, _, _, _, _, .rng h a b => .rng (Wg.up h) a b
  | _, _, _, _, _, .bes h a b c d => .bes (WgL.up h) a b c d
  | _, _, _, _, _, .thn h a => .thn (WgC.up h) a
theorem WgL.up : ∀ {n : Nat} {ds ls : List D} {l r : Int}, WgL n ds ls l r → WgL (n + 1) ds ls l r
  | _, _, _, _, _, .nil => .nil
  | _, _, _, _, _, .cons h t => .cons (Wg.up h) (WgL.up t)
theorem WgC.up : ∀ {n : Nat} {ds ls : List D} {l r : Int}, WgC n ds ls l r → WgC (n + 1) ds ls l r
  | _, _, _, _, _, .one h => .one (Wg.up h)
  | _, _, _, _, _, .cons h t => .cons (Wg.up h) (WgC.up t)
end
theorem Wg.mono {n m : Nat} {d : D} {ls : List D} {l r : Int} (h : Wg n d ls l r) (e : n ≤ m) : Wg m d ls l r := by
  obtain ⟨k, rfl⟩ := Nat.le.dest e
  induction k with
  | zero => exact h
  | succ k ih => exact (ih (by omega)).up
theorem WgL.mono {n m : Nat} {d : List D} {ls : List D} {l r : Int} (h : WgL n d ls l r) (e : n ≤ m) : WgL m d ls l r := by
  obtain ⟨k, rfl⟩ := Nat.le.dest e
  induction k with
  | zero => exact h
  | succ k ih => exact (ih (by omega)).up
theorem WgC.mono {n m : Nat} {d : List D} {ls : List D} {l r : Int} (h : WgC n d ls l r) (e : n ≤ m) : WgC m d ls l r := by
  obtain ⟨k, rfl⟩ := Nat.le.dest e
  induction k with
  | zero => exact h
  | succ k ih => exact (ih (by omega)).up
mutual
theorem Wg.ok : ∀ {n : Nat} {d : D} {ls : List D} {l r : Int}, Wg n d ls l r → dOk d = true ∧ dDep d ≤ 2 * n + 1
  | n + 1, _, _, _, _, .box h => ⟨h.ok.1, by have := h.ok.2.1; omega⟩
  | n + 1, _, _, _, _, .trn (d := d) h => by
    obtain ⟨h1, h2⟩ := Wg.ok h
    refine ⟨?_, ?_⟩
    · show (PyData.strOk "turned" && (dOk d && true)) = true
      rw [h1]
      decide +kernel
    · show max 0 (max (dDep d) 0) + 1 ≤ _
      omega
  | n + 1, _, _, _, _, .rng (d := d) h _ _ => by
    obtain ⟨h1, h2⟩ := Wg.ok h
    refine ⟨?_, ?_⟩
    · show (PyData.strOk "ring" && (dOk d && true)) = true
      rw [h1]
      decide +kernel
    · show max 0 (max (dDep d) 0) + 1 ≤ _
      omega
  | n + 1, _, _, _, _, .bes (ds := ds) h _ _ _ _ => by
    obtain ⟨h1, h2⟩ := WgL.ok h
    refine ⟨?_, ?_⟩
    · show (PyData.strOk "beside" && (dOks ds && true)) = true
      rw [h1]
      decide +kernel
    · show max 0 (max (dDeps ds + 1) 0) + 1 ≤ _
      omega
  | n + 1, _, _, _, _, .thn (ds := ds) h _ => by
    obtain ⟨h1, h2⟩ := WgC.ok h
    refine ⟨?_, ?_⟩
    · show (PyData.strOk "then" && (dOks ds && true)) = true
      rw [h1]
      decide +kernel
    · show max 0 (max (dDeps ds + 1) 0) + 1 ≤ _
      omega
theorem WgL.ok : ∀ {n : Nat} {ds ls : List D} {l r : Int}, WgL n ds ls l r → dOks ds = true ∧ dDeps ds ≤ 2 * n + 1
  | _, _, _, _, _, .nil => ⟨rfl, Nat.zero_le _⟩
  | _, _, _, _, _, .cons (d := d) (ds := ds) h t => by
    obtain ⟨h1, h2⟩ := Wg.ok h
    obtain ⟨h3, h4⟩ := WgL.ok t
    refine ⟨?_, ?_⟩
    · show (dOk d && dOks ds) = true
      rw [h1, h3]
      rfl
    · show max (dDep d) (dDeps ds) ≤ _
      omega
theorem WgC.ok : ∀ {n : Nat} {ds ls : List D} {l r : Int}, WgC n ds ls l r → dOks ds = true ∧ dDeps ds ≤ 2 * n + 1
  | _, _, _, _, _, .one (d := d) h => by
    obtain ⟨h1, h2⟩ := Wg.ok h
    refine ⟨?_, ?_⟩
    · show (dOk d && true) = true
      rw [h1]
      rfl
    · show max (dDep d) 0 ≤ _
      omega
  | _, _, _, _, _, .cons (d := d) (ds := ds) h t => by
    obtain ⟨h1, h2⟩ := Wg.ok h
    obtain ⟨h3, h4⟩ := WgC.ok t
    refine ⟨?_, ?_⟩
    · show (dOk d && dOks ds) = true
      rw [h1, h3]
      rfl
    · show max (dDep d) (dDeps ds) ≤ _
      omega
end
theorem WgC.ne {n : Nat} {ds ls : List D} {l r : Int} (h : WgC n ds ls l r) : 1 ≤ ds.length := by
  cases h with
  | one _ => exact Nat.le_refl _
  | cons _ _ => exact Nat.succ_le_succ (Nat.zero_le _)
/-! ### shapes -/
def encP (p : Int × Int) : D := shpD p.1 p.2
theorem js_beside (ps : List (Int × Int)) (hl : ps.length ≤ 100) : M_joined_shape [.dat (.str "beside"), .dat (.list (ps.map encP))] = M.ret (.dat (shpD (ps.map (·.1)).sum (ps.map (·.2)).sum)) := by
  have hS := sizeLine_big
  have hlen : (ps.map encP).length ≤ sizeLine := by rw [List.length_map]; omega
  have c1 : ∀ κ, cmpD .Eq κ (.str "beside") (.str "beside") = some true := fun κ => by kernel_rfl
  have e1 : compL (compG ⟨[], [], [], fun _ => none, fun _ _ => M.fail, []⟩ [.dat (.str "beside"), .dat (.list (ps.map encP)), .un, .un] (.ix (.v 2) (.i 0)) (.nm 2) .nil) (ps.map encP) = M.ret ((ps.map (·.1)).map .int) := by
    rw [compL_mapF (h := fun p => .int p.1) fun p hp => ?_, List.map_map]
    · rfl
    · have a : atI [D.int p.1, .int p.2] 0 = some (.int p.1) := rfl
      simp only [compG, Nat.reduceAdd, Nat.reduceSub, Nat.zero_add, Nat.reduceEqDiff, EV1, EV2, EV3, EV4, EV5, EV6, rdS, rdI, argS, slotR, tgPut, wipeE, frzS, cmpI, decide_eq_true_eq, Bool.not_true, Bool.not_false, Option.map_some, Option.map_none, List.map_cons, List.map_nil, List.zip_cons_cons, List.zip_nil_right, List.zip_nil_left, List.foldl_cons, List.foldl_nil, if_true, if_false, bind_pure', Bool.and_true, Bool.or_false, Bool.and_false, Bool.or_true, Bool.true_and, Bool.false_and, Bool.true_or, Bool.false_or, if_neg Bool.false_ne_true, encP, shpD, a]
  have e2 : compL (compG ⟨[], [], [], fun _ => none, fun _ _ => M.fail, []⟩ [.dat (.str "beside"), .dat (.list (ps.map encP)), .un, .un] (.ix (.v 2) (.i 1)) (.nm 2) .nil) (ps.map encP) = M.ret ((ps.map (·.2)).map .int) := by
    rw [compL_mapF (h := fun p => .int p.2) fun p hp => ?_, List.map_map]
    · rfl
    · have a : atI [D.int p.1, .int p.2] 1 = some (.int p.2) := rfl
      simp only [compG, Nat.reduceAdd, Nat.reduceSub, Nat.zero_add, Nat.reduceEqDiff, EV1, EV2, EV3, EV4, EV5, EV6, rdS, rdI, argS, slotR, tgPut, wipeE, frzS, cmpI, decide_eq_true_eq, Bool.not_true, Bool.not_false, Option.map_some, Option.map_none, List.map_cons, List.map_nil, List.zip_cons_cons, List.zip_nil_right, List.zip_nil_left, List.foldl_cons, List.foldl_nil, if_true, if_false, bind_pure', Bool.and_true, Bool.or_false, Bool.and_false, Bool.or_true, Bool.true_and, Bool.false_and, Bool.true_or, Bool.false_or, if_neg Bool.false_ne_true, encP, shpD, a]
  have s1 : ∀ (ns : List Int) κ, biS .sum κ [.list (ns.map .int)] = some (.dat (.int ns.sum)) := fun ns κ => by
    show (intsOf (ns.map .int)).map (fun (is : List Int) => Rs.dat (.int is.sum)) = _
    rw [ints_ok]
    rfl
  unfold M_joined_shape b_joined_shape evF
  simp only [Nat.reduceAdd, Nat.reduceSub, Nat.zero_add, Nat.reduceEqDiff, EV1, EV2, EV3, EV4, EV5, EV6, rdS, rdI, argS, slotR, tgPut, wipeE, frzS, cmpI, decide_eq_true_eq, Bool.not_true, Bool.not_false, Option.map_some, Option.map_none, List.map_cons, List.map_nil, List.zip_cons_cons, List.zip_nil_right, List.zip_nil_left, List.foldl_cons, List.foldl_nil, if_true, if_false, bind_pure', Bool.and_true, Bool.or_false, Bool.and_false, Bool.or_true, Bool.true_and, Bool.false_and, Bool.true_or, Bool.false_or, if_neg Bool.false_ne_true, c1, if_pos hlen, e1, e2, s1]
  first | done | rfl
theorem js_turned (l r : Int) : M_joined_shape [.dat (.str "turned"), .dat (.list [shpD l r])] = M.ret (.dat (shpD r l)) := by
  funext κ
  kernel_rfl
theorem in_two {l r : Int} (hl : 0 < l) (hr : 0 < r) (κ : Ks) : cmpD .In κ (.int 0) (.tuple [.int l, .int r]) = some false := by
  show some (inV (.int 0) [.int l, .int r]) = some false
  have h1 : eqV (V.int l) (V.int 0) = false := decide_eq_false (by omega)
  have h2 : eqV (V.int r) (V.int 0) = false := decide_eq_false (by omega)
  simp [inV, h1, h2]
theorem js_ring {l r : Int} (hl : 0 < l) (hr : 0 < r) : M_joined_shape [.dat (.str "ring"), .dat (.list [shpD l r])] = M.ret (.dat (shpD (l - 1) (r - 1))) := by
  have c1 : ∀ κ, cmpD .Eq κ (.str "ring") (.str "beside") = some false := fun κ => by kernel_rfl
  have c2 : ∀ κ, cmpD .Eq κ (.str "ring") (.str "turned") = some false := fun κ => by kernel_rfl
  have c3 : ∀ κ, cmpD .Eq κ (.str "ring") (.str "ring") = some true := fun κ => by kernel_rfl
  have a0 : atI [D.tuple [.int l, .int r]] 0 = some (.tuple [.int l, .int r]) := rfl
  have a1 : atI [D.int l, .int r] 0 = some (.int l) := rfl
  have a2 : atI [D.int l, .int r] 1 = some (.int r) := rfl
  unfold M_joined_shape b_joined_shape evF
  simp only [Nat.reduceAdd, Nat.reduceSub, Nat.zero_add, Nat.reduceEqDiff, EV1, EV2, EV3, EV4, EV5, EV6, rdS, rdI, argS, slotR, tgPut, wipeE, frzS, cmpI, decide_eq_true_eq, Bool.not_true, Bool.not_false, Option.map_some, Option.map_none, List.map_cons, List.map_nil, List.zip_cons_cons, List.zip_nil_right, List.zip_nil_left, List.foldl_cons, List.foldl_nil, if_true, if_false, bind_pure', Bool.and_true, Bool.or_false, Bool.and_false, Bool.or_true, Bool.true_and, Bool.false_and, Bool.true_or, Bool.false_or, if_neg Bool.false_ne_true, c1, c2, c3, shpD, a0, a1, a2, in_two hl hr]
  first | done | rfl
/-- the ends between fit -/
def chainP : List (Int × Int) → Bool
  | p :: q :: ps => decide (p.2 = q.1) && chainP (q :: ps)
  | _ => true
theorem chain_at : ∀ {ps : List (Int × Int)} {k : Nat} {p q : Int × Int}, chainP ps = true → ps[k]? = some p → ps[k + 1]? = some q → p.2 = q.1
  | [], _, _, _, _, h, _ => by simp at h
  | [_], k, _, _, _, _, h => by
    cases k <;> simp at h
  | a :: b :: ps, 0, p, q, hc, h1, h2 => by
    have hc' : (decide (a.2 = b.1) && chainP (b :: ps)) = true := hc
    simp only [Bool.and_eq_true, decide_eq_true_eq] at hc'
    have e1 : a = p := by simpa using h1
    have e2 : b = q := by simpa using h2
    rw [← e1, ← e2]
    exact hc'.1
  | a :: b :: ps, k + 1, p, q, hc, h1, h2 => by
    have hc' : (decide (a.2 = b.1) && chainP (b :: ps)) = true := hc
    simp only [Bool.and_eq_true, decide_eq_true_eq] at hc'
    exact chain_at (k := k) hc'.2 (by simpa using h1) (by simpa using h2)
theorem js_then {ps : List (Int × Int)} {p q : Int × Int} (hc : chainP ps = true) (hp : ps.head? = some p) (hq : ps.getLast? = some q) (hl : ps.length ≤ 100) : M_joined_shape [.dat (.str "then"), .dat (.list (ps.map encP))] = M.ret (.dat (shpD p.1 q.2)) := by
  have hS := sizeLine_big
  have hne : ps ≠ [] := fun z => by rw [z] at hp; cases hp
  have hlen0 : 0 < ps.length := List.length_pos_iff.mpr hne
  have c1 : ∀ κ, cmpD .Eq κ (.str "then") (.str "beside") = some false := fun κ => by kernel_rfl
  have c2 : ∀ κ, cmpD .Eq κ (.str "then") (.str "turned") = some false := fun κ => by kernel_rfl
  have c3 : ∀ κ, cmpD .Eq κ (.str "then") (.str "ring") = some false := fun κ => by kernel_rfl
  have hr : ranS 1 ((ps.map encP).length : Int) = some (rangeD 1 (ps.length - 1)) := by
    rw [ranS_ok (by rw [List.length_map]; omega)]
    congr 2
    rw [List.length_map]
    omega
  have hrl : (rangeD 1 (ps.length - 1)).length ≤ sizeLine := by rw [rangeD_len]; omega
  have gett : ∀ k (hk : k < ps.length), atI (ps.map encP) (k : Int) = some (.tuple [.int ps[k].1, .int ps[k].2]) := fun k hk => by
    rw [atI_nat' (by rw [List.length_map]; exact hk), List.getElem_map]
    rfl
  have hb := compL_trues (f := compG ⟨[], [], [], fun _ => none, fun _ _ => M.fail, []⟩ [.dat (.str "then"), .dat (.list (ps.map encP)), .un, .un] (.cmp .Eq (.ix (.ix (.v 1) (.bin .Sub (.v 3) (.i 1))) (.i 1)) (.ix (.ix (.v 1) (.v 3)) (.i 0))) (.nm 3) .nil) (ds := rangeD 1 (ps.length - 1)) (fun d hd => by
    obtain ⟨i, hi, rfl⟩ := rangeD_mem hd
    have h1 : i < ps.length := by omega
    have h2 : i + 1 < ps.length := by omega
    have g1 := gett i h1
    have g2 := gett (i + 1) h2
    have ec := chain_at hc (List.getElem?_eq_getElem h1) (List.getElem?_eq_getElem h2)
    have e1 : (1 : Int) + (i : Int) - 1 = (i : Int) := by omega
    have e2 : (1 : Int) + (i : Int) = ((i + 1 : Nat) : Int) := by omega
    have a1 : atI [D.int ps[i].1, .int ps[i].2] 1 = some (.int ps[i].2) := rfl
    have a2 : atI [D.int ps[i + 1].1, .int ps[i + 1].2] 0 = some (.int ps[i + 1].1) := rfl
    simp only [compG, Nat.reduceAdd, Nat.reduceSub, Nat.zero_add, Nat.reduceEqDiff, EV1, EV2, EV3, EV4, EV5, EV6, rdS, rdI, argS, slotR, tgPut, wipeE, frzS, cmpI, decide_eq_true_eq, Bool.not_true, Bool.not_false, Option.map_some, Option.map_none, List.map_cons, List.map_nil, List.zip_cons_cons, List.zip_nil_right, List.zip_nil_left, List.foldl_cons, List.foldl_nil, if_true, if_false, bind_pure', Bool.and_true, Bool.or_false, Bool.and_false, Bool.or_true, Bool.true_and, Bool.false_and, Bool.true_or, Bool.false_or, if_neg Bool.false_ne_true, e1, g1, a1]
    rw [e2]
    simp only [g2, Nat.reduceAdd, Nat.reduceSub, Nat.zero_add, Nat.reduceEqDiff, EV1, EV2, EV3, EV4, EV5, EV6, rdS, rdI, argS, slotR, tgPut, wipeE, frzS, cmpI, decide_eq_true_eq, Bool.not_true, Bool.not_false, Option.map_some, Option.map_none, List.map_cons, List.map_nil, List.zip_cons_cons, List.zip_nil_right, List.zip_nil_left, List.foldl_cons, List.foldl_nil, if_true, if_false, bind_pure', Bool.and_true, Bool.or_false, Bool.and_false, Bool.or_true, Bool.true_and, Bool.false_and, Bool.true_or, Bool.false_or, if_neg Bool.false_ne_true, a2, decide_eq_true ec])
  have g0 : atI (ps.map encP) 0 = some (.tuple [.int p.1, .int p.2]) := by
    cases ps with
    | nil => cases hp
    | cons a r =>
      have e : a = p := by simpa using hp
      subst e
      exact at0
  have gl : atI (ps.map encP) (-1) = some (.tuple [.int q.1, .int q.2]) := by
    have hm : ps.map encP ≠ [] := fun z => hne (List.map_eq_nil_iff.mp z)
    rw [atI_last' hm, List.getLast_map]
    have e : ps.getLast hne = q := by
      rw [List.getLast?_eq_some_getLast hne] at hq
      exact Option.some.inj hq
    rw [e]
    rfl
  have a1 : atI [D.int p.1, .int p.2] 0 = some (.int p.1) := rfl
  have a2 : atI [D.int q.1, .int q.2] 1 = some (.int q.2) := rfl
  have ng : (-(1 : Int)) = -1 := rfl
  unfold M_joined_shape b_joined_shape evF
  simp only [Nat.reduceAdd, Nat.reduceSub, Nat.zero_add, Nat.reduceEqDiff, EV1, EV2, EV3, EV4, EV5, EV6, rdS, rdI, argS, slotR, tgPut, wipeE, frzS, cmpI, decide_eq_true_eq, Bool.not_true, Bool.not_false, Option.map_some, Option.map_none, List.map_cons, List.map_nil, List.zip_cons_cons, List.zip_nil_right, List.zip_nil_left, List.foldl_cons, List.foldl_nil, if_true, if_false, bind_pure', Bool.and_true, Bool.or_false, Bool.and_false, Bool.or_true, Bool.true_and, Bool.false_and, Bool.true_or, Bool.false_or, if_neg Bool.false_ne_true, c1, c2, c3, hr, if_pos hrl, hb, all_true, g0, gl, a1, a2]
  first | done | rfl

/-! ### the shape of a good wiring -/
theorem cmp_nil' {ps : List D} (h : dOks ps = true) (hd : dDeps ps ≤ 60) : ∀ κ, cmpD .Eq κ (.list ps) (.list []) = some (decide (ps = [])) := fun κ => by
  have h2 : dDep (.list ps) ≤ 64 := by show dDeps ps + 1 ≤ 64; omega
  cases ps with
  | nil => exact (cmp_eq_self (x := .list []) rfl (by decide)).trans (by simp)
  | cons q wl =>
    rw [cmp_eq_ne (show dOk (.list (q :: wl)) = true from h) (show dOk (.list []) = true from rfl) h2 (show dDep (.list []) ≤ 64 by decide) (by simp)]
    simp
theorem max2 {l r : Int} (κ : Ks) : biS (.x .maxq) κ [.tuple [.int l, .int r]] = some (.dat (.int (max l r))) := rfl
/-- a box -/
theorem so_box {n : Nat} {d : D} {l r : Int} (p : PO d (some [])) (b : M_box_shape [.dat d] = M.ret (.dat (shpD l r))) (hl : l ≤ 12) (hr : r ≤ 12) : M_shape_of (n + 1) [.dat d] = M.ret (.dat (shpD l r)) := by
  have pc : M_parts_of [.dat d] = M.ret (.new (.lst [])) := p
  have c := cmp_nil' (ps := []) rfl (by decide)
  have hm : decide ((12 : Int) < max l r) = false := decide_eq_false (by omega)
  unfold M_shape_of b_shape_of evF
  simp only [Nat.reduceAdd, Nat.reduceSub, Nat.zero_add, Nat.reduceEqDiff, EV1, EV2, EV3, EV4, EV5, EV6, rdS, rdI, argS, slotR, tgPut, wipeE, frzS, cmpI, decide_eq_true_eq, Bool.not_true, Bool.not_false, Option.map_some, Option.map_none, List.map_cons, List.map_nil, List.zip_cons_cons, List.zip_nil_right, List.zip_nil_left, List.foldl_cons, List.foldl_nil, if_true, if_false, bind_pure', Bool.and_true, Bool.or_false, Bool.and_false, Bool.or_true, Bool.true_and, Bool.false_and, Bool.true_or, Bool.false_or, if_neg Bool.false_ne_true, pc, c, b, decide_true, shpD, max2, hm]
  first | done | rfl
/-- what is joined -/
theorem so_join {n : Nat} {w : Str} {x : D} {ps : List D} {ss : List (Int × Int)} {l r : Int} (p : PO (.tuple [.str w, x]) (some ps)) (hne : ps ≠ []) (h1 : dOks ps = true) (h2 : dDeps ps ≤ 60) (hl : ps.length ≤ 12)
    (hs : compL (fun d => .bind (M_shape_of n [.dat d]) fun a => .ret (some a.data)) ps = M.ret (ss.map encP)) (hj : M_joined_shape [.dat (.str w), .dat (.list (ss.map encP))] = M.ret (.dat (shpD l r))) (hl' : l ≤ 12) (hr : r ≤ 12) : M_shape_of (n + 1) [.dat (.tuple [.str w, x])] = M.ret (.dat (shpD l r)) := by
  have hS := sizeLine_big
  have pc : M_parts_of [.dat (.tuple [.str w, x])] = M.ret (.new (.lst ps)) := p
  have c := cmp_nil' h1 h2
  have hm : decide ((12 : Int) < max l r) = false := decide_eq_false (by omega)
  have hlen : ps.length ≤ sizeLine := by omega
  have a4 : atI [D.str w, x] 0 = some (.str w) := rfl
  have comp : compL (compX1 ⟨[M_box_shape, M_joined_shape, (M_shape_of n), M_parts_of], [], [(.int 12)], fun _ => none, fun _ _ => M.fail, []⟩ [.dat (.tuple [.str w, x]), .dat (.list ps), .un, .un] 3 (.call 2 (.cons (.v 3) .nil))) ps = M.ret (ss.map encP) := by
    rw [← hs]
    congr 1
    funext d
    simp only [compX1, Nat.reduceAdd, Nat.reduceSub, Nat.zero_add, Nat.reduceEqDiff, EV1, EV2, EV3, EV4, EV5, EV6, rdS, rdI, argS, slotR, tgPut, wipeE, frzS, cmpI, decide_eq_true_eq, Bool.not_true, Bool.not_false, Option.map_some, Option.map_none, List.map_cons, List.map_nil, List.zip_cons_cons, List.zip_nil_right, List.zip_nil_left, List.foldl_cons, List.foldl_nil, if_true, if_false, bind_pure', Bool.and_true, Bool.or_false, Bool.and_false, Bool.or_true, Bool.true_and, Bool.false_and, Bool.true_or, Bool.false_or, if_neg Bool.false_ne_true]
  unfold M_shape_of b_shape_of evF
  simp only [Nat.reduceAdd, Nat.reduceSub, Nat.zero_add, Nat.reduceEqDiff, EV1, EV2, EV3, EV4, EV5, EV6, rdS, rdI, argS, slotR, tgPut, wipeE, frzS, cmpI, decide_eq_true_eq, Bool.not_true, Bool.not_false, Option.map_some, Option.map_none, List.map_cons, List.map_nil, List.zip_cons_cons, List.zip_nil_right, List.zip_nil_left, List.foldl_cons, List.foldl_nil, if_true, if_false, bind_pure', Bool.and_true, Bool.or_false, Bool.and_false, Bool.or_true, Bool.true_and, Bool.false_and, Bool.true_or, Bool.false_or, if_neg Bool.false_ne_true, pc, c, decide_eq_false hne, a4, if_pos hlen, comp, hj, shpD, max2, hm]
  first | done | rfl
mutual
theorem Wg.so : ∀ {n : Nat} {d : D} {ls : List D} {l r : Int}, Wg n d ls l r → n ≤ 20 → M_shape_of n [.dat d] = M.ret (.dat (shpD l r))
  | n + 1, _, _, _, _, .box h, _ => so_box h.po h.bs h.rng.2.1 h.rng.2.2.2
  | n + 1, _, _, _, _, .trn (d := d) (l := l) (r := r) h, hn => by
    have e := Wg.so h (by omega)
    have hr := Wg.rng' h
    have ho := Wg.ok h
    refine so_join (ps := [d]) (ss := [(l, r)]) (po_turned d) (by simp) (by show (dOk d && true) = true; rw [ho.1]; rfl) (by show max (dDep d) 0 ≤ 60; omega) (show 1 ≤ 12 by decide) ?_ (js_turned l r) (by omega) (by omega)
    show M.bind (M.bind (M_shape_of n [.dat d]) _) _ = _
    rw [e]
    rfl
  | n + 1, _, _, _, _, .rng (d := d) (l := l) (r := r) h h0 h1, hn => by
    have e := Wg.so h (by omega)
    have hr := Wg.rng' h
    have ho := Wg.ok h
    have hj := js_ring (l := l + 1) (r := r + 1) (by omega) (by omega)
    rw [show l + 1 - 1 = l by omega, show r + 1 - 1 = r by omega] at hj
    refine so_join (ps := [d]) (ss := [(l + 1, r + 1)]) (po_ring d) (by simp) (by show (dOk d && true) = true; rw [ho.1]; rfl) (by show max (dDep d) 0 ≤ 60; omega) (show 1 ≤ 12 by decide) ?_ hj (by omega) (by omega)
    show M.bind (M.bind (M_shape_of n [.dat d]) _) _ = _
    rw [e]
    rfl
  | n + 1, _, _, _, _, .bes (ds := ds) h a b c d, hn => by
    obtain ⟨ss, e, hlen, rfl, rfl⟩ := WgL.so h (by omega)
    have ho := WgL.ok h
    have p := po_beside ds
    rw [if_pos ⟨a, b⟩] at p
    exact so_join p (fun z => by rw [z] at a; exact absurd a (by decide)) ho.1 (by omega) b e (js_beside ss (by omega)) c d
  | n + 1, _, _, _, _, .thn (ds := ds) h a, hn => by
    obtain ⟨ss, p0, q0, e, hlen, hc, hp, hq, e1, e2⟩ := WgC.so h (by omega)
    have ho := WgC.ok h
    have hr := WgC.rng' h
    have hne := h.ne
    have p := po_then ds
    rw [if_pos ⟨hne, a⟩] at p
    have hj := js_then hc hp hq (by omega)
    rw [e1, e2] at hj
    exact so_join p (fun z => by rw [z] at hne; exact absurd hne (by decide)) ho.1 (by omega) a e hj (by omega) (by omega)
theorem WgL.so : ∀ {n : Nat} {ds ls : List D} {l r : Int}, WgL n ds ls l r → n ≤ 20 → ∃ ss : List (Int × Int), compL (fun d => .bind (M_shape_of n [.dat d]) fun a => .ret (some a.data)) ds = M.ret (ss.map encP) ∧ ss.length = ds.length ∧ (ss.map (·.1)).sum = l ∧ (ss.map (·.2)).sum = r
  | _, _, _, _, _, .nil, _ => ⟨[], rfl, rfl, rfl, rfl⟩
  | n, _, _, _, _, .cons (l := l) (r := r) h t, hn => by
    have e := Wg.so h hn
    obtain ⟨ss, e2, hl, h1, h2⟩ := WgL.so t hn
    refine ⟨(l, r) :: ss, ?_, by simp [hl], ?_, ?_⟩
    · rw [compL, e, bind_ret, bind_ret, e2, bind_ret]
      rfl
    · simp [h1]
    · simp [h2]
theorem WgC.so : ∀ {n : Nat} {ds ls : List D} {l r : Int}, WgC n ds ls l r → n ≤ 20 → ∃ (ss : List (Int × Int)) (p q : Int × Int), compL (fun d => .bind (M_shape_of n [.dat d]) fun a => .ret (some a.data)) ds = M.ret (ss.map encP) ∧ ss.length = ds.length ∧ chainP ss = true ∧ ss.head? = some p ∧ ss.getLast? = some q ∧ p.1 = l ∧ q.2 = r
  | n, _, _, _, _, .one (l := l) (r := r) h, hn => by
    have e := Wg.so h hn
    refine ⟨[(l, r)], (l, r), (l, r), ?_, rfl, rfl, rfl, rfl, rfl, rfl⟩
    rw [compL, e, bind_ret, bind_ret, compL]
    rfl
  | n, _, _, _, _, .cons (l := l) (m := m) h t, hn => by
    have e := Wg.so h hn
    obtain ⟨ss, p, q, e2, hl, hc, hp, hq, h1, h2⟩ := WgC.so t hn
    refine ⟨(l, m) :: ss, (l, m), q, ?_, by simp [hl], ?_, rfl, ?_, rfl, h2⟩
    · rw [compL, e, bind_ret, bind_ret, e2, bind_ret]
      rfl
    · cases ss with
      | nil => rfl
      | cons a r =>
        have ea : a = p := by simpa using hp
        subst ea
        show (decide (m = a.1) && chainP (a :: r)) = true
        rw [hc, h1]
        simp
    · cases ss with
      | nil => cases hp
      | cons a r =>
        rw [List.getLast?_cons_cons]
        exact hq
end
/-! ### ends that do not fit -/
def xUnshaped : Exc := ("Unshaped", [("word", .str "Unshaped")])
/-- raised at every room from k on -/
def Us (k : Nat) (d : D) : Prop := ∀ n, k ≤ n → n ≤ 20 → M_shape_of n [.dat d] = M.raise xUnshaped
theorem Us.mono {k m : Nat} {d : D} (h : Us k d) (e : k ≤ m) : Us m d := fun n hn => h n (by omega)
def soF (n : Nat) : D → M (Option D) := fun d => .bind (M_shape_of n [.dat d]) fun a => .ret (some a.data)
theorem comp_raise {f : D → M (Option D)} {x : Exc} {d : D} {post : List D} (hd : f d = M.raise x) : ∀ {pre : List D}, (∀ e ∈ pre, ∃ y, f e = M.ret (some y)) → compL f (pre ++ d :: post) = M.raise x
  | [], _ => by
    show compL f (d :: post) = _
    rw [compL, hd]
    rfl
  | a :: pre, h => by
    obtain ⟨y, e⟩ := h a (List.mem_cons_self ..)
    show compL f (a :: (pre ++ d :: post)) = _
    rw [compL, e, bind_ret, comp_raise hd fun b hb => h b (List.mem_cons_of_mem _ hb)]
    rfl
theorem us_join {n : Nat} {w : Str} {x : D} {ps : List D} (p : PO (.tuple [.str w, x]) (some ps)) (hne : ps ≠ []) (h1 : dOks ps = true) (h2 : dDeps ps ≤ 60) (hl : ps.length ≤ 12)
    (hs : compL (soF n) ps = M.raise xUnshaped) : M_shape_of (n + 1) [.dat (.tuple [.str w, x])] = M.raise xUnshaped := by
  have hS := sizeLine_big
  have pc : M_parts_of [.dat (.tuple [.str w, x])] = M.ret (.new (.lst ps)) := p
  have c := cmp_nil' h1 h2
  have hlen : ps.length ≤ sizeLine := by omega
  have a4 : atI [D.str w, x] 0 = some (.str w) := rfl
  have comp : compL (compX1 ⟨[M_box_shape, M_joined_shape, (M_shape_of n), M_parts_of], [], [(.int 12)], fun _ => none, fun _ _ => M.fail, []⟩ [.dat (.tuple [.str w, x]), .dat (.list ps), .un, .un] 3 (.call 2 (.cons (.v 3) .nil))) ps = M.raise xUnshaped := by
    rw [← hs]
    congr 1
    funext d
    simp only [compX1, Nat.reduceAdd, Nat.reduceSub, Nat.zero_add, Nat.reduceEqDiff, EV1, EV2, EV3, EV4, EV5, EV6, rdS, rdI, argS, slotR, tgPut, wipeE, frzS, cmpI, decide_eq_true_eq, Bool.not_true, Bool.not_false, Option.map_some, Option.map_none, List.map_cons, List.map_nil, List.zip_cons_cons, List.zip_nil_right, List.zip_nil_left, List.foldl_cons, List.foldl_nil, if_true, if_false, bind_pure', Bool.and_true, Bool.or_false, Bool.and_false, Bool.or_true, Bool.true_and, Bool.false_and, Bool.true_or, Bool.false_or, if_neg Bool.false_ne_true, soF]
  unfold M_shape_of b_shape_of evF
  simp only [Nat.reduceAdd, Nat.reduceSub, Nat.zero_add, Nat.reduceEqDiff, EV1, EV2, EV3, EV4, EV5, EV6, rdS, rdI, argS, slotR, tgPut, wipeE, frzS, cmpI, decide_eq_true_eq, Bool.not_true, Bool.not_false, Option.map_some, Option.map_none, List.map_cons, List.map_nil, List.zip_cons_cons, List.zip_nil_right, List.zip_nil_left, List.foldl_cons, List.foldl_nil, if_true, if_false, bind_pure', Bool.and_true, Bool.or_false, Bool.and_false, Bool.or_true, Bool.true_and, Bool.false_and, Bool.true_or, Bool.false_or, if_neg Bool.false_ne_true, pc, c, decide_eq_false hne, a4, if_pos hlen, comp]
  first | done | rfl
/-- the parts are told, joined they do not fit -/
theorem us_js {n : Nat} {w : Str} {x : D} {ps : List D} {ss : List (Int × Int)} (p : PO (.tuple [.str w, x]) (some ps)) (hne : ps ≠ []) (h1 : dOks ps = true) (h2 : dDeps ps ≤ 60) (hl : ps.length ≤ 12)
    (hs : compL (soF n) ps = M.ret (ss.map encP)) (hj : M_joined_shape [.dat (.str w), .dat (.list (ss.map encP))] = M.raise xUnshaped) : M_shape_of (n + 1) [.dat (.tuple [.str w, x])] = M.raise xUnshaped := by
  have hS := sizeLine_big
  have pc : M_parts_of [.dat (.tuple [.str w, x])] = M.ret (.new (.lst ps)) := p
  have c := cmp_nil' h1 h2
  have hlen : ps.length ≤ sizeLine := by omega
  have a4 : atI [D.str w, x] 0 = some (.str w) := rfl
  have comp : compL (compX1 ⟨[M_box_shape, M_joined_shape, (M_shape_of n), M_parts_of], [], [(.int 12)], fun _ => none, fun _ _ => M.fail, []⟩ [.dat (.tuple [.str w, x]), .dat (.list ps), .un, .un] 3 (.call 2 (.cons (.v 3) .nil))) ps = M.ret (ss.map encP) := by
    rw [← hs]
    congr 1
    funext d
    simp only [compX1, Nat.reduceAdd, Nat.reduceSub, Nat.zero_add, Nat.reduceEqDiff, EV1, EV2, EV3, EV4, EV5, EV6, rdS, rdI, argS, slotR, tgPut, wipeE, frzS, cmpI, decide_eq_true_eq, Bool.not_true, Bool.not_false, Option.map_some, Option.map_none, List.map_cons, List.map_nil, List.zip_cons_cons, List.zip_nil_right, List.zip_nil_left, List.foldl_cons, List.foldl_nil, if_true, if_false, bind_pure', Bool.and_true, Bool.or_false, Bool.and_false, Bool.or_true, Bool.true_and, Bool.false_and, Bool.true_or, Bool.false_or, if_neg Bool.false_ne_true, soF]
  unfold M_shape_of b_shape_of evF
  simp only [Nat.reduceAdd, Nat.reduceSub, Nat.zero_add, Nat.reduceEqDiff, EV1, EV2, EV3, EV4, EV5, EV6, rdS, rdI, argS, slotR, tgPut, wipeE, frzS, cmpI, decide_eq_true_eq, Bool.not_true, Bool.not_false, Option.map_some, Option.map_none, List.map_cons, List.map_nil, List.zip_cons_cons, List.zip_nil_right, List.zip_nil_left, List.foldl_cons, List.foldl_nil, if_true, if_false, bind_pure', Bool.and_true, Bool.or_false, Bool.and_false, Bool.or_true, Bool.true_and, Bool.false_and, Bool.true_or, Bool.false_or, if_neg Bool.false_ne_true, pc, c, decide_eq_false hne, a4, if_pos hlen, comp, hj]
  first | done | rfl
theorem js_then_bad {a b c d : Int} (h : b ≠ c) : M_joined_shape [.dat (.str "then"), .dat (.list ([(a, b), (c, d)].map encP))] = M.raise xUnshaped := by
  have hS := sizeLine_big
  have c1 : ∀ κ, cmpD .Eq κ (.str "then") (.str "beside") = some false := fun κ => by kernel_rfl
  have c2 : ∀ κ, cmpD .Eq κ (.str "then") (.str "turned") = some false := fun κ => by kernel_rfl
  have c3 : ∀ κ, cmpD .Eq κ (.str "then") (.str "ring") = some false := fun κ => by kernel_rfl
  have hr : ranS 1 2 = some [.int 1] := by rfl
  have g0 : atI [D.tuple [.int a, .int b], .tuple [.int c, .int d]] 0 = some (.tuple [.int a, .int b]) := rfl
  have g1 : atI [D.tuple [.int a, .int b], .tuple [.int c, .int d]] 1 = some (.tuple [.int c, .int d]) := rfl
  have a0 : atI [D.int a, .int b] 1 = some (.int b) := rfl
  have a1 : atI [D.int c, .int d] 0 = some (.int c) := rfl
  have e1 : (1 : Int) - 1 = 0 := rfl
  have hb : compL (compG ⟨[], [], [], fun _ => none, fun _ _ => M.fail, []⟩ [.dat (.str "then"), .dat (.list [.tuple [.int a, .int b], .tuple [.int c, .int d]]), .un, .un] (.cmp .Eq (.ix (.ix (.v 1) (.bin .Sub (.v 3) (.i 1))) (.i 1)) (.ix (.ix (.v 1) (.v 3)) (.i 0))) (.nm 3) .nil) [.int 1] = M.ret [.bool false] := by
    have f1 : compG ⟨[], [], [], fun _ => none, fun _ _ => M.fail, []⟩ [.dat (.str "then"), .dat (.list [.tuple [.int a, .int b], .tuple [.int c, .int d]]), .un, .un] (.cmp .Eq (.ix (.ix (.v 1) (.bin .Sub (.v 3) (.i 1))) (.i 1)) (.ix (.ix (.v 1) (.v 3)) (.i 0))) (.nm 3) .nil (.int 1) = M.ret (some (.bool false)) := by
      simp only [compG, Nat.reduceAdd, Nat.reduceSub, Nat.zero_add, Nat.reduceEqDiff, EV1, EV2, EV3, EV4, EV5, EV6, rdS, rdI, argS, slotR, tgPut, wipeE, frzS, cmpI, decide_eq_true_eq, Bool.not_true, Bool.not_false, Option.map_some, Option.map_none, List.map_cons, List.map_nil, List.zip_cons_cons, List.zip_nil_right, List.zip_nil_left, List.foldl_cons, List.foldl_nil, if_true, if_false, bind_pure', Bool.and_true, Bool.or_false, Bool.and_false, Bool.or_true, Bool.true_and, Bool.false_and, Bool.true_or, Bool.false_or, if_neg Bool.false_ne_true, e1, g0, g1, a0, a1, decide_eq_false h]
    rw [compL, f1, bind_ret, compL, bind_ret]
  have hall : ∀ κ, biS .all κ [.list [.bool false]] = some (.dat (.bool false)) := fun κ => rfl
  have hlen : ((2 : Nat) : Int) = 2 := rfl
  show M_joined_shape [.dat (.str "then"), .dat (.list [.tuple [.int a, .int b], .tuple [.int c, .int d]])] = _
  unfold M_joined_shape b_joined_shape evF
  simp only [Nat.reduceAdd, Nat.reduceSub, Nat.zero_add, Nat.reduceEqDiff, EV1, EV2, EV3, EV4, EV5, EV6, rdS, rdI, argS, slotR, tgPut, wipeE, frzS, cmpI, decide_eq_true_eq, Bool.not_true, Bool.not_false, Option.map_some, Option.map_none, List.map_cons, List.map_nil, List.zip_cons_cons, List.zip_nil_right, List.zip_nil_left, List.foldl_cons, List.foldl_nil, if_true, if_false, bind_pure', Bool.and_true, Bool.or_false, Bool.and_false, Bool.or_true, Bool.true_and, Bool.false_and, Bool.true_or, Bool.false_or, if_neg Bool.false_ne_true, c1, c2, c3, List.length_cons, List.length_nil, hlen, hr, hb, hall]
  first | done | rfl
theorem in_zero {l r : Int} (h : l = 0 ∨ r = 0) (κ : Ks) : cmpD .In κ (.int 0) (.tuple [.int l, .int r]) = some true := by
  show some (inV (.int 0) [.int l, .int r]) = some true
  rcases h with rfl | rfl
  · have : eqV (V.int 0) (V.int 0) = true := rfl
    simp [inV, this]
  · have : eqV (V.int 0) (V.int 0) = true := rfl
    simp [inV, this]
theorem js_ring_bad {l r : Int} (h : l = 0 ∨ r = 0) : M_joined_shape [.dat (.str "ring"), .dat (.list ([(l, r)].map encP))] = M.raise xUnshaped := by
  have c1 : ∀ κ, cmpD .Eq κ (.str "ring") (.str "beside") = some false := fun κ => by kernel_rfl
  have c2 : ∀ κ, cmpD .Eq κ (.str "ring") (.str "turned") = some false := fun κ => by kernel_rfl
  have c3 : ∀ κ, cmpD .Eq κ (.str "ring") (.str "ring") = some true := fun κ => by kernel_rfl
  have a0 : atI [D.tuple [.int l, .int r]] 0 = some (.tuple [.int l, .int r]) := rfl
  show M_joined_shape [.dat (.str "ring"), .dat (.list [.tuple [.int l, .int r]])] = _
  unfold M_joined_shape b_joined_shape evF
  simp only [Nat.reduceAdd, Nat.reduceSub, Nat.zero_add, Nat.reduceEqDiff, EV1, EV2, EV3, EV4, EV5, EV6, rdS, rdI, argS, slotR, tgPut, wipeE, frzS, cmpI, decide_eq_true_eq, Bool.not_true, Bool.not_false, Option.map_some, Option.map_none, List.map_cons, List.map_nil, List.zip_cons_cons, List.zip_nil_right, List.zip_nil_left, List.foldl_cons, List.foldl_nil, if_true, if_false, bind_pure', Bool.and_true, Bool.or_false, Bool.and_false, Bool.or_true, Bool.true_and, Bool.false_and, Bool.true_or, Bool.false_or, if_neg Bool.false_ne_true, c1, c2, c3, a0, in_zero h]
  first | done | rfl

/-! ### the structure of wirings, and their boxes -/
mutual
inductive Wv : Nat → D → List D → Prop
  | box {n : Nat} {d : D} {l r : Int} : Box d l r → Wv (n + 1) d [d]
  | trn {n : Nat} {d : D} {ls : List D} : Wv n d ls → Wv (n + 1) (.tuple [.str "turned", d]) ls
  | rng {n : Nat} {d : D} {ls : List D} : Wv n d ls → Wv (n + 1) (.tuple [.str "ring", d]) ls
  | bes {n : Nat} {ds ls : List D} : WvL n ds ls → 1 ≤ ds.length → ds.length ≤ 12 → Wv (n + 1) (.tuple [.str "beside", .tuple ds]) ls
  | thn {n : Nat} {ds ls : List D} : WvL n ds ls → 1 ≤ ds.length → ds.length ≤ 12 → Wv (n + 1) (.tuple [.str "then", .tuple ds]) ls
inductive WvL : Nat → List D → List D → Prop
  | nil {n : Nat} : WvL n [] []
  | cons {n : Nat} {d : D} {ds ls ls' : List D} : Wv n d ls → WvL n ds ls' → WvL n (d :: ds) (ls ++ ls')
end
mutual
theorem Wg.wv : ∀ {n : Nat} {d : D} {ls : List D} {l r : Int}, Wg n d ls l r → Wv n d ls
  | _, _, _, _, _, .box h => .box h
  | _, _, _, _, _, .trn h => .trn (Wg.wv h)
  | _, _, _, _, _, .rng h _ _ => .rng (Wg.wv h)
  | _, _, _, _, _, .bes h a b _ _ => .bes (WgL.wv h) a b
  | _, _, _, _, _, .thn h b => .thn (WgC.wv h) h.ne b
theorem WgL.wv : ∀ {n : Nat} {ds ls : List D} {l r : Int}, WgL n ds ls l r → WvL n ds ls
  | _, _, _, _, _, .nil => .nil
  | _, _, _, _, _, .cons h t => .cons (Wg.wv h) (WgL.wv t)
theorem WgC.wv : ∀ {n : Nat} {ds ls : List D} {l r : Int}, WgC n ds ls l r → WvL n ds ls
  | _, _, _, _, _, .one h => by
    have := WvL.cons (Wg.wv h) (.nil (n := _))
    rw [List.append_nil] at this
    exact this
  | _, _, _, _, _, .cons h t => .cons (Wg.wv h) (WgC.wv t)
end
mutual
theorem Wv.up : ∀ {n : Nat} {d : D} {ls : List D}, Wv n d ls → Wv (n + 1) d ls
  | _, _, _, .box h => .box h
  | _, _, _, .trn h => .trn (Wv.up h)
  | _, _, _, .rng h => .rng (Wv.up h)
  | _, _, _, .bes h a b => .bes (WvL.up h) a b
  | _, _, _, .thn h a b => .thn (WvL.up h) a b
theorem WvL.up : ∀ {n : Nat} {ds ls : List D}, WvL n ds ls → WvL (n + 1) ds ls
  | _, _, _, .nil => .nil
  | _, _, _, .cons h t => .cons (Wv.up h) (WvL.up t)
end
theorem Wv.mono {n m : Nat} {d : D} {ls : List D} (h : Wv n d ls) (e : n ≤ m) : Wv m d ls := by
  obtain ⟨k, rfl⟩ := Nat.le.dest e
  induction k with
  | zero => exact h
  | succ k ih => exact (ih (by omega)).up
theorem WvL.one {n : Nat} {d : D} {ls : List D} (h : Wv n d ls) : WvL n [d] ls := by
  have := WvL.cons h (.nil (n := n))
  rw [List.append_nil] at this
  exact this
mutual
theorem Wv.ok : ∀ {n : Nat} {d : D} {ls : List D}, Wv n d ls → dOk d = true ∧ dDep d ≤ 2 * n + 1
  | n + 1, _, _, .box h => ⟨h.ok.1, by have := h.ok.2.1; omega⟩
  | n + 1, _, _, .trn (d := d) h => by
    obtain ⟨h1, h2⟩ := Wv.ok h
    refine ⟨?_, ?_⟩
    · show (PyData.strOk "turned" && (dOk d && true)) = true
      rw [h1]
      decide +kernel
    · show max 0 (max (dDep d) 0) + 1 ≤ _
      omega
  | n + 1, _, _, .rng (d := d) h => by
    obtain ⟨h1, h2⟩ := Wv.ok h
    refine ⟨?_, ?_⟩
    · show (PyData.strOk "ring" && (dOk d && true)) = true
      rw [h1]
      decide +kernel
    · show max 0 (max (dDep d) 0) + 1 ≤ _
      omega
  | n + 1, _, _, .bes (ds := ds) h _ _ => by
    obtain ⟨h1, h2⟩ := WvL.ok h
    refine ⟨?_, ?_⟩
    · show (PyData.strOk "beside" && (dOks ds && true)) = true
      rw [h1]
      decide +kernel
    · show max 0 (max (dDeps ds + 1) 0) + 1 ≤ _
      omega
  | n + 1, _, _, .thn (ds := ds) h _ _ => by
    obtain ⟨h1, h2⟩ := WvL.ok h
    refine ⟨?_, ?_⟩
    · show (PyData.strOk "then" && (dOks ds && true)) = true
      rw [h1]
      decide +kernel
    · show max 0 (max (dDeps ds + 1) 0) + 1 ≤ _
      omega
theorem WvL.ok : ∀ {n : Nat} {ds ls : List D}, WvL n ds ls → dOks ds = true ∧ dDeps ds ≤ 2 * n + 1
  | _, _, _, .nil => ⟨rfl, Nat.zero_le _⟩
  | _, _, _, .cons (d := d) (ds := ds) h t => by
    obtain ⟨h1, h2⟩ := Wv.ok h
    obtain ⟨h3, h4⟩ := WvL.ok t
    refine ⟨?_, ?_⟩
    · show (dOk d && dOks ds) = true
      rw [h1, h3]
      rfl
    · show max (dDep d) (dDeps ds) ≤ _
      omega
end
mutual
theorem Wv.bxs : ∀ {n : Nat} {d : D} {ls : List D}, Wv n d ls → 1 ≤ ls.length ∧ ∀ x ∈ ls, ∃ l r, Box x l r
  | _, _, _, .box h => ⟨Nat.le_refl _, fun x hx => by rw [List.mem_singleton.mp hx]; exact ⟨_, _, h⟩⟩
  | _, _, _, .trn h => Wv.bxs h
  | _, _, _, .rng h => Wv.bxs h
  | _, _, _, .bes h a _ => ⟨Nat.le_trans a (WvL.bxs h).1, (WvL.bxs h).2⟩
  | _, _, _, .thn h a _ => ⟨Nat.le_trans a (WvL.bxs h).1, (WvL.bxs h).2⟩
theorem WvL.bxs : ∀ {n : Nat} {ds ls : List D}, WvL n ds ls → ds.length ≤ ls.length ∧ ∀ x ∈ ls, ∃ l r, Box x l r
  | _, _, _, .nil => ⟨Nat.le_refl _, fun x hx => nomatch hx⟩
  | _, _, _, .cons h t => by
    have h1 := Wv.bxs h
    have h2 := WvL.bxs t
    refine ⟨by rw [List.length_cons, List.length_append]; omega, fun x hx => ?_⟩
    rcases List.mem_append.mp hx with hx | hx
    · exact h1.2 x hx
    · exact h2.2 x hx
end
theorem Wg.bxs {n : Nat} {d : D} {ls : List D} {l r : Int} (h : Wg n d ls l r) : 1 ≤ ls.length ∧ ∀ x ∈ ls, ∃ l r, Box x l r := h.wv.bxs
theorem WgL.bxs {n : Nat} {ds ls : List D} {l r : Int} (h : WgL n ds ls l r) : ds.length ≤ ls.length ∧ ∀ x ∈ ls, ∃ l r, Box x l r := h.wv.bxs
/-- what waits: the last one first -/
inductive Sk : List (D × Nat) → List D → Nat → Prop
  | nil : Sk [] [] 0
  | snoc {wl : List (D × Nat)} {ls ld : List D} {m n k : Nat} {d : D} : Sk wl ls m → Wv n d ld → k + n ≤ 17 → Sk (wl ++ [(d, k)]) (ld ++ ls) (m + n * ld.length)
theorem Sk.ok {wl : List (D × Nat)} {ls : List D} {m : Nat} (h : Sk wl ls m) : ∀ q ∈ wl, dOk q.1 = true ∧ dDep q.1 ≤ 40 := by
  induction h with
  | nil => intro q hq; cases hq
  | snoc _ hw hk ih =>
    intro q hq
    rcases List.mem_append.mp hq with hq | hq
    · exact ih q hq
    · rw [List.mem_singleton.mp hq]
      have := hw.ok
      exact ⟨this.1, Nat.le_trans this.2 (by omega)⟩
theorem Sk.len {wl : List (D × Nat)} {ls : List D} {m : Nat} (h : Sk wl ls m) : wl.length ≤ ls.length := by
  induction h with
  | nil => exact Nat.le_refl _
  | snoc _ hw _ ih =>
    have := hw.bxs.1
    rw [List.length_append, List.length_append]
    show _ + 1 ≤ _
    omega
theorem Sk.nil_inv {wl : List (D × Nat)} {ls : List D} {m : Nat} (h : Sk wl ls m) (e : wl = []) : ls = [] := by
  cases h with
  | nil => rfl
  | snoc _ _ _ => simp at e
theorem Sk.pushL {wl : List (D × Nat)} {ls : List D} {m n k : Nat} (h : Sk wl ls m) (hk : k + 1 + n ≤ 17) : ∀ {ds ld : List D}, WvL n ds ld → Sk (wl ++ ds.reverse.map fun x => (x, k + 1)) (ld ++ ls) (m + n * ld.length)
  | _, _, .nil => by simpa using h
  | _, _, .cons (d := d) (ds := ds) (ls := ld) (ls' := ld') hw ht => by
    have ih := Sk.pushL h hk ht
    have := Sk.snoc ih hw hk
    rw [List.reverse_cons, List.map_append, ← List.append_assoc, List.append_assoc ld]
    rw [show m + n * (ld ++ ld').length = m + n * ld'.length + n * ld.length by rw [List.length_append, Nat.mul_add]; omega]
    exact this
theorem Sk.cases' {wl : List (D × Nat)} {ls : List D} {m : Nat} (h : Sk wl ls m) (hne : wl ≠ []) : ∃ wl' ls' ld m' n k d, wl = wl' ++ [(d, k)] ∧ ls = ld ++ ls' ∧ m = m' + n * ld.length ∧ Sk wl' ls' m' ∧ Wv n d ld ∧ k + n ≤ 17 := by
  cases h with
  | nil => exact absurd rfl hne
  | snoc h1 h2 h3 => exact ⟨_, _, _, _, _, _, _, rfl, rfl, rfl, h1, h2, h3⟩
/-- a turn: the parts -/
theorem Wv.parts {n : Nat} {d : D} {ld : List D} (h : Wv n d ld) {wl : List (D × Nat)} {ls : List D} {m k : Nat} (hs : Sk wl ls m) (hk : k + n ≤ 17) :
    (PO d (some []) ∧ ld = [d] ∧ ∃ l r, Box d l r) ∨ ∃ ps m', PO d (some ps) ∧ ps ≠ [] ∧ ps.length ≤ 12 ∧ dOks ps = true ∧ dDeps ps ≤ 40 ∧ m' < m + n * ld.length ∧ Sk (wl ++ ps.reverse.map fun x => (x, k + 1)) (ld ++ ls) m' := by
  have hp := h.bxs.1
  cases h with
  | box b => exact .inl ⟨b.po, rfl, _, _, b⟩
  | @trn n d' _ h =>
    have ho := h.ok
    refine .inr ⟨[d'], m + n * ld.length, po_turned d', by simp, by show 1 ≤ 12; decide, by show (dOk d' && true) = true; rw [ho.1]; rfl, by show max (dDep d') 0 ≤ 40; omega, ?_, Sk.snoc hs h (by omega)⟩
    rw [Nat.add_mul]
    omega
  | @rng n d' _ h =>
    have ho := h.ok
    refine .inr ⟨[d'], m + n * ld.length, po_ring d', by simp, by show 1 ≤ 12; decide, by show (dOk d' && true) = true; rw [ho.1]; rfl, by show max (dDep d') 0 ≤ 40; omega, ?_, Sk.snoc hs h (by omega)⟩
    rw [Nat.add_mul]
    omega
  | @bes n ds _ h a b =>
    have ho := h.ok
    have p := po_beside ds
    rw [if_pos ⟨a, b⟩] at p
    refine .inr ⟨ds, m + n * ld.length, p, fun z => by rw [z] at a; exact absurd a (by decide), b, ho.1, by omega, ?_, hs.pushL (by omega) h⟩
    rw [Nat.add_mul]
    omega
  | @thn n ds _ h a b =>
    have ho := h.ok
    have p := po_then ds
    rw [if_pos ⟨a, b⟩] at p
    refine .inr ⟨ds, m + n * ld.length, p, fun z => by rw [z] at a; exact absurd a (by decide), b, ho.1, by omega, ?_, hs.pushL (by omega) h⟩
    rw [Nat.add_mul]
    omega
def GvI (d0 : D) (L : List D) (m : Nat) (ρ : List En) : Prop := ∃ (wl : List (D × Nat)) (fs ls : List D) (z3 z4 z5 : En), ρ = [.dat d0, .own (.lst (wl.map encW)), .own (.lst fs), z3, z4, z5, .un, .un, .un] ∧ Sk wl ls m ∧ fs ++ ls = L
def GvP (d0 : D) (L : List D) (o : Out) : Prop := ∃ z3 z4 z5, o = .nx [.dat d0, .own (.lst []), .own (.lst L), z3, z4, z5, .un, .un, .un]
theorem gv_cond {d0 : D} {wl : List (D × Nat)} {ls fs : List D} {m : Nat} {z3 z4 z5 : En} (h : Sk wl ls m) (hf : fs.length ≤ 60) : whC E_lv (condW (nthS 2 b_leaves)) [.dat d0, .own (.lst (wl.map encW)), .own (.lst fs), z3, z4, z5, .un, .un, .un] = M.ret (decide (wl ≠ [])) := by
  have hk := h.ok
  have h1 : dOk (.list (wl.map encW)) = true := dOks_of fun d hd => by
    obtain ⟨q, hq, rfl⟩ := List.mem_map.mp hd
    show (dOk q.1 && (dOk (.int q.2) && true)) = true
    rw [(hk q hq).1]
    rfl
  have h2 : dDep (.list (wl.map encW)) ≤ 64 := by
    have : dDeps (wl.map encW) ≤ 41 := dDeps_of fun d hd => by
      obtain ⟨q, hq, rfl⟩ := List.mem_map.mp hd
      have := (hk q hq).2
      show dDeps [q.1, .int q.2] + 1 ≤ 41
      have e : dDeps [q.1, .int q.2] = max (dDep q.1) (max 0 0) := rfl
      rw [e]
      omega
    show dDeps _ + 1 ≤ 64
    omega
  unfold whC
  simp only [condW, nthS, b_leaves, E_lv]
  have e : ∀ κ, cmpD .NotEq κ (.list (wl.map encW)) (.list []) = some (decide (wl ≠ [])) := fun κ => by
    cases wl with
    | nil => exact (cmp_ne_self (x := .list []) rfl (by decide)).trans (by simp)
    | cons q wl =>
      rw [cmp_ne_ne h1 (show dOk (.list []) = true from rfl) h2 (show dDep (.list []) ≤ 64 by decide) (by simp)]
      simp
  have e2 : decide ((fs.length : Int) ≤ 60) = true := decide_eq_true (by omega)
  simp only [Nat.reduceAdd, Nat.reduceSub, Nat.zero_add, Nat.reduceEqDiff, EV1, EV2, EV3, EV4, EV5, EV6, rdS, rdI, argS, slotR, tgPut, wipeE, frzS, cmpI, decide_eq_true_eq, Bool.not_true, Bool.not_false, Option.map_some, Option.map_none, List.map_cons, List.map_nil, List.zip_cons_cons, List.zip_nil_right, List.zip_nil_left, List.foldl_cons, List.foldl_nil, if_true, if_false, bind_pure', Bool.and_true, Bool.or_false, Bool.and_false, Bool.or_true, Bool.true_and, Bool.false_and, Bool.true_or, Bool.false_or, if_neg Bool.false_ne_true, e, e2]
  first | done | rfl
theorem gv_step {d0 d : D} {k m n : Nat} {wl : List (D × Nat)} {fs ls ld L : List D} {z3 z4 z5 : En} (hL : L.length ≤ 60) (hs : Sk wl ls m) (hw : Wv n d ld) (hk : k + n ≤ 17) (hf : fs ++ (ld ++ ls) = L) :
    ∃ ρ' m', whB E_lv (bodyW (nthS 2 b_leaves)) [.dat d0, .own (.lst ((wl ++ [(d, k)]).map encW)), .own (.lst fs), z3, z4, z5, .un, .un, .un] = M.ret (.nx ρ') ∧ m' < m + n * ld.length ∧ GvI d0 L m' ρ' := by
  have hS := sizeLine_big
  have hlL : fs.length + (ld.length + ls.length) = L.length := by rw [← hf, List.length_append, List.length_append]
  have hwl := hs.len
  have pop : ∀ ρ : List En, popS ρ 1 ((wl ++ [(d, k)]).map encW) none = some (encW (d, k), ρ.set 1 (.own (.lst (wl.map encW)))) := fun ρ => by
    unfold popS
    rw [List.map_append, List.map_cons, List.map_nil, List.getLast?_concat, List.dropLast_concat]
    rfl
  have hpop : encW (d, k) = .tuple [d, .int k] := rfl
  have hk' : decide ((16 : Int) < (k : Int)) = false := decide_eq_false (by
    have : 1 ≤ n := by cases hw <;> omega
    omega)
  unfold whB
  simp only [bodyW, nthS, b_leaves]
  have comp : ∀ (ps gs : List D), compL (compG ⟨[M_parts_of], [], [(.int 60), (.int 8), (.int 16)], fun _ => none, fun _ _ => M.fail, []⟩ [.dat d0, .own (.lst (wl.map encW)), .own (.lst gs), .dat d, .dat (.int k), .dat (.list ps), .un, .un, .un] (.tup (.cons (.v 6) (.cons (.bin .Add (.v 4) (.i 1)) .nil))) (.nm 6) .nil) ps.reverse = M.ret (ps.reverse.map fun x => encW (x, k + 1)) := fun ps gs => by
    refine compL_map fun x hx => ?_
    simp only [compG, Nat.reduceAdd, Nat.reduceSub, Nat.zero_add, Nat.reduceEqDiff, EV1, EV2, EV3, EV4, EV5, EV6, rdS, rdI, argS, slotR, tgPut, wipeE, frzS, cmpI, decide_eq_true_eq, Bool.not_true, Bool.not_false, Option.map_some, Option.map_none, List.map_cons, List.map_nil, List.zip_cons_cons, List.zip_nil_right, List.zip_nil_left, List.foldl_cons, List.foldl_nil, if_true, if_false, bind_pure', Bool.and_true, Bool.or_false, Bool.and_false, Bool.or_true, Bool.true_and, Bool.false_and, Bool.true_or, Bool.false_or, if_neg Bool.false_ne_true]
    rfl
  have L3 : fs.length < sizeLine := by omega
  have hp := hw.bxs.1
  rcases hw.parts hs hk with ⟨p, rfl, b⟩ | ⟨ps, m', p, hne, hpl, h1, h2, hm, hs'⟩
  · have pc : M_parts_of [.dat d] = M.ret (.new (.lst [])) := p
    have hc := cmp_nil' (ps := []) rfl (by decide)
    have comp0 := comp [] (fs ++ [d])
    have L1 : ([] : List D).reverse.length ≤ sizeLine := Nat.zero_le _
    have L2 : (wl.map encW).length + (([] : List D).reverse.map fun x => encW (x, k + 1)).length ≤ sizeLine := by
      rw [List.length_map]
      show _ + 0 ≤ _
      omega
    simp only [List.reverse_nil, List.map_nil] at comp0
    have L2' : (wl.map encW).length + 0 ≤ sizeLine := by rw [List.length_map]; omega
    simp only [Nat.reduceAdd, Nat.reduceSub, Nat.zero_add, Nat.reduceEqDiff, EV1, EV2, EV3, EV4, EV5, EV6, rdS, rdI, argS, slotR, tgPut, wipeE, frzS, cmpI, decide_eq_true_eq, Bool.not_true, Bool.not_false, Option.map_some, Option.map_none, List.map_cons, List.map_nil, List.zip_cons_cons, List.zip_nil_right, List.zip_nil_left, List.foldl_cons, List.foldl_nil, if_true, if_false, bind_pure', Bool.and_true, Bool.or_false, Bool.and_false, Bool.or_true, Bool.true_and, Bool.false_and, Bool.true_or, Bool.false_or, if_neg Bool.false_ne_true, E_lv, pop, hpop, pc, isNoneD, hk', hc, decide_true, if_pos L3, List.reverse_nil, comp0, if_pos L1, List.append_nil, List.length_nil, if_pos L2']
    refine ⟨_, m, rfl, ?_, wl, fs ++ [d], ls, _, _, _, rfl, hs, by rw [List.append_assoc]; exact hf⟩
    show m < m + n * 1
    have : 1 ≤ n := by cases hw <;> omega
    omega
  · have pc : M_parts_of [.dat d] = M.ret (.new (.lst ps)) := p
    have hc := cmp_nil' (ps := ps) h1 (by omega)
    have hd : decide (ps = []) = false := decide_eq_false hne
    have L1 : ps.reverse.length ≤ sizeLine := by rw [List.length_reverse]; omega
    have L2 : (wl.map encW).length + (ps.reverse.map fun x => encW (x, k + 1)).length ≤ sizeLine := by
      rw [List.length_map, List.length_map, List.length_reverse]
      omega
    have newW : wl.map encW ++ (ps.reverse.map fun x => encW (x, k + 1)) = (wl ++ ps.reverse.map fun x => (x, k + 1)).map encW := by
      rw [List.map_append, List.map_map]
      rfl
    simp only [Nat.reduceAdd, Nat.reduceSub, Nat.zero_add, Nat.reduceEqDiff, EV1, EV2, EV3, EV4, EV5, EV6, rdS, rdI, argS, slotR, tgPut, wipeE, frzS, cmpI, decide_eq_true_eq, Bool.not_true, Bool.not_false, Option.map_some, Option.map_none, List.map_cons, List.map_nil, List.zip_cons_cons, List.zip_nil_right, List.zip_nil_left, List.foldl_cons, List.foldl_nil, if_true, if_false, bind_pure', Bool.and_true, Bool.or_false, Bool.and_false, Bool.or_true, Bool.true_and, Bool.false_and, Bool.true_or, Bool.false_or, if_neg Bool.false_ne_true, E_lv, pop, hpop, pc, isNoneD, hk', hc, hd, if_pos L3, comp, if_pos L1, if_pos L2, newW]
    exact ⟨_, m', rfl, hm, _, fs, ld ++ ls, _, _, _, rfl, hs', hf⟩
theorem gv_loop {n : Nat} {d : D} {L : List D} (hn : n ≤ 16) (hL : L.length ≤ 60) (h : Wv n d L) : ∃ o, whL (whC E_lv (condW (nthS 2 b_leaves))) (whB E_lv (bodyW (nthS 2 b_leaves))) whN [.dat d, .own (.lst [.tuple [d, .int 1]]), .own (.lst []), .un, .un, .un, .un, .un, .un] = M.ret o ∧ GvP d L o := by
  have hb : n * L.length ≤ 16 * 60 := Nat.mul_le_mul hn hL
  refine whL_out (fun m ρ => GvI d L m ρ) (GvP d L) (fun m ρ hI => ?_) whN (0 + n * L.length) _ (by show _ < 18446744073709551616; omega) ⟨[(d, 1)], [], L ++ [], .un, .un, .un, rfl, Sk.snoc .nil h (by omega), by simp⟩
  obtain ⟨wl, fs, ls, z3, z4, z5, rfl, hT, hF⟩ := hI
  have hfl : fs.length ≤ 60 := by
    have : fs.length + ls.length = L.length := by rw [← hF, List.length_append]
    omega
  rw [gv_cond hT hfl]
  by_cases hw : wl = []
  · subst hw
    have hls := hT.nil_inv rfl
    subst hls
    left
    refine ⟨by simp, z3, z4, z5, ?_⟩
    rw [List.append_nil] at hF
    rw [hF]
    rfl
  · right
    refine ⟨by simp [hw], .inr ?_⟩
    obtain ⟨wl', ls', ld, m', n', k, d', rfl, rfl, rfl, h1, h2, h3⟩ := hT.cases' hw
    exact gv_step hL h1 h2 h3 hF
theorem box_fok {fs : List D} (h : ∀ x ∈ fs, ∃ l r, Box x l r) : FnOkL 3 fs := fun x hx => by
  obtain ⟨l, r, b⟩ := h x hx
  obtain ⟨h1, h2, w, t, rfl, hw, hu⟩ := b.ok
  exact ⟨⟨w, t, rfl, hw, fun z => absurd z hu⟩, h1, h2⟩
def nLag (fs : List D) : Nat := (fs.filter (wordIs "lag")).length
theorem m_leavesG {n : Nat} {d : D} {L : List D} (hn : n ≤ 16) (hL : L.length ≤ 60) (hg : nLag L ≤ 8) (h : Wv n d L) : M_leaves [.dat d] = M.ret (.dat (.list L)) := by
  obtain ⟨o, e, z3, z4, z5, rfl⟩ := gv_loop hn hL h
  have hS := sizeLine_big
  have hF := box_fok h.bxs.2
  have hr : evSs E_lv [.dat d, .own (.lst []), .own (.lst L), z3, z4, z5, .un, .un, .un] (dropS 3 b_leaves) = M.ret (.rt (.dat (.list L))) := by
    have hlen : L.length ≤ sizeLine := by omega
    have hcomp : compL (compG ⟨[M_parts_of], [], [(.int 60), (.int 8), (.int 16)], fun _ => none, fun _ _ => M.fail, []⟩ [.dat d, .own (.lst []), .dat (.list L), z3, z4, z5, .un, .un, .un] (.v 8) (.nm 8) (.cons (.cmp .Eq (.ix (.v 8) (.i 0)) (.s "lag")) .nil)) L = M.ret ((L.filter (wordIs "lag")).map id) := by
      refine compL_filter fun x hx => ?_
      obtain ⟨⟨w, r, rfl, hw, _⟩, _⟩ := hF x hx
      have c1 := cmp_str hw (show PyData.strOk "lag" = true by decide +kernel)
      have at0 := at0 (x := .str w) (r := r)
      simp only [compG, Nat.reduceAdd, Nat.reduceSub, Nat.zero_add, Nat.reduceEqDiff, EV1, EV2, EV3, EV4, EV5, EV6, rdS, rdI, argS, slotR, tgPut, wipeE, frzS, cmpI, decide_eq_true_eq, Bool.not_true, Bool.not_false, Option.map_some, Option.map_none, List.map_cons, List.map_nil, List.zip_cons_cons, List.zip_nil_right, List.zip_nil_left, List.foldl_cons, List.foldl_nil, if_true, if_false, bind_pure', Bool.and_true, Bool.or_false, Bool.and_false, Bool.or_true, Bool.true_and, Bool.false_and, Bool.true_or, Bool.false_or, if_neg Bool.false_ne_true, at0, c1, wordIs]
      split <;> rfl
    simp only [dropS, b_leaves]
    simp only [Nat.reduceAdd, Nat.reduceSub, Nat.zero_add, Nat.reduceEqDiff, EV1, EV2, EV3, EV4, EV5, EV6, rdS, rdI, argS, slotR, tgPut, wipeE, frzS, cmpI, decide_eq_true_eq, Bool.not_true, Bool.not_false, Option.map_some, Option.map_none, List.map_cons, List.map_nil, List.zip_cons_cons, List.zip_nil_right, List.zip_nil_left, List.foldl_cons, List.foldl_nil, if_true, if_false, bind_pure', Bool.and_true, Bool.or_false, Bool.and_false, Bool.or_true, Bool.true_and, Bool.false_and, Bool.true_or, Bool.false_or, if_neg Bool.false_ne_true, E_lv, hcomp, if_pos hlen]
    rw [if_pos (show (L.length : Int) ≤ 60 by omega), if_pos (show (((L.filter (wordIs "lag")).map id).length : Int) ≤ 8 by rw [List.length_map]; unfold nLag at hg; omega)]
  unfold M_leaves evF
  rw [show b_leaves = .cons (nthS 0 b_leaves) (.cons (nthS 1 b_leaves) (.cons (.whS (condW (nthS 2 b_leaves)) (bodyW (nthS 2 b_leaves))) (dropS 3 b_leaves))) from rfl]
  generalize dropS 3 b_leaves = T3 at hr ⊢
  generalize hc : condW (nthS 2 b_leaves) = cc at e ⊢
  generalize hb' : bodyW (nthS 2 b_leaves) = bb at e ⊢
  simp only [nthS, b_leaves]
  simp only [E_lv] at e hr
  simp only [Nat.reduceAdd, Nat.reduceSub, Nat.zero_add, Nat.reduceEqDiff, EV1, EV2, EV3, EV4, EV5, EV6, rdS, rdI, argS, slotR, tgPut, wipeE, frzS, cmpI, decide_eq_true_eq, Bool.not_true, Bool.not_false, Option.map_some, Option.map_none, List.map_cons, List.map_nil, List.zip_cons_cons, List.zip_nil_right, List.zip_nil_left, List.foldl_cons, List.foldl_nil, if_true, if_false, bind_pure', Bool.and_true, Bool.or_false, Bool.and_false, Bool.or_true, Bool.true_and, Bool.false_and, Bool.true_or, Bool.false_or, if_neg Bool.false_ne_true]
  rw [e]
  simp only [Nat.reduceAdd, Nat.reduceSub, Nat.zero_add, Nat.reduceEqDiff, EV1, EV2, EV3, EV4, EV5, EV6, rdS, rdI, argS, slotR, tgPut, wipeE, frzS, cmpI, decide_eq_true_eq, Bool.not_true, Bool.not_false, Option.map_some, Option.map_none, List.map_cons, List.map_nil, List.zip_cons_cons, List.zip_nil_right, List.zip_nil_left, List.foldl_cons, List.foldl_nil, if_true, if_false, bind_pure', Bool.and_true, Bool.or_false, Bool.and_false, Bool.or_true, Bool.true_and, Bool.false_and, Bool.true_or, Bool.false_or, if_neg Bool.false_ne_true, hr]
  first | done | rfl
theorem m_needG {n : Nat} {d : D} {L : List D} (hn : n ≤ 16) (hL : L.length ≤ 60) (hg : nLag L ≤ 8) (h : Wv n d L) : M_need_boxes [.dat d] = M.ret (.dat (.list L)) := by
  have e := m_leavesG hn hL hg h
  have hF := box_fok h.bxs.2
  have hu := m_uses hF hL
  have hnil : L.filter (wordIs "use") = [] := List.filter_eq_nil_iff.mpr fun x hx hw => by
    obtain ⟨l, r, b⟩ := h.bxs.2 x hx
    obtain ⟨_, _, w, t, rfl, _, hu⟩ := b.ok
    exact hu (of_decide_eq_true hw)
  rw [hnil, List.map_nil] at hu
  have c : ∀ κ, cmpD .NotEq κ (.list []) (.list []) = some false := fun κ => cmp_ne_self (x := .list []) rfl (by decide)
  unfold M_need_boxes b_need_boxes evF
  simp only [Nat.reduceAdd, Nat.reduceSub, Nat.zero_add, Nat.reduceEqDiff, EV1, EV2, EV3, EV4, EV5, EV6, rdS, rdI, argS, slotR, tgPut, wipeE, frzS, cmpI, decide_eq_true_eq, Bool.not_true, Bool.not_false, Option.map_some, Option.map_none, List.map_cons, List.map_nil, List.zip_cons_cons, List.zip_nil_right, List.zip_nil_left, List.foldl_cons, List.foldl_nil, if_true, if_false, bind_pure', Bool.and_true, Bool.or_false, Bool.and_false, Bool.or_true, Bool.true_and, Bool.false_and, Bool.true_or, Bool.false_or, if_neg Bool.false_ne_true, e, isNoneD, hu, c]
  first | done | rfl
theorem m_threeG {n : Nat} {d : D} {L : List D} {l r : Int} (hn : n ≤ 16) (hL : L.length ≤ 60) (hg : nLag L ≤ 8) (h : Wg n d L l r) : M_shape [.dat d] = M.ret (.dat (shpD l r)) ∧ M_boxes [.dat d] = M.ret (.dat (.int L.length)) ∧ M_lags [.dat d] = M.ret (.dat (.int (nLag L))) := by
  have hS := sizeLine_big
  have e := m_needG hn hL hg h.wv
  have e2 := (h.mono (show n ≤ 18 by omega)).so (by decide)
  have hlen : L.length ≤ sizeLine := by omega
  refine ⟨?_, ?_, ?_⟩
  · unfold M_shape b_shape evF
    simp only [Nat.reduceAdd, Nat.reduceSub, Nat.zero_add, Nat.reduceEqDiff, EV1, EV2, EV3, EV4, EV5, EV6, rdS, rdI, argS, slotR, tgPut, wipeE, frzS, cmpI, decide_eq_true_eq, Bool.not_true, Bool.not_false, Option.map_some, Option.map_none, List.map_cons, List.map_nil, List.zip_cons_cons, List.zip_nil_right, List.zip_nil_left, List.foldl_cons, List.foldl_nil, if_true, if_false, bind_pure', Bool.and_true, Bool.or_false, Bool.and_false, Bool.or_true, Bool.true_and, Bool.false_and, Bool.true_or, Bool.false_or, if_neg Bool.false_ne_true, e, e2]
  · unfold M_boxes b_boxes evF
    simp only [Nat.reduceAdd, Nat.reduceSub, Nat.zero_add, Nat.reduceEqDiff, EV1, EV2, EV3, EV4, EV5, EV6, rdS, rdI, argS, slotR, tgPut, wipeE, frzS, cmpI, decide_eq_true_eq, Bool.not_true, Bool.not_false, Option.map_some, Option.map_none, List.map_cons, List.map_nil, List.zip_cons_cons, List.zip_nil_right, List.zip_nil_left, List.foldl_cons, List.foldl_nil, if_true, if_false, bind_pure', Bool.and_true, Bool.or_false, Bool.and_false, Bool.or_true, Bool.true_and, Bool.false_and, Bool.true_or, Bool.false_or, if_neg Bool.false_ne_true, e, e2]
  · have hF := box_fok h.wv.bxs.2
    have hcomp : compL (compG ⟨[(M_shape_of 18), M_need_boxes], [], [], fun _ => none, fun _ _ => M.fail, []⟩ [.dat d, .dat (.list L), .un] (.v 2) (.nm 2) (.cons (.cmp .Eq (.ix (.v 2) (.i 0)) (.s "lag")) .nil)) L = M.ret ((L.filter (wordIs "lag")).map id) := by
      refine compL_filter fun x hx => ?_
      obtain ⟨⟨w, r, rfl, hw, _⟩, _⟩ := hF x hx
      have c1 := cmp_str hw (show PyData.strOk "lag" = true by decide +kernel)
      have at0 := at0 (x := .str w) (r := r)
      simp only [compG, Nat.reduceAdd, Nat.reduceSub, Nat.zero_add, Nat.reduceEqDiff, EV1, EV2, EV3, EV4, EV5, EV6, rdS, rdI, argS, slotR, tgPut, wipeE, frzS, cmpI, decide_eq_true_eq, Bool.not_true, Bool.not_false, Option.map_some, Option.map_none, List.map_cons, List.map_nil, List.zip_cons_cons, List.zip_nil_right, List.zip_nil_left, List.foldl_cons, List.foldl_nil, if_true, if_false, bind_pure', Bool.and_true, Bool.or_false, Bool.and_false, Bool.or_true, Bool.true_and, Bool.false_and, Bool.true_or, Bool.false_or, if_neg Bool.false_ne_true, at0, c1, wordIs]
      split <;> rfl
    unfold M_lags b_lags evF
    simp only [Nat.reduceAdd, Nat.reduceSub, Nat.zero_add, Nat.reduceEqDiff, EV1, EV2, EV3, EV4, EV5, EV6, rdS, rdI, argS, slotR, tgPut, wipeE, frzS, cmpI, decide_eq_true_eq, Bool.not_true, Bool.not_false, Option.map_some, Option.map_none, List.map_cons, List.map_nil, List.zip_cons_cons, List.zip_nil_right, List.zip_nil_left, List.foldl_cons, List.foldl_nil, if_true, if_false, bind_pure', Bool.and_true, Bool.or_false, Bool.and_false, Bool.or_true, Bool.true_and, Bool.false_and, Bool.true_or, Bool.false_or, if_neg Bool.false_ne_true, e, e2, hcomp, if_pos hlen, List.map_id, nLag]
    first | done | rfl
/-- it is a wiring, its ends do not fit -/
theorem m_threeU {n : Nat} {d : D} {L : List D} (hn : n ≤ 16) (hL : L.length ≤ 60) (hg : nLag L ≤ 8) (h : Wv n d L) (hu : Us 18 d) : M_shape [.dat d] = M.raise xUnshaped ∧ M_boxes [.dat d] = M.raise xUnshaped ∧ M_lags [.dat d] = M.raise xUnshaped := by
  have e := m_needG hn hL hg h
  have e2 := hu 18 (by decide) (by decide)
  refine ⟨?_, ?_, ?_⟩
  · unfold M_shape b_shape evF
    simp only [Nat.reduceAdd, Nat.reduceSub, Nat.zero_add, Nat.reduceEqDiff, EV1, EV2, EV3, EV4, EV5, EV6, rdS, rdI, argS, slotR, tgPut, wipeE, frzS, cmpI, decide_eq_true_eq, Bool.not_true, Bool.not_false, Option.map_some, Option.map_none, List.map_cons, List.map_nil, List.zip_cons_cons, List.zip_nil_right, List.zip_nil_left, List.foldl_cons, List.foldl_nil, if_true, if_false, bind_pure', Bool.and_true, Bool.or_false, Bool.and_false, Bool.or_true, Bool.true_and, Bool.false_and, Bool.true_or, Bool.false_or, if_neg Bool.false_ne_true, e, e2]
  · unfold M_boxes b_boxes evF
    simp only [Nat.reduceAdd, Nat.reduceSub, Nat.zero_add, Nat.reduceEqDiff, EV1, EV2, EV3, EV4, EV5, EV6, rdS, rdI, argS, slotR, tgPut, wipeE, frzS, cmpI, decide_eq_true_eq, Bool.not_true, Bool.not_false, Option.map_some, Option.map_none, List.map_cons, List.map_nil, List.zip_cons_cons, List.zip_nil_right, List.zip_nil_left, List.foldl_cons, List.foldl_nil, if_true, if_false, bind_pure', Bool.and_true, Bool.or_false, Bool.and_false, Bool.or_true, Bool.true_and, Bool.false_and, Bool.true_or, Bool.false_or, if_neg Bool.false_ne_true, e, e2]
  · unfold M_lags b_lags evF
    simp only [Nat.reduceAdd, Nat.reduceSub, Nat.zero_add, Nat.reduceEqDiff, EV1, EV2, EV3, EV4, EV5, EV6, rdS, rdI, argS, slotR, tgPut, wipeE, frzS, cmpI, decide_eq_true_eq, Bool.not_true, Bool.not_false, Option.map_some, Option.map_none, List.map_cons, List.map_nil, List.zip_cons_cons, List.zip_nil_right, List.zip_nil_left, List.foldl_cons, List.foldl_nil, if_true, if_false, bind_pure', Bool.and_true, Bool.or_false, Bool.and_false, Bool.or_true, Bool.true_and, Bool.false_and, Bool.true_or, Bool.false_or, if_neg Bool.false_ne_true, e, e2]

theorem Dr.forI {step : D → List En → M Out} {Q : Out → Prop} : ∀ {ds : List D} {J : Nat → List En → Prop} {ρ : List En}, J 0 ρ → (∀ i d ρ, ds[i]? = some d → J i ρ → Dr (step d ρ) (fun o => (∃ ρ', (o = .nx ρ' ∨ o = .ct ρ') ∧ J (i + 1) ρ'))) → (∀ ρ, J ds.length ρ → Q (.nx ρ)) → Dr (VL.forL step ds ρ) Q
  | [], _, ρ, h0, _, hd => Dr.ret (hd ρ h0)
  | d :: ds, J, ρ, h0, hs, hd => by
    rw [VL.forL]
    refine (hs 0 d ρ rfl h0).bind fun o ho => ?_
    obtain ⟨ρ', h1 | h1, h2⟩ := ho
    · subst h1
      exact Dr.forI (J := fun i => J (i + 1)) h2 (fun i x ρ hx => hs (i + 1) x ρ (by simpa using hx)) hd
    · subst h1
      exact Dr.forI (J := fun i => J (i + 1)) h2 (fun i x ρ hx => hs (i + 1) x ρ (by simpa using hx)) hd
theorem Dr.ite {α : Type} {c : Prop} [Decidable c] {m m' : M α} {P : α → Prop} (h : c → Dr m P) (h' : ¬ c → Dr m' P) : Dr (if c then m else m') P := by
  split
  · exact h ‹_›
  · exact h' ‹_›
theorem ints_of : ∀ {ys : List D}, (∀ y ∈ ys, ∃ i : Int, y = .int i) → ∃ ns : List Int, ys = ns.map .int ∧ ns.length = ys.length
  | [], _ => ⟨[], rfl, rfl⟩
  | y :: ys, h => by
    obtain ⟨i, rfl⟩ := h y (List.mem_cons_self ..)
    obtain ⟨ns, rfl, hn⟩ := ints_of fun z hz => h z (List.mem_cons_of_mem _ hz)
    exact ⟨i :: ns, rfl, by rw [List.length_cons, List.length_cons, hn]⟩
/-- the boxes that the law draws: the box, its one leaf, its ends, whether it is a lag -/
inductive Bx14 : D → D → Int → Int → Int → Prop
  | wire : Bx14 (.tuple [.str "wire"]) (.tuple [.str "wire"]) 1 1 0
  | lag : Bx14 (.tuple [.str "lag"]) (.tuple [.str "lag"]) 1 1 1
  | weigh {i : Int} : 0 ≤ i → i ≤ 96 → Bx14 (.tuple [.str "weigh", .int i]) (.tuple [.str "weigh", .int i]) 1 1 0
  | tlag : Bx14 (.tuple [.str "turned", .tuple [.str "lag"]]) (.tuple [.str "lag"]) 1 1 1
  | sum2 : Bx14 (.tuple [.str "sum", .int 2]) (.tuple [.str "sum", .int 2]) 2 1 0
  | sum0 : Bx14 (.tuple [.str "sum", .int 0]) (.tuple [.str "sum", .int 0]) 0 1 0
  | copy0 : Bx14 (.tuple [.str "copy", .int 0]) (.tuple [.str "copy", .int 0]) 1 0 0
  | copy1 : Bx14 (.tuple [.str "copy", .int 1]) (.tuple [.str "copy", .int 1]) 1 1 0
  | copy2 : Bx14 (.tuple [.str "copy", .int 2]) (.tuple [.str "copy", .int 2]) 1 2 0
  | tcopy2 : Bx14 (.tuple [.str "turned", .tuple [.str "copy", .int 2]]) (.tuple [.str "copy", .int 2]) 2 1 0
  | tcopy0 : Bx14 (.tuple [.str "turned", .tuple [.str "copy", .int 0]]) (.tuple [.str "copy", .int 0]) 0 1 0
  | tsum2 : Bx14 (.tuple [.str "turned", .tuple [.str "sum", .int 2]]) (.tuple [.str "sum", .int 2]) 1 2 0
  | tsum0 : Bx14 (.tuple [.str "turned", .tuple [.str "sum", .int 0]]) (.tuple [.str "sum", .int 0]) 1 0 0
  | tweigh {i : Int} : 0 ≤ i → i ≤ 96 → Bx14 (.tuple [.str "turned", .tuple [.str "weigh", .int i]]) (.tuple [.str "weigh", .int i]) 1 1 0
  | shuf : Bx14 (.tuple [.str "shuffle", .tuple [.int 1, .int 0]]) (.tuple [.str "shuffle", .tuple [.int 1, .int 0]]) 2 2 0
theorem shuf2 : ShufOk [1, 0] := ⟨by decide, by decide, rfl⟩
theorem Bx14.wg {b x : D} {lo hi g : Int} (h : Bx14 b x lo hi g) : Wg 2 b [x] lo hi := by
  cases h with
  | wire => exact .box .wire
  | lag => exact .box .lag
  | weigh h0 h1 => exact .box (.weigh h0 h1)
  | tlag => exact .trn (.box .lag)
  | sum2 => exact .box (.sum (by decide) (by decide))
  | sum0 => exact .box (.sum (by decide) (by decide))
  | copy0 => exact .box (.copy (by decide) (by decide))
  | copy1 => exact .box (.copy (by decide) (by decide))
  | copy2 => exact .box (.copy (by decide) (by decide))
  | tcopy2 => exact .trn (.box (.copy (by decide) (by decide)))
  | tcopy0 => exact .trn (.box (.copy (by decide) (by decide)))
  | tsum2 => exact .trn (.box (.sum (by decide) (by decide)))
  | tsum0 => exact .trn (.box (.sum (by decide) (by decide)))
  | tweigh h0 h1 => exact .trn (.box (.weigh h0 h1))
  | shuf => exact .box (.shuf (is := [1, 0]) shuf2)
theorem Bx14.nl {b x : D} {lo hi g : Int} (h : Bx14 b x lo hi g) : (nLag [x] : Int) = g ∧ 0 ≤ g ∧ g ≤ 1 := by
  cases h <;> exact ⟨rfl, by decide, by decide⟩
theorem nLag_app (a b : List D) : nLag (a ++ b) = nLag a + nLag b := by
  unfold nLag
  rw [List.filter_append, List.length_append]
def BoxR (left room : Int) (r : Rs) : Prop := ∃ b x lo hi g, r = .dat (.tuple [b, .int lo, .int hi]) ∧ Bx14 b x lo hi g ∧ 1 ≤ lo ∧ lo ≤ left ∧ 0 ≤ hi ∧ hi ≤ 2 ∧ (0 < g → 0 < room)
theorem m_box14 {room left : Int} (hl : 1 ≤ left) : Dr (M__law_box [.dat (.hd 0), .dat (.int room), .dat (.int left)]) (BoxR left room) := by
  unfold M__law_box b__law_box evF
  simp only [Nat.reduceAdd, Nat.reduceSub, Nat.zero_add, Nat.reduceEqDiff, EV1, EV2, EV3, EV4, EV5, EV6, rdS, rdI, argS, slotR, tgPut, wipeE, frzS, cmpI, decide_eq_true_eq, Bool.not_true, Bool.not_false, Option.map_some, Option.map_none, List.map_cons, List.map_nil, List.zip_cons_cons, List.zip_nil_right, List.zip_nil_left, List.foldl_cons, List.foldl_nil, if_true, if_false, bind_pure', Bool.and_true, Bool.or_false, Bool.and_false, Bool.or_true, Bool.true_and, Bool.false_and, Bool.true_or, Bool.false_or, if_neg Bool.false_ne_true]
  refine (m_pull (n := 11) (by decide) (by decide)).bind fun r hr => ?_
  obtain ⟨i, rfl, hi0, hi1⟩ := hr
  simp only [Nat.reduceAdd, Nat.reduceSub, Nat.zero_add, Nat.reduceEqDiff, EV1, EV2, EV3, EV4, EV5, EV6, rdS, rdI, argS, slotR, tgPut, wipeE, frzS, cmpI, decide_eq_true_eq, Bool.not_true, Bool.not_false, Option.map_some, Option.map_none, List.map_cons, List.map_nil, List.zip_cons_cons, List.zip_nil_right, List.zip_nil_left, List.foldl_cons, List.foldl_nil, if_true, if_false, bind_pure', Bool.and_true, Bool.or_false, Bool.and_false, Bool.or_true, Bool.true_and, Bool.false_and, Bool.true_or, Bool.false_or, if_neg Bool.false_ne_true]
  have no : ∀ {P : Prop}, (0 : Int) < 0 → P := fun z => absurd z (by decide)
  refine Dr.ite (fun _ => Dr.ret ⟨_, _, _, _, _, rfl, .wire, by omega, hl, by decide, by decide, no⟩) fun h1 => ?_
  refine Dr.ite (fun _ => ?_) fun h2 => ?_
  · refine (m_pull (n := 97) (by decide) (by decide)).bind fun r hr => ?_
    obtain ⟨j, rfl, hj0, hj1⟩ := hr
    simp only [Nat.reduceAdd, Nat.reduceSub, Nat.zero_add, Nat.reduceEqDiff, EV1, EV2, EV3, EV4, EV5, EV6, rdS, rdI, argS, slotR, tgPut, wipeE, frzS, cmpI, decide_eq_true_eq, Bool.not_true, Bool.not_false, Option.map_some, Option.map_none, List.map_cons, List.map_nil, List.zip_cons_cons, List.zip_nil_right, List.zip_nil_left, List.foldl_cons, List.foldl_nil, if_true, if_false, bind_pure', Bool.and_true, Bool.or_false, Bool.and_false, Bool.or_true, Bool.true_and, Bool.false_and, Bool.true_or, Bool.false_or, if_neg Bool.false_ne_true]
    refine (m_of (by simp) (by simp)).bind fun r hr => ?_
    obtain ⟨d, hd, rfl⟩ := hr
    simp only [Nat.reduceAdd, Nat.reduceSub, Nat.zero_add, Nat.reduceEqDiff, EV1, EV2, EV3, EV4, EV5, EV6, rdS, rdI, argS, slotR, tgPut, wipeE, frzS, cmpI, decide_eq_true_eq, Bool.not_true, Bool.not_false, Option.map_some, Option.map_none, List.map_cons, List.map_nil, List.zip_cons_cons, List.zip_nil_right, List.zip_nil_left, List.foldl_cons, List.foldl_nil, if_true, if_false, bind_pure', Bool.and_true, Bool.or_false, Bool.and_false, Bool.or_true, Bool.true_and, Bool.false_and, Bool.true_or, Bool.false_or, if_neg Bool.false_ne_true]
    have : ∃ k : Int, d = .int k ∧ 0 ≤ k ∧ k ≤ 96 := by
      simp only [List.mem_cons, List.not_mem_nil, or_false] at hd
      rcases hd with rfl | rfl | rfl | rfl | rfl | rfl
      · exact ⟨0, rfl, by decide, by decide⟩
      · exact ⟨1, rfl, by decide, by decide⟩
      · exact ⟨2, rfl, by decide, by decide⟩
      · exact ⟨3, rfl, by decide, by decide⟩
      · exact ⟨96, rfl, by decide, by decide⟩
      · exact ⟨j, rfl, hj0, by omega⟩
    obtain ⟨k, rfl, hk0, hk1⟩ := this
    exact Dr.ret ⟨_, _, _, _, _, rfl, .weigh hk0 hk1, by omega, hl, by decide, by decide, no⟩
  repeat' (refine Dr.ite (fun h => ?_) (fun h => ?_))
  all_goals first
    | exact Dr.ret ⟨_, _, _, _, _, rfl, .shuf, by omega, by omega, by decide, by decide, no⟩
    | exact Dr.ret ⟨_, _, _, _, _, rfl, .copy1, by omega, by omega, by decide, by decide, no⟩
    | (refine (m_pull (n := 97) (by decide) (by decide)).bind fun r hr => ?_
       obtain ⟨j, rfl, hj0, hj1⟩ := hr
       exact Dr.ret ⟨_, _, _, _, _, rfl, .tweigh hj0 (by omega), by omega, by omega, by decide, by decide, no⟩)
    | (refine (m_of (by simp) (by simp)).bind fun r hr => ?_
       obtain ⟨d, hd, rfl⟩ := hr
       simp only [List.mem_cons, List.not_mem_nil, or_false] at hd
       first
       | (rcases hd with rfl | rfl | rfl
          · exact Dr.ret ⟨_, _, _, _, _, rfl, .lag, by omega, by omega, by decide, by decide, fun _ => by omega⟩
          · exact Dr.ret ⟨_, _, _, _, _, rfl, .lag, by omega, by omega, by decide, by decide, fun _ => by omega⟩
          · exact Dr.ret ⟨_, _, _, _, _, rfl, .tlag, by omega, by omega, by decide, by decide, fun _ => by omega⟩)
       | (rcases hd with rfl | rfl
          · first
            | exact Dr.ret ⟨_, _, _, _, _, rfl, .sum2, by omega, by omega, by decide, by decide, no⟩
            | exact Dr.ret ⟨_, _, _, _, _, rfl, .copy2, by omega, by omega, by decide, by decide, no⟩
            | exact Dr.ret ⟨_, _, _, _, _, rfl, .copy0, by omega, by omega, by decide, by decide, no⟩
          · first
            | exact Dr.ret ⟨_, _, _, _, _, rfl, .tcopy2, by omega, by omega, by decide, by decide, no⟩
            | exact Dr.ret ⟨_, _, _, _, _, rfl, .tsum2, by omega, by omega, by decide, by decide, no⟩
            | exact Dr.ret ⟨_, _, _, _, _, rfl, .tsum0, by omega, by omega, by decide, by decide, no⟩))
def lagX : Ex := (.bi (.x .intb) (.cons (.cmp .In (.s "lag") (.tup (.cons (.ix (.v 8) (.i 0)) (.cons (.ite (.cmp .Eq (.ix (.v 8) (.i 0)) (.s "turned")) (.ix (.ix (.v 8) (.i 1)) (.i 0)) (.s "")) .nil)))) .nil))
theorem b_layer_eq : b__law_layer = (.cons (.parN [4, 5, 6] [true, false, false] (.cons (.lst .nil) (.cons (.i 0) (.cons (.i 0) .nil)))) (.cons (.forS (.nm 7) (.rng1 (.bin .Add (.v 1) (.i 1))) (.cons (.ifS (.bop .And (.cons (.cmp .Gt (.v 1) (.i 0)) (.cons (.bop .Or (.cons (.cmp .Lt (.v 5) (.v 2)) (.cons (.cmp .Eq (.v 7) (.i 0)) .nil))) .nil))) (.cons (.unp [8, 9, 10] (.call 0 (.cons (.v 0) (.cons (.bin .Sub (.v 3) (.v 6)) (.cons (.v 1) .nil))))) (.cons (.app 4 (.v 8)) (.cons (.par 1 5 (.bin .Sub (.v 1) (.v 9)) (.bin .Add (.v 5) (.v 10))) (.cons (.set 6 (.bin .Add (.v 6) lagX)) .nil)))) .nil) .nil)) (.cons (.ret (.tup (.cons (.bin .Add (.v 4) (.bin .Mult (.lst (.cons (.tup (.cons (.s "copy") (.cons (.i 0) .nil))) .nil)) (.v 1))) (.cons (.v 5) (.cons (.v 6) .nil))))) .nil))) := rfl
theorem lagX_rd (ρ : List En) (m : M Rs) : rdS ρ lagX m = datR m := rfl
theorem lagX_ev {b x : D} {lo hi g : Int} (h : Bx14 b x lo hi g) {E : Ev} {ρ : List En} (hρ : ρ[8]? = some (.dat b)) : evX E ρ lagX = M.ret (.dat (.int g)) := by
  have key : ∀ g : Int, (∀ κ, evX E [.un, .un, .un, .un, .un, .un, .un, .un, .dat b] lagX κ = .ok (.dat (.int g)) κ) → evX E ρ lagX = M.ret (.dat (.int g)) := fun g h => by
    funext κ
    have e := h κ
    have h8 : ([.un, .un, .un, .un, .un, .un, .un, .un, .dat b] : List En)[8]? = some (.dat b) := rfl
    unfold lagX at e ⊢
    simp only [EV1, rdS, slotR, EV4, h8, hρ] at e ⊢
    exact e
  cases h <;> exact key _ fun κ => by kernel_rfl
theorem WgL.app {n : Nat} : ∀ {xs ys ls ls' : List D} {l r l' r' : Int}, WgL n xs ls l r → WgL n ys ls' l' r' → WgL n (xs ++ ys) (ls ++ ls') (l + l') (r + r')
  | _, _, _, _, _, _, _, _, .nil, h => by simpa using h
  | _, _, _, _, _, _, _, _, .cons h1 h2, h => by
    rw [List.cons_append, List.append_assoc, Int.add_assoc, Int.add_assoc]
    exact .cons h1 (WgL.app h2 h)
theorem WgL.one {n : Nat} {d : D} {ls : List D} {l r : Int} (h : Wg n d ls l r) : WgL n [d] ls l r := by
  have := WgL.cons h (.nil (n := n))
  simpa using this
theorem WgL.rep {n : Nat} {d x : D} {l r : Int} (h : Wg n d [x] l r) : ∀ k : Nat, WgL n (List.replicate k d) (List.replicate k x) (l * k) (r * k)
  | 0 => by
    rw [show l * ((0 : Nat) : Int) = 0 by simp, show r * ((0 : Nat) : Int) = 0 by simp]
    exact .nil
  | k + 1 => by
    rw [List.replicate_succ, List.replicate_succ, show l * ((k + 1 : Nat) : Int) = l + l * k by rw [Int.natCast_add, Int.mul_add]; omega, show r * ((k + 1 : Nat) : Int) = r + r * k by rw [Int.natCast_add, Int.mul_add]; omega]
    exact .cons h (WgL.rep h k)
theorem nLag_rep {x : D} (h : nLag [x] = 0) : ∀ k : Nat, nLag (List.replicate k x) = 0
  | 0 => rfl
  | k + 1 => by
    rw [List.replicate_succ, ← List.singleton_append, nLag_app, h, nLag_rep h k]
def LayR (most left room : Int) (r : Rs) : Prop := ∃ bs ls rt g, r = .dat (.tuple [.list bs, .int rt, .int g]) ∧ WgL 2 bs ls left rt ∧ (nLag ls : Int) = g ∧ (0 ≤ room → g ≤ room) ∧ (ls.length : Int) ≤ left ∧ 0 ≤ rt ∧ rt ≤ most + 1
def LayI (left most room : Int) (i : Nat) (ρ : List En) : Prop := ∃ (l r g : Int) (bs ls : List D) (z7 z8 z9 z10 : En), ρ = [.dat (.hd 0), .dat (.int l), .dat (.int most), .dat (.int room), .own (.lst bs), .dat (.int r), .dat (.int g), z7, z8, z9, z10] ∧ 0 ≤ l ∧ l + ls.length ≤ left ∧ bs.length = ls.length ∧ 0 ≤ r ∧ r ≤ most + 1 ∧ (i = 0 → r = 0) ∧ WgL 2 bs ls (left - l) r ∧ (nLag ls : Int) = g ∧ (0 ≤ room → g ≤ room)
theorem m_layer14 {left most room : Int} (h0 : 0 ≤ left) (h1 : left ≤ 20) (m0 : 1 ≤ most) (m1 : most ≤ 20) : Dr (M__law_layer [.dat (.hd 0), .dat (.int left), .dat (.int most), .dat (.int room)]) (LayR most left room) := by
  have hS := sizeLine_big
  unfold M__law_layer evF
  rw [b_layer_eq]
  simp only [Nat.reduceAdd, Nat.reduceSub, Nat.zero_add, Nat.reduceEqDiff, EV1, EV2, EV3, EV4, EV5, EV6, rdS, rdI, argS, slotR, tgPut, wipeE, frzS, cmpI, decide_eq_true_eq, Bool.not_true, Bool.not_false, Option.map_some, Option.map_none, List.map_cons, List.map_nil, List.zip_cons_cons, List.zip_nil_right, List.zip_nil_left, List.foldl_cons, List.foldl_nil, if_true, if_false, bind_pure', Bool.and_true, Bool.or_false, Bool.and_false, Bool.or_true, Bool.true_and, Bool.false_and, Bool.true_or, Bool.false_or, if_neg Bool.false_ne_true, ranS_ok (show -(2 ^ 62) ≤ (0 : Int) ∧ (0 : Int) < 2 ^ 62 ∧ -(2 ^ 62) ≤ left + 1 ∧ left + 1 < 2 ^ 62 by omega)]
  refine Dr.bind (Dr.forI (J := LayI left most room) (Q := fun o => ∃ i ρ, o = .nx ρ ∧ LayI left most room i ρ) ⟨left, 0, 0, [], [], _, _, _, _, rfl, h0, by simp, rfl, by decide, by omega, fun _ => rfl, by rw [Int.sub_self]; exact .nil, rfl, fun h => h⟩ (fun i d ρ hd hI => ?_) fun ρ hI => ⟨_, ρ, rfl, hI⟩) fun o ho => ?_
  · obtain ⟨hi, rfl⟩ := rangeD_get' hd
    obtain ⟨l, r, g, bs, ls, z7, z8, z9, z10, rfl, l0, l1, lb, r0, r1, ri, hT, hg, hr⟩ := hI
    simp only [forB, Nat.reduceAdd, Nat.reduceSub, Nat.zero_add, Nat.reduceEqDiff, EV1, EV2, EV3, EV4, EV5, EV6, rdS, rdI, argS, slotR, tgPut, wipeE, frzS, cmpI, decide_eq_true_eq, Bool.not_true, Bool.not_false, Option.map_some, Option.map_none, List.map_cons, List.map_nil, List.zip_cons_cons, List.zip_nil_right, List.zip_nil_left, List.foldl_cons, List.foldl_nil, if_true, if_false, bind_pure', Bool.and_true, Bool.or_false, Bool.and_false, Bool.or_true, Bool.true_and, Bool.false_and, Bool.true_or, Bool.false_or, if_neg Bool.false_ne_true]
    refine Dr.ite (fun hc => ?_) (fun hc => ?_)
    · have hc' : 0 < l ∧ (r < most ∨ i = 0) := by
        simp only [Bool.and_eq_true, Bool.or_eq_true, decide_eq_true_eq] at hc
        omega
      obtain ⟨hl, hr'⟩ := hc'
      refine (m_box14 (room := room - g) (left := l) (by omega)).bind fun rr hrr => ?_
      obtain ⟨b, x, lo, hi', g', rfl, hb, lo1, lo2, hi0, hi1, hgr⟩ := hrr
      have hlen : bs.length < sizeLine := by omega
      simp only [Nat.reduceAdd, Nat.reduceSub, Nat.zero_add, Nat.reduceEqDiff, EV1, EV2, EV3, EV4, EV5, EV6, rdS, rdI, argS, slotR, tgPut, wipeE, frzS, cmpI, decide_eq_true_eq, Bool.not_true, Bool.not_false, Option.map_some, Option.map_none, List.map_cons, List.map_nil, List.zip_cons_cons, List.zip_nil_right, List.zip_nil_left, List.foldl_cons, List.foldl_nil, if_true, if_false, bind_pure', Bool.and_true, Bool.or_false, Bool.and_false, Bool.or_true, Bool.true_and, Bool.false_and, Bool.true_or, Bool.false_or, if_neg Bool.false_ne_true, if_pos hlen]
      have hgx := lagX_ev hb (E := ⟨[M__law_box], [], [], fun _ => none, fun _ _ => M.fail, []⟩) (ρ := [.dat (.hd 0), .dat (.int (l - lo)), .dat (.int most), .dat (.int room), .own (.lst (bs ++ [b])), .dat (.int (r + hi')), .dat (.int g), .dat (.int (0 + (i : Int))), .dat b, .dat (.int lo), .dat (.int hi')]) rfl
      simp only [Nat.reduceAdd, Nat.reduceSub, Nat.zero_add, Nat.reduceEqDiff, EV1, EV2, EV3, EV4, EV5, EV6, rdS, rdI, argS, slotR, tgPut, wipeE, frzS, cmpI, decide_eq_true_eq, Bool.not_true, Bool.not_false, Option.map_some, Option.map_none, List.map_cons, List.map_nil, List.zip_cons_cons, List.zip_nil_right, List.zip_nil_left, List.foldl_cons, List.foldl_nil, if_true, if_false, bind_pure', Bool.and_true, Bool.or_false, Bool.and_false, Bool.or_true, Bool.true_and, Bool.false_and, Bool.true_or, Bool.false_or, if_neg Bool.false_ne_true, lagX_rd, hgx]
      have hnl := hb.nl
      have hnew : WgL 2 (bs ++ [b]) (ls ++ [x]) (left - (l - lo)) (r + hi') := by
        have := hT.app (WgL.one hb.wg)
        rw [show left - (l - lo) = left - l + lo by omega]
        exact this
      refine Dr.ret ⟨_, .inl rfl, l - lo, r + hi', g + g', bs ++ [b], ls ++ [x], _, _, _, _, rfl, by omega, by rw [List.length_append]; show l - lo + ((ls.length + 1 : Nat) : Int) ≤ left; omega, by simp [lb], by omega, ?_, fun z => (by cases z), hnew, by rw [nLag_app, Int.natCast_add, hg, hnl.1], fun hz => ?_⟩
      · rcases hr' with hr' | hr'
        · omega
        · have := ri hr'
          omega
      · have := hr hz
        by_cases hz' : 0 < g'
        · have := hgr hz'
          omega
        · omega
    · exact Dr.ret ⟨_, .inl rfl, l, r, g, bs, ls, _, _, _, _, rfl, l0, l1, lb, r0, r1, fun z => (by cases z), hT, hg, hr⟩
  · obtain ⟨i, ρ, rfl, l, r, g, bs, ls, z7, z8, z9, z10, rfl, l0, l1, lb, r0, r1, ri, hT, hg, hr⟩ := ho
    have e1 : ∀ κ, opB .Mult κ (.list [.tuple [.str "copy", .int 0]]) (.int l) = some (.new (.lst (List.replicate l.toNat (.tuple [.str "copy", .int 0])))) := fun κ => by
      rw [opB_rep ⟨by omega, by omega, by show 1 * l.toNat ≤ _; omega⟩]
      simp
    have e2 : ∀ κ, opB .Add κ (.list bs) (.list (List.replicate l.toNat (.tuple [.str "copy", .int 0]))) = some (.new (.lst (bs ++ List.replicate l.toNat (.tuple [.str "copy", .int 0])))) := fun κ => opB_cat (by rw [List.length_replicate]; omega)
    simp only [Nat.reduceAdd, Nat.reduceSub, Nat.zero_add, Nat.reduceEqDiff, EV1, EV2, EV3, EV4, EV5, EV6, rdS, rdI, argS, slotR, tgPut, wipeE, frzS, cmpI, decide_eq_true_eq, Bool.not_true, Bool.not_false, Option.map_some, Option.map_none, List.map_cons, List.map_nil, List.zip_cons_cons, List.zip_nil_right, List.zip_nil_left, List.foldl_cons, List.foldl_nil, if_true, if_false, bind_pure', Bool.and_true, Bool.or_false, Bool.and_false, Bool.or_true, Bool.true_and, Bool.false_and, Bool.true_or, Bool.false_or, if_neg Bool.false_ne_true, e1, e2]
    have hnew := hT.app (WgL.rep Bx14.copy0.wg l.toNat)
    rw [show left - l + 1 * (l.toNat : Int) = left by omega, show r + 0 * (l.toNat : Int) = r by omega] at hnew
    refine Dr.ret ⟨_, _, _, _, rfl, hnew, ?_, hr, by rw [List.length_append, List.length_replicate]; omega, r0, r1⟩
    rw [nLag_app, nLag_rep rfl]
    exact hg
theorem WgC.snoc {n : Nat} {d : D} {ld : List D} {m r : Int} (h : Wg n d ld m r) : ∀ {ds ls : List D} {l : Int}, WgC n ds ls l m → WgC n (ds ++ [d]) (ls ++ ld) l r
  | _, _, _, .one h1 => .cons h1 (.one h)
  | _, _, _, .cons h1 h2 => by
    rw [List.cons_append, List.append_assoc]
    exact .cons h1 (WgC.snoc h h2)
def bodyFor : Sm → Sms
  | .forS _ _ b => b
  | _ => .nil
def E_wi : Ev := ⟨[M__law_pull, M__law_layer], [], [], fun _ => none, fun _ _ => M.fail, []⟩
/-- so far: none, or a chain -/
def Ch (ds ls : List D) (l r : Int) : Prop := (ds = [] ∧ ls = [] ∧ l = r) ∨ WgC 3 ds ls l r
theorem Ch.snoc {ds ls ld : List D} {d : D} {l m r : Int} (h : Ch ds ls l m) (hd : Wg 3 d ld m r) : WgC 3 (ds ++ [d]) (ls ++ ld) l r := by
  rcases h with ⟨rfl, rfl, rfl⟩ | h
  · exact .one hd
  · exact h.snoc hd
def WirI (bg most few : Int) (i : Nat) (ρ : List En) : Prop := ∃ (l room : Int) (ds ls : List D) (z6 z7 z8 z9 : En), ρ = [.dat (.hd 0), .dat (.int l), .dat (.int most), .dat (.int few), .own (.lst ds), .dat (.int room), z6, z7, z8, z9] ∧ 0 ≤ l ∧ l ≤ most + 1 ∧ Ch ds ls bg l ∧ (0 < i → ds ≠ []) ∧ ds.length ≤ 2 * i ∧ ls.length ≤ 2 * (most.toNat + 1) * i ∧ room = few - nLag ls ∧ 0 ≤ room
theorem wir_tail {bg most few l room : Int} {i : Nat} {ds ls : List D} {z6 z7 z8 z9 : En} (m0 : 1 ≤ most) (m1 : most ≤ 10) (l0 : 1 ≤ l) (l1 : l ≤ most + 1) (hi : i ≤ 20) (hl : ds.length ≤ 2 * i + 1) (hc : Ch ds ls bg l) (hn : ls.length + (most.toNat + 1) ≤ 2 * (most.toNat + 1) * (i + 1)) (hr : room = few - nLag ls) (hr0 : 0 ≤ room) : Dr (evSs E_wi [.dat (.hd 0), .dat (.int l), .dat (.int most), .dat (.int few), .own (.lst ds), .dat (.int room), z6, z7, z8, z9] (dropS 2 (bodyFor (nthS 1 b__law_wiring)))) (fun o => ∃ ρ', (o = .nx ρ' ∨ o = .ct ρ') ∧ WirI bg most few (i + 1) ρ') := by
  have hS := sizeLine_big
  simp only [dropS, bodyFor, nthS, b__law_wiring, E_wi]
  simp only [Nat.reduceAdd, Nat.reduceSub, Nat.zero_add, Nat.reduceEqDiff, EV1, EV2, EV3, EV4, EV5, EV6, rdS, rdI, argS, slotR, tgPut, wipeE, frzS, cmpI, decide_eq_true_eq, Bool.not_true, Bool.not_false, Option.map_some, Option.map_none, List.map_cons, List.map_nil, List.zip_cons_cons, List.zip_nil_right, List.zip_nil_left, List.foldl_cons, List.foldl_nil, if_true, if_false, bind_pure', Bool.and_true, Bool.or_false, Bool.and_false, Bool.or_true, Bool.true_and, Bool.false_and, Bool.true_or, Bool.false_or, if_neg Bool.false_ne_true]
  refine (m_layer14 (left := l) (most := most) (room := room) (by omega) (by omega) m0 (by omega)).bind fun r hr' => ?_
  obtain ⟨bs, lb, rt, g, rfl, hb, hg, hgr, hll, r0, r1⟩ := hr'
  have hlen : ds.length < sizeLine := by omega
  have hbl := hb.bxs.1
  have hb0 : 1 ≤ bs.length := by
    cases bs with
    | nil => cases hb; omega
    | cons _ _ => exact Nat.succ_le_succ (Nat.zero_le _)
  simp only [Nat.reduceAdd, Nat.reduceSub, Nat.zero_add, Nat.reduceEqDiff, EV1, EV2, EV3, EV4, EV5, EV6, rdS, rdI, argS, slotR, tgPut, wipeE, frzS, cmpI, decide_eq_true_eq, Bool.not_true, Bool.not_false, Option.map_some, Option.map_none, List.map_cons, List.map_nil, List.zip_cons_cons, List.zip_nil_right, List.zip_nil_left, List.foldl_cons, List.foldl_nil, if_true, if_false, bind_pure', Bool.and_true, Bool.or_false, Bool.and_false, Bool.or_true, Bool.true_and, Bool.false_and, Bool.true_or, Bool.false_or, if_neg Bool.false_ne_true, if_pos hlen]
  have hw : Wg 3 (.tuple [.str "beside", .tuple bs]) lb l rt := .bes hb hb0 (by omega) (by omega) (by omega)
  refine Dr.ret ⟨_, .inl rfl, rt, room - g, ds ++ [.tuple [.str "beside", .tuple bs]], ls ++ lb, _, _, _, _, rfl, r0, r1, .inr (hc.snoc hw), fun _ z => by simp at z, by rw [List.length_append]; show _ + 1 ≤ _; omega, ?_, ?_, ?_⟩
  · rw [List.length_append]
    omega
  · rw [nLag_app]
    omega
  · have := hgr hr0
    omega
def WirR (bg most few : Int) (r : Rs) : Prop := ∃ ds ls rt g, r = .dat (.tuple [.tuple [.str "then", .tuple ds], .int rt, .int g]) ∧ WgC 3 ds ls bg rt ∧ ds.length ≤ 6 ∧ ls.length ≤ 6 * (most.toNat + 1) ∧ g = few - nLag ls ∧ 0 ≤ g ∧ 0 ≤ rt ∧ rt ≤ most + 1
theorem m_wiring14 {left most few : Int} (h0 : 0 ≤ left) (h1 : left ≤ most + 1) (m0 : 1 ≤ most) (m1 : most ≤ 10) (f0 : 0 ≤ few) : Dr (M__law_wiring [.dat (.hd 0), .dat (.int left), .dat (.int most), .dat (.int few)]) (WirR left most few) := by
  have hS := sizeLine_big
  unfold M__law_wiring evF
  rw [show b__law_wiring = .cons (nthS 0 b__law_wiring) (.cons (.forS (.nm 6) (.rng1 (.bin .Add (.i 1) (.call 0 (.cons (.v 0) (.cons (.i 3) .nil))))) (.cons (nthS 0 (bodyFor (nthS 1 b__law_wiring))) (.cons (nthS 1 (bodyFor (nthS 1 b__law_wiring))) (dropS 2 (bodyFor (nthS 1 b__law_wiring)))))) (dropS 2 b__law_wiring)) from rfl]
  have hT := @wir_tail
  generalize dropS 2 (bodyFor (nthS 1 b__law_wiring)) = T2 at hT ⊢
  simp only [nthS, bodyFor, dropS, b__law_wiring]
  simp only [Nat.reduceAdd, Nat.reduceSub, Nat.zero_add, Nat.reduceEqDiff, EV1, EV2, EV3, EV4, EV5, EV6, rdS, rdI, argS, slotR, tgPut, wipeE, frzS, cmpI, decide_eq_true_eq, Bool.not_true, Bool.not_false, Option.map_some, Option.map_none, List.map_cons, List.map_nil, List.zip_cons_cons, List.zip_nil_right, List.zip_nil_left, List.foldl_cons, List.foldl_nil, if_true, if_false, bind_pure', Bool.and_true, Bool.or_false, Bool.and_false, Bool.or_true, Bool.true_and, Bool.false_and, Bool.true_or, Bool.false_or, if_neg Bool.false_ne_true]
  refine (m_pull (n := 3) (by decide) (by decide)).bind fun r hr => ?_
  obtain ⟨j, rfl, hj0, hj1⟩ := hr
  simp only [Nat.reduceAdd, Nat.reduceSub, Nat.zero_add, Nat.reduceEqDiff, EV1, EV2, EV3, EV4, EV5, EV6, rdS, rdI, argS, slotR, tgPut, wipeE, frzS, cmpI, decide_eq_true_eq, Bool.not_true, Bool.not_false, Option.map_some, Option.map_none, List.map_cons, List.map_nil, List.zip_cons_cons, List.zip_nil_right, List.zip_nil_left, List.foldl_cons, List.foldl_nil, if_true, if_false, bind_pure', Bool.and_true, Bool.or_false, Bool.and_false, Bool.or_true, Bool.true_and, Bool.false_and, Bool.true_or, Bool.false_or, if_neg Bool.false_ne_true, ranS_ok (show -(2 ^ 62) ≤ (0 : Int) ∧ (0 : Int) < 2 ^ 62 ∧ -(2 ^ 62) ≤ 1 + j ∧ 1 + j < 2 ^ 62 by omega)]
  refine Dr.bind (Dr.forI (J := WirI left most few) (Q := fun o => ∃ ρ i, o = .nx ρ ∧ 0 < i ∧ i ≤ 3 ∧ WirI left most few i ρ) ⟨left, few, [], [], _, _, _, _, rfl, h0, h1, .inl ⟨rfl, rfl, rfl⟩, fun z => absurd z (by decide), Nat.zero_le _, Nat.zero_le _, by show few = few - ((0 : Nat) : Int); omega, f0⟩ (fun i d ρ hd hI => ?_) fun ρ hI => ⟨ρ, _, rfl, ?_, ?_, hI⟩) fun o ho => ?_
  · obtain ⟨hi, rfl⟩ := rangeD_get' hd
    obtain ⟨l, room, ds, ls, z6, z7, z8, z9, rfl, l0, l1, hL, hne, hl, hll, hr, hr0⟩ := hI
    have hi3 : i < 3 := by omega
    simp only [forB, Nat.reduceAdd, Nat.reduceSub, Nat.zero_add, Nat.reduceEqDiff, EV1, EV2, EV3, EV4, EV5, EV6, rdS, rdI, argS, slotR, tgPut, wipeE, frzS, cmpI, decide_eq_true_eq, Bool.not_true, Bool.not_false, Option.map_some, Option.map_none, List.map_cons, List.map_nil, List.zip_cons_cons, List.zip_nil_right, List.zip_nil_left, List.foldl_cons, List.foldl_nil, if_true, if_false, bind_pure', Bool.and_true, Bool.or_false, Bool.and_false, Bool.or_true, Bool.true_and, Bool.false_and, Bool.true_or, Bool.false_or, if_neg Bool.false_ne_true]
    refine (m_pull (n := 2) (by decide) (by decide)).bind fun r hr' => ?_
    obtain ⟨k, rfl, hk0, hk1⟩ := hr'
    have hx : ∃ b x, Bx14 b x 0 1 0 ∧ atI [D.tuple [.str "sum", .int 0], .tuple [.str "turned", .tuple [.str "copy", .int 0]]] k = some b := by
      rcases (show k = 0 ∨ k = 1 by omega) with rfl | rfl
      · exact ⟨_, _, .sum0, rfl⟩
      · exact ⟨_, _, .tcopy0, rfl⟩
    obtain ⟨b, x, hb, hxb⟩ := hx
    simp only [Nat.reduceAdd, Nat.reduceSub, Nat.zero_add, Nat.reduceEqDiff, EV1, EV2, EV3, EV4, EV5, EV6, rdS, rdI, argS, slotR, tgPut, wipeE, frzS, cmpI, decide_eq_true_eq, Bool.not_true, Bool.not_false, Option.map_some, Option.map_none, List.map_cons, List.map_nil, List.zip_cons_cons, List.zip_nil_right, List.zip_nil_left, List.foldl_cons, List.foldl_nil, if_true, if_false, bind_pure', Bool.and_true, Bool.or_false, Bool.and_false, Bool.or_true, Bool.true_and, Bool.false_and, Bool.true_or, Bool.false_or, if_neg Bool.false_ne_true, hxb]
    have e1 : ∀ κ, opB .Mult κ (.tuple [.tuple [.str "wire"]]) (.int l) = some (.dat (.tuple (List.replicate l.toNat (.tuple [.str "wire"])))) := fun κ => by
      rw [opB_repT ⟨by simp, by decide, by omega, by omega⟩]
      simp
    have e2 : ∀ κ, opB .Add κ (.tuple (List.replicate l.toNat (.tuple [.str "wire"]))) (.tuple [b]) = some (.dat (.tuple (List.replicate l.toNat (.tuple [.str "wire"]) ++ [b]))) := fun κ => opB_catT (by rw [List.length_replicate]; show _ + 1 ≤ _; omega)
    have hlen : ds.length < sizeLine := by omega
    have hwide : WgL 2 (List.replicate l.toNat (.tuple [.str "wire"]) ++ [b]) (List.replicate l.toNat (.tuple [.str "wire"]) ++ [x]) l (l + 1) := by
      have := (WgL.rep Bx14.wire.wg l.toNat).app (WgL.one hb.wg)
      rw [show 1 * (l.toNat : Int) + 0 = l by omega, show 1 * (l.toNat : Int) + 1 = l + 1 by omega] at this
      exact this
    have small := fun (h1 : 1 ≤ l) => hT (few := few) (l := l) (room := room) (i := i) (ds := ds) (ls := ls) (z6 := .dat (.int (0 + (i : Int)))) (z7 := .dat b) (z8 := z8) (z9 := z9) m0 m1 h1 l1 (by omega) (by omega) hL (by rw [Nat.mul_add]; omega) hr hr0
    have big := fun (h2 : l + 1 ≤ most + 1) => hT (few := few) (l := l + 1) (room := room) (i := i) (ds := ds ++ [.tuple [.str "beside", .tuple (List.replicate l.toNat (.tuple [.str "wire"]) ++ [b])]]) (ls := ls ++ (List.replicate l.toNat (.tuple [.str "wire"]) ++ [x])) (z6 := .dat (.int (0 + (i : Int)))) (z7 := .dat b) (z8 := z8) (z9 := z9) m0 m1 (by omega) h2 (by omega) (by rw [List.length_append]; show _ + 1 ≤ _; omega) (.inr (hL.snoc (.bes hwide (by rw [List.length_append]; show 1 ≤ _ + 1; omega) (by rw [List.length_append, List.length_replicate]; show _ + 1 ≤ 12; omega) (by omega) (by omega)))) (by
      rw [List.length_append, List.length_append, List.length_replicate, Nat.mul_add]
      show _ + (_ + 1) + _ ≤ _
      omega) (by
      rw [nLag_app, nLag_app, nLag_rep rfl]
      have := hb.nl.1
      omega) hr0
    simp only [E_wi] at big small
    simp only [Nat.reduceAdd, Nat.reduceSub, Nat.zero_add, Nat.reduceEqDiff, EV1, EV2, EV3, EV4, EV5, EV6, rdS, rdI, argS, slotR, tgPut, wipeE, frzS, cmpI, decide_eq_true_eq, Bool.not_true, Bool.not_false, Option.map_some, Option.map_none, List.map_cons, List.map_nil, List.zip_cons_cons, List.zip_nil_right, List.zip_nil_left, List.foldl_cons, List.foldl_nil, if_true, if_false, bind_pure', Bool.and_true, Bool.or_false, Bool.and_false, Bool.or_true, Bool.true_and, Bool.false_and, Bool.true_or, Bool.false_or, if_neg Bool.false_ne_true, e1, e2, if_pos hlen]
    refine Dr.ite (fun hz => big (by omega)) fun hz => ?_
    have hz' : l ≠ 0 := hz
    refine Dr.ite (fun hm => ?_) fun _ => small (by omega)
    have hm' : l < most := by first | exact of_decide_eq_true hm | simpa using hm
    refine (m_pull (n := 5) (by decide) (by decide)).bind fun r hr => ?_
    obtain ⟨k5, rfl, _, _⟩ := hr
    simp only [Nat.reduceAdd, Nat.reduceSub, Nat.zero_add, Nat.reduceEqDiff, EV1, EV2, EV3, EV4, EV5, EV6, rdS, rdI, argS, slotR, tgPut, wipeE, frzS, cmpI, decide_eq_true_eq, Bool.not_true, Bool.not_false, Option.map_some, Option.map_none, List.map_cons, List.map_nil, List.zip_cons_cons, List.zip_nil_right, List.zip_nil_left, List.foldl_cons, List.foldl_nil, if_true, if_false, bind_pure', Bool.and_true, Bool.or_false, Bool.and_false, Bool.or_true, Bool.true_and, Bool.false_and, Bool.true_or, Bool.false_or, if_neg Bool.false_ne_true]
    exact Dr.ite (fun _ => big (by omega)) fun _ => small (by omega)
  · rw [rangeD_len]
    omega
  · rw [rangeD_len]
    omega
  · obtain ⟨ρ, i, rfl, i0, i3, l, room, ds, ls, z6, z7, z8, z9, rfl, l0, l1, hL, hne, hl, hll, hr, hr0⟩ := ho
    simp only [Nat.reduceAdd, Nat.reduceSub, Nat.zero_add, Nat.reduceEqDiff, EV1, EV2, EV3, EV4, EV5, EV6, rdS, rdI, argS, slotR, tgPut, wipeE, frzS, cmpI, decide_eq_true_eq, Bool.not_true, Bool.not_false, Option.map_some, Option.map_none, List.map_cons, List.map_nil, List.zip_cons_cons, List.zip_nil_right, List.zip_nil_left, List.foldl_cons, List.foldl_nil, if_true, if_false, bind_pure', Bool.and_true, Bool.or_false, Bool.and_false, Bool.or_true, Bool.true_and, Bool.false_and, Bool.true_or, Bool.false_or, if_neg Bool.false_ne_true]
    have hC : WgC 3 ds ls left l := hL.resolve_left fun z => hne i0 z.1
    have hb : 2 * (most.toNat + 1) * i ≤ 2 * (most.toNat + 1) * 3 := Nat.mul_le_mul_left _ i3
    exact Dr.ret ⟨ds, ls, l, room, rfl, hC, by omega, by omega, hr, hr0, l0, l1⟩

def rowsOf (rows : List (List Int)) : List D := rows.map rowD
theorem rows_of {k : Nat} : ∀ {ys : List D}, (∀ y ∈ ys, ∃ ns : List Int, y = .tuple (ns.map .int) ∧ ns.length = k ∧ ∀ i ∈ ns, 0 ≤ i ∧ i ≤ 96) → ∃ rows : List (List Int), ys = rows.map rowD ∧ rows.length = ys.length ∧ (∀ r ∈ rows, r.length = k) ∧ ∀ r ∈ rows, ∀ i ∈ r, 0 ≤ i ∧ i ≤ 96
  | [], _ => ⟨[], rfl, rfl, fun _ h => (nomatch h), fun _ h => (nomatch h)⟩
  | y :: ys, h => by
    obtain ⟨ns, rfl, h1, h2⟩ := h y (List.mem_cons_self ..)
    obtain ⟨rows, rfl, hl, h3, h4⟩ := rows_of fun z hz => h z (List.mem_cons_of_mem _ hz)
    refine ⟨ns :: rows, rfl, by rw [List.length_cons, List.length_cons, hl], fun r hr => ?_, fun r hr => ?_⟩
    · rcases List.mem_cons.mp hr with rfl | hr
      · exact h1
      · exact h3 r hr
    · rcases List.mem_cons.mp hr with rfl | hr
      · exact h2
      · exact h4 r hr
theorem ints_of2 {P : Int → Prop} : ∀ {ys : List D}, (∀ y ∈ ys, ∃ i : Int, y = .int i ∧ P i) → ∃ ns : List Int, ys = ns.map .int ∧ ns.length = ys.length ∧ ∀ i ∈ ns, P i
  | [], _ => ⟨[], rfl, rfl, fun _ h => (nomatch h)⟩
  | y :: ys, h => by
    obtain ⟨i, rfl, hi⟩ := h y (List.mem_cons_self ..)
    obtain ⟨ns, rfl, hn, hp⟩ := ints_of2 fun z hz => h z (List.mem_cons_of_mem _ hz)
    refine ⟨i :: ns, rfl, by rw [List.length_cons, List.length_cons, hn], fun j hj => ?_⟩
    rcases List.mem_cons.mp hj with rfl | hj
    · exact hi
    · exact hp j hj
theorem WgC.two {n : Nat} {a b : D} {la lb : List D} {l m r : Int} (h1 : Wg n a la l m) (h2 : Wg n b lb m r) : WgC n [a, b] (la ++ lb) l r := .cons h1 (.one h2)
def AnyR (most few : Int) (r : Rs) : Prop := ∃ d ls l rt, r = .dat (.tuple [d, .int l, .int rt]) ∧ Wg 7 d ls l rt ∧ ls.length ≤ 7 * (most.toNat + 1) ∧ (nLag ls : Int) ≤ few ∧ l ≤ most + 1 ∧ rt ≤ most + 1
theorem m_any14 {most few : Int} (m0 : 1 ≤ most) (m1 : most ≤ 10) (f0 : 0 ≤ few) : Dr (M__law_any_wiring [.dat (.hd 0), .dat (.int most), .dat (.int few)]) (AnyR most few) := by
  have hS := sizeLine_big
  unfold M__law_any_wiring b__law_any_wiring evF
  simp only [Nat.reduceAdd, Nat.reduceSub, Nat.zero_add, Nat.reduceEqDiff, EV1, EV2, EV3, EV4, EV5, EV6, rdS, rdI, argS, slotR, tgPut, wipeE, frzS, cmpI, decide_eq_true_eq, Bool.not_true, Bool.not_false, Option.map_some, Option.map_none, List.map_cons, List.map_nil, List.zip_cons_cons, List.zip_nil_right, List.zip_nil_left, List.foldl_cons, List.foldl_nil, if_true, if_false, bind_pure', Bool.and_true, Bool.or_false, Bool.and_false, Bool.or_true, Bool.true_and, Bool.false_and, Bool.true_or, Bool.false_or, if_neg Bool.false_ne_true]
  refine (m_pull (n := most + 1) (by omega) (by omega)).bind fun r hr => ?_
  obtain ⟨i, rfl, hi0, hi1⟩ := hr
  simp only [Nat.reduceAdd, Nat.reduceSub, Nat.zero_add, Nat.reduceEqDiff, EV1, EV2, EV3, EV4, EV5, EV6, rdS, rdI, argS, slotR, tgPut, wipeE, frzS, cmpI, decide_eq_true_eq, Bool.not_true, Bool.not_false, Option.map_some, Option.map_none, List.map_cons, List.map_nil, List.zip_cons_cons, List.zip_nil_right, List.zip_nil_left, List.foldl_cons, List.foldl_nil, if_true, if_false, bind_pure', Bool.and_true, Bool.or_false, Bool.and_false, Bool.or_true, Bool.true_and, Bool.false_and, Bool.true_or, Bool.false_or, if_neg Bool.false_ne_true]
  refine (m_wiring14 (left := i) (most := most) (few := few) hi0 (by omega) m0 m1 f0).bind fun r hr => ?_
  obtain ⟨ds, ls, rt, g, rfl, hC, hd6, hls, hg, g0, r0, r1⟩ := hr
  have hW : Wg 4 (.tuple [.str "then", .tuple ds]) ls i rt := .thn hC (by omega)
  generalize hwd : (D.tuple [.str "then", .tuple ds]) = wd at hW
  simp only [Nat.reduceAdd, Nat.reduceSub, Nat.zero_add, Nat.reduceEqDiff, EV1, EV2, EV3, EV4, EV5, EV6, rdS, rdI, argS, slotR, tgPut, wipeE, frzS, cmpI, decide_eq_true_eq, Bool.not_true, Bool.not_false, Option.map_some, Option.map_none, List.map_cons, List.map_nil, List.zip_cons_cons, List.zip_nil_right, List.zip_nil_left, List.foldl_cons, List.foldl_nil, if_true, if_false, bind_pure', Bool.and_true, Bool.or_false, Bool.and_false, Bool.or_true, Bool.true_and, Bool.false_and, Bool.true_or, Bool.false_or, if_neg Bool.false_ne_true]
  refine (m_pull (n := 6) (by decide) (by decide)).bind fun r hr => ?_
  obtain ⟨k, rfl, hk0, hk1⟩ := hr
  simp only [Nat.reduceAdd, Nat.reduceSub, Nat.zero_add, Nat.reduceEqDiff, EV1, EV2, EV3, EV4, EV5, EV6, rdS, rdI, argS, slotR, tgPut, wipeE, frzS, cmpI, decide_eq_true_eq, Bool.not_true, Bool.not_false, Option.map_some, Option.map_none, List.map_cons, List.map_nil, List.zip_cons_cons, List.zip_nil_right, List.zip_nil_left, List.foldl_cons, List.foldl_nil, if_true, if_false, bind_pure', Bool.and_true, Bool.or_false, Bool.and_false, Bool.or_true, Bool.true_and, Bool.false_and, Bool.true_or, Bool.false_or, if_neg Bool.false_ne_true]
  have e1 : ∀ κ, opB .Mult κ (.tuple [.tuple [.str "wire"]]) (.int (rt - 1)) = some (.dat (.tuple (List.replicate (rt - 1).toNat (.tuple [.str "wire"])))) := fun κ => by
    rw [opB_repT ⟨by simp, by decide, by omega, by omega⟩]
    simp
  have e2 : ∀ κ, opB .Add κ (.tuple (List.replicate (rt - 1).toNat (.tuple [.str "wire"]))) (.tuple [.tuple [.str "lag"]]) = some (.dat (.tuple (List.replicate (rt - 1).toNat (.tuple [.str "wire"]) ++ [.tuple [.str "lag"]]))) := fun κ => opB_catT (by rw [List.length_replicate]; show _ + 1 ≤ _; omega)
  have hbes : 0 < rt → Wg 3 (.tuple [.str "beside", .tuple (List.replicate (rt - 1).toNat (.tuple [.str "wire"]) ++ [.tuple [.str "lag"]])]) (List.replicate (rt - 1).toNat (.tuple [.str "wire"]) ++ [.tuple [.str "lag"]]) rt rt := fun h => by
    have := (WgL.rep Bx14.wire.wg (rt - 1).toNat).app (WgL.one Bx14.lag.wg)
    rw [show 1 * ((rt - 1).toNat : Int) + 1 = rt by omega] at this
    exact .bes this (by rw [List.length_append]; show 1 ≤ _ + 1; omega) (by rw [List.length_append, List.length_replicate]; show _ + 1 ≤ 12; omega) (by omega) (by omega)
  have hrepl : ((List.replicate (rt - 1).toNat (D.tuple [.str "wire"]) ++ [D.tuple [.str "lag"]]).length : Nat) = (rt - 1).toNat + 1 := by rw [List.length_append, List.length_replicate]; rfl
  have hnl : nLag (List.replicate (rt - 1).toNat (D.tuple [.str "wire"]) ++ [D.tuple [.str "lag"]]) = 1 := by
    rw [nLag_app, nLag_rep rfl]
    rfl
  repeat' (refine Dr.ite (fun h => ?_) (fun h => ?_))
  all_goals first
    | (refine Dr.ret ⟨_, ls, _, _, rfl, Wg.mono (.rng (l := i - 1) (r := rt - 1) (by rw [show i - 1 + 1 = i by omega, show rt - 1 + 1 = rt by omega]; exact hW) (by omega) (by omega)) (show 5 ≤ 7 by decide), by omega, by omega, by omega, by omega⟩)
    | exact Dr.ret ⟨_, ls, _, _, rfl, (Wg.trn hW).mono (by decide), by omega, by omega, by omega, by omega⟩
    | exact Dr.ret ⟨_, ls, _, _, rfl, hW.mono (by decide), by omega, by omega, by omega, by omega⟩
    | (simp only [Nat.reduceAdd, Nat.reduceSub, Nat.zero_add, Nat.reduceEqDiff, EV1, EV2, EV3, EV4, EV5, EV6, rdS, rdI, argS, slotR, tgPut, wipeE, frzS, cmpI, decide_eq_true_eq, Bool.not_true, Bool.not_false, Option.map_some, Option.map_none, List.map_cons, List.map_nil, List.zip_cons_cons, List.zip_nil_right, List.zip_nil_left, List.foldl_cons, List.foldl_nil, if_true, if_false, bind_pure', Bool.and_true, Bool.or_false, Bool.and_false, Bool.or_true, Bool.true_and, Bool.false_and, Bool.true_or, Bool.false_or, if_neg Bool.false_ne_true, e1, e2]
       have hC2 := WgC.two hW ((hbes (by omega)).mono (show 3 ≤ 4 by decide))
       refine Dr.ret ⟨_, _, _, _, rfl, Wg.mono (.rng (l := i - 1) (r := rt - 1) (by rw [show i - 1 + 1 = i by omega, show rt - 1 + 1 = rt by omega]; exact .thn hC2 (show 2 ≤ 12 by decide)) (by omega) (by omega)) (show 6 ≤ 7 by decide), ?_, ?_, by omega, by omega⟩
       · rw [List.length_append, hrepl]
         omega
       · rw [nLag_app, hnl]
         omega)
    | (refine (m_pull (n := most) (by omega) (by omega)).bind fun r hr => ?_
       obtain ⟨j, rfl, hj0, hj1⟩ := hr
       have hl : (rangeD 0 (1 + j - 0).toNat).length ≤ sizeLine := by rw [rangeD_len]; omega
       have hl2 : (rangeD 0 (rt - 0).toNat).length ≤ sizeLine := by rw [rangeD_len]; omega
       simp only [Nat.reduceAdd, Nat.reduceSub, Nat.zero_add, Nat.reduceEqDiff, EV1, EV2, EV3, EV4, EV5, EV6, rdS, rdI, argS, slotR, tgPut, wipeE, frzS, cmpI, decide_eq_true_eq, Bool.not_true, Bool.not_false, Option.map_some, Option.map_none, List.map_cons, List.map_nil, List.zip_cons_cons, List.zip_nil_right, List.zip_nil_left, List.foldl_cons, List.foldl_nil, if_true, if_false, bind_pure', Bool.and_true, Bool.or_false, Bool.and_false, Bool.or_true, Bool.true_and, Bool.false_and, Bool.true_or, Bool.false_or, if_neg Bool.false_ne_true, ranS_ok (show -(2 ^ 62) ≤ (0 : Int) ∧ (0 : Int) < 2 ^ 62 ∧ -(2 ^ 62) ≤ 1 + j ∧ 1 + j < 2 ^ 62 by omega), if_pos hl]
       refine Dr.bind (Dr.noX (Dr.compL (P := fun d => ∃ ns : List Int, d = .tuple (ns.map .int) ∧ ns.length = rt.toNat ∧ ∀ i ∈ ns, 0 ≤ i ∧ i ≤ 96) fun d hd => ?_)) fun ys hys => ?_
       · simp only [compG, Nat.reduceAdd, Nat.reduceSub, Nat.zero_add, Nat.reduceEqDiff, EV1, EV2, EV3, EV4, EV5, EV6, rdS, rdI, argS, slotR, tgPut, wipeE, frzS, cmpI, decide_eq_true_eq, Bool.not_true, Bool.not_false, Option.map_some, Option.map_none, List.map_cons, List.map_nil, List.zip_cons_cons, List.zip_nil_right, List.zip_nil_left, List.foldl_cons, List.foldl_nil, if_true, if_false, bind_pure', Bool.and_true, Bool.or_false, Bool.and_false, Bool.or_true, Bool.true_and, Bool.false_and, Bool.true_or, Bool.false_or, if_neg Bool.false_ne_true, ranS_ok (show -(2 ^ 62) ≤ (0 : Int) ∧ (0 : Int) < 2 ^ 62 ∧ -(2 ^ 62) ≤ rt ∧ rt < 2 ^ 62 by omega), if_pos hl2]
         refine Dr.bind (Dr.noX (Dr.compL (P := fun d => ∃ i : Int, d = .int i ∧ 0 ≤ i ∧ i ≤ 96) fun d hd => ?_)) fun zs hzs => ?_
         · simp only [compG, Nat.reduceAdd, Nat.reduceSub, Nat.zero_add, Nat.reduceEqDiff, EV1, EV2, EV3, EV4, EV5, EV6, rdS, rdI, argS, slotR, tgPut, wipeE, frzS, cmpI, decide_eq_true_eq, Bool.not_true, Bool.not_false, Option.map_some, Option.map_none, List.map_cons, List.map_nil, List.zip_cons_cons, List.zip_nil_right, List.zip_nil_left, List.foldl_cons, List.foldl_nil, if_true, if_false, bind_pure', Bool.and_true, Bool.or_false, Bool.and_false, Bool.or_true, Bool.true_and, Bool.false_and, Bool.true_or, Bool.false_or, if_neg Bool.false_ne_true]
           refine (m_pull (n := 97) (by decide) (by decide)).bind fun r hr => ?_
           obtain ⟨q, rfl, q0, q1⟩ := hr
           exact Dr.ret ⟨_, rfl, q, rfl, q0, by omega⟩
         · obtain ⟨ns, rfl, hns, hp⟩ := ints_of2 hzs.2
           refine Dr.ret ⟨_, rfl, ns, rfl, ?_, hp⟩
           rw [hns, hzs.1, rangeD_len]
           omega
       · obtain ⟨rows, rfl, hrl, h3, h4⟩ := rows_of hys.2
         have hrn : rows.length = (1 + j).toNat := by
           have := hys.1
           rw [rangeD_len] at this
           omega
         have hmix : Wg 4 (.tuple [.str "mix", .tuple (rows.map rowD)]) [.tuple [.str "mix", .tuple (rows.map rowD)]] (rt.toNat : Int) rows.length := .box (.mix ⟨by omega, by omega, by omega, by omega, h3, h4⟩)
         rw [show (rt.toNat : Int) = rt by omega] at hmix
         have e3 : ((rows.map rowD).length : Int) = (rows.length : Int) := by rw [List.length_map]
         refine Dr.ret ⟨_, _, _, _, by rw [e3], Wg.mono (.thn (WgC.two hW hmix) (show 2 ≤ 12 by decide)) (show 5 ≤ 7 by decide), ?_, ?_, by omega, by omega⟩
         · rw [List.length_append]
           show _ + 1 ≤ _
           omega
         · rw [nLag_app]
           have : nLag [D.tuple [.str "mix", .tuple (rows.map rowD)]] = 0 := rfl
           omega)

/-! ### _law_same of one and the same -/
theorem same_int (n : Nat) (i : Int) : M__law_same (n + 1) [.dat (.int i), .dat (.int i)] = M.ret (.dat (.bool true)) := by
  unfold M__law_same b__law_same evF
  have c : ∀ κ, cmpD .Eq κ (.int i) (.int i) = some true := fun κ => by show some (decide (i = i)) = _; simp
  have cf : ∀ κ, cmpD .NotEq κ (.bool false) (.bool false) = some false := fun κ => by kernel_rfl
  have ct : ∀ κ, cmpD .NotEq κ (.bool true) (.bool true) = some false := fun κ => by kernel_rfl
  have cg : ∀ κ, cmpD .Eq κ (.bool false) (.bool false) = some true := fun κ => by kernel_rfl
  simp only [Nat.reduceAdd, Nat.reduceSub, Nat.zero_add, Nat.reduceEqDiff, EV1, EV2, EV3, EV4, EV5, EV6, rdS, rdI, argS, slotR, tgPut, wipeE, frzS, cmpI, decide_eq_true_eq, Bool.not_true, Bool.not_false, Option.map_some, Option.map_none, List.map_cons, List.map_nil, List.zip_cons_cons, List.zip_nil_right, List.zip_nil_left, List.foldl_cons, List.foldl_nil, if_true, if_false, bind_pure', Bool.and_true, Bool.or_false, Bool.and_false, Bool.or_true, Bool.true_and, Bool.false_and, Bool.true_or, Bool.false_or, if_neg Bool.false_ne_true, isNoneD, isT, c, cf, ct, cg]
  first | done | rfl
theorem same_str (n : Nat) {z : Str} (hz : PyData.strOk z = true) : M__law_same (n + 1) [.dat (.str z), .dat (.str z)] = M.ret (.dat (.bool true)) := by
  unfold M__law_same b__law_same evF
  have c : ∀ κ, cmpD .Eq κ (.str z) (.str z) = some true := fun κ => cmp_eq_self (x := .str z) hz (Nat.zero_le _)
  have cf : ∀ κ, cmpD .NotEq κ (.bool false) (.bool false) = some false := fun κ => by kernel_rfl
  have ct : ∀ κ, cmpD .Eq κ (.bool true) (.bool true) = some true := fun κ => by kernel_rfl
  simp only [Nat.reduceAdd, Nat.reduceSub, Nat.zero_add, Nat.reduceEqDiff, EV1, EV2, EV3, EV4, EV5, EV6, rdS, rdI, argS, slotR, tgPut, wipeE, frzS, cmpI, decide_eq_true_eq, Bool.not_true, Bool.not_false, Option.map_some, Option.map_none, List.map_cons, List.map_nil, List.zip_cons_cons, List.zip_nil_right, List.zip_nil_left, List.foldl_cons, List.foldl_nil, if_true, if_false, bind_pure', Bool.and_true, Bool.or_false, Bool.and_false, Bool.or_true, Bool.true_and, Bool.false_and, Bool.true_or, Bool.false_or, if_neg Bool.false_ne_true, isNoneD, isT, c, cf, ct]
  first | done | rfl
theorem same_none (n : Nat) : M__law_same (n + 1) [.dat .none, .dat .none] = M.ret (.dat (.bool true)) := by funext κ; kernel_rfl
theorem zip_self {f : D → M (Option D)} : ∀ {ds : List D}, (∀ d ∈ ds, f (.tuple [d, d]) = M.ret (some (.bool true))) → compL f (zipD ds ds) = M.ret ((List.replicate ds.length true).map .bool)
  | [], _ => rfl
  | d :: ds, h => by
    have ih := zip_self fun x hx => h x (List.mem_cons_of_mem _ hx)
    show compL f (.tuple [d, d] :: zipD ds ds) = _
    rw [compL, h d (List.mem_cons_self ..), bind_ret, ih, bind_ret]
    rfl
theorem all_true' : ∀ (n : Nat), (List.replicate n true).all id = true
  | 0 => rfl
  | n + 1 => by
    rw [List.replicate_succ, List.all_cons, all_true' n]
    rfl
theorem zip_len' (ds : List D) : (zipD ds ds).length = ds.length := by
  unfold zipD
  rw [List.length_map, List.length_zip, Nat.min_self]
theorem same_tup {n : Nat} {ds : List D} (hl : ds.length ≤ 100000) (h : ∀ d ∈ ds, M__law_same n [.dat d, .dat d] = M.ret (.dat (.bool true))) : M__law_same (n + 1) [.dat (.tuple ds), .dat (.tuple ds)] = M.ret (.dat (.bool true)) := by
  have hS := sizeLine_big
  have hlen : (zipD ds ds).length ≤ sizeLine := by rw [zip_len']; omega
  have cf : ∀ κ, cmpD .NotEq κ (.bool false) (.bool false) = some false := fun κ => by kernel_rfl
  have cl : decide ((ds.length : Int) = (ds.length : Int)) = true := decide_eq_true rfl
  have comp := zip_self (ds := ds) (f := compG ⟨[(M__law_same n)], [], [], fun _ => none, fun _ _ => M.fail, []⟩ [.dat (.tuple ds), .dat (.tuple ds), .dat (.bool true), .un, .un] (.call 0 (.cons (.v 3) (.cons (.v 4) .nil))) (.tup [3, 4]) .nil) (fun d hd => by
    simp only [compG, Nat.reduceAdd, Nat.reduceSub, Nat.zero_add, Nat.reduceEqDiff, EV1, EV2, EV3, EV4, EV5, EV6, rdS, rdI, argS, slotR, tgPut, wipeE, frzS, cmpI, decide_eq_true_eq, Bool.not_true, Bool.not_false, Option.map_some, Option.map_none, List.map_cons, List.map_nil, List.zip_cons_cons, List.zip_nil_right, List.zip_nil_left, List.foldl_cons, List.foldl_nil, if_true, if_false, bind_pure', Bool.and_true, Bool.or_false, Bool.and_false, Bool.or_true, Bool.true_and, Bool.false_and, Bool.true_or, Bool.false_or, if_neg Bool.false_ne_true, h d hd]
    first | done | rfl)
  have i2 : ∀ κ, biS (.isi2 .list .tuple) κ [.tuple ds] = some (.dat (.bool true)) := fun κ => rfl
  have i1 : ∀ κ, biS (.isi .list) κ [.tuple ds] = some (.dat (.bool false)) := fun κ => rfl
  unfold M__law_same b__law_same evF
  simp only [Nat.reduceAdd, Nat.reduceSub, Nat.zero_add, Nat.reduceEqDiff, EV1, EV2, EV3, EV4, EV5, EV6, rdS, rdI, argS, slotR, tgPut, wipeE, frzS, cmpI, decide_eq_true_eq, Bool.not_true, Bool.not_false, Option.map_some, Option.map_none, List.map_cons, List.map_nil, List.zip_cons_cons, List.zip_nil_right, List.zip_nil_left, List.foldl_cons, List.foldl_nil, if_true, if_false, bind_pure', Bool.and_true, Bool.or_false, Bool.and_false, Bool.or_true, Bool.true_and, Bool.false_and, Bool.true_or, Bool.false_or, if_neg Bool.false_ne_true, isNoneD, isT, i1, i2, cf, cl, decide_true, zipS, if_pos hlen, comp, all_true']
  first | done | rfl
theorem same_lst {n : Nat} {ds : List D} (hl : ds.length ≤ 100000) (h : ∀ d ∈ ds, M__law_same n [.dat d, .dat d] = M.ret (.dat (.bool true))) : M__law_same (n + 1) [.dat (.list ds), .dat (.list ds)] = M.ret (.dat (.bool true)) := by
  have hS := sizeLine_big
  have hlen : (zipD ds ds).length ≤ sizeLine := by rw [zip_len']; omega
  have cf : ∀ κ, cmpD .NotEq κ (.bool true) (.bool true) = some false := fun κ => by kernel_rfl
  have cl : decide ((ds.length : Int) = (ds.length : Int)) = true := decide_eq_true rfl
  have comp := zip_self (ds := ds) (f := compG ⟨[(M__law_same n)], [], [], fun _ => none, fun _ _ => M.fail, []⟩ [.dat (.list ds), .dat (.list ds), .dat (.bool true), .un, .un] (.call 0 (.cons (.v 3) (.cons (.v 4) .nil))) (.tup [3, 4]) .nil) (fun d hd => by
    simp only [compG, Nat.reduceAdd, Nat.reduceSub, Nat.zero_add, Nat.reduceEqDiff, EV1, EV2, EV3, EV4, EV5, EV6, rdS, rdI, argS, slotR, tgPut, wipeE, frzS, cmpI, decide_eq_true_eq, Bool.not_true, Bool.not_false, Option.map_some, Option.map_none, List.map_cons, List.map_nil, List.zip_cons_cons, List.zip_nil_right, List.zip_nil_left, List.foldl_cons, List.foldl_nil, if_true, if_false, bind_pure', Bool.and_true, Bool.or_false, Bool.and_false, Bool.or_true, Bool.true_and, Bool.false_and, Bool.true_or, Bool.false_or, if_neg Bool.false_ne_true, h d hd]
    first | done | rfl)
  have i2 : ∀ κ, biS (.isi2 .list .tuple) κ [.list ds] = some (.dat (.bool true)) := fun κ => rfl
  have i1 : ∀ κ, biS (.isi .list) κ [.list ds] = some (.dat (.bool true)) := fun κ => rfl
  unfold M__law_same b__law_same evF
  simp only [Nat.reduceAdd, Nat.reduceSub, Nat.zero_add, Nat.reduceEqDiff, EV1, EV2, EV3, EV4, EV5, EV6, rdS, rdI, argS, slotR, tgPut, wipeE, frzS, cmpI, decide_eq_true_eq, Bool.not_true, Bool.not_false, Option.map_some, Option.map_none, List.map_cons, List.map_nil, List.zip_cons_cons, List.zip_nil_right, List.zip_nil_left, List.foldl_cons, List.foldl_nil, if_true, if_false, bind_pure', Bool.and_true, Bool.or_false, Bool.and_false, Bool.or_true, Bool.true_and, Bool.false_and, Bool.true_or, Bool.false_or, if_neg Bool.false_ne_true, isNoneD, isT, i1, i2, cf, cl, decide_true, zipS, if_pos hlen, comp, all_true']
  first | done | rfl

def wireD : D := .tuple [.str "wire"]
def wiresD (k : Nat) : D := .tuple [.str "beside", .tuple (List.replicate k (.tuple [.str "wire"]))]
def dropsD (k : Nat) : D := .tuple [.str "beside", .tuple (List.replicate k (.tuple [.str "copy", .int 0]))]
theorem wires_wg {k : Nat} (h0 : 1 ≤ k) (h1 : k ≤ 12) : Wg 3 (wiresD k) (List.replicate k (.tuple [.str "wire"])) k k := by
  have := WgL.rep Bx14.wire.wg k
  rw [show (1 : Int) * (k : Int) = k by omega] at this
  exact .bes this (by rw [List.length_replicate]; exact h0) (by rw [List.length_replicate]; exact h1) (by omega) (by omega)
theorem drops_wg {k : Nat} (h0 : 1 ≤ k) (h1 : k ≤ 12) : Wg 3 (dropsD k) (List.replicate k (.tuple [.str "copy", .int 0])) k 0 := by
  have := WgL.rep Bx14.copy0.wg k
  rw [show (1 : Int) * (k : Int) = k by omega, show (0 : Int) * (k : Int) = 0 by omega] at this
  exact .bes this (by rw [List.length_replicate]; exact h0) (by rw [List.length_replicate]; exact h1) (by omega) (by decide)
theorem soF_two {n : Nat} {a b : D} {la lb : List D} {l m l' r : Int} (h1 : Wg n a la l m) (h2 : Wg n b lb l' r) (hn : n ≤ 20) : compL (soF n) [a, b] = M.ret ([(l, m), (l', r)].map encP) := by
  rw [compL, show soF n a = M.ret (some (shpD l m)) by unfold soF; rw [h1.so hn]; rfl, bind_ret, compL, show soF n b = M.ret (some (shpD l' r)) by unfold soF; rw [h2.so hn]; rfl, bind_ret, compL]
  rfl
theorem soF_one {n : Nat} {a : D} {la : List D} {l m : Int} (h1 : Wg n a la l m) (hn : n ≤ 20) : compL (soF n) [a] = M.ret ([(l, m)].map encP) := by
  rw [compL, show soF n a = M.ret (some (shpD l m)) by unfold soF; rw [h1.so hn]; rfl, bind_ret, compL]
  rfl
theorem oks2 {n : Nat} {a b : D} {la lb : List D} (h1 : Wv n a la) (h2 : Wv n b lb) : dOks [a, b] = true ∧ dDeps [a, b] ≤ 2 * n + 1 := (WvL.cons h1 (WvL.one h2)).ok
theorem us_then2 {n : Nat} {a b : D} {la lb : List D} {l m l' r : Int} (h1 : Wg n a la l m) (h2 : Wg n b lb l' r) (h : m ≠ l') : Us (n + 1) (.tuple [.str "then", .tuple [a, b]]) := fun k hk hk2 => by
  obtain ⟨j, rfl⟩ : ∃ j, k = j + 1 := ⟨k - 1, by omega⟩
  have g1 := h1.mono (show n ≤ j by omega)
  have g2 := h2.mono (show n ≤ j by omega)
  have ho := oks2 g1.wv g2.wv
  exact us_js (ps := [a, b]) (po_then [a, b]) (by simp) ho.1 (by omega) (show 2 ≤ 12 by decide) (soF_two g1 g2 (by omega)) (js_then_bad h)
theorem us_ring {n : Nat} {a : D} {la : List D} {l m : Int} (h1 : Wg n a la l m) (h : l = 0 ∨ m = 0) : Us (n + 1) (.tuple [.str "ring", a]) := fun k hk hk2 => by
  obtain ⟨j, rfl⟩ : ∃ j, k = j + 1 := ⟨k - 1, by omega⟩
  have g1 := h1.mono (show n ≤ j by omega)
  have ho := (WvL.one g1.wv).ok
  exact us_js (ps := [a]) (po_ring a) (by simp) ho.1 (by omega) (show 1 ≤ 12 by decide) (soF_one g1 (by omega)) (js_ring_bad h)
theorem us_up {k n : Nat} {w : Str} {x d : D} {pre post : List D} {ls : List D} (p : PO (.tuple [.str w, x]) (some (pre ++ d :: post))) (hv : WvL n (pre ++ d :: post) ls) (hl : (pre ++ d :: post).length ≤ 12) (hn : n ≤ 20) (hp : ∀ e ∈ pre, ∃ le l r, Wg k e le l r) (hu : Us k d) : Us (k + 1) (.tuple [.str w, x]) := fun m hm hm2 => by
  obtain ⟨j, rfl⟩ : ∃ j, m = j + 1 := ⟨m - 1, by omega⟩
  have ho := hv.ok
  refine us_join p (by simp) ho.1 (by omega) hl (comp_raise ?_ fun e he => ?_)
  · unfold soF
    rw [hu j (by omega) (by omega)]
    rfl
  · obtain ⟨le, l, r, h⟩ := hp e he
    refine ⟨shpD l r, ?_⟩
    unfold soF
    rw [(h.mono (show k ≤ j by omega)).so (by omega)]
    rfl
/-- what does not fit -/
structure Mis (k : Nat) (d : D) (c g : Nat) : Prop where
  u : Us k d
  v : ∃ ls, Wv k d ls ∧ ls.length ≤ c ∧ nLag ls ≤ g
theorem Mis.mono {k k' c c' g g' : Nat} {d : D} (h : Mis k d c g) (h1 : k ≤ k') (h2 : c ≤ c') (h3 : g ≤ g') : Mis k' d c' g' := by
  obtain ⟨u, ls, v, a, b⟩ := h
  exact ⟨u.mono h1, ls, v.mono h1, by omega, by omega⟩
def row7 : List D := List.replicate 7 (.int 1)
def drop12 : List D := List.replicate 12 (.tuple [.str "copy", .int 0])
def mixD : D := .tuple [.str "mix", .tuple [.tuple row7]]
def wideD16 : D := .tuple [.str "beside", .tuple [.tuple [.str "copy", .int 4], .tuple [.str "copy", .int 4], .tuple [.str "copy", .int 4], .tuple [.str "wire"]]]
def dropD16 : D := .tuple [.str "beside", .tuple [.tuple [.str "beside", .tuple drop12], .tuple [.str "wire"]]]
theorem mix7 : Box mixD 7 1 := .mix (rows := [List.replicate 7 1]) (c := 7) ⟨by decide, by decide, by decide, by decide, fun r hr => by rw [List.mem_singleton.mp hr]; rfl, fun r hr i hi => by
  rw [List.mem_singleton.mp hr] at hi
  rw [(List.mem_replicate.mp hi).2]
  decide⟩
theorem copy4 : Box (.tuple [.str "copy", .int 4]) 1 4 := .copy (by decide) (by decide)
theorem bx_rep {n : Nat} {x : D} {l r : Int} (h : Box x l r) : ∀ k : Nat, WvL (n + 1) (List.replicate k x) (List.replicate k x)
  | 0 => .nil
  | k + 1 => WvL.cons (.box h) (bx_rep h k)
theorem us_closed {d : D} (k : Nat) (h : ∀ m κ, M_shape_of (m + k) [.dat d] κ = M.raise xUnshaped κ) : Us k d := fun n hn _ => by
  obtain ⟨m, rfl⟩ : ∃ m, n = m + k := ⟨n - k, by omega⟩
  funext κ
  exact h m κ
theorem mis_mix : Mis 3 (.tuple [.str "beside", .tuple [mixD, mixD]]) 2 0 := ⟨us_closed 3 fun m κ => by kernel_rfl, _, (Wv.bes (bx_rep (n := 0) mix7 2) (by decide) (by decide)).mono (show 2 ≤ 3 by decide), by decide, by decide⟩
theorem mis_copy : Mis 3 (.tuple [.str "beside", .tuple [.tuple [.str "copy", .int 4], .tuple [.str "copy", .int 4], .tuple [.str "copy", .int 4], .tuple [.str "copy", .int 4]]]) 4 0 := ⟨us_closed 3 fun m κ => by kernel_rfl, _, (Wv.bes (bx_rep (n := 0) copy4 4) (by decide) (by decide)).mono (show 2 ≤ 3 by decide), by decide, by decide⟩
theorem mis_r1 : Mis 3 (.tuple [.str "ring", .tuple [.str "copy", .int 0]]) 1 0 := ⟨us_closed 3 fun m κ => by kernel_rfl, _, .rng (.box (.copy (i := 0) (by decide) (by decide))), by decide, by decide⟩
theorem mis_r2 : Mis 3 (.tuple [.str "ring", .tuple [.str "sum", .int 0]]) 1 0 := ⟨us_closed 3 fun m κ => by kernel_rfl, _, .rng (.box (.sum (i := 0) (by decide) (by decide))), by decide, by decide⟩
theorem mis_wide : Mis 5 (.tuple [.str "then", .tuple [wideD16, dropD16]]) 17 0 := by
  refine ⟨us_closed 5 fun m κ => by kernel_rfl, _, .thn (WvL.cons (ls := _) (.bes (WvL.cons (.box copy4) (WvL.cons (.box copy4) (WvL.cons (.box copy4) (WvL.one (.box .wire))))) (by decide) (by decide)) (WvL.one (.bes (WvL.cons (.bes (bx_rep (Box.copy (i := 0) (by decide) (by decide)) 12) (by decide) (by decide)) (WvL.one (.box .wire))) (by decide) (by decide)))) (by decide) (by decide), by decide, by decide⟩
theorem mis_up {k c g : Nat} {bad d : D} (hk : k ≤ 15) (h : Mis k bad c g) (hd : d ∈ [D.tuple [.str "turned", bad], .tuple [.str "beside", .tuple [.tuple [.str "wire"], bad]], .tuple [.str "then", .tuple [bad]], .tuple [.str "beside", .tuple [bad, .tuple [.str "lag"]]]]) : Mis (k + 1) d (c + 1) (g + 1) := by
  obtain ⟨u, ls, v, a, b⟩ := h
  have k0 : ∃ j, k = j + 1 := by cases v <;> exact ⟨_, rfl⟩
  have wk : ∀ {x : D} {l r : Int}, Box x l r → Wg k x [x] l r := fun hx => by
    obtain ⟨j, rfl⟩ := k0
    exact .box hx
  simp only [List.mem_cons, List.not_mem_nil, or_false] at hd
  rcases hd with rfl | rfl | rfl | rfl
  · exact ⟨us_up (pre := []) (post := []) (po_turned bad) (WvL.one v) (show 1 ≤ 12 by decide) (by omega) (fun _ z => nomatch z) u, ls, .trn v, by omega, by omega⟩
  · refine ⟨us_up (pre := [.tuple [.str "wire"]]) (post := []) (po_beside [.tuple [.str "wire"], bad]) (WvL.cons (wk .wire).wv (WvL.one v)) (show 2 ≤ 12 by decide) (by omega) (fun e he => ?_) u, _, .bes (WvL.cons (wk .wire).wv (WvL.one v)) (show 1 ≤ 2 by decide) (show 2 ≤ 12 by decide), by rw [List.length_append]; show 1 + _ ≤ _; omega, ?_⟩
    · rw [List.mem_singleton.mp he]
      exact ⟨_, _, _, wk .wire⟩
    · rw [nLag_app]
      have : nLag [D.tuple [.str "wire"]] = 0 := rfl
      omega
  · exact ⟨us_up (pre := []) (post := []) (po_then [bad]) (WvL.one v) (show 1 ≤ 12 by decide) (by omega) (fun _ z => nomatch z) u, ls, .thn (WvL.one v) (show 1 ≤ 1 by decide) (show 1 ≤ 12 by decide), by omega, by omega⟩
  · refine ⟨us_up (pre := []) (post := [.tuple [.str "lag"]]) (po_beside [bad, .tuple [.str "lag"]]) (WvL.cons v (WvL.one (wk .lag).wv)) (show 2 ≤ 12 by decide) (by omega) (fun _ z => nomatch z) u, _, .bes (WvL.cons v (WvL.one (wk .lag).wv)) (show 1 ≤ 2 by decide) (show 2 ≤ 12 by decide), by rw [List.length_append]; show _ + 1 ≤ _; omega, ?_⟩
    rw [nLag_app]
    have : nLag [D.tuple [.str "lag"]] = 1 := rfl
    omega
theorem nLag_wires (k : Nat) : nLag (List.replicate k (D.tuple [.str "wire"])) = 0 := nLag_rep rfl k
theorem nLag_drops (k : Nat) : nLag (List.replicate k (D.tuple [.str "copy", .int 0])) = 0 := nLag_rep rfl k
theorem m_misfit {w : D} {ls : List D} {l r : Int} (h : Wg 8 w ls l r) (hl : ls.length ≤ 29) (hg : nLag ls ≤ 4) (hr0 : 1 ≤ r) (hr1 : r ≤ 4) : Dr (M__law_misfit [.dat (.hd 0), .dat w, .dat (.int l), .dat (.int r)]) (fun res => ∃ d, res = .dat d ∧ Mis 11 d 50 4) := by
  have hS := sizeLine_big
  obtain ⟨k, rfl⟩ : ∃ k : Nat, r = k := ⟨r.toNat, by omega⟩
  have hk0 : 1 ≤ k := by omega
  have hk1 : k ≤ 4 := by omega
  have e1 : ∀ κ, opB .Mult κ (.tuple [.tuple [.str "wire"]]) (.int ((k : Int) + 1)) = some (.dat (.tuple (List.replicate (k + 1) (.tuple [.str "wire"])))) := fun κ => by
    rw [opB_repT ⟨by simp, by decide, by omega, by omega⟩]
    simp
  have e2 : ∀ κ, opB .Mult κ (.tuple [.tuple [.str "wire"]]) (.int (k : Int)) = some (.dat (.tuple (List.replicate k (.tuple [.str "wire"])))) := fun κ => by
    rw [opB_repT ⟨by simp, by decide, by omega, by omega⟩]
    simp
  have e3 : ∀ κ, opB .Mult κ (.tuple [.tuple [.str "copy", .int 0]]) (.int (k : Int)) = some (.dat (.tuple (List.replicate k (.tuple [.str "copy", .int 0])))) := fun κ => by
    rw [opB_repT ⟨by simp, by decide, by omega, by omega⟩]
    simp
  have e4 : ∀ κ, opB .Mult κ (.tuple [.int 1]) (.int 7) = some (.dat (.tuple row7)) := fun κ => by kernel_rfl
  have e5 : ∀ κ, opB .Mult κ (.tuple [.tuple [.str "mix", .tuple [.tuple row7]]]) (.int 2) = some (.dat (.tuple [mixD, mixD])) := fun κ => by kernel_rfl
  have e6 : ∀ κ, opB .Mult κ (.tuple [.tuple [.str "copy", .int 4]]) (.int 4) = some (.dat (.tuple [.tuple [.str "copy", .int 4], .tuple [.str "copy", .int 4], .tuple [.str "copy", .int 4], .tuple [.str "copy", .int 4]])) := fun κ => by kernel_rfl
  have e7 : ∀ κ, opB .Mult κ (.tuple [.tuple [.str "copy", .int 0]]) (.int 12) = some (.dat (.tuple drop12)) := fun κ => by kernel_rfl
  have hw1 := (wires_wg (k := k + 1) (by omega) (by omega)).mono (show 3 ≤ 8 by decide)
  have hw0 := (wires_wg (k := k) hk0 (by omega)).mono (show 3 ≤ 8 by decide)
  have hd0 := (drops_wg (k := k) hk0 (by omega)).mono (show 3 ≤ 8 by decide)
  have o1 : Mis 11 (.tuple [.str "then", .tuple [w, wiresD (k + 1)]]) 50 4 := ⟨(us_then2 h hw1 (by omega)).mono (by decide), _, (Wv.thn (WvL.cons h.wv (WvL.one hw1.wv)) (show 1 ≤ 2 by decide) (show 2 ≤ 12 by decide)).mono (show 9 ≤ 11 by decide), by rw [List.length_append, List.length_replicate]; omega, by rw [nLag_app, nLag_wires]; omega⟩
  have o2 : Mis 11 (.tuple [.str "then", .tuple [wiresD (k + 1), wiresD k]]) 50 4 := ⟨(us_then2 hw1 hw0 (by omega)).mono (by decide), _, (Wv.thn (WvL.cons hw1.wv (WvL.one hw0.wv)) (show 1 ≤ 2 by decide) (show 2 ≤ 12 by decide)).mono (show 9 ≤ 11 by decide), by rw [List.length_append, List.length_replicate, List.length_replicate]; omega, by rw [nLag_app, nLag_wires, nLag_wires]; omega⟩
  have o7 : Mis 11 (.tuple [.str "ring", .tuple [.str "then", .tuple [w, dropsD k]]]) 50 4 := by
    have hc : Wg 9 (.tuple [.str "then", .tuple [w, dropsD k]]) (ls ++ List.replicate k (.tuple [.str "copy", .int 0])) l 0 := .thn (WgC.two h hd0) (show 2 ≤ 12 by decide)
    exact ⟨(us_ring hc (.inr rfl)).mono (by decide), _, (Wv.rng hc.wv).mono (show 10 ≤ 11 by decide), by rw [List.length_append, List.length_replicate]; omega, by rw [nLag_app, nLag_drops]; omega⟩
  simp only [wiresD, dropsD] at o1 o2 o7
  generalize List.replicate (k + 1) (D.tuple [.str "wire"]) = W1 at e1 o1 o2
  generalize List.replicate k (D.tuple [.str "wire"]) = W0 at e2 o2
  generalize List.replicate k (D.tuple [.str "copy", .int 0]) = D0 at e3 o7
  unfold M__law_misfit b__law_misfit evF
  simp only [Nat.reduceAdd, Nat.reduceSub, Nat.zero_add, Nat.reduceEqDiff, EV1, EV2, EV3, EV4, EV5, EV6, rdS, rdI, argS, slotR, tgPut, wipeE, frzS, cmpI, decide_eq_true_eq, Bool.not_true, Bool.not_false, Option.map_some, Option.map_none, List.map_cons, List.map_nil, List.zip_cons_cons, List.zip_nil_right, List.zip_nil_left, List.foldl_cons, List.foldl_nil, if_true, if_false, bind_pure', Bool.and_true, Bool.or_false, Bool.and_false, Bool.or_true, Bool.true_and, Bool.false_and, Bool.true_or, Bool.false_or, if_neg Bool.false_ne_true, e1, e2, e3, e4, e5, e6, e7]
  have key : ∀ {d : D} {ds : List D}, (∀ x ∈ ds, Mis 11 x 50 4) → d ∈ ds → Mis 11 d 50 4 := fun h hd => h _ hd
  have cat : ∀ (xs ys : List D) (κ : Ks), xs.length + ys.length ≤ 20 → opB .Add κ (.list xs) (.list ys) = some (.new (.lst (xs ++ ys))) := fun xs ys κ hh => opB_cat (by omega)
  have hgt : decide ((0 : Int) < (k : Int)) = true := decide_eq_true (by omega)
  have first6 : ∀ x ∈ ([D.tuple [.str "then", .tuple [w, .tuple [.str "beside", .tuple W1]]], .tuple [.str "then", .tuple [.tuple [.str "beside", .tuple W1], .tuple [.str "beside", .tuple W0]]], .tuple [.str "ring", .tuple [.str "copy", .int 0]]] ++ [D.tuple [.str "ring", .tuple [.str "sum", .int 0]], .tuple [.str "beside", .tuple [mixD, mixD]], .tuple [.str "beside", .tuple [.tuple [.str "copy", .int 4], .tuple [.str "copy", .int 4], .tuple [.str "copy", .int 4], .tuple [.str "copy", .int 4]]]]), Mis 11 x 50 4 := fun x hx => by
    simp only [List.cons_append, List.nil_append, List.mem_cons, List.not_mem_nil, or_false] at hx
    rcases hx with rfl | rfl | rfl | rfl | rfl | rfl
    · exact o1
    · exact o2
    · exact mis_r1.mono (by decide) (by decide) (by decide)
    · exact mis_r2.mono (by decide) (by decide) (by decide)
    · exact mis_mix.mono (by decide) (by decide) (by decide)
    · exact mis_copy.mono (by decide) (by decide) (by decide)
  have o8 : Mis 11 (.tuple [.str "then", .tuple [wideD16, dropD16]]) 50 4 := mis_wide.mono (by decide) (by decide) (by decide)
  have c1 : ∀ κ, opB .Add κ (.list [D.tuple [.str "then", .tuple [w, .tuple [.str "beside", .tuple W1]]], .tuple [.str "then", .tuple [.tuple [.str "beside", .tuple W1], .tuple [.str "beside", .tuple W0]]], .tuple [.str "ring", .tuple [.str "copy", .int 0]]]) (.list [D.tuple [.str "ring", .tuple [.str "sum", .int 0]], .tuple [.str "beside", .tuple [mixD, mixD]], .tuple [.str "beside", .tuple [.tuple [.str "copy", .int 4], .tuple [.str "copy", .int 4], .tuple [.str "copy", .int 4], .tuple [.str "copy", .int 4]]]]) = _ := fun κ => cat _ _ κ (show 3 + 3 ≤ 20 by decide)
  generalize hF : ([D.tuple [.str "then", .tuple [w, .tuple [.str "beside", .tuple W1]]], .tuple [.str "then", .tuple [.tuple [.str "beside", .tuple W1], .tuple [.str "beside", .tuple W0]]], .tuple [.str "ring", .tuple [.str "copy", .int 0]]] ++ [D.tuple [.str "ring", .tuple [.str "sum", .int 0]], .tuple [.str "beside", .tuple [mixD, mixD]], .tuple [.str "beside", .tuple [.tuple [.str "copy", .int 4], .tuple [.str "copy", .int 4], .tuple [.str "copy", .int 4], .tuple [.str "copy", .int 4]]]]) = Fs at first6 c1
  have hFl : Fs.length = 6 := by rw [← hF]; rfl
  have hF7 : Fs.length < sizeLine := by omega
  have c2 : ∀ κ, opB .Add κ (.list Fs) (.list [D.tuple [.str "then", .tuple [wideD16, dropD16]]]) = _ := fun κ => cat _ _ κ (by rw [hFl]; show 6 + 1 ≤ 20; decide)
  have c3 : ∀ (x : D) κ, opB .Add κ (.list (Fs ++ [x])) (.list [D.tuple [.str "then", .tuple [wideD16, dropD16]]]) = _ := fun x κ => cat _ _ κ (by rw [List.length_append, hFl]; show 6 + 1 + 1 ≤ 20; decide)
  simp only [wideD16, dropD16] at c2 c3
  simp only [Nat.reduceAdd, Nat.reduceSub, Nat.zero_add, Nat.reduceEqDiff, EV1, EV2, EV3, EV4, EV5, EV6, rdS, rdI, argS, slotR, tgPut, wipeE, frzS, cmpI, decide_eq_true_eq, Bool.not_true, Bool.not_false, Option.map_some, Option.map_none, List.map_cons, List.map_nil, List.zip_cons_cons, List.zip_nil_right, List.zip_nil_left, List.foldl_cons, List.foldl_nil, if_true, if_false, bind_pure', Bool.and_true, Bool.or_false, Bool.and_false, Bool.or_true, Bool.true_and, Bool.false_and, Bool.true_or, Bool.false_or, if_neg Bool.false_ne_true, c1, c2, c3, hgt, if_pos hF7, e3]
  refine Dr.ite (fun _ => ?_) (fun _ => ?_)
  · refine Dr.imp (m_of (by simp) (by rw [List.length_append, List.length_append, hFl]; show 6 + 1 + 1 ≤ 100000; decide)) fun res hres => ?_
    obtain ⟨d, hd, rfl⟩ := hres
    refine ⟨d, rfl, ?_⟩
    rcases List.mem_append.mp hd with hd | hd
    · rcases List.mem_append.mp hd with hd | hd
      · exact first6 d hd
      · rw [List.mem_singleton.mp hd]
        exact o7
    · rw [List.mem_singleton.mp hd]
      exact o8
  · refine Dr.imp (m_of (by simp) (by rw [List.length_append, hFl]; show 6 + 1 ≤ 100000; decide)) fun res hres => ?_
    obtain ⟨d, hd, rfl⟩ := hres
    refine ⟨d, rfl, ?_⟩
    rcases List.mem_append.mp hd with hd | hd
    · exact first6 d hd
    · rw [List.mem_singleton.mp hd]
      exact o8

theorem wg_beside2 {n : Nat} {a b : D} {la lb : List D} {l r l' r' : Int} (h1 : Wg n a la l r) (h2 : Wg n b lb l' r') (hl : l + l' ≤ 12) (hr : r + r' ≤ 12) : Wg (n + 1) (.tuple [.str "beside", .tuple [a, b]]) (la ++ lb) (l + l') (r + r') :=
  .bes (.cons h1 (WgL.one h2)) (show 1 ≤ 2 by decide) (show 2 ≤ 12 by decide) hl hr

def nOwn : En → Bool
  | .own _ => false
  | _ => true
theorem unOwn_cons {z : En} {r : List En} (h : nOwn z = true) : unOwn (z :: r) = z :: unOwn r := by
  cases z <;> first | rfl | cases h
def InvL (ρ : List En) : Prop := ∃ z2 z3 z4 z5 z6 z7 z8 z10, ρ = [.un, .dat (.hd 0), z2, z3, z4, z5, z6, z7, z8, .un, z10] ∧ nOwn z7 = true ∧ nOwn z10 = true
def uns3L : List D := [.tuple [.str "Unshaped"], .tuple [.str "Unshaped"], .tuple [.str "Unshaped"]]
def lams16 : D := .list [.lam 0 (.call 0 (.cons (.v 6) .nil)), .lam 0 (.call 3 (.cons (.v 6) .nil)), .lam 0 (.call 2 (.cons (.v 6) .nil))]
theorem tail16 {x w bad : D} {ls : List D} {l : Int} {k : Nat} {z7 z8 z10 : En} (hw : Wg 8 w ls l k) (hl : ls.length ≤ 29) (hg : nLag ls ≤ 4) (hk0 : 1 ≤ k) (hk1 : k ≤ 4) (hb : Mis 14 bad 60 8) (n7 : nOwn z7 = true) (n10 : nOwn z10 = true) : Dr (evSs E_law [.un, .dat (.hd 0), .dat x, .dat w, .dat (.int l), .dat (.int k), .dat bad, z7, z8, .un, z10] (dropS 4 (bodyFor (nthS 0 b_law)))) (fun o => ∃ ρ, (o = .nx ρ ∨ o = .ct ρ) ∧ InvL ρ) := by
  have hS := sizeLine_big
  obtain ⟨u, lb, v, hb1, hb2⟩ := hb
  obtain ⟨b1, b2, b3⟩ := m_threeU (by decide) hb1 hb2 v (u.mono (by decide))
  have t1 : triedM (trL ["BadTable", "BadSheet"] ["BadWiring", "Unshaped"]) (M.raise xUnshaped) = M.ret (.tuple [.str "Unshaped"]) := triedM_raise rfl
  have hu : unOwn [.un, .dat (.hd 0), .dat x, .dat w, .dat (.int l), .dat (.int k), .dat bad, z7, .dat (.list [.lam 0 (.call 0 (.cons (.v 6) .nil)), .lam 0 (.call 3 (.cons (.v 6) .nil)), .lam 0 (.call 2 (.cons (.v 6) .nil))]), .un, z10] = [.un, .dat (.hd 0), .dat x, .dat w, .dat (.int l), .dat (.int k), .dat bad, z7, .dat (.list [.lam 0 (.call 0 (.cons (.v 6) .nil)), .lam 0 (.call 3 (.cons (.v 6) .nil)), .lam 0 (.call 2 (.cons (.v 6) .nil))]), .un, z10] := by
    simp only [unOwn, unOwn_cons n7, unOwn_cons n10]
  have e2 : ∀ κ, opB .Mult κ (.tuple [.tuple [.str "wire"]]) (.int (k : Int)) = some (.dat (.tuple (List.replicate k (.tuple [.str "wire"])))) := fun κ => by
    rw [opB_repT ⟨by simp, by decide, by omega, by omega⟩]
    simp
  have hgood : Wg 9 (.tuple [.str "then", .tuple [w, wiresD k]]) (ls ++ List.replicate k (.tuple [.str "wire"])) l k := .thn (WgC.two hw ((wires_wg hk0 (by omega)).mono (by decide))) (show 2 ≤ 12 by decide)
  have hsh := (m_threeG (by decide) (by rw [List.length_append, List.length_replicate]; omega) (by rw [nLag_app, nLag_wires]; omega) hgood).1
  have hs : M__law_same 3 [.dat (shpD l k), .dat (.tuple [.int l, .int k])] = M.ret (.dat (.bool true)) := by
    refine same_tup (by show 2 ≤ 100000; decide) fun y hy => ?_
    simp only [List.mem_cons, List.not_mem_nil, or_false] at hy
    rcases hy with rfl | rfl
    · exact same_int _ _
    · exact same_int _ _
  simp only [wiresD] at hsh
  generalize List.replicate k (D.tuple [.str "wire"]) = W0 at e2 hsh
  simp only [dropS, bodyFor, nthS, b_law]
  simp only [Nat.reduceAdd, Nat.reduceSub, Nat.zero_add, Nat.reduceEqDiff, EV1, EV2, EV3, EV4, EV5, EV6, rdS, rdI, argS, slotR, tgPut, wipeE, frzS, cmpI, decide_eq_true_eq, Bool.not_true, Bool.not_false, Option.map_some, Option.map_none, List.map_cons, List.map_nil, List.zip_cons_cons, List.zip_nil_right, List.zip_nil_left, List.foldl_cons, List.foldl_nil, if_true, if_false, bind_pure', Bool.and_true, Bool.or_false, Bool.and_false, Bool.or_true, Bool.true_and, Bool.false_and, Bool.true_or, Bool.false_or, if_neg Bool.false_ne_true, E_law, lamsIn, lamsD, hu, E_law0, actL]
  simp only [b1, b2, b3, t1, Nat.reduceAdd, Nat.reduceSub, Nat.zero_add, Nat.reduceEqDiff, EV1, EV2, EV3, EV4, EV5, EV6, rdS, rdI, argS, slotR, tgPut, wipeE, frzS, cmpI, decide_eq_true_eq, Bool.not_true, Bool.not_false, Option.map_some, Option.map_none, List.map_cons, List.map_nil, List.zip_cons_cons, List.zip_nil_right, List.zip_nil_left, List.foldl_cons, List.foldl_nil, if_true, if_false, bind_pure', Bool.and_true, Bool.or_false, Bool.and_false, Bool.or_true, Bool.true_and, Bool.false_and, Bool.true_or, Bool.false_or, if_neg Bool.false_ne_true, ltS, Nat.reduceLT, Nat.reduceLeDiff, and_self]
  have r1 : ∀ κ, opB .Mult κ (.list [.tuple [.str "Unshaped"]]) (.int 3) = some (.new (.lst uns3L)) := fun κ => by kernel_rfl
  have q1 : ∀ κ, cmpD .NotEq κ (.list [.tuple [.str "Unshaped"], .tuple [.str "Unshaped"], .tuple [.str "Unshaped"]]) (.list uns3L) = some false := fun κ => cmp_ne_self (x := .list uns3L) (by decide +kernel) (by decide +kernel)
  simp only [r1, q1, Nat.reduceAdd, Nat.reduceSub, Nat.zero_add, Nat.reduceEqDiff, EV1, EV2, EV3, EV4, EV5, EV6, rdS, rdI, argS, slotR, tgPut, wipeE, frzS, cmpI, decide_eq_true_eq, Bool.not_true, Bool.not_false, Option.map_some, Option.map_none, List.map_cons, List.map_nil, List.zip_cons_cons, List.zip_nil_right, List.zip_nil_left, List.foldl_cons, List.foldl_nil, if_true, if_false, bind_pure', Bool.and_true, Bool.or_false, Bool.and_false, Bool.or_true, Bool.true_and, Bool.false_and, Bool.true_or, Bool.false_or, if_neg Bool.false_ne_true, e2, hsh, hs]
  exact Dr.ret ⟨_, .inl rfl, _, _, _, _, _, _, _, _, rfl, n7, rfl⟩
def MidI (x w : D) (l : Int) (k : Nat) (z8 z10 : En) (i : Nat) (ρ : List En) : Prop := ∃ bad z7, ρ = [.un, .dat (.hd 0), .dat x, .dat w, .dat (.int l), .dat (.int k), .dat bad, z7, z8, .un, z10] ∧ Mis (11 + i) bad (50 + i) (4 + i) ∧ nOwn z7 = true
/-- behind the wiring -/
theorem mid16 {x w : D} {ls : List D} {l : Int} {k : Nat} {z6 z7 z8 z10 : En} (hw : Wg 8 w ls l k) (hl : ls.length ≤ 29) (hg : nLag ls ≤ 4) (hk0 : 1 ≤ k) (hk1 : k ≤ 4) (n7 : nOwn z7 = true) (n10 : nOwn z10 = true) : Dr (evSs E_law [.un, .dat (.hd 0), .dat x, .dat w, .dat (.int l), .dat (.int k), z6, z7, z8, .un, z10] (dropS 2 (bodyFor (nthS 0 b_law)))) (fun o => ∃ ρ, (o = .nx ρ ∨ o = .ct ρ) ∧ InvL ρ) := by
  rw [show dropS 2 (bodyFor (nthS 0 b_law)) = .cons (nthS 2 (bodyFor (nthS 0 b_law))) (.cons (.forS (.nm 7) (.rng1 (.call 4 (.cons (.v 1) (.cons (.i 4) .nil)))) (bodyFor (nthS 3 (bodyFor (nthS 0 b_law))))) (dropS 4 (bodyFor (nthS 0 b_law)))) from rfl]
  have hA := @tail16
  generalize dropS 4 (bodyFor (nthS 0 b_law)) = T4 at hA ⊢
  simp only [nthS, bodyFor, b_law]
  simp only [E_law] at hA
  simp only [Nat.reduceAdd, Nat.reduceSub, Nat.zero_add, Nat.reduceEqDiff, EV1, EV2, EV3, EV4, EV5, EV6, rdS, rdI, argS, slotR, tgPut, wipeE, frzS, cmpI, decide_eq_true_eq, Bool.not_true, Bool.not_false, Option.map_some, Option.map_none, List.map_cons, List.map_nil, List.zip_cons_cons, List.zip_nil_right, List.zip_nil_left, List.foldl_cons, List.foldl_nil, if_true, if_false, bind_pure', Bool.and_true, Bool.or_false, Bool.and_false, Bool.or_true, Bool.true_and, Bool.false_and, Bool.true_or, Bool.false_or, if_neg Bool.false_ne_true, E_law]
  refine (m_misfit hw hl hg (by omega) (by omega)).bind fun r hr => ?_
  obtain ⟨bad, rfl, hb⟩ := hr
  simp only [Nat.reduceAdd, Nat.reduceSub, Nat.zero_add, Nat.reduceEqDiff, EV1, EV2, EV3, EV4, EV5, EV6, rdS, rdI, argS, slotR, tgPut, wipeE, frzS, cmpI, decide_eq_true_eq, Bool.not_true, Bool.not_false, Option.map_some, Option.map_none, List.map_cons, List.map_nil, List.zip_cons_cons, List.zip_nil_right, List.zip_nil_left, List.foldl_cons, List.foldl_nil, if_true, if_false, bind_pure', Bool.and_true, Bool.or_false, Bool.and_false, Bool.or_true, Bool.true_and, Bool.false_and, Bool.true_or, Bool.false_or, if_neg Bool.false_ne_true]
  refine (m_pull (n := 4) (by decide) (by decide)).bind fun r hr => ?_
  obtain ⟨a, rfl, ha0, ha1⟩ := hr
  simp only [Nat.reduceAdd, Nat.reduceSub, Nat.zero_add, Nat.reduceEqDiff, EV1, EV2, EV3, EV4, EV5, EV6, rdS, rdI, argS, slotR, tgPut, wipeE, frzS, cmpI, decide_eq_true_eq, Bool.not_true, Bool.not_false, Option.map_some, Option.map_none, List.map_cons, List.map_nil, List.zip_cons_cons, List.zip_nil_right, List.zip_nil_left, List.foldl_cons, List.foldl_nil, if_true, if_false, bind_pure', Bool.and_true, Bool.or_false, Bool.and_false, Bool.or_true, Bool.true_and, Bool.false_and, Bool.true_or, Bool.false_or, if_neg Bool.false_ne_true, ranS_ok (show -(2 ^ 62) ≤ (0 : Int) ∧ (0 : Int) < 2 ^ 62 ∧ -(2 ^ 62) ≤ a ∧ a < 2 ^ 62 by omega)]
  refine Dr.bind (Dr.forI (J := MidI x w l k z8 z10) (Q := fun o => ∃ ρ i, o = .nx ρ ∧ i ≤ 3 ∧ MidI x w l k z8 z10 i ρ) ⟨bad, z7, rfl, hb, n7⟩ (fun i d ρ hd hI => ?_) fun ρ hI => ⟨ρ, _, rfl, ?_, hI⟩) fun o ho => ?_
  · obtain ⟨hi, rfl⟩ := rangeD_get' hd
    obtain ⟨bad, z7, rfl, hb, _⟩ := hI
    simp only [forB, Nat.reduceAdd, Nat.reduceSub, Nat.zero_add, Nat.reduceEqDiff, EV1, EV2, EV3, EV4, EV5, EV6, rdS, rdI, argS, slotR, tgPut, wipeE, frzS, cmpI, decide_eq_true_eq, Bool.not_true, Bool.not_false, Option.map_some, Option.map_none, List.map_cons, List.map_nil, List.zip_cons_cons, List.zip_nil_right, List.zip_nil_left, List.foldl_cons, List.foldl_nil, if_true, if_false, bind_pure', Bool.and_true, Bool.or_false, Bool.and_false, Bool.or_true, Bool.true_and, Bool.false_and, Bool.true_or, Bool.false_or, if_neg Bool.false_ne_true]
    refine (m_of (by simp) (by simp)).bind fun r hr => ?_
    obtain ⟨d', hd', rfl⟩ := hr
    simp only [Nat.reduceAdd, Nat.reduceSub, Nat.zero_add, Nat.reduceEqDiff, EV1, EV2, EV3, EV4, EV5, EV6, rdS, rdI, argS, slotR, tgPut, wipeE, frzS, cmpI, decide_eq_true_eq, Bool.not_true, Bool.not_false, Option.map_some, Option.map_none, List.map_cons, List.map_nil, List.zip_cons_cons, List.zip_nil_right, List.zip_nil_left, List.foldl_cons, List.foldl_nil, if_true, if_false, bind_pure', Bool.and_true, Bool.or_false, Bool.and_false, Bool.or_true, Bool.true_and, Bool.false_and, Bool.true_or, Bool.false_or, if_neg Bool.false_ne_true]
    exact Dr.ret ⟨_, .inl rfl, d', _, rfl, (mis_up (by omega) hb hd').mono (by omega) (by omega) (by omega), rfl⟩
  · rw [rangeD_len]
    omega
  · obtain ⟨ρ, i, rfl, hi, bad, z7, rfl, hb, n7'⟩ := ho
    exact hA hw hl hg hk0 hk1 (hb.mono (by omega) (by omega) (by omega)) n7' n10
theorem law_end : ∀ ρ, InvL ρ → Dr (evSs E_law ρ (dropS 1 b_law)) (· = .rt (.dat (.bool true))) := fun ρ hI => by
  obtain ⟨z2, z3, z4, z5, z6, z7, z8, z10, rfl, _, _⟩ := hI
  have h3 : Wg 2 (.tuple [.str "beside", .tuple [.tuple [.str "copy", .int 4], .tuple [.str "copy", .int 4], .tuple [.str "copy", .int 4]]]) _ _ _ := .bes (.cons (n := 1) (.box copy4) (.cons (.box copy4) (.cons (.box copy4) .nil))) (by decide) (by decide) (by decide) (by decide)
  have s1 := (m_threeG (by decide) (by decide) (by decide) h3).1
  have e1 : ∀ κ, opB .Mult κ (.tuple [.tuple [.str "copy", .int 4]]) (.int 3) = some (.dat (.tuple [.tuple [.str "copy", .int 4], .tuple [.str "copy", .int 4], .tuple [.str "copy", .int 4]])) := fun κ => by kernel_rfl
  have c1 : ∀ κ, cmpD .Eq κ (shpD (1 + (1 + (1 + 0))) (4 + (4 + (4 + 0)))) (.tuple [.int 3, .int 12]) = some true := fun κ => by kernel_rfl
  simp only [dropS, b_law]
  simp only [Nat.reduceAdd, Nat.reduceSub, Nat.zero_add, Nat.reduceEqDiff, EV1, EV2, EV3, EV4, EV5, EV6, rdS, rdI, argS, slotR, tgPut, wipeE, frzS, cmpI, decide_eq_true_eq, Bool.not_true, Bool.not_false, Option.map_some, Option.map_none, List.map_cons, List.map_nil, List.zip_cons_cons, List.zip_nil_right, List.zip_nil_left, List.foldl_cons, List.foldl_nil, if_true, if_false, bind_pure', Bool.and_true, Bool.or_false, Bool.and_false, Bool.or_true, Bool.true_and, Bool.false_and, Bool.true_or, Bool.false_or, if_neg Bool.false_ne_true, E_law, e1, s1]
  try simp only [c1, Nat.reduceAdd, Nat.reduceSub, Nat.zero_add, Nat.reduceEqDiff, EV1, EV2, EV3, EV4, EV5, EV6, rdS, rdI, argS, slotR, tgPut, wipeE, frzS, cmpI, decide_eq_true_eq, Bool.not_true, Bool.not_false, Option.map_some, Option.map_none, List.map_cons, List.map_nil, List.zip_cons_cons, List.zip_nil_right, List.zip_nil_left, List.foldl_cons, List.foldl_nil, if_true, if_false, bind_pure', Bool.and_true, Bool.or_false, Bool.and_false, Bool.or_true, Bool.true_and, Bool.false_and, Bool.true_or, Bool.false_or, if_neg Bool.false_ne_true]
  exact Dr.ret rfl
theorem law_runs : LawRuns := by
  intro ns salt hl h0 h1
  refine Dr.runs (m := evSs E_law (.un :: .dat (.hd 0) :: List.replicate 9 .un) b_law) ?_ hl h0 h1
  rw [show b_law = .cons (.forS (.nm 2) (.rng1 (.i 6)) (.cons (nthS 0 (bodyFor (nthS 0 b_law))) (.cons (nthS 1 (bodyFor (nthS 0 b_law))) (dropS 2 (bodyFor (nthS 0 b_law)))))) (dropS 1 b_law) from rfl]
  have hT := law_end
  have hA := @mid16
  generalize dropS 1 b_law = T at hT ⊢
  generalize dropS 2 (bodyFor (nthS 0 b_law)) = T2 at hA ⊢
  simp only [nthS, bodyFor, b_law]
  simp only [E_law] at hT hA
  simp only [Nat.reduceAdd, Nat.reduceSub, Nat.zero_add, Nat.reduceEqDiff, EV1, EV2, EV3, EV4, EV5, EV6, rdS, rdI, argS, slotR, tgPut, wipeE, frzS, cmpI, decide_eq_true_eq, Bool.not_true, Bool.not_false, Option.map_some, Option.map_none, List.map_cons, List.map_nil, List.zip_cons_cons, List.zip_nil_right, List.zip_nil_left, List.foldl_cons, List.foldl_nil, if_true, if_false, bind_pure', Bool.and_true, Bool.or_false, Bool.and_false, Bool.or_true, Bool.true_and, Bool.false_and, Bool.true_or, Bool.false_or, if_neg Bool.false_ne_true, E_law, show ranS 0 6 = some (rangeD 0 6) from rfl]
  refine Dr.bind (Dr.forI (J := fun _ ρ => InvL ρ) (Q := fun o => ∃ ρ, o = .nx ρ ∧ InvL ρ) ⟨_, _, _, _, _, _, _, _, rfl, rfl, rfl⟩ (fun i x ρ hx hI => ?_) fun ρ hI => ⟨ρ, rfl, hI⟩) fun o ho => ?_
  · obtain ⟨z2, z3, z4, z5, z6, z7, z8, z10, rfl, n7, n10⟩ := hI
    simp only [forB, Nat.reduceAdd, Nat.reduceSub, Nat.zero_add, Nat.reduceEqDiff, EV1, EV2, EV3, EV4, EV5, EV6, rdS, rdI, argS, slotR, tgPut, wipeE, frzS, cmpI, decide_eq_true_eq, Bool.not_true, Bool.not_false, Option.map_some, Option.map_none, List.map_cons, List.map_nil, List.zip_cons_cons, List.zip_nil_right, List.zip_nil_left, List.foldl_cons, List.foldl_nil, if_true, if_false, bind_pure', Bool.and_true, Bool.or_false, Bool.and_false, Bool.or_true, Bool.true_and, Bool.false_and, Bool.true_or, Bool.false_or, if_neg Bool.false_ne_true]
    refine (m_any14 (most := 3) (few := 4) (by decide) (by decide) (by decide)).bind fun r hr => ?_
    obtain ⟨d, ls, l, rt, rfl, hW, hls, hg, hl4, hr4⟩ := hr
    have hb := hW.rng'
    have hls' : ls.length ≤ 28 := hls
    simp only [Nat.reduceAdd, Nat.reduceSub, Nat.zero_add, Nat.reduceEqDiff, EV1, EV2, EV3, EV4, EV5, EV6, rdS, rdI, argS, slotR, tgPut, wipeE, frzS, cmpI, decide_eq_true_eq, Bool.not_true, Bool.not_false, Option.map_some, Option.map_none, List.map_cons, List.map_nil, List.zip_cons_cons, List.zip_nil_right, List.zip_nil_left, List.foldl_cons, List.foldl_nil, if_true, if_false, bind_pure', Bool.and_true, Bool.or_false, Bool.and_false, Bool.or_true, Bool.true_and, Bool.false_and, Bool.true_or, Bool.false_or, if_neg Bool.false_ne_true]
    refine Dr.ite (fun hz => ?_) (fun hz => ?_)
    · have hw : Wg 8 (.tuple [.str "beside", .tuple [d, .tuple [.str "wire"]]]) (ls ++ [.tuple [.str "wire"]]) (l + 1) ((1 : Nat) : Int) := by
        have := wg_beside2 hW (Wg.box (n := 6) .wire) (by omega) (by omega)
        rw [show rt + 1 = ((1 : Nat) : Int) by omega] at this
        exact this
      exact hA hw (by rw [List.length_append]; show _ + 1 ≤ _; omega) (by rw [nLag_app]; have : nLag [D.tuple [.str "wire"]] = 0 := rfl; omega) (by decide) (by decide) n7 n10
    · obtain ⟨k, rfl⟩ : ∃ k : Nat, rt = k := ⟨rt.toNat, by omega⟩
      exact hA (hW.mono (by decide)) (by omega) (by omega) (by omega) (by omega) n7 n10
  · obtain ⟨ρ, rfl, hI⟩ := ho
    exact hT ρ hI

def d_is_whole : He.DefD := ⟨("is_whole", none), "is_whole", "is_whole", defArgs s_is_whole, defBody s_is_whole, defScope s_is_whole, [], []⟩
def d_is_name : He.DefD := ⟨("is_name", none), "is_name", "is_name", defArgs s_is_name, defBody s_is_name, defScope s_is_name, [], []⟩
def d_is_within : He.DefD := ⟨("is_within", none), "is_within", "is_within", defArgs s_is_within, defBody s_is_within, defScope s_is_within, [], []⟩
def d_is_weights : He.DefD := ⟨("is_weights", none), "is_weights", "is_weights", defArgs s_is_weights, defBody s_is_weights, defScope s_is_weights, [], []⟩
def d_is_order : He.DefD := ⟨("is_order", none), "is_order", "is_order", defArgs s_is_order, defBody s_is_order, defScope s_is_order, [], []⟩
def d_is_box : He.DefD := ⟨("is_box", none), "is_box", "is_box", defArgs s_is_box, defBody s_is_box, defScope s_is_box, [], []⟩
def d_parts_of : He.DefD := ⟨("parts_of", none), "parts_of", "parts_of", defArgs s_parts_of, defBody s_parts_of, defScope s_parts_of, [], []⟩
def d_leaves : He.DefD := ⟨("leaves", none), "leaves", "leaves", defArgs s_leaves, defBody s_leaves, defScope s_leaves, [], []⟩
def d_uses : He.DefD := ⟨("uses", none), "uses", "uses", defArgs s_uses, defBody s_uses, defScope s_uses, [], []⟩
def d_need_boxes : He.DefD := ⟨("need_boxes", none), "need_boxes", "need_boxes", defArgs s_need_boxes, defBody s_need_boxes, defScope s_need_boxes, [], []⟩
def d_box_shape : He.DefD := ⟨("box_shape", none), "box_shape", "box_shape", defArgs s_box_shape, defBody s_box_shape, defScope s_box_shape, [], []⟩
def d_joined_shape : He.DefD := ⟨("joined_shape", none), "joined_shape", "joined_shape", defArgs s_joined_shape, defBody s_joined_shape, defScope s_joined_shape, [], []⟩
def d_shape_of : He.DefD := ⟨("shape_of", none), "shape_of", "shape_of", defArgs s_shape_of, defBody s_shape_of, defScope s_shape_of, [], []⟩
def d_shape : He.DefD := ⟨("shape", none), "shape", "shape", defArgs s_shape, defBody s_shape, defScope s_shape, [], []⟩
def d_boxes : He.DefD := ⟨("boxes", none), "boxes", "boxes", defArgs s_boxes, defBody s_boxes, defScope s_boxes, [], []⟩
def d_lags : He.DefD := ⟨("lags", none), "lags", "lags", defArgs s_lags, defBody s_lags, defScope s_lags, [], []⟩
def d__law_bag : He.DefD := ⟨("_law_bag", none), "_law_bag", "_law_bag", defArgs s__law_bag, defBody s__law_bag, defScope s__law_bag, [], []⟩
def d__law_pull : He.DefD := ⟨("_law_pull", none), "_law_pull", "_law_pull", defArgs s__law_pull, defBody s__law_pull, defScope s__law_pull, [], []⟩
def d__law_of : He.DefD := ⟨("_law_of", none), "_law_of", "_law_of", defArgs s__law_of, defBody s__law_of, defScope s__law_of, [], []⟩
def d__law_box : He.DefD := ⟨("_law_box", none), "_law_box", "_law_box", defArgs s__law_box, defBody s__law_box, defScope s__law_box, [], []⟩
def d__law_layer : He.DefD := ⟨("_law_layer", none), "_law_layer", "_law_layer", defArgs s__law_layer, defBody s__law_layer, defScope s__law_layer, [], []⟩
def d__law_wiring : He.DefD := ⟨("_law_wiring", none), "_law_wiring", "_law_wiring", defArgs s__law_wiring, defBody s__law_wiring, defScope s__law_wiring, [], []⟩
def d__law_any_wiring : He.DefD := ⟨("_law_any_wiring", none), "_law_any_wiring", "_law_any_wiring", defArgs s__law_any_wiring, defBody s__law_any_wiring, defScope s__law_any_wiring, [], []⟩
def d__law_misfit : He.DefD := ⟨("_law_misfit", none), "_law_misfit", "_law_misfit", defArgs s__law_misfit, defBody s__law_misfit, defScope s__law_misfit, [], []⟩
def d__law_tried : He.DefD := ⟨("_law_tried", none), "_law_tried", "_law_tried", defArgs s__law_tried, defBody s__law_tried, defScope s__law_tried, [], []⟩
def d__law_same : He.DefD := ⟨("_law_same", none), "_law_same", "_law_same", defArgs s__law_same, defBody s__law_same, defScope s__law_same, [], []⟩
def d_law : He.DefD := ⟨("law", none), "law", "law", defArgs s_law, defBody s_law, defScope s_law, [], []⟩
abbrev si_BadWiring : Stmt := inClass (top 2) 0
def d_BadWiring__init__ : He.DefD := ⟨("BadWiring", some "__init__"), "__init__", "BadWiring.__init__", defArgs si_BadWiring, defBody si_BadWiring, defScope si_BadWiring, [], []⟩
abbrev si_Unshaped : Stmt := inClass (top 3) 0
def d_Unshaped__init__ : He.DefD := ⟨("Unshaped", some "__init__"), "__init__", "Unshaped.__init__", defArgs si_Unshaped, defBody si_Unshaped, defScope si_Unshaped, [], []⟩
abbrev si_BadTable : Stmt := inClass (top 4) 0
def d_BadTable__init__ : He.DefD := ⟨("BadTable", some "__init__"), "__init__", "BadTable.__init__", defArgs si_BadTable, defBody si_BadTable, defScope si_BadTable, [], []⟩
abbrev si_BadSheet : Stmt := inClass (top 5) 0
def d_BadSheet__init__ : He.DefD := ⟨("BadSheet", some "__init__"), "__init__", "BadSheet.__init__", defArgs si_BadSheet, defBody si_BadSheet, defScope si_BadSheet, [], []⟩
def fn : List He.DefD := [d_is_whole, d_is_name, d_is_within, d_is_weights, d_is_order, d_is_box, d_parts_of, d_leaves, d_uses, d_need_boxes, d_box_shape, d_joined_shape, d_shape_of, d_shape, d_boxes, d_lags, d__law_bag, d__law_pull, d__law_of, d__law_box, d__law_layer, d__law_wiring, d__law_any_wiring, d__law_misfit, d__law_tried, d__law_same, d_law, d_BadWiring__init__, d_Unshaped__init__, d_BadTable__init__, d_BadSheet__init__]
def fa : List He.Fa := [.glo "is_whole", .glo "is_name", .glo "is_within", .glo "is_weights", .glo "is_order", .glo "is_box", .glo "parts_of", .glo "leaves", .glo "uses", .glo "need_boxes", .glo "box_shape", .glo "joined_shape", .glo "shape_of", .glo "shape", .glo "boxes", .glo "lags", .glo "_law_bag", .glo "_law_pull", .glo "_law_of", .glo "_law_box", .glo "_law_layer", .glo "_law_wiring", .glo "_law_any_wiring", .glo "_law_misfit", .glo "_law_tried", .glo "_law_same", .glo "law", .free "LookupError", .free "ValueError", .free "all", .free "bool", .free "int", .free "isinstance", .free "len", .free "list", .free "max", .free "range", .free "reversed", .free "sorted", .free "str", .free "sum", .free "tuple", .free "zip", .glo "LagError", .glo "BadWiring", .glo "Unshaped", .glo "BadTable", .glo "BadSheet", .glo "WorksError", .int "MOST_BOXES" 60, .int "MOST_LAGS" 8, .int "MOST_ENDS" 12, .int "MOST_PARTS" 12, .int "MOST_FORKS" 4, .int "MOST_WEIGHT" 96, .int "DEEPEST" 16, .int "LONGEST" 8, .str "LETTERS" "abcdefghijklmnopqrstuvwxyz", .glo "SIZES", .exm "BadWiring" "BadTable" false, .exm "BadWiring" "BadSheet" false, .exm "BadWiring" "LagError" true, .exm "BadWiring" "WorksError" false, .exm "Unshaped" "BadTable" false, .exm "Unshaped" "BadSheet" false, .exm "Unshaped" "LagError" true, .exm "Unshaped" "WorksError" false, .exm "BadTable" "BadTable" true, .exm "BadTable" "BadSheet" false, .exm "BadTable" "LagError" true, .exm "BadTable" "WorksError" false, .exm "BadSheet" "BadTable" false, .exm "BadSheet" "BadSheet" true, .exm "BadSheet" "LagError" true, .exm "BadSheet" "WorksError" false]
def exL : List (PySem.W.Frag → Bool) := [fun K => clsB K "BadWiring", fun K => clsB K "Unshaped", fun K => clsB K "BadTable", fun K => clsB K "BadSheet", fun K => tabE K "SIZES" [("wire", (.int 1)), ("lag", (.int 1)), ("weigh", (.int 2)), ("copy", (.int 2)), ("sum", (.int 2)), ("mix", (.int 2)), ("shuffle", (.int 2)), ("use", (.int 2)), ("then", (.int 2)), ("beside", (.int 2)), ("turned", (.int 2)), ("ring", (.int 2))]]
def exK (K : PySem.W.Frag) : Bool := exL.all fun f => f K
abbrev R : PySem.W.OpenRow := PySem.W.OpenLaw.row PySem.Challenge.rw_lagworks_k16_ends_that_do_not_fit
def tf : List He.Defn := [("law", none)]
def tsH : List He.Tab := [(fun K => He.ga K "SIZES", ["wire", "lag", "weigh", "copy", "sum", "mix", "shuffle", "use", "then", "beside", "turned", "ring"])]
abbrev hk : PySem.W.Hook := He.hookX 6 fa fn tsH tf exK
def ob (s : PySem.W.SharedT) : He.AlX := He.obsX 6 fa fn tsH tf exK (HandSHeadRun.getT s)
theorem ob_eq (s : PySem.W.SharedT) : ob s = hk.obs s.abs := He.obsX_eq (HandSHeadRun.getT_eq s)
def loose : List Str := (["LagError", "BadWiring", "Unshaped", "BadTable", "BadSheet", "WorksError", "is_whole", "MOST_BOXES", "MOST_LAGS", "MOST_ENDS", "MOST_PARTS", "MOST_FORKS", "MOST_WEIGHT", "DEEPEST", "LONGEST", "LETTERS", "SIZES", "is_name", "is_within", "is_weights"] : List Str) ++ (["is_order", "is_box", "parts_of", "leaves", "uses", "need_boxes", "box_shape", "joined_shape", "shape_of", "shape", "boxes", "lags", "_law_bag", "_law_pull", "_law_of", "_law_box", "_law_layer", "_law_wiring", "_law_any_wiring", "_law_misfit"] : List Str) ++ (["_law_tried", "_law_same"] : List Str)
def fFol (b : Bool) (f : String → Bool) : String → Bool := fun s => match decide (s = "special-get-raises") with
  | true => b
  | false => f s
theorem fFol_eq (f : String → Bool) : fFol (f "special-get-raises") f = f := by
  funext s
  unfold fFol
  by_cases h : s = "special-get-raises"
  · rw [decide_eq_true h, h]
  · rw [decide_eq_false h]
def wFol (b : Bool) (w : World) : World := { w with params := { w.params with followText := fFol b w.params.followText } }
theorem wFol_eq (w : World) : wFol (w.params.followText "special-get-raises") w = w := by
  unfold wFol
  rw [fFol_eq]
theorem runF (w : World) (b : Bool) : HandSHeadRun.RunEq R (PySem.W.view R.prog [46]) hk ob 8000 loose (wFol b w) := by
  intro os
  cases b
  · kernel_rfl
  · kernel_rfl
theorem run (w : World) : HandSHeadRun.RunEq R (PySem.W.view R.prog [46]) hk ob 8000 loose w := by
  have h := runF w (w.params.followText "special-get-raises")
  rw [wFol_eq] at h
  exact h
section
variable {w : World} {K : PySem.W.Frag} {h base : Heap} {mg : Str → Option Value} {T : List (Addr × Str)}
def psT (n : Nat) : Pos := ([⟨226, 16, 226, 22⟩, ⟨226, 24, 226, 32⟩, ⟨226, 24, 226, 34⟩, ⟨226, 15, 226, 35⟩, ⟨226, 8, 226, 35⟩, ⟨227, 11, 227, 19⟩, ⟨228, 16, 228, 17⟩, ⟨228, 16, 228, 22⟩, ⟨228, 24, 228, 25⟩, ⟨228, 24, 228, 28⟩, ⟨228, 15, 228, 29⟩, ⟨228, 8, 228, 29⟩, ⟨227, 4, 228, 29⟩, ⟨229, 11, 229, 19⟩, ⟨230, 16, 230, 17⟩, ⟨230, 16, 230, 22⟩, ⟨230, 24, 230, 25⟩, ⟨230, 24, 230, 28⟩, ⟨230, 15, 230, 29⟩, ⟨230, 8, 230, 29⟩, ⟨229, 4, 230, 29⟩, ⟨231, 11, 231, 19⟩, ⟨232, 16, 232, 17⟩, ⟨232, 16, 232, 22⟩, ⟨232, 15, 232, 24⟩, ⟨232, 8, 232, 24⟩, ⟨231, 4, 232, 24⟩, ⟨233, 11, 233, 21⟩, ⟨234, 16, 234, 17⟩, ⟨234, 16, 234, 22⟩, ⟨234, 15, 234, 24⟩, ⟨234, 8, 234, 24⟩, ⟨233, 4, 234, 24⟩, ⟨225, 4, 234, 24⟩] : List Pos).getD n ⟨0, 0, 0, 0⟩
theorem hd_of (P : Program) (X : K.In h) (G : h.Ns mainGlobals mg) (c0 : He.SaysX fa fn tsH tf exK w h K) : Hd ⟨P, w, K, mg, base, T⟩ := by
  have c : He.SaysD fa fn K := c0.t.d
  have ex : (exL.all fun f => f K) = true := c0.more
  have cl_BadWiring : Cls K "BadWiring" := clsB_ok (ex_of ex 0 rfl)
  have cl_Unshaped : Cls K "Unshaped" := clsB_ok (ex_of ex 1 rfl)
  have cl_BadTable : Cls K "BadTable" := clsB_ok (ex_of ex 2 rfl)
  have cl_BadSheet : Cls K "BadSheet" := clsB_ok (ex_of ex 3 rfl)
  exact {
    D_is_whole := hasDef_of X G c 0 0 rfl rfl rfl
    D_is_name := hasDef_of X G c 1 1 rfl rfl rfl
    D_is_within := hasDef_of X G c 2 2 rfl rfl rfl
    D_is_weights := hasDef_of X G c 3 3 rfl rfl rfl
    D_is_order := hasDef_of X G c 4 4 rfl rfl rfl
    D_is_box := hasDef_of X G c 5 5 rfl rfl rfl
    D_parts_of := hasDef_of X G c 6 6 rfl rfl rfl
    D_leaves := hasDef_of X G c 7 7 rfl rfl rfl
    D_uses := hasDef_of X G c 8 8 rfl rfl rfl
    D_need_boxes := hasDef_of X G c 9 9 rfl rfl rfl
    D_box_shape := hasDef_of X G c 10 10 rfl rfl rfl
    D_joined_shape := hasDef_of X G c 11 11 rfl rfl rfl
    D_shape_of := hasDef_of X G c 12 12 rfl rfl rfl
    D_shape := hasDef_of X G c 13 13 rfl rfl rfl
    D_boxes := hasDef_of X G c 14 14 rfl rfl rfl
    D_lags := hasDef_of X G c 15 15 rfl rfl rfl
    D__law_bag := hasDef_of X G c 16 16 rfl rfl rfl
    D__law_pull := hasDef_of X G c 17 17 rfl rfl rfl
    D__law_of := hasDef_of X G c 18 18 rfl rfl rfl
    D__law_box := hasDef_of X G c 19 19 rfl rfl rfl
    D__law_layer := hasDef_of X G c 20 20 rfl rfl rfl
    D__law_wiring := hasDef_of X G c 21 21 rfl rfl rfl
    D__law_any_wiring := hasDef_of X G c 22 22 rfl rfl rfl
    D__law_misfit := hasDef_of X G c 23 23 rfl rfl rfl
    D__law_same := hasDef_of X G c 25 25 rfl rfl rfl
    B_LookupError := free_of X G c 27 rfl
    B_ValueError := free_of X G c 28 rfl
    B_all := free_of X G c 29 rfl
    B_bool := free_of X G c 30 rfl
    B_int := free_of X G c 31 rfl
    B_isinstance := free_of X G c 32 rfl
    B_len := free_of X G c 33 rfl
    B_list := free_of X G c 34 rfl
    B_max := free_of X G c 35 rfl
    B_range := free_of X G c 36 rfl
    B_reversed := free_of X G c 37 rfl
    B_sorted := free_of X G c 38 rfl
    B_str := free_of X G c 39 rfl
    B_sum := free_of X G c 40 rfl
    B_tuple := free_of X G c 41 rfl
    B_zip := free_of X G c 42 rfl
    V_MOST_BOXES := glInt_of X G c 49 rfl
    V_MOST_LAGS := glInt_of X G c 50 rfl
    V_MOST_ENDS := glInt_of X G c 51 rfl
    V_MOST_PARTS := glInt_of X G c 52 rfl
    V_MOST_FORKS := glInt_of X G c 53 rfl
    V_MOST_WEIGHT := glInt_of X G c 54 rfl
    V_DEEPEST := glInt_of X G c 55 rfl
    V_LONGEST := glInt_of X G c 56 rfl
    V_LETTERS := glStr_of X G c 57 rfl
    T_SIZES := glT_of X G c0.t 58 0 rfl rfl (ex_of ex 4 rfl)
    X_BadWiring := exC0_of X G c 27 44 rfl rfl cl_BadWiring rfl ⟨rfl, rfl, rfl, by decide +kernel, rfl, by decide +kernel, by decide +kernel⟩ rfl (fun _ _ _ _ _ _ us hl => match us, hl with | [_], _ => rfl)
    K_BadWiring := caught1_of X G c cl_BadWiring 44 46 47 43 48 59 60 61 rfl rfl rfl rfl rfl rfl rfl rfl
    X_Unshaped := exC0_of X G c 28 45 rfl rfl cl_Unshaped rfl ⟨rfl, rfl, rfl, by decide +kernel, rfl, by decide +kernel, by decide +kernel⟩ rfl (fun _ _ _ _ _ _ us hl => match us, hl with | [_], _ => rfl)
    K_Unshaped := caught1_of X G c cl_Unshaped 45 46 47 43 48 63 64 65 rfl rfl rfl rfl rfl rfl rfl rfl
    X_BadTable := exC1_of X G c 29 46 rfl rfl cl_BadTable rfl cl_BadTable.at_ ⟨rfl, rfl, rfl, by decide +kernel, rfl, by decide +kernel, by decide +kernel⟩ rfl rfl rfl rfl (fun _ _ _ _ _ _ us hl => match us, hl with | [_, _], _ => rfl)
    K_BadTable := caughtT_of X G c cl_BadTable 46 46 47 43 48 67 rfl rfl rfl rfl rfl rfl
    X_BadSheet := exC1_of X G c 30 47 rfl rfl cl_BadSheet rfl cl_BadSheet.at_ ⟨rfl, rfl, rfl, by decide +kernel, rfl, by decide +kernel, by decide +kernel⟩ rfl rfl rfl rfl (fun _ _ _ _ _ _ us hl => match us, hl with | [_, _], _ => rfl)
    K_BadSheet := caughtS_of X G c cl_BadSheet 47 46 47 43 48 71 72 rfl rfl rfl rfl rfl rfl rfl
    tried := tried_of (s := s__law_tried) (ps := psT) X G c 24 24 46 47 43 48 rfl rfl rfl rfl rfl rfl (by rfl) ⟨rfl, rfl, rfl, by decide +kernel, rfl, by decide +kernel, by decide +kernel⟩ (fun _ _ _ _ _ _ us hl => match us, hl with | [_], _ => rfl) rfl rfl rfl rfl rfl rfl
  }
end
theorem law_at {w : World} {K : PySem.W.Frag} {h : Heap} {mg : Str → Option Value} {f : Addr} (X : K.In h) (G : h.Ns mainGlobals mg) (c : He.SaysX fa fn tsH tf exK w h K) (hf : mg ("law" : Str) = some (.ref f)) :
    LamX.LawAtS PySem.Challenge.rw_lagworks_k16_ends_that_do_not_fit w K (L2.CX (PySem.Challenge.rw_lagworks_k16_ends_that_do_not_fit).prog w) (lawK + 1) 63 "_law_script" mg f h := by
  have cd : He.SaysD fa fn K := c.t.d
  obtain ⟨fd, F⟩ := cd.def_ 26 (d := d_law) rfl
  have e := hf.symm.trans (He.glo_ok X G (cd.fact 26 (f := .glo "law") rfl))
  cases e
  refine ⟨fd, tf.map (He.cT K), spLaw ⟨(PySem.Challenge.rw_lagworks_k16_ends_that_do_not_fit).prog, w, K, mg, h, tf.map fun p => ((He.cT K p).2, lamQ)⟩, fun p hp => ?_, fun p hp => ?_, fun p hp => ?_, ?_, fun H a ns hl _ hT hS => ⟨a, ns, rfl, hS, hl, fun p hp => ?_, fun _ => rfl⟩, fun base Kb Gb TB => ?_⟩
  · obtain ⟨z, hz, rfl⟩ := List.mem_map.mp hp
    exact c.empty z hz
  · obtain ⟨z, hz, rfl⟩ := List.mem_map.mp hp
    exact c.out z hz
  · obtain ⟨z, hz, rfl⟩ := List.mem_map.mp hp
    exact PySem.W.codeHd_of_K X (c.hd z hz)
  · have b := FunD.bindsA (ps := ["_law_script"]) F fun _ _ _ _ _ _ us hl => match us, hl with | [_], _ => rfl
    exact fun s v => b s [v] rfl
  · obtain ⟨z, hz, rfl⟩ := List.mem_map.mp hp
    exact hT _ (List.mem_map.mpr ⟨z, hz, rfl⟩)
  · have hd : Hd ⟨(PySem.Challenge.rw_lagworks_k16_ends_that_do_not_fit).prog, w, K, mg, base, tf.map fun p => ((He.cT K p).2, lamQ)⟩ := hd_of _ X G c
    exact ok_law (hrun := law_runs) (g := ⟨(PySem.Challenge.rw_lagworks_k16_ends_that_do_not_fit).prog, w, K, mg, base, tf.map fun p => ((He.cT K p).2, lamQ)⟩) (c := (He.cT K ("law", none)).1) (P := (He.cT K ("law", none)).2) F rfl (code_of F) (TB _ (List.mem_map.mpr ⟨("law", none), List.mem_singleton.mpr rfl, rfl⟩))

end VL
open PySem PySem.W PySem.Calls PyProof.Rows
theorem PySem.Challenge.cw_lagworks_k16_ends_that_do_not_fit_holds : PySem.Challenge.rw_lagworks_k16_ends_that_do_not_fit.Holds := by
  w_on; o_law
  refine HandSHeadRun.head_any (r := OpenLaw.row PySem.Challenge.rw_lagworks_k16_ends_that_do_not_fit) (q := view (OpenLaw.row PySem.Challenge.rw_lagworks_k16_ends_that_do_not_fit).prog [46]) (H := VL.hk) (ob := VL.ob) (M := 8000) (loose := VL.loose) (d := HandSHeadRun.topDef (OpenLaw.row PySem.Challenge.rw_lagworks_k16_ends_that_do_not_fit).prog 46) (kwd := []) VL.ob_eq
    (by kernel_rfl) (fun s => by kernel_rfl) VL.run (by kernel_rfl) (by kernel_rfl) (by kernel_rfl) (by rfl) (by first | assumption | decide +kernel) (by decide +kernel) ⟨rfl, rfl, rfl, rfl, rfl, by decide +kernel⟩ ?hw ?hc
  case hw => w_witness2
  case hc =>
    refine LamX.walk_ofTsE (l := PySem.Challenge.rw_lagworks_k16_ends_that_do_not_fit) (n := 63) (k := VL.lawK + 1) (x := "_law_script") (CX := fun w => L2.CX (PySem.Challenge.rw_lagworks_k16_ends_that_do_not_fit).prog w) rfl (by decide) (by kernel_rfl) ⟨rfl, by decide, by decide⟩ ?F (fun _ _ _ _ _ z => VL.noCX z)
    intro w mg fa h Y G hmg0
    obtain ⟨K, KX, c⟩ := Y
    have hmg : mg ("law" : PySem.Str) = some (.ref fa) := by
      have e : (HandSHeadRun.topDef (OpenLaw.row PySem.Challenge.rw_lagworks_k16_ends_that_do_not_fit).prog 46).name = ("law" : PySem.Str) := by kernel_rfl
      rw [← e]
      exact hmg0
    exact ⟨K, KX, VL.law_at KX G c hmg⟩

