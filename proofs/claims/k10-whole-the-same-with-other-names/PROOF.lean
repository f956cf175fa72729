import PyProof.Rows.All
import Wide.All
import OpenK.AllK
import Wide.FinOn
import PyProof.EqAt
import PyProof.EqKinds
import PyProof.TupleCall
import HandS.ForMost
import HandS.ForExc
import HandS.CallSlots
import HandS.IsInst
import HandS.ExcIs
import HandS.Style
import HandS.TupAny
import HandS.TupMul
import HandS.Zip
import HandS.Conv
import HandS.Deep
import HandS.Wide
import HandS.WideBits
import HandS.RevRange
import HandS.Lambda
import HandS.Nested
import HandS.NoneIn
import HandS.SetFor
import HandS.Strs
import KE.GoesEnum
import KE.KDictZip
import HandS.Zip0
import HandS.Text
import HandS.FStr
import PyProof.StrOps2
import HandS.TupSets
import KE.SortData
import KE.SortKeyHeap
import HandS.SortKw
import KE.DataMinKey
import KE.DataMinMax
import PyProof.Rows.GenSrcRange
import HandS.SortInts
import HandS.Small
import HandS.EndOwn
import KE.KNestM
import PySem.Str
import PySem.Challenge.RW_mapweave_k10_whole_the_same_with_other_n
set_option Elab.async false
set_option linter.all false
set_option maxRecDepth 100000
set_option maxHeartbeats 4000000
/-! A data layer over HandS: each derivation also says, as a plain function of the slots' data, what the code computes. -/
namespace DL
open PySem PySem.Spec PyProof.Rows L2

/-- the data of the slots -/
abbrev Rho := List (Option PyData)
abbrev Fn := Rho → Option PyData
/-- the script, told as a thing of its own -/
def scrK (ns : List Int) : List (PyData × PyData) := ns.map fun n => (PyData.int n, PyData.none)

mutual
inductive Dd (K : PySem.W.Frag) (H : Hp) : V → PyData → Prop
  | non : Dd K H .non .none
  | bl (b : Bool) : Dd K H (.bl b) (.bool b)
  | int (i : Int) : Dd K H (.int i) (.int i)
  | str (x : Str) : Dd K H (.str x) (.str x)
  | lst {a : Addr} {xs : List V} {ds : List PyData} : H a = some (.lst xs) → DdAll K H xs ds → Dd K H (.ref a) (.list ds)
  | tup {a : Addr} {ob : Obj} {xs : List V} {ds : List PyData} : ob.dict = none → H a = some (.frz ob (.tup xs)) → DdAll K H xs ds → Dd K H (.ref a) (.tuple ds)
  | scr {a : Addr} {ns : List Int} : SqL K H a (ns.map V.int) → Dd K H (.ref a) (.dict (scrK ns))
inductive DdAll (K : PySem.W.Frag) (H : Hp) : List V → List PyData → Prop
  | nil : DdAll K H [] []
  | cons {v : V} {vs : List V} {d : PyData} {ds : List PyData} : Dd K H v d → DdAll K H vs ds → DdAll K H (v :: vs) (d :: ds)
end

section
variable {K : PySem.W.Frag} {H H' H1 H2 H3 : Hp}
mutual
theorem Dd.mono {v : V} {d : PyData} (e : Same H H') : Dd K H v d → Dd K H' v d
  | .non => .non
  | .bl b => .bl b
  | .int i => .int i
  | .str x => .str x
  | .lst h t => .lst (e _ _ h) (DdAll.mono e t)
  | .tup n h t => .tup n (e _ _ h) (DdAll.mono e t)
  | .scr h => .scr (e.seq h)
theorem DdAll.mono {vs : List V} {ds : List PyData} (e : Same H H') : DdAll K H vs ds → DdAll K H' vs ds
  | .nil => .nil
  | .cons a r => .cons (Dd.mono e a) (DdAll.mono e r)
end
theorem DdAll.length : ∀ {vs : List V} {ds : List PyData}, DdAll K H vs ds → vs.length = ds.length
  | _, _, .nil => rfl
  | _, _, .cons _ r => congrArg Nat.succ r.length
theorem DdAll.get : ∀ {vs : List V} {ds : List PyData} {i : Nat} {d : PyData}, DdAll K H vs ds → ds[i]? = some d → ∃ v, vs[i]? = some v ∧ Dd K H v d
  | _, _, _, _, .nil, h => by simp at h
  | _, _, 0, d, .cons a _, h => by simp at h; subst h; exact ⟨_, rfl, a⟩
  | _, _, i + 1, d, .cons _ r, h => by
    obtain ⟨v, h1, h2⟩ := DdAll.get (i := i) (d := d) r (by simpa using h)
    exact ⟨v, by simpa using h1, h2⟩
theorem DdAll.getv : ∀ {vs : List V} {ds : List PyData} {i : Nat} {v : V}, DdAll K H vs ds → vs[i]? = some v → ∃ d, ds[i]? = some d ∧ Dd K H v d
  | _, _, _, _, .nil, h => by simp at h
  | _, _, 0, d, .cons a _, h => by simp at h; subst h; exact ⟨_, rfl, a⟩
  | _, _, i + 1, d, .cons _ r, h => by
    obtain ⟨v, h1, h2⟩ := DdAll.getv (i := i) (v := d) r (by simpa using h)
    exact ⟨v, by simpa using h1, h2⟩
theorem DdAll.append : ∀ {vs ws : List V} {ds es : List PyData}, DdAll K H vs ds → DdAll K H ws es → DdAll K H (vs ++ ws) (ds ++ es)
  | _, _, _, _, .nil, s => s
  | _, _, _, _, .cons a r, s => .cons a (r.append s)
theorem DdAll.take : ∀ {vs : List V} {ds : List PyData} (n : Nat), DdAll K H vs ds → DdAll K H (vs.take n) (ds.take n)
  | _, _, 0, _ => .nil
  | _, _, _ + 1, .nil => .nil
  | _, _, n + 1, .cons a r => .cons a (DdAll.take n r)
theorem DdAll.drop : ∀ {vs : List V} {ds : List PyData} (n : Nat), DdAll K H vs ds → DdAll K H (vs.drop n) (ds.drop n)
  | _, _, 0, r => r
  | _, _, _ + 1, .nil => .nil
  | _, _, n + 1, .cons _ r => DdAll.drop n r
theorem DdAll.set {x : V} {d : PyData} (a : Dd K H x d) : ∀ {vs : List V} {ds : List PyData} (i : Nat), DdAll K H vs ds → DdAll K H (vs.set i x) (ds.set i d)
  | _, _, _, .nil => .nil
  | _, _, 0, .cons _ r => .cons a r
  | _, _, i + 1, .cons b r => .cons b (DdAll.set a i r)
theorem DdAll.erase : ∀ {vs : List V} {ds : List PyData} (i : Nat), DdAll K H vs ds → DdAll K H (vs.eraseIdx i) (ds.eraseIdx i)
  | _, _, _, .nil => .nil
  | _, _, 0, .cons _ r => r
  | _, _, i + 1, .cons b r => .cons b (DdAll.erase i r)
theorem DdAll.dropLast : ∀ {vs : List V} {ds : List PyData}, DdAll K H vs ds → DdAll K H vs.dropLast ds.dropLast
  | _, _, .nil => .nil
  | _, _, .cons a .nil => .nil
  | _, _, .cons a (.cons b r) => .cons a (DdAll.dropLast (.cons b r))
theorem DdAll.ints : ∀ (ns : List Int), DdAll K H (ns.map V.int) (ns.map PyData.int)
  | [] => .nil
  | n :: ns => .cons (.int n) (DdAll.ints ns)
theorem DdAll.rep {x : V} {d : PyData} (a : Dd K H x d) : ∀ n, DdAll K H (List.replicate n x) (List.replicate n d)
  | 0 => .nil
  | n + 1 => .cons a (DdAll.rep a n)

/-! ### from data of ours to Dp (for ==) -/
theorem sqL_of {a : Addr} {xs : List V} (h : H a = some (.lst xs)) : SqL K H a xs := .inl (.inl h)
theorem sqT_of {a : Addr} {ob : Obj} {xs : List V} (h : H a = some (.frz ob (.tup xs))) : SqT K H a xs := .inl (.inr ⟨ob, h⟩)
mutual
theorem Dd.dp {v : V} : ∀ {d : PyData}, Dd K H v d → d.canLay0 = true → Dp K H v d
  | _, .non, _ => .non
  | _, .bl b, _ => .bl b
  | _, .int i, _ => .int i
  | _, .str x, _ => .str x
  | _, .lst h t, c => .lst (sqL_of h) (DdAll.dp t (by simpa [PyData.canLay0] using c))
  | _, .tup _ h t, c => .tup (sqT_of h) (DdAll.dp t (by simpa [PyData.canLay0] using c))
  | _, .scr h, c => by simp [PyData.canLay0] at c
theorem DdAll.dp {vs : List V} : ∀ {ds : List PyData}, DdAll K H vs ds → PyData.canLayAll0 ds = true → DpAll K H vs ds
  | _, .nil, _ => .nil
  | _, .cons a r, c => by
    simp only [PyData.canLayAll0, Bool.and_eq_true] at c
    exact .cons (Dd.dp a c.1) (DdAll.dp r c.2)
end

/-! ### heaps -/
/-- no table of code objects -/
class NT (o : HO) : Prop where
  nt : ∀ ps, o ≠ .tbl ps
instance (xs : List V) : NT (.lst xs) := ⟨fun _ z => by cases z⟩
instance (xs : List V) : NT (.tup xs) := ⟨fun _ z => by cases z⟩
instance (ob : Obj) (u : HO) : NT (.frz ob u) := ⟨fun _ z => by cases z⟩
/-- the tables of code objects, each with the name that its code objects bear -/
class Tabl where
  T : List (Addr × Str)
/-- all but the tables stay; the tables stay good -/
structure Kept [Tabl] (H H' : Hp) : Prop where
  ext : LamX.ExtN H H'
  back : ∀ b, H' b = none → H b = none
  tabs : LamX.Tabs Tabl.T H → LamX.Tabs Tabl.T H'
variable [Tabl]
theorem Kept.at (k : Kept H H') (b : Addr) (o : HO) (e : H b = some o) [i : NT o] : H' b = some o := k.ext b o e i.nt
instance : CoeFun (Kept H H') fun _ => ∀ (b : Addr) (o : HO), H b = some o → [NT o] → H' b = some o := ⟨fun k b o e => k.at b o e⟩
theorem Kept.of (e : Same H H') : Kept H H' := ⟨LamX.ExtN.of e, fun b h => e.free h, fun t => t.ext e⟩
theorem Kept.refl (H : Hp) : Kept H H := Kept.of (Same.refl _)
theorem Kept.trans (a : Kept H H1) (b : Kept H1 H2) : Kept H H2 := ⟨a.ext.trans b.ext, fun c h => a.back c (b.back c h), fun t => b.tabs (a.tabs t)⟩
theorem Kept.free (k : Kept H H') {l : Addr} (h : H' l = none) : H l = none := k.back l h
structure Grow (Hs H Hs' H' : Hp) : Prop where
  ex : Kept H H'
  exs : Same Hs Hs'
  sub : Same Hs' H'
  new : ∀ a, Hs a = none → H a ≠ none → Hs' a = none
variable {Hs Hs' Hs1 Hs2 Hs0 H0 : Hp}
theorem Grow.refl (h : Same Hs H) : Grow Hs H Hs H := ⟨Kept.refl _, Same.refl _, h, fun _ e _ => e⟩
theorem Grow.trans (a : Grow Hs H Hs1 H1) (b : Grow Hs1 H1 Hs2 H2) : Grow Hs H Hs2 H2 where
  ex := a.ex.trans b.ex
  exs := a.exs.trans b.exs
  sub := b.sub
  new := fun c e n => b.new c (a.new c e n) (fun z => n (a.ex.free z))
theorem Grow.idle (h : Same Hs H) (e : Same H H') : Grow Hs H Hs H' := ⟨Kept.of e, Same.refl _, h.trans e, fun _ e _ => e⟩
theorem Grow.calm (g : Grow Hs H Hs1 H1) : Grow Hs H Hs H1 := ⟨g.ex, Same.refl _, g.exs.trans g.sub, fun _ e _ => e⟩
theorem Grow.under {Hp' Hp2 : Hp} (e : Same Hs Hp') (g : Grow Hp' H Hp2 H1) : Grow Hs H Hs H1 := ⟨g.ex, Same.refl _, (e.trans g.exs).trans g.sub, fun _ e _ => e⟩
theorem same_new {p : Addr} {o : HO} (h : H p = none) : Same H (upd H p o) := fun b x e => by
  rw [upd_ne (ne_of_none e h)]
  exact e
theorem Grow.alloc {p : Addr} {o : HO} (h : Same Hs H) (hp : H p = none) : Grow Hs H (upd Hs p o) (upd H p o) where
  ex := Kept.of (same_new hp)
  exs := same_new (h.free hp)
  sub := fun b x e => by
    by_cases hb : b = p
    · subst hb; rw [upd_same] at e ⊢; exact e
    · rw [upd_ne hb] at e ⊢; exact h b x e
  new := fun a e n => by
    have : a ≠ p := fun z => n (by rw [z]; exact hp)
    rw [upd_ne this]; exact e
/-- a fresh object that is not shown to the data -/
theorem Grow.alloc0 {p : Addr} {o : HO} (h : Same Hs H) (hp : H p = none) : Grow Hs H Hs (upd H p o) := Grow.idle h (same_new hp)

theorem tabs_upd {D : Addr} {u u' : HO} {T : List (Addr × Str)} (hD : H D = some u) (h1 : ∀ ps, u ≠ .tbl ps) (h2 : ∀ p, u ≠ .ext p) (t : LamX.Tabs T H) : LamX.Tabs T (upd H D u') := fun p hp => by
  obtain ⟨ps, a1, a2, a3⟩ := t p hp
  have hne : p.1 ≠ D := fun z => by rw [z, hD] at a1; exact h1 ps (Option.some.inj a1)
  refine ⟨ps, by rw [upd_ne hne]; exact a1, a2, fun pos cv hc => ?_⟩
  obtain ⟨c, e1, e2⟩ := a3 pos cv hc
  have hc2 : c ≠ D := fun z => by
    rw [z, hD] at e2
    exact h2 _ (Option.some.inj e2)
  exact ⟨c, e1, by rw [upd_ne hc2]; exact e2⟩
/-- an object that is not shown to the data, and was not there, is written -/
theorem Grow.write {D : Addr} {xs ys : List V} (g : Grow Hs H Hs' H') (h0 : H D = none) (hn : Hs' D = none) (hD : H' D = some (.lst xs)) : Grow Hs H Hs' (upd H' D (.lst ys)) where
  ex := ⟨fun b o e n => by
      have hb : b ≠ D := fun z => by rw [z, h0] at e; cases e
      rw [upd_ne hb]
      exact g.ex.ext b o e n, fun b e => by
      by_cases hb : b = D
      · rw [hb, upd_same] at e; cases e
      · rw [upd_ne hb] at e
        exact g.ex.back b e, fun t => tabs_upd hD (fun _ z => by cases z) (fun _ z => by cases z) (g.ex.tabs t)⟩
  exs := g.exs
  sub := fun b o e => by
    have hb : b ≠ D := fun z => by rw [z, hn] at e; cases e
    rw [upd_ne hb]
    exact g.sub b o e
  new := g.new
theorem Grow.write1 {D : Addr} {ys : List V} (g : Grow Hs H Hs' H') (h0 : H D = none) (hn : Hs' D = none) (hD : H' D = none ∨ ∃ xs, H' D = some (.lst xs)) : Grow Hs H Hs' (upd H' D (.lst ys)) := by
  rcases hD with hD | ⟨xs, hD⟩
  · exact g.trans (Grow.alloc0 g.sub hD)
  · exact g.write h0 hn hD
/-- the tables stand, and aren't shown to the data -/
def TB (Hs H : Hp) : Prop := LamX.Tabs Tabl.T H ∧ ∀ p ∈ Tabl.T, Hs p.1 = none
theorem TB.grow (t : TB Hs H) (g : Grow Hs H Hs' H') : TB Hs' H' := ⟨g.ex.tabs t.1, fun p hp => g.new p.1 (t.2 p hp) (by
  obtain ⟨ps, e, _⟩ := t.1 p hp
  rw [e]; simp)⟩
/-- how slots and heap bear the data; M: the slots of lists that may change; Hs: what the data lean on; Hs0, H0: the entry -/
structure SR (K : PySem.W.Frag) (M : List Nat) (Hs0 H0 Hs H : Hp) (σ : L2.St) (ρ : Rho) : Prop where
  g : Grow Hs0 H0 Hs H
  len : σ.length = ρ.length
  frz : ∀ i d, ρ[i]? = some (some d) → M.contains i = false → ∃ v, σ[i]? = some (some v) ∧ Dd K Hs v d
  own : ∀ i d, ρ[i]? = some (some d) → M.contains i = true → ∃ p xs ds, d = .list ds ∧ σ[i]? = some (some (.ref p)) ∧ H p = some (.lst xs) ∧ Hs p = none ∧ H0 p = none ∧ DdAll K Hs xs ds
  sep : ∀ i j di dj p, ρ[i]? = some (some di) → ρ[j]? = some (some dj) → M.contains i = true → M.contains j = true → σ[i]? = some (some (.ref p)) → σ[j]? = some (some (.ref p)) → i = j
  tb0 : TB Hs0 H0
variable {M : List Nat} {σ : L2.St} {ρ : Rho}
theorem SR.sub (r : SR K M Hs0 H0 Hs H σ ρ) : Same Hs H := r.g.sub
theorem SR.tb (r : SR K M Hs0 H0 Hs H σ ρ) : TB Hs H := r.tb0.grow r.g
theorem SR.grow (r : SR K M Hs0 H0 Hs H σ ρ) (e : Grow Hs H Hs' H') : SR K M Hs0 H0 Hs' H' σ ρ where
  g := r.g.trans e
  len := r.len
  frz := fun i d h m => let ⟨v, a, b⟩ := r.frz i d h m; ⟨v, a, b.mono e.exs⟩
  own := fun i d h m => let ⟨p, xs, ds, a, b, c, n, n0, k⟩ := r.own i d h m; ⟨p, xs, ds, a, b, e.ex _ _ c, e.new p n (by rw [c]; simp), n0, k.mono e.exs⟩
  sep := r.sep
  tb0 := r.tb0
/-- what has been new since the entry stands still -/
def thawH (H0 Hs H : Hp) : Hp := fun a => if H0 a = none then H a else Hs a
open Classical in
theorem SR.thaw (r : SR K M Hs0 H0 Hs H σ ρ) : ∃ Hp', Same Hs Hp' ∧ SR K [] Hs0 H0 Hp' H σ ρ ∧ SR K [] Hp' H Hp' H σ ρ := by
  refine ⟨fun a => if H0 a = none then H a else Hs a, ?_⟩
  have e1 : Same Hs (fun a => if H0 a = none then H a else Hs a) := fun b o e => by
    show (if H0 b = none then H b else Hs b) = some o
    by_cases z : H0 b = none
    · rw [if_pos z]; exact r.sub b o e
    · rw [if_neg z]; exact e
  have e2 : Same (fun a => if H0 a = none then H a else Hs a) H := fun b o e => by
    have e : (if H0 b = none then H b else Hs b) = some o := e
    by_cases z : H0 b = none
    · rw [if_pos z] at e; exact e
    · rw [if_neg z] at e; exact r.sub b o e
  have g : Grow Hs0 H0 (fun a => if H0 a = none then H a else Hs a) H := ⟨r.g.ex, r.g.exs.trans e1, e2, fun a e n => by
    show (if H0 a = none then H a else Hs a) = none
    rw [if_neg n]; exact r.g.new a e n⟩
  have fz : ∀ i d, ρ[i]? = some (some d) → ∃ v, σ[i]? = some (some v) ∧ Dd K (fun a => if H0 a = none then H a else Hs a) v d := fun i d h => by
    cases m : M.contains i with
    | false =>
      obtain ⟨v, a, b⟩ := r.frz i d h m
      exact ⟨v, a, b.mono e1⟩
    | true =>
      obtain ⟨p, xs, ds, rfl, b, c, n, n0, k⟩ := r.own i d h m
      exact ⟨_, b, .lst (by show (if H0 p = none then H p else Hs p) = _; rw [if_pos n0]; exact c) (k.mono e1)⟩
  exact ⟨e1, ⟨g, r.len, fun i d h _ => fz i d h, (fun _ _ _ m => by simp at m), (fun _ _ _ _ _ _ _ m => by simp at m), r.tb0⟩,
    ⟨Grow.refl e2, r.len, fun i d h _ => fz i d h, (fun _ _ _ m => by simp at m), (fun _ _ _ _ _ _ _ m => by simp at m), ⟨(r.tb0.grow r.g).1, fun p hp => by
      have n0 : H0 p.1 ≠ none := by
        obtain ⟨ps, e, _⟩ := r.tb0.1 p hp
        rw [e]; simp
      show (if H0 p.1 = none then H p.1 else Hs p.1) = none
      rw [if_neg n0]
      exact (r.tb0.grow r.g).2 p hp⟩⟩⟩
end
end DL

namespace DL
open PySem PySem.Spec PyProof.Rows L2
variable [Tabl]

/-! ### judgements: a derivation, its reading, and the function of the data -/
structure ED (K : PySem.W.Frag) (X : Cx) (M : List Nat) (e : Expr) (t : TE) (f : Fn) : Prop where
  pe : PE X e t
  sm : ∀ {Hs0 H0 Hs H : Hp} {σ : L2.St} {ρ : Rho} {d : PyData} {Q : VK}, SR K M Hs0 H0 Hs H σ ρ → f ρ = some d → (∀ v Hs' H', Grow Hs H Hs' H' → Dd K Hs' v d → Q v H') → t σ H Q
structure AD (K : PySem.W.Frag) (X : Cx) (M : List Nat) (es : List Expr) (t : TA) (f : Rho → Option (List PyData)) : Prop where
  pa : PA X es t
  sm : ∀ {Hs0 H0 Hs H : Hp} {σ : L2.St} {ρ : Rho} {ds : List PyData} {Q : List V → Hp → Prop}, SR K M Hs0 H0 Hs H σ ρ → f ρ = some ds → (∀ vs Hs' H', Grow Hs H Hs' H' → DdAll K Hs' vs ds → Q vs H') → t σ H Q
structure TD (K : PySem.W.Frag) (X : Cx) (M : List Nat) (e : Expr) (t : TT) (f : Rho → Option Bool) : Prop where
  pt : PT X e t
  sm : ∀ {Hs0 H0 Hs H : Hp} {σ : L2.St} {ρ : Rho} {b : Bool} {Q : Bool → Hp → Prop}, SR K M Hs0 H0 Hs H σ ρ → f ρ = some b → (∀ H', Grow Hs H Hs H' → Q b H') → t σ H Q
structure WD (K : PySem.W.Frag) (X : Cx) (M : List Nat) (e : Expr) (t : TT) (f : Rho → Option Bool) : Prop where
  pw : PW X e t
  sm : ∀ {Hs0 H0 Hs H : Hp} {σ : L2.St} {ρ : Rho} {b : Bool} {Q : Bool → Hp → Prop}, SR K M Hs0 H0 Hs H σ ρ → f ρ = some b → (∀ H', Grow Hs H Hs H' → Q b H') → t σ H Q
/-- a fresh list, its items below Hs' -/
structure FD (K : PySem.W.Frag) (X : Cx) (M : List Nat) (e : Expr) (t : TE) (f : Rho → Option (List PyData)) : Prop where
  pe : PE X e t
  sm : ∀ {Hs0 H0 Hs H : Hp} {σ : L2.St} {ρ : Rho} {ds : List PyData} {Q : VK}, SR K M Hs0 H0 Hs H σ ρ → f ρ = some ds →
    (∀ p xs Hs' H', Grow Hs H Hs' H' → H p = none → Hs' p = none → H' p = some (.lst xs) → DdAll K Hs' xs ds → Q (.ref p) H') → t σ H Q

section
variable {K : PySem.W.Frag} {X : Cx} {M : List Nat} {a b c e : Expr} {es : List Expr} {ta tb tc te : TE} {t u : TT} {fa fb fc f : Fn} {pos p pos' : Pos}

/-! ### names, constants -/
@[simp] def fVar (i : Nat) : Fn := fun ρ => match ρ[i]? with
  | some o => o
  | none => none
@[simp] def fC (d : PyData) : Fn := fun _ => some d
theorem fVar_some {i : Nat} {ρ : Rho} {d : PyData} (h : fVar i ρ = some d) : ρ[i]? = some (some d) := by
  unfold fVar at h
  split at h
  · rename_i o e; rw [e, h]
  · cases h
theorem ed_var (i : Nat) {x : Str} (hN : X.N[i]? = some x := by rfl) (hv : Vis X.env.scope x := by first | exact Or.inl rfl | exact Or.inr (Or.inl rfl) | exact Or.inr (Or.inr rfl)) (hM : M.contains i = false := by rfl)
    (hd : (x == ("__debug__" : Str)) = false := by decide) (hcd : (x == ("__classdict__" : Str)) = false := by decide) : ED K X M (.Name x pos) (tVar i) (fVar i) :=
  ⟨pe_var hN hv hd hcd, fun {Hs0 H0 Hs H σ ρ d Q} r h q => by
    obtain ⟨v, a, b⟩ := r.frz i d (fVar_some h) hM
    exact ⟨v, a, q v Hs H (Grow.refl r.sub) b⟩⟩
theorem ed_int {i j} : ED K X M (.Constant (.int i) j pos) (tC (.int i)) (fC (.int i)) :=
  ⟨pe_int, fun {Hs0 H0 Hs H σ ρ d Q} r h q => by cases h; exact q _ Hs H (Grow.refl r.sub) (.int i)⟩
theorem ed_bl {i j} : ED K X M (.Constant (.bool i) j pos) (tC (.bl i)) (fC (.bool i)) :=
  ⟨pe_bl, fun {Hs0 H0 Hs H σ ρ d Q} r h q => by cases h; exact q _ Hs H (Grow.refl r.sub) (.bl i)⟩
theorem ed_non {j} : ED K X M (.Constant .none j pos) (tC .non) (fC .none) :=
  ⟨pe_non, fun {Hs0 H0 Hs H σ ρ d Q} r h q => by cases h; exact q _ Hs H (Grow.refl r.sub) .non⟩
theorem ed_str {x j} : ED K X M (.Constant (.str x) j pos) (tC (.str x)) (fC (.str x)) :=
  ⟨pe_str, fun {Hs0 H0 Hs H σ ρ d Q} r h q => by cases h; exact q _ Hs H (Grow.refl r.sub) (.str x)⟩

/-! ### argument lists, displays -/
@[simp] def fNil : Rho → Option (List PyData) := fun _ => some []
@[simp] def fCons (f : Fn) (g : Rho → Option (List PyData)) : Rho → Option (List PyData) := fun ρ => (f ρ).bind fun d => (g ρ).bind fun ds => some (d :: ds)
variable {tr : TA} {fr : Rho → Option (List PyData)}
theorem ad_nil : AD K X M [] tNil fNil := ⟨pa_nil, fun {Hs0 H0 Hs H σ ρ ds Q} r h q => by cases h; exact q [] Hs H (Grow.refl r.sub) .nil⟩
theorem ad_cons (ha : ED K X M e te f) (hr : AD K X M es tr fr) (hs : starEach (e :: es) X.env = (false, eval e X.env) :: starEach es X.env := by rfl) : AD K X M (e :: es) (tCons te tr) (fCons f fr) :=
  ⟨pa_cons ha.pe hr.pa hs, fun {Hs0 H0 Hs H σ ρ ds Q} r h q => by
    unfold fCons at h
    cases h1 : f ρ with
    | none => rw [h1] at h; cases h
    | some d =>
      rw [h1] at h
      cases h2 : fr ρ with
      | none => simp [h2] at h
      | some ds' =>
        simp [h2] at h
        subst h
        refine ha.sm r h1 fun v Hs1 H1 g1 d1 => ?_
        exact hr.sm (r.grow g1) h2 fun vs Hs2 H2 g2 d2 => q _ Hs2 H2 (g1.trans g2) (.cons (d1.mono g2.exs) d2)⟩
theorem szM {n : Nat} (h : n ≤ 1000000) : n ≤ sizeLine := Nat.le_trans h (by decide)
theorem szL {n : Nat} (h : n < 1000000) : n < sizeLine := Nat.lt_of_lt_of_le h (by decide)
@[simp] def fTup (g : Rho → Option (List PyData)) : Fn := fun ρ => (g ρ).bind fun ds => if ds.length ≤ 1000000 then some (.tuple ds) else none
@[simp] def fList (g : Rho → Option (List PyData)) : Rho → Option (List PyData) := fun ρ => (g ρ).bind fun ds => if ds.length ≤ 1000000 then some ds else none
@[simp] def fFr (g : Rho → Option (List PyData)) : Fn := fun ρ => (g ρ).bind fun ds => some (.list ds)
theorem bind_some {α β : Type} {o : Option α} {k : α → Option β} {b : β} (h : o.bind k = some b) : ∃ a, o = some a ∧ k a = some b := by
  cases o with
  | none => cases h
  | some a => exact ⟨a, rfl, h⟩
theorem ite_some {α : Type} {c : Prop} [Decidable c] {a b : α} (h : (if c then some a else none) = some b) : c ∧ a = b := by
  by_cases hc : c
  · rw [if_pos hc] at h; exact ⟨hc, Option.some.inj h⟩
  · rw [if_neg hc] at h; cases h
/-- a new tuple, told with its own object: it has no dict -/
theorem Inv.tupN {pins : List (Addr × Obj)} {σ : L2.St} {H : Hp} {s : Shared} {xs : List V} {its : List Value} {t' : Nat} (I : Inv X pins σ H s) (hv : Vals xs its) (hz : xs.length ≤ sizeLine) :
    Inv X pins σ (upd H s.heap.objs.size (.frz { cls := .type "tuple", data := .seq its.toArray } (.tup xs))) { s with heap := s.heap.push { cls := .type "tuple", data := .seq its.toArray }, toks := t' } :=
  I.laid (fun _ _ q => Heap.get?_push_of_some _ q) (Nat.le_refl _) ⟨Heap.get?_push_size _ rfl, hz, its, hv, ⟨_, Heap.get?_push_size _ rfl, rfl, _, rfl⟩⟩
def NewT (Q : VK) (H : Hp) (xs : List V) : Prop := ∀ p ob, ob.dict = none → H p = none → Q (.ref p) (upd H p (.frz ob (.tup xs)))
def tTupN (t : TA) : TE := fun σ H Q => t σ H fun xs H1 => xs.length ≤ sizeLine ∧ NewT Q H1 xs
theorem pe_tupN {x1} (h : PA X es tr) : PE X (.Tuple es x1 pos) (tTupN tr) := by
  refine ⟨fun pins s σ H Q I hq => ?_⟩
  refine wpAny_Tuple_spliced (thn (h.run pos pins s σ H _ I hq) fun us s1 ⟨xs, H1, I1, r, z, q⟩ => ⟨by rw [← r.length]; exact z, ?_⟩)
  exact ⟨.ref s1.heap.objs.size, _, Inv.tupN (t' := s1.toks) I1 r z, rfl, q _ _ rfl (I1.hok.fresh (Nat.le_refl _))⟩
theorem NewT.of {Q : VK} {Hs Hs1 H H1 : Hp} {vs : List V} {ds : List PyData} (g1 : Grow Hs H Hs1 H1) (d1 : DdAll K Hs1 vs ds) (q : ∀ v Hs' H', Grow Hs H Hs' H' → Dd K Hs' v (.tuple ds) → Q v H') : NewT Q H1 vs := fun p ob hn hp => by
  have g2 : Grow Hs1 H1 (upd Hs1 p (.frz ob (.tup vs))) (upd H1 p (.frz ob (.tup vs))) := Grow.alloc g1.sub hp
  exact q _ _ _ (g1.trans g2) (.tup hn upd_same (d1.mono g2.exs))
theorem ed_tup {k} (h : AD K X M es tr fr) : ED K X M (.Tuple es k pos) (tTupN tr) (fTup fr) :=
  ⟨pe_tupN h.pa, fun {Hs0 H0 Hs H σ ρ d Q} r hf q => by
    obtain ⟨ds, h1, h2⟩ := bind_some hf
    obtain ⟨hl, rfl⟩ := ite_some h2
    exact h.sm r h1 fun vs Hs1 H1 g1 d1 => ⟨szM (by rw [d1.length]; exact hl), NewT.of g1 d1 q⟩⟩
theorem fd_lst (h : AD K X M es tr fr) : FD K X M (.List es pos) (tLst tr) (fList fr) :=
  ⟨pe_lst h.pa, fun {Hs0 H0 Hs H σ ρ ds Q} r hf q => by
    obtain ⟨ds', h1, h2⟩ := bind_some hf
    obtain ⟨hl, rfl⟩ := ite_some h2
    refine h.sm r h1 fun vs Hs1 H1 g1 d1 => ⟨szM (by rw [d1.length]; exact hl), fun p hp => ?_⟩
    exact q p vs Hs1 _ (g1.trans (Grow.alloc0 g1.sub hp)) (g1.ex.free hp) (g1.sub.free hp) upd_same d1⟩
/-- a fresh list, told as data -/
theorem ed_fr {g : Rho → Option (List PyData)} (h : FD K X M e te g) : ED K X M e te (fFr g) :=
  ⟨h.pe, fun {Hs0 H0 Hs H σ ρ d Q} r hf q => by
    obtain ⟨ds, h1, h2⟩ := bind_some hf
    obtain rfl := Option.some.inj h2
    refine h.sm r h1 fun p xs Hs1 H1 g1 hp hsp hH d1 => ?_
    have e1 : Same Hs1 (upd Hs1 p (.lst xs)) := same_new hsp
    refine q _ (upd Hs1 p (.lst xs)) H1 ⟨g1.ex, g1.exs.trans e1, fun b o z => ?_, fun a z n => ?_⟩ (.lst upd_same (d1.mono e1))
    · by_cases hb : b = p
      · subst hb; rw [upd_same] at z; rw [hH]; exact z
      · rw [upd_ne hb] at z; exact g1.sub _ _ z
    · have : a ≠ p := fun y => n (by rw [y]; exact hp)
      rw [upd_ne this]; exact g1.new a z n⟩

/-! ### operations -/
@[simp] def f2 (g : PyData → PyData → Option PyData) (fa fb : Fn) : Fn := fun ρ => (fa ρ).bind fun x => (fb ρ).bind fun y => g x y
@[simp] def f1 (g : PyData → Option PyData) (fa : Fn) : Fn := fun ρ => (fa ρ).bind g
structure OD (K : PySem.W.Frag) (X : Cx) (op : Value → Value → Sem Value) (r : R2) (g : PyData → PyData → Option PyData) : Prop where
  op : OpR X op r
  sm : ∀ {Hs H : Hp} {x y : V} {dx dy d : PyData} {Q : VK}, Same Hs H → Dd K Hs x dx → Dd K Hs y dy → g dx dy = some d → (∀ v Hs' H', Grow Hs H Hs' H' → Dd K Hs' v d → Q v H') → r x y H Q
theorem two_sm {r : R2} {g : PyData → PyData → Option PyData} (ho : ∀ {Hs H : Hp} {x y : V} {dx dy d : PyData} {Q : VK}, Same Hs H → Dd K Hs x dx → Dd K Hs y dy → g dx dy = some d → (∀ v Hs' H', Grow Hs H Hs' H' → Dd K Hs' v d → Q v H') → r x y H Q)
    (ha : ED K X M a ta fa) (hb : ED K X M b tb fb) {Hs0 H0 Hs H : Hp} {σ : L2.St} {ρ : Rho} {d : PyData} {Q : VK} (R : SR K M Hs0 H0 Hs H σ ρ) (hf : f2 g fa fb ρ = some d) (q : ∀ v Hs' H', Grow Hs H Hs' H' → Dd K Hs' v d → Q v H') : tOp r ta tb σ H Q := by
  obtain ⟨x, h1, h2⟩ := bind_some hf
  obtain ⟨y, h2, h3⟩ := bind_some h2
  refine ha.sm R h1 fun v Hs1 H1 g1 d1 => ?_
  refine hb.sm (R.grow g1) h2 fun u Hs2 H2 g2 d2 => ?_
  exact ho g2.sub (d1.mono g2.exs) d2 h3 fun w Hs3 H3 g3 d3 => q w Hs3 H3 ((g1.trans g2).trans g3) d3
theorem ed_op {op : Operator} {r : R2} {g : PyData → PyData → Option PyData} (ho : OD K X (binaryOp op) r g) (ha : ED K X M a ta fa) (hb : ED K X M b tb fb) : ED K X M (.BinOp a op b pos) (tOp r ta tb) (f2 g fa fb) :=
  ⟨pe_op ho.op ha.pe hb.pe, fun R hf q => two_sm ho.sm ha hb R hf q⟩
theorem ed_cmp {op : CmpOp} {r : R2} {g : PyData → PyData → Option PyData} (ho : OD K X (compareOp op) r g) (ha : ED K X M a ta fa) (hb : ED K X M b tb fb) (hm : behindInMarks op b = false := by first | exact nomark _ | rfl) :
    ED K X M (.Compare a [op] [b] pos) (tOp r ta tb) (f2 g fa fb) :=
  ⟨pe_cmpR ho.op ha.pe hb.pe hm, fun R hf q => two_sm ho.sm ha hb R hf q⟩
/-- a value that is a truth, as a test -/
@[simp] def fB (f : Fn) : Rho → Option Bool := fun ρ => (f ρ).bind fun d => match d with
  | .bool b => some b
  | _ => none
theorem fB_some {ρ : Rho} {b : Bool} (h : fB f ρ = some b) : f ρ = some (.bool b) := by
  obtain ⟨d, h1, h2⟩ := bind_some h
  cases d <;> simp at h2
  subst h2; exact h1
theorem td_cmp {op : CmpOp} {r : R2} {g : PyData → PyData → Option PyData} (ho : OD K X (compareOp op) r g) (ha : ED K X M a ta fa) (hb : ED K X M b tb fb) (hm : behindInMarks op b = false := by first | exact nomark _ | rfl) :
    TD K X M (.Compare a [op] [b] pos) (tTest (tOp r ta tb)) (fB (f2 g fa fb)) :=
  ⟨pt_cmpR ho.op ha.pe hb.pe hm, fun {Hs0 H0 Hs H σ ρ c Q} R hf q => two_sm ho.sm ha hb R (fB_some hf) fun v Hs1 H1 g1 d1 => by
    cases d1
    exact ⟨_, rfl, q H1 g1.calm⟩⟩
theorem td_val (ha : ED K X M e te f) (he : ∀ whole, isTrue e X.env whole = (do let v ← whole; standAt e.pos; holding [v] (truthy v)) := by intro _; rfl) : TD K X M e (tB te) (fB f) :=
  ⟨pt_val ha.pe he, fun {Hs0 H0 Hs H σ ρ c Q} R hf q => ha.sm R (fB_some hf) fun v Hs1 H1 g1 d1 => by
    cases d1
    exact ⟨_, rfl, q H1 g1.calm⟩⟩

/-! ### and, or, not -/
@[simp] def bAnd (f g : Rho → Option Bool) : Rho → Option Bool := fun ρ => (f ρ).bind fun b => if b = true then g ρ else some false
@[simp] def bOr (f g : Rho → Option Bool) : Rho → Option Bool := fun ρ => (f ρ).bind fun b => if b = true then some true else g ρ
@[simp] def bNot (f : Rho → Option Bool) : Rho → Option Bool := fun ρ => (f ρ).bind fun b => some (!b)
variable {ba bb : Rho → Option Bool} {rest : List Expr}
theorem wd_and1 (h : TD K X M a t ba) : WD K X M (.BoolOp .And [a] pos) t ba := ⟨pw_and1 h.pt, h.sm⟩
theorem wd_or1 (h : TD K X M a t ba) : WD K X M (.BoolOp .Or [a] pos) t ba := ⟨pw_or1 h.pt, h.sm⟩
theorem SR.same {Hs0 H0 Hs H H' : Hp} {σ : L2.St} {ρ : Rho} (r : SR K M Hs0 H0 Hs H σ ρ) (e : Grow Hs H Hs H') : SR K M Hs0 H0 Hs H' σ ρ := r.grow e
theorem wd_and (ha : TD K X M a t ba) (hb : WD K X M (.BoolOp .And (b :: rest) pos) u bb) : WD K X M (.BoolOp .And (a :: b :: rest) pos) (tAnd t u) (bAnd ba bb) :=
  ⟨pw_and ha.pt hb.pw, fun {Hs0 H0 Hs H σ ρ c Q} R hf q => by
    obtain ⟨x, h1, h2⟩ := bind_some hf
    refine ha.sm R h1 fun H1 e1 => ?_
    cases x with
    | true =>
      rw [if_pos rfl] at h2 ⊢
      exact hb.sm (R.same e1) h2 fun H2 e2 => q H2 (e1.trans e2)
    | false =>
      rw [if_neg Bool.false_ne_true] at h2 ⊢
      cases h2
      exact q H1 e1⟩
theorem wd_or (ha : TD K X M a t ba) (hb : WD K X M (.BoolOp .Or (b :: rest) pos) u bb) : WD K X M (.BoolOp .Or (a :: b :: rest) pos) (tOr t u) (bOr ba bb) :=
  ⟨pw_or ha.pt hb.pw, fun {Hs0 H0 Hs H σ ρ c Q} R hf q => by
    obtain ⟨x, h1, h2⟩ := bind_some hf
    refine ha.sm R h1 fun H1 e1 => ?_
    cases x with
    | false =>
      rw [if_neg Bool.false_ne_true] at h2 ⊢
      exact hb.sm (R.same e1) h2 fun H2 e2 => q H2 (e1.trans e2)
    | true =>
      rw [if_pos rfl] at h2 ⊢
      cases h2
      exact q H1 e1⟩
theorem td_w (h : WD K X M e t ba) : TD K X M e t ba := ⟨h.pw.pt, h.sm⟩
theorem td_not (h : TD K X M a t ba) : TD K X M (.UnaryOp .Not a pos) (tNot t) (bNot ba) :=
  ⟨pt_not h.pt, fun {Hs0 H0 Hs H σ ρ c Q} R hf q => by
    obtain ⟨x, h1, h2⟩ := bind_some hf
    cases h2
    exact h.sm R h1 fun H1 e1 => q H1 e1⟩
/-- as values -/
@[simp] def fAnd (fa fb : Fn) : Fn := fun ρ => (fa ρ).bind fun d => match d with
  | .bool true => fb ρ
  | .bool false => some (.bool false)
  | _ => none
@[simp] def fOr (fa fb : Fn) : Fn := fun ρ => (fa ρ).bind fun d => match d with
  | .bool false => fb ρ
  | .bool true => some (.bool true)
  | _ => none
@[simp] def fNot (fa : Fn) : Fn := fun ρ => (fa ρ).bind fun d => match d with
  | .bool b => some (.bool (!b))
  | _ => none
theorem ed_one {op} (h : ED K X M a ta fa) : ED K X M (.BoolOp op [a] pos) ta fa := ⟨pe_one h.pe, h.sm⟩
theorem ed_and (ha : ED K X M a ta fa) (hb : ED K X M (.BoolOp .And (b :: rest) pos) tb fb) : ED K X M (.BoolOp .And (a :: b :: rest) pos) (tAndV ta tb) (fAnd fa fb) :=
  ⟨pe_and ha.pe hb.pe, fun {Hs0 H0 Hs H σ ρ d Q} R hf q => by
    obtain ⟨x, h1, h2⟩ := bind_some hf
    refine ha.sm R h1 fun v Hs1 H1 g1 d1 => ?_
    cases x with
    | bool k =>
      cases d1
      refine ⟨k, rfl, ?_⟩
      cases k with
      | true => rw [if_pos rfl]; exact hb.sm (R.grow g1) h2 fun w Hs2 H2 g2 d2 => q w Hs2 H2 (g1.trans g2) d2
      | false =>
        rw [if_neg Bool.false_ne_true]
        obtain rfl := Option.some.inj h2
        exact q _ Hs1 H1 g1 (.bl false)
    | _ => cases h2⟩
theorem ed_or (ha : ED K X M a ta fa) (hb : ED K X M (.BoolOp .Or (b :: rest) pos) tb fb) : ED K X M (.BoolOp .Or (a :: b :: rest) pos) (tOrV ta tb) (fOr fa fb) :=
  ⟨pe_or ha.pe hb.pe, fun {Hs0 H0 Hs H σ ρ d Q} R hf q => by
    obtain ⟨x, h1, h2⟩ := bind_some hf
    refine ha.sm R h1 fun v Hs1 H1 g1 d1 => ?_
    cases x with
    | bool k =>
      cases d1
      refine ⟨k, rfl, ?_⟩
      cases k with
      | false => rw [if_neg Bool.false_ne_true]; exact hb.sm (R.grow g1) h2 fun w Hs2 H2 g2 d2 => q w Hs2 H2 (g1.trans g2) d2
      | true =>
        rw [if_pos rfl]
        obtain rfl := Option.some.inj h2
        exact q _ Hs1 H1 g1 (.bl true)
    | _ => cases h2⟩
theorem ed_not (ha : ED K X M a ta fa) : ED K X M (.UnaryOp .Not a pos) (tNotV ta) (fNot fa) :=
  ⟨pe_not ha.pe, fun {Hs0 H0 Hs H σ ρ d Q} R hf q => by
    obtain ⟨x, h1, h2⟩ := bind_some hf
    refine ha.sm R h1 fun v Hs1 H1 g1 d1 => ?_
    cases x with
    | bool k =>
      cases d1
      obtain rfl := Option.some.inj h2
      exact ⟨k, rfl, q _ Hs1 H1 g1 (.bl _)⟩
    | _ => cases h2⟩
/-- a if c else b -/
@[simp] def fIf (c : Rho → Option Bool) (fa fb : Fn) : Fn := fun ρ => (c ρ).bind fun k => if k = true then fa ρ else fb ρ
theorem ed_if {c : Expr} (hc : TD K X M c t ba) (ha : ED K X M a ta fa) (hb : ED K X M b tb fb) : ED K X M (.IfExp c a b pos) (tIf t ta tb) (fIf ba fa fb) :=
  ⟨pe_ifExp hc.pt ha.pe hb.pe, fun {Hs0 H0 Hs H σ ρ d Q} R hf q => by
    obtain ⟨x, h1, h2⟩ := bind_some hf
    refine hc.sm R h1 fun H1 e1 => ?_
    cases x with
    | true => rw [if_pos rfl] at h2 ⊢; exact ha.sm (R.same e1) h2 fun v Hs2 H2 g2 d2 => q v Hs2 H2 (e1.trans g2) d2
    | false => rw [if_neg Bool.false_ne_true] at h2 ⊢; exact hb.sm (R.same e1) h2 fun v Hs2 H2 g2 d2 => q v Hs2 H2 (e1.trans g2) d2⟩

/-! ### chains of comparisons -/
@[simp] def fChain (g g' : PyData → PyData → Option PyData) (fa fb fc : Fn) : Fn := fun ρ => (fa ρ).bind fun x => (fb ρ).bind fun y => (g x y).bind fun z => match z with
  | .bool true => (fc ρ).bind fun w => g' y w
  | .bool false => some (.bool false)
  | _ => none
theorem chain_sm {op op' : CmpOp} {r r' : R2} {g g' : PyData → PyData → Option PyData} (ho : OD K X (compareOp op) r g) (ho' : OD K X (compareOp op') r' g') (ha : ED K X M a ta fa) (hb : ED K X M b tb fb) (hc : ED K X M c tc fc)
    {Hs0 H0 Hs H : Hp} {σ : L2.St} {ρ : Rho} {d : PyData} {Q : VK} (R : SR K M Hs0 H0 Hs H σ ρ) (hf : fChain g g' fa fb fc ρ = some d) (q : ∀ v Hs' H', Grow Hs H Hs' H' → Dd K Hs' v d → Q v H') : tChain r r' ta tb tc σ H Q := by
  obtain ⟨x, h1, h2⟩ := bind_some hf
  obtain ⟨y, h2, h3⟩ := bind_some h2
  obtain ⟨z, h3, h4⟩ := bind_some h3
  refine ha.sm R h1 fun v Hs1 H1 g1 d1 => ?_
  refine hb.sm (R.grow g1) h2 fun u Hs2 H2 g2 d2 => ?_
  refine ho.sm g2.sub (d1.mono g2.exs) d2 h3 fun w Hs3 H3 g3 d3 => ?_
  cases z with
  | bool k =>
    cases d3
    refine ⟨k, rfl, ?_⟩
    cases k with
    | true =>
      rw [if_pos rfl]
      obtain ⟨w', h5, h6⟩ := bind_some h4
      refine hc.sm (((R.grow g1).grow g2).grow g3) h5 fun w Hs4 H4 g4 d4 => ?_
      exact ho'.sm g4.sub ((d2.mono g3.exs).mono g4.exs) d4 h6 fun o Hs5 H5 g5 d5 => q o Hs5 H5 ((((g1.trans g2).trans g3).trans g4).trans g5) d5
    | false =>
      rw [if_neg Bool.false_ne_true]
      obtain rfl := Option.some.inj h4
      exact q _ Hs3 H3 ((g1.trans g2).trans g3) (.bl false)
  | _ => cases h4
theorem ed_chain {op op' : CmpOp} {r r' : R2} {g g' : PyData → PyData → Option PyData} (ho : OD K X (compareOp op) r g) (ho' : OD K X (compareOp op') r' g') (ha : ED K X M a ta fa) (hb : ED K X M b tb fb) (hc : ED K X M c tc fc)
    (hm : lastMarks [op, op'] [b, c] = false := by with_unfolding_all rfl) : ED K X M (.Compare a [op, op'] [b, c] pos) (tChain r r' ta tb tc) (fChain g g' fa fb fc) :=
  ⟨pe_chain ho.op ho'.op ha.pe hb.pe hc.pe hm, fun R hf q => chain_sm ho ho' ha hb hc R hf q⟩
theorem td_chain {op op' : CmpOp} {r r' : R2} {g g' : PyData → PyData → Option PyData} (ho : OD K X (compareOp op) r g) (ho' : OD K X (compareOp op') r' g') (ha : ED K X M a ta fa) (hb : ED K X M b tb fb) (hc : ED K X M c tc fc)
    (hm : lastMarks [op, op'] [b, c] = false := by with_unfolding_all rfl) : TD K X M (.Compare a [op, op'] [b, c] pos) (tTest (tChain r r' ta tb tc)) (fB (fChain g g' fa fb fc)) :=
  ⟨pt_chain ho.op ho'.op ha.pe hb.pe hc.pe hm, fun {Hs0 H0 Hs H σ ρ k Q} R hf q => chain_sm ho ho' ha hb hc R (fB_some hf) fun v Hs1 H1 g1 d1 => by
    cases d1
    exact ⟨_, rfl, q H1 g1.calm⟩⟩

/-! ### truth of any value -/
@[simp] def gTru : PyData → Option Bool
  | .none => some false
  | .bool b => some b
  | .int i => some (i != 0)
  | .str x => if x.length ≤ 1000000 then some ((x.length : Int) != 0) else none
  | .list ds => some (!ds.isEmpty)
  | .tuple ds => some (!ds.isEmpty)
  | .dict _ => none
@[simp] def fTru (f : Fn) : Rho → Option Bool := fun ρ => (f ρ).bind gTru
theorem isEmpty_dd {H : Hp} {vs : List V} {ds : List PyData} (h : DdAll K H vs ds) : ds.isEmpty = vs.isEmpty := by
  cases h <;> rfl
theorem td_truth (ha : ED K X M e te f) (hK : X.K = K := by rfl) (he : ∀ whole, isTrue e X.env whole = (do let v ← whole; standAt e.pos; holding [v] (truthy v)) := by intro _; rfl) :
    TD K X M e (fun σ H Q => te σ H fun x H' => ∃ k, TruV K x H' k ∧ Q k H') (fTru f) := by
  subst hK
  refine ⟨pt_truth ha.pe he, fun {Hs0 H0 Hs H σ ρ k Q} R hf q => ?_⟩
  obtain ⟨d, h1, h2⟩ := bind_some hf
  refine ha.sm R h1 fun v Hs1 H1 g1 d1 => ⟨k, ?_, q H1 g1.calm⟩
  cases d1 with
  | non => exact (Option.some.inj h2).symm
  | bl b => exact (Option.some.inj h2).symm
  | int i => exact (Option.some.inj h2).symm
  | str x =>
    obtain ⟨a, b⟩ := ite_some h2
    exact ⟨szM a, b.symm⟩
  | lst h t => exact .inl ⟨_, sqL_of (g1.sub _ _ h), by rw [← isEmpty_dd t]; exact (Option.some.inj h2).symm⟩
  | tup n h t => exact .inr (.inl ⟨_, sqT_of (g1.sub _ _ h), by rw [← isEmpty_dd t]; exact (Option.some.inj h2).symm⟩)
  | scr h => cases h2
end
end DL

namespace DL
open PySem PySem.Spec PyProof.Rows L2
variable [Tabl]
section
variable {K : PySem.W.Frag} {X : Cx}

/-! ### operators of ints -/
theorem od_I {op : Value → Value → Sem Value} {C : Int → Int → Prop} [DecidableRel C] {h : Int → Int → V} {g : Int → Int → PyData} (ho : OpR X op (rI C h)) (hd : ∀ (H : Hp) i j, Dd K H (h i j) (g i j)) :
    OD K X op (rI C h) (fun x y => match x, y with
      | .int i, .int j => if C i j then some (g i j) else none
      | _, _ => none) :=
  ⟨ho, fun {Hs H x y dx dy d Q} e a b hf q => by
    cases a <;> cases b <;> first
      | (cases hf; done)
      | (rename_i i j
         obtain ⟨hc, rfl⟩ := ite_some hf
         exact ⟨i, j, rfl, rfl, hc, q _ Hs H (Grow.refl e) (hd _ i j)⟩)⟩
theorem od_I0 {op : Value → Value → Sem Value} {h : Int → Int → V} {g : Int → Int → PyData} (ho : OpR X op (rI0 h)) (hd : ∀ (H : Hp) i j, Dd K H (h i j) (g i j)) :
    OD K X op (rI0 h) (fun x y => match x, y with
      | .int i, .int j => some (g i j)
      | _, _ => none) :=
  ⟨ho, fun {Hs H x y dx dy d Q} e a b hf q => by
    cases a <;> cases b <;> first
      | (cases hf; done)
      | (rename_i i j
         obtain rfl := Option.some.inj hf
         exact ⟨i, j, rfl, rfl, q _ Hs H (Grow.refl e) (hd _ i j)⟩)⟩
@[simp] def gI (g : Int → Int → Int) : PyData → PyData → Option PyData := fun x y => match x, y with
  | .int i, .int j => some (.int (g i j))
  | _, _ => none
@[simp] def gIc (C : Int → Int → Prop) [DecidableRel C] (g : Int → Int → Int) : PyData → PyData → Option PyData := fun x y => match x, y with
  | .int i, .int j => if C i j then some (.int (g i j)) else none
  | _, _ => none
@[simp] def gIb (g : Int → Int → Bool) : PyData → PyData → Option PyData := fun x y => match x, y with
  | .int i, .int j => some (.bool (g i j))
  | _, _ => none
theorem od_sub : OD K X (binaryOp .Sub) (rI0 fun i j => .int (i - j)) (gI fun i j => i - j) := od_I0 (g := fun i j => .int (i - j)) op_sub fun _ _ _ => .int _
/-- conditions are not reckoned but shown -/
noncomputable instance : DecidableRel CDiv := fun _ _ => Classical.propDecidable _
noncomputable instance : DecidableRel CPow := fun _ _ => Classical.propDecidable _
def MulOk (i j : Int) : Prop := CMul i j ∨ CMulX i j
noncomputable instance : DecidableRel MulOk := fun _ _ => Classical.propDecidable _
theorem op_mulO : OpR X (binaryOp .Mult) (rI MulOk fun i j => .int (i * j)) := opI fun _ _ _ _ _ _ _ hc q => mul_int q (hc.elim CMul.ok CMulX.ok)
theorem od_mod : OD K X (binaryOp .Mod) (rI (fun _ j => 0 < j) fun i j => .int (i % j)) (gIc (fun _ j => 0 < j) fun i j => i % j) := od_I (C := fun _ j => 0 < j) (g := fun i j => .int (i % j)) op_mod fun _ _ _ => .int _
theorem od_fdiv : OD K X (binaryOp .FloorDiv) (rI CDiv fun i j => .int (i / j)) (gIc CDiv fun i j => i / j) := od_I (g := fun i j => .int (i / j)) op_fdiv fun _ _ _ => .int _
theorem od_pow : OD K X (binaryOp .Pow) (rI CPow fun i j => .int (i ^ j.toNat)) (gIc CPow fun i j => i ^ j.toNat) := od_I (g := fun i j => .int (i ^ j.toNat)) op_pow fun _ _ _ => .int _
theorem od_shr : OD K X (binaryOp .RShift) (rI (fun _ j => 0 ≤ j) fun i j => .int (i / 2 ^ j.toNat)) (gIc (fun _ j => 0 ≤ j) fun i j => i / 2 ^ j.toNat) := od_I (C := fun _ j => 0 ≤ j) (g := fun i j => .int (i / 2 ^ j.toNat)) op_shr fun _ _ _ => .int _
theorem od_and : OD K X (binaryOp .BitAnd) (rI0 fun i j => .int (Builtin.bitAnd i j)) (gI fun i j => Builtin.bitAnd i j) := od_I0 (g := fun i j => .int (Builtin.bitAnd i j)) op_and fun _ _ _ => .int _
theorem od_lt : OD K X (compareOp .Lt) (rI0 fun i j => .bl (decide (i < j))) (gIb fun i j => decide (i < j)) := od_I0 (g := fun i j => .bool (decide (i < j))) op_lt fun _ _ _ => .bl _
theorem od_le : OD K X (compareOp .LtE) (rI0 fun i j => .bl (decide (i ≤ j))) (gIb fun i j => decide (i ≤ j)) := od_I0 (g := fun i j => .bool (decide (i ≤ j))) op_le fun _ _ _ => .bl _
theorem od_gt : OD K X (compareOp .Gt) (rI0 fun i j => .bl (decide (j < i))) (gIb fun i j => decide (j < i)) := od_I0 (g := fun i j => .bool (decide (j < i))) op_gt fun _ _ _ => .bl _
theorem od_ge : OD K X (compareOp .GtE) (rI0 fun i j => .bl (decide (j ≤ i))) (gIb fun i j => decide (j ≤ i)) := od_I0 (g := fun i j => .bool (decide (j ≤ i))) op_ge fun _ _ _ => .bl _
@[simp] def gNeg : PyData → Option PyData := fun x => match x with
  | .int i => some (.int (-i))
  | _ => none
theorem un_neg' {M : List Nat} {a : Expr} {ta : TE} {fa : Fn} {pos : Pos} (ha : ED K X M a ta fa) : ED K X M (.UnaryOp .USub a pos) (tUn (rU fun i => .int (-i)) ta) (f1 gNeg fa) :=
  ⟨pe_un un_neg ha.pe, fun {Hs0 H0 Hs H σ ρ d Q} R hf q => by
    obtain ⟨x, h1, h2⟩ := bind_some hf
    refine ha.sm R h1 fun v Hs1 H1 g1 d1 => ?_
    cases d1 <;> first
      | (cases h2; done)
      | (obtain rfl := Option.some.inj h2
         exact ⟨_, rfl, q _ Hs1 H1 g1 (.int _)⟩)⟩

/-! ### +, of ints, texts, tuples, lists -/
def rCatN (K : PySem.W.Frag) : R2 := fun x y H Q => ∃ a b xs ys, x = .ref a ∧ y = .ref b ∧ SqT K H a xs ∧ SqT K H b ys ∧ xs.length + ys.length ≤ sizeLine ∧
  (xs = [] → Q (.ref b) H) ∧ (xs ≠ [] → ys = [] → Q (.ref a) H) ∧ (xs ≠ [] → ys ≠ [] → NewT Q H (xs ++ ys))
theorem op_catN : OpR X (binaryOp .Add) (rCatN X.K) := by
  intro pins s σ H x y v u Q I rx ry h
  obtain ⟨a, b, xs, ys, rfl, rfl, ha, hb, hz, q0, q1, q2⟩ := h
  cases rx
  cases ry
  obtain ⟨its, r1, p1, _⟩ := I.tuple ha
  obtain ⟨its2, r2, p2, _⟩ := I.tuple hb
  by_cases hx : xs = []
  · subst hx
    cases r1
    exact cat_tup0 p1 p2 ⟨.ref b, H, I, rfl, q0 rfl⟩
  · refine HT.cat_tup p1 p2 (fun z => hx (r1.nil_iff.mp z)) (fun z => ⟨.ref a, H, I, rfl, q1 hx (r2.nil_iff.mp z)⟩) (fun z => ?_) (by rw [← r1.length, ← r2.length]; exact hz)
    exact ⟨.ref s.heap.objs.size, _, Inv.tupN (t' := s.toks) I (r1.append r2) (by rw [List.length_append]; exact hz), rfl, q2 hx (fun w => z (r2.nil_iff.mpr w)) _ _ rfl (I.hok.fresh (Nat.le_refl _))⟩
def rAddD (K : PySem.W.Frag) : R2 := fun x y H Q => rI0 (fun i j => .int (i + j)) x y H Q ∨ (∃ i j, x = .str i ∧ y = .str j ∧ i.length + j.length ≤ sizeLine ∧ Q (.str (i ++ j)) H) ∨ rCatN K x y H Q ∨ rCat x y H Q
@[simp] def gAdd : PyData → PyData → Option PyData
  | .int a, .int b => some (.int (a + b))
  | .str a, .str b => if a.length + b.length ≤ 1000000 then some (.str (a ++ b)) else none
  | .tuple a, .tuple b => if a.length + b.length ≤ 1000000 then some (.tuple (a ++ b)) else none
  | .list a, .list b => if a.length + b.length ≤ 1000000 then some (.list (a ++ b)) else none
  | _, _ => none
theorem od_add (hK : X.K = K := by rfl) : OD K X (binaryOp .Add) (rAddD K) gAdd := by
  subst hK
  refine ⟨op_add.or (op_add_str.or (op_catN.or op_cat)), fun {Hs H x y dx dy d Q} e a b hf q => ?_⟩
  cases a with
  | int i =>
    cases b with
    | int j =>
      obtain rfl := Option.some.inj hf
      exact .inl ⟨i, j, rfl, rfl, q _ Hs H (Grow.refl e) (.int _)⟩
    | _ => cases hf
  | str i =>
    cases b with
    | str j =>
      obtain ⟨hl, rfl⟩ := ite_some hf
      exact .inr (.inl ⟨i, j, rfl, rfl, szM hl, q _ Hs H (Grow.refl e) (.str _)⟩)
    | _ => cases hf
  | @tup a1 ob1 xs ds n1 h1 t1 =>
    cases b with
    | @tup a2 ob2 ys es n2 h2 t2 =>
      obtain ⟨hl, rfl⟩ := ite_some hf
      refine .inr (.inr (.inl ⟨a1, a2, xs, ys, rfl, rfl, sqT_of (e _ _ h1), sqT_of (e _ _ h2), szM (by rw [t1.length, t2.length]; exact hl), fun z => ?_, fun _ z => ?_, fun _ _ => NewT.of (Grow.refl e) (t1.append t2) q⟩))
      · subst z
        cases t1
        exact q _ Hs H (Grow.refl e) (.tup n2 h2 t2)
      · subst z
        cases t2
        rw [List.append_nil] at q
        exact q _ Hs H (Grow.refl e) (.tup n1 h1 t1)
    | _ => cases hf
  | @lst a1 xs ds h1 t1 =>
    cases b with
    | @lst a2 ys es h2 t2 =>
      obtain ⟨hl, rfl⟩ := ite_some hf
      refine .inr (.inr (.inr ⟨a1, a2, xs, ys, rfl, rfl, e _ _ h1, e _ _ h2, szM (by rw [t1.length, t2.length]; exact hl), fun p hp => ?_⟩))
      have g2 : Grow Hs H (upd Hs p (.lst (xs ++ ys))) (upd H p (.lst (xs ++ ys))) := Grow.alloc e hp
      exact q _ _ _ g2 (.lst upd_same ((t1.append t2).mono g2.exs))
    | _ => cases hf
  | _ => cases hf

/-! ### * -/
/-- a tuple times an int: nothing, itself, or anew -/
theorem flat_rep_nil {α : Type} (n : Nat) : (List.replicate n ([] : List α)).flatten = [] := by
  induction n with
  | zero => rfl
  | succ n ih => rw [List.replicate_succ, List.flatten_cons, ih]; rfl
/-! ### ==, != of data; is; in -/
def gEq (neg : Bool) : PyData → PyData → Option PyData := fun x y => if SeqAt.shaped x = true ∧ SeqAt.shaped y = true then some (.bool (xor neg (PyData.eqv x y))) else none
theorem od_eq {k : Nat} (hr : Room k X.A) (hK : X.K = K := by rfl) : OD K X (compareOp .Eq) (rEqD K) (gEq false) := by
  subst hK
  refine ⟨op_eqD hr.units, fun {Hs H x y dx dy d Q} e a b hf q => ?_⟩
  obtain ⟨⟨c1, c2⟩, rfl⟩ := ite_some hf
  refine ⟨dx, dy, (a.mono e).dp (SeqAt.canLay_of_shaped c1), (b.mono e).dp (SeqAt.canLay_of_shaped c2), c1, c2, ?_⟩
  have := q (.bl (xor false (PyData.eqv dx dy))) Hs H (Grow.refl e) (.bl _)
  rwa [Bool.false_xor] at this
theorem od_ne {k : Nat} (hr : Room k X.A) (hK : X.K = K := by rfl) : OD K X (compareOp .NotEq) (rNeD K) (gEq true) := by
  subst hK
  refine ⟨op_neD hr.units, fun {Hs H x y dx dy d Q} e a b hf q => ?_⟩
  obtain ⟨⟨c1, c2⟩, rfl⟩ := ite_some hf
  refine ⟨dx, dy, (a.mono e).dp (SeqAt.canLay_of_shaped c1), (b.mono e).dp (SeqAt.canLay_of_shaped c2), c1, c2, ?_⟩
  have := q (.bl (xor true (PyData.eqv dx dy))) Hs H (Grow.refl e) (.bl _)
  rwa [Bool.true_xor] at this
/-- is, is not: of truths, or with None on the right -/
@[simp] def gIs (neg : Bool) : PyData → PyData → Option PyData
  | .bool a, .bool b => some (.bool (xor neg (decide (a = b))))
  | .none, .none => some (.bool (xor neg true))
  | .bool _, .none => some (.bool (xor neg false))
  | .int _, .none => some (.bool (xor neg false))
  | .str _, .none => some (.bool (xor neg false))
  | .tuple _, .none => some (.bool (xor neg false))
  | .list _, .none => some (.bool (xor neg false))
  | _, _ => none
def rIsD (neg : Bool) : R2 := fun x y H Q => (∃ a b, x = .bl a ∧ y = .bl b ∧ Q (.bl (xor neg (decide (a = b)))) H) ∨ (y = .non ∧ Q (.bl (xor neg (decide (x = .non)))) H)
theorem is_sm {neg : Bool} {Hs H : Hp} {x y : V} {dx dy d : PyData} {Q : VK} (e : Same Hs H) (a : Dd K Hs x dx) (b : Dd K Hs y dy) (hf : gIs neg dx dy = some d) (q : ∀ v Hs' H', Grow Hs H Hs' H' → Dd K Hs' v d → Q v H') : rIsD neg x y H Q := by
  cases b with
  | bl k =>
    cases a <;> first
      | (cases hf; done)
      | (rename_i j
         obtain rfl := Option.some.inj hf
         exact .inl ⟨j, k, rfl, rfl, q _ Hs H (Grow.refl e) (.bl _)⟩)
  | non =>
    refine .inr ⟨rfl, ?_⟩
    have z : ∀ (u : V), u ≠ .non → decide (u = .non) = false := fun u hu => decide_eq_false hu
    cases a with
    | non =>
      obtain rfl := Option.some.inj hf
      exact q _ Hs H (Grow.refl e) (.bl _)
    | bl j =>
      obtain rfl := Option.some.inj hf
      rw [z (.bl j) (fun w => nomatch w)]
      exact q _ Hs H (Grow.refl e) (.bl _)
    | int j =>
      obtain rfl := Option.some.inj hf
      rw [z (.int j) (fun w => nomatch w)]
      exact q _ Hs H (Grow.refl e) (.bl _)
    | str j =>
      obtain rfl := Option.some.inj hf
      rw [z (.str j) (fun w => nomatch w)]
      exact q _ Hs H (Grow.refl e) (.bl _)
    | lst h t =>
      obtain rfl := Option.some.inj hf
      rw [z (.ref _) (fun w => nomatch w)]
      exact q _ Hs H (Grow.refl e) (.bl _)
    | tup n h t =>
      obtain rfl := Option.some.inj hf
      rw [z (.ref _) (fun w => nomatch w)]
      exact q _ Hs H (Grow.refl e) (.bl _)
    | scr h => cases hf
  | _ => cases a <;> cases hf
theorem od_is : OD K X (compareOp .Is) (rIsD false) (gIs false) :=
  ⟨fun pins s σ H x y v u Q I rx ry h => by
    rcases h with ⟨a, b, rfl, rfl, q⟩ | ⟨rfl, q⟩
    · exact op_isBl pins s σ H _ _ v u Q I rx ry ⟨a, b, rfl, rfl, by rwa [Bool.false_xor] at q⟩
    · exact op_isN pins s σ H _ _ v u Q I rx ry ⟨rfl, by rwa [Bool.false_xor] at q⟩, is_sm⟩
theorem od_isNot : OD K X (compareOp .IsNot) (rIsD true) (gIs true) :=
  ⟨fun pins s σ H x y v u Q I rx ry h => by
    rcases h with ⟨a, b, rfl, rfl, q⟩ | ⟨rfl, q⟩
    · exact op_notBl pins s σ H _ _ v u Q I rx ry ⟨a, b, rfl, rfl, by rwa [Bool.true_xor] at q⟩
    · exact op_notN pins s σ H _ _ v u Q I rx ry ⟨rfl, by rwa [Bool.true_xor] at q⟩, is_sm⟩

@[simp] def flatD : PyData → Bool
  | .none => true
  | .bool _ => true
  | .int _ => true
  | .str _ => true
  | _ => false
theorem flat_dv {H : Hp} {v : V} {d : PyData} (a : Dd K H v d) (f : flatD d = true) : flatV v = true := by
  cases a <;> first | rfl | cases f
theorem flats_dv {H : Hp} : ∀ {vs : List V} {ds : List PyData}, DdAll K H vs ds → ds.all flatD = true → vs.all flatV = true
  | _, _, .nil, _ => rfl
  | _, _, .cons a r, f => by
    rw [List.all_cons, Bool.and_eq_true] at f ⊢
    exact ⟨flat_dv a f.1, flats_dv r f.2⟩
theorem eqV_dv {H : Hp} {v u : V} {d e : PyData} (a : Dd K H v d) (b : Dd K H u e) (fd : flatD d = true) (fe : flatD e = true) : eqV v u = PyData.eqv d e := by
  cases a <;> cases b <;> first | rfl | cases fd | cases fe
theorem inV_dv {H : Hp} {x : V} {d : PyData} (a : Dd K H x d) (fd : flatD d = true) : ∀ {vs : List V} {ds : List PyData}, DdAll K H vs ds → ds.all flatD = true → inV x vs = ds.any fun z => PyData.eqv z d
  | _, _, .nil, _ => rfl
  | _, _, .cons b r, f => by
    rw [List.all_cons, Bool.and_eq_true] at f
    show (eqV _ x || inV x _) = _
    rw [List.any_cons, eqV_dv b a f.1 fd, inV_dv a fd r f.2]
def gIn (neg : Bool) : PyData → PyData → Option PyData := fun x y => match y with
  | .list ds => if (flatD x = true ∧ ds.all flatD = true) ∨ (SeqAt.shaped x = true ∧ SeqAt.shaped (.list ds) = true) then some (.bool (xor neg (ds.any fun z => PyData.eqv z x))) else none
  | .tuple ds => if flatD x = true ∧ ds.all flatD = true then some (.bool (xor neg (ds.any fun z => PyData.eqv z x))) else none
  | _ => none
def rInN (K : PySem.W.Frag) (neg : Bool) : R2 := fun x y H Q => rIn K neg x y H Q ∨ (if neg = true then rNotInD K x y H Q else rInD K x y H Q)
theorem in_sm {neg : Bool} {Hs H : Hp} {x y : V} {dx dy d : PyData} {Q : VK} (e : Same Hs H) (a : Dd K Hs x dx) (b : Dd K Hs y dy) (hf : gIn neg dx dy = some d) (q : ∀ v Hs' H', Grow Hs H Hs' H' → Dd K Hs' v d → Q v H') : rInN K neg x y H Q := by
  cases b with
  | @lst p ys ds h t =>
    obtain ⟨hc, rfl⟩ := ite_some hf
    rcases hc with ⟨c1, c2⟩ | ⟨c1, c2⟩
    · refine .inl ⟨p, ys, rfl, .inl (sqL_of (e _ _ h)), flat_dv a c1, flats_dv t c2, ?_⟩
      rw [inV_dv a c1 t c2]
      cases neg with
      | true => have := q (.bl (xor true (ds.any fun z => PyData.eqv z dx))) Hs H (Grow.refl e) (.bl _); rwa [Bool.true_xor] at this
      | false => have := q (.bl (xor false (ds.any fun z => PyData.eqv z dx))) Hs H (Grow.refl e) (.bl _); rwa [Bool.false_xor] at this
    · refine .inr ?_
      have d1 : Dp K H x dx := (a.mono e).dp (SeqAt.canLay_of_shaped c1)
      have d2 : Dp K H (.ref p) (.list ds) := ((Dd.lst h t : Dd K Hs (.ref p) (.list ds)).mono e).dp (SeqAt.canLay_of_shaped c2)
      cases neg with
      | true => rw [if_pos rfl]; exact ⟨dx, ds, d1, d2, c1, c2, by have := q (.bl (xor true (ds.any fun z => PyData.eqv z dx))) Hs H (Grow.refl e) (.bl _); rwa [Bool.true_xor] at this⟩
      | false => rw [if_neg Bool.false_ne_true]; exact ⟨dx, ds, d1, d2, c1, c2, by have := q (.bl (xor false (ds.any fun z => PyData.eqv z dx))) Hs H (Grow.refl e) (.bl _); rwa [Bool.false_xor] at this⟩
  | @tup p ob ys ds n h t =>
    obtain ⟨⟨c1, c2⟩, rfl⟩ := ite_some hf
    refine .inl ⟨p, ys, rfl, .inr (sqT_of (e _ _ h)), flat_dv a c1, flats_dv t c2, ?_⟩
    rw [inV_dv a c1 t c2]
    cases neg with
    | true => have := q (.bl (xor true (ds.any fun z => PyData.eqv z dx))) Hs H (Grow.refl e) (.bl _); rwa [Bool.true_xor] at this
    | false => have := q (.bl (xor false (ds.any fun z => PyData.eqv z dx))) Hs H (Grow.refl e) (.bl _); rwa [Bool.false_xor] at this
  | _ => cases hf
theorem od_in {k : Nat} (hr : Room k X.A) (hK : X.K = K := by rfl) : OD K X (compareOp .In) (rInN K false) (gIn false) := by
  subst hK
  exact ⟨fun pins s σ H x y v u Q I rx ry h => by
    rcases h with h | h
    · exact op_in_seq pins s σ H x y v u Q I rx ry h
    · rw [if_neg Bool.false_ne_true] at h
      exact op_inD (by have := hr.un; omega) pins s σ H x y v u Q I rx ry h, in_sm⟩
theorem od_notIn {k : Nat} (hr : Room k X.A) (hK : X.K = K := by rfl) : OD K X (compareOp .NotIn) (rInN K true) (gIn true) := by
  subst hK
  exact ⟨fun pins s σ H x y v u Q I rx ry h => by
    rcases h with h | h
    · exact op_notIn_seq pins s σ H x y v u Q I rx ry h
    · rw [if_pos rfl] at h
      exact op_notInD (by have := hr.un; omega) pins s σ H x y v u Q I rx ry h, in_sm⟩
end
end DL

namespace DL
open PySem PySem.Spec PyProof.Rows L2
variable [Tabl]
section
variable {K : PySem.W.Frag} {X : Cx} {M : List Nat} {a b c e : Expr} {es : List Expr} {ta tb tc te : TE} {t u : TT} {fa fb fc f : Fn} {pos p pos' : Pos} {ba : Rho → Option Bool}

/-! ### subscripts, slices -/
def cutA {α : Type} (xs : List α) (lo hi : Option Int) : List α := (xs.drop (HT.sIx xs.length 0 lo)).take (HT.sIx xs.length xs.length hi - HT.sIx xs.length 0 lo)
theorem DdAll.at {H : Hp} {vs : List V} {ds : List PyData} {i : Int} {d : PyData} (t : DdAll K H vs ds) (h : atI ds i = some d) : ∃ v, atI vs i = some v ∧ Dd K H v d := by
  unfold atI at h ⊢
  rw [t.length]
  obtain ⟨j, h1, h2⟩ := bind_some h
  obtain ⟨v, h3, h4⟩ := t.get h2
  exact ⟨v, by rw [h1]; exact h3, h4⟩
theorem DdAll.cut {H : Hp} {vs : List V} {ds : List PyData} (t : DdAll K H vs ds) (lo hi : Option Int) : DdAll K H (cutV vs lo hi) (cutA ds lo hi) := by
  unfold cutV cutA
  rw [t.length]
  exact (t.drop _).take _
theorem scr_fst (ns : List Int) : (scrK ns).map (·.1) = ns.map PyData.int := by
  unfold scrK
  rw [List.map_map]
  rfl
def gIx : PyData → PyData → Option PyData := fun x y => match y with
  | .int i => (match x with
    | .list ds => atI ds i
    | .tuple ds => atI ds i
    | .dict kvs => atI (kvs.map (·.1)) i
    | .str z => if z.length ≤ 1000000 then (atI z.cps.toList i).map fun c => .str ⟨#[c]⟩ else none
    | _ => none)
  | _ => none
@[simp] theorem gIx_list (ds : List PyData) (i : Int) : gIx (.list ds) (.int i) = atI ds i := rfl
@[simp] theorem gIx_tuple (ds : List PyData) (i : Int) : gIx (.tuple ds) (.int i) = atI ds i := rfl
@[simp] theorem gIx_scr (kvs : List (PyData × PyData)) (i : Int) : gIx (.dict kvs) (.int i) = atI (kvs.map (·.1)) i := rfl
theorem ix_sm {Hs H : Hp} {x y : V} {dx dy d : PyData} {Q : VK} (e : Same Hs H) (a : Dd K Hs x dx) (b : Dd K Hs y dy) (hf : gIx dx dy = some d) (q : ∀ v Hs' H', Grow Hs H Hs' H' → Dd K Hs' v d → Q v H') : rIx K x y H Q := by
  cases b with
  | int i =>
    cases a with
    | @lst p xs ds h t =>
      obtain ⟨v, h1, h2⟩ := t.at hf
      exact .inl ⟨p, xs, i, v, rfl, rfl, sqL_of (e _ _ h), h1, q v Hs H (Grow.refl e) h2⟩
    | @tup p ob xs ds n h t =>
      obtain ⟨v, h1, h2⟩ := t.at hf
      exact .inr (.inl ⟨p, xs, i, v, rfl, rfl, sqT_of (e _ _ h), h1, q v Hs H (Grow.refl e) h2⟩)
    | @scr p ns h =>
      have hf : atI ((scrK ns).map (·.1)) i = some d := hf
      rw [scr_fst] at hf
      obtain ⟨v, h1, h2⟩ := (DdAll.ints (K := K) (H := Hs) ns).at hf
      exact .inl ⟨p, _, i, v, rfl, rfl, e.seq h, h1, q v Hs H (Grow.refl e) h2⟩
    | str z =>
      have hf : (if z.length ≤ 1000000 then (atI z.cps.toList i).map fun c => PyData.str ⟨#[c]⟩ else none) = some d := hf
      by_cases hl : z.length ≤ 1000000
      · rw [if_pos hl] at hf
        cases h1 : atI z.cps.toList i with
        | none => rw [h1] at hf; cases hf
        | some c =>
          rw [h1] at hf
          cases hf
          exact .inr (.inr ⟨z, i, c, rfl, rfl, szM hl, h1, q _ Hs H (Grow.refl e) (.str _)⟩)
      · rw [if_neg hl] at hf; cases hf
    | _ => cases hf
  | _ => cases hf
theorem ed_ix (ha : ED K X M a ta fa) (hb : ED K X M b tb fb) (hK : X.K = K := by rfl) (hs : PlainIx b := by exact fun _ _ => rfl) : ED K X M (.Subscript a b pos) (tOp (rIx K) ta tb) (f2 gIx fa fb) := by
  subst hK
  exact ⟨pe_ix ix_seq ha.pe hb.pe hs, fun R hf q => two_sm ix_sm ha hb R hf q⟩

structure PD (K : PySem.W.Frag) (X : Cx) (M : List Nat) (e : Option Expr) (t : TO) (f : Rho → Option (Option Int)) : Prop where
  po : PO X e t
  sm : ∀ {Hs0 H0 Hs H : Hp} {σ : L2.St} {ρ : Rho} {o : Option Int} {Q : Option Int → Hp → Prop}, SR K M Hs0 H0 Hs H σ ρ → f ρ = some o → (∀ Hs' H', Grow Hs H Hs' H' → Q o H') → t σ H Q
@[simp] def pNone : Rho → Option (Option Int) := fun _ => some none
@[simp] def pSome (f : Fn) : Rho → Option (Option Int) := fun ρ => (f ρ).bind fun d => match d with
  | .int i => some (some i)
  | _ => none
theorem pd_none : PD K X M none tNoPart pNone := ⟨po_none, fun {Hs0 H0 Hs H σ ρ o Q} R hf q => by cases hf; exact q Hs H (Grow.refl R.sub)⟩
theorem pd_some (h : ED K X M e te f) : PD K X M (some e) (tPart te) (pSome f) :=
  ⟨po_some h.pe, fun {Hs0 H0 Hs H σ ρ o Q} R hf q => by
    obtain ⟨d, h1, h2⟩ := bind_some hf
    refine h.sm R h1 fun v Hs1 H1 g1 d1 => ?_
    cases d1 <;> first
      | (cases h2; done)
      | (obtain rfl := Option.some.inj h2
         exact ⟨_, rfl, q Hs1 H1 g1⟩)⟩
def rSlN (K : PySem.W.Frag) : V → Option Int → Option Int → Hp → VK → Prop := fun x lo hi H Q => ∃ a xs, x = .ref a ∧ SqT K H a xs ∧
  (HT.sIx xs.length 0 lo = 0 ∧ HT.sIx xs.length xs.length hi = xs.length → Q (.ref a) H) ∧ (¬ (HT.sIx xs.length 0 lo = 0 ∧ HT.sIx xs.length xs.length hi = xs.length) → NewT Q H (cutV xs lo hi))
theorem sl_tupN : SlR X (rSlN X.K) := by
  intro pins s σ H x v vl vu lo hi sl Q I rx hs pl pu h
  obtain ⟨a, xs, rfl, hx, q1, q2⟩ := h
  cases rx
  obtain ⟨its, r, ht, hz⟩ := I.tuple hx
  have hlen : its.toArray.size = xs.length := by rw [List.size_toArray]; exact r.length.symm
  by_cases hw : HT.sIx xs.length 0 lo = 0 ∧ HT.sIx xs.length xs.length hi = xs.length
  · refine ⟨"tuple", _, PyProof.Rows.slot_tuple_getitem.lookup, ht.typeIs, ?_⟩
    exact getItem_tuple_whole ht hs pl pu (by rw [hlen]; exact hw) ⟨.ref a, H, I, rfl, q1 hw⟩
  · refine ⟨"tuple", _, PyProof.Rows.slot_tuple_getitem.lookup, ht.typeIs, ?_⟩
    refine HT.getItem_tuple_cut ht hs pl pu (by rw [hlen]; exact hw) ?_ (by rw [hlen]; exact hz)
    rw [hlen]
    exact ⟨.ref s.heap.objs.size, _, Inv.tupN (t' := s.toks) I ((r.drop (HT.sIx xs.length 0 lo)).take (HT.sIx xs.length xs.length hi - HT.sIx xs.length 0 lo)) (Nat.le_trans (cutV_length xs lo hi) hz), rfl, q2 hw _ _ rfl (I.hok.fresh (Nat.le_refl _))⟩
def rSlD (K : PySem.W.Frag) : V → Option Int → Option Int → Hp → VK → Prop := fun x lo hi H Q => rSlL K x lo hi H Q ∨ rSlN K x lo hi H Q ∨ rSlS x lo hi H Q
@[simp] def gSl (x : PyData) (lo hi : Option Int) : Option PyData := match x with
  | .list ds => some (.list (cutA ds lo hi))
  | .tuple ds => some (.tuple (cutA ds lo hi))
  | .dict kvs => some (.list (cutA (kvs.map (·.1)) lo hi))
  | .str z => if z.length ≤ 1000000 then some (.str (cutS z lo hi)) else none
  | _ => none
@[simp] def fSl (f : Fn) (fl fh : Rho → Option (Option Int)) : Fn := fun ρ => (f ρ).bind fun x => (fl ρ).bind fun lo => (fh ρ).bind fun hi => gSl x lo hi
theorem newL {Q : VK} {Hs Hs1 H H1 : Hp} {vs : List V} {ds : List PyData} (g1 : Grow Hs H Hs1 H1) (d1 : DdAll K Hs1 vs ds) (q : ∀ v Hs' H', Grow Hs H Hs' H' → Dd K Hs' v (.list ds) → Q v H') : ∀ p, H1 p = none → Q (.ref p) (upd H1 p (.lst vs)) := fun p hp => by
  have g2 : Grow Hs1 H1 (upd Hs1 p (.lst vs)) (upd H1 p (.lst vs)) := Grow.alloc g1.sub hp
  exact q _ _ _ (g1.trans g2) (.lst upd_same (d1.mono g2.exs))
theorem cutA_whole {α : Type} {xs : List α} {lo hi : Option Int} (h : HT.sIx xs.length 0 lo = 0 ∧ HT.sIx xs.length xs.length hi = xs.length) : cutA xs lo hi = xs := by
  unfold cutA
  rw [h.1, h.2, List.drop_zero, Nat.sub_zero, List.take_length]
theorem ed_sl {lo hi : Option Expr} {tl th : TO} {fl fh : Rho → Option (Option Int)} {p2 : Pos} (he : ED K X M e te f) (hl : PD K X M lo tl fl) (hh : PD K X M hi th fh) (hK : X.K = K := by rfl) :
    ED K X M (.Subscript e (.Slice lo hi none p2) pos) (tSl (rSlD K) te tl th) (fSl f fl fh) := by
  subst hK
  refine ⟨pe_slice (sl_list.or (sl_tupN.or sl_str)) he.pe hl.po hh.po, fun {Hs0 H0 Hs H σ ρ d Q} R hf q => ?_⟩
  obtain ⟨x, h1, hf⟩ := bind_some hf
  obtain ⟨l, h2, hf⟩ := bind_some hf
  obtain ⟨h, h3, hf⟩ := bind_some hf
  refine he.sm R h1 fun v Hs1 H1 g1 d1 => ?_
  refine hl.sm (R.grow g1) h2 fun Hs2 H2 g2 => ?_
  refine hh.sm ((R.grow g1).grow g2) h3 fun Hs3 H3 g3 => ?_
  have g := (g1.trans g2).trans g3
  have d3 := (d1.mono g2.exs).mono g3.exs
  cases d3 with
  | @lst p xs ds hp t =>
    obtain rfl := Option.some.inj hf
    exact .inl ⟨p, xs, rfl, sqL_of (g3.sub _ _ hp), newL g (t.cut l h) q⟩
  | @scr p ns hp =>
    have hf : some (PyData.list (cutA ((scrK ns).map (·.1)) l h)) = some d := hf
    rw [scr_fst] at hf
    obtain rfl := Option.some.inj hf
    exact .inl ⟨p, _, rfl, g3.sub.seq hp, newL g ((DdAll.ints (K := X.K) (H := Hs3) ns).cut l h) q⟩
  | @tup p ob xs ds n hp t =>
    obtain rfl := Option.some.inj hf
    refine .inr (.inl ⟨p, xs, rfl, sqT_of (g3.sub _ _ hp), fun z => ?_, fun _ => NewT.of g (t.cut l h) q⟩)
    rw [t.length] at z
    rw [cutA_whole z] at q
    exact q _ Hs3 H3 g (.tup n hp t)
  | str z =>
    obtain ⟨hl, rfl⟩ := ite_some hf
    exact .inr (.inr ⟨z, rfl, szM hl, q _ Hs3 H3 g (.str _)⟩)
  | _ => cases hf

/-! ### built-ins -/
structure BD (K : PySem.W.Frag) (X : Cx) (fv : Value) (r : List V → Hp → VK → Prop) (g : List PyData → Option PyData) : Prop where
  cr : CallR X fv r
  sm : ∀ {Hs H : Hp} {xs : List V} {ds : List PyData} {d : PyData} {Q : VK}, Same Hs H → DdAll K Hs xs ds → g ds = some d → (∀ v Hs' H', Grow Hs H Hs' H' → Dd K Hs' v d → Q v H') → r xs H Q
@[simp] def fBi (g : List PyData → Option PyData) (fa : Rho → Option (List PyData)) : Fn := fun ρ => (fa ρ).bind g
variable {tr : TA} {fr : Rho → Option (List PyData)} {x : Str} {r : List V → Hp → VK → Prop} {g : List PyData → Option PyData} {id T : String}
theorem bi_sm {fv : Value} (h : BD K X fv r g) (ha : AD K X M es tr fr) {Hs0 H0 Hs H : Hp} {σ : L2.St} {ρ : Rho} {d : PyData} {Q : VK} (R : SR K M Hs0 H0 Hs H σ ρ) (hf : fBi g fr ρ = some d) (q : ∀ v Hs' H', Grow Hs H Hs' H' → Dd K Hs' v d → Q v H') : tCB r tr σ H Q := by
  obtain ⟨ds, h1, h2⟩ := bind_some hf
  exact ha.sm R h1 fun vs Hs1 H1 g1 d1 => h.sm g1.sub d1 h2 fun v Hs2 H2 g2 d2 => q v Hs2 H2 (g1.trans g2) d2
theorem ed_bi (h : BD K X (.builtin id) r g) (hm : X.mg x = none) (hv : bootBuiltins x = some (.builtin id)) (ha : AD K X M (e :: es) tr fr) (hg : Gl X x := by rfl) (hn : x ≠ "__name__" := by decide) (hdb : (x == ("__debug__" : Str)) = false := by decide)
    (he : starEach (e :: es) X.env = (false, eval e X.env) :: starEach es X.env := by rfl) (hpl : (backTo pos (starEach es X.env)).any (·.1) = false := by rfl) : ED K X M (.Call (.Name x p) (e :: es) [] pos) (tCB r tr) (fBi g fr) :=
  ⟨pe_callB h.cr hg hm hv ha.pa hn hdb he hpl, fun R hf q => bi_sm h ha R hf q⟩
theorem ed_ty (h : BD K X (.type T) r g) (hm : X.mg x = none) (hv : bootBuiltins x = some (.type T)) (ha : AD K X M (e :: es) tr fr) (hg : Gl X x := by rfl) (hn : x ≠ "__name__" := by decide) (hdb : (x == ("__debug__" : Str)) = false := by decide)
    (he : starEach (e :: es) X.env = (false, eval e X.env) :: starEach es X.env := by rfl) (hpl : (backTo pos (starEach es X.env)).any (·.1) = false := by rfl) : ED K X M (.Call (.Name x p) (e :: es) [] pos) (tCB r tr) (fBi g fr) :=
  ⟨pe_callTy h.cr hg hm hv ha.pa hn hdb he hpl, fun R hf q => bi_sm h ha R hf q⟩
theorem all1 {H : Hp} {xs : List V} {d : PyData} (h : DdAll K H xs [d]) : ∃ v, xs = [v] ∧ Dd K H v d := by
  cases h with
  | cons a r => cases r; exact ⟨_, rfl, a⟩
theorem all2 {H : Hp} {xs : List V} {d d' : PyData} (h : DdAll K H xs [d, d']) : ∃ v w, xs = [v, w] ∧ Dd K H v d ∧ Dd K H w d' := by
  cases h with
  | cons a r =>
    obtain ⟨w, rfl, b⟩ := all1 r
    exact ⟨_, _, rfl, a, b⟩
@[simp] def gLen : List PyData → Option PyData := fun xs => match xs with
  | [.str z] => if z.length ≤ 1000000 then some (.int z.length) else none
  | [.list ds] => some (.int ds.length)
  | [.tuple ds] => some (.int ds.length)
  | [.dict kvs] => some (.int kvs.length)
  | _ => none
theorem bd_len (hK : X.K = K := by rfl) : BD K X (.builtin "len") (fun xs H Q => ∃ x n, xs = [x] ∧ LenV K x H n ∧ Q (.int n) H) gLen := by
  subst hK
  refine ⟨call_len, fun {Hs H xs ds d Q} e h hf q => ?_⟩
  unfold gLen at hf
  split at hf
  · obtain ⟨v, rfl, a⟩ := all1 h
    obtain ⟨hl, rfl⟩ := ite_some hf
    cases a
    exact ⟨_, _, rfl, ⟨szM hl, rfl⟩, q _ Hs H (Grow.refl e) (.int _)⟩
  · obtain ⟨v, rfl, a⟩ := all1 h
    obtain rfl := Option.some.inj hf
    cases a with
    | lst hp t => exact ⟨_, _, rfl, .inl ⟨_, sqL_of (e _ _ hp), rfl⟩, by rw [t.length]; exact q _ Hs H (Grow.refl e) (.int _)⟩
  · obtain ⟨v, rfl, a⟩ := all1 h
    obtain rfl := Option.some.inj hf
    cases a with
    | tup n hp t => exact ⟨_, _, rfl, .inr ⟨_, sqT_of (e _ _ hp), rfl⟩, by rw [t.length]; exact q _ Hs H (Grow.refl e) (.int _)⟩
  · obtain ⟨v, rfl, a⟩ := all1 h
    obtain rfl := Option.some.inj hf
    cases a with
    | @scr p ns hp => exact ⟨_, _, rfl, .inl ⟨_, e.seq hp, rfl⟩, by
        have := q (.int ((scrK ns).length : Nat)) Hs H (Grow.refl e) (.int _)
        unfold scrK at this
        rw [List.length_map] at this ⊢
        exact this⟩
  · cases hf
/-- tuple(list), tuple(tuple) -/
theorem call_tupN : CallR X (.type "tuple") (fun xs H Q => ∃ p ys, xs = [.ref p] ∧ ((SqL X.K H p ys ∧ NewT Q H ys) ∨ (SqT X.K H p ys ∧ Q (.ref p) H))) := by
  intro pins s σ H xs us Q I r h
  obtain ⟨p, ys, rfl, h⟩ := h
  obtain ⟨u, rfl, rx⟩ := vals1 r
  cases rx
  rcases h with ⟨hq, q⟩ | ⟨hq, q⟩
  · obtain ⟨its, r', pl, hz⟩ := I.list hq
    have hlen := r'.length
    refine call_tuple_list pl.isList (fun h' kp => ?_) (by simp only [List.size_toArray] <;> omega)
    have I1 : Inv X pins σ H { s with heap := h' } := I.kept (t' := s.toks) kp
    exact ⟨.ref h'.objs.size, _, Inv.tupN (s := { s with heap := h' }) (t' := s.toks) I1 r' hz, rfl, q _ _ rfl (I1.hok.fresh (Nat.le_refl _))⟩
  · obtain ⟨its, r', pl, hz⟩ := I.tuple hq
    exact call_tuple_same pl ⟨.ref p, H, I, rfl, q⟩
@[simp] def gTuple : List PyData → Option PyData := fun xs => match xs with
  | [.list ds] => some (.tuple ds)
  | [.tuple ds] => some (.tuple ds)
  | _ => none
theorem bd_tuple (hK : X.K = K := by rfl) : BD K X (.type "tuple") (fun xs H Q => ∃ p ys, xs = [.ref p] ∧ ((SqL K H p ys ∧ NewT Q H ys) ∨ (SqT K H p ys ∧ Q (.ref p) H))) gTuple := by
  subst hK
  refine ⟨call_tupN, fun {Hs H xs ds d Q} e h hf q => ?_⟩
  unfold gTuple at hf
  split at hf
  · obtain ⟨v, rfl, a⟩ := all1 h
    obtain rfl := Option.some.inj hf
    cases a with
    | lst hp t => exact ⟨_, _, rfl, .inl ⟨sqL_of (e _ _ hp), NewT.of (Grow.refl e) t q⟩⟩
  · obtain ⟨v, rfl, a⟩ := all1 h
    obtain rfl := Option.some.inj hf
    cases a with
    | tup n hp t => exact ⟨_, _, rfl, .inr ⟨sqT_of (e _ _ hp), q _ Hs H (Grow.refl e) (.tup n hp t)⟩⟩
  · cases hf
@[simp] def gListOf : List PyData → Option PyData := fun xs => match xs with
  | [.list ds] => some (.list ds)
  | [.tuple ds] => some (.list ds)
  | _ => none
theorem bd_list (hK : X.K = K := by rfl) : BD K X (.type "list") (fun xs H Q => ∃ p ys, xs = [.ref p] ∧ (SqL K H p ys ∨ SqT K H p ys) ∧ ∀ l, H l = none → Q (.ref l) (upd H l (.lst ys))) gListOf := by
  subst hK
  refine ⟨call_list_of, fun {Hs H xs ds d Q} e h hf q => ?_⟩
  unfold gListOf at hf
  split at hf
  · obtain ⟨v, rfl, a⟩ := all1 h
    obtain rfl := Option.some.inj hf
    cases a with
    | lst hp t => exact ⟨_, _, rfl, .inl (sqL_of (e _ _ hp)), newL (Grow.refl e) t q⟩
  · obtain ⟨v, rfl, a⟩ := all1 h
    obtain rfl := Option.some.inj hf
    cases a with
    | tup n hp t => exact ⟨_, _, rfl, .inr (sqT_of (e _ _ hp)), newL (Grow.refl e) t q⟩
  · cases hf
/-- all of truths -/
@[simp] def bools : List PyData → Option (List Bool)
  | [] => some []
  | .bool b :: r => (bools r).map (b :: ·)
  | _ => none
theorem bools_dv {H : Hp} : ∀ {vs : List V} {ds : List PyData} {bs : List Bool}, DdAll K H vs ds → bools ds = some bs → vs = bs.map V.bl
  | _, _, _, .nil, h => by cases h; rfl
  | _, _, bs, .cons a r, h => by
    cases a <;> first
      | (cases h; done)
      | (rename_i b
         unfold bools at h
         cases h1 : bools _ with
         | none => rw [h1] at h; cases h
         | some cs =>
           rw [h1] at h
           cases h
           rw [bools_dv r h1]
           rfl)
@[simp] def gAll : List PyData → Option PyData := fun xs => match xs with
  | [.list ds] => (bools ds).map fun bs => .bool (bs.all _root_.id)
  | _ => none
theorem bd_all (hc : X.calm = true := by rfl) (hK : X.K = K := by rfl) : BD K X (.builtin "all") (rAll K) gAll := by
  subst hK
  refine ⟨cr_all hc, fun {Hs H xs ds d Q} e h hf q => ?_⟩
  unfold gAll at hf
  split at hf
  · obtain ⟨v, rfl, a⟩ := all1 h
    cases h1 : bools _ with
    | none => rw [h1] at hf; cases hf
    | some bs =>
      rw [h1] at hf
      cases hf
      cases a with
      | lst hp t =>
        have := bools_dv t h1
        subst this
        exact ⟨_, bs, rfl, sqL_of (e _ _ hp), q _ Hs H (Grow.refl e) (.bl _)⟩
  · cases hf
/-- ints of a list -/
@[simp] def intsD : List PyData → Option (List Int)
  | [] => some []
  | .int b :: r => (intsD r).map (b :: ·)
  | _ => none
theorem ints_dv {H : Hp} : ∀ {vs : List V} {ds : List PyData} {bs : List Int}, DdAll K H vs ds → intsD ds = some bs → vs = bs.map V.int
  | _, _, _, .nil, h => by cases h; rfl
  | _, _, bs, .cons a r, h => by
    cases a <;> first
      | (cases h; done)
      | (rename_i b
         unfold intsD at h
         cases h1 : intsD _ with
         | none => rw [h1] at h; cases h
         | some cs =>
           rw [h1] at h
           cases h
           rw [ints_dv r h1]
           rfl)
theorem intsD_map : ∀ ns : List Int, intsD (ns.map PyData.int) = some ns
  | [] => rfl
  | n :: ns => by
    rw [List.map_cons]
    unfold intsD
    rw [intsD_map ns]
    rfl
@[simp] def gMin2 : List PyData → Option PyData := fun xs => match xs with
  | [.int i, .int j] => some (.int (if j < i then j else i))
  | _ => none
@[simp] def gMax2 : List PyData → Option PyData := fun xs => match xs with
  | [.int i, .int j] => some (.int (if j > i then j else i))
  | _ => none
theorem bd_min2 (hc : X.calm = true := by rfl) : BD K X (.builtin "min") (fun xs H Q => ∃ i j, xs = [.int i, .int j] ∧ Q (.int (if j < i then j else i)) H) gMin2 :=
  ⟨call_min2 hc, fun {Hs H xs ds d Q} e h hf q => by
    unfold gMin2 at hf
    split at hf
    · obtain ⟨v, w, rfl, a, b⟩ := all2 h
      cases a; cases b
      obtain rfl := Option.some.inj hf
      exact ⟨_, _, rfl, q _ Hs H (Grow.refl e) (.int _)⟩
    · cases hf⟩
theorem bd_max2 (hc : X.calm = true := by rfl) : BD K X (.builtin "max") (fun xs H Q => ∃ i j, xs = [.int i, .int j] ∧ Q (.int (if j > i then j else i)) H) gMax2 :=
  ⟨call_max2 hc, fun {Hs H xs ds d Q} e h hf q => by
    unfold gMax2 at hf
    split at hf
    · obtain ⟨v, w, rfl, a, b⟩ := all2 h
      cases a; cases b
      obtain rfl := Option.some.inj hf
      exact ⟨_, _, rfl, q _ Hs H (Grow.refl e) (.int _)⟩
    · cases hf⟩
/-- the greatest, the least of a list of ints -/
def maxI : List Int → Int
  | [] => 0
  | [a] => a
  | a :: b :: r => max a (maxI (b :: r))
def minI : List Int → Int
  | [] => 0
  | [a] => a
  | a :: b :: r => min a (minI (b :: r))
theorem maxI_spec : ∀ {l : List Int}, l ≠ [] → maxI l ∈ l ∧ ∀ y ∈ l, y ≤ maxI l
  | [a], _ => by simp [maxI]
  | a :: b :: r, _ => by
    obtain ⟨h1, h2⟩ := maxI_spec (l := b :: r) (by simp)
    unfold maxI
    refine ⟨?_, fun y hy => ?_⟩
    · by_cases h : a ≤ maxI (b :: r)
      · rw [Int.max_eq_right h]; exact List.mem_cons_of_mem _ h1
      · rw [Int.max_eq_left (by omega)]; exact List.mem_cons_self
    · rcases List.mem_cons.mp hy with rfl | hy
      · exact Int.le_max_left _ _
      · exact Int.le_trans (h2 y hy) (Int.le_max_right _ _)
theorem minI_spec : ∀ {l : List Int}, l ≠ [] → minI l ∈ l ∧ ∀ y ∈ l, minI l ≤ y
  | [a], _ => by simp [minI]
  | a :: b :: r, _ => by
    obtain ⟨h1, h2⟩ := minI_spec (l := b :: r) (by simp)
    unfold minI
    refine ⟨?_, fun y hy => ?_⟩
    · by_cases h : minI (b :: r) ≤ a
      · rw [Int.min_eq_right h]; exact List.mem_cons_of_mem _ h1
      · rw [Int.min_eq_left (by omega)]; exact List.mem_cons_self
    · rcases List.mem_cons.mp hy with rfl | hy
      · exact Int.min_le_left _ _
      · exact Int.le_trans (Int.min_le_right _ _) (h2 y hy)
@[simp] def gMaxL : List PyData → Option PyData := fun xs => match xs with
  | [.list ds] => (intsD ds).bind fun ns => if ns ≠ [] then some (.int (maxI ns)) else none
  | _ => none
@[simp] def gMinL : List PyData → Option PyData := fun xs => match xs with
  | [.list ds] => (intsD ds).bind fun ns => if ns ≠ [] then some (.int (minI ns)) else none
  | _ => none
theorem bd_maxL (hc : X.calm = true := by rfl) (hK : X.K = K := by rfl) : BD K X (.builtin "max") (rMax K) gMaxL := by
  subst hK
  refine ⟨cr_max hc, fun {Hs H xs ds d Q} e h hf q => ?_⟩
  unfold gMaxL at hf
  split at hf
  · obtain ⟨v, rfl, a⟩ := all1 h
    obtain ⟨ns, h1, h2⟩ := bind_some hf
    obtain ⟨hne, rfl⟩ := ite_some h2
    cases a with
    | lst hp t =>
      have := ints_dv t h1
      subst this
      refine ⟨_, ns, rfl, sqL_of (e _ _ hp), List.length_pos_iff.mpr hne, fun m hm hle => ?_⟩
      obtain ⟨s1, s2⟩ := maxI_spec hne
      have : m = maxI ns := Int.le_antisymm (s2 m hm) (hle _ s1)
      rw [this]
      exact q _ Hs H (Grow.refl e) (.int _)
  · cases hf
theorem bd_minL (hc : X.calm = true := by rfl) (hK : X.K = K := by rfl) : BD K X (.builtin "min") (rMin K) gMinL := by
  subst hK
  refine ⟨cr_min hc, fun {Hs H xs ds d Q} e h hf q => ?_⟩
  unfold gMinL at hf
  split at hf
  · obtain ⟨v, rfl, a⟩ := all1 h
    obtain ⟨ns, h1, h2⟩ := bind_some hf
    obtain ⟨hne, rfl⟩ := ite_some h2
    cases a with
    | lst hp t =>
      have := ints_dv t h1
      subst this
      refine ⟨_, ns, rfl, sqL_of (e _ _ hp), List.length_pos_iff.mpr hne, fun m hm hle => ?_⟩
      obtain ⟨s1, s2⟩ := minI_spec hne
      have : m = minI ns := Int.le_antisymm (hle _ s1) (s2 m hm)
      rw [this]
      exact q _ Hs H (Grow.refl e) (.int _)
  · cases hf
@[simp] def gSum : List PyData → Option PyData := fun xs => match xs with
  | [.list ds] => (intsD ds).map fun ns => .int ns.sum
  | _ => none
theorem bd_sum (hc : X.calm = true := by rfl) (hK : X.K = K := by rfl) : BD K X (.builtin "sum") (rSum K) gSum := by
  subst hK
  refine ⟨cr_sum hc, fun {Hs H xs ds d Q} e h hf q => ?_⟩
  unfold gSum at hf
  split at hf
  · obtain ⟨v, rfl, a⟩ := all1 h
    cases h1 : intsD _ with
    | none => rw [h1] at hf; cases hf
    | some ns =>
      rw [h1] at hf
      cases hf
      cases a with
      | lst hp t =>
        have := ints_dv t h1
        subst this
        exact ⟨_, ns, rfl, sqL_of (e _ _ hp), q _ Hs H (Grow.refl e) (.int _)⟩
  · cases hf
@[simp] def gStr : List PyData → Option PyData := fun xs => match xs with
  | [.int i] => if i.natAbs.log2 < 1920 then some (.str (toString i)) else none
  | _ => none
theorem bd_str : BD K X (.type "str") (fun xs H Q => ∃ i : Int, xs = [.int i] ∧ i.natAbs.log2 < 1920 ∧ Q (.str (toString i)) H) gStr :=
  ⟨call_str_int, fun {Hs H xs ds d Q} e h hf q => by
    unfold gStr at hf
    split at hf
    · obtain ⟨v, rfl, a⟩ := all1 h
      cases a
      obtain ⟨hl, rfl⟩ := ite_some hf
      exact ⟨_, rfl, hl, q _ Hs H (Grow.refl e) (.str _)⟩
    · cases hf⟩
/-- isinstance(x, T), T one built-in type -/
@[simp] def tyD : PyData → String
  | .none => "NoneType"
  | .bool _ => "bool"
  | .int _ => "int"
  | .str _ => "str"
  | .list _ => "list"
  | .tuple _ => "tuple"
  | .dict _ => "list"
@[simp] def gIsi (T : String) : PyData → Option PyData := fun x => match x with
  | .dict _ => none
  | x => (kitB (tyD x) T).map .bool
theorem ed_isi {T : String} {x : Str} {p1 p2 : Pos} (ha : ED K X M a ta fa) (hm : X.mg "isinstance" = none) (hmT : X.mg x = none) (hvT : bootBuiltins x = some (.type T)) (hg : Gl X "isinstance" := by rfl) (hgT : Gl X x := by rfl) (hK : X.K = K := by rfl)
    (hn : x ≠ "__name__" := by decide) (hdb : (x == ("__debug__" : Str)) = false := by decide)
    (hs1 : starEach [a, .Name x p2] X.env = (false, eval a X.env) :: starEach [.Name x p2] X.env := by rfl) (hs2 : starEach [.Name x p2] X.env = (false, eval (.Name x p2) X.env) :: starEach [] X.env := by rfl) (hpl : (backTo pos (starEach [.Name x p2] X.env)).any (·.1) = false := by rfl) :
    ED K X M (.Call (.Name "isinstance" p1) [a, .Name x p2] [] pos) (tCB (rIsi K) (tCons ta (tCons (tC (.ty T)) tNil))) (f1 (gIsi T) fa) := by
  subst hK
  refine ⟨pe_callB call_isi hg hm boot_isinstance (pa_cons ha.pe (pa_cons (pe_bltn hgT hmT hvT rfl hn hdb) pa_nil hs2) hs1) (by decide) (by decide) hs1 hpl, fun {Hs0 H0 Hs H σ ρ d Q} R hf q => ?_⟩
  obtain ⟨dx, h1, h2⟩ := bind_some hf
  refine ha.sm R h1 fun v Hs1 H1 g1 d1 => ?_
  have key : ∀ {ty : String} {b : Bool}, kitB ty T = some b → TyX X.K H1 v (.type ty) → Q (.bl b) H1 → rIsi X.K [v, .ty T] H1 Q := fun hk ht hq => ⟨v, .ty T, _, _, _, rfl, .ty T, ht, kit_ty hk, hq⟩
  cases d1 with
  | non => cases hk : kitB "NoneType" T with
    | none => simp [gIsi, tyD, hk] at h2
    | some b => simp [gIsi, tyD, hk] at h2; subst h2; exact key hk (.base .non) (q _ Hs1 H1 g1 (.bl _))
  | bl k => cases hk : kitB "bool" T with
    | none => simp [gIsi, tyD, hk] at h2
    | some b => simp [gIsi, tyD, hk] at h2; subst h2; exact key hk (.base (.bl _)) (q _ Hs1 H1 g1 (.bl _))
  | int k => cases hk : kitB "int" T with
    | none => simp [gIsi, tyD, hk] at h2
    | some b => simp [gIsi, tyD, hk] at h2; subst h2; exact key hk (.base (.int _)) (q _ Hs1 H1 g1 (.bl _))
  | str k => cases hk : kitB "str" T with
    | none => simp [gIsi, tyD, hk] at h2
    | some b => simp [gIsi, tyD, hk] at h2; subst h2; exact key hk (.base (.str _)) (q _ Hs1 H1 g1 (.bl _))
  | lst hp t => cases hk : kitB "list" T with
    | none => simp [gIsi, tyD, hk] at h2
    | some b => simp [gIsi, tyD, hk] at h2; subst h2; exact key hk (.base (.lst (g1.sub _ _ hp))) (q _ Hs1 H1 g1 (.bl _))
  | tup n hp t => cases hk : kitB "tuple" T with
    | none => simp [gIsi, tyD, hk] at h2
    | some b => simp [gIsi, tyD, hk] at h2; subst h2; exact key hk (.fTuple (g1.sub _ _ hp)) (q _ Hs1 H1 g1 (.bl _))
  | scr hp => simp [gIsi] at h2

/-! ### calls of own defs -/
def spX (K : PySem.W.Frag) (n : Nat) (xc : Nat → Addr) (φ : List PyData → Option (Except Nat PyData)) : Sp := fun vs H Q E => vs.length = n ∧ ∃ Hs ds r, Same Hs H ∧ TB Hs H ∧ DdAll K Hs vs ds ∧ φ ds = some r ∧
  match r with
  | .ok d => ∀ v Hs' H', Grow Hs H Hs' H' → Dd K Hs' v d → Q v H'
  | .error c => ∀ H', Grow Hs H Hs H' → E (.ref (xc c)) none H'
@[simp] def fCall (φ : List PyData → Option (Except Nat PyData)) (fa : Rho → Option (List PyData)) : Fn := fun ρ => (fa ρ).bind fun ds => (φ ds).bind fun r => match r with
  | .ok d => some d
  | .error _ => none
theorem AD.len : ∀ {es : List Expr} {tr : TA} {fr : Rho → Option (List PyData)} {ρ : Rho} {ds : List PyData} (n : Nat), fr ρ = some ds → ds.length = n → ds.length = n := fun _ _ h => h
theorem ed_call {k n : Nat} {fA : Addr} {fd : FuncData} {ps : List Str} {xc : Nat → Addr} {φ : List PyData → Option (Except Nat PyData)} (F : FnOk X.prog X.w X.K X.mg X.base (L2.CX X.prog X.w) k fA fd ps (spX K n xc φ)) (hr : Room k X.A) (hm : X.mg x = some (.ref fA))
    (hk : PySem.W.keepIn X.K (.ref fA) = true) (hb : Binds X.K fd ps []) (hn : ∀ ds r, φ ds = some r → ds.length = n) (ha : AD K X M (e :: es) tr fr) (hg : Gl X x := by rfl) (hdb : (x == ("__debug__" : Str)) = false := by decide) (he : starEach (e :: es) X.env = (false, eval e X.env) :: starEach es X.env := by rfl)
    (hpl : (backTo pos (starEach es X.env)).any (·.1) = false := by rfl) : ED K X M (.Call (.Name x p) (e :: es) [] pos) (tCall (spX K n xc φ) [] E0 tr) (fCall φ fr) :=
  ⟨pe_call F hr hg hm hk hb .nil passL ha.pa hdb he hpl, fun {Hs0 H0 Hs H σ ρ d Q} R hf q => by
    obtain ⟨ds, h1, h2⟩ := bind_some hf
    obtain ⟨r, h2, h3⟩ := bind_some h2
    refine ha.sm R h1 fun vs Hs1 H1 g1 d1 => ?_
    show spX K n xc φ (vs ++ []) H1 Q E0
    rw [List.append_nil]
    refine ⟨by rw [d1.length]; exact hn _ _ h2, Hs1, ds, r, g1.sub, (R.grow g1).tb, d1, h2, ?_⟩
    cases r with
    | error c => cases h3
    | ok d' =>
      obtain rfl := Option.some.inj h3
      exact fun v Hs2 H2 g2 d2 => q v Hs2 H2 (g1.trans g2) d2⟩
end
end DL

namespace DL
open PySem PySem.Spec PyProof.Rows L2
variable [Tabl]
abbrev YR := Hp → V → PyData → Prop
/-- a pair that an iterator makes -/
def Dy (K : PySem.W.Frag) : YR := fun H x d => ∃ a xs ds, x = .ref a ∧ d = .tuple ds ∧ H a = some (.tup xs) ∧ DdAll K H xs ds
section
variable {K : PySem.W.Frag} {X : Cx} {M : List Nat} {a b c e tg : Expr} {es : List Expr} {ta tb tc te : TE} {t u : TT} {fa fb fc f : Fn} {pos p pos' : Pos} {ba : Rho → Option Bool} {Rl : YR}

/-! ### what is walked -/
structure Yields (K : PySem.W.Frag) (Rl : YR) (J : It) (Hs : Hp) (ds : List PyData) : Prop where
  go : ∀ i H, Same Hs H → i < ds.length → J.go i H
  stop : ∀ i H, Same Hs H → ds.length ≤ i → J.stop i H
  yld : ∀ i H x H' Hs2, i < ds.length → Same Hs Hs2 → Same Hs2 H → J.yld i H x H' → ∃ Hs3, Grow Hs2 H Hs3 H' ∧ ∃ d, ds[i]? = some d ∧ Rl Hs3 x d
structure ID (K : PySem.W.Frag) (X : Cx) (M : List Nat) (Rl : YR) (tg iter : Expr) (wi : TI) (h : Rho → Option (List PyData)) : Prop where
  pi : PI X tg iter wi
  sm : ∀ {Hs0 H0 Hs H : Hp} {σ : L2.St} {ρ : Rho} {ds : List PyData} {R : It → Hp → Prop}, SR K M Hs0 H0 Hs H σ ρ → h ρ = some ds → (∀ J Hs' H', Grow Hs H Hs' H' → Yields K Rl J Hs' ds → R J H') → wi σ H R

theorem yields_list {K : PySem.W.Frag} {Hs : Hp} {p : Addr} {xs : List V} {ds : List PyData} (hq : ∀ H, Same Hs H → SqL K H p xs) (t : DdAll K Hs xs ds) : Yields K (Dd K) (Itl K p) Hs ds where
  go := fun i H e hi => by
    obtain ⟨v, h1, _⟩ := t.get (i := i) (d := ds[i]) (List.getElem?_eq_getElem hi)
    exact ⟨xs, v, hq H e, h1⟩
  stop := fun i H e hi => ⟨xs, hq H e, by rw [t.length]; exact hi⟩
  yld := fun i H x H' Hs2 hi e1 e2 h => by
    obtain ⟨rfl, h2⟩ := h
    obtain ⟨d, h3, h4⟩ := t.getv (h2 xs (hq _ (e1.trans e2)))
    exact ⟨Hs2, Grow.refl e2, d, h3, h4.mono e1⟩
theorem yields_tup {K : PySem.W.Frag} {Hs : Hp} {p : Addr} {xs : List V} {ds : List PyData} (hq : ∀ H, Same Hs H → SqT K H p xs) (t : DdAll K Hs xs ds) : Yields K (Dd K) (Itt K p) Hs ds where
  go := fun i H e hi => by
    obtain ⟨v, h1, _⟩ := t.get (i := i) (d := ds[i]) (List.getElem?_eq_getElem hi)
    exact ⟨xs, v, hq H e, h1⟩
  stop := fun i H e hi => ⟨xs, hq H e, by rw [t.length]; exact hi⟩
  yld := fun i H x H' Hs2 hi e1 e2 h => by
    obtain ⟨rfl, h2⟩ := h
    obtain ⟨d, h3, h4⟩ := t.getv (h2 xs (hq _ (e1.trans e2)))
    exact ⟨Hs2, Grow.refl e2, d, h3, h4.mono e1⟩
/-- a list, a tuple, the script -/
def iSeq (K : PySem.W.Frag) (tl : TE) : TI := fun σ H R => tl σ H fun x H1 => ∃ a, x = .ref a ∧ (((∃ xs, SqL K H1 a xs) ∧ R (Itl K a) H1) ∨ ((∃ xs, SqT K H1 a xs) ∧ R (Itt K a) H1))
theorem pi_seq {l : Expr} {tl : TE} (hl : PE X l tl) : PI X tg l (iSeq X.K tl) := by
  refine ⟨fun pins s σ H R I h => ?_⟩
  refine thn (hl.run pins s σ H _ I h) fun v s1 ⟨x, H1, I1, r1, q1⟩ => ?_
  obtain ⟨a, e, h⟩ := q1
  subst e
  cases r1
  rcases h with ⟨⟨xs, hq⟩, q⟩ | ⟨⟨xs, hq⟩, q⟩
  · obtain ⟨its, rv, p, hz⟩ := I1.list hq
    refine wpAny_pyIter_list p.isList ?_
    refine ⟨s1.heap.objs.size, [s1.heap.objs.size], _, _, H1, rfl, I1.kept (t' := s1.toks) fun b o e => Heap.get?_push_of_some _ e, turn_list a _, ⟨_, Heap.get?_push_size _ rfl, rfl, rfl⟩, fun b hb => ?_, q⟩
    have e : b = s1.heap.objs.size := by simpa using hb
    subst e
    exact I1.fpOk (Nat.le_refl _) (I1.hok.fresh (Nat.le_refl _))
  · obtain ⟨its, rv, p, hz⟩ := I1.tuple hq
    refine wpAny_pyIter_tuple (show s1.heap.IsTuple a its.toArray from p) ?_
    refine ⟨s1.heap.objs.size, [s1.heap.objs.size], _, _, H1, rfl, I1.kept (t' := s1.toks) fun b o e => Heap.get?_push_of_some _ e, turn_tuple a _, ⟨_, Heap.get?_push_size _ rfl, rfl, rfl⟩, fun b hb => ?_, q⟩
    have e : b = s1.heap.objs.size := by simpa using hb
    subst e
    exact I1.fpOk (Nat.le_refl _) (I1.hok.fresh (Nat.le_refl _))
@[simp] def seqD : PyData → Option (List PyData)
  | .list ds => some ds
  | .tuple ds => some ds
  | .dict kvs => some (kvs.map (·.1))
  | _ => none
@[simp] def iSq (f : Fn) : Rho → Option (List PyData) := fun ρ => (f ρ).bind seqD
theorem id_seq {l : Expr} (hl : ED K X M l ta f) (hK : X.K = K := by rfl) : ID K X M (Dd K) tg l (iSeq K ta) (iSq f) := by
  subst hK
  refine ⟨pi_seq hl.pe, fun {Hs0 H0 Hs H σ ρ ds R} r hf q => ?_⟩
  obtain ⟨d, h1, h2⟩ := bind_some hf
  refine hl.sm r h1 fun v Hs1 H1 g1 d1 => ?_
  cases d1 with
  | @lst p xs ds' hp t =>
    obtain rfl := Option.some.inj h2
    exact ⟨p, rfl, .inl ⟨⟨xs, sqL_of (g1.sub _ _ hp)⟩, q _ Hs1 H1 g1 (yields_list (fun H e => sqL_of (e _ _ hp)) t)⟩⟩
  | @scr p ns hp =>
    have h2 : some ((scrK ns).map (·.1)) = some ds := h2
    rw [scr_fst] at h2
    obtain rfl := Option.some.inj h2
    exact ⟨p, rfl, .inl ⟨⟨_, g1.sub.seq hp⟩, q _ Hs1 H1 g1 (yields_list (fun H e => e.seq hp) (DdAll.ints ns))⟩⟩
  | @tup p ob xs ds' n hp t =>
    obtain rfl := Option.some.inj h2
    exact ⟨p, rfl, .inr ⟨⟨xs, sqT_of (g1.sub _ _ hp)⟩, q _ Hs1 H1 g1 (yields_tup (fun H e => sqT_of (e _ _ hp)) t)⟩⟩
  | _ => cases h2
/-- range(n), range(m, n) -/
def rgD (lo : Int) (n : Nat) : List PyData := (List.range n).map fun (i : Nat) => PyData.int (lo + i)
theorem rgD_get {lo : Int} {n i : Nat} (h : i < n) : (rgD lo n)[i]? = some (.int (lo + i)) := by
  unfold rgD
  rw [List.getElem?_map, List.getElem?_range h]
  rfl
theorem rgD_len {lo : Int} {n : Nat} : (rgD lo n).length = n := by
  unfold rgD
  rw [List.length_map, List.length_range]
theorem yields_rg {K : PySem.W.Frag} {Hs : Hp} {lo : Int} {n : Nat} : Yields K (Dd K) (Itr lo n) Hs (rgD lo n) where
  go := fun i H e hi => by rw [rgD_len] at hi; exact hi
  stop := fun i H e hi => by rw [rgD_len] at hi; exact hi
  yld := fun i H x H' Hs2 hi e1 e2 h => ⟨Hs2, by
    obtain ⟨rfl, rfl⟩ := h
    rw [rgD_len] at hi
    exact ⟨Grow.refl e2, _, rgD_get hi, .int _⟩⟩
def B62 (i : Int) : Prop := -(2 ^ 62) ≤ i ∧ i < 2 ^ 62
noncomputable instance : DecidablePred B62 := fun _ => Classical.propDecidable _
@[simp] noncomputable def iR1 (f : Fn) : Rho → Option (List PyData) := fun ρ => (f ρ).bind fun d => match d with
  | .int j => if B62 j then some (rgD 0 j.toNat) else none
  | _ => none
theorem id_range1 {p pos : Pos} (ha : ED K X M a ta f) (hm : X.mg "range" = none) (hg : Gl X "range" := by rfl) (hs : starEach [a] X.env = [(false, eval a X.env)] := by rfl) : ID K X M (Dd K) tg (.Call (.Name "range" p) [a] [] pos) (iRng1 (tCons ta tNil)) (iR1 f) :=
  ⟨pi_range1 hg hm (pa_cons ha.pe pa_nil hs) hs, fun {Hs0 H0 Hs H σ ρ ds R} r hf q => by
    obtain ⟨d, h1, h2⟩ := bind_some hf
    refine ha.sm r h1 fun v Hs1 H1 g1 d1 => ?_
    cases d1 with
    | int j =>
      obtain ⟨hb, rfl⟩ := ite_some h2
      exact ⟨j, rfl, hb.1, hb.2, q _ Hs1 H1 g1 yields_rg⟩
    | _ => cases h2⟩
@[simp] noncomputable def iR2 (f f' : Fn) : Rho → Option (List PyData) := fun ρ => (f ρ).bind fun d => (f' ρ).bind fun d' => match d, d' with
  | .int i, .int j => if B62 i ∧ B62 j then some (rgD i (j - i).toNat) else none
  | _, _ => none
theorem id_range2 {p pos : Pos} (ha : ED K X M a ta fa) (hb : ED K X M b tb fb) (hm : X.mg "range" = none) (hg : Gl X "range" := by rfl) (hs : starEach [a, b] X.env = [(false, eval a X.env), (false, eval b X.env)] := by rfl) (hs2 : starEach [b] X.env = [(false, eval b X.env)] := by rfl) :
    ID K X M (Dd K) tg (.Call (.Name "range" p) [a, b] [] pos) (iRng2 (tCons ta (tCons tb tNil))) (iR2 fa fb) :=
  ⟨pi_range2 hg hm (pa_cons ha.pe (pa_cons hb.pe pa_nil hs2) (by rw [hs, hs2])) hs hs2, fun {Hs0 H0 Hs H σ ρ ds R} r hf q => by
    obtain ⟨d, h1, h2⟩ := bind_some hf
    obtain ⟨d', h2, h3⟩ := bind_some h2
    refine ha.sm r h1 fun v Hs1 H1 g1 d1 => ?_
    refine hb.sm (r.grow g1) h2 fun w Hs2 H2 g2 d2 => ?_
    cases d1 with
    | int i =>
      cases d2 with
      | int j =>
        obtain ⟨⟨b1, b2⟩, rfl⟩ := ite_some h3
        exact ⟨i, j, rfl, ⟨b1.1, b1.2, b2.1, b2.2⟩, q _ Hs2 H2 (g1.trans g2) yields_rg⟩
      | _ => cases h3
    | _ => cases h3⟩
/-- tuple(range(n)), list(range(n)), reversed(range(n)) -/
@[simp] def gRg (w : List PyData → PyData) (f : Fn) : Fn := fun ρ => (f ρ).bind fun d => match d with
  | .int j => if 0 ≤ j ∧ j ≤ 1000000 then some (w (rgD 0 j.toNat)) else none
  | _ => none
theorem rgV_rgD {H : Hp} {j : Int} : DdAll K H (rgV 0 j) (rgD 0 j.toNat) := by
  unfold rgV rgD
  rw [Int.sub_zero]
  have : ∀ l : List Nat, DdAll K H (l.map fun i => V.int (0 + (i : Nat))) (l.map fun (i : Nat) => PyData.int (0 + i)) := fun l => by
    induction l with
    | nil => exact .nil
    | cons a r ih => exact .cons (.int _) ih
  exact this _
def tTupRgN (te : L2.St → Hp → (Int → Int → Hp → Prop) → Prop) : TE := fun σ H Q => te σ H fun a b H1 => RgOk a b ∧ NewT Q H1 (rgV a b)
theorem pe_tupRgN {te : L2.St → Hp → (Int → Int → Hp → Prop) → Prop} {p pos : Pos} (hc : X.calm = true) (hg : Gl X "tuple") (hm : X.mg "tuple" = none) (he : PRg X e te) (na : starEach [e] X.env = (false, eval e X.env) :: starEach [] X.env := by rfl) : PE X (.Call (.Name "tuple" p) [e] [] pos) (tTupRgN te) := by
  refine ⟨fun pins s σ H Q I h => ?_⟩
  refine Call_ (ld_blt I hg hm boot_tuple (PyProof.Rows.callWith_type1 (args_cons (thn (he pins s σ H _ I h) fun x s1 ⟨r, a, b, t, u, v, H1, ex, hr, I1, ok, q⟩ => args_nil ?_) na) na))
  subst ex
  obtain ⟨b1, b2, b3, b4, b5⟩ := ok
  refine call_tuple_range (n := (b - a).toNat) (I1.ok.hd hc) hr (small_one b1 b2 b3 b4) (rangeSize_nat a b) b5 fun h' tk acc hk hi => ?_
  have I2 : Inv X pins σ H1 { s1 with heap := h', toks := tk } := I1.kept hk
  have := Inv.tupN (t' := tk) I2 (vals_rg hi) (by rw [rgV_length, sizeLine_eq]; omega)
  rw [Array.toArray_toList] at this
  exact ⟨.ref h'.objs.size, _, this, rfl, q _ _ rfl (I2.hok.fresh (Nat.le_refl _))⟩
theorem ed_tupRg {p1 p2 pos1 : Pos} (ha : ED K X M a ta f) (hmr : X.mg "range" = none) (hm : X.mg "tuple" = none) (hgr : Gl X "range" := by rfl) (hg : Gl X "tuple" := by rfl) (hc : X.calm = true := by rfl)
    (n1 : starEach [a] X.env = (false, eval a X.env) :: starEach [] X.env := by rfl) (na : starEach [.Call (.Name "range" p1) [a] [] pos1] X.env = (false, eval (.Call (.Name "range" p1) [a] [] pos1) X.env) :: starEach [] X.env := by rfl) :
    ED K X M (.Call (.Name "tuple" p2) [.Call (.Name "range" p1) [a] [] pos1] [] pos) (tTupRgN (tRg1 ta)) (gRg .tuple f) :=
  ⟨pe_tupRgN hc hg hm (prg_1 hgr hmr ha.pe n1) na, fun {Hs0 H0 Hs H σ ρ d Q} r hf q => by
    obtain ⟨d, h1, h2⟩ := bind_some hf
    refine ha.sm r h1 fun v Hs1 H1 g1 d1 => ?_
    cases d1 with
    | int j =>
      obtain ⟨⟨b1, b2⟩, rfl⟩ := ite_some h2
      exact ⟨j, rfl, RgOk.of_le (by omega) (by omega) (by omega) b1, NewT.of g1 rgV_rgD q⟩
    | _ => cases h2⟩
@[simp] def gRgL (f : Fn) : Rho → Option (List PyData) := fun ρ => (f ρ).bind fun d => match d with
  | .int j => if 0 ≤ j ∧ j ≤ 1000000 then some (rgD 0 j.toNat) else none
  | _ => none
theorem fd_listRg {p1 p2 pos1 : Pos} (ha : ED K X M a ta f) (hmr : X.mg "range" = none) (hm : X.mg "list" = none) (hgr : Gl X "range" := by rfl) (hg : Gl X "list" := by rfl) (hc : X.calm = true := by rfl)
    (n1 : starEach [a] X.env = (false, eval a X.env) :: starEach [] X.env := by rfl) (na : starEach [.Call (.Name "range" p1) [a] [] pos1] X.env = (false, eval (.Call (.Name "range" p1) [a] [] pos1) X.env) :: starEach [] X.env := by rfl) :
    FD K X M (.Call (.Name "list" p2) [.Call (.Name "range" p1) [a] [] pos1] [] pos) (tLstRg (tRg1 ta)) (gRgL f) :=
  ⟨pe_listRg hc hg hm (prg_1 hgr hmr ha.pe n1) na, fun {Hs0 H0 Hs H σ ρ ds Q} r hf q => by
    obtain ⟨d, h1, h2⟩ := bind_some hf
    refine ha.sm r h1 fun v Hs1 H1 g1 d1 => ?_
    cases d1 with
    | int j =>
      obtain ⟨⟨b1, b2⟩, rfl⟩ := ite_some h2
      refine ⟨j, rfl, RgOk.of_le (by omega) (by omega) (by omega) b1, fun p hp => ?_⟩
      exact q p _ Hs1 _ (g1.trans (Grow.alloc0 g1.sub hp)) (g1.ex.free hp) (g1.sub.free hp) upd_same rgV_rgD
    | _ => cases h2⟩

/-! ### targets -/
structure GD (K : PySem.W.Frag) (X : Cx) (M : List Nat) (Rl : YR) (vs : List Nat) (tg : Expr) (g : TG) (h : PyData → Rho → Option Rho) : Prop where
  pg : PG X tg g
  sm : ∀ {Hs0 H0 Hs H : Hp} {σ : L2.St} {ρ ρ' : Rho} {v : V} {d : PyData} {Q : L2.St → Hp → Prop}, SR K M Hs0 H0 Hs H σ ρ → Rl Hs v d → h d ρ = some ρ' → (∀ σ', SR K M Hs0 H0 Hs H σ' ρ' → (∀ ws, (∀ i ∈ vs, i ∈ ws) → wipe σ' ws = wipe σ ws) → Q σ' H) → g v σ H Q
theorem wipe_set {σ : L2.St} {i : Nat} {x : Option V} : ∀ {ws : List Nat}, i ∈ ws → wipe (σ.set i x) ws = wipe σ ws
  | w :: ws, h => by
    unfold wipe
    by_cases hw : i ∈ ws
    · rw [wipe_set hw]
    · have hi : i = w := by
        rcases List.mem_cons.mp h with z | z
        · exact z
        · exact absurd z hw
      subst hi
      have out : ∀ (vs : List Nat) (τ : L2.St), i ∉ vs → (wipe (τ.set i x) vs).set i none = (wipe τ vs).set i none := fun vs => by
        induction vs with
        | nil => intro τ _; unfold wipe; rw [List.set_set]
        | cons v vs ih =>
          intro τ hv
          unfold wipe
          have hne : v ≠ i := fun z => hv (by rw [z]; exact List.mem_cons_self)
          rw [List.set_comm _ _ hne, ih τ (fun z => hv (List.mem_cons_of_mem _ z)), List.set_comm _ _ hne.symm]
      exact out ws σ hw
theorem SR.set {Hs0 H0 Hs H : Hp} {σ : L2.St} {ρ : Rho} {i : Nat} {v : V} {d : PyData} (r : SR K M Hs0 H0 Hs H σ ρ) (hM : M.contains i = false) (a : Dd K Hs v d) : SR K M Hs0 H0 Hs H (σ.set i (some v)) (ρ.set i (some d)) where
  g := r.g
  len := by rw [List.length_set, List.length_set]; exact r.len
  frz := fun j e h m => by
    by_cases hj : i = j
    · subst hj
      have hi : i < ρ.length := by
        have := (List.getElem?_eq_some_iff.mp h).1
        rwa [List.length_set] at this
      rw [List.getElem?_set_self hi] at h
      cases h
      exact ⟨v, List.getElem?_set_self (by rw [r.len]; exact hi), a⟩
    · rw [List.getElem?_set_ne hj] at h ⊢
      exact r.frz j e h m
  own := fun j e h m => by
    have hj : i ≠ j := fun z => by rw [z, m] at hM; cases hM
    rw [List.getElem?_set_ne hj] at h ⊢
    exact r.own j e h m
  sep := fun j k dj dk p h1 h2 m1 m2 h3 h4 => by
    have hj : i ≠ j := fun z => by rw [z, m1] at hM; cases hM
    have hk : i ≠ k := fun z => by rw [z, m2] at hM; cases hM
    rw [List.getElem?_set_ne hj] at h1 h3
    rw [List.getElem?_set_ne hk] at h2 h4
    exact r.sep j k dj dk p h1 h2 m1 m2 h3 h4
  tb0 := r.tb0
@[simp] def hName (i : Nat) : PyData → Rho → Option Rho := fun d ρ => some (ρ.set i (some d))
theorem gd_name (i : Nat) {x : Str} (hN : X.N.Nodup) (hi : X.N[i]? = some x := by rfl) (hx : Loc X.env.scope x := by first | exact Or.inl rfl | exact Or.inr rfl) (hM : M.contains i = false := by rfl)
    (hf : X.fn x = true ∨ X.env.scope.names.lookup x = some .local := by first | exact .inl rfl | exact .inr rfl) : GD K X M (Dd K) [i] (.Name x pos) (gName i) (hName i) :=
  ⟨pg_name hN hi hx hf, fun {Hs0 H0 Hs H σ ρ ρ' v d Q} r a h q => by
    cases h
    exact q _ (r.set hM a) fun ws hw => wipe_set (hw i (by simp))⟩
/-- several targets -/
structure GsD (K : PySem.W.Frag) (X : Cx) (M : List Nat) (vs : List Nat) (ts : List Expr) (g : TGs) (h : List PyData → Rho → Option Rho) : Prop where
  pg : PGs X ts g
  sm : ∀ {Hs0 H0 Hs H : Hp} {σ : L2.St} {ρ ρ' : Rho} {xs : List V} {ds : List PyData} {Q : L2.St → Hp → Prop}, SR K M Hs0 H0 Hs H σ ρ → DdAll K Hs xs ds → h ds ρ = some ρ' → (∀ σ', SR K M Hs0 H0 Hs H σ' ρ' → (∀ ws, (∀ i ∈ vs, i ∈ ws) → wipe σ' ws = wipe σ ws) → Q σ' H) → g xs σ H Q
@[simp] def hNil : List PyData → Rho → Option Rho := fun ds ρ => match ds with
  | [] => some ρ
  | _ => none
@[simp] def hCons (h : PyData → Rho → Option Rho) (hs : List PyData → Rho → Option Rho) : List PyData → Rho → Option Rho := fun ds ρ => match ds with
  | [] => none
  | d :: r => (h d ρ).bind fun ρ' => hs r ρ'
theorem gsd_nil : GsD K X M [] [] gNil hNil :=
  ⟨pgs_nil, fun {Hs0 H0 Hs H σ ρ ρ' xs ds Q} r a h q => by
    cases a with
    | nil => cases h; exact ⟨rfl, q _ r fun _ _ => rfl⟩
    | cons _ _ => cases h⟩
theorem gsd_cons {vs ws : List Nat} {g : TG} {gs : TGs} {h : PyData → Rho → Option Rho} {hs : List PyData → Rho → Option Rho} {ts : List Expr} (h1 : GD K X M (Dd K) vs e g h) (h2 : GsD K X M ws ts gs hs)
    (hst : (assignEach (e :: ts) X.env).map (·.2) = assign e X.env :: (assignEach ts X.env).map (·.2) := by rfl) : GsD K X M (vs ++ ws) (e :: ts) (gCons g gs) (hCons h hs) :=
  ⟨pgs_cons h1.pg h2.pg hst, fun {Hs0 H0 Hs H σ ρ ρ' xs ds Q} r a hf q => by
    cases a with
    | nil => cases hf
    | cons a1 a2 =>
      obtain ⟨ρ1, e1, e2⟩ := bind_some hf
      refine ⟨_, _, rfl, h1.sm r a1 e1 fun σ1 r1 w1 => h2.sm r1 a2 e2 fun σ2 r2 w2 => q σ2 r2 fun wl hw => ?_⟩
      rw [w2 wl (fun i hi => hw i (List.mem_append_right _ hi)), w1 wl (fun i hi => hw i (List.mem_append_left _ hi))]⟩
/-- a tuple or list of that length, unpacked -/
def gSeq (K : PySem.W.Frag) (n : Nat) (t : TGs) : TG := fun v σ H Q => gTup K n t v σ H Q ∨ gUnl K n t v σ H Q
@[simp] def hSeq (n : Nat) (h : List PyData → Rho → Option Rho) : PyData → Rho → Option Rho := fun d ρ => match d with
  | .tuple ds => if ds.length = n then h ds ρ else none
  | .list ds => if ds.length = n then h ds ρ else none
  | _ => none
theorem ite_get {α : Type} {c : Prop} [Decidable c] {a : Option α} {b : α} (h : (if c then a else none) = some b) : c ∧ a = some b := by
  by_cases hc : c
  · rw [if_pos hc] at h; exact ⟨hc, h⟩
  · rw [if_neg hc] at h; cases h
theorem pg_seq {es : List Expr} {k : Nat} {t : TGs} {n : Nat} (hc : X.calm = true) (h : PGs X es t) (hn : (assignEach es X.env).length = n) (hst : (assignEach es X.env).findIdx? (·.1) = none) : PG X (.Tuple es k pos) (gSeq X.K n t) :=
  ⟨fun pins s σ H v u Q I r hw => by
    rcases hw with hw | hw
    · exact (pg_tup hc h hn hst).run pins s σ H v u Q I r hw
    · exact (pg_unl hc h hn hst).run pins s σ H v u Q I r hw⟩
theorem gd_seq {vs : List Nat} {g : TGs} {h : List PyData → Rho → Option Rho} {k n : Nat} (hs : GsD K X M vs es g h) (hc : X.calm = true := by rfl) (hn : (assignEach es X.env).length = n := by rfl) (hst : (assignEach es X.env).findIdx? (·.1) = none := by rfl) (hK : X.K = K := by rfl) :
    GD K X M (Dd K) vs (.Tuple es k pos) (gSeq K n g) (hSeq n h) := by
  subst hK
  refine ⟨pg_seq hc hs.pg hn hst, fun {Hs0 H0 Hs H σ ρ ρ' v d Q} r a hf q => ?_⟩
  cases a with
  | @tup p ob xs ds nn hp t =>
    obtain ⟨hl, hf⟩ := ite_get hf
    exact .inl ⟨p, xs, rfl, sqT_of (r.sub _ _ hp), by rw [t.length]; exact hl, hs.sm r t hf q⟩
  | @lst p xs ds hp t =>
    obtain ⟨hl, hf⟩ := ite_get hf
    exact .inr ⟨p, xs, rfl, sqL_of (r.sub _ _ hp), by rw [t.length]; exact hl, hs.sm r t hf q⟩
  | _ => cases hf
/-- a pair that an iterator hands out -/
theorem gd_pair {vs : List Nat} {g : TGs} {h : List PyData → Rho → Option Rho} {k n : Nat} (hs : GsD K X M vs es g h) (hc : X.calm = true := by rfl) (hn : (assignEach es X.env).length = n := by rfl) (hst : (assignEach es X.env).findIdx? (·.1) = none := by rfl) (hK : X.K = K := by rfl) :
    GD K X M (Dy K) vs (.Tuple es k pos) (gSeq K n g) (hSeq n h) := by
  subst hK
  refine ⟨pg_seq hc hs.pg hn hst, fun {Hs0 H0 Hs H σ ρ ρ' v d Q} r a hf q => ?_⟩
  obtain ⟨p, xs, ds, rfl, rfl, hp, t⟩ := a
  obtain ⟨hl, hf⟩ := ite_get hf
  exact .inl ⟨p, xs, rfl, .inl (.inl (r.sub _ _ hp)), by rw [t.length]; exact hl, hs.sm r t hf q⟩
end
end DL

namespace DL
open PySem PySem.Spec PyProof.Rows L2
variable [Tabl]

/-! ### comprehensions -/
@[simp] def wipeR (ρ : Rho) : List Nat → Rho
  | [] => ρ
  | v :: vs => (wipeR ρ vs).set v none
theorem wipeR_length (ρ : Rho) : ∀ vs : List Nat, (wipeR ρ vs).length = ρ.length
  | [] => rfl
  | v :: vs => by unfold wipeR; rw [List.length_set, wipeR_length ρ vs]
theorem wipeR_some {ρ : Rho} {i : Nat} {x : PyData} : ∀ {vs : List Nat}, (wipeR ρ vs)[i]? = some (some x) → ρ[i]? = some (some x) ∧ i ∉ vs
  | [], h => ⟨h, by simp⟩
  | v :: vs, h => by
    unfold wipeR at h
    by_cases hi : v = i
    · subst hi
      by_cases hv : v < (wipeR ρ vs).length
      · rw [List.getElem?_set_self hv] at h; cases h
      · rw [List.getElem?_eq_none (by simpa using hv)] at h; cases h
    · rw [List.getElem?_set_ne hi] at h
      obtain ⟨h1, h2⟩ := wipeR_some h
      exact ⟨h1, by simp only [List.mem_cons, not_or]; exact ⟨fun e => hi e.symm, h2⟩⟩
theorem wipe_in {i : Nat} : ∀ {vs : List Nat} (τ : L2.St), i ∈ vs → (L2.wipe τ vs)[i]? = if i < τ.length then some none else none
  | v :: vs, τ, h => by
    unfold L2.wipe
    by_cases hv : v = i
    · subst hv
      by_cases hl : v < τ.length
      · rw [if_pos hl, List.getElem?_set_self (by rw [wipe_length]; exact hl)]
      · rw [if_neg hl, List.getElem?_eq_none (by rw [List.length_set, wipe_length]; omega)]
    · rw [List.getElem?_set_ne hv]
      exact wipe_in τ ((List.mem_cons.mp h).resolve_left fun z => hv z.symm)
theorem wipe_wipe (σ : L2.St) (vs : List Nat) : L2.wipe (L2.wipe σ vs) vs = L2.wipe σ vs := by
  refine List.ext_getElem? fun i => ?_
  by_cases hi : i ∈ vs
  · rw [wipe_in _ hi, wipe_in _ hi, wipe_length]
  · rw [wipe_out hi]
section
variable {K : PySem.W.Frag} {X : Cx} {M : List Nat} {Rl : YR}
theorem SR.wipe {Hs0 H0 Hs H : Hp} {σ : L2.St} {ρ : Rho} (r : SR K M Hs0 H0 Hs H σ ρ) (vs : List Nat) : SR K M Hs0 H0 Hs H (L2.wipe σ vs) (wipeR ρ vs) where
  g := r.g
  len := by rw [wipe_length, wipeR_length]; exact r.len
  frz := fun i d h m => by
    obtain ⟨h1, h2⟩ := wipeR_some h
    rw [wipe_out h2]
    exact r.frz i d h1 m
  own := fun i d h m => by
    obtain ⟨h1, h2⟩ := wipeR_some h
    rw [wipe_out h2]
    exact r.own i d h1 m
  sep := fun i j di dj p h1 h2 m1 m2 h3 h4 => by
    obtain ⟨a1, a2⟩ := wipeR_some h1
    obtain ⟨b1, b2⟩ := wipeR_some h2
    rw [wipe_out a2] at h3
    rw [wipe_out b2] at h4
    exact r.sep i j di dj p a1 b1 m1 m2 h3 h4
  tb0 := r.tb0
structure CTD (K : PySem.W.Frag) (X : Cx) (M : List Nat) (ifs : List Expr) (t : TT) (f : Rho → Option Bool) : Prop where
  pt : PTs X ifs t
  sm : ∀ {Hs0 H0 Hs H : Hp} {σ : L2.St} {ρ : Rho} {b : Bool} {Q : Bool → Hp → Prop}, SR K M Hs0 H0 Hs H σ ρ → f ρ = some b → (∀ H', Grow Hs H Hs H' → Q b H') → t σ H Q
@[simp] def cYes : Rho → Option Bool := fun _ => some true
theorem ctd_nil : CTD K X M [] tYes cYes := ⟨pts_nil, fun {Hs0 H0 Hs H σ ρ b Q} r h q => by cases h; exact q H (Grow.refl r.sub)⟩
theorem ctd_one {e : Expr} {t : TT} {f : Rho → Option Bool} (h : TD K X M e t f) : CTD K X M [e] t f := ⟨pts_one h.pt, h.sm⟩
/-- what a comprehension makes -/
def compF (tg : PyData → Rho → Option Rho) (c : Rho → Option Bool) (f : Fn) (ρ : Rho) : List PyData → Option (List PyData)
  | [] => some []
  | d :: ds => (tg d ρ).bind fun ρ1 => (c ρ1).bind fun b => if b = true then (f ρ1).bind fun y => (compF tg c f ρ ds).bind fun ys => some (y :: ys) else compF tg c f ρ ds
def fLc (vs : List Nat) (h : Rho → Option (List PyData)) (tg : PyData → Rho → Option Rho) (c : Rho → Option Bool) (f : Fn) : Rho → Option (List PyData) :=
  fun ρ => (h ρ).bind fun ds => if ds.length ≤ 1000000 then compF tg c f (wipeR ρ vs) ds else none
theorem fd_lc {elt tg iter : Expr} {ifs : List Expr} {scope : Scope} {pos : Pos} {wi : TI} {g : TG} {tt : TT} {te : TE} {ws : List Nat} {h : Rho → Option (List PyData)} {hg' : PyData → Rho → Option Rho} {c : Rho → Option Bool} {f : Fn}
    (own : List (Str × Nat)) (hN : X.N.Nodup) (hi : ID K X M Rl tg iter wi h) (ok : BlkOk X.N X.env.scope scope own)
    (hg : ∀ (s : Shared) (H : Hp) (C : Addr) (cl : List (Str × Addr)) (fp : List Addr), GD K (X.blk s H scope (compEnvC scope cl C X.env) fp) M Rl ws tg g hg')
    (ht : ∀ (s : Shared) (H : Hp) (C : Addr) (cl : List (Str × Addr)) (fp : List Addr), CTD K (X.blk s H scope (compEnvC scope cl C X.env) fp) M ifs tt c)
    (he : ∀ (s : Shared) (H : Hp) (C : Addr) (cl : List (Str × Addr)) (fp : List Addr), ED K (X.blk s H scope (compEnvC scope cl C X.env) fp) M elt te f)
    (hws : ws.all (fun i => (own.map (·.2)).contains i) = true := by rfl) (hc : X.calm = true := by rfl) (hs : ∀ x, foldedSetIterable iter X.env x = pure x := by intro _; rfl) :
    FD K X M (.ListComp elt [⟨tg, iter, ifs, 0⟩] scope pos) (tLc wi g tt te (own.map (·.2))) (fLc (own.map (·.2)) h hg' c f) := by
  have hws' : ∀ i ∈ ws, i ∈ own.map (·.2) := fun i hi => by
    have := List.all_eq_true.mp hws i hi
    simpa using this
  refine ⟨pe_lc hc hN hi.pi ok (fun s H C cl fp => (hg s H C cl fp).pg) (fun s H C cl fp => (ht s H C cl fp).pt) (fun s H C cl fp => (he s H C cl fp).pe) hs, fun {Hs0 H0 Hs H σ ρ res Q} R hf q => ?_⟩
  obtain ⟨ds, h1, h2⟩ := bind_some hf
  obtain ⟨hl, h2⟩ := ite_get h2
  refine hi.sm R h1 fun J Hs1 H1 g1 Y D hD => ?_
  have nD : Hs1 D = none := g1.sub.free hD
  refine ⟨fun i m H' => m = ds.length - i ∧ i ≤ ds.length ∧ ∃ Hsi acc accd tail, Grow Hs1 H1 Hsi H' ∧ Hsi D = none ∧ H' D = some (.lst acc) ∧ DdAll K Hsi acc accd ∧ acc.length ≤ i ∧ compF hg' c f (wipeR ρ (own.map (·.2))) (ds.drop i) = some tail ∧ accd ++ tail = res,
    ⟨ds.length, by simp, Nat.zero_le _, Hs1, [], [], res, Grow.alloc0 g1.sub hD, nD, upd_same, .nil, Nat.le_refl _, h2, rfl⟩, ?_⟩
  rintro i m H2 ⟨rfl, hle, Hsi, acc, accd, tail, g2, n2, hD2, d2, hacc, hcf, hres⟩
  by_cases hlt : i < ds.length
  · refine .inr ⟨Y.go i H2 (g2.exs.trans g2.sub) hlt, fun H' => i + 1 ≤ ds.length ∧ ∃ Hsi acc accd tail, Grow Hs1 H1 Hsi H' ∧ Hsi D = none ∧ H' D = some (.lst acc) ∧ DdAll K Hsi acc accd ∧ acc.length ≤ i + 1 ∧ compF hg' c f (wipeR ρ (own.map (·.2))) (ds.drop (i + 1)) = some tail ∧ accd ++ tail = res,
      fun H' ⟨a, b⟩ => ⟨ds.length - (i + 1), by omega, rfl, a, b⟩, fun x H3 hy => ?_⟩
    obtain ⟨Hs3, g3, d, hd, ad⟩ := Y.yld i H2 x H3 Hsi hlt g2.exs g2.sub hy
    have ed : ds.drop i = d :: ds.drop (i + 1) := by
      have e1 := List.drop_eq_getElem_cons hlt
      have e2 : ds[i] = d := (List.getElem?_eq_some_iff.mp hd).2
      rw [e1, e2]
    rw [ed] at hcf
    unfold compF at hcf
    obtain ⟨ρ1, c1, hcf⟩ := bind_some hcf
    obtain ⟨b, c2, hcf⟩ := bind_some hcf
    have R3 : SR K M Hs0 H0 Hs3 H3 (L2.wipe σ (own.map (·.2))) (wipeR ρ (own.map (·.2))) := (((R.grow g1).wipe _).grow g2).grow g3
    refine (hg X.s_0 (fun _ => none) 0 [] []).sm R3 ad c1 fun σ4 R4 w4 => ⟨?_, ?_⟩
    · rw [w4 _ hws']
      exact wipe_wipe σ _
    · refine (ht X.s_0 (fun _ => none) 0 [] []).sm R4 c2 fun H5 e5 => ?_
      have hD5 : H5 D = some (.lst acc) := e5.ex _ _ (g3.ex _ _ hD2)
      have n3 : Hs3 D = none := g3.new D n2 (by rw [hD2]; simp)
      cases b with
      | false =>
        rw [if_neg Bool.false_ne_true] at hcf ⊢
        exact ⟨hlt, Hs3, acc, accd, tail, (g2.trans g3).trans e5, n3, hD5, d2.mono g3.exs, Nat.le_succ_of_le hacc, hcf, hres⟩
      | true =>
        rw [if_pos rfl] at hcf ⊢
        obtain ⟨y, c3, hcf⟩ := bind_some hcf
        obtain ⟨ys, c4, hcf⟩ := bind_some hcf
        obtain rfl := Option.some.inj hcf
        refine (he X.s_0 (fun _ => none) 0 [] []).sm (R4.same e5) c3 fun v Hs6 H6 g6 d6 => ?_
        have hD6 : H6 D = some (.lst acc) := g6.ex _ _ hD5
        have n6 : Hs6 D = none := g6.new D n3 (by rw [hD5]; simp)
        have gg := ((g2.trans g3).trans e5).trans g6
        refine ⟨acc, hD6, szL (by omega), hlt, Hs6, acc ++ [v], accd ++ [y], ys, gg.write hD n6 hD6, n6, upd_same, ((d2.mono g3.exs).mono g6.exs).append (.cons d6 .nil), ?_, c4, ?_⟩
        · rw [List.length_append, List.length_singleton]
          omega
        · rw [List.append_assoc]
          exact hres
  · have ei : i = ds.length := by omega
    subst ei
    rw [List.drop_length] at hcf
    unfold compF at hcf
    cases hcf
    rw [List.append_nil] at hres
    subst hres
    exact .inl ⟨Y.stop _ H2 (g2.exs.trans g2.sub) (Nat.le_refl _), q D acc Hsi H2 (g1.trans g2) (g1.ex.free hD) n2 hD2 d2⟩
end
end DL

namespace DL
open PySem PySem.Spec PyProof.Rows L2
variable [Tabl]
inductive Out where
  | nx (ρ : Rho) | ret (d : PyData) | brk (ρ : Rho) | ct (ρ : Rho) | exc (c : Nat) (ρ : Rho)
abbrev Gn := Rho → Option Out
section
variable {K : PySem.W.Frag} {X : Cx} {M : List Nat} {Rl : YR} {xc : Nat → Addr} {W : WX} {Hs0 H0 Hs H Hs1 : Hp} {D : Ends}
def OutOk (K : PySem.W.Frag) (xc : Nat → Addr) (M : List Nat) (Hs0 H0 Hs : Hp) (W : WX) (D : Ends) : Out → Prop
  | .nx ρ' => ∀ Hs' H' σ', Same Hs Hs' → SR K M Hs0 H0 Hs' H' σ' ρ' → D.nx σ' H'
  | .ret d => ∀ v Hs' H', Grow Hs0 H0 Hs' H' → Dd K Hs' v d → D.rt v H'
  | .brk ρ' => ∀ Hs' H' σ', Same Hs Hs' → SR K M Hs0 H0 Hs' H' σ' ρ' → D.bk σ' H'
  | .ct ρ' => ∀ Hs' H' σ', Same Hs Hs' → SR K M Hs0 H0 Hs' H' σ' ρ' → D.ct σ' H'
  | .exc c ρ' => ∀ Hs' H' σ', Same Hs Hs' → SR K M Hs0 H0 Hs' H' σ' ρ' → W (.ref (xc c)) none σ' H'
theorem OutOk.up {r : Out} (e : Same Hs Hs1) (h : OutOk K xc M Hs0 H0 Hs W D r) : OutOk K xc M Hs0 H0 Hs1 W D r := by
  cases r with
  | nx ρ => exact fun Hs' H' σ' e' => h Hs' H' σ' (e.trans e')
  | ret d => exact h
  | brk ρ => exact fun Hs' H' σ' e' => h Hs' H' σ' (e.trans e')
  | ct ρ => exact fun Hs' H' σ' e' => h Hs' H' σ' (e.trans e')
  | exc c ρ => exact fun Hs' H' σ' e' => h Hs' H' σ' (e.trans e')
structure SD (K : PySem.W.Frag) (xc : Nat → Addr) (X : Cx) (M : List Nat) (W : WX) (st : Stmt) (t : TS) (g : Gn) : Prop where
  ps : PS X st t
  sm : ∀ {Hs0 H0 Hs H : Hp} {σ : L2.St} {ρ : Rho} {r : Out} {D : Ends}, SR K M Hs0 H0 Hs H σ ρ → g ρ = some r → OutOk K xc M Hs0 H0 Hs W D r → t D σ H
structure SS (K : PySem.W.Frag) (xc : Nat → Addr) (X : Cx) (M : List Nat) (W : WX) (st : List Stmt) (t : TS) (g : Gn) : Prop where
  ps : PSs X st t
  sm : ∀ {Hs0 H0 Hs H : Hp} {σ : L2.St} {ρ : Rho} {r : Out} {D : Ends}, SR K M Hs0 H0 Hs H σ ρ → g ρ = some r → OutOk K xc M Hs0 H0 Hs W D r → t D σ H

/-! ### blocks -/
@[simp] def gNx : Gn := fun ρ => some (.nx ρ)
@[simp] def gBlk (g1 g2 : Gn) : Gn := fun ρ => (g1 ρ).bind fun r => match r with
  | .nx ρ' => g2 ρ'
  | r => some r
variable {st : Stmt} {rest : List Stmt} {t u : TS} {g1 g2 : Gn} {e : Expr} {te : TE} {f : Fn} {pos pos' : Pos}
theorem ss_nil : SS K xc X M W [] tNext gNx := ⟨pss_nil, fun {Hs0 H0 Hs H σ ρ r D} R h o => by cases h; exact o Hs H σ (Same.refl _) R⟩
theorem seq_sm {t1 t2 : TS} (h1 : ∀ {Hs0 H0 Hs H : Hp} {σ : L2.St} {ρ : Rho} {r : Out} {D : Ends}, SR K M Hs0 H0 Hs H σ ρ → g1 ρ = some r → OutOk K xc M Hs0 H0 Hs W D r → t1 D σ H)
    (h2 : ∀ {Hs0 H0 Hs H : Hp} {σ : L2.St} {ρ : Rho} {r : Out} {D : Ends}, SR K M Hs0 H0 Hs H σ ρ → g2 ρ = some r → OutOk K xc M Hs0 H0 Hs W D r → t2 D σ H)
    {σ : L2.St} {ρ : Rho} {r : Out} (R : SR K M Hs0 H0 Hs H σ ρ) (h : gBlk g1 g2 ρ = some r) (o : OutOk K xc M Hs0 H0 Hs W D r) : tSeq t1 t2 D σ H := by
  obtain ⟨r1, a, b⟩ := bind_some h
  refine h1 (D := { D with nx := t2 D }) R a ?_
  cases r1 with
  | nx ρ1 => exact fun Hs' H' σ' e' R' => h2 R' b (o.up e')
  | ret d => obtain rfl := Option.some.inj b; exact o
  | brk ρ1 => obtain rfl := Option.some.inj b; exact o
  | ct ρ1 => obtain rfl := Option.some.inj b; exact o
  | exc c ρ1 => obtain rfl := Option.some.inj b; exact o
theorem ss_cons (h1 : SD K xc X M W st t g1) (h2 : SS K xc X M W rest u g2) : SS K xc X M W (st :: rest) (tSeq t u) (gBlk g1 g2) :=
  ⟨pss_cons h1.ps h2.ps, fun R h o => seq_sm h1.sm h2.sm R h o⟩
theorem ss_one (h1 : SD K xc X M W st t g1) : SS K xc X M W [st] t g1 := ⟨pss_one h1.ps, h1.sm⟩

/-! ### small statements -/
@[simp] def gRet (f : Fn) : Gn := fun ρ => (f ρ).bind fun d => some (.ret d)
theorem sd_ret (h : ED K X [] e te f) : SD K xc X M W (.Return (some e) pos) (tRet te) (gRet f) :=
  ⟨ps_ret h.pe, fun {Hs0 H0 Hs H σ ρ r D} R hf o => by
    obtain ⟨d, h1, h2⟩ := bind_some hf
    obtain rfl := Option.some.inj h2
    obtain ⟨Hp', e1, R1, _⟩ := R.thaw
    exact h.sm R1 h1 fun v Hs2 H2 g2 d2 => o v Hs2 H2 (R1.g.trans g2) d2⟩
@[simp] def gAsg (f : Fn) (tg : PyData → Rho → Option Rho) : Gn := fun ρ => (f ρ).bind fun d => (tg d ρ).bind fun ρ' => some (.nx ρ')
theorem asg_sm {g : TG} {vs : List Nat} {tg : Expr} {hg : PyData → Rho → Option Rho} (h : ED K X M e te f) (hG : GD K X M (Dd K) vs tg g hg) {σ : L2.St} {ρ : Rho} {r : Out} (R : SR K M Hs0 H0 Hs H σ ρ) (hf : gAsg f hg ρ = some r) (o : OutOk K xc M Hs0 H0 Hs W D r) : tAsg te g D σ H := by
  obtain ⟨d, h1, h2⟩ := bind_some hf
  obtain ⟨ρ', h4, h3⟩ := bind_some h2
  obtain rfl := Option.some.inj h3
  exact h.sm R h1 fun v Hs1 H1 g1 d1 => hG.sm (R.grow g1) d1 h4 fun σ' R' _ => o Hs1 H1 σ' g1.exs R'
/-- name = e -/
theorem sd_set (i : Nat) {x : Str} (hN : X.N.Nodup) (h : ED K X M e te f) (hi : X.N[i]? = some x := by rfl) (hx : Loc X.env.scope x := by first | exact Or.inl rfl | exact Or.inr rfl) (hM : M.contains i = false := by rfl)
    (hs : swapsWith e (some (.Name x pos')) pos.line X.env = pure false := by rfl) (hf : X.fn x = true ∨ X.env.scope.names.lookup x = some .local := by first | exact .inl rfl | exact .inr rfl) :
    SD K xc X M W (.Assign [.Name x pos'] e pos) (tAsg te (gName i)) (gAsg f (hName i)) :=
  ⟨ps_set hN hi hx h.pe hs hf, fun R hf' o => asg_sm h (gd_name (pos := pos) i hN hi hx hM hf) R hf' o⟩
/-- targets = e -/
theorem sd_tgt {tg : Expr} {g : TG} {vs : List Nat} {hg : PyData → Rho → Option Rho} (h : ED K X M e te f) (hG : GD K X M (Dd K) vs tg g hg) (hs : swapsWithSole [tg] e pos.line X.env = pure false := by rfl) (hw : swappedStores [tg] e X.env = pure none := by rfl)
    (h1 : (assignEach [tg] X.env).map (·.2) = [assign tg X.env] := by rfl) : SD K xc X M W (.Assign [tg] e pos) (tAsg te g) (gAsg f hg) :=
  ⟨ps_asg h.pe hG.pg hs hw h1, fun R hf' o => asg_sm h hG R hf' o⟩
/-- name = [..], on one line -/
theorem sd_setLc {elt tg iter : Expr} {ifs : List Expr} {scope : Scope} {pos1 py : Pos} {wi : TI} {g : TG} {tt : TT} {ws : List Nat} {h : Rho → Option (List PyData)} {hg' : PyData → Rho → Option Rho} {c : Rho → Option Bool} (i : Nat) {y : Str}
    (own : List (Str × Nat)) (hN : X.N.Nodup) (hi : ID K X M Rl tg iter wi h) (ok : BlkOk X.N X.env.scope scope own)
    (hg : ∀ (s : Shared) (H : Hp) (C : Addr) (cl : List (Str × Addr)) (fp : List Addr), GD K (X.blk s H scope (compEnvC scope cl C X.env) fp) M Rl ws tg g hg')
    (ht : ∀ (s : Shared) (H : Hp) (C : Addr) (cl : List (Str × Addr)) (fp : List Addr), CTD K (X.blk s H scope (compEnvC scope cl C X.env) fp) M ifs tt c)
    (he : ∀ (s : Shared) (H : Hp) (C : Addr) (cl : List (Str × Addr)) (fp : List Addr), ED K (X.blk s H scope (compEnvC scope cl C X.env) fp) M elt te f)
    (hsw : swapsWith (.ListComp elt [⟨tg, iter, ifs, 0⟩] scope pos1) (some (.Name y py)) pos.line X.env = pure true)
    (hy : X.N[i]? = some y := by rfl) (hyl : X.env.scope.names.lookup y = some .local := by rfl) (hM : M.contains i = false := by rfl)
    (hws : ws.all (fun i => (own.map (·.2)).contains i) = true := by rfl) (hc : X.calm = true := by rfl) (hs : ∀ x, foldedSetIterable iter X.env x = pure x := by intro _; rfl) :
    SD K xc X M W (.Assign [.Name y py] (.ListComp elt [⟨tg, iter, ifs, 0⟩] scope pos1) pos) (tAsg (tLc wi g tt te (own.map (·.2))) (gName i)) (gAsg (fFr (fLc (own.map (·.2)) h hg' c f)) (hName i)) :=
  ⟨ps_setLc hc hN hy hyl hsw hi.pi ok (fun s H C cl fp => (hg s H C cl fp).pg) (fun s H C cl fp => (ht s H C cl fp).pt) (fun s H C cl fp => (he s H C cl fp).pe) hs,
    fun R hf' o => asg_sm (ed_fr (fd_lc (pos := pos1) own hN hi ok hg ht he hws hc hs)) (gd_name (pos := py) i hN hy (.inl hyl) hM (.inr hyl)) R hf' o⟩
/-- if -/
@[simp] def gIf (c : Rho → Option Bool) (g1 g2 : Gn) : Gn := fun ρ => (c ρ).bind fun b => if b = true then g1 ρ else g2 ρ
theorem sd_if {c : Expr} {a b : List Stmt} {tc : TT} {bc : Rho → Option Bool} (hc : TD K X [] c tc bc) (ha : SS K xc X M W a t g1) (hb : SS K xc X M W b u g2) : SD K xc X M W (.If c a b pos) (tIfS tc t u) (gIf bc g1 g2) :=
  ⟨ps_if hc.pt ha.ps hb.ps, fun {Hs0 H0 Hs H σ ρ r D} R hf o => by
    obtain ⟨k, h1, h2⟩ := bind_some hf
    obtain ⟨Hp', e1, R1, _⟩ := R.thaw
    refine hc.sm R1 h1 fun H1 e2 => ?_
    cases k with
    | true => rw [if_pos rfl] at h2 ⊢; exact ha.sm (R.same (Grow.under e1 e2)) h2 o
    | false => rw [if_neg Bool.false_ne_true] at h2 ⊢; exact hb.sm (R.same (Grow.under e1 e2)) h2 o⟩
/-- for -/
def forF (tg : PyData → Rho → Option Rho) (body : Gn) : List PyData → Gn
  | [], ρ => some (.nx ρ)
  | d :: ds, ρ => (tg d ρ).bind fun ρ1 => (body ρ1).bind fun r => match r with
    | .nx ρ' => forF tg body ds ρ'
    | .ct ρ' => forF tg body ds ρ'
    | .brk ρ' => some (.nx ρ')
    | .ret d => some (.ret d)
    | .exc c ρ' => some (.exc c ρ')
@[simp] def gFor (h : Rho → Option (List PyData)) (tg : PyData → Rho → Option Rho) (body : Gn) : Gn := fun ρ => (h ρ).bind fun ds => forF tg body ds ρ
theorem sd_for {iter tg : Expr} {body : List Stmt} {wi : TI} {g : TG} {tb : TS} {gb : Gn} {vs : List Nat} {h : Rho → Option (List PyData)} {hg : PyData → Rho → Option Rho} (hp : PassesOwn (model X.prog X.w) X.A X.env X.xe)
    (hi : ID K X M Rl tg iter wi h) (hG : GD K X M Rl vs tg g hg) (hb : SS K xc X M W body tb gb) (hc : X.calm = true := by rfl) (hs : ∀ x, foldedSetIterable iter X.env x = pure x := by intro _; rfl) :
    SD K xc X M W (.For tg iter body [] pos) (tFor wi g tb) (gFor h hg gb) :=
  ⟨ps_for hp hc hi.pi hG.pg hb.ps hs, fun {Hs0 H0 Hs H σ ρ r D} R hf o => by
    obtain ⟨ds, h1, h2⟩ := bind_some hf
    refine hi.sm R h1 fun J Hs1 H1 g1 Y => ?_
    refine ⟨fun i m σ' H' => m = ds.length - i ∧ i ≤ ds.length ∧ ∃ Hsi ρi, Same Hs1 Hsi ∧ SR K M Hs0 H0 Hsi H' σ' ρi ∧ forF hg gb (ds.drop i) ρi = some r, ⟨ds.length, by simp, Nat.zero_le _, Hs1, ρ, Same.refl _, R.grow g1, h2⟩, ?_⟩
    rintro i m σ2 H2 ⟨rfl, hle, Hsi, ρi, e2, R2, hF⟩
    by_cases hlt : i < ds.length
    · refine .inr ⟨Y.go i H2 (e2.trans R2.sub) hlt, fun σ' H' => i + 1 ≤ ds.length ∧ ∃ Hsi ρi, Same Hs1 Hsi ∧ SR K M Hs0 H0 Hsi H' σ' ρi ∧ forF hg gb (ds.drop (i + 1)) ρi = some r,
        fun σ' H' ⟨a, b⟩ => ⟨ds.length - (i + 1), by omega, rfl, a, b⟩, fun x H3 hy => ?_⟩
      obtain ⟨Hs3, g3, d, hd, ad⟩ := Y.yld i H2 x H3 Hsi hlt e2 R2.sub hy
      have ed : ds.drop i = d :: ds.drop (i + 1) := by
        have e1 := List.drop_eq_getElem_cons hlt
        have e2 : ds[i] = d := (List.getElem?_eq_some_iff.mp hd).2
        rw [e1, e2]
      rw [ed] at hF
      unfold forF at hF
      obtain ⟨ρ1, c1, hF⟩ := bind_some hF
      obtain ⟨r1, c2, hF⟩ := bind_some hF
      refine hG.sm (R2.grow g3) ad c1 fun σ4 R4 _ => ?_
      refine hb.sm R4 c2 ?_
      cases r1 with
      | nx ρ' => exact fun Hs' H' σ' e' R' => ⟨hlt, Hs', ρ', (e2.trans g3.exs).trans e', R', hF⟩
      | ct ρ' => exact fun Hs' H' σ' e' R' => ⟨hlt, Hs', ρ', (e2.trans g3.exs).trans e', R', hF⟩
      | brk ρ' =>
        obtain rfl := Option.some.inj hF
        exact fun Hs' H' σ' e' R' => o Hs' H' σ' (((g1.exs.trans e2).trans g3.exs).trans e') R'
      | ret d' =>
        obtain rfl := Option.some.inj hF
        exact o
      | exc c ρ' =>
        obtain rfl := Option.some.inj hF
        exact fun Hs' H' σ' e' R' => o Hs' H' σ' (((g1.exs.trans e2).trans g3.exs).trans e') R'
    · have ei : i = ds.length := by omega
      subst ei
      rw [List.drop_length] at hF
      unfold forF at hF
      obtain rfl := Option.some.inj hF
      exact .inl ⟨Y.stop _ H2 (e2.trans R2.sub) (Nat.le_refl _), o Hsi H2 σ2 (g1.exs.trans e2) R2⟩⟩
/-- while -/
def whileF (c : Rho → Option Bool) (body : Gn) : Nat → Gn
  | 0, _ => none
  | n + 1, ρ => (c ρ).bind fun b => if b = true then (body ρ).bind fun r => match r with
    | .nx ρ' => whileF c body n ρ'
    | .ct ρ' => whileF c body n ρ'
    | .brk ρ' => some (.nx ρ')
    | .ret d => some (.ret d)
    | .exc c ρ' => some (.exc c ρ')
    else some (.nx ρ)
theorem sd_while (n : Nat) {c : Expr} {body : List Stmt} {tc : TT} {bc : Rho → Option Bool} {tb : TS} {gb : Gn} (hp : PassesOwn (model X.prog X.w) X.A X.env X.xe) (hc : TD K X [] c tc bc) (hb : SS K xc X M W body tb gb) :
    SD K xc X M W (.While c body [] pos) (tWhile tc tb) (whileF bc gb n) :=
  ⟨ps_while hp hc.pt hb.ps, fun {Hs0 H0 Hs H σ ρ r D} R hf o => by
    refine ⟨fun m σ' H' => ∃ Hsi ρi, Same Hs Hsi ∧ SR K M Hs0 H0 Hsi H' σ' ρi ∧ whileF bc gb m ρi = some r, ⟨n, Hs, ρ, Same.refl _, R, hf⟩, ?_⟩
    rintro m σ2 H2 ⟨Hsi, ρi, e2, R2, hF⟩
    cases m with
    | zero => cases hF
    | succ m =>
      unfold whileF at hF
      obtain ⟨k, h1, hF⟩ := bind_some hF
      obtain ⟨Hp', e1, R1, _⟩ := R2.thaw
      refine hc.sm R1 h1 fun H3 e3 => ?_
      cases k with
      | false =>
        rw [if_neg Bool.false_ne_true] at hF ⊢
        obtain rfl := Option.some.inj hF
        exact o Hsi H3 σ2 e2 (R2.same (Grow.under e1 e3))
      | true =>
        rw [if_pos rfl] at hF ⊢
        obtain ⟨r1, c2, hF⟩ := bind_some hF
        refine ⟨fun σ' H' => ∃ Hsi ρi, Same Hs Hsi ∧ SR K M Hs0 H0 Hsi H' σ' ρi ∧ whileF bc gb m ρi = some r, fun σ' H' h => ⟨m, Nat.lt_succ_self m, h⟩, ?_⟩
        refine hb.sm (R2.same (Grow.under e1 e3)) c2 ?_
        cases r1 with
        | nx ρ' => exact fun Hs' H' σ' e' R' => ⟨Hs', ρ', e2.trans e', R', hF⟩
        | ct ρ' => exact fun Hs' H' σ' e' R' => ⟨Hs', ρ', e2.trans e', R', hF⟩
        | brk ρ' =>
          obtain rfl := Option.some.inj hF
          exact fun Hs' H' σ' e' R' => o Hs' H' σ' (e2.trans e') R'
        | ret d' =>
          obtain rfl := Option.some.inj hF
          exact o
        | exc c ρ' =>
          obtain rfl := Option.some.inj hF
          exact fun Hs' H' σ' e' R' => o Hs' H' σ' (e2.trans e') R'⟩

/-! ### calls that may raise, as statements -/
variable {tr : TA} {fr : Rho → Option (List PyData)} {es : List Expr} {x : Str} {p : Pos}
/-- a call of a def: what it gives or raises -/
structure QD (K : PySem.W.Frag) (xc : Nat → Addr) (X : Cx) (M : List Nat) (W : WX) (e : Expr) (t : TE) (f : Rho → Option (Except Nat PyData)) : Prop where
  pe : PE X e t
  sm : ∀ {Hs0 H0 Hs H : Hp} {σ : L2.St} {ρ : Rho} {r : Except Nat PyData} {Q : VK}, SR K M Hs0 H0 Hs H σ ρ → f ρ = some r →
    (match r with
      | .ok d => ∀ v Hs' H', Grow Hs H Hs' H' → Dd K Hs' v d → Q v H'
      | .error c => ∀ H', Grow Hs H Hs H' → W (.ref (xc c)) none σ H') → t σ H Q
@[simp] def qCall (φ : List PyData → Option (Except Nat PyData)) (fa : Rho → Option (List PyData)) : Rho → Option (Except Nat PyData) := fun ρ => (fa ρ).bind φ
theorem qd_call {k n : Nat} {fA : Addr} {fd : FuncData} {ps : List Str} {φ : List PyData → Option (Except Nat PyData)} (F : FnOk X.prog X.w X.K X.mg X.base (L2.CX X.prog X.w) k fA fd ps (spX K n xc φ)) (hr : Room k X.A) (hm : X.mg x = some (.ref fA))
    (hk : PySem.W.keepIn X.K (.ref fA) = true) (hb : Binds X.K fd ps []) (hn : ∀ ds r, φ ds = some r → ds.length = n) (tk : Takes X W) (ha : AD K X M (e :: es) tr fr) (hg : Gl X x := by rfl) (hdb : (x == ("__debug__" : Str)) = false := by decide) (he : starEach (e :: es) X.env = (false, eval e X.env) :: starEach es X.env := by rfl)
    (hpl : (backTo pos (starEach es X.env)).any (·.1) = false := by rfl) : QD K xc X M W (.Call (.Name x p) (e :: es) [] pos) (tCallS (spX K n xc φ) (WE W) tr) (qCall φ fr) :=
  ⟨pe_callS F hr hg hm hk hb (fun σ => passAt tk σ) ha.pa hdb he hpl, fun {Hs0 H0 Hs H σ ρ r Q} R hf q => by
    obtain ⟨ds, h1, h2⟩ := bind_some hf
    refine ha.sm R h1 fun vs Hs1 H1 g1 d1 => ?_
    refine ⟨by rw [d1.length]; exact hn _ _ h2, Hs1, ds, r, g1.sub, (R.grow g1).tb, d1, h2, ?_⟩
    cases r with
    | error c => exact fun H2 e2 => q H2 (g1.trans e2).calm
    | ok d => exact fun v Hs2 H2 g2 d2 => q v Hs2 H2 (g1.trans g2) d2⟩
@[simp] def gExprQ (f : Rho → Option (Except Nat PyData)) : Gn := fun ρ => (f ρ).bind fun r => match r with
  | .ok _ => some (.nx ρ)
  | .error c => some (.exc c ρ)
theorem sd_exprQ {f : Rho → Option (Except Nat PyData)} (h : QD K xc X M W e te f) (hs : swapsWith e none pos.line X.env = pure false := by rfl) : SD K xc X M W (.Expr e pos) (tDrop te) (gExprQ f) :=
  ⟨ps_expr h.pe hs, fun {Hs0 H0 Hs H σ ρ r D} R hf o => by
    obtain ⟨q, h1, h2⟩ := bind_some hf
    refine h.sm R h1 ?_
    cases q with
    | ok d =>
      obtain rfl := Option.some.inj h2
      exact fun v Hs1 H1 g1 d1 => o Hs1 H1 σ g1.exs (R.grow g1)
    | error c =>
      obtain rfl := Option.some.inj h2
      exact fun H1 e1 => o Hs H1 σ (Same.refl _) (R.same e1)⟩
@[simp] def gSetQ (i : Nat) (f : Rho → Option (Except Nat PyData)) : Gn := fun ρ => (f ρ).bind fun r => match r with
  | .ok d => some (.nx (ρ.set i (some d)))
  | .error c => some (.exc c ρ)
theorem sd_setQ (i : Nat) {x : Str} {f : Rho → Option (Except Nat PyData)} (hN : X.N.Nodup) (h : QD K xc X M W e te f) (hi : X.N[i]? = some x := by rfl) (hx : Loc X.env.scope x := by first | exact Or.inl rfl | exact Or.inr rfl) (hM : M.contains i = false := by rfl)
    (hs : swapsWith e (some (.Name x pos')) pos.line X.env = pure false := by rfl) (hf : X.fn x = true ∨ X.env.scope.names.lookup x = some .local := by first | exact .inl rfl | exact .inr rfl) :
    SD K xc X M W (.Assign [.Name x pos'] e pos) (tAsg te (gName i)) (gSetQ i f) :=
  ⟨ps_set hN hi hx h.pe hs hf, fun {Hs0 H0 Hs H σ ρ r D} R hf o => by
    obtain ⟨q, h1, h2⟩ := bind_some hf
    refine h.sm R h1 ?_
    cases q with
    | ok d =>
      obtain rfl := Option.some.inj h2
      exact fun v Hs1 H1 g1 d1 => o Hs1 H1 _ g1.exs ((R.grow g1).set hM d1)
    | error c =>
      obtain rfl := Option.some.inj h2
      exact fun H1 e1 => o Hs H1 σ (Same.refl _) (R.same e1)⟩
@[simp] def gRetQ (f : Rho → Option (Except Nat PyData)) : Gn := fun ρ => (f ρ).bind fun r => match r with
  | .ok d => some (.ret d)
  | .error c => some (.exc c ρ)

/-! ### raise of an own class made with a text -/
@[simp] def gRaise (c : Nat) : Gn := fun ρ => some (.exc c ρ)
theorem sd_raise (c : Nat) {m : Str} {j : Nat} {p2 : Pos} (q : PySem.W.excIn X.K (xc c) [.type "ValueError", .type "Exception", .type "BaseException", .type "object"] "ValueError.__new__" = true) (gC : X.mg x = some (.ref (xc c))) (kC : PySem.W.keepIn X.K (.ref (xc c)) = true)
    (r : Raises X (.ref (xc c))) (tk : Takes X W) (hg : Gl X x := by rfl) (hc : X.calm = true := by rfl) (hdb : (x == ("__debug__" : Str)) = false := by decide) : SD K xc X M W (.Raise (some (.Call (.Name x p) [.Constant (.str m) j p2] [] pos')) none pos) (fun _ σ H => W (.ref (xc c)) none σ H) (gRaise c) :=
  ⟨ps_raise hc tk (pmk_own PySem.F.excBase_ValueError q gC kC r hg hdb), fun {Hs0 H0 Hs H σ ρ r D} R hf o => by
    cases hf
    exact o Hs H σ (Same.refl _) R⟩
end

/-! ### a def -/
@[simp] def runDef (N : Nat) (g : Gn) : List PyData → Option (Except Nat PyData) := fun ds => match g (ds.map some ++ List.replicate (N - ds.length) none) with
  | some (.ret d) => some (.ok d)
  | some (.nx _) => some (.ok .none)
  | some (.exc c _) => some (.error c)
  | _ => none
/-- .. of just so many arguments -/
@[simp] def defN (n N : Nat) (g : Gn) : List PyData → Option (Except Nat PyData) := fun ds => if ds.length = n then runDef N g ds else none
theorem defN_len {n N : Nat} {g : Gn} : ∀ ds r, defN n N g ds = some r → ds.length = n := fun ds r h => (ite_get h).1
section
variable {K : PySem.W.Frag} {P : Program} {w : World} {mg : Str → Option Value} {base : Heap} {xc : Nat → Addr}
theorem ok_def {x qual : Str} {st : Stmt} {f : Addr} {fd : FuncData} {N ps : List Str} {k n : Nat} (M : List Nat) {g : Gn} (F : Fun K x qual st f fd) (S : FnScope N ps (defScope st)) (hn : ps.length = n)
    (hb : ∀ (cdv : Value) (A : Around) (outer : List Env) (s : Shared) (H : Hp) (E : XK), Room k (A.deeper (envOfC qual (defScope st) s.heap.objs.size f cdv)) →
      PassesOwn (model P w) (cxOf (L2.CX P w) P w K mg base N qual (defScope st) f cdv A outer s H E).A (cxOf (L2.CX P w) P w K mg base N qual (defScope st) f cdv A outer s H E).env (cxOf (L2.CX P w) P w K mg base N qual (defScope st) f cdv A outer s H E).xe →
      Takes (cxOf (L2.CX P w) P w K mg base N qual (defScope st) f cdv A outer s H E) (fun cls d _ H' => E cls d H') →
      ∃ t, SS K xc (cxOf (L2.CX P w) P w K mg base N qual (defScope st) f cdv A outer s H E) M (fun cls d _ H' => E cls d H') (defBody st) t g)
    (hM : M.all (fun i => decide (n ≤ i)) = true := by rfl) :
    FnOk P w K mg base (L2.CX P w) (k + 1) f fd ps (spX K n xc (defN n N.length g)) := by
  refine F.okX S (fun vs H Q E h => by rw [hn]; exact h.1) (fun cdv A outer s H vs Q E hr h => ?_)
  obtain ⟨hl, Hs, ds, r, e, htb, dd, hφ, hq⟩ := h
  obtain ⟨hds, hφ⟩ := ite_get hφ
  obtain ⟨t, hS⟩ := hb cdv A outer s H E hr (passes_of rfl) (takes_of rfl rfl rfl rfl)
  refine ⟨t, hS.ps, ?_⟩
  have hlen := dd.length
  have R : SR K M Hs H Hs H (L2.start N vs) (ds.map some ++ List.replicate (N.length - ds.length) none) := by
    have get : ∀ {i : Nat} {d : PyData}, (ds.map some ++ List.replicate (N.length - ds.length) none)[i]? = some (some d) → ds[i]? = some d := fun {i d} h => by
      by_cases hi : i < ds.length
      · rw [List.getElem?_append_left (by simpa using hi), List.getElem?_map] at h
        rw [List.getElem?_eq_getElem hi] at h ⊢
        cases h; rfl
      · rw [List.getElem?_append_right (by simpa using hi), List.getElem?_replicate] at h
        split at h <;> cases h
    refine ⟨Grow.refl e, ?_, fun i d h _ => ?_, fun i d h m => ?_, fun i j di dj p h1 h2 m1 m2 h3 h4 => ?_, htb⟩
    · unfold L2.start
      rw [List.length_append, List.length_append, List.length_map, List.length_map, List.length_replicate, List.length_replicate, hlen]
    · obtain ⟨v, h1, h2⟩ := dd.get (get h)
      refine ⟨v, ?_, h2⟩
      unfold L2.start
      have hi : i < vs.length := (List.getElem?_eq_some_iff.mp h1).1
      rw [List.getElem?_append_left (by simpa using hi), List.getElem?_map, h1]
      rfl
    · have := (List.getElem?_eq_some_iff.mp (get h)).1
      have hi : i ∈ M := by simpa using m
      have := of_decide_eq_true (List.all_eq_true.mp hM i hi)
      omega
    · have := (List.getElem?_eq_some_iff.mp (get h1)).1
      have hi : i ∈ M := by simpa using m1
      have := of_decide_eq_true (List.all_eq_true.mp hM i hi)
      omega
  unfold runDef at hφ
  cases hg : g (ds.map some ++ List.replicate (N.length - ds.length) none) with
  | none => rw [hg] at hφ; cases hφ
  | some o =>
    rw [hg] at hφ
    refine hS.sm R hg ?_
    cases o with
    | nx ρ =>
      obtain rfl := Option.some.inj hφ
      exact fun Hs' H' σ' e' R' => hq _ Hs' H' R'.g .non
    | ret d =>
      obtain rfl := Option.some.inj hφ
      exact fun v Hs' H' g' d' => hq v Hs' H' g' d'
    | exc c ρ =>
      obtain rfl := Option.some.inj hφ
      exact fun Hs' H' σ' e' R' => hq H' R'.g.calm
    | brk ρ => cases hφ
    | ct ρ => cases hφ
end
end DL

namespace DL
open PySem PySem.Spec PyProof.Rows L2
variable [Tabl]
/-! ### tuple * int -/
theorem tuple_mul1 (l : Addr) (items : Array Value) (n : Nat) (dd : Option Addr) (sl : Array (Option Value)) (x : Int) (u : Tok) (c0 : (decide (x < -(2 ^ 63)) || decide (x ≥ 2 ^ 63)) = false) (c1 : (items.isEmpty || x == 1) = true) :
    Meets (Builtin.«tuple.__mul__» ⟨[.ref l, .int x u], []⟩) (fun _ R s => s.heap.get? l = some { cls := .type "tuple", dict := dd, data := .seq items n, slots := sl } ∧ R (.ok (.ret (Value.ref l))) s) :=
  .of_wp fun prog w A R s h => by
    obtain ⟨hp, g, d, tk, os⟩ := s
    obtain ⟨hl, h⟩ := h
    have f1 := AutoSeq1.idx_int
    wp_walk using wpAny_loadPart' hl
    repeat (first
      | (refine wpAny_ite_false (decide_eq_false (by rw [c0]; exact Bool.false_ne_true)) ?_; wp_walk using wpAny_loadPart' hl)
      | (refine wpAny_ite_true (decide_eq_true (by rw [c1])) ?_; wp_walk using wpAny_loadPart' hl))
    exact ⟨_, rfl, h⟩
theorem tuple_mul0 (l : Addr) (items : Array Value) (n : Nat) (dd : Option Addr) (sl : Array (Option Value)) (x : Int) (u : Tok) (c0 : (decide (x < -(2 ^ 63)) || decide (x ≥ 2 ^ 63)) = false) (c1 : (items.isEmpty || x == 1) = false) (c2 : (decide (x ≤ 0) || items.isEmpty) = true) :
    Meets (Builtin.«tuple.__mul__» ⟨[.ref l, .int x u], []⟩) (fun _ R s => s.heap.get? l = some { cls := .type "tuple", dict := dd, data := .seq items n, slots := sl } ∧
      R (.ok (.ret (Value.ref s.heap.objs.size))) { s with heap := s.heap.push { cls := Value.type "tuple", data := Data.seq #[] }, toks := s.toks }) :=
  .of_wp fun prog w A R s h => by
    obtain ⟨hp, g, d, tk, os⟩ := s
    obtain ⟨hl, h⟩ := h
    have f1 := AutoSeq1.idx_int
    wp_walk using wpAny_loadPart' hl
    repeat (first
      | (refine wpAny_ite_false (decide_eq_false (by rw [c0]; exact Bool.false_ne_true)) ?_; wp_walk using wpAny_loadPart' hl)
      | (refine wpAny_ite_false (decide_eq_false (by rw [c1]; exact Bool.false_ne_true)) ?_; wp_walk using wpAny_loadPart' hl)
      | (refine wpAny_ite_true (decide_eq_true (by rw [c2])) ?_; wp_walk using wpAny_loadPart' hl))
    exact ⟨_, rfl, h⟩

def rRepN (K : PySem.W.Frag) : R2 := fun x y H Q => ∃ l k xs, x = .ref l ∧ y = .int k ∧ SqT K H l xs ∧ -1000 ≤ k ∧ k ≤ 1000 ∧ xs.length ≤ 1000 ∧ (xs = [] ∨ k = 1 → Q (.ref l) H) ∧ (¬ (xs = [] ∨ k = 1) → NewT Q H (List.replicate k.toNat xs).flatten)
section
variable {X : Cx} {K : PySem.W.Frag}
theorem op_repN : OpR X (binaryOp .Mult) (rRepN X.K) := by
  intro pins s σ H x y v u Q I rx ry h
  obtain ⟨l, k, xs, rfl, rfl, hT, h1, h2, hz, q1, q2⟩ := h
  cases rx
  obtain ⟨t, rfl⟩ := ry
  obtain ⟨its, r, ⟨⟨cls, dd, data, sl⟩, ho, hc, n, hd⟩, hs⟩ := I.tuple hT
  simp only at hc hd
  subst hc hd
  have hle : its.length = xs.length := r.length.symm
  have c0 : (decide (k < -(2 ^ 63)) || decide (k ≥ 2 ^ 63)) = false := by
    rw [decide_eq_false (by omega), decide_eq_false (by omega)] <;> rfl
  have ie : its.toArray.isEmpty = decide (xs = []) := by
    cases xs with
    | nil => cases r; rfl
    | cons a b => cases r; rfl
  by_cases hc1 : xs = [] ∨ k = 1
  · have c1 : (its.toArray.isEmpty || k == 1) = true := by
      rw [ie]
      rcases hc1 with z | z
      · rw [decide_eq_true z, Bool.true_or]
      · rw [z]; simp
    exact wpAny_binaryOp_repeat_ref (T := "tuple") (U := "int") (by decide) ⟨_, ho, rfl⟩ (fun s' => typeIs_int s' k t) noFill_tuple_mul F.fills_int_mul F.slot_int_rmul repeat_tuple F.slot_int_index.lookup
      (call_meets F.slot_int_rmul (typeIs_int s k t) F.entry_int_rmul (F.args_int_rmul_2 _ _) (int_rmul_tuple k t l its.toArray n dd sl)
        ⟨ho, rfl, ⟨_, ho, rfl⟩, call_meets F.slot_tuple_mul ⟨_, ho, rfl⟩ F.entry_tuple_mul (F.args_tuple_mul_2 _ _) (tuple_mul1 l its.toArray n dd sl k t c0 c1) ⟨ho, .ref l, H, I, rfl, q1 hc1⟩⟩)
  · have hx : xs ≠ [] := fun z => hc1 (.inl z)
    have hk : k ≠ 1 := fun z => hc1 (.inr z)
    have hi : its.toArray.isEmpty = false := by rw [ie, decide_eq_false hx]
    have c1 : (its.toArray.isEmpty || k == 1) = false := by
      rw [hi, Bool.false_or]
      exact beq_eq_false_iff_ne.mpr hk
    have q := q2 hc1
    by_cases hk0 : k ≤ 0
    · have c2 : (decide (k ≤ 0) || its.toArray.isEmpty) = true := by rw [decide_eq_true hk0, Bool.true_or]
      have e0 : (List.replicate k.toNat xs).flatten = [] := by
        have : k.toNat = 0 := by omega
        rw [this]
        rfl
      rw [e0] at q
      exact wpAny_binaryOp_repeat_ref (T := "tuple") (U := "int") (by decide) ⟨_, ho, rfl⟩ (fun s' => typeIs_int s' k t) noFill_tuple_mul F.fills_int_mul F.slot_int_rmul repeat_tuple F.slot_int_index.lookup
        (call_meets F.slot_int_rmul (typeIs_int s k t) F.entry_int_rmul (F.args_int_rmul_2 _ _) (int_rmul_tuple k t l its.toArray n dd sl)
          ⟨ho, rfl, ⟨_, ho, rfl⟩, call_meets F.slot_tuple_mul ⟨_, ho, rfl⟩ F.entry_tuple_mul (F.args_tuple_mul_2 _ _) (tuple_mul0 l its.toArray n dd sl k t c0 c1 c2) ⟨ho, .ref s.heap.objs.size, _, Inv.tupN (its := []) (t' := s.toks) I .nil (Nat.zero_le _), rfl, q _ _ rfl (I.hok.fresh (Nat.le_refl _))⟩⟩)
    · have hsz0 : its.toArray.size = xs.length := by rw [List.size_toArray, hle]
      have hm : ((its.toArray.size : Nat) : Int) * k ≤ 1000000 := by
        rw [hsz0]
        have a1 : ((xs.length : Nat) : Int) * k ≤ 1000 * k := Int.mul_le_mul_of_nonneg_right (by omega) (by omega)
        omega
      have flen : (List.replicate k.toNat its).flatten.length ≤ sizeLine := by
        rw [PyProof.Rows.lm_len_rep_flat, hle, sizeLine_eq]
        have a1 : k.toNat * xs.length ≤ 1000 * 1000 := Nat.mul_le_mul (by omega) hz
        omega
      have c2 : (decide (k ≤ 0) || its.toArray.isEmpty) = false := by
        rw [hi, Bool.or_false]
        exact decide_eq_false hk0
      have c4 : Builtin.Tuple.tupleTooMany (((its.toArray.size : Nat) : Int) * k) = false := by
        unfold Builtin.Tuple.tupleTooMany
        rw [sizeLine_eq]
        exact decide_eq_false (by omega)
      refine wpAny_binaryOp_repeat_ref (T := "tuple") (U := "int") (by decide) ⟨_, ho, rfl⟩ (fun s' => typeIs_int s' k t) noFill_tuple_mul F.fills_int_mul F.slot_int_rmul repeat_tuple F.slot_int_index.lookup
        (call_meets F.slot_int_rmul (typeIs_int s k t) F.entry_int_rmul (F.args_int_rmul_2 _ _) (int_rmul_tuple k t l its.toArray n dd sl)
          ⟨ho, rfl, ⟨_, ho, rfl⟩, call_meets F.slot_tuple_mul ⟨_, ho, rfl⟩ F.entry_tuple_mul (F.args_tuple_mul_2 _ _) (tuple_mulW l its.toArray n dd sl k t c0 c1 c2 (by omega) c4 (by rw [size_rep, List.size_toArray]; exact flen)) ⟨ho, ?_⟩⟩)
      rw [size_rep]
      exact ⟨.ref s.heap.objs.size, _, Inv.tupN (t' := s.toks) I (r.rep k.toNat) (by rw [PyProof.Rows.lm_len_rep_flat, sizeLine_eq]; have a1 : k.toNat * xs.length ≤ 1000 * 1000 := Nat.mul_le_mul (by omega) hz; omega), rfl, q _ _ rfl (I.hok.fresh (Nat.le_refl _))⟩
def rMulD (K : PySem.W.Frag) : R2 := fun x y H Q => rI MulOk (fun i j => .int (i * j)) x y H Q ∨ rRepN K x y H Q
@[simp] noncomputable def gMulD : PyData → PyData → Option PyData
  | .int a, .int b => if MulOk a b then some (.int (a * b)) else none
  | .tuple ds, .int k => if -1000 ≤ k ∧ k ≤ 1000 ∧ ds.length ≤ 1000 then some (.tuple (List.replicate k.toNat ds).flatten) else none
  | _, _ => none
theorem DdAll.repl {H : Hp} {vs : List V} {ds : List PyData} (t : DdAll K H vs ds) : ∀ n, DdAll K H (List.replicate n vs).flatten (List.replicate n ds).flatten
  | 0 => .nil
  | n + 1 => by
    rw [List.replicate_succ, List.replicate_succ, List.flatten_cons, List.flatten_cons]
    exact t.append (DdAll.repl t n)
theorem od_mulD (hK : X.K = K := by rfl) : OD K X (binaryOp .Mult) (rMulD K) gMulD := by
  subst hK
  refine ⟨op_mulO.or op_repN, fun {Hs H x y dx dy d Q} e a b hf q => ?_⟩
  cases a with
  | int i =>
    cases b with
    | int j =>
      obtain ⟨hc, rfl⟩ := ite_some hf
      exact .inl ⟨i, j, rfl, rfl, hc, q _ Hs H (Grow.refl e) (.int _)⟩
    | _ => cases hf
  | @tup p ob xs ds n hp t =>
    cases b with
    | int k =>
      obtain ⟨⟨c1, c2, c3⟩, rfl⟩ := ite_some hf
      refine .inr ⟨p, k, xs, rfl, rfl, sqT_of (e _ _ hp), c1, c2, by rw [t.length]; exact c3, fun z => ?_, fun z => NewT.of (Grow.refl e) (t.repl _) q⟩
      have e1 : (List.replicate k.toNat ds).flatten = ds := by
        rcases z with z | z
        · subst z
          cases t
          exact flat_rep_nil _
        · subst z
          show ds ++ [] = ds
          rw [List.append_nil]
      rw [e1] at q
      exact q _ Hs H (Grow.refl e) (.tup n hp t)
    | _ => cases hf
  | _ => cases hf

/-! ### lists that change -/
variable {M : List Nat} {xc : Nat → Addr} {W : WX} {Hs0 H0 Hs H : Hp} {σ : L2.St} {ρ : Rho} {e o : Expr} {te ta : TE} {f : Fn} {pos pos' apos : Pos}
/-- a slot's list is written -/
theorem SR.upd {i : Nat} {p : Addr} {ys : List V} {es : List PyData} (r : SR K M Hs0 H0 Hs H σ ρ) (hM : M.contains i = true) (hs : σ[i]? = some (some (.ref p))) (hd : ∃ d, ρ[i]? = some (some d)) (hn : Hs p = none) (h0 : H0 p = none) (t : DdAll K Hs ys es) :
    SR K M Hs0 H0 Hs (L2.upd H p (.lst ys)) σ (ρ.set i (some (.list es))) where
  g := by
    obtain ⟨d, hd⟩ := hd
    obtain ⟨p', xs', ds', _, e2, e3, _⟩ := r.own i d hd hM
    rw [hs] at e2
    cases e2
    exact r.g.write h0 hn e3
  len := by rw [List.length_set]; exact r.len
  frz := fun j d h m => by
    have hj : i ≠ j := fun z => by rw [← z, hM] at m; cases m
    rw [List.getElem?_set_ne hj] at h
    exact r.frz j d h m
  own := fun j d h m => by
    by_cases hj : i = j
    · subst hj
      have hi : i < ρ.length := by
        have := (List.getElem?_eq_some_iff.mp h).1
        rwa [List.length_set] at this
      rw [List.getElem?_set_self hi] at h
      cases h
      exact ⟨p, ys, es, rfl, hs, upd_same, hn, h0, t⟩
    · rw [List.getElem?_set_ne hj] at h
      obtain ⟨p', xs', ds', e1, e2, e3, e4, e5, e6⟩ := r.own j d h m
      have hp : p' ≠ p := fun z => by
        obtain ⟨di, hdi⟩ := hd
        exact hj (r.sep i j di d p hdi h hM m hs (by rw [← z]; exact e2))
      exact ⟨p', xs', ds', e1, e2, by rw [upd_ne hp]; exact e3, e4, e5, e6⟩
  sep := fun j k dj dk q h1 h2 m1 m2 h3 h4 => by
    have old : ∀ {j : Nat} {dj : PyData}, (ρ.set i (some (.list es)))[j]? = some (some dj) → ∃ d, ρ[j]? = some (some d) := fun {j dj} h => by
      by_cases hj : i = j
      · subst hj; exact hd
      · rw [List.getElem?_set_ne hj] at h; exact ⟨_, h⟩
    obtain ⟨a, ha⟩ := old h1
    obtain ⟨b, hb⟩ := old h2
    exact r.sep j k a b q ha hb m1 m2 h3 h4
  tb0 := r.tb0
/-- a slot takes a fresh list -/
theorem SR.take {i : Nat} {p : Addr} {xs : List V} {ds : List PyData} (r : SR K M Hs0 H0 Hs H σ ρ) {Hs1 H1 : Hp} (g : Grow Hs H Hs1 H1) (hM : M.contains i = true) (hf : H p = none) (hn : Hs1 p = none) (hH : H1 p = some (.lst xs)) (t : DdAll K Hs1 xs ds) :
    SR K M Hs0 H0 Hs1 H1 (σ.set i (some (.ref p))) (ρ.set i (some (.list ds))) := by
  have r1 := r.grow g
  have h0 : H0 p = none := r.g.ex.free hf
  have ne : ∀ j d, ρ[j]? = some (some d) → M.contains j = true → σ[j]? ≠ some (some (.ref p)) := fun j d h m z => by
    obtain ⟨p', xs', ds', e1, e2, e3, _⟩ := r.own j d h m
    rw [e2] at z
    cases z
    rw [hf] at e3
    cases e3
  refine ⟨r1.g, by rw [List.length_set, List.length_set]; exact r.len, fun j d h m => ?_, fun j d h m => ?_, fun j k dj dk q h1 h2 m1 m2 h3 h4 => ?_, r.tb0⟩
  · have hj : i ≠ j := fun z => by rw [← z, hM] at m; cases m
    rw [List.getElem?_set_ne hj] at h ⊢
    exact r1.frz j d h m
  · by_cases hj : i = j
    · subst hj
      have hi : i < ρ.length := by
        have := (List.getElem?_eq_some_iff.mp h).1
        rwa [List.length_set] at this
      rw [List.getElem?_set_self hi] at h
      cases h
      exact ⟨p, xs, ds, rfl, List.getElem?_set_self (by rw [r.len]; exact hi), hH, hn, h0, t⟩
    · rw [List.getElem?_set_ne hj] at h ⊢
      exact r1.own j d h m
  · by_cases hj : i = j
    · by_cases hk : i = k
      · exact hj.symm.trans hk
      · subst hj
        have hi : i < σ.length := by
          have := (List.getElem?_eq_some_iff.mp h3).1
          rwa [List.length_set] at this
        rw [List.getElem?_set_self hi] at h3
        cases h3
        rw [List.getElem?_set_ne hk] at h2 h4
        exact absurd h4 (ne k dk h2 m2)
    · by_cases hk : i = k
      · subst hk
        have hi : i < σ.length := by
          have := (List.getElem?_eq_some_iff.mp h4).1
          rwa [List.length_set] at this
        rw [List.getElem?_set_self hi] at h4
        cases h4
        rw [List.getElem?_set_ne hj] at h1 h3
        exact absurd h3 (ne j dj h1 m1)
      · rw [List.getElem?_set_ne hj] at h1 h3
        rw [List.getElem?_set_ne hk] at h2 h4
        exact r.sep j k dj dk q h1 h2 m1 m2 h3 h4
@[simp] def gOwn (i : Nat) (f : Rho → Option (List PyData)) : Gn := fun ρ => (f ρ).bind fun ds => some (.nx (ρ.set i (some (.list ds))))
/-- name = a fresh list, the name one of M -/
theorem sd_own (i : Nat) {x : Str} {f : Rho → Option (List PyData)} (hN : X.N.Nodup) (h : FD K X M e te f) (hi : X.N[i]? = some x := by rfl) (hx : Loc X.env.scope x := by first | exact Or.inl rfl | exact Or.inr rfl) (hM : M.contains i = true := by rfl)
    (hs : swapsWith e (some (.Name x pos')) pos.line X.env = pure false := by rfl) (hf : X.fn x = true ∨ X.env.scope.names.lookup x = some .local := by first | exact .inl rfl | exact .inr rfl) :
    SD K xc X M W (.Assign [.Name x pos'] e pos) (tAsg te (gName i)) (gOwn i f) :=
  ⟨ps_set hN hi hx h.pe hs hf, fun {Hs0 H0 Hs H σ ρ r D} R hf o => by
    obtain ⟨ds, h1, h2⟩ := bind_some hf
    obtain rfl := Option.some.inj h2
    exact h.sm R h1 fun p xs Hs1 H1 g1 hp hn hH t => o Hs1 H1 _ g1.exs (R.take g1 hM hp hn hH t)⟩
/-- .. by a comprehension on one line -/
theorem sd_ownLc {Rl : YR} {elt tg iter : Expr} {ifs : List Expr} {scope : Scope} {pos1 py : Pos} {wi : TI} {g : TG} {tt : TT} {ws : List Nat} {h : Rho → Option (List PyData)} {hg' : PyData → Rho → Option Rho} {c : Rho → Option Bool} (i : Nat) {y : Str}
    (own : List (Str × Nat)) (hN : X.N.Nodup) (hi : ID K X M Rl tg iter wi h) (ok : BlkOk X.N X.env.scope scope own)
    (hg : ∀ (s : Shared) (H : Hp) (C : Addr) (cl : List (Str × Addr)) (fp : List Addr), GD K (X.blk s H scope (compEnvC scope cl C X.env) fp) M Rl ws tg g hg')
    (ht : ∀ (s : Shared) (H : Hp) (C : Addr) (cl : List (Str × Addr)) (fp : List Addr), CTD K (X.blk s H scope (compEnvC scope cl C X.env) fp) M ifs tt c)
    (he : ∀ (s : Shared) (H : Hp) (C : Addr) (cl : List (Str × Addr)) (fp : List Addr), ED K (X.blk s H scope (compEnvC scope cl C X.env) fp) M elt te f)
    (hsw : swapsWith (.ListComp elt [⟨tg, iter, ifs, 0⟩] scope pos1) (some (.Name y py)) pos.line X.env = pure true)
    (hy : X.N[i]? = some y := by rfl) (hyl : X.env.scope.names.lookup y = some .local := by rfl) (hM : M.contains i = true := by rfl)
    (hws : ws.all (fun i => (own.map (·.2)).contains i) = true := by rfl) (hc : X.calm = true := by rfl) (hs : ∀ x, foldedSetIterable iter X.env x = pure x := by intro _; rfl) :
    SD K xc X M W (.Assign [.Name y py] (.ListComp elt [⟨tg, iter, ifs, 0⟩] scope pos1) pos) (tAsg (tLc wi g tt te (own.map (·.2))) (gName i)) (gOwn i (fLc (own.map (·.2)) h hg' c f)) :=
  ⟨ps_setLc hc hN hy hyl hsw hi.pi ok (fun s H C cl fp => (hg s H C cl fp).pg) (fun s H C cl fp => (ht s H C cl fp).pt) (fun s H C cl fp => (he s H C cl fp).pe) hs, fun {Hs0 H0 Hs H σ ρ r D} R hf o => by
    obtain ⟨ds, h1, h2⟩ := bind_some hf
    obtain rfl := Option.some.inj h2
    exact (fd_lc (pos := pos1) own hN hi ok hg ht he hws hc hs).sm R h1 fun p xs Hs1 H1 g1 hp hn hH t => o Hs1 H1 _ g1.exs (R.take g1 hM hp hn hH t)⟩
@[simp] def lstAt (i : Nat) : Rho → Option (List PyData) := fun ρ => match ρ[i]? with
  | some (some (.list ds)) => some ds
  | _ => none
theorem lstAt_some {i : Nat} {ds : List PyData} (h : lstAt i ρ = some ds) : ρ[i]? = some (some (.list ds)) := by
  unfold lstAt at h
  split at h
  · rename_i e; cases h; exact e
  · cases h
/-- x.append(e) -/
@[simp] def gApp (i : Nat) (f : Fn) : Gn := fun ρ => (lstAt i ρ).bind fun ds => (f ρ).bind fun d => if ds.length < 1000000 then some (.nx (ρ.set i (some (.list (ds ++ [d]))))) else none
theorem SR.ownAt {i : Nat} {ds : List PyData} (r : SR K M Hs0 H0 Hs H σ ρ) (h : ρ[i]? = some (some (.list ds))) (hM : M.contains i = true) : ∃ p xs, σ[i]? = some (some (.ref p)) ∧ H p = some (.lst xs) ∧ Hs p = none ∧ H0 p = none ∧ DdAll K Hs xs ds := by
  obtain ⟨p, xs, ds', e1, e2, e3, e4, e5, e6⟩ := r.own i _ h hM
  cases e1
  exact ⟨p, xs, e2, e3, e4, e5, e6⟩
theorem sd_append (i : Nat) {x : Str} (h : ED K X M e te f) (hN : X.N[i]? = some x := by rfl) (hv : Vis X.env.scope x := by first | exact Or.inl rfl | exact Or.inr (Or.inl rfl) | exact Or.inr (Or.inr rfl)) (hM : M.contains i = true := by rfl)
    (hbase : attributeBase (.Name x pos') "append" X.env (eval (.Name x pos') X.env) = eval (.Name x pos') X.env := by rfl)
    (hfew : ((backTo pos (starEach [e] X.env)).all (fun x => !x.1) && (backToKw pos (keywordEach [] X.env)).all (fun x => x.1.isSome)
      && decide ([e].length + ([] : List Keyword).length + (if ([] : List Keyword).isEmpty then 0 else 1) < 30)) = true := by rfl)
    (hline : (apos.endLine == pos.line) = true := by rfl) (hst : starEach [e] X.env = (false, eval e X.env) :: starEach [] X.env := by rfl) {pos2 : Pos} (hs : swapsWith (.Call (.Attribute (.Name x pos') "append" apos) [e] [] pos) none pos2.line X.env = pure false := by rfl) (hd : (x == ("__debug__" : Str)) = false := by decide) (hcd : (x == ("__classdict__" : Str)) = false := by decide) :
    SD K xc X M W (.Expr (.Call (.Attribute (.Name x pos') "append" apos) [e] [] pos) pos2) (tDrop (tBM X.K "list" rAppend (tVar i) (tCons te tNil))) (gApp i f) :=
  ⟨ps_expr (pe_bm PySem.F.plainAttrs_list PySem.F.slot_list_append PySem.F.type_list_append mt_append (pe_var hN hv hd hcd) (pa_cons h.pe pa_nil hst) hbase hfew hline hst rfl) hs, fun {Hs0 H0 Hs H σ ρ r D} R hf o => by
    obtain ⟨ds, h1, h2⟩ := bind_some hf
    obtain ⟨d, h3, h4⟩ := bind_some h2
    obtain ⟨hl, rfl⟩ := ite_some h4
    have hρ := lstAt_some h1
    obtain ⟨p, xs, e1, e2, e3, e4, e5⟩ := R.ownAt hρ hM
    refine ⟨.ref p, e1, .inl ⟨rfl, _, sqL_of e2⟩, h.sm R h3 fun v Hs1 H1 g1 d1 => ?_⟩
    refine ⟨p, xs, v, rfl, rfl, g1.ex _ _ e2, szL (by rw [e5.length]; exact hl), ?_⟩
    exact o Hs1 _ σ g1.exs ((R.grow g1).upd hM e1 ⟨_, hρ⟩ (g1.new p e3 (by rw [e2]; simp)) e4 ((e5.mono g1.exs).append (.cons d1 .nil)))⟩
/-- x[e1] = e2 -/
@[simp] def gSet (i : Nat) (fi f : Fn) : Gn := fun ρ => (f ρ).bind fun d => (lstAt i ρ).bind fun ds => (fi ρ).bind fun k => match k with
  | .int k => (ixN ds.length k).bind fun j => some (.nx (ρ.set i (some (.list (ds.set j d)))))
  | _ => none
theorem sd_setItem (i : Nat) {x : Str} {b : Expr} {tb : TE} {fb : Fn} {ps : Pos} (h : ED K X M e te f) (hb : ED K X M b tb fb) (hN : X.N[i]? = some x := by rfl) (hv : Vis X.env.scope x := by first | exact Or.inl rfl | exact Or.inr (Or.inl rfl) | exact Or.inr (Or.inr rfl)) (hM : M.contains i = true := by rfl)
    (ha : ∀ v, assign (.Subscript (.Name x pos') b ps) X.env v = (do
      let ov ← holding [v] (eval (.Name x pos') X.env)
      let iv ← holding [v, ov] (eval b X.env)
      standAt ps
      holding [v, ov, iv] (setItem ov iv v)
      release [v, ov, iv] []) := by intro _; rfl)
    (hs : swapsWithSole [.Subscript (.Name x pos') b ps] e pos.line X.env = pure false := by rfl) (hw : swappedStores [.Subscript (.Name x pos') b ps] e X.env = pure none := by rfl)
    (h1 : (assignEach [.Subscript (.Name x pos') b ps] X.env).map (·.2) = [assign (.Subscript (.Name x pos') b ps) X.env] := by rfl) (hd : (x == ("__debug__" : Str)) = false := by decide) (hcd : (x == ("__classdict__" : Str)) = false := by decide) :
    SD K xc X M W (.Assign [.Subscript (.Name x pos') b ps] e pos) (tAsg te (gSub (tVar i) tb rSetL)) (gSet i fb f) :=
  ⟨ps_asg h.pe (pg_sub (pe_var hN hv hd hcd) hb.pe set_list ha) hs hw h1, fun {Hs0 H0 Hs H σ ρ r D} R hf o => by
    obtain ⟨d, h1, hf⟩ := bind_some hf
    obtain ⟨ds, h2, hf⟩ := bind_some hf
    obtain ⟨k, h3, hf⟩ := bind_some hf
    have hρ := lstAt_some h2
    obtain ⟨p, xs, e1, e2, e3, e4, e5⟩ := R.ownAt hρ hM
    refine h.sm R h1 fun v Hs1 H1 g1 d1 => ⟨.ref p, e1, hb.sm (R.grow g1) h3 fun w Hs2 H2 g2 d2 => ?_⟩
    cases d2 with
    | int k =>
      obtain ⟨j, h4, h5⟩ := bind_some hf
      obtain rfl := Option.some.inj h5
      have g := g1.trans g2
      refine ⟨p, xs, k, j, rfl, rfl, g.ex _ _ e2, by rw [e5.length]; exact h4, ?_⟩
      exact o Hs2 _ σ g.exs ((R.grow g).upd (ys := xs.set j v) hM e1 ⟨_, hρ⟩ (g.new p e3 (by rw [e2]; simp)) e4 (DdAll.set (d1.mono g2.exs) j (e5.mono g.exs)))
    | _ => cases hf⟩
end
end DL

namespace DL
open PySem PySem.Spec PyProof.Rows L2
variable [Tabl]
/-! ### [x.pop(e) for k in ..]: a comprehension that empties a list of the def -/
def B63 (k : Int) : Prop := -(2 ^ 63) ≤ k ∧ k < 2 ^ 63
noncomputable instance : DecidablePred B63 := fun _ => Classical.propDecidable _
noncomputable def popF (j iL : Nat) (fe : Fn) : List PyData → Rho → Option (List PyData)
  | [], _ => some []
  | d :: ds, ρ => (lstAt iL (ρ.set j (some d))).bind fun L => (fe (ρ.set j (some d))).bind fun k => match k with
    | .int k => if B63 k then (seqIndex? k L.length).bind fun n => (L[n]?).bind fun y => (popF j iL fe ds (ρ.set iL (some (.list (L.eraseIdx n))))).bind fun ys => some (y :: ys) else none
    | _ => none
section
variable {K : PySem.W.Frag} {X : Cx} {M : List Nat} {xc : Nat → Addr} {W : WX} {Hs0 H0 Hs H Hs1 H1 : Hp} {σ : L2.St} {ρ : Rho} {e : Expr} {te : TE} {fe : Fn} {pos pos' apos : Pos}
/-- an object that no slot owns is written -/
theorem SR.other {D : Addr} {ys : List V} (r : SR K M Hs0 H0 Hs H σ ρ) (hn : Hs D = none) (h0 : H0 D = none) (hD : H D = none ∨ ∃ xs, H D = some (.lst xs)) (ne : ∀ i d p, ρ[i]? = some (some d) → M.contains i = true → σ[i]? = some (some (.ref p)) → p ≠ D) : SR K M Hs0 H0 Hs (L2.upd H D (.lst ys)) σ ρ where
  g := r.g.write1 h0 hn hD
  len := r.len
  frz := r.frz
  own := fun j d h m => by
    obtain ⟨p', xs', ds', e1, e2, e3, e4, e5, e6⟩ := r.own j d h m
    exact ⟨p', xs', ds', e1, e2, by rw [upd_ne (ne j d p' h m e2)]; exact e3, e4, e5, e6⟩
  sep := r.sep
  tb0 := r.tb0
/-- a slot is forgotten -/
theorem SR.forget {i : Nat} (r : SR K M Hs0 H0 Hs H σ ρ) : SR K M Hs0 H0 Hs H σ (ρ.set i none) := by
  have old : ∀ {j : Nat} {d : PyData}, (ρ.set i none)[j]? = some (some d) → ρ[j]? = some (some d) := fun {j d} h => by
    by_cases hj : i = j
    · subst hj
      by_cases hi : i < ρ.length
      · rw [List.getElem?_set_self hi] at h; cases h
      · rw [List.getElem?_eq_none (by simpa using hi)] at h; cases h
    · rwa [List.getElem?_set_ne hj] at h
  exact ⟨r.g, by rw [List.length_set]; exact r.len, fun j d h => r.frz j d (old h), fun j d h => r.own j d (old h), fun j k dj dk p h1 h2 => r.sep j k dj dk p (old h1) (old h2), r.tb0⟩
def tPop (K : PySem.W.Frag) (iL : Nat) (te : TE) : TE := tBM K "list" rPopAt (tVar iL) (tCons te tNil)
theorem lcPop {h : Rho → Option (List PyData)} {tg iter : Expr} {wi : TI} {j iL : Nat} {vs : List Nat} {ds res : List PyData} {Q : VK} (hi : ID K X M (Dd K) tg iter wi h) (Y : Cx) (he : ED K Y M e te fe) (hML : M.contains iL = true) (hMj : M.contains j = false) (hj : j ∈ vs) (hvs : vs.all (fun i => !M.contains i) = true)
    (R : SR K M Hs0 H0 Hs H σ ρ) (h1 : h ρ = some ds) (hl : ds.length ≤ 1000000) (hp : popF j iL fe ds (wipeR ρ vs) = some res)
    (q : ∀ D acc Hs' H', Same Hs Hs' → SR K M Hs0 H0 Hs' H' σ (ρ.set iL none) → H D = none → Hs' D = none → H0 D = none → H' D = some (.lst acc) → DdAll K Hs' acc res → (∀ i d p, ρ[i]? = some (some d) → M.contains i = true → σ[i]? = some (some (.ref p)) → p ≠ D) → Q (.ref D) H') :
    tLc wi (gName j) tYes (tPop K iL te) vs σ H Q := by
  have hMv : ∀ i, M.contains i = true → i ∉ vs := fun i m hi => by
    have := List.all_eq_true.mp hvs i hi
    rw [m] at this
    cases this
  refine hi.sm R h1 fun J Hs1 H1 g1 Yl D hD => ?_
  have nD : Hs1 D = none := g1.sub.free hD
  have R1 := R.grow g1
  have h0D : H0 D = none := R1.g.ex.free hD
  have own0 : ∀ i d p, ρ[i]? = some (some d) → M.contains i = true → σ[i]? = some (some (.ref p)) → p ≠ D := fun i d p h m hs z => by
    obtain ⟨p', xs', ds', e1, e2, e3, _⟩ := R1.own i d h m
    rw [hs] at e2
    cases e2
    rw [z, hD] at e3
    cases e3
  refine ⟨fun i m H' => m = ds.length - i ∧ i ≤ ds.length ∧ ∃ Hsi ρi acc accd tail, Same Hs1 Hsi ∧ Hsi D = none ∧ SR K M Hs0 H0 Hsi H' (L2.wipe σ vs) ρi ∧ (∀ i d, ρi[i]? = some (some d) → M.contains i = true → ∃ d', ρ[i]? = some (some d')) ∧ (∀ i, i ≠ iL → ρi[i]? = (wipeR ρ vs)[i]?) ∧ H' D = some (.lst acc) ∧ DdAll K Hsi acc accd ∧ acc.length ≤ i ∧ popF j iL fe (ds.drop i) ρi = some tail ∧ accd ++ tail = res,
    ⟨ds.length, by simp, Nat.zero_le _, Hs1, wipeR ρ vs, [], [], res, Same.refl _, nD, ?_, fun i d h m => ⟨d, (wipeR_some h).1⟩, fun _ _ => rfl, upd_same, .nil, Nat.le_refl _, hp, rfl⟩, ?_⟩
  · refine (R1.wipe vs).other nD h0D (.inl hD) fun i d p h m hs => ?_
    obtain ⟨a1, a2⟩ := wipeR_some h
    rw [wipe_out a2] at hs
    exact own0 i d p a1 m hs
  · rintro i m H2 ⟨rfl, hle, Hsi, ρi, acc, accd, tail, e2, n2, R2, hown, hsame, hD2, d2, hacc, hcf, hres⟩
    by_cases hlt : i < ds.length
    · refine .inr ⟨Yl.go i H2 (e2.trans R2.sub) hlt, fun H' => i + 1 ≤ ds.length ∧ ∃ Hsi ρi acc accd tail, Same Hs1 Hsi ∧ Hsi D = none ∧ SR K M Hs0 H0 Hsi H' (L2.wipe σ vs) ρi ∧ (∀ i d, ρi[i]? = some (some d) → M.contains i = true → ∃ d', ρ[i]? = some (some d')) ∧ (∀ i, i ≠ iL → ρi[i]? = (wipeR ρ vs)[i]?) ∧ H' D = some (.lst acc) ∧ DdAll K Hsi acc accd ∧ acc.length ≤ i + 1 ∧ popF j iL fe (ds.drop (i + 1)) ρi = some tail ∧ accd ++ tail = res,
        fun H' ⟨a, b⟩ => ⟨ds.length - (i + 1), by omega, rfl, a, b⟩, fun x H3 hy => ?_⟩
      obtain ⟨Hs3, g3, d, hd, ad⟩ := Yl.yld i H2 x H3 Hsi hlt e2 R2.sub hy
      have ed : ds.drop i = d :: ds.drop (i + 1) := by
        have e1 := List.drop_eq_getElem_cons hlt
        have e2 : ds[i] = d := (List.getElem?_eq_some_iff.mp hd).2
        rw [e1, e2]
      rw [ed] at hcf
      unfold popF at hcf
      obtain ⟨L, c1, hcf⟩ := bind_some hcf
      obtain ⟨k, c2, hcf⟩ := bind_some hcf
      have R3 := R2.grow g3
      have R4 := R3.set (i := j) hMj ad
      have hρL := lstAt_some c1
      refine ⟨?_, ?_⟩
      · show L2.wipe ((L2.wipe σ vs).set j (some x)) vs = L2.wipe σ vs
        rw [wipe_set hj]
        exact wipe_wipe σ vs
      · unfold tYes
        dsimp only
        rw [if_pos rfl]
        obtain ⟨pL, xsL, f1, f2, f3, f4, f5⟩ := R4.ownAt hρL hML
        refine ⟨.ref pL, f1, .inl ⟨rfl, _, sqL_of f2⟩, he.sm R4 c2 fun v Hs5 H5 g5 d5 => ?_⟩
        cases d5 with
        | int k =>
          obtain ⟨hB, hcf⟩ := ite_get hcf
          obtain ⟨n, c3, hcf⟩ := bind_some hcf
          obtain ⟨y, c4, hcf⟩ := bind_some hcf
          obtain ⟨ys, c5, hcf⟩ := bind_some hcf
          obtain rfl := Option.some.inj hcf
          obtain ⟨yv, c6, c7⟩ := f5.get c4
          have hD5 : H5 D = some (.lst acc) := g5.ex _ _ (g3.ex _ _ hD2)
          have hpD : pL ≠ D := by
            have hneJ : j ≠ iL := fun z => by rw [z, hML] at hMj; cases hMj
            rw [List.getElem?_set_ne hneJ] at hρL f1
            obtain ⟨d', hd'⟩ := hown _ _ hρL hML
            rw [wipe_out (hMv _ hML)] at f1
            exact own0 _ _ _ hd' hML f1
          refine ⟨pL, xsL, k, n, yv, rfl, rfl, g5.ex _ _ f2, hB.1, hB.2, by rw [f5.length]; exact c3, c6, ?_⟩
          have n5 : Hs5 D = none := g5.new D (g3.new D n2 (by rw [hD2]; simp)) (by rw [g3.ex _ _ hD2]; simp)
          have R5 : SR K M Hs0 H0 Hs5 (L2.upd H5 pL (.lst (xsL.eraseIdx n))) (L2.wipe σ vs) (ρi.set iL (some (.list (L.eraseIdx n)))) := by
            have hneJ : j ≠ iL := fun z => by rw [z, hML] at hMj; cases hMj
            rw [List.getElem?_set_ne hneJ] at hρL f1
            exact (R3.grow g5).upd hML f1 ⟨_, hρL⟩ (g5.new pL f3 (by rw [f2]; simp)) f4 ((f5.mono g5.exs).erase n)
          have own5 : ∀ i d, (ρi.set iL (some (.list (L.eraseIdx n))))[i]? = some (some d) → M.contains i = true → ∃ d', ρ[i]? = some (some d') := fun i d h m => by
            by_cases hiL : iL = i
            · subst hiL
              have hneJ : j ≠ iL := fun z => by rw [z, hML] at hMj; cases hMj
              rw [List.getElem?_set_ne hneJ] at hρL
              exact hown _ _ hρL hML
            · rw [List.getElem?_set_ne hiL] at h
              exact hown i d h m
          refine ⟨acc, by rw [upd_ne hpD.symm]; exact hD5, szL (by omega), hlt, Hs5, ρi.set iL (some (.list (L.eraseIdx n))), acc ++ [yv], accd ++ [y], ys, (e2.trans g3.exs).trans g5.exs, n5, R5.other n5 h0D (.inr ⟨acc, by rw [upd_ne hpD.symm]; exact hD5⟩) ?_, own5, fun i hi => ?_, upd_same, ((d2.mono g3.exs).mono g5.exs).append (.cons (c7.mono g5.exs) .nil), ?_, c5, ?_⟩
          · intro i d p h m hs
            obtain ⟨d', hd'⟩ := own5 i d h m
            rw [wipe_out (hMv _ m)] at hs
            exact own0 _ _ _ hd' m hs
          · rw [List.getElem?_set_ne (fun z => hi z.symm)]
            exact hsame i hi
          · rw [List.length_append, List.length_singleton]
            omega
          · rw [List.append_assoc]
            exact hres
        | _ => cases hcf
    · have ei : i = ds.length := by omega
      subst ei
      rw [List.drop_length] at hcf
      unfold popF at hcf
      cases hcf
      rw [List.append_nil] at hres
      subst hres
      refine .inl ⟨Yl.stop _ H2 (e2.trans R2.sub) (Nat.le_refl _), q D acc Hsi H2 (g1.exs.trans e2) ?_ (g1.ex.free hD) n2 h0D hD2 d2 own0⟩
      have setNone : ∀ {i : Nat} {d : PyData}, (ρ.set iL none)[i]? = some (some d) → i ≠ iL ∧ ρ[i]? = some (some d) := fun {i d} h => by
        by_cases hj : iL = i
        · subst hj
          by_cases hi : iL < ρ.length
          · rw [List.getElem?_set_self hi] at h; cases h
          · rw [List.getElem?_eq_none (by simpa using hi)] at h; cases h
        · rw [List.getElem?_set_ne hj] at h
          exact ⟨fun z => hj z.symm, h⟩
      have wr : ∀ i, i ∉ vs → (wipeR ρ vs)[i]? = ρ[i]? := fun i => by
        have : ∀ (ws : List Nat), i ∉ ws → (wipeR ρ ws)[i]? = ρ[i]? := fun ws => by
          induction ws with
          | nil => intro _; rfl
          | cons w ws ih =>
            intro hw
            unfold wipeR
            rw [List.getElem?_set_ne (fun z => hw (by rw [z]; exact List.mem_cons_self)), ih (fun z => hw (List.mem_cons_of_mem _ z))]
        exact this vs
      refine ⟨R2.g, by rw [List.length_set]; exact R.len, fun i d h m => ?_, fun i d h m => ?_, fun i k di dk p h1 h2 m1 m2 h3 h4 => ?_, R.tb0⟩
      · obtain ⟨hne, h⟩ := setNone h
        obtain ⟨v, a, b⟩ := R.frz i d h m
        exact ⟨v, a, (b.mono g1.exs).mono e2⟩
      · obtain ⟨hne, h⟩ := setNone h
        have hi2 : ρi[i]? = some (some d) := by rw [hsame i hne, wr i (hMv i m)]; exact h
        obtain ⟨p', xs', ds', a1, a2, a3⟩ := R2.own i d hi2 m
        rw [wipe_out (hMv i m)] at a2
        exact ⟨p', xs', ds', a1, a2, a3⟩
      · exact R.sep i k di dk p (setNone h1).2 (setNone h2).2 m1 m2 h3 h4
/-- the fresh list at D, forgotten as such: it stands with the data -/
theorem SR.show {D : Addr} {acc : List V} {ds : List PyData} (r : SR K M Hs0 H0 Hs H σ ρ) (hn : Hs D = none) (h0 : H0 D = none) (hD : H D = some (.lst acc)) (t : DdAll K Hs acc ds) (ne : ∀ i d p, ρ[i]? = some (some d) → M.contains i = true → σ[i]? = some (some (.ref p)) → p ≠ D) :
    ∃ Hs', Same Hs Hs' ∧ SR K M Hs0 H0 Hs' H σ ρ ∧ Dd K Hs' (.ref D) (.list ds) := by
  have e1 : Same Hs (L2.upd Hs D (.lst acc)) := same_new hn
  refine ⟨L2.upd Hs D (.lst acc), e1, ⟨⟨r.g.ex, r.g.exs.trans e1, fun b o z => ?_, fun a z n => ?_⟩, r.len, fun i d h m => ?_, fun i d h m => ?_, r.sep, r.tb0⟩, .lst upd_same (t.mono e1)⟩
  · by_cases hb : b = D
    · subst hb; rw [upd_same] at z; rw [hD]; exact z
    · rw [upd_ne hb] at z; exact r.g.sub _ _ z
  · have : a ≠ D := fun y => n (by rw [y]; exact h0)
    rw [upd_ne this]; exact r.g.new a z n
  · obtain ⟨v, a, b⟩ := r.frz i d h m
    exact ⟨v, a, b.mono e1⟩
  · obtain ⟨p', xs', ds', a1, a2, a3, a4, a5, a6⟩ := r.own i d h m
    exact ⟨p', xs', ds', a1, a2, a3, by rw [upd_ne (ne i d p' h m a2)]; exact a4, a5, a6.mono e1⟩
@[simp] noncomputable def gSetPop (i j iL : Nat) (vs : List Nat) (h : Rho → Option (List PyData)) (fe : Fn) : Gn := fun ρ => (h ρ).bind fun ds => if ds.length ≤ 1000000 then (popF j iL fe ds (wipeR ρ vs)).bind fun ys => some (.nx ((ρ.set iL none).set i (some (.list ys)))) else none
/-- y = [x.pop(e) for k in ..] -/
theorem sd_setPop {tg iter : Expr} {scope : Scope} {pos1 py px cpos : Pos} {wi : TI} {h : Rho → Option (List PyData)} (i iL : Nat) {j : Nat} {y x : Str}
    (own : List (Str × Nat)) (hN : X.N.Nodup) (hi : ID K X M (Dd K) tg iter wi h) (ok : BlkOk X.N X.env.scope scope own)
    (hg : ∀ (s : Shared) (H : Hp) (C : Addr) (cl : List (Str × Addr)) (fp : List Addr), GD K (X.blk s H scope (compEnvC scope cl C X.env) fp) M (Dd K) [j] tg (gName j) (hName j))
    (hx : ∀ (s : Shared) (H : Hp) (C : Addr) (cl : List (Str × Addr)) (fp : List Addr), PE (X.blk s H scope (compEnvC scope cl C X.env) fp) (.Name x px) (tVar iL))
    (he : ∀ (s : Shared) (H : Hp) (C : Addr) (cl : List (Str × Addr)) (fp : List Addr), ED K (X.blk s H scope (compEnvC scope cl C X.env) fp) M e te fe)
    (hsw : swapsWith (.ListComp (.Call (.Attribute (.Name x px) "pop" apos) [e] [] cpos) [⟨tg, iter, [], 0⟩] scope pos1) (some (.Name y py)) pos.line X.env = pure true)
    (hy : X.N[i]? = some y := by rfl) (hyl : X.env.scope.names.lookup y = some .local := by rfl) (hM : M.contains i = false := by rfl) (hML : M.contains iL = true := by rfl) (hMj : M.contains j = false := by rfl) (hj : j ∈ own.map (·.2) := by decide) (hvs : (own.map (·.2)).all (fun i => !M.contains i) = true := by rfl)
    (hc : X.calm = true := by rfl) (hs : ∀ x, foldedSetIterable iter X.env x = pure x := by intro _; rfl)
    (hbase : ∀ (s : Shared) (H : Hp) (C : Addr) (cl : List (Str × Addr)) (fp : List Addr), attributeBase (.Name x px) "pop" (compEnvC scope cl C X.env) (eval (.Name x px) (compEnvC scope cl C X.env)) = eval (.Name x px) (compEnvC scope cl C X.env) := by intros; rfl)
    (hfew : ∀ (s : Shared) (H : Hp) (C : Addr) (cl : List (Str × Addr)) (fp : List Addr), ((backTo cpos (starEach [e] (compEnvC scope cl C X.env))).all (fun x => !x.1) && (backToKw cpos (keywordEach [] (compEnvC scope cl C X.env))).all (fun x => x.1.isSome)
      && decide ([e].length + ([] : List Keyword).length + (if ([] : List Keyword).isEmpty then 0 else 1) < 30)) = true := by intros; rfl)
    (hline : (apos.endLine == cpos.line) = true := by rfl) (hst : ∀ (s : Shared) (H : Hp) (C : Addr) (cl : List (Str × Addr)) (fp : List Addr), starEach [e] (compEnvC scope cl C X.env) = (false, eval e (compEnvC scope cl C X.env)) :: starEach [] (compEnvC scope cl C X.env) := by intros; rfl) (hK : X.K = K := by rfl) :
    SD K xc X M W (.Assign [.Name y py] (.ListComp (.Call (.Attribute (.Name x px) "pop" apos) [e] [] cpos) [⟨tg, iter, [], 0⟩] scope pos1) pos) (tAsg (tLc wi (gName j) tYes (tPop K iL te) (own.map (·.2))) (gName i)) (gSetPop i j iL (own.map (·.2)) h fe) := by
  subst hK
  refine ⟨ps_setLc hc hN hy hyl hsw hi.pi ok (fun s H C cl fp => (hg s H C cl fp).pg) (fun s H C cl fp => pts_nil)
    (fun s H C cl fp => pe_bm PySem.F.plainAttrs_list PySem.F.slot_list_pop PySem.F.type_list_pop mt_popAt (hx s H C cl fp) (pa_cons (he s H C cl fp).pe pa_nil (hst s H C cl fp)) (hbase s H C cl fp) (hfew s H C cl fp) hline (hst s H C cl fp) rfl) hs, fun {Hs0 H0 Hs H σ ρ r D} R hf o => ?_⟩
  obtain ⟨ds, h1, hf⟩ := bind_some hf
  obtain ⟨hl, hf⟩ := ite_get hf
  obtain ⟨ys, h2, hf⟩ := bind_some hf
  obtain rfl := Option.some.inj hf
  refine lcPop hi _ (he X.s_0 (fun _ => none) 0 [] []) hML hMj hj hvs R h1 hl h2 fun Da acc Hs' H' e1 R' hD hn h0 hD' t ne => ?_
  obtain ⟨Hs2, e2, R2, d2⟩ := R'.show hn h0 hD' t fun i d p h m hs => by
    by_cases hiL : iL = i
    · subst hiL
      by_cases hi : iL < ρ.length
      · rw [List.getElem?_set_self hi] at h; cases h
      · rw [List.getElem?_eq_none (by simpa using hi)] at h; cases h
    · rw [List.getElem?_set_ne hiL] at h
      exact ne i d p h m hs
  exact o Hs2 H' _ (e1.trans e2) (R2.set hM d2)
/-- return tuple([x.pop(e) for k in ..]) -/
@[simp] noncomputable def gRetPop (j iL : Nat) (vs : List Nat) (h : Rho → Option (List PyData)) (fe : Fn) : Gn := fun ρ => (h ρ).bind fun ds => if ds.length ≤ 1000000 then (popF j iL fe ds (wipeR ρ vs)).bind fun ys => some (.ret (.tuple ys)) else none
theorem sd_retPop {tg iter : Expr} {scope : Scope} {pos1 px cpos tp p2 : Pos} {wi : TI} {h : Rho → Option (List PyData)} (iL : Nat) {j : Nat} {x : Str}
    (own : List (Str × Nat)) (hN : X.N.Nodup) (hi : ID K X M (Dd K) tg iter wi h) (ok : BlkOk X.N X.env.scope scope own)
    (hg : ∀ (s : Shared) (H : Hp) (C : Addr) (cl : List (Str × Addr)) (fp : List Addr), GD K (X.blk s H scope (compEnvC scope cl C X.env) fp) M (Dd K) [j] tg (gName j) (hName j))
    (hx : ∀ (s : Shared) (H : Hp) (C : Addr) (cl : List (Str × Addr)) (fp : List Addr), PE (X.blk s H scope (compEnvC scope cl C X.env) fp) (.Name x px) (tVar iL))
    (he : ∀ (s : Shared) (H : Hp) (C : Addr) (cl : List (Str × Addr)) (fp : List Addr), ED K (X.blk s H scope (compEnvC scope cl C X.env) fp) M e te fe)
    (hm : X.mg "tuple" = none) (hgl : Gl X "tuple" := by rfl)
    (hML : M.contains iL = true := by rfl) (hMj : M.contains j = false := by rfl) (hj : j ∈ own.map (·.2) := by decide) (hvs : (own.map (·.2)).all (fun i => !M.contains i) = true := by rfl)
    (hc : X.calm = true := by rfl) (hs : ∀ x, foldedSetIterable iter X.env x = pure x := by intro _; rfl)
    (hbase : ∀ (s : Shared) (H : Hp) (C : Addr) (cl : List (Str × Addr)) (fp : List Addr), attributeBase (.Name x px) "pop" (compEnvC scope cl C X.env) (eval (.Name x px) (compEnvC scope cl C X.env)) = eval (.Name x px) (compEnvC scope cl C X.env) := by intros; rfl)
    (hfew : ∀ (s : Shared) (H : Hp) (C : Addr) (cl : List (Str × Addr)) (fp : List Addr), ((backTo cpos (starEach [e] (compEnvC scope cl C X.env))).all (fun x => !x.1) && (backToKw cpos (keywordEach [] (compEnvC scope cl C X.env))).all (fun x => x.1.isSome)
      && decide ([e].length + ([] : List Keyword).length + (if ([] : List Keyword).isEmpty then 0 else 1) < 30)) = true := by intros; rfl)
    (hline : (apos.endLine == cpos.line) = true := by rfl) (hst : ∀ (s : Shared) (H : Hp) (C : Addr) (cl : List (Str × Addr)) (fp : List Addr), starEach [e] (compEnvC scope cl C X.env) = (false, eval e (compEnvC scope cl C X.env)) :: starEach [] (compEnvC scope cl C X.env) := by intros; rfl) (hK : X.K = K := by rfl)
    (hes : starEach [.ListComp (.Call (.Attribute (.Name x px) "pop" apos) [e] [] cpos) [⟨tg, iter, [], 0⟩] scope pos1] X.env = (false, eval (.ListComp (.Call (.Attribute (.Name x px) "pop" apos) [e] [] cpos) [⟨tg, iter, [], 0⟩] scope pos1) X.env) :: starEach [] X.env := by rfl) :
    SD K xc X M W (.Return (some (.Call (.Name "tuple" tp) [.ListComp (.Call (.Attribute (.Name x px) "pop" apos) [e] [] cpos) [⟨tg, iter, [], 0⟩] scope pos1] [] p2)) pos)
      (tRet (tCB (fun xs H Q => ∃ p ys, xs = [.ref p] ∧ ((SqL K H p ys ∧ NewT Q H ys) ∨ (SqT K H p ys ∧ Q (.ref p) H))) (tCons (tLc wi (gName j) tYes (tPop K iL te) (own.map (·.2))) tNil))) (gRetPop j iL (own.map (·.2)) h fe) := by
  subst hK
  refine ⟨ps_ret (pe_callTy call_tupN hgl hm boot_tuple (pa_cons (pe_lc hc hN hi.pi ok (fun s H C cl fp => (hg s H C cl fp).pg) (fun s H C cl fp => pts_nil)
    (fun s H C cl fp => pe_bm PySem.F.plainAttrs_list PySem.F.slot_list_pop PySem.F.type_list_pop mt_popAt (hx s H C cl fp) (pa_cons (he s H C cl fp).pe pa_nil (hst s H C cl fp)) (hbase s H C cl fp) (hfew s H C cl fp) hline (hst s H C cl fp) rfl) hs) pa_nil hes) (by decide) (by decide) hes rfl), fun {Hs0 H0 Hs H σ ρ r D} R hf o => ?_⟩
  obtain ⟨ds, h1, hf⟩ := bind_some hf
  obtain ⟨hl, hf⟩ := ite_get hf
  obtain ⟨ys, h2, hf⟩ := bind_some hf
  obtain rfl := Option.some.inj hf
  show tLc wi (gName j) tYes (tPop X.K iL te) (own.map (·.2)) σ H (fun x H1 => ∃ p ys, [x] = [V.ref p] ∧ ((SqL X.K H1 p ys ∧ NewT D.rt H1 ys) ∨ (SqT X.K H1 p ys ∧ D.rt (.ref p) H1)))
  refine lcPop hi _ (he X.s_0 (fun _ => none) 0 [] []) hML hMj hj hvs R h1 hl h2 fun Da acc Hs' H' e1 R' hD hn h0 hD' t ne => ?_
  exact ⟨Da, acc, rfl, .inl ⟨sqL_of hD', NewT.of (Hs := Hs0) (H := H0) R'.g t fun v Hs3 H3 g3 d3 => o v Hs3 H3 g3 d3⟩⟩
end
end DL

namespace DL
open PySem PySem.Spec PyProof.Rows L2
variable [Tabl]
/-! ### the law's end -/
def spLaw (K : PySem.W.Frag) : Sp := fun vs H Q _ => ∃ (a : Addr) (ns : List Int), vs = [.ref a] ∧ SqL K H a (ns.map V.int) ∧ LamX.Tabs Tabl.T H ∧ ns.length ≤ 63 ∧ ∀ H', Q (.bl true) H'
theorem spLaw_of {K : PySem.W.Frag} {xc : Nat → Addr} {φ : List PyData → Option (Except Nat PyData)} (h : ∀ ns : List Int, ns.length ≤ 63 → φ [.dict (scrK ns)] = some (.ok (.bool true))) : ∀ vs H Q E, spLaw K vs H Q E → spX K 1 xc φ vs H Q E := fun vs H Q E hs => by
  obtain ⟨a, ns, rfl, hS, ht, hl, q⟩ := hs
  have e : Same (fun b => if b ∈ Tabl.T.map (·.1) then none else H b) H := fun b o z => by
    replace z : (if b ∈ Tabl.T.map (·.1) then none else H b) = some o := z
    by_cases hb : b ∈ Tabl.T.map (·.1)
    · rw [if_pos hb] at z; cases z
    · rw [if_neg hb] at z; exact z
  have hS' : SqL K (fun b => if b ∈ Tabl.T.map (·.1) then none else H b) a (ns.map V.int) := by
    have out : ∀ u, H a = some u → (∀ ps, u ≠ .tbl ps) → a ∉ Tabl.T.map (·.1) := fun u z n hm => by
      obtain ⟨p, hp, rfl⟩ := List.mem_map.mp hm
      obtain ⟨ps, e1, _⟩ := ht p hp
      rw [z] at e1
      exact n ps (Option.some.inj e1)
    rcases hS with (z | ⟨o, z⟩) | z
    · exact .inl (.inl (by
        show (if a ∈ Tabl.T.map (·.1) then none else H a) = _
        rw [if_neg (out _ z (fun ps q => by cases q))]; exact z))
    · exact .inl (.inr ⟨o, by
        show (if a ∈ Tabl.T.map (·.1) then none else H a) = _
        rw [if_neg (out _ z (fun ps q => by cases q))]; exact z⟩)
    · exact .inr z
  refine ⟨rfl, _, _, _, e, ⟨ht, fun p hp => if_pos (List.mem_map_of_mem hp)⟩, .cons (.scr hS') .nil, h ns hl, fun v Hs' H' g d => ?_⟩
  cases d
  exact q H'
theorem no_cx {P : Program} {w : World} {H : Hp} {s : Shared} {e : Value} {s' : Shared} (h : L2.CX P w [] H s (fun _ _ _ => False) e s') : False := by
  obtain ⟨_, _, _, _, _, _, _, _, _, _, _, _, z⟩ := h
  exact z

/-! ### what the combinators reckon -/
def mapD (to : Int) (row : List Int) : PyData := .tuple [.int to, .tuple (row.map .int)]
theorem compF_map {tg : PyData → Rho → Option Rho} {c : Rho → Option Bool} {f : Fn} {ρ : Rho} {g : PyData → PyData} : ∀ {ds : List PyData}, (∀ d ∈ ds, ∃ ρ1, tg d ρ = some ρ1 ∧ c ρ1 = some true ∧ f ρ1 = some (g d)) → compF tg c f ρ ds = some (ds.map g)
  | [], _ => rfl
  | d :: ds, h => by
    obtain ⟨ρ1, h1, h2, h3⟩ := h d List.mem_cons_self
    unfold compF
    rw [h1, Option.bind_some, h2, Option.bind_some, if_pos rfl, h3, Option.bind_some, compF_map (fun x hx => h x (List.mem_cons_of_mem _ hx)), Option.bind_some]
    rfl
theorem compF_filter {tg : PyData → Rho → Option Rho} {c : Rho → Option Bool} {f : Fn} {ρ : Rho} {g : PyData → PyData} {p : PyData → Bool} : ∀ {ds : List PyData}, (∀ d ∈ ds, ∃ ρ1, tg d ρ = some ρ1 ∧ c ρ1 = some (p d) ∧ (p d = true → f ρ1 = some (g d))) → compF tg c f ρ ds = some ((ds.filter p).map g)
  | [], _ => rfl
  | d :: ds, h => by
    obtain ⟨ρ1, h1, h2, h3⟩ := h d List.mem_cons_self
    have ih := compF_filter (f := f) (c := c) (tg := tg) (ρ := ρ) (g := g) (p := p) (fun x hx => h x (List.mem_cons_of_mem _ hx))
    unfold compF
    rw [h1, Option.bind_some, h2, Option.bind_some]
    cases hp : p d with
    | true =>
      rw [if_pos rfl, h3 hp, Option.bind_some, ih, Option.bind_some, List.filter_cons_of_pos hp]
      rfl
    | false =>
      rw [if_neg Bool.false_ne_true, ih, List.filter_cons_of_neg (by rw [hp]; exact Bool.false_ne_true)]
/-- a loop whose turns all go on -/
theorem forF_nx {tg : PyData → Rho → Option Rho} {b : Gn} (P : Rho → Prop) : ∀ {ds : List PyData} {ρ : Rho}, (∀ d ∈ ds, ∀ ρ, P ρ → ∃ ρ1 ρ', tg d ρ = some ρ1 ∧ b ρ1 = some (.nx ρ') ∧ P ρ') → P ρ → ∃ ρ', forF tg b ds ρ = some (.nx ρ') ∧ P ρ'
  | [], ρ, _, h => ⟨ρ, rfl, h⟩
  | d :: ds, ρ, h, hp => by
    obtain ⟨ρ1, ρ2, h1, h2, h3⟩ := h d List.mem_cons_self ρ hp
    obtain ⟨ρ', h4, h5⟩ := forF_nx P (fun x hx => h x (List.mem_cons_of_mem _ hx)) h3
    refine ⟨ρ', ?_, h5⟩
    unfold forF
    rw [h1, Option.bind_some, h2, Option.bind_some]
    exact h4
theorem scr_get (ns : List Int) (k : Nat) : (scrK ns)[k]? = (ns[k]?).map fun n => (PyData.int n, PyData.none) := by
  unfold scrK
  rw [List.getElem?_map]
theorem blk_nx {g1 g2 : Gn} {ρ ρ' : Rho} (h : g1 ρ = some (.nx ρ')) : gBlk g1 g2 ρ = g2 ρ' := by
  unfold gBlk
  rw [h]
  rfl
theorem blk_ret {g1 g2 : Gn} {ρ : Rho} {d : PyData} (h : g1 ρ = some (.ret d)) : gBlk g1 g2 ρ = some (.ret d) := by
  unfold gBlk
  rw [h]
  rfl
theorem blk_exc {g1 g2 : Gn} {ρ ρ' : Rho} {c : Nat} (h : g1 ρ = some (.exc c ρ')) : gBlk g1 g2 ρ = some (.exc c ρ') := by
  unfold gBlk
  rw [h]
  rfl
theorem if_t {c : Rho → Option Bool} {g1 g2 : Gn} {ρ : Rho} (h : c ρ = some true) : gIf c g1 g2 ρ = g1 ρ := by
  unfold gIf
  rw [h]
  rfl
theorem if_f {c : Rho → Option Bool} {g1 g2 : Gn} {ρ : Rho} (h : c ρ = some false) : gIf c g1 g2 ρ = g2 ρ := by
  unfold gIf
  rw [h]
  rfl
theorem rgD_zero (n : Nat) : rgD 0 n = (List.range n).map fun (i : Nat) => PyData.int i := by
  unfold rgD
  refine List.map_congr_left fun i _ => ?_
  rw [Int.zero_add]
theorem rgD_mem {lo : Int} {n : Nat} {d : PyData} (h : d ∈ rgD lo n) : ∃ i : Nat, i < n ∧ d = .int (lo + i) := by
  unfold rgD at h
  obtain ⟨i, h1, h2⟩ := List.mem_map.mp h
  exact ⟨i, List.mem_range.mp h1, h2.symm⟩
theorem compF_list {tg : PyData → Rho → Option Rho} {f : Fn} {ρ : Rho} {α : Type} {w : α → PyData} {g : α → PyData} : ∀ {l : List α}, (∀ a ∈ l, ∃ ρ1, tg (w a) ρ = some ρ1 ∧ f ρ1 = some (g a)) → compF tg cYes f ρ (l.map w) = some (l.map g)
  | [], _ => rfl
  | a :: l, h => by
    obtain ⟨ρ1, h1, h2⟩ := h a List.mem_cons_self
    rw [List.map_cons, List.map_cons]
    unfold compF
    rw [h1, Option.bind_some]
    unfold cYes
    rw [Option.bind_some, if_pos rfl, h2, Option.bind_some]
    have ih := compF_list (tg := tg) (f := f) (ρ := ρ) (w := w) (g := g) (fun x hx => h x (List.mem_cons_of_mem _ hx))
    unfold cYes at ih
    rw [ih, Option.bind_some]
theorem compF_listF {tg : PyData → Rho → Option Rho} {c : Rho → Option Bool} {f : Fn} {ρ : Rho} {α : Type} {w : α → PyData} {g : α → PyData} {p : α → Bool} : ∀ {l : List α}, (∀ a ∈ l, ∃ ρ1, tg (w a) ρ = some ρ1 ∧ c ρ1 = some (p a) ∧ (p a = true → f ρ1 = some (g a))) → compF tg c f ρ (l.map w) = some ((l.filter p).map g)
  | [], _ => rfl
  | a :: l, h => by
    obtain ⟨ρ1, h1, h2, h3⟩ := h a List.mem_cons_self
    have ih := compF_listF (tg := tg) (c := c) (f := f) (ρ := ρ) (w := w) (g := g) (p := p) (fun x hx => h x (List.mem_cons_of_mem _ hx))
    rw [List.map_cons]
    unfold compF
    rw [h1, Option.bind_some, h2, Option.bind_some]
    cases hp : p a with
    | true => rw [if_pos rfl, h3 hp, Option.bind_some, ih, Option.bind_some, List.filter_cons_of_pos hp]; rfl
    | false => rw [if_neg Bool.false_ne_true, ih, List.filter_cons_of_neg (by rw [hp]; exact Bool.false_ne_true)]
/-- [.. for x in range(n)] -/
theorem lc_rg {vs : List Nat} {j : Nat} {fn f : Fn} {ρ : Rho} {n : Int} {g : Nat → PyData} (h1 : fn ρ = some (.int n)) (hn : -1000000 ≤ n ∧ n ≤ 1000000) (h : ∀ i : Nat, (i : Int) < n → f ((wipeR ρ vs).set j (some (.int i))) = some (g i)) :
    fLc vs (iR1 fn) (hName j) cYes f ρ = some ((List.range n.toNat).map g) := by
  have hb : B62 n := ⟨by omega, by omega⟩
  unfold fLc iR1
  rw [h1, Option.bind_some]
  show (if B62 n then some (rgD 0 n.toNat) else none).bind _ = _
  rw [if_pos hb, Option.bind_some, if_pos (by rw [rgD_len]; omega), rgD_zero]
  refine compF_list fun i hi => ⟨_, rfl, h i ?_⟩
  have := List.mem_range.mp hi
  omega
theorem lc_rgF {vs : List Nat} {j : Nat} {fn f : Fn} {c : Rho → Option Bool} {ρ : Rho} {n : Int} {g : Nat → PyData} {p : Nat → Bool} (h1 : fn ρ = some (.int n)) (hn : -1000000 ≤ n ∧ n ≤ 1000000) (h : ∀ i : Nat, (i : Int) < n → c ((wipeR ρ vs).set j (some (.int i))) = some (p i) ∧ (p i = true → f ((wipeR ρ vs).set j (some (.int i))) = some (g i))) :
    fLc vs (iR1 fn) (hName j) c f ρ = some (((List.range n.toNat).filter p).map g) := by
  have hb : B62 n := ⟨by omega, by omega⟩
  unfold fLc iR1
  rw [h1, Option.bind_some]
  show (if B62 n then some (rgD 0 n.toNat) else none).bind _ = _
  rw [if_pos hb, Option.bind_some, if_pos (by rw [rgD_len]; omega), rgD_zero]
  refine compF_listF fun i hi => ⟨_, rfl, h i ?_⟩
  have := List.mem_range.mp hi
  omega
/-- [.. for x in a tuple or list of things] -/
theorem lc_sq {vs : List Nat} {j : Nat} {fs f : Fn} {ρ : Rho} {α : Type} {w : α → PyData} {l : List α} {g : α → PyData} {d : PyData} (h1 : fs ρ = some d) (hd : seqD d = some (l.map w)) (hl : l.length ≤ 1000000) (h : ∀ a ∈ l, f ((wipeR ρ vs).set j (some (w a))) = some (g a)) :
    fLc vs (iSq fs) (hName j) cYes f ρ = some (l.map g) := by
  unfold fLc iSq
  rw [h1, Option.bind_some, hd, Option.bind_some, if_pos (by rw [List.length_map]; exact hl)]
  exact compF_list fun a ha => ⟨_, rfl, h a ha⟩
theorem lc_sqF {vs : List Nat} {j : Nat} {fs f : Fn} {c : Rho → Option Bool} {ρ : Rho} {α : Type} {w : α → PyData} {l : List α} {g : α → PyData} {p : α → Bool} {d : PyData} (h1 : fs ρ = some d) (hd : seqD d = some (l.map w)) (hl : l.length ≤ 1000000) (h : ∀ a ∈ l, c ((wipeR ρ vs).set j (some (w a))) = some (p a) ∧ (p a = true → f ((wipeR ρ vs).set j (some (w a))) = some (g a))) :
    fLc vs (iSq fs) (hName j) c f ρ = some ((l.filter p).map g) := by
  unfold fLc iSq
  rw [h1, Option.bind_some, hd, Option.bind_some, if_pos (by rw [List.length_map]; exact hl)]
  exact compF_listF fun a ha => ⟨_, rfl, h a ha⟩
theorem erase_map {α β : Type} (f : α → β) : ∀ (L : List α) (k : Nat), (L.map f).eraseIdx k = (L.eraseIdx k).map f
  | [], _ => rfl
  | _ :: _, 0 => rfl
  | a :: L, k + 1 => by
    show f a :: (L.map f).eraseIdx k = f a :: (L.eraseIdx k).map f
    rw [erase_map f L k]
/-- what popping leaves and gives -/
theorem popF_ok {j iL : Nat} {fe : Fn} (hne : j ≠ iL) : ∀ {ds : List PyData} {ρ : Rho} {L : List Int}, ρ[iL]? = some (some (.list (L.map PyData.int))) → ds.length ≤ L.length → L.length ≤ 1000000 →
    (∀ (i : Nat) d, ds[i]? = some d → ∀ L' : List Int, L'.length = L.length - i → ∃ k : Int, fe ((ρ.set iL (some (.list (L'.map PyData.int)))).set j (some d)) = some (.int k) ∧ 0 ≤ k ∧ k < L'.length) →
    ∃ ys rest : List Int, popF j iL fe ds ρ = some (ys.map PyData.int) ∧ ys.length = ds.length ∧ (ys ++ rest).Perm L
  | [], ρ, L, _, _, _, _ => ⟨[], L, rfl, rfl, List.Perm.refl _⟩
  | d :: ds, ρ, L, hL, hlen, hz, h => by
    have hi : iL < ρ.length := (List.getElem?_eq_some_iff.mp hL).1
    have e0 : ρ.set iL (some (.list (L.map PyData.int))) = ρ := by
      refine List.ext_getElem? fun i => ?_
      by_cases hii : iL = i
      · subst hii
        rw [List.getElem?_set_self hi, hL]
      · rw [List.getElem?_set_ne hii]
    obtain ⟨k, hk, k0, k1⟩ := h 0 d rfl L (by omega)
    rw [e0] at hk
    have hB : B63 k := ⟨by omega, by omega⟩
    have hget : lstAt iL (ρ.set j (some d)) = some (L.map PyData.int) := by
      unfold lstAt
      rw [List.getElem?_set_ne hne, hL]
    have hix : seqIndex? k (L.map PyData.int).length = some k.toNat := PySem.StrLaws.seqIndex_nonneg k0 (by rw [List.length_map]; exact k1)
    have hkl : k.toNat < L.length := by omega
    have hat : (L.map PyData.int)[k.toNat]? = some (.int L[k.toNat]) := by
      rw [List.getElem?_map, List.getElem?_eq_getElem hkl]
      rfl
    have hlen' : ds.length + 1 ≤ L.length := hlen
    have el : (L.eraseIdx k.toNat).length = L.length - 1 := List.length_eraseIdx_of_lt hkl
    obtain ⟨ys, rest, h1, h2, h3⟩ := popF_ok hne (ds := ds) (ρ := ρ.set iL (some (.list ((L.eraseIdx k.toNat).map PyData.int)))) (L := L.eraseIdx k.toNat) (List.getElem?_set_self hi) (by omega) (by omega) (fun i d' hd' L' hL' => by
      rw [List.set_set]
      exact h (i + 1) d' hd' L' (by omega))
    refine ⟨L[k.toNat] :: ys, rest, ?_, by rw [List.length_cons, List.length_cons, h2], ?_⟩
    · unfold popF
      rw [hget, Option.bind_some, hk, Option.bind_some]
      show (if B63 k then (seqIndex? k (L.map PyData.int).length).bind _ else none) = _
      rw [if_pos hB, hix, Option.bind_some, hat, Option.bind_some]
      have em : (L.map PyData.int).eraseIdx k.toNat = (L.eraseIdx k.toNat).map PyData.int := by
        rw [erase_map]
      rw [em, h1, Option.bind_some]
      rfl
    · rw [List.cons_append]
      refine (List.Perm.cons _ h3).trans ?_
      have : (L[k.toNat] :: L.eraseIdx k.toNat).Perm L := by
        have e1 : L = L.take k.toNat ++ L[k.toNat] :: L.drop (k.toNat + 1) := by
          rw [← List.drop_eq_getElem_cons hkl, List.take_append_drop]
        have e2 : L.eraseIdx k.toNat = L.take k.toNat ++ L.drop (k.toNat + 1) := List.eraseIdx_eq_take_drop_succ L k.toNat
        rw [e2]
        refine List.Perm.trans ?_ (List.Perm.of_eq e1.symm)
        exact List.perm_middle.symm
      exact this
theorem def_ret {n N : Nat} {g : Gn} {ds : List PyData} {d : PyData} (hl : ds.length = n) (h : g (ds.map some ++ List.replicate (N - ds.length) none) = some (.ret d)) : defN n N g ds = some (.ok d) := by
  unfold defN runDef
  rw [if_pos hl, h]
theorem def_nx {n N : Nat} {g : Gn} {ds : List PyData} {ρ : Rho} (hl : ds.length = n) (h : g (ds.map some ++ List.replicate (N - ds.length) none) = some (.nx ρ)) : defN n N g ds = some (.ok .none) := by
  unfold defN runDef
  rw [if_pos hl, h]
theorem def_exc {n N : Nat} {g : Gn} {ds : List PyData} {ρ : Rho} {c : Nat} (hl : ds.length = n) (h : g (ds.map some ++ List.replicate (N - ds.length) none) = some (.exc c ρ)) : defN n N g ds = some (.error c) := by
  unfold defN runDef
  rw [if_pos hl, h]
theorem bi1 {g : List PyData → Option PyData} {f : Fn} {ρ : Rho} {d : PyData} (h : f ρ = some d) : fBi g (fCons f fNil) ρ = g [d] := by
  unfold fBi fCons fNil
  rw [h]
  rfl
theorem fFr_of {fl : Rho → Option (List PyData)} {ρ : Rho} {l : List PyData} (h : fl ρ = some l) : fFr fl ρ = some (.list l) := by
  unfold fFr
  rw [h]
  rfl
end DL

namespace DL
open PySem PySem.Spec PyProof.Rows L2
variable [Tabl]
section
variable {K : PySem.W.Frag} {X : Cx} {M : List Nat} {xc : Nat → Addr} {W W' : WX} {Hs0 H0 Hs H Hs1 : Hp} {D : Ends}
/-! ### try, one clause without a name -/
theorem outOk_w {r : Out} (hne : ∀ c ρ, r ≠ .exc c ρ) (o : OutOk K xc M Hs0 H0 Hs W D r) : OutOk K xc M Hs0 H0 Hs W' D r := by
  cases r with
  | exc c ρ => exact absurd rfl (hne c ρ)
  | nx ρ => exact o
  | ret d => exact o
  | brk ρ => exact o
  | ct ρ => exact o
@[simp] def noExc : Out → Option Out
  | .exc _ _ => none
  | r => some r
theorem noExc_some {r r' : Out} (h : noExc r = some r') : r' = r ∧ ∀ c ρ, r ≠ .exc c ρ := by
  cases r with
  | exc c ρ => cases h
  | _ => cases h; exact ⟨rfl, fun _ _ z => by cases z⟩
@[simp] def gTry (c : Nat) (gb gs : Gn) : Gn := fun ρ => (gb ρ).bind fun r => match r with
  | .exc c' ρ' => if c' = c then (gs ρ').bind noExc else none
  | r => some r
variable {body suite : List Stmt} {b₀ : Stmt} {np pos pos' : Pos} {x : Str} {C : Value} {tb : WX → TS} {ts : TS} {gb gs : Gn}
theorem sd_tryOnly (c : Nat) (hc : Names X x C) (tk : Takes X W) (hxm : PySem.W.exmOne X.K (.ref (xc c)) C = some true)
    (hb : ∀ (W : WX) (pn : List (Addr × Obj)) (xe : Value → Shared → Prop), Takes (X.tr pn xe) W → SS K xc (X.tr pn xe) M W body (tb W) gb)
    (hsu : ∀ (a : Addr) (oe : Obj) (pn : List (Addr × Obj)), SS K xc (X.suite a ((a, oe) :: pn)) M (fun _ _ _ _ => False) (b₀ :: suite) ts gs)
    (hs : X.stack = X.env :: X.outer := by rfl) (hf : X.env.frame = some X.env.locals := by rfl) :
    SD K xc X M W (.Try body [.ExceptHandler (some (.Name x np)) none (b₀ :: suite) pos'] [] [] pos) (fun D σ H => tb (wOnly X.K C (fun _ _ _ => ts) W D) D σ H) (gTry c gb gs) :=
  ⟨ps_try_only (ts := fun _ _ _ => ts) hs hf hc tk (fun W pn xe t _ => (hb W pn xe t).ps) (fun a oe cls d pn _ _ => (hsu a oe pn).ps), fun {Hs0 H0 Hs H σ ρ r D} R hf' o => by
    obtain ⟨r1, h1, h2⟩ := bind_some hf'
    refine (hb (wOnly X.K C (fun _ _ _ => ts) W D) [] (fun _ _ => True) (fun _ _ _ => trivial)).sm R h1 ?_
    cases r1 with
    | exc c' ρ' =>
      obtain ⟨hcc, h5⟩ := ite_get h2
      subst hcc
      obtain ⟨r2, h3, h4⟩ := bind_some h5
      obtain ⟨rfl, hne⟩ := noExc_some h4
      exact fun Hs' H' σ' e' R' => ⟨true, hxm, fun _ a _ => (hsu 0 ⟨.none, none, .fields #[], #[]⟩ []).sm R' h3 (outOk_w hne (o.up e')), fun z => by cases z⟩
    | nx ρ => obtain rfl := Option.some.inj h2; exact o
    | ret d => obtain rfl := Option.some.inj h2; exact o
    | brk ρ => obtain rfl := Option.some.inj h2; exact o
    | ct ρ => obtain rfl := Option.some.inj h2; exact o⟩

/-! ### try, one clause with a name: the suite asks isinstance of it -/
structure SX (K : PySem.W.Frag) (xc : Nat → Addr) (X : Cx) (M : List Nat) (i c : Nat) (st : List Stmt) (t : Addr → Value → Option Addr → TS) (g : Gn) : Prop where
  ps : ∀ (a : Addr) (oe : Obj) (cls : Value) (d : Option Addr) (pn : List (Addr × Obj)), Zc cls d oe → (∃ vs, oe.data = .fields vs) → PSs (X.suite a ((a, oe) :: pn)) st (t a cls d)
  sm : ∀ {Hs0 H0 Hs H : Hp} {σ : L2.St} {ρ : Rho} {r : Out} {D : Ends} (a : Addr), SR K M Hs0 H0 Hs H σ ρ → ρ[i]? = some none → σ[i]? = some (some (.ref a)) → g ρ = some r → OutOk K xc M Hs0 H0 Hs (fun _ _ _ _ => False) D r → t a (.ref (xc c)) none D σ H
@[simp] def isN : Option (Option PyData) → Bool
  | some none => true
  | _ => false
theorem isN_some {o : Option (Option PyData)} (h : isN o = true) : o = some none := by
  cases o with
  | none => cases h
  | some a =>
    cases a with
    | none => rfl
    | some b => cases h
@[simp] def keepN (i : Nat) : Out → Option Out
  | .nx ρ => if isN ρ[i]? = true then some (.nx ρ) else none
  | _ => none
@[simp] def gTryAs (c i : Nat) (gb gs : Gn) : Gn := fun ρ => (gb ρ).bind fun r => match r with
  | .exc c' ρ' => if c' = c then (if isN ρ'[i]? = true then (gs ρ').bind (keepN i) else none) else none
  | r => some r
theorem SR.none {σ : L2.St} {ρ : Rho} {i : Nat} (R : SR K M Hs0 H0 Hs H σ ρ) (h : ρ[i]? = some none) (y : Option V) : SR K M Hs0 H0 Hs H (σ.set i y) ρ := by
  have ne : ∀ {j : Nat} {d : PyData}, ρ[j]? = some (some d) → i ≠ j := fun {j d} e z => by subst z; rw [h] at e; cases e
  refine ⟨R.g, by rw [List.length_set]; exact R.len, fun j d e m => ?_, fun j d e m => ?_, fun j k dj dk p e1 e2 m1 m2 s1 s2 => ?_, R.tb0⟩
  · obtain ⟨v, a, b⟩ := R.frz j d e m
    exact ⟨v, by rw [List.getElem?_set_ne (ne e)]; exact a, b⟩
  · obtain ⟨p, xs, ds, a, b, c⟩ := R.own j d e m
    exact ⟨p, xs, ds, a, by rw [List.getElem?_set_ne (ne e)]; exact b, c⟩
  · rw [List.getElem?_set_ne (ne e1)] at s1
    rw [List.getElem?_set_ne (ne e2)] at s2
    exact R.sep j k dj dk p e1 e2 m1 m2 s1 s2
theorem sd_tryAs (c i : Nat) {n : Str} {tx : Addr → Value → Option Addr → TS} (hN : X.N.Nodup) (hc : Names X x C) (tk : Takes X W) (hxm : PySem.W.exmOne X.K (.ref (xc c)) C = some true)
    (hb : ∀ (W : WX) (pn : List (Addr × Obj)) (xe : Value → Shared → Prop), Takes (X.tr pn xe) W → SS K xc (X.tr pn xe) M W body (tb W) gb)
    (hsu : SX K xc X M i c (b₀ :: suite) tx gs)
    (hi : X.N[i]? = some n := by rfl) (hln : X.env.kindOf n = some .local := by rfl) (hs : X.stack = X.env :: X.outer := by rfl) (hf : X.env.frame = some X.env.locals := by rfl) :
    SD K xc X M W (.Try body [.ExceptHandler (some (.Name x np)) (some n) (b₀ :: suite) pos'] [] [] pos) (fun D σ H => tb (wAs X.K C i tx W D) D σ H) (gTryAs c i gb gs) :=
  ⟨ps_try_as (ts := tx) hs hf hN hi hln hc tk (fun W pn xe t _ => (hb W pn xe t).ps) hsu.ps, fun {Hs0 H0 Hs H σ ρ r D} R hf' o => by
    obtain ⟨r1, h1, h2⟩ := bind_some hf'
    refine (hb (wAs X.K C i tx W D) [] (fun _ _ => True) (fun _ _ _ => trivial)).sm R h1 ?_
    cases r1 with
    | exc c' ρ' =>
      obtain ⟨hcc, h5⟩ := ite_get h2
      subst hcc
      obtain ⟨hn, h6⟩ := ite_get h5
      replace hn := isN_some hn
      obtain ⟨r2, h3, h4⟩ := bind_some h6
      refine fun Hs' H' σ' e' R' => ⟨true, hxm, fun _ a _ => ?_, fun z => by cases z⟩
      have hlt : i < σ'.length := by rw [R'.len]; exact (List.getElem?_eq_some_iff.mp hn).1
      refine hsu.sm a (R'.none hn (some (.ref a))) hn (List.getElem?_set_self hlt) h3 ?_
      cases r2 with
      | nx ρ2 =>
        obtain ⟨hn2, h7⟩ := ite_get h4
        replace hn2 := isN_some hn2
        obtain rfl := Option.some.inj h7
        exact fun Hs2 H2 σ2 e2 R2 => o Hs2 H2 _ (e'.trans e2) (R2.none hn2 none)
      | _ => cases h4
    | nx ρ => obtain rfl := Option.some.inj h2; exact o
    | ret d => obtain rfl := Option.some.inj h2; exact o
    | brk ρ => obtain rfl := Option.some.inj h2; exact o
    | ct ρ => obtain rfl := Option.some.inj h2; exact o⟩
/-- isinstance of the caught one, one class or a tuple of such -/
def rE1 (K : PySem.W.Frag) (cls : Value) (d : Option Addr) (a : Addr) : List V → Hp → VK → Prop := fun xs H Q => ∃ E, cls = .ref E ∧ d = none ∧ ExcC K E ∧ rIsE K E a xs H Q
def rE2 (K : PySem.W.Frag) (cls : Value) (d : Option Addr) (a : Addr) : List V → Hp → VK → Prop := fun xs H Q => ∃ (E tp : Addr) (cs : List V) (us : List Value) (b : Bool), cls = .ref E ∧ d = none ∧ ExcC K E ∧ xs = [.ref a, .ref tp] ∧ H tp = some (.tup cs) ∧ Paired ClsV cs us ∧ PySem.W.kitAny K (.ref E) us = some b ∧ Q (.bl b) H
theorem inst_of {a E : Addr} {oe : Obj} {h : Heap} (hz : Zc (.ref E) none oe) (hf : ∃ vs, oe.data = .fields vs) (hget : h.get? a = some oe) : PySem.W.InstAt h a oe E none := by
  obtain ⟨vs, hv⟩ := hf
  obtain ⟨oc, od, oda, osl⟩ := oe
  obtain ⟨h1, h2⟩ := hz
  dsimp only at h1 h2 hv
  subst h1 h2 hv
  exact ⟨hget, rfl, rfl, trivial⟩
theorem call_e1 {a : Addr} {oe : Obj} {cls : Value} {d : Option Addr} {pn : List (Addr × Obj)} (hz : Zc cls d oe) (hf : ∃ vs, oe.data = .fields vs) : CallR (X.suite a ((a, oe) :: pn)) (.builtin "isinstance") (rE1 X.K cls d a) := by
  intro pins s σ H xs us Q I r h
  obtain ⟨E, rfl, rfl, hE, h⟩ := h
  exact call_isE hE hz hf pins s σ H xs us Q I r h
theorem call_e2 {a : Addr} {oe : Obj} {cls : Value} {d : Option Addr} {pn : List (Addr × Obj)} (hz : Zc cls d oe) (hf : ∃ vs, oe.data = .fields vs) : CallR (X.suite a ((a, oe) :: pn)) (.builtin "isinstance") (rE2 X.K cls d a) := by
  intro pins s σ H xs us Q I r h
  obtain ⟨E, tp, cs, ws, b, rfl, rfl, hE, rfl, hT, k, e, q⟩ := h
  obtain ⟨u1, u2, rfl, r1, r2⟩ := vals2 r
  cases (show u2 = Value.ref tp from r2)
  cases (show u1 = Value.ref a from r1)
  obtain ⟨_, its, rv, o, h1, h2, n, h3⟩ := (show ObjOk X.prog X.w H s.heap tp (.tup cs) from I.hok tp _ hT)
  have e3 := ClsV.all k rv
  subst e3
  obtain ⟨oc, od, dt, sl⟩ := o
  simp only at h2 h3
  subst h2 h3
  obtain ⟨hget, _⟩ := I.pin (a, oe) (List.mem_append.mpr (.inl List.mem_cons_self))
  exact PySem.W.kia_tup (PySem.W.handS_kitx_exc hE.hg hE.hk hE.hs hE.hd hE.ha hE.hn hE.ht hE.hm) I.kIn (inst_of hz hf hget) h1 e (fun z => nomatch z) fun tk => ⟨.bl b, H, I.tok tk, rfl, q⟩
def t1E (K : PySem.W.Frag) (cls : Value) (d : Option Addr) (a : Addr) (i : Nat) (v : V) : TE := tCB (rE1 K cls d a) (tCons (tVar i) (tCons (tC v) tNil))
def t2E (K : PySem.W.Frag) (cls : Value) (d : Option Addr) (a : Addr) (i : Nat) (v1 v2 : V) : TE := tCB (rE2 K cls d a) (tCons (tVar i) (tCons (tTup (tCons (tC v1) (tCons (tC v2) tNil))) tNil))
/-- what the class raised, cr, must say to the three questions: cA, c1, c2 -/
structure AskOk (K : PySem.W.Frag) (xc : Nat → Addr) (cr cA c1 c2 : Nat) : Prop where
  ex : ExcC K (xc cr)
  yA : PySem.W.kitOne K (.ref (xc cr)) (.ref (xc cA)) = some true
  no : PySem.W.kitAny K (.ref (xc cr)) [.ref (xc c1), .ref (xc c2)] = some false
  yZ : PySem.W.kitOne K (.ref (xc cr)) (.type "ValueError") = some true
theorem t1E_sm {cr i : Nat} {a : Addr} {v : V} {u : Value} {b : Bool} {σ : L2.St} {Q : VK} (hE : ExcC K (xc cr)) (hσ : σ[i]? = some (some (.ref a))) (hv : ∀ w, RelV v w → w = u) (hk : PySem.W.kitOne K (.ref (xc cr)) u = some b) (q : Q (.bl b) H) : t1E K (.ref (xc cr)) none a i v σ H Q :=
  ⟨_, hσ, xc cr, rfl, rfl, hE, v, u, b, rfl, fun w r => (hv w r), hk, q⟩
theorem t2E_sm {cr i c1 c2 : Nat} {a : Addr} {b : Bool} {σ : L2.St} {Q : VK} (hE : ExcC K (xc cr)) (hσ : σ[i]? = some (some (.ref a))) (hk : PySem.W.kitAny K (.ref (xc cr)) [.ref (xc c1), .ref (xc c2)] = some b) (q : ∀ H', Same H H' → Q (.bl b) H') : t2E K (.ref (xc cr)) none a i (.ref (xc c1)) (.ref (xc c2)) σ H Q :=
  ⟨_, hσ, szM (n := 2) (by decide), fun p hp => ⟨xc cr, p, _, _, b, rfl, rfl, hE, rfl, upd_same, .cons (.own _) (.cons (.own _) .nil), hk, q _ (same_new hp)⟩⟩
theorem askV_sm {cr cA c1 c2 i : Nat} {a : Addr} {σ : L2.St} {Q : VK} (A : AskOk K xc cr cA c1 c2) (hσ : σ[i]? = some (some (.ref a))) (q : ∀ H', Same H H' → Q (.bl true) H') :
    tAndV (t1E K (.ref (xc cr)) none a i (.ref (xc cA))) (tAndV (tNotV (t2E K (.ref (xc cr)) none a i (.ref (xc c1)) (.ref (xc c2)))) (t1E K (.ref (xc cr)) none a i (.ty "ValueError"))) σ H Q :=
  t1E_sm A.ex hσ (u := .ref (xc cA)) (fun w r => r) A.yA ⟨true, rfl, by
    rw [if_pos rfl]
    exact t2E_sm A.ex hσ A.no fun H1 e1 => ⟨false, rfl, true, rfl, by
      rw [if_pos rfl]
      exact t1E_sm A.ex hσ (u := .type "ValueError") (fun w r => r) A.yZ (q H1 e1)⟩⟩
theorem pe_e1 {cls : Value} {d : Option Addr} {a : Addr} {oe : Obj} {pn : List (Addr × Obj)} {i cA : Nat} {n A : Str} {p1 p2 p3 : Pos} (hz : Zc cls d oe) (hf : ∃ vs, oe.data = .fields vs) (hm : X.mg "isinstance" = none) (hA : X.mg A = some (.ref (xc cA)))
    (hN : X.N[i]? = some n := by rfl) (hv : Vis X.env.scope n := by first | exact Or.inl rfl | exact Or.inr (Or.inl rfl) | exact Or.inr (Or.inr rfl)) (hg : Gl X "isinstance" := by rfl) (hgA : Gl X A := by rfl)
    (hd : (n == ("__debug__" : Str)) = false := by decide) (hcd : (n == ("__classdict__" : Str)) = false := by decide) (hdA : (A == ("__debug__" : Str)) = false := by decide)
    (hs1 : starEach [.Name n p2, .Name A p3] X.env = (false, eval (.Name n p2) X.env) :: starEach [.Name A p3] X.env := by rfl) (hs2 : starEach [.Name A p3] X.env = (false, eval (.Name A p3) X.env) :: starEach [] X.env := by rfl) (hpl : (backTo pos (starEach [.Name A p3] X.env)).any (·.1) = false := by rfl) :
    PE (X.suite a ((a, oe) :: pn)) (.Call (.Name "isinstance" p1) [.Name n p2, .Name A p3] [] pos) (t1E X.K cls d a i (.ref (xc cA))) :=
  pe_callB (X := X.suite a ((a, oe) :: pn)) (call_e1 hz hf) hg hm boot_isinstance (pa_cons (pe_var hN hv hd hcd) (pa_cons (pe_glob hgA hA rfl hdA) pa_nil hs2) hs1) (by decide) (by decide) hs1 hpl
theorem pe_eZ {cls : Value} {d : Option Addr} {a : Addr} {oe : Obj} {pn : List (Addr × Obj)} {i : Nat} {n : Str} {p1 p2 p3 : Pos} (hz : Zc cls d oe) (hf : ∃ vs, oe.data = .fields vs) (hm : X.mg "isinstance" = none) (hZ : X.mg "ValueError" = none)
    (hN : X.N[i]? = some n := by rfl) (hv : Vis X.env.scope n := by first | exact Or.inl rfl | exact Or.inr (Or.inl rfl) | exact Or.inr (Or.inr rfl)) (hg : Gl X "isinstance" := by rfl) (hgA : Gl X "ValueError" := by rfl)
    (hd : (n == ("__debug__" : Str)) = false := by decide) (hcd : (n == ("__classdict__" : Str)) = false := by decide)
    (hs1 : starEach [.Name n p2, .Name "ValueError" p3] X.env = (false, eval (.Name n p2) X.env) :: starEach [.Name "ValueError" p3] X.env := by rfl) (hs2 : starEach [.Name "ValueError" p3] X.env = (false, eval (.Name "ValueError" p3) X.env) :: starEach [] X.env := by rfl) (hpl : (backTo pos (starEach [.Name "ValueError" p3] X.env)).any (·.1) = false := by rfl) :
    PE (X.suite a ((a, oe) :: pn)) (.Call (.Name "isinstance" p1) [.Name n p2, .Name "ValueError" p3] [] pos) (t1E X.K cls d a i (.ty "ValueError")) :=
  pe_callB (X := X.suite a ((a, oe) :: pn)) (call_e1 hz hf) hg hm boot_isinstance (pa_cons (pe_var hN hv hd hcd) (pa_cons (pe_bltn (u := .type "ValueError") hgA hZ rfl rfl (by decide) (by decide)) pa_nil hs2) hs1) (by decide) (by decide) hs1 hpl
theorem pe_e2 {cls : Value} {d : Option Addr} {a : Addr} {oe : Obj} {pn : List (Addr × Obj)} {i c1 c2 k : Nat} {n B1 B2 : Str} {p1 p2 p3 p4 p5 : Pos} (hz : Zc cls d oe) (hf : ∃ vs, oe.data = .fields vs) (hm : X.mg "isinstance" = none) (hA : X.mg B1 = some (.ref (xc c1))) (hB : X.mg B2 = some (.ref (xc c2)))
    (hN : X.N[i]? = some n := by rfl) (hv : Vis X.env.scope n := by first | exact Or.inl rfl | exact Or.inr (Or.inl rfl) | exact Or.inr (Or.inr rfl)) (hg : Gl X "isinstance" := by rfl) (hgA : Gl X B1 := by rfl) (hgB : Gl X B2 := by rfl)
    (hd : (n == ("__debug__" : Str)) = false := by decide) (hcd : (n == ("__classdict__" : Str)) = false := by decide) (hdA : (B1 == ("__debug__" : Str)) = false := by decide) (hdB : (B2 == ("__debug__" : Str)) = false := by decide)
    (hs1 : starEach [.Name n p2, .Tuple [.Name B1 p3, .Name B2 p4] k p5] X.env = (false, eval (.Name n p2) X.env) :: starEach [.Tuple [.Name B1 p3, .Name B2 p4] k p5] X.env := by rfl) (hs2 : starEach [.Tuple [.Name B1 p3, .Name B2 p4] k p5] X.env = (false, eval (.Tuple [.Name B1 p3, .Name B2 p4] k p5) X.env) :: starEach [] X.env := by rfl) (hpl : (backTo pos (starEach [.Tuple [.Name B1 p3, .Name B2 p4] k p5] X.env)).any (·.1) = false := by rfl)
    (hs3 : starEach [.Name B1 p3, .Name B2 p4] X.env = (false, eval (.Name B1 p3) X.env) :: starEach [.Name B2 p4] X.env := by rfl) (hs4 : starEach [.Name B2 p4] X.env = (false, eval (.Name B2 p4) X.env) :: starEach [] X.env := by rfl) :
    PE (X.suite a ((a, oe) :: pn)) (.Call (.Name "isinstance" p1) [.Name n p2, .Tuple [.Name B1 p3, .Name B2 p4] k p5] [] pos) (t2E X.K cls d a i (.ref (xc c1)) (.ref (xc c2))) :=
  pe_callB (X := X.suite a ((a, oe) :: pn)) (call_e2 hz hf) hg hm boot_isinstance (pa_cons (pe_var hN hv hd hcd) (pa_cons (pe_tup (pa_cons (pe_glob hgA hA rfl hdA) (pa_cons (pe_glob hgB hB rfl hdB) pa_nil hs4) hs3)) pa_nil hs2) hs1) (by decide) (by decide) hs1 hpl
/-- told = the three questions -/
abbrev tAsk (K : PySem.W.Frag) (xc : Nat → Addr) (i cA c1 c2 : Nat) (cls : Value) (d : Option Addr) (a : Addr) : TE := tAndV (t1E K cls d a i (.ref (xc cA))) (tAndV (tNotV (t2E K cls d a i (.ref (xc c1)) (.ref (xc c2)))) (t1E K cls d a i (.ty "ValueError")))
theorem sx_set {i cr cA c1 c2 : Nat} (j : Nat) {y : Str} {B : Expr} (A : AskOk K xc cr cA c1 c2) (hN : X.N.Nodup) (hB : ∀ (a : Addr) (oe : Obj) (cls : Value) (d : Option Addr) (pn : List (Addr × Obj)), Zc cls d oe → (∃ vs, oe.data = .fields vs) → PE (X.suite a ((a, oe) :: pn)) B (tAsk X.K xc i cA c1 c2 cls d a))
    (hj : X.N[j]? = some y := by rfl) (hx : Loc X.env.scope y := by first | exact Or.inl rfl | exact Or.inr rfl) (hM : M.contains j = false := by rfl) (hK : X.K = K := by rfl)
    (hs : swapsWith B (some (.Name y pos')) pos.line X.env = pure false := by rfl) (hf : X.fn y = true ∨ X.env.scope.names.lookup y = some .local := by first | exact .inl rfl | exact .inr rfl) :
    SX K xc X M i cr [.Assign [.Name y pos'] B pos] (fun a cls d => tAsg (tAsk K xc i cA c1 c2 cls d a) (gName j)) (gAsg (fC (.bool true)) (hName j)) := by
  subst hK
  refine ⟨fun a oe cls d pn hz hv => pss_one (ps_set (X := X.suite a ((a, oe) :: pn)) hN hj hx (hB a oe cls d pn hz hv) hs hf), fun {Hs0 H0 Hs H σ ρ r D} a R hn hσ hg o => ?_⟩
  cases hg
  refine askV_sm A hσ fun H1 e1 => ?_
  exact (gd_name (X := X) (pos := pos) j hN hj hx hM hf).sm (R.same (Grow.idle R.sub e1)) (.bl true) rfl fun σ' R' _ => o Hs H1 σ' (Same.refl _) R'
/-- if the three questions: y = None -/
theorem ask_t {i cr cA c1 c2 : Nat} {a : Addr} {σ : L2.St} {Q : Bool → Hp → Prop} (A : AskOk K xc cr cA c1 c2) (hσ : σ[i]? = some (some (.ref a))) (q : ∀ H', Same H H' → Q true H') :
    tAnd (fun σ H Q => t1E K (.ref (xc cr)) none a i (.ref (xc cA)) σ H fun x H' => ∃ k, TruV K x H' k ∧ Q k H') (tAnd (tNot (fun σ H Q => t2E K (.ref (xc cr)) none a i (.ref (xc c1)) (.ref (xc c2)) σ H fun x H' => ∃ k, TruV K x H' k ∧ Q k H')) (fun σ H Q => t1E K (.ref (xc cr)) none a i (.ty "ValueError") σ H fun x H' => ∃ k, TruV K x H' k ∧ Q k H')) σ H Q :=
  t1E_sm A.ex hσ (u := .ref (xc cA)) (fun w r => r) A.yA ⟨true, rfl, by
    show (if true = true then _ else _)
    rw [if_pos rfl]
    exact t2E_sm A.ex hσ A.no fun H1 e1 => ⟨false, rfl, by
      show (if true = true then _ else _)
      rw [if_pos rfl]
      exact t1E_sm A.ex hσ (u := .type "ValueError") (fun w r => r) A.yZ ⟨true, rfl, q H1 e1⟩⟩⟩
abbrev tAskT (K : PySem.W.Frag) (xc : Nat → Addr) (i cA c1 c2 : Nat) (cls : Value) (d : Option Addr) (a : Addr) : TT := tAnd (fun σ H Q => t1E K cls d a i (.ref (xc cA)) σ H fun x H' => ∃ k, TruV K x H' k ∧ Q k H') (tAnd (tNot (fun σ H Q => t2E K cls d a i (.ref (xc c1)) (.ref (xc c2)) σ H fun x H' => ∃ k, TruV K x H' k ∧ Q k H')) (fun σ H Q => t1E K cls d a i (.ty "ValueError") σ H fun x H' => ∃ k, TruV K x H' k ∧ Q k H'))
theorem sx_if {i cr cA c1 c2 : Nat} {B : Expr} {ss : List Stmt} {t2 : TS} {gs : Gn} (A : AskOk K xc cr cA c1 c2) (hB : ∀ (a : Addr) (oe : Obj) (cls : Value) (d : Option Addr) (pn : List (Addr × Obj)), Zc cls d oe → (∃ vs, oe.data = .fields vs) → PT (X.suite a ((a, oe) :: pn)) B (tAskT X.K xc i cA c1 c2 cls d a))
    (hsu : ∀ (a : Addr) (oe : Obj) (pn : List (Addr × Obj)), SS K xc (X.suite a ((a, oe) :: pn)) M (fun _ _ _ _ => False) ss t2 gs) (hK : X.K = K := by rfl) :
    SX K xc X M i cr [.If B ss [] pos] (fun a cls d => tIfS (tAskT K xc i cA c1 c2 cls d a) t2 tNext) gs := by
  subst hK
  refine ⟨fun a oe cls d pn hz hv => pss_one (ps_if (X := X.suite a ((a, oe) :: pn)) (hB a oe cls d pn hz hv) (hsu a oe pn).ps pss_nil), fun {Hs0 H0 Hs H σ ρ r D} a R hn hσ hg o => ?_⟩
  refine ask_t A hσ fun H1 e1 => ?_
  rw [if_pos rfl]
  exact (hsu 0 ⟨.none, none, .fields #[], #[]⟩ []).sm (R.same (Grow.idle R.sub e1)) hg o
end
theorem ref_ne {a b : Addr} (h : a ≠ b) : (Value.ref a == Value.ref b) = false := beq_eq_false_iff_ne.mpr fun z => h (Value.ref.inj z)
theorem kit_cls_own {K : PySem.W.Frag} {C : Addr} {t : Value} {b : Bool} (hd : PySem.W.hasDictIn K C = true) (ht : PySem.W.typeIn K (.ref C) = some (.type "type")) (hs : PySem.W.subIn K t (.ref C) = some b) (hne : (t == .ref C) = false) : PySem.W.kitOne K t (.ref C) = some b := by
  obtain ⟨cd, hc, _⟩ := PySem.W.any_some hd
  have e : ((PySem.W.clsIn K C).isSome && PySem.W.typeIn K (.ref C) == some (.type "type")) = true := by rw [hc, ht] <;> rfl
  unfold PySem.W.kitOne
  rw [if_neg (by rw [hne]; exact Bool.false_ne_true)]
  show (if ((PySem.W.clsIn K C).isSome && PySem.W.typeIn K (.ref C) == some (.type "type")) = true then PySem.W.subIn K t (.ref C) else none) = some b
  rw [if_pos e]
  exact hs
theorem kit_cls_ty {K : PySem.W.Frag} {E : Addr} {T : String} {b : Bool} (hm : PySem.W.kitMeta T = true) (hs : PySem.W.subIn K (.ref E) (.type T) = some b) : PySem.W.kitOne K (.ref E) (.type T) = some b := by
  unfold PySem.W.kitOne
  have hne : (Value.ref E == Value.type T) = false := beq_eq_false_iff_ne.mpr fun z => nomatch z
  rw [if_neg (by rw [hne]; exact Bool.false_ne_true)]
  show (if PySem.W.kitMeta T = true then PySem.W.subIn K (.ref E) (.type T) else none) = some b
  rw [if_pos hm]
  exact hs
theorem kit_two_no {K : PySem.W.Frag} {t a b : Value} (h1 : PySem.W.kitOne K t a = some false) (h2 : PySem.W.kitOne K t b = some false) : PySem.W.kitAny K t [a, b] = some false := by
  unfold PySem.W.kitAny
  rw [h1]
  show PySem.W.kitAny K t [b] = some false
  unfold PySem.W.kitAny
  rw [h2]
  rfl
end DL

namespace DL
open PySem PySem.Spec PyProof.Rows L2
variable [Tabl]
/-! ### the members of a list of ints, each once, rising -/
def insS (k : Int) : List Int → List Int
  | [] => [k]
  | a :: r => if k < a then k :: a :: r else if k = a then a :: r else a :: insS k r
def sset (ns : List Int) : List Int := ns.foldr insS []
theorem insS_mem {k x : Int} : ∀ {l : List Int}, x ∈ insS k l ↔ x = k ∨ x ∈ l
  | [] => by simp [insS]
  | a :: r => by
    unfold insS
    by_cases h1 : k < a
    · rw [if_pos h1]; simp
    · rw [if_neg h1]
      by_cases h2 : k = a
      · rw [if_pos h2]; subst h2; simp
      · rw [if_neg h2, List.mem_cons, List.mem_cons, insS_mem (l := r)]
        constructor
        · rintro (h | h | h)
          · exact .inr (.inl h)
          · exact .inl h
          · exact .inr (.inr h)
        · rintro (h | h | h)
          · exact .inr (.inl h)
          · exact .inl h
          · exact .inr (.inr h)
theorem insS_lt {k : Int} : ∀ {l : List Int}, l.Pairwise (· < ·) → (insS k l).Pairwise (· < ·)
  | [], _ => by simp [insS]
  | a :: r, h => by
    obtain ⟨h1, h2⟩ := List.pairwise_cons.mp h
    unfold insS
    by_cases c1 : k < a
    · rw [if_pos c1]
      refine List.pairwise_cons.mpr ⟨fun x hx => ?_, h⟩
      rcases List.mem_cons.mp hx with rfl | hx
      · exact c1
      · exact Int.lt_trans c1 (h1 x hx)
    · rw [if_neg c1]
      by_cases c2 : k = a
      · rw [if_pos c2]; exact h
      · rw [if_neg c2]
        refine List.pairwise_cons.mpr ⟨fun x hx => ?_, insS_lt h2⟩
        rcases insS_mem.mp hx with rfl | hx
        · omega
        · exact h1 x hx
theorem sset_mem {x : Int} : ∀ {ns : List Int}, x ∈ sset ns ↔ x ∈ ns
  | [] => by simp [sset]
  | a :: r => by
    show x ∈ insS a (sset r) ↔ _
    rw [insS_mem, sset_mem (ns := r), List.mem_cons]
theorem sset_lt : ∀ (ns : List Int), (sset ns).Pairwise (· < ·)
  | [] => List.Pairwise.nil
  | a :: r => insS_lt (sset_lt r)
theorem rise_eq : ∀ {l m : List Int}, l.Pairwise (· < ·) → m.Pairwise (· < ·) → (∀ x, x ∈ l ↔ x ∈ m) → l = m
  | [], [], _, _, _ => rfl
  | [], b :: m, _, _, h => by have := (h b).mpr List.mem_cons_self; cases this
  | a :: l, [], _, _, h => by have := (h a).mp List.mem_cons_self; cases this
  | a :: l, b :: m, h1, h2, h => by
    obtain ⟨a1, a2⟩ := List.pairwise_cons.mp h1
    obtain ⟨b1, b2⟩ := List.pairwise_cons.mp h2
    have e : a = b := by
      rcases List.mem_cons.mp ((h a).mp List.mem_cons_self) with e | e
      · exact e
      · rcases List.mem_cons.mp ((h b).mpr List.mem_cons_self) with e2 | e2
        · exact e2.symm
        · have := b1 a e; have := a1 b e2; omega
    subst e
    have := rise_eq a2 b2 (fun x => ⟨fun hx => by
      rcases List.mem_cons.mp ((h x).mp (List.mem_cons_of_mem _ hx)) with e | e
      · have := a1 x hx; omega
      · exact e, fun hx => by
      rcases List.mem_cons.mp ((h x).mpr (List.mem_cons_of_mem _ hx)) with e | e
      · have := b1 x hx; omega
      · exact e⟩)
    rw [this]
theorem rise_nodup {l : List Int} (h : l.Pairwise (· < ·)) : l.Nodup := h.imp fun h => by omega
theorem nodup_len : ∀ {l m : List Int}, l.Nodup → m.Nodup → (∀ x, x ∈ l → x ∈ m) → l.length ≤ m.length
  | [], _, _, _, _ => Nat.zero_le _
  | a :: l, m, h1, h2, h => by
    obtain ⟨a1, a2⟩ := List.nodup_cons.mp h1
    have hm := h a List.mem_cons_self
    have := nodup_len (m := m.erase a) a2 (h2.erase a) fun x hx => (List.mem_erase_of_ne (fun e => a1 (by rw [← e]; exact hx))).mpr (h x (List.mem_cons_of_mem _ hx))
    rw [List.length_erase_of_mem hm] at this
    have : 0 < m.length := List.length_pos_of_mem hm
    rw [List.length_cons]
    omega
theorem sset_len {l ns : List Int} (h1 : l.Nodup) (h2 : ∀ x, x ∈ l ↔ x ∈ ns) : l.length = (sset ns).length :=
  Nat.le_antisymm (nodup_len h1 (rise_nodup (sset_lt ns)) fun x hx => sset_mem.mpr ((h2 x).mp hx)) (nodup_len (rise_nodup (sset_lt ns)) h1 fun x hx => (h2 x).mpr (sset_mem.mp hx))
/-! ### set(a tuple of ints), its number, its members in order -/
section
variable {K : PySem.W.Frag} {X : Cx} {M : List Nat} {a : Expr} {ta : TE} {f : Fn} {pos p p2 q : Pos}
def rSetI (K : PySem.W.Frag) (w : World) : List V → Hp → VK → Prop := fun xs H Q => ∃ (p : Addr) (ns : List Int), xs = [.ref p] ∧ SqT K H p (ns.map V.int) ∧ ns.length ≤ 1000 ∧ ∀ a, H a = none → Q (.ref a) (upd H a (SetO w a (fun j => decide (j ∈ ns)) (sset ns).length))
theorem cr_setI (hc : X.calm = true) : CallR X (.type "set") (rSetI X.K X.w) := by
  intro pins s σ H xs us Q I r h
  obtain ⟨p0, ns, rfl, hq, hl, q⟩ := h
  obtain ⟨u, rfl, rx⟩ := vals1 r
  cases rx
  obtain ⟨its, rv, pt, hz⟩ := I.tuple hq
  have hi : IntsAre its.toArray.toList ns := ints_of_vals rv
  refine call_set_tupI ns (I.ok.hd hc) (show s.heap.IsTuple p0 its.toArray from pt) hi (by unfold scanBound; omega) fun h' tk c R1 hcn k => ?_
  have hlt := R1.lt
  have en : c = (sset ns).length := by
    obtain ⟨o, es, ep, t, ho, hex, hdt, g, nd, hm2, hb, hf, hn, hr, hl2⟩ := id R1
    have := sset_len (ns := ns) nd fun x => by rw [← hm2 x, decide_eq_true_eq]
    rw [List.length_map, Array.length_toList] at this
    exact hn.symm.trans this
  subst en
  have hn : H s.heap.objs.size = none := I.hok.fresh (Nat.le_refl _)
  exact ⟨.ref _, upd H s.heap.objs.size (SetO X.w s.heap.objs.size _ _), I.laid (t' := tk) k (Nat.le_refl _) (setO_new R1), rfl, q _ hn⟩
def rLenS (w : World) : List V → Hp → VK → Prop := fun xs H Q => ∃ (a : Addr) (S : Int → Bool) (n : Nat), xs = [.ref a] ∧ H a = some (SetO w a S n) ∧ Q (.int n) H
theorem cr_lenS : CallR X (.builtin "len") (rLenS X.w) := by
  intro pins s σ H xs us Q I r h
  obtain ⟨a, S, n, rfl, ha, q⟩ := h
  obtain ⟨u, rfl, rx⟩ := vals1 r
  cases rx
  obtain ⟨o, es, ep, t, ho, hex, hdt, g, nd, hm2, hb, hf, hn, hr, hl2⟩ := setO_get I ha
  refine call_len_set ho hex hdt hf (by unfold scanBound at hb; omega) ⟨.int n, H, I.tok _, ⟨_, by rw [hn]⟩, q⟩
def gLenSet : PyData → Option PyData
  | .tuple ds => (intsD ds).bind fun ns => if ns.length ≤ 1000 then some (.int (sset ns).length) else none
  | _ => none
theorem ed_lenSet (ha : ED K X M a ta f) (hm : X.mg "len" = none) (hm2 : X.mg "set" = none) (hg : Gl X "len" := by rfl) (hg2 : Gl X "set" := by rfl) (hc : X.calm = true := by rfl) (hK : X.K = K := by rfl)
    (na : starEach [a] X.env = (false, eval a X.env) :: starEach [] X.env := by rfl) (nb : starEach [.Call (.Name "set" p2) [a] [] q] X.env = (false, eval (.Call (.Name "set" p2) [a] [] q) X.env) :: starEach [] X.env := by rfl)
    (pa : (backTo q (starEach [] X.env)).any (·.1) = false := by rfl) (pb : (backTo pos (starEach [] X.env)).any (·.1) = false := by rfl) :
    ED K X M (.Call (.Name "len" p) [.Call (.Name "set" p2) [a] [] q] [] pos) (tCB (rLenS X.w) (tCons (tCB (rSetI K X.w) (tCons ta tNil)) tNil)) (f1 gLenSet f) := by
  subst hK
  refine ⟨pe_callB cr_lenS hg hm boot_len (pa_cons (pe_callTy (cr_setI hc) hg2 hm2 boot_set (pa_cons ha.pe pa_nil na) (by decide) (by decide) na pa) pa_nil nb) (by decide) (by decide) nb pb, fun {Hs0 H0 Hs H σ ρ d Q} R hf qq => ?_⟩
  obtain ⟨dx, h1, h2⟩ := bind_some hf
  refine ha.sm R h1 fun v Hs1 H1 g1 d1 => ?_
  cases d1 with
  | @tup l ob xs ds hn hp t =>
    obtain ⟨ns, h3, h4⟩ := bind_some h2
    obtain ⟨hl, rfl⟩ := ite_some h4
    have e := ints_dv t h3
    subst e
    exact ⟨l, ns, rfl, sqT_of (g1.sub _ _ hp), hl, fun p0 hp0 => ⟨p0, _, _, rfl, upd_same, qq _ Hs1 _ (g1.trans (Grow.alloc0 g1.sub hp0)) (.int _)⟩⟩
  | _ => cases h2
def gSortSet : PyData → Option (List PyData)
  | .tuple ds => (intsD ds).bind fun ns => if ns.length < 64 then some ((sset ns).map .int) else none
  | _ => none
theorem insS_le {k : Int} : ∀ l : List Int, (insS k l).length ≤ l.length + 1
  | [] => Nat.le_refl _
  | a :: r => by
    unfold insS
    split
    · exact Nat.le_refl _
    · split
      · exact Nat.le_succ _
      · have := insS_le (k := k) r
        rw [List.length_cons, List.length_cons]
        omega
theorem sset_le : ∀ ns : List Int, (sset ns).length ≤ ns.length
  | [] => Nat.le_refl _
  | a :: r => by
    have := sset_le r
    have := insS_le (k := a) (sset r)
    show (insS a (sset r)).length ≤ _
    rw [List.length_cons]
    omega
theorem fd_sortSet (ha : ED K X M a ta f) (hm : X.mg "sorted" = none) (hm2 : X.mg "set" = none) (hg : Gl X "sorted" := by rfl) (hg2 : Gl X "set" := by rfl) (hc : X.calm = true := by rfl) (hK : X.K = K := by rfl)
    (na : starEach [a] X.env = (false, eval a X.env) :: starEach [] X.env := by rfl) (nb : starEach [.Call (.Name "set" p2) [a] [] q] X.env = (false, eval (.Call (.Name "set" p2) [a] [] q) X.env) :: starEach [] X.env := by rfl)
    (pa : (backTo q (starEach [] X.env)).any (·.1) = false := by rfl) (pb : (backTo pos (starEach [] X.env)).any (·.1) = false := by rfl) :
    FD K X M (.Call (.Name "sorted" p) [.Call (.Name "set" p2) [a] [] q] [] pos) (tCB (rSortedSet X.w) (tCons (tCB (rSetI K X.w) (tCons ta tNil)) tNil)) (fun ρ => (f ρ).bind gSortSet) := by
  subst hK
  refine ⟨pe_callB (cr_sortedSet hc) hg hm boot_sorted (pa_cons (pe_callTy (cr_setI hc) hg2 hm2 boot_set (pa_cons ha.pe pa_nil na) (by decide) (by decide) na pa) pa_nil nb) (by decide) (by decide) nb pb, fun {Hs0 H0 Hs H σ ρ d Q} R hf qq => ?_⟩
  obtain ⟨dx, h1, h2⟩ := bind_some hf
  refine ha.sm R h1 fun v Hs1 H1 g1 d1 => ?_
  cases d1 with
  | @tup l ob xs ds hn hp t =>
    obtain ⟨ns, h3, h4⟩ := bind_some h2
    obtain ⟨hl, rfl⟩ := ite_some h4
    have e := ints_dv t h3
    subst e
    have hle := sset_le ns
    refine ⟨l, ns, rfl, sqT_of (g1.sub _ _ hp), by omega, fun p0 hp0 => ⟨p0, _, _, rfl, upd_same, by omega, fun ns' p1 hs hmm hlen hp1 => ?_⟩⟩
    have e : ns' = sset ns := rise_eq hs (sset_lt ns) fun x => by rw [hmm, decide_eq_true_eq, sset_mem]
    subst e
    have g2 : Grow Hs1 H1 Hs1 (upd H1 p0 (SetO X.w p0 (fun j => decide (j ∈ ns)) (sset ns).length)) := Grow.alloc0 g1.sub hp0
    have g3 := Grow.alloc0 (o := .lst ((sset ns).map V.int)) g2.sub hp1
    have g := (g1.trans g2).trans g3
    exact qq p1 _ Hs1 _ g (g1.ex.free (g2.ex.free hp1)) (g2.sub.free hp1) upd_same (DdAll.ints _)
  | _ => cases h2
end
end DL

namespace DL
open PySem PySem.Spec PyProof.Rows L2
variable [Tabl]
/-! ### enumerate(a tuple): made, and its turns -/
theorem enumT_new {v : Value} {o : Obj} {Hv : Heap → Prop} (B : Begins v o Hv) :
    Meets (Builtin.«enumerate.__new__» ⟨[.type "enumerate", v], []⟩) (fun _ R s => Hv s.heap ∧
      R (.ok (.ret (.ref (s.heap.push o).objs.size))) { s with heap := (s.heap.push o).push { cls := .type "enumerate", data := .fields #[.none, .bool false, .ref s.heap.objs.size, rawInt 0, .none, .none] } }) :=
  .of_wp fun prog w A R s h => by
    obtain ⟨hp, g, d, tk, os⟩ := s
    obtain ⟨hv, hr⟩ := h
    have sub := sub_enumerate
    have it : ∀ {A' : Around} {E Q : Value → Shared → Prop}, Q (.ref hp.objs.size) ⟨hp.push o, g, d, tk, os⟩ → wpAny (model prog w) A' (pyIter v) Q E ⟨hp, g, d, tk, os⟩ := fun q => B.iter prog w _ _ ⟨hp, g, d, tk, os⟩ _ hv q
    wp_walk using it
    refine wpAny_stack_any fun st => wpAny_pure ?_
    split
    · rename_i c _ _ _ _ _
      cases (c == Value.type "enumerate") <;> (wp_walk using it; exact ⟨_, rfl, hr⟩)
    · wp_walk using it
      exact ⟨_, rfl, hr⟩
theorem enumT_call {prog : Program} {w : World} {A : Around} {E : Value → Shared → Prop} {s : Shared} {v : Value} {o : Obj} {Hv : Heap → Prop} {Q : Value → Shared → Prop} (B : Begins v o Hv) (hv : Hv s.heap)
    (q : ∀ h', IsEnum h' (s.heap.objs.size + 1) s.heap.objs.size 0 .none → h'.get? s.heap.objs.size = some o → (∀ b u, s.heap.get? b = some u → h'.get? b = some u) → Q (.ref (s.heap.objs.size + 1)) { s with heap := h' }) :
    wpAny (model prog w) A (call (.type "enumerate") [v]) Q E s := by
  refine callType_new F.called_enumerate (by decide) (F.typeCall_enumerate_1 _) (F.newCall_enumerate_1 _) (fun obj => F.args_object_init_2 obj _) F.entry_enumerate_new (enumT_new B) ⟨hv, ?_⟩
  have z : (s.heap.push o).objs.size = s.heap.objs.size + 1 := Heap.size_push ..
  rw [z]
  have ie : IsEnum ((s.heap.push o).push { cls := .type "enumerate", data := .fields #[.none, .bool false, .ref s.heap.objs.size, rawInt 0, .none, .none] }) (s.heap.objs.size + 1) s.heap.objs.size 0 .none := by
    have y := Heap.get?_push_size (s.heap.push o) (o := { cls := .type "enumerate", data := .fields #[.none, .bool false, .ref s.heap.objs.size, rawInt 0, .none, .none] }) rfl
    rw [z] at y
    exact y
  exact ⟨⟨_, ie, rfl⟩, q _ ie (Heap.get?_push_of_some _ (Heap.get?_push_size _ B.free)) fun b u e => Heap.get?_push_of_some _ (Heap.get?_push_of_some _ e)⟩
/-- the tuple at a, each item in a new pair with its place -/
def IteT (K : PySem.W.Frag) (a : Addr) : It :=
  ⟨fun i H => ∃ xs x, SqT K H a xs ∧ xs[i]? = some x, fun i H v H' => ∃ T x, v = .ref T ∧ H T = none ∧ H' = upd H T (.tup [.int (i : Nat), x]) ∧ ∀ xs, SqT K H a xs → xs[i]? = some x, fun i H => ∃ xs, SqT K H a xs ∧ xs.length ≤ i⟩
theorem turn_enumT {P : Program} {w : World} {K : PySem.W.Frag} {elts : List Expr} {kk : Nat} {tpos : Pos} (a e it : Addr) (hei : e ≠ it) (hea : e ≠ a) (hai : a ≠ it) :
    Turn P w K (.Tuple elts kk tpos) (IteT K a) [e, it] e (fun i h => (∃ old, IsEnum h e it ((i : Nat) : Int) old) ∧ h.IsTupleIter it a i) where
  mem := List.mem_cons_self
  obj := fun i h st b hb => by
    obtain ⟨⟨old, he⟩, o, ho, hc, hd⟩ := st
    rcases List.mem_cons.mp hb with rfl | hb
    · exact ⟨_, he, fun v z => nomatch z⟩
    · rw [List.mem_singleton.mp hb]; exact ⟨o, ho, fun v z => by rw [hd] at z; cases z⟩
  keep := fun i h h' st k => by
    obtain ⟨⟨old, he⟩, hi⟩ := st
    exact ⟨⟨old, k e (by simp) _ he⟩, hi.at fun o q => k it (by simp) o q⟩
  item := by
    intro X hP hw hK hc i pins s σ H E I hf st hg
    subst hP hw hK
    obtain ⟨⟨old, he⟩, hit⟩ := st
    obtain ⟨xs, x, hq, hx⟩ := hg
    obtain ⟨its, rv, p, hz⟩ := I.tuple hq
    obtain ⟨u, hu, ru⟩ := rv.get hx
    have hlt : i < its.toArray.size := by
      have := (List.getElem?_eq_some_iff.mp hu).1
      simpa using this
    have eL : e < s.heap.objs.size := Heap.lt_size he
    have iL : it < s.heap.objs.size := by obtain ⟨_, q, _⟩ := hit; exact Heap.lt_size q
    have DT := Draws.tuple (prog := X.prog) (w := X.w) (A := X.A.in1) (by rw [show X.A.in1.handled = X.A.handled from rfl]; exact I.ok.hd hc) it a hai its.toArray
    refine wpAny_pyNext_enum_itemD DT he (show s.heap.IsTupleIter it a i ∧ s.heap.IsTuple a its.toArray from ⟨hit, p⟩) hlt hei (by simp [hei, hea]) fun y h' tk hy ho st' hT hsz hk => ?_
    have ey : y = u := by
      have hu' : its.toArray[i]? = some u := by simpa using hu
      rw [hy] at hu'
      exact Option.some.inj hu'
    subst ey
    refine ⟨_, rfl, wpAny_letOwnedTupleGo_enum (s := { s with heap := h', toks := tk + 1 }) ho fun h2 he2 sb => ?_⟩
    have hT2 : h2.get? s.heap.objs.size = some { cls := .type "tuple", data := .seq #[.int i tk, y] } := (sb.2 _ (Nat.ne_of_gt eL)).trans hT
    have nw : ObjOk X.prog X.w (upd H s.heap.objs.size (.tup [.int (i : Nat), x])) h2 s.heap.objs.size (.tup [.int (i : Nat), x]) :=
      ⟨by show 2 ≤ sizeLine; decide, [.int i tk, y], .cons ⟨_, rfl⟩ (.cons ru .nil), ⟨_, hT2, rfl, _, rfl⟩⟩
    have I1 : Inv X pins σ (upd H s.heap.objs.size (.tup [.int (i : Nat), x])) { s with heap := h2, toks := tk + 1 } :=
      I.turnedNew (ch := [e, it]) (fun b ob hb q => (sb.2 b (fun z => hb (by simp [z]))).trans (hk b ob (fun z => hb (by simp [z])) (fun z => hb (by simp [z])) q)) hf (Nat.le_refl _) nw
    refine ⟨.ref s.heap.objs.size, _, I1, rfl, ⟨_, x, rfl, I.hok.fresh (Nat.le_refl _), rfl, fun ys hy2 => by rw [I.tuple_inj hy2 hq]; exact hx⟩, ⟨⟨y, ?_⟩, st'.1.at fun o q => (sb.2 it (Ne.symm hei)).trans q⟩, fun b hb => ?_⟩
    · have e1 : ((i + 1 : Nat) : Int) = (i : Int) + 1 := by omega
      rw [e1]
      exact he2
    · have hb' : b < s.heap.objs.size := by
        rcases List.mem_cons.mp hb with rfl | hb
        · exact eL
        · rw [List.mem_singleton.mp hb]; exact iL
      rw [upd_ne (Nat.ne_of_lt hb')]
      exact (hf b hb).1
  done := by
    intro X hP hw hK hc i pins s σ H E I hf st hg
    subst hP hw hK
    obtain ⟨⟨old, he⟩, hit⟩ := st
    obtain ⟨xs, hq, hx⟩ := hg
    obtain ⟨its, rv, p, hz⟩ := I.tuple hq
    obtain ⟨f0, f1, f2, f3, f4, f5⟩ := hf it (by simp)
    have hl := rv.length
    have hout : its.toArray[i]? = none := by simp; omega
    have DE : Draws X.prog X.w X.A.in1 it [it, a] i (fun _ _ => True) (fun j h => j = i ∧ h.IsTupleIter it a i ∧ h.IsTuple a its.toArray) :=
      { live := fun j h st => by obtain ⟨_, ⟨o, ho, _⟩, _⟩ := st; exact ⟨o, ho⟩
        frame := fun j h h' st k => ⟨st.1, st.2.1.at fun o q => k it (by simp) o q, st.2.2.at fun o q => k a (by simp) o q⟩
        item := fun j s' Q' E' hj st _ => absurd st.1 (Nat.ne_of_lt hj)
        done := fun s' Q' E' st hE => wpAny_nextOf_tuple_end (by rw [show X.A.in1.handled = X.A.handled from rfl]; exact I.ok.hd hc) st.2.1 st.2.2 hout hE }
    exact wpAny_pyNext_enum_endD DE he ⟨rfl, hit, p⟩ fun h' eb => ⟨rfl, I.turned (t' := s.toks) (fun b o hb q => eb b o hb q) f0 f1 f3 f4 f5⟩
  self := fun A i s Q E st h => by
    obtain ⟨⟨_, he⟩, _⟩ := st
    exact wpAny_pyIter_enum he h
def iEnumT (K : PySem.W.Frag) (ta : TA) : TI := fun σ H R => ta σ H fun vs H1 => ∃ a, vs = [.ref a] ∧ ((∃ xs, SqL K H1 a xs) ∧ R (Ite K a) H1 ∨ (∃ xs, SqT K H1 a xs) ∧ R (IteT K a) H1)
theorem pi_enumT {X : Cx} {e : Expr} {ta : TA} {p pos tpos : Pos} {elts : List Expr} {kk : Nat} (hg : Gl X "enumerate") (hm : X.mg "enumerate" = none) (ha : PA X [e] ta) (hs : starEach [e] X.env = [(false, eval e X.env)] := by rfl) :
    PI X (.Tuple elts kk tpos) (.Call (.Name "enumerate" p) [e] [] pos) (iEnumT X.K ta) := by
  refine ⟨fun pins s σ H R I h => ?_⟩
  refine Call_ (ld_blt I hg hm PyProof.Rows.boot_enumerate (PyProof.Rows.callWith_type1 (thn (ha.run pos pins s σ H _ I h) fun us s1 ⟨vs, H1, I1, r1, q1⟩ => ?_) hs rfl))
  obtain ⟨a, ex, q1⟩ := q1
  subst ex
  obtain ⟨v0, ev0, rv0⟩ := vals1 r1
  cases rv0
  subst ev0
  have fresh : ∀ b, b ∈ [s1.heap.objs.size + 1, s1.heap.objs.size] → FpOk X pins H1 b := fun b hb => by
    have hle : s1.heap.objs.size ≤ b := by
      rcases List.mem_cons.mp hb with z | z
      · rw [z]; exact Nat.le_add_right _ _
      · rw [List.mem_singleton.mp z]; exact Nat.le_refl _
    exact I1.fpOk hle (I1.hok.fresh hle)
  rcases q1 with ⟨⟨xs, hq⟩, q⟩ | ⟨⟨xs, hq⟩, q⟩
  · obtain ⟨its, rv, p', hz⟩ := I1.list hq
    refine enumT_call (begins_list a its.toArray) p'.isList fun h' he hit hk => wpAny_pyIter_enum he ?_
    exact ⟨s1.heap.objs.size + 1, [s1.heap.objs.size + 1, s1.heap.objs.size], _, _, H1, rfl, I1.kept (t' := s1.toks) hk, turn_enum a (s1.heap.objs.size + 1) s1.heap.objs.size, ⟨⟨.none, he⟩, ⟨_, hit, rfl, rfl⟩, Nat.succ_ne_self _⟩, fresh, q⟩
  · obtain ⟨its, rv, p', hz⟩ := I1.tuple hq
    have hT : s1.heap.IsTuple a its.toArray := p'
    refine enumT_call (begins_tuple a its.toArray) hT fun h' he hit hk => wpAny_pyIter_enum he ?_
    have hal : a < s1.heap.objs.size := by obtain ⟨o, ho, _⟩ := hT; exact Heap.lt_size ho
    exact ⟨s1.heap.objs.size + 1, [s1.heap.objs.size + 1, s1.heap.objs.size], _, _, H1, rfl, I1.kept (t' := s1.toks) hk, turn_enumT a (s1.heap.objs.size + 1) s1.heap.objs.size (Nat.succ_ne_self _) (fun z => Nat.lt_irrefl _ (Nat.lt_trans (Nat.lt_succ_self s1.heap.objs.size) (show s1.heap.objs.size.succ < s1.heap.objs.size by rw [show s1.heap.objs.size.succ = a from z]; exact hal))) (Nat.ne_of_lt hal), ⟨⟨.none, he⟩, ⟨_, hit, rfl, rfl⟩⟩, fresh, q⟩
/-! ### their readings -/
def enD (ds : List PyData) : List PyData := ds.zipIdx.map fun p => .tuple [.int (p.2 : Nat), p.1]
theorem enD_len (ds : List PyData) : (enD ds).length = ds.length := by unfold enD; rw [List.length_map, List.length_zipIdx]
theorem enD_get {ds : List PyData} {i : Nat} {d : PyData} (h : ds[i]? = some d) : (enD ds)[i]? = some (.tuple [.int (i : Nat), d]) := by
  unfold enD
  rw [List.getElem?_map, List.getElem?_zipIdx, h]
  simp
theorem yields_enumT {K : PySem.W.Frag} {Hs : Hp} {p : Addr} {xs : List V} {ds : List PyData} (hq : ∀ H, Same Hs H → SqT K H p xs) (t : DdAll K Hs xs ds) : Yields K (Dy K) (IteT K p) Hs (enD ds) where
  go := fun i H e hi => by
    rw [enD_len] at hi
    obtain ⟨v, h1, _⟩ := t.get (i := i) (d := ds[i]) (List.getElem?_eq_getElem hi)
    exact ⟨xs, v, hq H e, h1⟩
  stop := fun i H e hi => ⟨xs, hq H e, by rw [enD_len] at hi; rw [t.length]; exact hi⟩
  yld := fun i H x H' Hs2 hi e1 e2 h => by
    obtain ⟨T, y, rfl, hT, rfl, h2⟩ := h
    obtain ⟨d, h3, h4⟩ := t.getv (h2 xs (hq _ (e1.trans e2)))
    exact ⟨upd Hs2 T (.tup [.int (i : Nat), y]), Grow.alloc e2 hT, _, enD_get h3, T, _, _, rfl, rfl, upd_same, .cons (.int _) (.cons ((h4.mono e1).mono (same_new (e2.free hT))) .nil)⟩
theorem yields_enumL {K : PySem.W.Frag} {Hs : Hp} {p : Addr} {xs : List V} {ds : List PyData} (hq : ∀ H, Same Hs H → SqL K H p xs) (t : DdAll K Hs xs ds) : Yields K (Dy K) (Ite K p) Hs (enD ds) where
  go := fun i H e hi => by
    rw [enD_len] at hi
    obtain ⟨v, h1, _⟩ := t.get (i := i) (d := ds[i]) (List.getElem?_eq_getElem hi)
    exact ⟨xs, v, hq H e, h1⟩
  stop := fun i H e hi => ⟨xs, hq H e, by rw [enD_len] at hi; rw [t.length]; exact hi⟩
  yld := fun i H x H' Hs2 hi e1 e2 h => by
    obtain ⟨T, y, rfl, hT, rfl, h2⟩ := h
    obtain ⟨d, h3, h4⟩ := t.getv (h2 xs (hq _ (e1.trans e2)))
    exact ⟨upd Hs2 T (.tup [.int (i : Nat), y]), Grow.alloc e2 hT, _, enD_get h3, T, _, _, rfl, rfl, upd_same, .cons (.int _) (.cons ((h4.mono e1).mono (same_new (e2.free hT))) .nil)⟩
@[simp] def iEn (f : Fn) : Rho → Option (List PyData) := fun ρ => (f ρ).bind fun d => match d with
  | .list ds => some (enD ds)
  | .tuple ds => some (enD ds)
  | _ => none
section
variable {K : PySem.W.Frag} {X : Cx} {M : List Nat} {a b : Expr} {ta tb : TE} {fa fb : Fn} {pos p tpos : Pos} {elts : List Expr} {kk : Nat}
theorem id_enum (ha : ED K X M a ta fa) (hm : X.mg "enumerate" = none) (hg : Gl X "enumerate" := by rfl) (hs : starEach [a] X.env = [(false, eval a X.env)] := by rfl) (hK : X.K = K := by rfl) :
    ID K X M (Dy K) (.Tuple elts kk tpos) (.Call (.Name "enumerate" p) [a] [] pos) (iEnumT K (tCons ta tNil)) (iEn fa) := by
  subst hK
  refine ⟨pi_enumT hg hm (pa_cons ha.pe pa_nil hs) hs, fun {Hs0 H0 Hs H σ ρ ds R} r hf q => ?_⟩
  obtain ⟨d, h1, h2⟩ := bind_some hf
  refine ha.sm r h1 fun v Hs1 H1 g1 d1 => ?_
  cases d1 with
  | @lst p0 xs ds' hp t =>
    obtain rfl := Option.some.inj h2
    exact ⟨p0, rfl, .inl ⟨⟨xs, sqL_of (g1.sub _ _ hp)⟩, q _ Hs1 H1 g1 (yields_enumL (fun H e => sqL_of (e _ _ hp)) t)⟩⟩
  | @tup p0 ob xs ds' n hp t =>
    obtain rfl := Option.some.inj h2
    exact ⟨p0, rfl, .inr ⟨⟨xs, sqT_of (g1.sub _ _ hp)⟩, q _ Hs1 H1 g1 (yields_enumT (fun H e => sqT_of (e _ _ hp)) t)⟩⟩
  | _ => cases h2
/-- zip of two -/
def zpD (xs ys : List PyData) : List PyData := (xs.zip ys).map fun p => .tuple [p.1, p.2]
theorem zpD_len (xs ys : List PyData) : (zpD xs ys).length = min xs.length ys.length := by unfold zpD; rw [List.length_map, List.length_zip]
theorem zpD_get {xs ys : List PyData} {i : Nat} {x y : PyData} (h1 : xs[i]? = some x) (h2 : ys[i]? = some y) : (zpD xs ys)[i]? = some (.tuple [x, y]) := by
  unfold zpD
  have e : (xs.zip ys)[i]? = some (x, y) := List.getElem?_zip_eq_some.mpr ⟨h1, h2⟩
  rw [List.getElem?_map, e]
  rfl
theorem yields_zipT {Hs : Hp} {p1 p2 : Addr} {xs ys : List V} {ds es : List PyData} (hq : ∀ H, Same Hs H → SqT K H p1 xs) (hq2 : ∀ H, Same Hs H → SqT K H p2 ys) (t : DdAll K Hs xs ds) (t2 : DdAll K Hs ys es) : Yields K (Dy K) (RZ.ItzT K p1 p2) Hs (zpD ds es) where
  go := fun i H e hi => by
    rw [zpD_len] at hi
    obtain ⟨v, h1, _⟩ := t.get (i := i) (d := ds[i]) (List.getElem?_eq_getElem (by omega))
    obtain ⟨v2, h2, _⟩ := t2.get (i := i) (d := es[i]) (List.getElem?_eq_getElem (by omega))
    exact ⟨xs, ys, v, v2, hq H e, hq2 H e, h1, h2⟩
  stop := fun i H e hi => ⟨xs, ys, hq H e, hq2 H e, by rw [zpD_len] at hi; rw [t.length, t2.length]; omega⟩
  yld := fun i H x H' Hs2 hi e1 e2 h => by
    obtain ⟨T, y, z, rfl, hT, rfl, h2, h3⟩ := h
    obtain ⟨d, h4, h5⟩ := t.getv (h2 xs (hq _ (e1.trans e2)))
    obtain ⟨d2, h6, h7⟩ := t2.getv (h3 ys (hq2 _ (e1.trans e2)))
    have nw := same_new (o := .tup [y, z]) (e2.free hT)
    exact ⟨upd Hs2 T (.tup [y, z]), Grow.alloc e2 hT, _, zpD_get h4 h6, T, _, _, rfl, rfl, upd_same, .cons ((h5.mono e1).mono nw) (.cons ((h7.mono e1).mono nw) .nil)⟩
theorem yields_zipL {Hs : Hp} {p1 p2 : Addr} {xs ys : List V} {ds es : List PyData} (hq : ∀ H, Same Hs H → SqL K H p1 xs) (hq2 : ∀ H, Same Hs H → SqL K H p2 ys) (t : DdAll K Hs xs ds) (t2 : DdAll K Hs ys es) : Yields K (Dy K) (Itz K p1 p2) Hs (zpD ds es) where
  go := fun i H e hi => by
    rw [zpD_len] at hi
    obtain ⟨v, h1, _⟩ := t.get (i := i) (d := ds[i]) (List.getElem?_eq_getElem (by omega))
    obtain ⟨v2, h2, _⟩ := t2.get (i := i) (d := es[i]) (List.getElem?_eq_getElem (by omega))
    exact ⟨xs, ys, v, v2, hq H e, hq2 H e, h1, h2⟩
  stop := fun i H e hi => ⟨xs, ys, hq H e, hq2 H e, by rw [zpD_len] at hi; rw [t.length, t2.length]; omega⟩
  yld := fun i H x H' Hs2 hi e1 e2 h => by
    obtain ⟨T, y, z, rfl, hT, rfl, h2, h3⟩ := h
    obtain ⟨d, h4, h5⟩ := t.getv (h2 xs (hq _ (e1.trans e2)))
    obtain ⟨d2, h6, h7⟩ := t2.getv (h3 ys (hq2 _ (e1.trans e2)))
    have nw := same_new (o := .tup [y, z]) (e2.free hT)
    exact ⟨upd Hs2 T (.tup [y, z]), Grow.alloc e2 hT, _, zpD_get h4 h6, T, _, _, rfl, rfl, upd_same, .cons ((h5.mono e1).mono nw) (.cons ((h7.mono e1).mono nw) .nil)⟩
@[simp] def iZp (f g : Fn) : Rho → Option (List PyData) := fun ρ => (f ρ).bind fun d => (g ρ).bind fun d2 => match d, d2 with
  | .list ds, .list es => some (zpD ds es)
  | .tuple ds, .tuple es => some (zpD ds es)
  | _, _ => none
theorem id_zip (ha : ED K X M a ta fa) (hb : ED K X M b tb fb) (hm : X.mg "zip" = none) (hg : Gl X "zip" := by rfl) (hs : starEach [a, b] X.env = (false, eval a X.env) :: starEach [b] X.env := by rfl) (hs2 : starEach [b] X.env = (false, eval b X.env) :: starEach [] X.env := by rfl)
    (hpl : (backTo pos (starEach [b] X.env)).any (·.1) = false := by rfl) (hK : X.K = K := by rfl) :
    ID K X M (Dy K) (.Tuple elts kk tpos) (.Call (.Name "zip" p) [a, b] [] pos) (RZ.iZipA K (tCons ta (tCons tb tNil))) (iZp fa fb) := by
  subst hK
  refine ⟨RZ.pi_zipA hg hm (pa_cons ha.pe (pa_cons hb.pe pa_nil hs2) hs) hs hpl, fun {Hs0 H0 Hs H σ ρ ds R} r hf q => ?_⟩
  obtain ⟨d, h1, h2⟩ := bind_some hf
  obtain ⟨d2, h3, h4⟩ := bind_some h2
  refine ha.sm r h1 fun v Hs1 H1 g1 d1 => ?_
  refine hb.sm (r.grow g1) h3 fun v2 Hs2 H2 g2 e1 => ?_
  cases d1 with
  | @lst p0 xs ds' hp t =>
    cases e1 with
    | @lst p1 ys es' hp2 t2 =>
      obtain rfl := Option.some.inj h4
      have hp' := g2.exs _ _ hp
      exact ⟨p0, p1, xs, ys, rfl, .inl ⟨sqL_of (g2.sub _ _ hp'), sqL_of (g2.sub _ _ hp2), q _ Hs2 H2 (g1.trans g2) (yields_zipL (fun H e => sqL_of (e _ _ hp')) (fun H e => sqL_of (e _ _ hp2)) (t.mono g2.exs) t2)⟩⟩
    | _ => cases h4
  | @tup p0 ob xs ds' n hp t =>
    cases e1 with
    | @tup p1 ob2 ys es' n2 hp2 t2 =>
      obtain rfl := Option.some.inj h4
      have hp' := g2.exs _ _ hp
      exact ⟨p0, p1, xs, ys, rfl, .inr ⟨sqT_of (g2.sub _ _ hp'), sqT_of (g2.sub _ _ hp2), q _ Hs2 H2 (g1.trans g2) (yields_zipT (fun H e => sqT_of (e _ _ hp')) (fun H e => sqT_of (e _ _ hp2)) (t.mono g2.exs) t2)⟩⟩
    | _ => cases h4
  | _ => cases h4
end
end DL

namespace DL
open PySem PySem.Spec PyProof.Rows L2
variable [Tabl]
/-! ### what == says of data -/
def shK (k : Nat) (d : PyData) : Prop := d.canLay0 = true ∧ d.depth ≤ k
theorem shK_int {k : Nat} (hk : 1 ≤ k) (i : Int) : shK k (.int i) := ⟨by simp [PyData.canLay0], by simp [PyData.depth] <;> omega⟩
theorem shK_bool {k : Nat} (hk : 1 ≤ k) (i : Bool) : shK k (.bool i) := ⟨by simp [PyData.canLay0], by simp [PyData.depth] <;> omega⟩
theorem shK_none {k : Nat} (hk : 1 ≤ k) : shK k .none := ⟨by simp [PyData.canLay0], by simp [PyData.depth] <;> omega⟩
theorem shK_all {k : Nat} : ∀ {xs : List PyData}, (∀ x ∈ xs, shK k x) → PyData.canLayAll0 xs = true ∧ PyData.depthAll xs ≤ k
  | [], _ => ⟨by simp [PyData.canLayAll0], by simp [PyData.depthAll]⟩
  | x :: xs, h => by
    obtain ⟨h1, h2⟩ := h x List.mem_cons_self
    obtain ⟨h3, h4⟩ := shK_all (xs := xs) fun y hy => h y (List.mem_cons_of_mem _ hy)
    exact ⟨by simp [PyData.canLayAll0, h1, h3], by simp only [PyData.depthAll]; omega⟩
theorem shK_tup {k : Nat} {xs : List PyData} (h : ∀ x ∈ xs, shK k x) : shK (k + 1) (.tuple xs) := by
  obtain ⟨h1, h2⟩ := shK_all h
  exact ⟨by simp [PyData.canLay0, h1], by simp only [PyData.depth]; omega⟩
theorem shK_lst {k : Nat} {xs : List PyData} (h : ∀ x ∈ xs, shK k x) : shK (k + 1) (.list xs) := by
  obtain ⟨h1, h2⟩ := shK_all h
  exact ⟨by simp [PyData.canLay0, h1], by simp only [PyData.depth]; omega⟩
theorem shaped_of {k : Nat} {d : PyData} (h : shK k d) (hk : k ≤ 64 := by decide) : SeqAt.shaped d = true := by
  unfold SeqAt.shaped
  rw [h.1, Bool.true_and, decide_eq_true_eq]
  exact Nat.le_trans h.2 hk
/-- data told by things that == tells apart -/
def Emb {α : Type} [DecidableEq α] (w : α → PyData) : Prop := ∀ a b, PyData.eqv (w a) (w b) = decide (a = b)
theorem emb_int : Emb PyData.int := fun i j => by
  show (i == j) = _
  rw [Bool.beq_eq_decide_eq]
theorem emb_bool : Emb PyData.bool := fun i j => by
  show (i == j) = _
  rw [Bool.beq_eq_decide_eq]
theorem emb_all {α : Type} [DecidableEq α] {w : α → PyData} (h : Emb w) : ∀ l m : List α, PyData.eqvAll (l.map w) (m.map w) = decide (l = m)
  | [], [] => by simp [PyData.eqvAll]
  | [], b :: m => by simp [PyData.eqvAll]
  | a :: l, [] => by simp [PyData.eqvAll]
  | a :: l, b :: m => by
    simp only [List.map_cons, PyData.eqvAll]
    rw [h a b, emb_all h l m]
    by_cases e : a = b <;> by_cases e2 : l = m <;> simp [e, e2]
theorem emb_tup {α : Type} [DecidableEq α] {w : α → PyData} (h : Emb w) : Emb fun l : List α => PyData.tuple (l.map w) := fun l m => by
  rw [PyData.eqv]
  exact emb_all h l m
theorem emb_lst {α : Type} [DecidableEq α] {w : α → PyData} (h : Emb w) : Emb fun l : List α => PyData.list (l.map w) := fun l m => by
  rw [PyData.eqv]
  exact emb_all h l m
theorem emb_pair {α β : Type} [DecidableEq α] [DecidableEq β] {w : α → PyData} {v : β → PyData} (h : Emb w) (h2 : Emb v) : Emb fun p : α × β => PyData.tuple [w p.1, v p.2] := fun p q => by
  obtain ⟨a, b⟩ := p
  obtain ⟨c, d⟩ := q
  simp only [PyData.eqv, PyData.eqvAll]
  rw [h a c, h2 b d]
  by_cases e : a = c <;> by_cases e2 : b = d <;> simp [e, e2]
/-- a map, told -/
abbrev Mp := Int × List Int
def mpD (m : Mp) : PyData := mapD m.1 m.2
theorem emb_map : Emb mpD := emb_pair emb_int (emb_tup emb_int)
theorem shK_ints {r : List Int} : shK 2 (.tuple (r.map PyData.int)) := shK_tup fun x hx => by
  obtain ⟨i, _, rfl⟩ := List.mem_map.mp hx
  exact shK_int (by decide) i
theorem shK_intsL {r : List Int} : shK 2 (.list (r.map PyData.int)) := shK_lst fun x hx => by
  obtain ⟨i, _, rfl⟩ := List.mem_map.mp hx
  exact shK_int (by decide) i
theorem shK.up {k m : Nat} {d : PyData} (h : shK k d) (hm : k ≤ m) : shK m d := ⟨h.1, Nat.le_trans h.2 hm⟩
theorem shK_map (m : Mp) : shK 3 (mpD m) := shK_tup fun x hx => by
  rcases List.mem_cons.mp hx with rfl | hx
  · exact shK_int (by decide) _
  · rcases List.mem_cons.mp hx with rfl | hx
    · exact shK_ints
    · cases hx
theorem gEq_of {α : Type} [DecidableEq α] {w : α → PyData} (h : Emb w) {k : Nat} (hs : ∀ a, shK k (w a)) (hk : k ≤ 64) (neg : Bool) (a b : α) : gEq neg (w a) (w b) = some (.bool (xor neg (decide (a = b)))) := by
  unfold gEq
  rw [if_pos ⟨shaped_of (hs a) hk, shaped_of (hs b) hk⟩, h a b]
@[simp] theorem gEq_map (neg : Bool) (a b : Mp) : gEq neg (mpD a) (mpD b) = some (.bool (xor neg (decide (a = b)))) := gEq_of emb_map shK_map (by decide) neg a b
@[simp] theorem gEq_int (neg : Bool) (a b : Int) : gEq neg (.int a) (.int b) = some (.bool (xor neg (decide (a = b)))) := gEq_of (w := PyData.int) (k := 1) emb_int (shK_int (by decide)) (by decide) neg a b
@[simp] theorem gEq_intsT (neg : Bool) (a b : List Int) : gEq neg (.tuple (a.map .int)) (.tuple (b.map .int)) = some (.bool (xor neg (decide (a = b)))) := gEq_of (w := fun l : List Int => PyData.tuple (l.map .int)) (k := 2) (emb_tup emb_int) (fun _ => shK_ints) (by decide) neg a b
@[simp] theorem gEq_intsL (neg : Bool) (a b : List Int) : gEq neg (.list (a.map .int)) (.list (b.map .int)) = some (.bool (xor neg (decide (a = b)))) := gEq_of (w := fun l : List Int => PyData.list (l.map .int)) (k := 2) (emb_lst emb_int) (fun _ => shK_intsL) (by decide) neg a b
theorem flat_ints (r : List Int) : (r.map PyData.int).all flatD = true := by
  rw [List.all_eq_true]
  intro x hx
  obtain ⟨i, _, rfl⟩ := List.mem_map.mp hx
  rfl
theorem any_ints (r : List Int) (k : Int) : ((r.map PyData.int).any fun z => PyData.eqv z (.int k)) = decide (k ∈ r) := by
  induction r with
  | nil => rfl
  | cons a r ih =>
    rw [List.map_cons, List.any_cons, ih, emb_int a k]
    by_cases e : a = k
    · subst e; simp
    · have e' : k ≠ a := fun z => e z.symm
      simp [e, e', List.mem_cons]
@[simp] theorem gIn_ints (neg : Bool) (r : List Int) (k : Int) : gIn neg (.int k) (.tuple (r.map .int)) = some (.bool (xor neg (decide (k ∈ r)))) := by
  unfold gIn
  simp only
  rw [if_pos ⟨rfl, flat_ints r⟩, any_ints]
@[simp] theorem gIn_intsL (neg : Bool) (r : List Int) (k : Int) : gIn neg (.int k) (.list (r.map .int)) = some (.bool (xor neg (decide (k ∈ r)))) := by
  unfold gIn
  simp only
  rw [if_pos (.inl ⟨rfl, flat_ints r⟩), any_ints]
theorem gLenSet_ints {r : List Int} (h : r.length ≤ 1000) : gLenSet (.tuple (r.map .int)) = some (.int (sset r).length) := by
  unfold gLenSet
  simp only [intsD_map, Option.bind_some]
  rw [if_pos h]
/-- subscripts -/
theorem gIx_tup {xs : List PyData} {i : Nat} {d : PyData} (h : xs[i]? = some d) : gIx (.tuple xs) (.int i) = some d := by
  unfold gIx
  simp only
  exact atI_nat h
@[simp] theorem at0 {a b : PyData} : atI [a, b] 0 = some a := rfl
@[simp] theorem at1 {a b : PyData} : atI [a, b] 1 = some b := rfl
structure Wf (m : Mp) : Prop where
  len : m.2.length ≤ 1000
  rng : 0 ≤ m.1 ∧ m.1 ≤ 1000
  lt : ∀ x ∈ m.2, 0 ≤ x ∧ x < m.1
/-- one, and then other, by hand -/
def thn (a b : Mp) : Mp := (b.1, a.2.map fun x => b.2.getD x.toNat 0)
theorem thn_len (a b : Mp) : (thn a b).2.length = a.2.length := List.length_map _
theorem getD_mem {l : List Int} {k : Nat} (h : k < l.length) : l.getD k 0 ∈ l := by
  rw [List.getD_eq_getElem?_getD, List.getElem?_eq_getElem h]
  exact List.getElem_mem h
theorem Wf.thn {a b : Mp} (ha : Wf a) (hb : Wf b) (h : a.1 = b.2.length) : Wf (thn a b) where
  len := by rw [thn_len]; exact ha.len
  rng := hb.rng
  lt := fun x hx => by
    obtain ⟨i, hi, rfl⟩ := List.mem_map.mp hx
    have := ha.lt i hi
    exact hb.lt _ (getD_mem (by omega))
theorem atI_ints {r : List Int} {x : Int} (h : 0 ≤ x ∧ x < r.length) : atI (r.map PyData.int) x = some (.int (r.getD x.toNat 0)) := by
  have e : x = ((x.toNat : Nat) : Int) := by omega
  have hl : x.toNat < r.length := by omega
  have g : (r.map PyData.int)[x.toNat]? = some (.int (r.getD x.toNat 0)) := by
    rw [List.getElem?_map, List.getElem?_eq_getElem hl, List.getD_eq_getElem?_getD, List.getElem?_eq_getElem hl]
    rfl
  have := atI_nat g
  rwa [← e] at this
@[simp] theorem gIx_m0 (a : Mp) : gIx (mpD a) (.int 0) = some (.int a.1) := rfl
@[simp] theorem gIx_m1 (a : Mp) : gIx (mpD a) (.int 1) = some (.tuple (a.2.map .int)) := rfl
@[simp] theorem gIs_map (neg : Bool) (a : Mp) : gIs neg (mpD a) .none = some (.bool (xor neg false)) := rfl
@[simp] theorem gIs_mapD (neg : Bool) (t : Int) (r : List Int) : gIs neg (mapD t r) .none = some (.bool (xor neg false)) := rfl
/-- a number for each: 0, 1, .. -/
def idr (n : Nat) : List Int := (List.range n).map fun (i : Nat) => (i : Int)
theorem idr_len (n : Nat) : (idr n).length = n := by unfold idr; rw [List.length_map, List.length_range]
theorem idr_get {n i : Nat} (h : i < n) : (idr n)[i]? = some (i : Int) := by
  unfold idr
  rw [List.getElem?_map, List.getElem?_range h]
  rfl
theorem idr_mem {n : Nat} {x : Int} (h : x ∈ idr n) : 0 ≤ x ∧ x < n := by
  unfold idr at h
  obtain ⟨i, hi, rfl⟩ := List.mem_map.mp h
  have := List.mem_range.mp hi
  omega
theorem Wf.same {n : Int} (h : 0 ≤ n ∧ n ≤ 1000) : Wf (n, idr n.toNat) where
  len := by rw [idr_len]; omega
  rng := h
  lt := fun x hx => by have := idr_mem hx; show 0 ≤ x ∧ x < n; omega
theorem thn_same_r {a : Mp} (ha : Wf a) : thn a (a.1, idr a.1.toNat) = a := by
  unfold thn
  refine Prod.ext rfl ?_
  show a.2.map _ = a.2
  refine (List.map_congr_left fun x hx => ?_).trans (List.map_id _)
  have := ha.lt x hx
  rw [List.getD_eq_getElem?_getD, idr_get (by omega)]
  show ((x.toNat : Nat) : Int) = x
  omega
theorem thn_same_l (a : Mp) : thn ((a.2.length : Nat), idr a.2.length) a = a := by
  unfold thn
  refine Prod.ext rfl ?_
  show (idr a.2.length).map _ = a.2
  refine List.ext_getElem? fun i => ?_
  by_cases h : i < a.2.length
  · rw [List.getElem?_map, idr_get h]
    show some (a.2.getD ((i : Int)).toNat 0) = _
    rw [List.getD_eq_getElem?_getD, show ((i : Int)).toNat = i by omega, List.getElem?_eq_getElem h]
    rfl
  · rw [List.getElem?_eq_none (by rw [List.length_map, idr_len]; omega), List.getElem?_eq_none (by omega)]
theorem thn_assoc {a b c : Mp} (ha : Wf a) (h : a.1 = b.2.length) : thn (thn a b) c = thn a (thn b c) := by
  unfold thn
  refine Prod.ext rfl ?_
  show (a.2.map _).map _ = a.2.map _
  rw [List.map_map]
  refine List.map_congr_left fun x hx => ?_
  have := ha.lt x hx
  have hl : x.toNat < b.2.length := by omega
  show c.2.getD (b.2.getD x.toNat 0).toNat 0 = (b.2.map fun y => c.2.getD y.toNat 0).getD x.toNat 0
  rw [List.getD_eq_getElem?_getD (l := b.2.map _), List.getElem?_map, List.getElem?_eq_getElem hl, List.getD_eq_getElem?_getD (l := b.2), List.getElem?_eq_getElem hl]
  rfl
theorem rgD_idr (n : Nat) : rgD 0 n = (idr n).map PyData.int := by
  rw [rgD_zero]
  unfold idr
  rw [List.map_map]
  rfl
theorem enD_ints (r : List Int) : enD (r.map PyData.int) = (List.range r.length).map fun (i : Nat) => PyData.tuple [.int i, .int (r.getD i 0)] := by
  refine List.ext_getElem? fun i => ?_
  by_cases h : i < r.length
  · have e : (r.map PyData.int)[i]? = some (.int (r.getD i 0)) := by
      rw [List.getElem?_map, List.getElem?_eq_getElem h, List.getD_eq_getElem?_getD, List.getElem?_eq_getElem h]
      rfl
    rw [enD_get e, List.getElem?_map, List.getElem?_range h]
    rfl
  · rw [List.getElem?_eq_none (by rw [enD_len, List.length_map]; omega), List.getElem?_eq_none (by rw [List.length_map, List.length_range]; omega)]
/-- [.. for i, x in enumerate(row) if ..] -/
theorem lc_enF {vs : List Nat} {j1 j2 : Nat} {fs f : Fn} {c : Rho → Option Bool} {ρ : Rho} {r : List Int} {g : Nat → PyData} {p : Nat → Bool} {d : PyData} (h1 : fs ρ = some d) (hd : d = .tuple (r.map .int) ∨ d = .list (r.map .int)) (hl : r.length ≤ 1000000)
    (h : ∀ i, i < r.length → c (((wipeR ρ vs).set j1 (some (.int i))).set j2 (some (.int (r.getD i 0)))) = some (p i) ∧ (p i = true → f (((wipeR ρ vs).set j1 (some (.int i))).set j2 (some (.int (r.getD i 0)))) = some (g i))) :
    fLc vs (iEn fs) (hSeq 2 (hCons (hName j1) (hCons (hName j2) hNil))) c f ρ = some (((List.range r.length).filter p).map g) := by
  have e : iEn fs ρ = some ((List.range r.length).map fun (i : Nat) => PyData.tuple [.int i, .int (r.getD i 0)]) := by
    unfold iEn
    rw [h1, Option.bind_some]
    rcases hd with rfl | rfl <;> simp only [enD_ints]
  unfold fLc
  rw [e, Option.bind_some, if_pos (by rw [List.length_map, List.length_range]; exact hl)]
  refine compF_listF fun i hi => ⟨_, rfl, ?_, ?_⟩
  · exact (h i (List.mem_range.mp hi)).1
  · exact (h i (List.mem_range.mp hi)).2
theorem insS_len {k : Int} : ∀ {l : List Int}, l.Pairwise (· < ·) → (insS k l).length = if k ∈ l then l.length else l.length + 1
  | [], _ => by simp [insS]
  | a :: r, h => by
    obtain ⟨h1, h2⟩ := List.pairwise_cons.mp h
    unfold insS
    by_cases c1 : k < a
    · have : ¬ k ∈ a :: r := fun hm => by
        rcases List.mem_cons.mp hm with e | e
        · omega
        · have := h1 k e; omega
      rw [if_pos c1, if_neg this]
      rfl
    · rw [if_neg c1]
      by_cases c2 : k = a
      · rw [if_pos c2, if_pos (by rw [c2]; exact List.mem_cons_self)]
      · rw [if_neg c2, List.length_cons, insS_len h2, List.length_cons]
        by_cases c3 : k ∈ r
        · rw [if_pos c3, if_pos (List.mem_cons_of_mem _ c3)]
        · rw [if_neg c3, if_neg (fun hm => by rcases List.mem_cons.mp hm with e | e; exact c2 e; exact c3 e)]
theorem sset_nodup : ∀ {r : List Int}, (sset r).length = r.length ↔ r.Nodup
  | [] => by simp [sset]
  | a :: r => by
    have e : sset (a :: r) = insS a (sset r) := rfl
    rw [e, insS_len (sset_lt r), List.nodup_cons, List.length_cons, ← sset_nodup (r := r)]
    have hle := sset_le r
    by_cases c : a ∈ r
    · rw [if_pos (sset_mem.mpr c)]
      constructor
      · intro z; omega
      · rintro ⟨z, _⟩; exact absurd c z
    · rw [if_neg (fun z => c (sset_mem.mp z))]
      constructor
      · intro z; exact ⟨c, by omega⟩
      · rintro ⟨_, z⟩; omega
theorem met_nodup {r : List Int} : ((List.range r.length).filter fun i => decide (r.getD i 0 ∈ r.take i)).length = 0 ↔ r.Nodup := by
  rw [List.length_eq_zero_iff, List.filter_eq_nil_iff]
  constructor
  · intro h
    refine List.pairwise_iff_getElem.mpr fun i j hi hj hij => ?_
    have := h j (List.mem_range.mpr hj)
    rw [decide_eq_true_eq] at this
    intro e
    refine this ?_
    rw [List.getD_eq_getElem?_getD, List.getElem?_eq_getElem hj]
    show r[j] ∈ _
    rw [← e]
    refine List.mem_iff_getElem?.mpr ⟨i, ?_⟩
    rw [List.getElem?_take, if_pos hij, List.getElem?_eq_getElem hi]
  · intro h i hi
    have hi := List.mem_range.mp hi
    rw [decide_eq_true_eq, List.getD_eq_getElem?_getD, List.getElem?_eq_getElem hi]
    intro hm
    obtain ⟨j, hj⟩ := List.mem_iff_getElem?.mp hm
    rw [List.getElem?_take] at hj
    by_cases hji : j < i
    · rw [if_pos hji] at hj
      obtain ⟨hjl, ej⟩ := List.getElem?_eq_some_iff.mp hj
      exact List.pairwise_iff_getElem.mp h j i hjl hi hji ej
    · rw [if_neg hji] at hj
      cases hj
theorem idr_lt (n : Nat) : (idr n).Pairwise (· < ·) := by
  unfold idr
  rw [List.pairwise_map]
  exact List.pairwise_lt_range.imp fun h => by omega
theorem mem_idr {n : Nat} {x : Int} : x ∈ idr n ↔ 0 ≤ x ∧ x < n := by
  refine ⟨idr_mem, fun h => ?_⟩
  refine List.mem_iff_getElem?.mpr ⟨x.toNat, ?_⟩
  rw [idr_get (by omega)]
  congr 1
  omega
theorem left_all {n : Nat} {r : List Int} (hr : ∀ x ∈ r, 0 ≤ x ∧ x < n) : ((List.range n).filter fun (i : Nat) => decide ((i : Int) ∉ r)).length = 0 ↔ (sset r).length = n := by
  rw [List.length_eq_zero_iff, List.filter_eq_nil_iff]
  have hle : (sset r).length ≤ (idr n).length := nodup_len (rise_nodup (sset_lt r)) (rise_nodup (idr_lt n)) fun x hx => mem_idr.mpr (hr x (sset_mem.mp hx))
  rw [idr_len] at hle
  constructor
  · intro h
    refine Nat.le_antisymm hle ?_
    have := nodup_len (rise_nodup (idr_lt n)) (rise_nodup (sset_lt r)) fun x hx => by
      have := mem_idr.mp hx
      have h2 := h x.toNat (List.mem_range.mpr (by omega))
      rw [decide_eq_true_eq, Classical.not_not] at h2
      rw [show ((x.toNat : Nat) : Int) = x by omega] at h2
      exact sset_mem.mpr h2
    rwa [idr_len] at this
  · intro h i hi
    have hi := List.mem_range.mp hi
    rw [decide_eq_true_eq, Classical.not_not]
    refine Classical.byContradiction fun hn => ?_
    have := nodup_len (l := (i : Int) :: sset r) (m := idr n) (List.nodup_cons.mpr ⟨fun z => hn (sset_mem.mp z), rise_nodup (sset_lt r)⟩) (rise_nodup (idr_lt n)) fun x hx => by
      rcases List.mem_cons.mp hx with rfl | hx
      · exact mem_idr.mpr (by omega)
      · exact mem_idr.mpr (hr x (sset_mem.mp hx))
    rw [List.length_cons, idr_len] at this
    omega
def Parts (a : Mp) : Prop := (sset a.2).length = a.2.length
def Comes (a : Mp) : Prop := ((sset a.2).length : Int) = a.1
instance (a : Mp) : Decidable (Parts a) := inferInstanceAs (Decidable (_ = _))
instance (a : Mp) : Decidable (Comes a) := inferInstanceAs (Decidable (_ = _))
theorem parts_nodup {a : Mp} : Parts a ↔ a.2.Nodup := sset_nodup
theorem getD_inj {l : List Int} (h : l.Nodup) {i j : Nat} (hi : i < l.length) (hj : j < l.length) (e : l.getD i 0 = l.getD j 0) : i = j := by
  rw [List.getD_eq_getElem?_getD, List.getD_eq_getElem?_getD, List.getElem?_eq_getElem hi, List.getElem?_eq_getElem hj] at e
  have e : l[i] = l[j] := e
  rcases Nat.lt_trichotomy i j with z | z | z
  · exact absurd e (List.pairwise_iff_getElem.mp h i j hi hj z)
  · exact z
  · exact absurd e.symm (List.pairwise_iff_getElem.mp h j i hj hi z)
theorem nodup_map {f : Int → Int} : ∀ {l : List Int}, l.Nodup → (∀ x ∈ l, ∀ y ∈ l, f x = f y → x = y) → (l.map f).Nodup
  | [], _, _ => List.Pairwise.nil
  | a :: l, h, hf => by
    obtain ⟨h1, h2⟩ := List.nodup_cons.mp h
    rw [List.map_cons, List.nodup_cons]
    refine ⟨fun hm => ?_, nodup_map h2 fun x hx y hy => hf x (List.mem_cons_of_mem _ hx) y (List.mem_cons_of_mem _ hy)⟩
    obtain ⟨y, hy, e⟩ := List.mem_map.mp hm
    have := hf a List.mem_cons_self y (List.mem_cons_of_mem _ hy) e.symm
    exact h1 (by rw [this]; exact hy)
theorem thn_parts {a b : Mp} (ha : Wf a) (h : a.1 = b.2.length) (pa : Parts a) (pb : Parts b) : Parts (thn a b) := by
  rw [parts_nodup] at *
  refine nodup_map pa fun x hx y hy e => ?_
  have h1 := ha.lt x hx
  have h2 := ha.lt y hy
  have := getD_inj pb (by omega) (by omega) e
  omega
/-- all below to are come to -/
theorem comes_mem {a : Mp} (ha : Wf a) (ca : Comes a) {x : Int} (h : 0 ≤ x ∧ x < a.1) : x ∈ a.2 := by
  have hr := ha.rng
  have := (left_all (n := a.1.toNat) (r := a.2) fun y hy => by have := ha.lt y hy; omega).mpr (by unfold Comes at ca; omega)
  rw [List.length_eq_zero_iff, List.filter_eq_nil_iff] at this
  have := this x.toNat (List.mem_range.mpr (by omega))
  rw [decide_eq_true_eq, Classical.not_not, show ((x.toNat : Nat) : Int) = x by omega] at this
  exact this
theorem comes_of {a : Mp} (ha : Wf a) (h : ∀ x, 0 ≤ x ∧ x < a.1 → x ∈ a.2) : Comes a := by
  have hr := ha.rng
  have := (left_all (n := a.1.toNat) (r := a.2) fun y hy => by have := ha.lt y hy; omega).mp (by
    rw [List.length_eq_zero_iff, List.filter_eq_nil_iff]
    intro i hi
    have := List.mem_range.mp hi
    rw [decide_eq_true_eq, Classical.not_not]
    exact h _ (by omega))
  unfold Comes
  omega
theorem thn_comes {a b : Mp} (ha : Wf a) (hb : Wf b) (h : a.1 = b.2.length) (ca : Comes a) (cb : Comes b) : Comes (thn a b) := by
  refine comes_of (ha.thn hb h) fun x hx => ?_
  have hm := comes_mem hb cb (x := x) hx
  obtain ⟨i, hi⟩ := List.mem_iff_getElem?.mp hm
  obtain ⟨hil, ei⟩ := List.getElem?_eq_some_iff.mp hi
  have hm2 := comes_mem ha ca (x := (i : Int)) (by omega)
  refine List.mem_map.mpr ⟨(i : Int), hm2, ?_⟩
  rw [show ((i : Int)).toNat = i by omega, List.getD_eq_getElem?_getD, hi]
  rfl
end DL

namespace DL
open PySem PySem.Spec PyProof.Rows L2
variable [Tabl]
/-! ### comprehensions of ints -/
theorem map_int {α : Type} (l : List α) (g : α → Int) : l.map (fun a => PyData.int (g a)) = (l.map g).map PyData.int := by
  rw [List.map_map]
  rfl
variable {vs : List Nat} {j j1 j2 : Nat} {fn fs fs2 f : Fn} {c : Rho → Option Bool} {ρ : Rho} {n : Int}
theorem lc_rgI {g : Nat → Int} (h1 : fn ρ = some (.int n)) (hn : -1000000 ≤ n ∧ n ≤ 1000000) (h : ∀ i : Nat, (i : Int) < n → f ((wipeR ρ vs).set j (some (.int i))) = some (.int (g i))) :
    fLc vs (iR1 fn) (hName j) cYes f ρ = some (((List.range n.toNat).map g).map .int) := by
  rw [lc_rg (g := fun i => .int (g i)) h1 hn h, map_int]
theorem lc_rgIF {g : Nat → Int} {p : Nat → Bool} (h1 : fn ρ = some (.int n)) (hn : -1000000 ≤ n ∧ n ≤ 1000000) (h : ∀ i : Nat, (i : Int) < n → c ((wipeR ρ vs).set j (some (.int i))) = some (p i) ∧ (p i = true → f ((wipeR ρ vs).set j (some (.int i))) = some (.int (g i)))) :
    fLc vs (iR1 fn) (hName j) c f ρ = some ((((List.range n.toNat).filter p).map g).map .int) := by
  rw [lc_rgF (g := fun i => .int (g i)) h1 hn h, map_int]
theorem lc_sqI {l : List Int} {g : Int → Int} {d : PyData} (h1 : fs ρ = some d) (hd : seqD d = some (l.map .int)) (hl : l.length ≤ 1000000) (h : ∀ x ∈ l, f ((wipeR ρ vs).set j (some (.int x))) = some (.int (g x))) :
    fLc vs (iSq fs) (hName j) cYes f ρ = some ((l.map g).map .int) := by
  rw [lc_sq (w := PyData.int) (g := fun i => .int (g i)) h1 hd hl h, map_int]
theorem lc_sqIF {l : List Int} {g : Int → Int} {p : Int → Bool} {d : PyData} (h1 : fs ρ = some d) (hd : seqD d = some (l.map .int)) (hl : l.length ≤ 1000000) (h : ∀ x ∈ l, c ((wipeR ρ vs).set j (some (.int x))) = some (p x) ∧ (p x = true → f ((wipeR ρ vs).set j (some (.int x))) = some (.int (g x)))) :
    fLc vs (iSq fs) (hName j) c f ρ = some (((l.filter p).map g).map .int) := by
  rw [lc_sqF (w := PyData.int) (g := fun i => .int (g i)) h1 hd hl h, map_int]
theorem lc_enIF {r : List Int} {g : Nat → Int} {p : Nat → Bool} {d : PyData} (h1 : fs ρ = some d) (hd : d = .tuple (r.map .int) ∨ d = .list (r.map .int)) (hl : r.length ≤ 1000000)
    (h : ∀ i, i < r.length → c (((wipeR ρ vs).set j1 (some (.int i))).set j2 (some (.int (r.getD i 0)))) = some (p i) ∧ (p i = true → f (((wipeR ρ vs).set j1 (some (.int i))).set j2 (some (.int (r.getD i 0)))) = some (.int (g i)))) :
    fLc vs (iEn fs) (hSeq 2 (hCons (hName j1) (hCons (hName j2) hNil))) c f ρ = some ((((List.range r.length).filter p).map g).map .int) := by
  rw [lc_enF (g := fun i => .int (g i)) h1 hd hl h, map_int]
theorem zpD_ints (l m : List Int) : zpD (l.map PyData.int) (m.map PyData.int) = (l.zip m).map fun p => PyData.tuple [.int p.1, .int p.2] := by
  unfold zpD
  rw [List.zip_map, List.map_map]
  rfl
theorem lc_zpI {l m : List Int} {g : Int → Int → Int} (h1 : fs ρ = some (.tuple (l.map .int))) (h2 : fs2 ρ = some (.tuple (m.map .int))) (hl : l.length ≤ 1000000)
    (h : ∀ x y, (x, y) ∈ l.zip m → f (((wipeR ρ vs).set j1 (some (.int x))).set j2 (some (.int y))) = some (.int (g x y))) :
    fLc vs (iZp fs fs2) (hSeq 2 (hCons (hName j1) (hCons (hName j2) hNil))) cYes f ρ = some (((l.zip m).map fun p => g p.1 p.2).map .int) := by
  have e : iZp fs fs2 ρ = some ((l.zip m).map fun p => PyData.tuple [.int p.1, .int p.2]) := by
    unfold iZp
    rw [h1, h2]
    simp only [Option.bind_some, zpD_ints]
  unfold fLc
  rw [e, Option.bind_some, if_pos (by rw [List.length_map, List.length_zip]; omega), ← map_int]
  exact compF_list (α := Int × Int) (w := fun p => PyData.tuple [.int p.1, .int p.2]) (g := fun p => .int (g p.1 p.2)) fun p hp => ⟨_, rfl, h p.1 p.2 hp⟩
/-! ### maps told by their parts -/
theorem mp_fold (x : Int) (l : List Int) : PyData.tuple [.int x, .tuple (l.map .int)] = mpD (x, l) := rfl
@[simp] theorem gEq_mapL (neg : Bool) (a : Mp) (x : Int) (l : List Int) : gEq neg (mpD a) (.tuple [.int x, .tuple (l.map .int)]) = some (.bool (xor neg (decide (a = (x, l))))) := gEq_map neg a (x, l)
@[simp] theorem gEq_mapA (neg : Bool) (a : Mp) (x : Int) (l m : List Int) : gEq neg (mpD a) (.tuple [.int x, .tuple (l.map .int ++ m.map .int)]) = some (.bool (xor neg (decide (a = (x, l ++ m))))) := by
  rw [← List.map_append]
  exact gEq_map neg a (x, l ++ m)
theorem mulOk {x y : Int} (hx : -1000000 ≤ x ∧ x ≤ 1000000) (hy : -1000000 ≤ y ∧ y ≤ 1000000) : MulOk x y := .inl (.inl ⟨by omega, by omega⟩)
theorem zip_range (l m : List Int) (h : l.length = m.length) (g : Int → Int → Int) : (l.zip m).map (fun p => g p.1 p.2) = (List.range l.length).map fun i => g (l.getD i 0) (m.getD i 0) := by
  refine List.ext_getElem? fun i => ?_
  by_cases hi : i < l.length
  · have e : (l.zip m)[i]? = some (l.getD i 0, m.getD i 0) := List.getElem?_zip_eq_some.mpr ⟨by show l[i]? = some (l.getD i 0); rw [List.getD_eq_getElem?_getD, List.getElem?_eq_getElem hi]; rfl, by show m[i]? = some (m.getD i 0); rw [List.getD_eq_getElem?_getD, List.getElem?_eq_getElem (show i < m.length by omega)]; rfl⟩
    rw [List.getElem?_map, e, List.getElem?_map, List.getElem?_range hi]
    rfl
  · rw [List.getElem?_eq_none (by rw [List.length_map, List.length_zip]; omega), List.getElem?_eq_none (by rw [List.length_map, List.length_range]; omega)]
theorem map_range_getD (l : List Int) : (List.range l.length).map (fun i => l.getD i 0) = l := by
  refine List.ext_getElem? fun i => ?_
  by_cases hi : i < l.length
  · rw [List.getElem?_map, List.getElem?_range hi]
    show some (l.getD i 0) = _
    rw [List.getD_eq_getElem?_getD, List.getElem?_eq_getElem hi]
    rfl
  · rw [List.getElem?_eq_none (by rw [List.length_map, List.length_range]; omega), List.getElem?_eq_none (by omega)]
theorem getD_range {g : Nat → Int} {n i : Nat} (h : i < n) : ((List.range n).map g).getD i 0 = g i := by
  rw [List.getD_eq_getElem?_getD, List.getElem?_map, List.getElem?_range h]
  rfl
/-- a good step: goes on, P holds -/
def Good (P : Rho → Prop) (g : Gn) (ρ : Rho) : Prop := ∃ ρ', g ρ = some (.nx ρ') ∧ P ρ'
theorem Good.step {P : Rho → Prop} {g1 g2 : Gn} {ρ ρ1 : Rho} (h1 : g1 ρ = some (.nx ρ1)) (h2 : Good P g2 ρ1) : Good P (gBlk g1 g2) ρ := by
  obtain ⟨ρ', h, hp⟩ := h2
  exact ⟨ρ', by rw [blk_nx h1]; exact h, hp⟩
theorem Good.last {P : Rho → Prop} {g : Gn} {ρ ρ1 : Rho} (h1 : g ρ = some (.nx ρ1)) (h2 : P ρ1) : Good P g ρ := ⟨ρ1, h1, h2⟩
/-- a loop of good turns -/
theorem Good.loop {P : Rho → Prop} {tg : PyData → Rho → Option Rho} {b : Gn} {h : Rho → Option (List PyData)} {ds : List PyData} {ρ : Rho} (he : h ρ = some ds) (hb : ∀ d ∈ ds, ∀ ρ, P ρ → ∃ ρ1, tg d ρ = some ρ1 ∧ Good P b ρ1) (h0 : P ρ) : Good P (gFor h tg b) ρ := by
  unfold Good gFor
  rw [he, Option.bind_some]
  refine forF_nx P (fun d hd ρ hp => ?_) h0
  obtain ⟨ρ1, h1, ρ', h2, h3⟩ := hb d hd ρ hp
  exact ⟨ρ1, ρ', h1, h2, h3⟩
theorem getD_app_l {l m : List Int} {i : Nat} (h : i < l.length) : (l ++ m).getD i 0 = l.getD i 0 := by
  rw [List.getD_eq_getElem?_getD, List.getD_eq_getElem?_getD, List.getElem?_append_left h]
theorem getD_app_r {l m : List Int} {i : Nat} : (l ++ m).getD (l.length + i) 0 = m.getD i 0 := by
  rw [List.getD_eq_getElem?_getD, List.getD_eq_getElem?_getD, List.getElem?_append_right (by omega), Nat.add_sub_cancel_left]
theorem row_wf {to : Int} {n : Nat} {g : Nat → Int} (ht : 0 ≤ to ∧ to ≤ 1000) (hn : n ≤ 1000) (h : ∀ i, i < n → 0 ≤ g i ∧ g i < to) : Wf (to, (List.range n).map g) where
  len := by show ((List.range n).map g).length ≤ 1000; rw [List.length_map, List.length_range]; exact hn
  rng := ht
  lt := fun x hx => by
    obtain ⟨i, hi, rfl⟩ := List.mem_map.mp hx
    exact h i (List.mem_range.mp hi)
theorem thn_row {to : Int} {n : Nat} {g : Nat → Int} {b : Mp} : thn (to, (List.range n).map g) b = (b.1, (List.range n).map fun i => b.2.getD (g i).toNat 0) := by
  unfold thn
  rw [List.map_map]
  rfl
theorem row_eq {n : Nat} {l : List Int} {g : Nat → Int} (hn : n = l.length) (h : ∀ i, i < n → g i = l.getD i 0) : (List.range n).map g = l := by
  subst hn
  exact (List.map_congr_left fun i hi => h i (List.mem_range.mp hi)).trans (map_range_getD l)
theorem getD_lt {a : Mp} (ha : Wf a) {i : Nat} (h : i < a.2.length) : 0 ≤ a.2.getD i 0 ∧ a.2.getD i 0 < a.1 := ha.lt _ (getD_mem h)
end DL

namespace DL
open PySem PySem.Spec PyProof.Rows L2
variable [Tabl]
section
variable {K : PySem.W.Frag} {X : Cx} {M : List Nat} {xc : Nat → Addr} {W : WX} {a b c d e o : Expr} {ta tb tc td te to : TE} {fa fb fc fd f fo : Fn} {pos pos' apos cpos : Pos}
/-! ### a op b op c op d, as a test -/
def tChain3 (r r' r'' : R2) (ta tb tc td : TE) : TT := fun σ H Q => ta σ H fun x H1 => tb σ H1 fun y H2 => r x y H2 fun z H3 => ∃ k, z = .bl k ∧
  (if k = true then tc σ H3 fun y' H4 => r' y y' H4 fun z' H5 => ∃ k, z' = .bl k ∧ (if k = true then td σ H5 fun y2 H6 => r'' y' y2 H6 fun z2 H7 => ∃ k, z2 = .bl k ∧ Q k H7 else Q false H5) else Q false H3)
theorem pt_chain3 {op op' op'' : CmpOp} {r r' r'' : R2} (ho : OpR X (compareOp op) r) (ho' : OpR X (compareOp op') r') (ho'' : OpR X (compareOp op'') r'') (ha : PE X a ta) (hb : PE X b tb) (hc : PE X c tc) (hd : PE X d td)
    (hm : lastMarks [op, op', op''] [b, c, d] = false := by with_unfolding_all rfl) : PT X (.Compare a [op, op', op''] [b, c, d] pos) (tChain3 r r' r'' ta tb tc td) := by
  refine ⟨fun pins s σ H Q I h => ?_⟩
  refine isTrue_chain (L2.thn (ha.run pins s σ H _ I h) fun v s1 ⟨x, H1, I1, r1, q1⟩ => test_link (L2.thn (hb.run pins s1 σ H1 _ I1 q1) fun u s2 ⟨y, H2, I2, r2, q2⟩ =>
    L2.thn (ho pins s2 σ H2 x y v u _ I2 r1 r2 q2) fun d1 s3 ⟨z, H3, I3, r3, k, ez, q3⟩ => ?_)) hm
  subst ez
  cases r3
  refine wpAny_truthy_bool ?_
  cases k with
  | false => exact ite_ff ⟨H3, I3, q3⟩
  | true =>
    refine ite_tt (test_link (L2.thn (hc.run pins s3 σ H3 _ I3 q3) fun u2 s4 ⟨y2, H4, I4, r4, q4⟩ => L2.thn (ho' pins s4 σ H4 y y2 u u2 _ I4 r2 r4 q4) fun d2 s5 ⟨z2, H5, I5, r5, k2, ez2, q5⟩ => ?_))
    subst ez2
    cases r5
    refine wpAny_truthy_bool ?_
    cases k2 with
    | false => exact ite_ff ⟨H5, I5, q5⟩
    | true =>
      refine ite_tt (test_last (L2.thn (hd.run pins s5 σ H5 _ I5 q5) fun u3 s6 ⟨y3, H6, I6, r6, q6⟩ => L2.thn (ho'' pins s6 σ H6 y2 y3 u2 u3 _ I6 r4 r6 q6) fun d3 s7 ⟨z3, H7, I7, r7, k3, ez3, q7⟩ => ?_))
      subst ez3
      cases r7
      exact wpAny_truthy_bool ⟨H7, I7, q7⟩
@[simp] def bChain3 (g g' g'' : PyData → PyData → Option PyData) (fa fb fc fd : Fn) : Rho → Option Bool := fun ρ => (fa ρ).bind fun x => (fb ρ).bind fun y => (g x y).bind fun z => match z with
  | .bool true => (fc ρ).bind fun y2 => (g' y y2).bind fun z2 => match z2 with
    | .bool true => (fd ρ).bind fun y3 => (g'' y2 y3).bind fun z3 => match z3 with
      | .bool k => some k
      | _ => none
    | .bool false => some false
    | _ => none
  | .bool false => some false
  | _ => none
theorem td_chain3 {op op' op'' : CmpOp} {r r' r'' : R2} {g g' g'' : PyData → PyData → Option PyData} (ho : OD K X (compareOp op) r g) (ho' : OD K X (compareOp op') r' g') (ho'' : OD K X (compareOp op'') r'' g'') (ha : ED K X M a ta fa) (hb : ED K X M b tb fb) (hc : ED K X M c tc fc) (hd : ED K X M d td fd)
    (hm : lastMarks [op, op', op''] [b, c, d] = false := by with_unfolding_all rfl) : TD K X M (.Compare a [op, op', op''] [b, c, d] pos) (tChain3 r r' r'' ta tb tc td) (bChain3 g g' g'' fa fb fc fd) :=
  ⟨pt_chain3 ho.op ho'.op ho''.op ha.pe hb.pe hc.pe hd.pe hm, fun {Hs0 H0 Hs H σ ρ k Q} R hf q => by
    obtain ⟨x, h1, hf⟩ := bind_some hf
    obtain ⟨y, h2, hf⟩ := bind_some hf
    obtain ⟨z, h3, hf⟩ := bind_some hf
    refine ha.sm R h1 fun v Hs1 H1 g1 d1 => ?_
    refine hb.sm (R.grow g1) h2 fun u Hs2 H2 g2 d2 => ?_
    refine ho.sm g2.sub (d1.mono g2.exs) d2 h3 fun w Hs3 H3 g3 d3 => ?_
    cases z with
    | bool k1 =>
      cases d3
      refine ⟨k1, rfl, ?_⟩
      cases k1 with
      | false =>
        rw [if_neg Bool.false_ne_true]
        obtain rfl := Option.some.inj hf
        exact q H3 (g1.trans (g2.trans g3)).calm
      | true =>
        rw [if_pos rfl]
        obtain ⟨y2, h4, hf⟩ := bind_some hf
        obtain ⟨z2, h5, hf⟩ := bind_some hf
        refine hc.sm (((R.grow g1).grow g2).grow g3) h4 fun u2 Hs4 H4 g4 d4 => ?_
        refine ho'.sm g4.sub ((d2.mono g3.exs).mono g4.exs) d4 h5 fun w2 Hs5 H5 g5 d5 => ?_
        cases z2 with
        | bool k2 =>
          cases d5
          refine ⟨k2, rfl, ?_⟩
          cases k2 with
          | false =>
            rw [if_neg Bool.false_ne_true]
            obtain rfl := Option.some.inj hf
            exact q H5 (g1.trans (g2.trans (g3.trans (g4.trans g5)))).calm
          | true =>
            rw [if_pos rfl]
            obtain ⟨y3, h6, hf⟩ := bind_some hf
            obtain ⟨z3, h7, hf⟩ := bind_some hf
            refine hd.sm (((((R.grow g1).grow g2).grow g3).grow g4).grow g5) h6 fun u3 Hs6 H6 g6 d6 => ?_
            refine ho''.sm g6.sub ((d4.mono g5.exs).mono g6.exs) d6 h7 fun w3 Hs7 H7 g7 d7 => ?_
            cases z3 with
            | bool k3 =>
              cases d7
              obtain rfl := Option.some.inj hf
              exact ⟨_, rfl, q H7 (g1.trans (g2.trans (g3.trans (g4.trans (g5.trans (g6.trans g7)))))).calm⟩
            | _ => cases hf
        | _ => cases hf
    | _ => cases hf⟩

/-! ### s.index(x), s a list or a tuple of plain things -/
def rIdxT (K : PySem.W.Frag) : V → List V → Hp → VK → Prop := fun x xs H Q => ∃ (p : Addr) (ys : List V) (y : V) (j : Nat) (z : V), x = V.ref p ∧ xs = [y] ∧ SqT K H p ys ∧ flatV y = true ∧ ys.all flatV = true ∧ ys[j]? = some z ∧ eqV z y = true ∧
  (∀ (m : Nat) (z' : V), m < j → ys[m]? = some z' → eqV z' y = false) ∧ Q (.int (j : Nat)) H
theorem mt_idxT : MtR X "tuple.index" (rIdxT X.K) := by
  intro pins s σ H x xs v us Q I rx rs h
  obtain ⟨p, ys, y, j, z, rfl, rfl, hq, fy, fys, hz, hzj, hno, q⟩ := h
  cases rx
  obtain ⟨uy, rfl, ry⟩ := vals1 rs
  obtain ⟨its, rv, pl, hlen⟩ := I.tuple hq
  obtain ⟨⟨cls, dd, dt, sl⟩, ho, hc, n, hd⟩ := pl
  simp only at hc hd
  subst hc hd
  obtain ⟨u, hu, ru⟩ := rv.get hz
  obtain ⟨hjl, hje⟩ := List.getElem?_eq_some_iff.mp hu
  have hvl := rv.length
  have hj : j < its.toArray.size := by simpa using hjl
  refine call_meets PySem.F.slot_tuple_index ⟨_, ho, rfl⟩ PySem.F.entry_tuple_index (PySem.F.args_tuple_index_2 _ _) (TI.tuple_indexAt p its.toArray n dd sl uy (eqU y) j hj ?_ ?_)
    ⟨ho, fun w hw => mem_eqAt ry fy rv fys w (by simpa using hw), ⟨.int (j : Nat), H, I.tok _, ⟨_, rfl⟩, q⟩⟩
  · have e1 : its.toArray[j] = u := by simpa using hje
    rw [e1, eqU_of ru (flat_at fys hz)]
    exact hzj
  · intro m hm hmj
    have hml : m < its.length := by simpa using hm
    have hmy : m < ys.length := by omega
    have hy' : ys[m]? = some ys[m] := List.getElem?_eq_getElem hmy
    obtain ⟨u2, hu2, ru2⟩ := rv.get hy'
    obtain ⟨_, hme⟩ := List.getElem?_eq_some_iff.mp hu2
    have e1 : its.toArray[m] = u2 := by simpa using hme
    rw [e1, eqU_of ru2 (flat_at fys hy')]
    exact hno m _ hmj hy'
def tIdx (K : PySem.W.Frag) (to : TE) (t : TA) : TE := fun σ H Q => to σ H fun x H1 => ∃ p, x = .ref p ∧ (((∃ ys, SqL K H1 p ys) ∧ t σ H1 fun vs H2 => rIndex K x vs H2 Q) ∨ ((∃ ob ys, ob.dict = none ∧ H1 p = some (.frz ob (.tup ys))) ∧ t σ H1 fun vs H2 => rIdxT K x vs H2 Q))
theorem pe_idx {es : List Expr} {t : TA} (ho : PE X o to) (ha : PA X (e :: es) t)
    (hbase : attributeBase o "index" X.env (eval o X.env) = eval o X.env := by rfl)
    (hfew : ((backTo cpos (starEach (e :: es) X.env)).all (fun x => !x.1) && (backToKw cpos (keywordEach [] X.env)).all (fun x => x.1.isSome)
      && decide ((e :: es).length + ([] : List Keyword).length + (if ([] : List Keyword).isEmpty then 0 else 1) < 30)) = true := by rfl)
    (hline : (apos.endLine == cpos.line) = true := by rfl) (hs : starEach (e :: es) X.env = (false, eval e X.env) :: starEach es X.env := by rfl) (hplain : (backTo cpos (starEach es X.env)).any (·.1) = false := by rfl) :
    PE X (.Call (.Attribute o "index" apos) (e :: es) [] cpos) (tIdx X.K to t) := by
  refine ⟨fun pins s σ H Q I h => ?_⟩
  refine wpAny_Call_method_late hbase hfew hline rfl (L2.thn (ho.run pins s σ H _ I h) fun v s1 ⟨x, H1, I1, r1, p, ex, q1⟩ => ?_)
  subst ex
  rcases q1 with ⟨⟨ys, hq⟩, q1⟩ | ⟨⟨ob, ys, hn, hq⟩, q1⟩
  · obtain ⟨h1, h2⟩ := tyV_is (T := "list") I1 r1 (.inl ⟨rfl, ys, hq⟩)
    refine ⟨"list", "list.index", PySem.F.plainAttrs_list, PySem.F.slot_list_index, PySem.F.type_list_index, h1, h2, ?_⟩
    have hA := ha.run cpos pins s1 σ H1 _ I1 q1
    rw [hs] at hA ⊢
    refine Calls.callWith_builtin (by show (false || (backTo cpos (starEach es X.env)).any (·.1)) = false; rw [hplain] <;> rfl) (Calls.evalArgs_plain ?_)
    exact L2.thn hA fun us s2 ⟨vs, H2, I2, r2, q2⟩ => mt_index pins s2 σ H2 (.ref p) vs v us Q I2 r1 r2 q2
  · cases r1
    obtain ⟨_, _, _, _, o', h1, h2, _⟩ := (show ObjOk X.prog X.w H1 s1.heap p (.frz ob (.tup ys)) from I1.hok p _ hq)
    have hob : s1.heap.get? p = some ob := by
      have := I1.hok p _ hq
      exact this.1
    refine ⟨"tuple", "tuple.index", PySem.F.plainAttrs_tuple, PySem.F.slot_tuple_index, PySem.F.type_tuple_index, ⟨o', h1, h2⟩, fun a e => by cases e; exact ⟨ob, hob, hn⟩, ?_⟩
    have hA := ha.run cpos pins s1 σ H1 _ I1 q1
    rw [hs] at hA ⊢
    refine Calls.callWith_builtin (by show (false || (backTo cpos (starEach es X.env)).any (·.1)) = false; rw [hplain] <;> rfl) (Calls.evalArgs_plain ?_)
    exact L2.thn hA fun us s2 ⟨vs, H2, I2, r2, q2⟩ => mt_idxT pins s2 σ H2 (.ref p) vs (.ref p) us Q I2 rfl r2 q2
def idxF (ds : List PyData) (d : PyData) : Option PyData := if flatD d = true ∧ ds.all flatD = true then (ds.findIdx? fun z => PyData.eqv z d).map fun j => .int (j : Nat) else none
def gIdx : PyData → PyData → Option PyData
  | .list ds, d => idxF ds d
  | .tuple ds, d => idxF ds d
  | _, _ => none
theorem idxF_some {ds : List PyData} {d x : PyData} (h : idxF ds d = some x) : flatD d = true ∧ ds.all flatD = true ∧ ∃ (j : Nat) (z : PyData), x = .int (j : Nat) ∧ ds[j]? = some z ∧ PyData.eqv z d = true ∧ ∀ (m : Nat) (z' : PyData), m < j → ds[m]? = some z' → PyData.eqv z' d = false := by
  unfold idxF at h
  obtain ⟨⟨c1, c2⟩, h⟩ := ite_get h
  refine ⟨c1, c2, ?_⟩
  cases hf : ds.findIdx? (fun z => PyData.eqv z d) with
  | none => rw [hf] at h; cases h
  | some j =>
    rw [hf] at h
    cases h
    obtain ⟨hl, h1, h2⟩ := List.findIdx?_eq_some_iff_getElem.mp hf
    refine ⟨j, ds[j], rfl, List.getElem?_eq_getElem hl, h1, fun m z' hm hz => ?_⟩
    obtain ⟨hml, ez⟩ := List.getElem?_eq_some_iff.mp hz
    have := h2 m hm
    rw [← ez]
    exact Bool.eq_false_iff.mpr (by simpa using this)
theorem ed_index (ho : ED K X M o to fo) (ha : ED K X M a ta fa)
    (hs1 : starEach [a] X.env = (false, eval a X.env) :: starEach [] X.env := by rfl)
    (hbase : attributeBase o "index" X.env (eval o X.env) = eval o X.env := by rfl)
    (hfew : ((backTo cpos (starEach [a] X.env)).all (fun x => !x.1) && (backToKw cpos (keywordEach [] X.env)).all (fun x => x.1.isSome)
      && decide ([a].length + ([] : List Keyword).length + (if ([] : List Keyword).isEmpty then 0 else 1) < 30)) = true := by rfl)
    (hline : (apos.endLine == cpos.line) = true := by rfl) (hplain : (backTo cpos (starEach [] X.env)).any (·.1) = false := by rfl) (hK : X.K = K := by rfl) :
    ED K X M (.Call (.Attribute o "index" apos) [a] [] cpos) (tIdx K to (tCons ta tNil)) (f2 gIdx fo fa) := by
  subst hK
  refine ⟨pe_idx ho.pe (pa_cons ha.pe pa_nil hs1) hbase hfew hline hs1 hplain, fun {Hs0 H0 Hs H σ ρ d Q} R hf q => ?_⟩
  obtain ⟨x, h1, hf⟩ := bind_some hf
  obtain ⟨y, h2, hf⟩ := bind_some hf
  refine ho.sm R h1 fun v Hs1 H1 g1 d1 => ?_
  cases d1 with
  | @lst p xs ds hp t =>
    obtain ⟨c1, c2, j, z, rfl, hj, hz, hm⟩ := idxF_some hf
    refine ⟨p, rfl, .inl ⟨⟨xs, sqL_of (g1.sub _ _ hp)⟩, ha.sm (R.grow g1) h2 fun u Hs2 H2 g2 d2 => ?_⟩⟩
    have t2 := t.mono g2.exs
    obtain ⟨zv, hzv, dz⟩ := t2.get hj
    refine ⟨p, xs, u, j, zv, rfl, rfl, sqL_of (g2.sub _ _ (g2.exs _ _ hp)), flat_dv d2 c1, flats_dv t2 c2, hzv, ?_, fun m z' hmj hz' => ?_, q _ Hs2 H2 (g1.trans g2) (.int _)⟩
    · rw [eqV_dv dz d2 (List.all_eq_true.mp c2 z (List.mem_of_getElem? hj)) c1]; exact hz
    · obtain ⟨dm, h3, h4⟩ := t2.getv hz'
      rw [eqV_dv h4 d2 (List.all_eq_true.mp c2 dm (List.mem_of_getElem? h3)) c1]
      exact hm m dm hmj h3
  | @tup p ob xs ds hn hp t =>
    obtain ⟨c1, c2, j, z, rfl, hj, hz, hm⟩ := idxF_some hf
    refine ⟨p, rfl, .inr ⟨⟨ob, xs, hn, g1.sub _ _ hp⟩, ha.sm (R.grow g1) h2 fun u Hs2 H2 g2 d2 => ?_⟩⟩
    have t2 := t.mono g2.exs
    obtain ⟨zv, hzv, dz⟩ := t2.get hj
    refine ⟨p, xs, u, j, zv, rfl, rfl, sqT_of (g2.sub _ _ (g2.exs _ _ hp)), flat_dv d2 c1, flats_dv t2 c2, hzv, ?_, fun m z' hmj hz' => ?_, q _ Hs2 H2 (g1.trans g2) (.int _)⟩
    · rw [eqV_dv dz d2 (List.all_eq_true.mp c2 z (List.mem_of_getElem? hj)) c1]; exact hz
    · obtain ⟨dm, h3, h4⟩ := t2.getv hz'
      rw [eqV_dv h4 d2 (List.all_eq_true.mp c2 dm (List.mem_of_getElem? h3)) c1]
      exact hm m dm hmj h3
  | _ => cases hf

/-! ### own lists: extend, an item of one, and the rest that only reads -/
@[simp] def gExt (i : Nat) (f : Rho → Option (List PyData)) : Gn := fun ρ => (lstAt i ρ).bind fun ds => (f ρ).bind fun es => if ds.length + es.length ≤ 1000000 then some (.nx (ρ.set i (some (.list (ds ++ es))))) else none
theorem sd_extend (i : Nat) {x : Str} {f : Rho → Option (List PyData)} (h : FD K X M e te f) (hN : X.N[i]? = some x := by rfl) (hv : Vis X.env.scope x := by first | exact Or.inl rfl | exact Or.inr (Or.inl rfl) | exact Or.inr (Or.inr rfl)) (hM : M.contains i = true := by rfl)
    (hbase : attributeBase (.Name x pos') "extend" X.env (eval (.Name x pos') X.env) = eval (.Name x pos') X.env := by rfl)
    (hfew : ((backTo pos (starEach [e] X.env)).all (fun x => !x.1) && (backToKw pos (keywordEach [] X.env)).all (fun x => x.1.isSome)
      && decide ([e].length + ([] : List Keyword).length + (if ([] : List Keyword).isEmpty then 0 else 1) < 30)) = true := by rfl)
    (hline : (apos.endLine == pos.line) = true := by rfl) (hst : starEach [e] X.env = (false, eval e X.env) :: starEach [] X.env := by rfl) {pos2 : Pos} (hs : swapsWith (.Call (.Attribute (.Name x pos') "extend" apos) [e] [] pos) none pos2.line X.env = pure false := by rfl) (hd : (x == ("__debug__" : Str)) = false := by decide) (hcd : (x == ("__classdict__" : Str)) = false := by decide) :
    SD K xc X M W (.Expr (.Call (.Attribute (.Name x pos') "extend" apos) [e] [] pos) pos2) (tDrop (tBM X.K "list" rExtend (tVar i) (tCons te tNil))) (gExt i f) :=
  ⟨ps_expr (pe_bm PySem.F.plainAttrs_list PySem.F.slot_list_extend PySem.F.type_list_extend mt_extend (pe_var hN hv hd hcd) (pa_cons h.pe pa_nil hst) hbase hfew hline hst rfl) hs, fun {Hs0 H0 Hs H σ ρ r D} R hf o => by
    obtain ⟨ds, h1, h2⟩ := bind_some hf
    obtain ⟨es, h3, h4⟩ := bind_some h2
    obtain ⟨hl, rfl⟩ := ite_some h4
    have hρ := lstAt_some h1
    obtain ⟨p, xs, e1, e2, e3, e4, e5⟩ := R.ownAt hρ hM
    refine ⟨.ref p, e1, .inl ⟨rfl, _, sqL_of e2⟩, h.sm R h3 fun q zs Hs1 H1 g1 hq hsq hH d1 => ?_⟩
    refine ⟨p, q, xs, zs, rfl, rfl, g1.ex _ _ e2, hH, szM (by rw [e5.length, d1.length]; exact hl), ?_⟩
    exact o Hs1 _ σ g1.exs ((R.grow g1).upd hM e1 ⟨_, hρ⟩ (g1.new p e3 (by rw [e2]; simp)) e4 ((e5.mono g1.exs).append d1))⟩
/-- an item of an own list -/
@[simp] def fOwnIx (i : Nat) (fb : Fn) : Fn := fun ρ => (lstAt i ρ).bind fun ds => (fb ρ).bind fun k => match k with
  | .int k => atI ds k
  | _ => none
@[simp] def gRets (g : Gn) : Gn := fun ρ => (g ρ).bind fun r => match r with
  | .ret d => some (.ret d)
  | _ => none
theorem ss_rets {rest : List Stmt} {t : TS} {g : Gn} (h : SS K xc X [] W rest t g) : SS K xc X M W rest t (gRets g) :=
  ⟨h.ps, fun {Hs0 H0 Hs H σ ρ r D} R hf o => by
    obtain ⟨r1, h1, h2⟩ := bind_some hf
    cases r1 with
    | ret d =>
      obtain rfl := Option.some.inj h2
      obtain ⟨Hp', e1, R1, _⟩ := R.thaw
      exact h.sm R1 h1 o
    | _ => cases h2⟩
end
end DL

namespace DL
open PySem PySem.Spec PyProof.Rows L2
variable [Tabl]
/-! ### the first place of a number -/
def ixI : List Int → Int → Nat
  | [], _ => 0
  | a :: l, x => if a = x then 0 else ixI l x + 1
theorem findIdx_ints (x : Int) : ∀ l : List Int, x ∈ l → (l.map PyData.int).findIdx? (fun z => PyData.eqv z (.int x)) = some (ixI l x)
  | [], h => by cases h
  | a :: l, h => by
    rw [List.map_cons, List.findIdx?_cons, emb_int a x]
    unfold ixI
    by_cases e : a = x
    · rw [if_pos e]; simp [e]
    · have h' : x ∈ l := by
        rcases List.mem_cons.mp h with z | z
        · exact absurd z.symm e
        · exact z
      rw [if_neg e, findIdx_ints x l h']
      simp [e]
theorem ixI_get {x : Int} : ∀ {l : List Int}, x ∈ l → l[ixI l x]? = some x
  | [], h => by cases h
  | a :: l, h => by
    unfold ixI
    by_cases e : a = x
    · rw [if_pos e]; simp [e]
    · have h' : x ∈ l := by
        rcases List.mem_cons.mp h with z | z
        · exact absurd z.symm e
        · exact z
      rw [if_neg e, List.getElem?_cons_succ]
      exact ixI_get h'
theorem ixI_lt {x : Int} {l : List Int} (h : x ∈ l) : ixI l x < l.length := (List.getElem?_eq_some_iff.mp (ixI_get h)).1
theorem ixI_getD {x : Int} {l : List Int} (h : x ∈ l) : l.getD (ixI l x) 0 = x := by
  rw [List.getD_eq_getElem?_getD, ixI_get h]
  rfl
theorem ixI_of {l : List Int} (h : l.Nodup) {i : Nat} (hi : i < l.length) : ixI l (l.getD i 0) = i :=
  getD_inj h (ixI_lt (getD_mem hi)) hi (ixI_getD (getD_mem hi))
theorem gIdx_list {l : List Int} {x : Int} (h : x ∈ l) : gIdx (.list (l.map .int)) (.int x) = some (.int (ixI l x)) := by
  show idxF _ _ = _
  unfold idxF
  rw [if_pos ⟨rfl, flat_ints l⟩, findIdx_ints x l h]
  rfl
theorem gIdx_tup {l : List Int} {x : Int} (h : x ∈ l) : gIdx (.tuple (l.map .int)) (.int x) = some (.int (ixI l x)) := by
  show idxF _ _ = _
  unfold idxF
  rw [if_pos ⟨rfl, flat_ints l⟩, findIdx_ints x l h]
  rfl
/-- the numbers below to that are met, in order -/
theorem met_sset {a : Mp} (h : Wf a) : ((List.range a.1.toNat).filter (fun (i : Nat) => decide ((i : Int) ∈ a.2))).map (fun (i : Nat) => (i : Int)) = sset a.2 := by
  refine rise_eq ?_ (sset_lt a.2) fun x => ?_
  · rw [List.pairwise_map]
    exact (List.pairwise_lt_range.filter _).imp fun h => by omega
  · rw [sset_mem, List.mem_map]
    constructor
    · rintro ⟨i, hi, rfl⟩
      exact of_decide_eq_true (List.mem_filter.mp hi).2
    · intro hx
      have := h.lt x hx
      have hr := h.rng
      refine ⟨x.toNat, List.mem_filter.mpr ⟨List.mem_range.mpr (by omega), ?_⟩, by omega⟩
      rw [decide_eq_true_eq, show ((x.toNat : Nat) : Int) = x by omega]
      exact hx
theorem sset_le_to {a : Mp} (h : Wf a) : ((sset a.2).length : Int) ≤ a.1 := by
  have hr := h.rng
  have := nodup_len (rise_nodup (sset_lt a.2)) (rise_nodup (idr_lt a.1.toNat)) fun x hx => mem_idr.mpr (by have := h.lt x (sset_mem.mp hx); omega)
  rw [idr_len] at this
  omega
end DL

namespace DL
open PySem PySem.Spec PyProof.Rows L2
variable [Tabl]
/-- a loop that goes on or returns -/
theorem forF_ix {tg : PyData → Rho → Option Rho} {b : Gn} (P : Nat → Rho → Prop) (R : PyData → Prop) : ∀ (ds : List PyData) (n : Nat) (ρ : Rho), (∀ i d, ds[i]? = some d → ∀ ρ, P (n + i) ρ → ∃ ρ1, tg d ρ = some ρ1 ∧ ((∃ ρ', b ρ1 = some (.nx ρ') ∧ P (n + i + 1) ρ') ∨ ∃ r, b ρ1 = some (.ret r) ∧ R r)) → P n ρ →
    (∃ ρ', forF tg b ds ρ = some (.nx ρ') ∧ P (n + ds.length) ρ') ∨ ∃ r, forF tg b ds ρ = some (.ret r) ∧ R r
  | [], n, ρ, _, h => .inl ⟨ρ, rfl, h⟩
  | d :: ds, n, ρ, h, hp => by
    obtain ⟨ρ1, h1, h2⟩ := h 0 d rfl ρ hp
    rcases h2 with ⟨ρ2, h2, h3⟩ | ⟨r, h2, h3⟩
    · have ih := forF_ix P R ds (n + 1) ρ2 (fun i d' hd ρ hp => by
        have := h (i + 1) d' hd ρ (by rw [show n + (i + 1) = n + 1 + i by omega]; exact hp)
        rwa [show n + (i + 1) = n + 1 + i by omega] at this) h3
      unfold forF
      rw [h1, Option.bind_some, h2, Option.bind_some]
      rw [show n + 1 + ds.length = n + (d :: ds).length by rw [List.length_cons]; omega] at ih
      exact ih
    · refine .inr ⟨r, ?_, h3⟩
      unfold forF
      rw [h1, Option.bind_some, h2]
      rfl
/-- .. over the ints of a row with their places -/
theorem for_en {fs : Fn} {j1 j2 : Nat} {b : Gn} {ρ : Rho} {r : List Int} {d : PyData} (P : Nat → Rho → Prop) (R : PyData → Prop) (h1 : fs ρ = some d) (hd : d = .tuple (r.map .int) ∨ d = .list (r.map .int))
    (h : ∀ i, i < r.length → ∀ ρ, P i ρ → (∃ ρ', b ((ρ.set j1 (some (.int i))).set j2 (some (.int (r.getD i 0)))) = some (.nx ρ') ∧ P (i + 1) ρ') ∨ ∃ x, b ((ρ.set j1 (some (.int i))).set j2 (some (.int (r.getD i 0)))) = some (.ret x) ∧ R x) (h0 : P 0 ρ) :
    (∃ ρ', gFor (iEn fs) (hSeq 2 (hCons (hName j1) (hCons (hName j2) hNil))) b ρ = some (.nx ρ') ∧ P r.length ρ') ∨ ∃ x, gFor (iEn fs) (hSeq 2 (hCons (hName j1) (hCons (hName j2) hNil))) b ρ = some (.ret x) ∧ R x := by
  have e : iEn fs ρ = some ((List.range r.length).map fun (i : Nat) => PyData.tuple [.int i, .int (r.getD i 0)]) := by
    unfold iEn
    rw [h1, Option.bind_some]
    rcases hd with rfl | rfl <;> simp only [enD_ints]
  have := forF_ix (tg := hSeq 2 (hCons (hName j1) (hCons (hName j2) hNil))) (b := b) P R ((List.range r.length).map fun (i : Nat) => PyData.tuple [.int i, .int (r.getD i 0)]) 0 ρ (fun i d hd ρ hp => by
    have hi : i < r.length := by
      have := (List.getElem?_eq_some_iff.mp hd).1
      rwa [List.length_map, List.length_range] at this
    rw [List.getElem?_map, List.getElem?_range hi] at hd
    cases hd
    rw [Nat.zero_add] at hp ⊢
    exact ⟨_, rfl, h i hi ρ hp⟩) h0
  rw [List.length_map, List.length_range, Nat.zero_add] at this
  unfold gFor
  rw [e, Option.bind_some]
  exact this
/-- .. over a range -/
theorem for_rg {h' : Rho → Option (List PyData)} {j : Nat} {b : Gn} {ρ : Rho} {lo : Int} {n : Nat} (P : Nat → Rho → Prop) (R : PyData → Prop) (h1 : h' ρ = some (rgD lo n))
    (h : ∀ i, i < n → ∀ ρ, P i ρ → (∃ ρ', b (ρ.set j (some (.int (lo + i)))) = some (.nx ρ') ∧ P (i + 1) ρ') ∨ ∃ x, b (ρ.set j (some (.int (lo + i)))) = some (.ret x) ∧ R x) (h0 : P 0 ρ) :
    (∃ ρ', gFor h' (hName j) b ρ = some (.nx ρ') ∧ P n ρ') ∨ ∃ x, gFor h' (hName j) b ρ = some (.ret x) ∧ R x := by
  have := forF_ix (tg := hName j) (b := b) P R (rgD lo n) 0 ρ (fun i d hd ρ hp => by
    have hi : i < n := by
      have := (List.getElem?_eq_some_iff.mp hd).1
      rwa [rgD_len] at this
    rw [rgD_get hi] at hd
    cases hd
    rw [Nat.zero_add] at hp ⊢
    exact ⟨_, rfl, h i hi ρ hp⟩) h0
  rw [rgD_len, Nat.zero_add] at this
  unfold gFor
  rw [h1, Option.bind_some]
  exact this
theorem shK_str {k : Nat} (hk : 1 ≤ k) {x : Str} (h : PyData.canLay0 (.str x) = true) : shK k (.str x) := ⟨h, by simp [PyData.depth] <;> omega⟩
theorem gEq_str (neg : Bool) {x y : Str} (hx : PyData.canLay0 (.str x) = true) (hy : PyData.canLay0 (.str y) = true) : gEq neg (.str x) (.str y) = some (.bool (xor neg (x == y))) := by
  unfold gEq
  rw [if_pos ⟨shaped_of (shK_str (k := 1) (by decide) hx), shaped_of (shK_str (k := 1) (by decide) hy)⟩]
  rfl
theorem ixN_of {n : Nat} {x : Int} (h : 0 ≤ x ∧ x < n) : ixN n x = some x.toNat := by
  unfold ixN
  rw [if_pos h.1, if_pos h.2]
theorem ix_row {m : Mp} {i : Nat} (h : i < m.2.length) : gIx (.tuple (m.2.map .int)) (.int i) = some (.int (m.2.getD i 0)) := by
  rw [gIx_tuple, atI_ints (by omega), show ((i : Int)).toNat = i by omega]
end DL

namespace DL
open PySem PySem.Spec PyProof.Rows L2
variable [Tabl]
section
variable {K : PySem.W.Frag} {X : Cx} {M : List Nat} {xc : Nat → Addr} {W : WX} {a b e o tg : Expr} {ta tb te to : TE} {fa fb f fo : Fn} {pos p p2 pos' apos cpos : Pos}
/-! ### x.bit_length() -/
@[simp] def gBits : PyData → Option PyData
  | .int i => some (.int (Builtin.Int.intBits i : Nat))
  | _ => none
theorem ed_bits (ho : ED K X M o to fo) (hbase : attributeBase o "bit_length" X.env (eval o X.env) = eval o X.env := by rfl) (hline : (apos.endLine == pos.line) = true := by rfl) : ED K X M (.Call (.Attribute o "bit_length" apos) [] [] pos) (tBits to) (f1 gBits fo) :=
  ⟨pe_bits ho.pe hbase hline, fun {Hs0 H0 Hs H σ ρ d Q} R hf q => by
    obtain ⟨x, h1, h2⟩ := bind_some hf
    refine ho.sm R h1 fun v Hs1 H1 g1 d1 => ?_
    cases d1 with
    | int i =>
      obtain rfl := Option.some.inj h2
      exact ⟨i, rfl, q _ Hs1 H1 g1 (.int _)⟩
    | _ => cases h2⟩
/-! ### for x in reversed(range(n)) -/
def rvD (n : Nat) : List PyData := (List.range n).map fun (i : Nat) => PyData.int ((n : Int) - 1 - i)
theorem rvD_len (n : Nat) : (rvD n).length = n := by unfold rvD; rw [List.length_map, List.length_range]
theorem rvD_get {n i : Nat} (h : i < n) : (rvD n)[i]? = some (.int ((n : Int) - 1 - i)) := by
  unfold rvD
  rw [List.getElem?_map, List.getElem?_range h]
  rfl
theorem yields_rv {Hs : Hp} {n : Nat} {lo : Int} (hlo : lo = (n : Int) - 1) : Yields K (Dd K) (Itc lo (-1) n) Hs (rvD n) where
  go := fun i H e hi => by rw [rvD_len] at hi; exact hi
  stop := fun i H e hi => by rw [rvD_len] at hi; exact hi
  yld := fun i H x H' Hs2 hi e1 e2 h => by
    obtain ⟨rfl, rfl⟩ := h
    rw [rvD_len] at hi
    refine ⟨Hs2, Grow.refl e2, _, rvD_get hi, ?_⟩
    rw [show lo + (i : Nat) * (-1) = (n : Int) - 1 - i by omega]
    exact .int _
@[simp] noncomputable def iRv (f : Fn) : Rho → Option (List PyData) := fun ρ => (f ρ).bind fun d => match d with
  | .int j => if B62 j then some (rvD j.toNat) else none
  | _ => none
theorem id_revR {pos2 : Pos} (ha : ED K X M a ta f) (hm : X.mg "range" = none) (hm2 : X.mg "reversed" = none) (hg : Gl X "range" := by rfl) (hg2 : Gl X "reversed" := by rfl) (na : starEach [a] X.env = (false, eval a X.env) :: starEach [] X.env := by rfl)
    (hs : starEach [.Call (.Name "range" p) [a] [] pos] X.env = (false, eval (.Call (.Name "range" p) [a] [] pos) X.env) :: starEach [] X.env := by rfl) :
    ID K X M (Dd K) tg (.Call (.Name "reversed" p2) [.Call (.Name "range" p) [a] [] pos] [] pos2) (iRevR (tRg1 ta)) (iRv f) :=
  ⟨pi_revR hg2 hm2 (prg_1 hg hm ha.pe na) hs, fun {Hs0 H0 Hs H σ ρ ds R} r hf q => by
    obtain ⟨d, h1, h2⟩ := bind_some hf
    refine ha.sm r h1 fun v Hs1 H1 g1 d1 => ?_
    cases d1 with
    | int j =>
      obtain ⟨hb, rfl⟩ := ite_some h2
      refine ⟨j, rfl, by decide, by decide, hb.1, hb.2, q _ Hs1 H1 g1 ?_⟩
      rw [show (j - 0).toNat = j.toNat by omega]
      exact yields_rv (by omega)
    | _ => cases h2⟩
/-! ### x, y = a, b -/
@[simp] def gPar (i j : Nat) (fa fb : Fn) : Gn := fun ρ => (fa ρ).bind fun d => (fb ρ).bind fun d' => some (.nx ((ρ.set i (some d)).set j (some d')))
theorem sd_par (i j : Nat) {x y : Str} {px py pt pt2 : Pos} {kt k2 : Nat} (hN : X.N.Nodup) (ha : ED K X M a ta fa) (hb : ED K X M b tb fb)
    (hi : X.N[i]? = some x := by rfl) (hj : X.N[j]? = some y := by rfl) (hij : i ≠ j := by decide) (hMi : M.contains i = false := by rfl) (hMj : M.contains j = false := by rfl)
    (hx : X.env.scope.names.lookup x = some .local := by rfl) (hy : X.env.scope.names.lookup y = some .local := by rfl) (hc : X.calm = true := by rfl)
    (hw : swappedStores [.Tuple [.Name x px, .Name y py] kt pt] (.Tuple [a, b] k2 pt2) X.env = pure (some [x, y]) := by rfl)
    (hs : swapsWithSole [.Tuple [.Name x px, .Name y py] kt pt] (.Tuple [a, b] k2 pt2) pos.line X.env = pure false := by rfl)
    (n1 : starEach [a, b] X.env = (false, eval a X.env) :: starEach [b] X.env := by rfl) (n2 : starEach [b] X.env = (false, eval b X.env) :: starEach [] X.env := by rfl) :
    SD K xc X M W (.Assign [.Tuple [.Name x px, .Name y py] kt pt] (.Tuple [a, b] k2 pt2) pos) (tPar i j (tCons ta (tCons tb tNil))) (gPar i j fa fb) :=
  ⟨ps_par hc hN hi hj hij hx hy (pa_cons ha.pe (pa_cons hb.pe pa_nil n2) n1) hw hs, fun {Hs0 H0 Hs H σ ρ r D} R hf o => by
    obtain ⟨d, h1, hf⟩ := bind_some hf
    obtain ⟨d', h2, hf⟩ := bind_some hf
    obtain rfl := Option.some.inj hf
    refine ha.sm R h1 fun v Hs1 H1 g1 d1 => ?_
    refine hb.sm (R.grow g1) h2 fun u Hs2 H2 g2 d2 => ?_
    exact ⟨v, u, rfl, o Hs2 H2 _ (g1.exs.trans g2.exs) ((((R.grow g1).grow g2).set hMi (d1.mono g2.exs)).set hMj d2)⟩⟩
/-! ### an item of an own list -/
theorem ed_ownIx (i : Nat) {x : Str} (hb : ED K X M b tb fb) (hN : X.N[i]? = some x := by rfl) (hv : Vis X.env.scope x := by first | exact Or.inl rfl | exact Or.inr (Or.inl rfl) | exact Or.inr (Or.inr rfl)) (hM : M.contains i = true := by rfl)
    (hd : (x == ("__debug__" : Str)) = false := by decide) (hcd : (x == ("__classdict__" : Str)) = false := by decide) (hs : PlainIx b := by exact fun _ _ => rfl) (hK : X.K = K := by rfl) :
    ED K X M (.Subscript (.Name x pos') b pos) (tOp (rIx K) (tVar i) tb) (fOwnIx i fb) := by
  subst hK
  refine ⟨pe_ix ix_seq (pe_var hN hv hd hcd) hb.pe hs, fun {Hs0 H0 Hs H σ ρ d Q} R hf q => ?_⟩
  obtain ⟨ds, h1, hf⟩ := bind_some hf
  obtain ⟨k, h2, hf⟩ := bind_some hf
  have hρ := lstAt_some h1
  obtain ⟨p0, xs, e1, e2, e3, e4, e5⟩ := R.ownAt hρ hM
  refine ⟨.ref p0, e1, hb.sm R h2 fun u Hs1 H1 g1 d1 => ?_⟩
  cases d1 with
  | int j =>
    obtain ⟨v, h3, h4⟩ := (e5.mono g1.exs).at hf
    exact .inl ⟨p0, xs, j, v, rfl, rfl, sqL_of (g1.ex _ _ e2), h3, q v Hs1 H1 g1 h4⟩
  | _ => cases hf
/-! ### a plain thing, read off with the own lists held still -/
@[simp] def fFlat (f : Fn) : Fn := fun ρ => (f ρ).bind fun d => if flatD d = true then some d else none
theorem dd_flat {Hs Hs' : Hp} {v : V} {d : PyData} (h : Dd K Hs v d) (hf : flatD d = true) : Dd K Hs' v d := by
  cases h <;> first | exact absurd hf Bool.false_ne_true | constructor
theorem ed_flat (h : ED K X [] e te f) : ED K X M e te (fFlat f) :=
  ⟨h.pe, fun {Hs0 H0 Hs H σ ρ d Q} R hf q => by
    obtain ⟨d', h1, h2⟩ := bind_some hf
    obtain ⟨hfl, rfl⟩ := ite_some h2
    obtain ⟨Hp', e1, _, R1⟩ := R.thaw
    exact h.sm R1 h1 fun v Hs1 H1 g1 d1 => q v Hs H1 (Grow.under e1 g1) (dd_flat d1 hfl)⟩
theorem dds_flat {Hs Hs' : Hp} : ∀ {vs : List V} {ds : List PyData}, DdAll K Hs vs ds → ds.all flatD = true → DdAll K Hs' vs ds
  | _, _, .nil, _ => .nil
  | _, _, .cons a r, f => by
    rw [List.all_cons, Bool.and_eq_true] at f
    exact .cons (dd_flat a f.1) (dds_flat r f.2)
@[simp] def lFlat (f : Rho → Option (List PyData)) : Rho → Option (List PyData) := fun ρ => (f ρ).bind fun ds => if ds.all flatD = true then some ds else none
theorem fd_flat {f : Rho → Option (List PyData)} (h : FD K X [] e te f) : FD K X M e te (lFlat f) :=
  ⟨h.pe, fun {Hs0 H0 Hs H σ ρ d Q} R hf q => by
    obtain ⟨d', h1, h2⟩ := bind_some hf
    obtain ⟨hfl, rfl⟩ := ite_some h2
    obtain ⟨Hp', e1, _, R1⟩ := R.thaw
    exact h.sm R1 h1 fun p0 xs Hs1 H1 g1 hp hsp hH d1 => q p0 xs Hs H1 (Grow.under e1 g1) hp (R.sub.free hp) hH (dds_flat d1 hfl)⟩
/-! ### x = y, y an own list that is not used after -/
@[simp] def gGive (j i : Nat) : Gn := fun ρ => (lstAt i ρ).bind fun ds => some (.nx ((ρ.set j (some (.list ds))).set i none))
/-! ### x = y.pop() -/
@[simp] def gPop (j i : Nat) : Gn := fun ρ => (lstAt i ρ).bind fun ds => (ds[ds.length - 1]?).bind fun d => some (.nx ((ρ.set i (some (.list ds.dropLast))).set j (some d)))
end
end DL

namespace DL
open PySem PySem.Spec PyProof.Rows L2
variable [Tabl]
/-! ### set(a list of ints), with its table in view -/
abbrev setOb (w : World) : Obj := { cls := .type "set", dict := none, data := .set #[] 0 (.fresh 0 0 (!w.params.followText "set-order")) }
theorem call_setL {P : Program} {w : World} {A : Around} {E : Value → Shared → Prop} {s : Shared} {q : Addr} {vs : Array Value} (ns : List Int) {Q : Value → Shared → Prop} (calm : A.handled = none) (isL : s.heap.IsList q vs) (hin : IntsAre vs.toList ns) (few : ns.length + 1 < scanBound)
    (done : ∀ (hp : Heap) (t n : Nat), SetR w hp s.heap.objs.size (fun j => decide (j ∈ ns)) n → n ≤ ns.length → (∀ b u, s.heap.get? b = some u → hp.get? b = some u) → Q (.ref s.heap.objs.size) { s with heap := hp, toks := t }) :
    wpAny (model P w) A (call (.type "set") [.ref q]) Q E s := by
  have nv : vs.size = ns.length := by
    have z := IntsAre.length hin
    rwa [Array.length_toList] at z
  obtain ⟨_, _, mro⟩ := F.called_set.mro
  have mk := F.called_set.made
  have sb := F.called_set.sub
  have nt := F.called_set.notType
  have cc := F.called_set.canCreate
  have tc := F.typeCall_set_1 (.ref q)
  refine wpAny_call (codeAny_of_tree ?_)
  show wpAny _ _ (callAny (.type "set") _) _ _ _
  refine wpAny_pure ⟨Code.quiet_builtin _ (by decide +kernel), codeAny_builtin F.entry_type_call ?_⟩
  rw [Around.under_plain (weight_type_call_type "set" [.ref q] []) rfl]
  repeat (any_goals (first | assumption | wp_step))
  refine codeAny_mono (code_set_led1 (.ref q) (E := E) (Q₁ := fun v s1 => v = .ref s.heap.objs.size ∧ s1 = { s with heap := s.heap.push (setOb w) }) ⟨rfl, rfl⟩) fun r s1 hr => ?_
  cases r with
  | error e => exact hr
  | ok fl =>
    cases fl with
    | ret v =>
      obtain ⟨rfl, rfl⟩ := hr
      have at0 : (s.heap.push (setOb w)).get? s.heap.objs.size = some (setOb w) := Heap.get?_push_size _ rfl
      have ty0 : Shared.TypeIs { s with heap := s.heap.push (setOb w) } (.ref s.heap.objs.size) "set" := ⟨_, at0, rfl⟩
      have lk := F.called_set.init.lookup
      have bd := F.called_set.init.bind (.ref s.heap.objs.size)
      repeat (any_goals (first | assumption | wp_step))
      refine codeAny_mono (codeAny_call_builtin (R := wants (fun r s2 => r = .none ∧ ∃ hp t n, s2 = { s with heap := hp, toks := t } ∧ SetR w hp s.heap.objs.size (fun j => decide (j ∈ ns)) n ∧ n ≤ ns.length ∧ (∀ b u, s.heap.get? b = some u → hp.get? b = some u)) E)
        F.called_set.init.plain F.entry_set_init (check_set_init_1 ty0 ?_)) fun r2 s2 hr2 => ?_
      · obtain ⟨⟨oc, od, odt, osl⟩, ho, e1, n0, e2⟩ := isL
        simp only at e1 e2
        subst e1 e2
        have ho1 : (s.heap.push (setOb w)).get? q = some { cls := .type "list", dict := od, data := .seq vs n0, slots := osl } := Heap.get?_push_of_some _ ho
        have ls := F.sub_list_set
        have lf := F.sub_list_frozenset
        have nd : (Value.type "list" == Value.type "dict") = false := by decide
        have isL1 : (s.heap.push (setOb w)).IsList q vs := ⟨_, ho1, rfl, n0, rfl⟩
        unfold Builtin.«set.__init__» noKeywords Builtin.Frozenset.updateFrom
        generalize gi : pyIter = it
        wp_walk
        subst gi
        refine wpAny_pyIter_list isL1 (wpAny_bind (wpAny_runValue ?_))
        have ql : q < s.heap.objs.size := Heap.lt_size ho
        have zz : (s.heap.push (setOb w)).objs.size = s.heap.objs.size + 1 := Heap.size_push ..
        have q1 : q ≠ (s.heap.push (setOb w)).objs.size := by rw [zz]; exact Nat.ne_of_lt (Nat.lt_succ_of_lt ql)
        have calm3 : A.in1.in1.in1.handled = none := by simp [calm]
        have out : s.heap.objs.size ∉ [(s.heap.push (setOb w)).objs.size, q] := by
          rw [zz]
          intro hm
          rcases List.mem_cons.mp hm with z | z
          · exact Nat.ne_of_lt (Nat.lt_succ_self _) z
          · exact Nat.ne_of_gt ql (List.mem_singleton.mp z)
        have val : ∀ (i : Nat) (v : Value), vs[i]? = some v → ∃ k t, ns[i]? = some k ∧ v = .int k t := fun i v hv => by
          have il : i < ns.length := by rw [← nv]; exact (Array.getElem?_eq_some_iff.mp hv).1
          obtain ⟨t, e⟩ := IntsAre.int_at hin i v (by rw [Array.getElem?_toList]; exact hv)
          exact ⟨ns[i], t, List.getElem?_eq_getElem il, by rw [e, List.getD_eq_getElem?_getD, List.getElem?_eq_getElem il] <;> rfl⟩
        refine set_update_ints ((Walks.list calm3 _ q q1 vs).toS) s.heap.objs.size out ns nv few val (vs.size - 0) 0 _ (by omega) (Nat.zero_le _) ⟨⟨_, Heap.get?_push_size _ rfl, rfl, rfl⟩, isL1.push _⟩ ?start ?fin
        case start =>
          exact ⟨0, Nat.le_refl 0, setR_new_at (Heap.get?_push_of_some _ at0)⟩
        case fin =>
          intro s' n mv hn hS
          obtain ⟨hp, g, d, t, os⟩ := s'
          have eg : g = s.gens := mv.gens
          have ed : d = s.drawn := mv.drawn
          have eo : os = s.os := mv.os
          subst eg ed eo
          show wpAny _ _ _ _ _ _
          refine wpAny_pure ?_
          show wpAny _ _ (ret Value.none) _ _ _
          rw [nv] at hn
          refine wpAny_pure ⟨rfl, hp, t, n, rfl, hS, hn, fun b u e => ?_⟩
          have bl := Heap.lt_size e
          refine mv.heap b u (fun hm => ?_) (Heap.get?_push_of_some _ (Heap.get?_push_of_some _ e))
          rcases List.mem_cons.mp hm with z | z
          · exact Nat.ne_of_lt bl z
          · have z := List.mem_singleton.mp z
            rw [zz] at z
            exact Nat.ne_of_lt (Nat.lt_succ_of_lt bl) z
      · cases r2 with
        | error e => exact hr2
        | ok fl2 =>
          cases fl2 with
          | ret r =>
            obtain ⟨rfl, hp, t, n, rfl, hS, hn, hk⟩ := hr2
            repeat (any_goals (first | assumption | wp_step))
            exact done _ _ _ hS hn hk
          | _ => exact hr2.elim
    | _ => exact hr.elim
section
variable {K : PySem.W.Frag} {X : Cx} {M : List Nat} {a : Expr} {ta : TE} {f : Fn} {pos p p2 q : Pos}
/-- set(a list or a tuple of ints) -/
def rSetA (K : PySem.W.Frag) (w : World) : List V → Hp → VK → Prop := fun xs H Q => ∃ (p : Addr) (ns : List Int), xs = [.ref p] ∧ (SqL K H p (ns.map V.int) ∨ SqT K H p (ns.map V.int)) ∧ ns.length ≤ 1000 ∧ ∀ a, H a = none → Q (.ref a) (upd H a (SetO w a (fun j => decide (j ∈ ns)) (sset ns).length))
theorem cr_setA (hc : X.calm = true) : CallR X (.type "set") (rSetA X.K X.w) := by
  intro pins s σ H xs us Q I r h
  obtain ⟨p0, ns, rfl, hq, hl, q⟩ := h
  rcases hq with hq | hq
  · obtain ⟨u, rfl, rx⟩ := vals1 r
    cases rx
    obtain ⟨its, rv, pt, hz⟩ := I.list hq
    have hi : IntsAre its.toArray.toList ns := ints_of_vals rv
    refine call_setL ns (I.ok.hd hc) pt.isList hi (by unfold scanBound; omega) fun h' tk c R1 hcn k => ?_
    have en : c = (sset ns).length := by
      obtain ⟨o, es, ep, t, ho, hex, hdt, g, nd, hm2, hb, hf, hn, hr, hl2⟩ := id R1
      have := sset_len (ns := ns) nd fun x => by rw [← hm2 x, decide_eq_true_eq]
      rw [List.length_map, Array.length_toList] at this
      exact hn.symm.trans this
    subst en
    exact ⟨.ref _, upd H s.heap.objs.size (SetO X.w s.heap.objs.size _ _), I.laid (t' := tk) k (Nat.le_refl _) (setO_new R1), rfl, q _ (I.hok.fresh (Nat.le_refl _))⟩
  · exact cr_setI hc pins s σ H _ us Q I r ⟨p0, ns, rfl, hq, hl, q⟩
def gSortSetA : PyData → Option (List PyData)
  | .tuple ds => (intsD ds).bind fun ns => if ns.length < 64 then some ((sset ns).map .int) else none
  | .list ds => (intsD ds).bind fun ns => if ns.length < 64 then some ((sset ns).map .int) else none
  | _ => none
theorem fd_sortSetA (ha : ED K X M a ta f) (hm : X.mg "sorted" = none) (hm2 : X.mg "set" = none) (hg : Gl X "sorted" := by rfl) (hg2 : Gl X "set" := by rfl) (hc : X.calm = true := by rfl) (hK : X.K = K := by rfl)
    (na : starEach [a] X.env = (false, eval a X.env) :: starEach [] X.env := by rfl) (nb : starEach [.Call (.Name "set" p2) [a] [] q] X.env = (false, eval (.Call (.Name "set" p2) [a] [] q) X.env) :: starEach [] X.env := by rfl)
    (pa : (backTo q (starEach [] X.env)).any (·.1) = false := by rfl) (pb : (backTo pos (starEach [] X.env)).any (·.1) = false := by rfl) :
    FD K X M (.Call (.Name "sorted" p) [.Call (.Name "set" p2) [a] [] q] [] pos) (tCB (rSortedSet X.w) (tCons (tCB (rSetA K X.w) (tCons ta tNil)) tNil)) (fun ρ => (f ρ).bind gSortSetA) := by
  subst hK
  refine ⟨pe_callB (cr_sortedSet hc) hg hm boot_sorted (pa_cons (pe_callTy (cr_setA hc) hg2 hm2 boot_set (pa_cons ha.pe pa_nil na) (by decide) (by decide) na pa) pa_nil nb) (by decide) (by decide) nb pb, fun {Hs0 H0 Hs H σ ρ d Q} R hf qq => ?_⟩
  obtain ⟨dx, h1, h2⟩ := bind_some hf
  refine ha.sm R h1 fun v Hs1 H1 g1 d1 => ?_
  have key : ∀ {l : Addr} {ns : List Int}, (SqL X.K H1 l (ns.map V.int) ∨ SqT X.K H1 l (ns.map V.int)) → ns.length < 64 → (sset ns).map PyData.int = d → rSetA X.K X.w [.ref l] H1 fun v2 H2 => rSortedSet X.w [v2] H2 Q := fun {l ns} hq hl hd => by
    subst hd
    have hle := sset_le ns
    refine ⟨l, ns, rfl, hq, by omega, fun p0 hp0 => ⟨p0, _, _, rfl, upd_same, by omega, fun ns' p1 hs hmm hlen hp1 => ?_⟩⟩
    have e : ns' = sset ns := rise_eq hs (sset_lt ns) fun x => by rw [hmm, decide_eq_true_eq, sset_mem]
    subst e
    have g2 : Grow Hs1 H1 Hs1 (upd H1 p0 (SetO X.w p0 (fun j => decide (j ∈ ns)) (sset ns).length)) := Grow.alloc0 g1.sub hp0
    have g3 := Grow.alloc0 (o := .lst ((sset ns).map V.int)) g2.sub hp1
    have g := (g1.trans g2).trans g3
    exact qq p1 _ Hs1 _ g (g1.ex.free (g2.ex.free hp1)) (g2.sub.free hp1) upd_same (DdAll.ints _)
  cases d1 with
  | @tup l ob xs ds hn hp t =>
    obtain ⟨ns, h3, h4⟩ := bind_some h2
    obtain ⟨hl, hd⟩ := ite_some h4
    have e := ints_dv t h3
    subst e
    exact key (.inr (sqT_of (g1.sub _ _ hp))) hl hd
  | @lst l xs ds hp t =>
    obtain ⟨ns, h3, h4⟩ := bind_some h2
    obtain ⟨hl, hd⟩ := ite_some h4
    have e := ints_dv t h3
    subst e
    exact key (.inl (sqL_of (g1.sub _ _ hp))) hl hd
  | _ => cases h2
end
end DL

namespace DL
open PySem PySem.Spec PyProof.Rows L2
variable [Tabl]
section
variable {K : PySem.W.Frag} {X : Cx} {M : List Nat} {xc : Nat → Addr} {W : WX} {a b e o tg : Expr} {ta tb te to : TE} {fa fb f fo : Fn} {pos p p2 pos' apos cpos : Pos}
/-! ### x = y, y an own list that is let go -/
theorem giveSR {Hs0 H0 Hs H : Hp} {σ : L2.St} {ρ : Rho} {i j : Nat} {ds : List PyData} (r : SR K M Hs0 H0 Hs H σ ρ) (hMi : M.contains i = true) (hMj : M.contains j = false) (hρ : ρ[i]? = some (some (.list ds))) :
    ∃ p Hs', σ[i]? = some (some (.ref p)) ∧ Same Hs Hs' ∧ SR K M Hs0 H0 Hs' H (σ.set j (some (.ref p))) ((ρ.set j (some (.list ds))).set i none) := by
  obtain ⟨p, xs, e1, e2, e3, e4, e5⟩ := r.ownAt hρ hMi
  have sHs : Same Hs (L2.upd Hs p (.lst xs)) := same_new e3
  have hij : i ≠ j := fun z => by rw [z, hMj] at hMi; cases hMi
  have hj : ∀ {k : Nat} {d : PyData}, ((ρ.set j (some (.list ds))).set i none)[k]? = some (some d) → i ≠ k ∧ (if j = k then d = .list ds ∧ k < ρ.length else ρ[k]? = some (some d)) := fun {k d} h => by
    have hik : i ≠ k := fun z => by
      subst z
      have hl := (List.getElem?_eq_some_iff.mp h).1
      rw [List.length_set] at hl
      rw [List.getElem?_set_self hl] at h
      cases h
    rw [List.getElem?_set_ne hik] at h
    refine ⟨hik, ?_⟩
    by_cases hjk : j = k
    · subst hjk
      have hl := (List.getElem?_eq_some_iff.mp h).1
      rw [List.length_set] at hl
      rw [List.getElem?_set_self hl] at h
      rw [if_pos rfl]
      cases h
      exact ⟨rfl, hl⟩
    · rw [if_neg hjk]
      rwa [List.getElem?_set_ne hjk] at h
  refine ⟨p, L2.upd Hs p (.lst xs), e1, sHs, ⟨⟨r.g.ex, r.g.exs.trans sHs, fun c o z => ?_, fun c z n => ?_⟩, by rw [List.length_set, List.length_set, List.length_set]; exact r.len, fun k d h m => ?_, fun k d h m => ?_, fun k l dk dl q h1 h2 m1 m2 h3 h4 => ?_, r.tb0⟩⟩
  · by_cases hc : c = p
    · subst hc; rw [upd_same] at z; rw [e2]; exact z
    · rw [upd_ne hc] at z; exact r.sub c o z
  · have hc : c ≠ p := fun y => n (by rw [y]; exact e4)
    rw [upd_ne hc]
    exact r.g.new c z n
  · obtain ⟨hik, h⟩ := hj h
    by_cases hjk : j = k
    · subst hjk
      rw [if_pos rfl] at h
      obtain ⟨rfl, hl⟩ := h
      exact ⟨.ref p, List.getElem?_set_self (by rw [r.len]; exact hl), .lst upd_same (e5.mono sHs)⟩
    · rw [if_neg hjk] at h
      obtain ⟨v, h1, h2⟩ := r.frz k d h m
      exact ⟨v, by rw [List.getElem?_set_ne hjk]; exact h1, h2.mono sHs⟩
  · obtain ⟨hik, h⟩ := hj h
    have hjk : j ≠ k := fun z => by rw [z, m] at hMj; cases hMj
    rw [if_neg hjk] at h
    obtain ⟨q, ys, es, h1, h2, h3, h4, h5, h6⟩ := r.own k d h m
    have hqp : q ≠ p := fun z => hik (r.sep i k _ _ p hρ h hMi m e1 (by rw [← z]; exact h2))
    exact ⟨q, ys, es, h1, by rw [List.getElem?_set_ne hjk]; exact h2, h3, by rw [upd_ne hqp]; exact h4, h5, h6.mono sHs⟩
  · obtain ⟨_, h1⟩ := hj h1
    obtain ⟨_, h2⟩ := hj h2
    have hjk : j ≠ k := fun z => by rw [z, m1] at hMj; cases hMj
    have hjl : j ≠ l := fun z => by rw [z, m2] at hMj; cases hMj
    rw [if_neg hjk] at h1
    rw [if_neg hjl] at h2
    rw [List.getElem?_set_ne hjk] at h3
    rw [List.getElem?_set_ne hjl] at h4
    exact r.sep k l dk dl q h1 h2 m1 m2 h3 h4
theorem sd_give (j i : Nat) {x y : Str} (hN : X.N.Nodup) (hi : X.N[i]? = some y := by rfl) (hj : X.N[j]? = some x := by rfl) (hv : Vis X.env.scope y := by first | exact Or.inl rfl | exact Or.inr (Or.inl rfl) | exact Or.inr (Or.inr rfl)) (hx : Loc X.env.scope x := by first | exact Or.inl rfl | exact Or.inr rfl)
    (hMi : M.contains i = true := by rfl) (hMj : M.contains j = false := by rfl) (hd : (y == ("__debug__" : Str)) = false := by decide) (hcd : (y == ("__classdict__" : Str)) = false := by decide)
    (hs : swapsWith (.Name y p) (some (.Name x pos')) pos.line X.env = pure false := by rfl) (hf : X.fn x = true ∨ X.env.scope.names.lookup x = some .local := by first | exact .inl rfl | exact .inr rfl) :
    SD K xc X M W (.Assign [.Name x pos'] (.Name y p) pos) (tAsg (tVar i) (gName j)) (gGive j i) :=
  ⟨ps_set hN hj hx (pe_var hi hv hd hcd) hs hf, fun {Hs0 H0 Hs H σ ρ r D} R hf o => by
    obtain ⟨ds, h1, h2⟩ := bind_some hf
    obtain rfl := Option.some.inj h2
    obtain ⟨q, Hs', e1, e2, R'⟩ := giveSR R hMi hMj (lstAt_some h1)
    exact ⟨.ref q, e1, o Hs' H _ e2 R'⟩⟩
/-! ### a new list from two -/
@[simp] def lCat (fa fb : Fn) : Rho → Option (List PyData) := fun ρ => (fa ρ).bind fun x => (fb ρ).bind fun y => match x, y with
  | .list xs, .list ys => if xs.length + ys.length ≤ 1000000 then some (xs ++ ys) else none
  | _, _ => none
theorem fd_cat (ha : ED K X M a ta fa) (hb : ED K X M b tb fb) : FD K X M (.BinOp a .Add b pos) (tOp rCat ta tb) (lCat fa fb) :=
  ⟨pe_op op_cat ha.pe hb.pe, fun {Hs0 H0 Hs H σ ρ d Q} R hf q => by
    obtain ⟨x, h1, hf⟩ := bind_some hf
    obtain ⟨y, h2, hf⟩ := bind_some hf
    refine ha.sm R h1 fun v Hs1 H1 g1 d1 => ?_
    refine hb.sm (R.grow g1) h2 fun u Hs2 H2 g2 d2 => ?_
    cases d1 with
    | @lst p1 xs ds hp t =>
      cases d2 with
      | @lst p2 ys es hp2 t2 =>
        obtain ⟨hl, rfl⟩ := ite_some hf
        have t1 := t.mono g2.exs
        refine ⟨p1, p2, xs, ys, rfl, rfl, g2.sub _ _ (g2.exs _ _ hp), g2.sub _ _ hp2, szM (by rw [t1.length, t2.length]; exact hl), fun p0 hp0 => ?_⟩
        have g3 : Grow Hs2 H2 Hs2 (L2.upd H2 p0 (.lst (xs ++ ys))) := Grow.alloc0 g2.sub hp0
        exact q p0 _ Hs2 _ ((g1.trans g2).trans g3) (g1.ex.free (g2.ex.free hp0)) (g2.sub.free hp0) upd_same (t1.append t2)
      | _ => cases hf
    | _ => cases hf⟩
/-! ### x = y.pop() -/
theorem DdAll.init {Hs : Hp} : ∀ {vs : List V} {ds : List PyData}, DdAll K Hs vs ds → DdAll K Hs vs.dropLast ds.dropLast
  | _, _, .nil => .nil
  | _, _, .cons a .nil => .nil
  | _, _, .cons a (.cons b r) => .cons a (DdAll.init (.cons b r))
theorem sd_popS (j i : Nat) {x y : Str} (hN : X.N.Nodup) (hi : X.N[i]? = some y := by rfl) (hj : X.N[j]? = some x := by rfl) (hv : Vis X.env.scope y := by first | exact Or.inl rfl | exact Or.inr (Or.inl rfl) | exact Or.inr (Or.inr rfl)) (hx : Loc X.env.scope x := by first | exact Or.inl rfl | exact Or.inr rfl)
    (hMi : M.contains i = true := by rfl) (hMj : M.contains j = false := by rfl) (hd : (y == ("__debug__" : Str)) = false := by decide) (hcd : (y == ("__classdict__" : Str)) = false := by decide)
    (hbase : attributeBase (.Name y p) "pop" X.env (eval (.Name y p) X.env) = eval (.Name y p) X.env := by rfl) (hline : (apos.endLine == cpos.line) = true := by rfl)
    (hs : swapsWith (.Call (.Attribute (.Name y p) "pop" apos) [] [] cpos) (some (.Name x pos')) pos.line X.env = pure false := by rfl) (hf : X.fn x = true ∨ X.env.scope.names.lookup x = some .local := by first | exact .inl rfl | exact .inr rfl) :
    SD K xc X M W (.Assign [.Name x pos'] (.Call (.Attribute (.Name y p) "pop" apos) [] [] cpos) pos) (tAsg (tBM0 X.K "list" rPop (tVar i)) (gName j)) (gPop j i) :=
  ⟨ps_set hN hj hx (pe_bm0 PySem.F.plainAttrs_list PySem.F.slot_list_pop PySem.F.type_list_pop mt_pop (pe_var hi hv hd hcd) hbase hline) hs hf, fun {Hs0 H0 Hs H σ ρ r D} R hf o => by
    obtain ⟨ds, h1, h2⟩ := bind_some hf
    obtain ⟨d, h3, h4⟩ := bind_some h2
    obtain rfl := Option.some.inj h4
    have hρ := lstAt_some h1
    obtain ⟨q, xs, e1, e2, e3, e4, e5⟩ := R.ownAt hρ hMi
    obtain ⟨v, h5, h6⟩ := e5.get h3
    rw [← e5.length] at h5
    refine ⟨.ref q, e1, .inl ⟨rfl, _, sqL_of e2⟩, q, xs, v, rfl, rfl, e2, h5, ?_⟩
    have R' := R.upd hMi e1 ⟨_, hρ⟩ e3 e4 e5.init
    exact o Hs _ _ (Same.refl _) (R'.set hMj h6)⟩
/-! ### s.index(x), s a list of any data -/
def idxD (ds : List PyData) (d : PyData) : Option PyData := if SeqAt.shaped (.list ds) = true ∧ SeqAt.shaped d = true then (ds.findIdx? fun z => PyData.eqv z d).map fun j => .int (j : Nat) else none
def gIdxD : PyData → PyData → Option PyData
  | .list ds, d => idxD ds d
  | _, _ => none
theorem idxD_some {ds : List PyData} {d x : PyData} (h : idxD ds d = some x) : SeqAt.shaped (.list ds) = true ∧ SeqAt.shaped d = true ∧ ∃ (j : Nat) (z : PyData), x = .int (j : Nat) ∧ ds[j]? = some z ∧ PyData.eqv z d = true ∧ ∀ (m : Nat) (z' : PyData), m < j → ds[m]? = some z' → PyData.eqv z' d = false := by
  unfold idxD at h
  obtain ⟨⟨c1, c2⟩, h⟩ := ite_get h
  refine ⟨c1, c2, ?_⟩
  cases hf : ds.findIdx? (fun z => PyData.eqv z d) with
  | none => rw [hf] at h; cases h
  | some j =>
    rw [hf] at h
    cases h
    obtain ⟨hl, h1, h2⟩ := List.findIdx?_eq_some_iff_getElem.mp hf
    refine ⟨j, ds[j], rfl, List.getElem?_eq_getElem hl, h1, fun m z' hm hz => ?_⟩
    obtain ⟨hml, ez⟩ := List.getElem?_eq_some_iff.mp hz
    have := h2 m hm
    rw [← ez]
    exact Bool.eq_false_iff.mpr (by simpa using this)
theorem ed_indexD {k : Nat} (hr : Room k X.A) (ho : ED K X M o to fo) (ha : ED K X M a ta fa)
    (hs1 : starEach [a] X.env = (false, eval a X.env) :: starEach [] X.env := by rfl)
    (hbase : attributeBase o "index" X.env (eval o X.env) = eval o X.env := by rfl)
    (hfew : ((backTo cpos (starEach [a] X.env)).all (fun x => !x.1) && (backToKw cpos (keywordEach [] X.env)).all (fun x => x.1.isSome)
      && decide ([a].length + ([] : List Keyword).length + (if ([] : List Keyword).isEmpty then 0 else 1) < 30)) = true := by rfl)
    (hline : (apos.endLine == cpos.line) = true := by rfl) (hplain : (backTo cpos (starEach [] X.env)).any (·.1) = false := by rfl) (hK : X.K = K := by rfl) :
    ED K X M (.Call (.Attribute o "index" apos) [a] [] cpos) (tBM K "list" (rIndexD K) to (tCons ta tNil)) (f2 gIdxD fo fa) := by
  subst hK
  refine ⟨pe_bm PySem.F.plainAttrs_list PySem.F.slot_list_index PySem.F.type_list_index (mt_indexD (by have := hr.un; omega)) ho.pe (pa_cons ha.pe pa_nil hs1) hbase hfew hline hs1 hplain, fun {Hs0 H0 Hs H σ ρ d Q} R hf q => ?_⟩
  obtain ⟨x, h1, hf⟩ := bind_some hf
  obtain ⟨y, h2, hf⟩ := bind_some hf
  refine ho.sm R h1 fun v Hs1 H1 g1 d1 => ?_
  cases d1 with
  | @lst p1 xs ds hp t =>
    obtain ⟨c1, c2, j, z, rfl, hj, hz, hm⟩ := idxD_some hf
    refine ⟨.inl ⟨rfl, xs, sqL_of (g1.sub _ _ hp)⟩, ha.sm (R.grow g1) h2 fun u Hs2 H2 g2 d2 => ?_⟩
    have dl : Dp X.K H2 (.ref p1) (.list ds) := (((Dd.lst hp t : Dd X.K Hs1 (.ref p1) (.list ds)).mono g2.exs).mono g2.sub).dp (SeqAt.canLay_of_shaped c1)
    exact ⟨p1, u, y, ds, j, z, rfl, rfl, dl, (d2.mono g2.sub).dp (SeqAt.canLay_of_shaped c2), c1, c2, hj, hz, hm, q _ Hs2 H2 (g1.trans g2) (.int _)⟩
  | _ => cases hf
end
end DL

/-! list(zip(a, b)) of two tuples -/
namespace LZ
open PySem RZ
open PySem.Sem (wp)
theorem zip_no_len : typeLookup (.type "zip") "__len__" = pure none := by rw [typeLookup_type, builtinLookup_eq_fast]; kernel_rfl
theorem zip_no_hint : typeLookup (.type "zip") "__length_hint__" = pure none := by rw [typeLookup_type, builtinLookup_eq_fast]; kernel_rfl
section
variable {prog : Program} {w : World} {A : Around} {E : Value → Shared → Prop} {s : Shared} {z TI TO T i1 i2 l1 l2 : Addr} {k1 k2 : Nat} {xs ys : Array Value} {x y a b : Value} {f : Bool} {oT : Obj}
theorem next_item_held {Q : Value → Shared → Prop} (D : ZipApart z TI TO i1 i2 l1 l2)
    (hz : IsZipHeld s.heap z TI TO T f) (hT : s.heap.get? T = some oT) (hTI : IsPair s.heap TI (.ref i1) (.ref i2))
    (h1 : s.heap.IsTupleIter i1 l1 k1) (h2 : s.heap.IsTupleIter i2 l2 k2) (hl1 : s.heap.IsTuple l1 xs) (hl2 : s.heap.IsTuple l2 ys) (hx : xs[k1]? = some x) (hy : ys[k2]? = some y)
    (hQ : ∀ h', IsZipHeld h' z TI TO T true → h'.IsTupleIter i1 l1 (k1 + 1) → h'.IsTupleIter i2 l2 (k2 + 1) → IsPair h' s.heap.objs.size x y → h'.objs.size = s.heap.objs.size + 1 →
      (∀ c o, c ≠ z → c ≠ i1 → c ≠ i2 → s.heap.get? c = some o → h'.get? c = some o) → Q (.ref s.heap.objs.size) { s with heap := h' }) :
    wpAny (model prog w) A (Builtin.«zip.__next__» ⟨[.ref z], []⟩) (fun fin s' => ∃ v, fin = .done (.ret v) ∧ Q v s') E s := by
  show wpAny _ _ (field (.ref z) 2 >>= _) _ _ _
  refine wpAny_bind (wpAny_field hz rfl (x := .bool false) rfl ?_)
  show wpAny _ _ (field (.ref z) 3 >>= _) _ _ _
  refine wpAny_bind (wpAny_field hz rfl (x := .ref TI) rfl ?_)
  refine wpAny_bind (wpAny_seqItems hTI rfl ?_)
  show wpAny _ _ (Builtin.SmallTypes.ownedTupleIsFree (.ref z) >>= _) _ _ _
  refine wpAny_bind (wpAny_tupleHeld_zip hz hT fun h₁ hz₁ hs₁ => ?_)
  simp only [Bool.false_eq_true, if_false]
  refine wpAny_bind ?_
  rw [← Array.forIn_toList]
  simp only [List.forIn_cons, List.forIn_nil]
  refine wpAny_bind (wpAny_bind (wpAny_holding ?_))
  show wpAny _ _ (Builtin.SmallTypes.nextOf (.ref i1) >>= _) _ _ _
  refine wpAny_bind (nextOf_tuple_item (s := { s with heap := h₁ }) (h1.extBut hs₁.extBut D.i1z) (hl1.extBut hs₁.extBut D.l1z) hx fun h₂ h1₂ hs₂ => wpAny_pure ?_)
  refine wpAny_pure ?_
  refine wpAny_bind (wpAny_bind (wpAny_holding ?_))
  show wpAny _ _ (Builtin.SmallTypes.nextOf (.ref i2) >>= _) _ _ _
  refine wpAny_bind (nextOf_tuple_item (s := { s with heap := h₂ }) ((h2.extBut hs₁.extBut D.i2z).extBut hs₂.extBut D.i12.symm) ((hl2.extBut hs₁.extBut D.l2z).extBut hs₂.extBut D.l2i1) hy fun h₃ h2₃ hs₃ => wpAny_pure ?_)
  refine wpAny_pure (wpAny_pure ?_)
  show wpAny _ _ (newTuple [x, y] >>= _) _ _ _
  refine wpAny_bind (wpAny_newTuple ?_)
  have hsz : h₃.objs.size = s.heap.objs.size := by rw [hs₃.1, hs₂.1, hs₁.1]
  have hz₃ : IsZipHeld h₃ z TI TO T true := hs₃.extBut _ _ D.i2z.symm (hs₂.extBut _ _ D.i1z.symm hz₁)
  have hk : ∀ c o, c ≠ z → c ≠ i1 → c ≠ i2 → s.heap.get? c = some o → h₃.get? c = some o := fun c o c1 c2 c3 e => hs₃.extBut _ _ c3 (hs₂.extBut _ _ c2 (hs₁.extBut _ _ c1 e))
  have h1₃ : h₃.IsTupleIter i1 l1 (k1 + 1) := h1₂.extBut hs₃.extBut D.i12
  refine wpAny_pure ⟨_, rfl, ?_⟩
  show Q (.ref h₃.objs.size) _
  have hp : IsPair (h₃.push { cls := .type "tuple", data := .seq #[x, y] }) h₃.objs.size x y := Heap.get?_push_size _ rfl
  have hz4 : (h₃.push { cls := .type "tuple", data := .seq #[x, y] }).objs.size = h₃.objs.size + 1 := Heap.size_push ..
  rw [hsz] at hp hz4 ⊢
  exact hQ _ (Heap.get?_push_of_some _ hz₃) (h1₃.at fun o e => Heap.get?_push_of_some _ e) (h2₃.at fun o e => Heap.get?_push_of_some _ e) hp hz4 fun c o c1 c2 c3 e => Heap.get?_push_of_some _ (hk c o c1 c2 c3 e)
theorem next_end_held {Q : Fin → Shared → Prop} (hh : A.handled = none) (D : ZipApart z TI TO i1 i2 l1 l2)
    (hz : IsZipHeld s.heap z TI TO T f) (hT : s.heap.get? T = some oT) (hTI : IsPair s.heap TI (.ref i1) (.ref i2))
    (h1 : s.heap.IsTupleIter i1 l1 k1) (h2 : s.heap.IsTupleIter i2 l2 k2) (hl1 : s.heap.IsTuple l1 xs) (hl2 : s.heap.IsTuple l2 ys) (hend : xs[k1]? = none ∨ ys[k2]? = none)
    (hE : ∀ h' e, (∀ c o, c ≠ z → c ≠ i1 → c ≠ i2 → s.heap.get? c = some o → h'.get? c = some o) → (∃ o, h'.get? e = some o ∧ o.cls = .type "StopIteration") → E (.ref e) { s with heap := h' }) :
    wpAny (model prog w) A (Builtin.«zip.__next__» ⟨[.ref z], []⟩) Q E s := by
  show wpAny _ _ (field (.ref z) 2 >>= _) _ _ _
  refine wpAny_bind (wpAny_field hz rfl (x := .bool false) rfl ?_)
  show wpAny _ _ (field (.ref z) 3 >>= _) _ _ _
  refine wpAny_bind (wpAny_field hz rfl (x := .ref TI) rfl ?_)
  refine wpAny_bind (wpAny_seqItems hTI rfl ?_)
  show wpAny _ _ (Builtin.SmallTypes.ownedTupleIsFree (.ref z) >>= _) _ _ _
  refine wpAny_bind (wpAny_tupleHeld_zip hz hT fun h₁ hz₁ hs₁ => ?_)
  simp only [Bool.false_eq_true, if_false]
  refine wpAny_bind ?_
  rw [← Array.forIn_toList]
  simp only [List.forIn_cons, List.forIn_nil]
  refine wpAny_bind (wpAny_bind (wpAny_holding ?_))
  show wpAny _ _ (Builtin.SmallTypes.nextOf (.ref i1) >>= _) _ _ _
  cases hx : xs[k1]? with
  | none =>
    refine wpAny_bind (nextOf_tuple_end (s := { s with heap := h₁ }) hh (h1.extBut hs₁.extBut D.i1z) (hl1.extBut hs₁.extBut D.l1z) hx fun h₂ e hs₂ he => ?_)
    exact hE h₂ e (fun c o c1 c2 _ x => hs₂ _ _ c2 (hs₁.extBut _ _ c1 x)) he
  | some x =>
    have hy : ys[k2]? = none := by rcases hend with h | h; rw [hx] at h; cases h; exact h
    refine wpAny_bind (nextOf_tuple_item (s := { s with heap := h₁ }) (h1.extBut hs₁.extBut D.i1z) (hl1.extBut hs₁.extBut D.l1z) hx fun h₂ h1₂ hs₂ => wpAny_pure ?_)
    refine wpAny_pure ?_
    refine wpAny_bind (wpAny_bind (wpAny_holding ?_))
    show wpAny _ _ (Builtin.SmallTypes.nextOf (.ref i2) >>= _) _ _ _
    refine wpAny_bind (nextOf_tuple_end (s := { s with heap := h₂ }) hh ((h2.extBut hs₁.extBut D.i2z).extBut hs₂.extBut D.i12.symm) ((hl2.extBut hs₁.extBut D.l2z).extBut hs₂.extBut D.l2i1) hy fun h₃ e hs₃ he => ?_)
    exact hE h₃ e (fun c o c1 c2 c3 x => hs₃ _ _ c3 (hs₂.extBut _ _ c2 (hs₁.extBut _ _ c1 x))) he
theorem pyNext_item_held {Q : Option Value → Shared → Prop} (D : ZipApart z TI TO i1 i2 l1 l2)
    (hz : IsZipHeld s.heap z TI TO T f) (hT : s.heap.get? T = some oT) (hTI : IsPair s.heap TI (.ref i1) (.ref i2))
    (h1 : s.heap.IsTupleIter i1 l1 k1) (h2 : s.heap.IsTupleIter i2 l2 k2) (hl1 : s.heap.IsTuple l1 xs) (hl2 : s.heap.IsTuple l2 ys) (hx : xs[k1]? = some x) (hy : ys[k2]? = some y)
    (hQ : ∀ h', IsZipHeld h' z TI TO T true → h'.IsTupleIter i1 l1 (k1 + 1) → h'.IsTupleIter i2 l2 (k2 + 1) → IsPair h' s.heap.objs.size x y → h'.objs.size = s.heap.objs.size + 1 →
      (∀ c o, c ≠ z → c ≠ i1 → c ≠ i2 → s.heap.get? c = some o → h'.get? c = some o) → Q (some (.ref s.heap.objs.size)) { s with heap := h' }) :
    wpAny (model prog w) A (pyNext (.ref z)) Q E s := by
  have hTy : s.TypeIs (.ref z) "zip" := ⟨_, hz, rfl⟩
  unfold pyNext
  exact wpAny_bind (wpAny_attempt (wpAny_callSpecial?_slot (name := Str.ofString "__next__") hTy F.slot_zip_next
    (wpAny_call_entry F.slot_zip_next hTy F.entry_zip_next
      (next_item_held D hz hT hTI h1 h2 hl1 hl2 hx hy fun h' a1 a3 a4 a5 a6 a7 => wpAny_pure (hQ h' a1 a3 a4 a5 a6 a7)) (F.args_zip_next_1 _))))
theorem pyNext_end_held {Q : Option Value → Shared → Prop} (hh : A.handled = none) (D : ZipApart z TI TO i1 i2 l1 l2)
    (hz : IsZipHeld s.heap z TI TO T f) (hT : s.heap.get? T = some oT) (hTI : IsPair s.heap TI (.ref i1) (.ref i2))
    (h1 : s.heap.IsTupleIter i1 l1 k1) (h2 : s.heap.IsTupleIter i2 l2 k2) (hl1 : s.heap.IsTuple l1 xs) (hl2 : s.heap.IsTuple l2 ys) (hend : xs[k1]? = none ∨ ys[k2]? = none)
    (hQ : ∀ h', (∀ c o, c ≠ z → c ≠ i1 → c ≠ i2 → s.heap.get? c = some o → h'.get? c = some o) → Q none { s with heap := h' }) : wpAny (model prog w) A (pyNext (.ref z)) Q E s := by
  have hTy : s.TypeIs (.ref z) "zip" := ⟨_, hz, rfl⟩
  unfold pyNext
  refine wpAny_bind (wpAny_attempt (wpAny_callSpecial?_slot (name := Str.ofString "__next__") hTy F.slot_zip_next
    (wpAny_call_entry F.slot_zip_next hTy F.entry_zip_next (next_end_held hh D hz hT hTI h1 h2 hl1 hl2 hend fun h' e hk he => ?_) (F.args_zip_next_1 _))))
  obtain ⟨o, ho, hc⟩ := he
  refine wpAny_bind (wpAny_isInstance (T := "StopIteration") (b := true) ⟨o, ho, hc⟩ isSubtype_stop ?_)
  exact wpAny_pure (hQ _ hk)
/-- a zip that has given out i tuples, all of them held -/
def St (h : Heap) (z TI TO i1 i2 l1 l2 S : Addr) (i : Nat) : Prop :=
  IsPair h TI (.ref i1) (.ref i2) ∧ h.IsTupleIter i1 l1 i ∧ h.IsTupleIter i2 l2 i ∧ ((IsZip h z TI TO .none ∧ ∃ a b, IsPair h TO a b) ∨ ∃ T f oT, IsZipHeld h z TI TO T f ∧ h.get? T = some oT ∧ S < T)
structure Below (z TI TO i1 i2 l1 l2 S : Addr) : Prop where
  z : z < S
  TI : TI < S
  TO : TO < S
  i1 : i1 < S
  i2 : i2 < S
  l1 : l1 < S
  l2 : l2 < S
variable {S : Addr} {i : Nat}
theorem St.isZip {h : Heap} (x : St h z TI TO i1 i2 l1 l2 S i) : ∃ f0 f1, h.get? z = some { cls := .type "zip", dict := none, data := .fields #[f0, f1, .bool false, .ref TI, .ref TO], slots := #[] } := by
  obtain ⟨_, _, _, h1 | ⟨_, _, _, h1, _⟩⟩ := x
  · exact ⟨_, _, h1.1⟩
  · exact ⟨_, _, h1⟩
theorem St.keep {h h' : Heap} (x : St h z TI TO i1 i2 l1 l2 S i) (B : Below z TI TO i1 i2 l1 l2 S) (hk : ∀ b o, b ≠ S → h.get? b = some o → h'.get? b = some o) : St h' z TI TO i1 i2 l1 l2 S i := by
  obtain ⟨a1, a2, a3, a4⟩ := x
  refine ⟨hk _ _ (Nat.ne_of_lt B.TI) a1, a2.at fun o e => hk _ o (Nat.ne_of_lt B.i1) e, a3.at fun o e => hk _ o (Nat.ne_of_lt B.i2) e, ?_⟩
  rcases a4 with ⟨h1, a, b, h2⟩ | ⟨T, f, oT, h1, h2, h3⟩
  · exact .inl ⟨hk _ _ (Nat.ne_of_lt B.z) h1, a, b, hk _ _ (Nat.ne_of_lt B.TO) h2⟩
  · exact .inr ⟨T, f, oT, hk _ _ (Nat.ne_of_lt B.z) h1, hk _ _ (Nat.ne_of_gt h3) h2, h3⟩
theorem item (D : ZipApart z TI TO i1 i2 l1 l2) (B : Below z TI TO i1 i2 l1 l2 S) (x : St s.heap z TI TO i1 i2 l1 l2 S i) (hS : S < s.heap.objs.size) (hl1 : s.heap.IsTuple l1 xs) (hl2 : s.heap.IsTuple l2 ys) {u v : Value} (hx : xs[i]? = some u) (hy : ys[i]? = some v) {Q : Option Value → Shared → Prop}
    (hQ : ∀ h', St h' z TI TO i1 i2 l1 l2 S (i + 1) → IsPair h' s.heap.objs.size u v → h'.objs.size = s.heap.objs.size + 1 → (∀ c o, c ≠ z → c ≠ TO → c ≠ i1 → c ≠ i2 → s.heap.get? c = some o → h'.get? c = some o) → Q (some (.ref s.heap.objs.size)) { s with heap := h' }) :
    wpAny (model prog w) A (pyNext (.ref z)) Q E s := by
  obtain ⟨a1, a2, a3, a4⟩ := x
  rcases a4 with ⟨h1, a, b, h2⟩ | ⟨T, f, oT, h1, h2, h3⟩
  · refine pyNext_zipT_item D h1 a1 h2 a2 a3 hl1 hl2 hx hy fun h' b1 b2 b3 b4 b5 b6 b7 => hQ h' ⟨b7 _ _ D.TIz D.TITO D.TIi1 D.TIi2 a1, b3, b4, .inr ⟨s.heap.objs.size, false, _, b1, b5, hS⟩⟩ b5 b6 b7
  · refine pyNext_item_held D h1 h2 a1 a2 a3 hl1 hl2 hx hy fun h' b1 b3 b4 b5 b6 b7 => hQ h' ⟨b7 _ _ D.TIz D.TIi1 D.TIi2 a1, b3, b4, .inr ⟨T, true, oT, b1, b7 _ _ (Nat.ne_of_gt (Nat.lt_trans B.z h3)) (Nat.ne_of_gt (Nat.lt_trans B.i1 h3)) (Nat.ne_of_gt (Nat.lt_trans B.i2 h3)) h2, h3⟩⟩ b5 b6 fun c o c1 _ c3 c4 => b7 c o c1 c3 c4
theorem ends (hh : A.handled = none) (D : ZipApart z TI TO i1 i2 l1 l2) (x : St s.heap z TI TO i1 i2 l1 l2 S i) (hl1 : s.heap.IsTuple l1 xs) (hl2 : s.heap.IsTuple l2 ys) (hend : xs[i]? = none ∨ ys[i]? = none) {Q : Option Value → Shared → Prop}
    (hQ : ∀ h', (∀ c o, c ≠ z → c ≠ TO → c ≠ i1 → c ≠ i2 → s.heap.get? c = some o → h'.get? c = some o) → Q none { s with heap := h' }) : wpAny (model prog w) A (pyNext (.ref z)) Q E s := by
  obtain ⟨a1, a2, a3, a4⟩ := x
  rcases a4 with ⟨h1, a, b, h2⟩ | ⟨T, f, oT, h1, h2, h3⟩
  · exact pyNext_zipT_end hh D h1 a1 h2 a2 a3 hl1 hl2 hend hQ
  · exact pyNext_end_held hh D h1 h2 a1 a2 a3 hl1 hl2 hend fun h' hk => hQ h' fun c o c1 _ c3 c4 => hk c o c1 c3 c4
/-- the tuples given out -/
structure G (xs ys : Array Value) (lo : Addr) (h : Heap) (as : List Addr) : Prop where
  rise : as.Pairwise (· < ·)
  above : ∀ a ∈ as, lo < a
  pairs : ∀ (j : Nat) (a : Addr), as[j]? = some a → ∃ x y, xs[j]? = some x ∧ ys[j]? = some y ∧ h.get? a = some { cls := .type "tuple", data := .seq #[x, y] }
theorem G.there {lo : Addr} {h : Heap} {as : List Addr} (g : G xs ys lo h as) {a : Addr} (ha : a ∈ as) : a < h.objs.size := by
  obtain ⟨j, hj⟩ := List.mem_iff_getElem?.mp ha
  obtain ⟨_, _, _, _, e⟩ := g.pairs j a hj
  exact Heap.lt_size e
end
section
variable {prog : Program} {w : World} {A : Around} {s : Shared} {R : Result → Shared → Prop} {z TI TO i1 i2 l1 l2 S : Addr} {xs ys : Array Value}
theorem loop (hh : A.handled = none) (D : ZipApart z TI TO i1 i2 l1 l2) (B : Below z TI TO i1 i2 l1 l2 S) {n : Nat} (hnx : n = min xs.size ys.size) (hn : n ≤ sizeLine) (res : Value) {h₁ : Heap} (hl1 : h₁.IsTuple l1 xs) (hl2 : h₁.IsTuple l2 ys)
    (hR : ∀ h' tk acc c as, (∀ b o, b ≠ S → b ≠ z → b ≠ TO → b ≠ i1 → b ≠ i2 → h₁.get? b = some o → h'.get? b = some o) → h'.get? S = some { cls := .type "list", dict := none, data := .seq acc c, slots := #[] } → as.length = n → G xs ys S h' as →
      acc.toList = as.map Value.ref → R (.ok (.ret res)) { s with heap := h', toks := tk }) :
    ∀ (k i : Nat) (h : Heap) (tk c : Nat) (acc : Array Value) (as : List Addr), n - i = k → i ≤ n → St h z TI TO i1 i2 l1 l2 S i → (∀ b o, b ≠ S → b ≠ z → b ≠ TO → b ≠ i1 → b ≠ i2 → h₁.get? b = some o → h.get? b = some o) →
      h.get? S = some { cls := .type "list", dict := none, data := .seq acc c, slots := #[] } → acc.toList = as.map Value.ref → as.length = i → G xs ys S h as →
      codeAny (model prog w) A (.builtin "list.extend.loop" ⟨[.ref S, .ref z, res], []⟩) R { s with heap := h, toks := tk } := by
  have nS : ∀ {c : Addr}, c < S → S ≠ c := fun h => Nat.ne_of_gt h
  have tup : ∀ {h : Heap} {l : Addr} {vs : Array Value}, l < S → l ≠ z → l ≠ TO → l ≠ i1 → l ≠ i2 → h₁.IsTuple l vs → (∀ b o, b ≠ S → b ≠ z → b ≠ TO → b ≠ i1 → b ≠ i2 → h₁.get? b = some o → h.get? b = some o) → h.IsTuple l vs :=
    fun c0 c1 c2 c3 c4 hv hk => hv.at fun o e => hk _ o (Nat.ne_of_lt c0) c1 c2 c3 c4 e
  intro k
  induction k with
  | zero =>
    intro i h tk c acc as hk hi hst hkeep hS hacc hal hG
    have hin : i = n := by omega
    refine codeAny_builtin PySem.F.entry_extend_loop ?_
    rw [Around.under_plainId PySem.F.plain_extend_loop _]
    show wpAny _ A.in1 (pyNext (.ref z) >>= _) _ _ _
    refine wpAny_bind (ends (s := { s with heap := h, toks := tk }) (A := A.in1) hh D hst (tup B.l1 D.l1z D.l1TO D.l1i1 D.l1i2 hl1 hkeep) (tup B.l2 D.l2z D.l2TO D.l2i1 D.l2i2 hl2 hkeep) ?_ fun h' he => ?_)
    · rcases Nat.le_total xs.size ys.size with z | z
      · exact .inl (by simp; omega)
      · exact .inr (by simp; omega)
    refine wpAny_pure (hR h' tk acc c as (fun b o c0 c1 c2 c3 c4 e => he b o c1 c2 c3 c4 (hkeep b o c0 c1 c2 c3 c4 e)) (he S _ (nS B.z) (nS B.TO) (nS B.i1) (nS B.i2) hS) (by omega) ⟨hG.rise, hG.above, fun j a hj => ?_⟩ hacc)
    obtain ⟨x, y, e1, e2, e3⟩ := hG.pairs j a hj
    have ha := hG.above a (List.mem_of_getElem? hj)
    exact ⟨x, y, e1, e2, he a _ (Nat.ne_of_gt (Nat.lt_trans B.z ha)) (Nat.ne_of_gt (Nat.lt_trans B.TO ha)) (Nat.ne_of_gt (Nat.lt_trans B.i1 ha)) (Nat.ne_of_gt (Nat.lt_trans B.i2 ha)) e3⟩
  | succ k ih =>
    intro i h tk c acc as hk hi hst hkeep hS hacc hal hG
    have hlt : i < n := by omega
    have hx : xs[i]? = some xs[i] := Array.getElem?_eq_getElem (by omega)
    have hy : ys[i]? = some ys[i] := Array.getElem?_eq_getElem (by omega)
    have hsz : acc.size = i := by rw [← Array.length_toList, hacc, List.length_map, hal]
    refine codeAny_builtin PySem.F.entry_extend_loop ?_
    rw [Around.under_plainId PySem.F.plain_extend_loop _]
    show wpAny _ A.in1 (pyNext (.ref z) >>= _) _ _ _
    have hSl : S < h.objs.size := Heap.lt_size hS
    refine wpAny_bind (item (s := { s with heap := h, toks := tk }) D B hst hSl (tup B.l1 D.l1z D.l1TO D.l1i1 D.l1i2 hl1 hkeep) (tup B.l2 D.l2z D.l2TO D.l2i1 D.l2i2 hl2 hkeep) hx hy fun h' hst' ht hz hkp => ?_)
    dsimp only at ht hz hkp ⊢
    have hS' := hkp S _ (nS B.z) (nS B.TO) (nS B.i1) (nS B.i2) hS
    have up : ∀ b o, b ≠ S → h'.get? b = some o → (h'.update S (Obj.mapSeq (·.push (Value.ref h.objs.size)))).get? b = some o := fun b o hb e => (Heap.get?_update_other _ _ (Ne.symm hb)).trans e
    show wpAny _ A.in1 (updateSeq S (·.push (Value.ref h.objs.size)) >>= _) _ _ _
    refine wpAny_bind ?_
    refine wpAny_updateSeq hS' rfl (wpAny_pure ⟨plainId_quiet PySem.F.plain_extend_loop _, ih (i + 1) _ tk _ (acc.push (Value.ref h.objs.size)) (as ++ [h.objs.size]) (by omega) hlt (hst'.keep B up)
      (fun b o c0 c1 c2 c3 c4 e => up b o c0 (hkp b o c1 c2 c3 c4 (hkeep b o c0 c1 c2 c3 c4 e))) (Heap.get?_update_self _ hS' rfl) (by rw [Array.toList_push, hacc, List.map_append]; rfl) (by rw [List.length_append, hal]; rfl) ⟨?_, ?_, ?_⟩⟩) (by rw [hsz]; omega) (by show (acc.push (Value.ref h.objs.size)).size ≤ sizeLine + 1; rw [Array.size_push, hsz]; omega)
    · refine List.pairwise_append.mpr ⟨hG.rise, List.pairwise_singleton _ _, fun a ha b hb => ?_⟩
      rw [List.mem_singleton.mp hb]
      exact hG.there ha
    · intro a ha
      rcases List.mem_append.mp ha with ha | ha
      · exact hG.above a ha
      · rw [List.mem_singleton.mp ha]; exact hSl
    · intro j b hj
      rcases Nat.lt_trichotomy j as.length with h1 | h1 | h1
      · rw [List.getElem?_append_left h1] at hj
        obtain ⟨x', y', e1, e2, e3⟩ := hG.pairs j b hj
        have hb := hG.above b (List.mem_of_getElem? hj)
        exact ⟨x', y', e1, e2, up b _ (Nat.ne_of_gt hb) (hkp b _ (Nat.ne_of_gt (Nat.lt_trans B.z hb)) (Nat.ne_of_gt (Nat.lt_trans B.TO hb)) (Nat.ne_of_gt (Nat.lt_trans B.i1 hb)) (Nat.ne_of_gt (Nat.lt_trans B.i2 hb)) e3)⟩
      · subst h1
        have hb : h.objs.size = b := by simpa using hj
        subst hb
        exact ⟨xs[i], ys[i], by rw [hal]; exact hx, by rw [hal]; exact hy, up _ _ (Nat.ne_of_gt hSl) ht⟩
      · have hnone : (as ++ [h.objs.size])[j]? = none := List.getElem?_eq_none (by rw [List.length_append, List.length_singleton]; omega)
        rw [hnone] at hj; cases hj
theorem extend (hh : A.handled = none) (D : ZipApart z TI TO i1 i2 l1 l2) (B : Below z TI TO i1 i2 l1 l2 S) {n : Nat} (hnx : n = min xs.size ys.size) (hn : n ≤ sizeLine) (res : Value) (c₀ : Nat) (hl1 : s.heap.IsTuple l1 xs) (hl2 : s.heap.IsTuple l2 ys) (hz : IsZip s.heap z TI TO .none) (hst : St s.heap z TI TO i1 i2 l1 l2 S 0)
    (hS : s.heap.get? S = some { cls := .type "list", data := .seq #[] c₀ })
    (hR : ∀ h' tk acc c as, (∀ b o, b ≠ S → b ≠ z → b ≠ TO → b ≠ i1 → b ≠ i2 → s.heap.get? b = some o → h'.get? b = some o) → h'.get? S = some { cls := .type "list", dict := none, data := .seq acc c, slots := #[] } → as.length = n → G xs ys S h' as →
      acc.toList = as.map Value.ref → R (.ok (.ret res)) { s with heap := h', toks := tk }) :
    wpAny (model prog w) A.in1 (Builtin.List.listExtendWith (.ref S) (.ref z) res)
      (fun fin s' => match fin with | .done f => R (.ok f) s' | .again c' => c'.quiet = true ∧ codeAny (model prog w) A c' R s') (fun e s' => R (.error e) s') s := by
  have hSz : S ≠ z := Nat.ne_of_gt B.z
  have hT : s.TypeIs (.ref z) "zip" := ⟨_, hz, rfl⟩
  unfold Builtin.List.listExtendWith
  refine wpAny_bind (wpAny_typeOf hT ?_)
  have h1 : Builtin.List.listSameRef (.ref S) (.ref z) = false := by simp [Builtin.List.listSameRef, hSz]
  have h2 : (Value.type "zip" == Value.type "list") = false := by decide
  have h3 : (Value.type "zip" == Value.type "tuple") = false := by decide
  simp only [h1, h2, h3, Bool.or_false, Bool.false_eq_true, if_false]
  refine wpAny_bind (wpAny_pyIter_zip hz ?_)
  refine wpAny_bind (wpAny_holding ?_)
  unfold Builtin.List.listLengthHint
  refine wpAny_bind (wpAny_specialOf hT zip_no_len ?_)
  show wpAny _ A.in1 (specialOf (Value.ref z) (Str.ofString "__length_hint__") >>= _) _ _ _
  refine wpAny_bind (wpAny_specialOf hT zip_no_hint ?_)
  refine wpAny_pure ?_
  show wpAny _ A.in1 (rule "list.extend.makes-room" >>= fun _ => Builtin.List.listTouch (.ref S) >>= fun _ =>
    again (.builtin "list.extend.loop" ⟨[.ref S, .ref z, res], []⟩)) _ _ _
  refine wpAny_bind (wpAny_rule ?_)
  refine wpAny_bind ?_
  show wpAny _ A.in1 (updateSeq S (·.push .none) >>= fun _ => updateSeq S (·.pop)) _ _ _
  refine wpAny_bind (wpAny_updateSeq hS rfl ?_)
  have hS₂ := Heap.get?_update_self (Obj.mapSeq (·.push Value.none)) hS rfl
  refine wpAny_updateSeq (hz := by seq_fits) hS₂ rfl ?_
  have hS₃ := Heap.get?_update_self (Obj.mapSeq (·.pop)) hS₂ rfl
  have oth : ∀ b o, b ≠ S → s.heap.get? b = some o → ((s.heap.update S (Obj.mapSeq (·.push Value.none))).update S (Obj.mapSeq (·.pop))).get? b = some o :=
    fun b o hb e => (Heap.get?_update_other _ _ (Ne.symm hb)).trans ((Heap.get?_update_other _ _ (Ne.symm hb)).trans e)
  refine wpAny_pure ⟨plainId_quiet F.plain_extend_loop _, loop (s := s) (h₁ := s.heap) hh D B hnx hn res hl1 hl2 hR n 0 _ s.toks _ #[] [] (Nat.sub_zero _) (Nat.zero_le _) (hst.keep B oth) (fun b o c0 _ _ _ _ e => oth b o c0 e) hS₃ rfl rfl ⟨List.Pairwise.nil, (fun _ ha => nomatch ha), (fun j a hj => by simp at hj)⟩⟩
theorem init (hh : A.handled = none) (D : ZipApart z TI TO i1 i2 l1 l2) (B : Below z TI TO i1 i2 l1 l2 S) {n : Nat} (hnx : n = min xs.size ys.size) (hn : n ≤ sizeLine) (hl1 : s.heap.IsTuple l1 xs) (hl2 : s.heap.IsTuple l2 ys) (hz : IsZip s.heap z TI TO .none) (hst : St s.heap z TI TO i1 i2 l1 l2 S 0)
    (hS : s.heap.get? S = some { cls := .type "list", data := .seq #[] })
    (hR : ∀ h' tk acc c as, (∀ b o, b ≠ S → b ≠ z → b ≠ TO → b ≠ i1 → b ≠ i2 → s.heap.get? b = some o → h'.get? b = some o) → h'.get? S = some { cls := .type "list", dict := none, data := .seq acc c, slots := #[] } → as.length = n → G xs ys S h' as →
      acc.toList = as.map Value.ref → R (.ok (.ret .none)) { s with heap := h', toks := tk }) :
    wpAny (model prog w) A.in1 (Builtin.«list.__init__» ⟨[.ref S, .ref z], []⟩)
      (fun fin s' => match fin with | .done f => R (.ok f) s' | .again c' => c'.quiet = true ∧ codeAny (model prog w) A c' R s') (fun e s' => R (.error e) s') s := by
  show wpAny _ A.in1 (do let old ← Builtin.List.listItems (.ref S); Builtin.List.listUpdate (.ref S) (fun _ => #[]); letGo old.toList.reverse; Builtin.List.listExtendWith (.ref S) (.ref z) .none) _ _ s
  refine wpAny_bind ?_
  unfold Builtin.List.listItems
  refine wpAny_bind (wpAny_seqItems hS rfl (wpAny_pure ?_))
  show wpAny _ A.in1 (updateSeq S (fun _ => #[]) >>= fun _ => letGo (#[] : Array Value).toList.reverse >>= fun _ => Builtin.List.listExtendWith (.ref S) (.ref z) .none) _ _ s
  refine wpAny_bind (wpAny_updateSeq hS rfl ?_)
  have hS₂ := Heap.get?_update_self (Obj.mapSeq (fun _ => (#[] : Array Value))) hS rfl
  have oth : ∀ b o, b ≠ S → s.heap.get? b = some o → (s.heap.update S (Obj.mapSeq (fun _ => (#[] : Array Value)))).get? b = some o :=
    fun b o hb e => (Heap.get?_update_other _ _ (Ne.symm hb)).trans e
  refine wpAny_bind (wpAny_letGo ?_)
  refine extend (s := { s with heap := s.heap.update S (Obj.mapSeq (fun _ => (#[] : Array Value))) }) hh D B hnx hn .none _ (hl1.at fun o e => oth _ o (Nat.ne_of_lt B.l1) e) (hl2.at fun o e => oth _ o (Nat.ne_of_lt B.l2) e) (oth _ _ (Nat.ne_of_lt B.z) hz) (hst.keep B oth) hS₂ fun h' tk acc c as hk hS' hl hG hacc => ?_
  exact hR h' tk acc c as (fun b o c0 c1 c2 c3 c4 e => hk b o c0 c1 c2 c3 c4 (oth b o c0 e)) hS' hl hG hacc
end
section
variable {prog : Program} {w : World} {A : Around} {E : Value → Shared → Prop} {s : Shared} {z TI TO i1 i2 l1 l2 : Addr} {xs ys : Array Value}
theorem call_list {Q : Value → Shared → Prop} (hh : A.handled = none) (D : ZipApart z TI TO i1 i2 l1 l2) (B : Below z TI TO i1 i2 l1 l2 s.heap.objs.size) {n : Nat} (hnx : n = min xs.size ys.size) (hn : n ≤ sizeLine) (hl1 : s.heap.IsTuple l1 xs) (hl2 : s.heap.IsTuple l2 ys) (hz : IsZip s.heap z TI TO .none) (hst : St s.heap z TI TO i1 i2 l1 l2 s.heap.objs.size 0)
    (hQ : ∀ h' tk acc c as, (∀ b o, b ≠ z → b ≠ TO → b ≠ i1 → b ≠ i2 → s.heap.get? b = some o → h'.get? b = some o) → h'.get? s.heap.objs.size = some { cls := .type "list", dict := none, data := .seq acc c, slots := #[] } → as.length = n → G xs ys s.heap.objs.size h' as →
      acc.toList = as.map Value.ref → Q (.ref s.heap.objs.size) { s with heap := h', toks := tk }) :
    wpAny (model prog w) A (call (.type "list") [.ref z]) Q E s := by
  refine callType_codes (Q₁ := fun obj s₁ => obj = .ref s.heap.objs.size ∧ s₁ = { s with heap := s.heap.push { cls := .type "list", data := .seq #[] } }) PySem.F.called_list (PySem.F.typeCall_list_1 _) PySem.F.entry_list_init
    (code_list_new _ ⟨rfl, rfl⟩) fun obj s₁ h₁ => ?_
  obtain ⟨rfl, rfl⟩ := h₁
  have up : ∀ b o, s.heap.get? b = some o → (s.heap.push { cls := .type "list", data := .seq #[] }).get? b = some o := fun b o e => Heap.get?_push_of_some _ e
  have hS : (s.heap.push { cls := .type "list", data := .seq #[] }).get? s.heap.objs.size = some { cls := .type "list", data := .seq #[] } := Heap.get?_push_size _ rfl
  refine ⟨⟨_, hS, rfl⟩, PySem.F.args_list_init_2 _ _, init (A := A.in1) (s := { s with heap := s.heap.push { cls := .type "list", data := .seq #[] } }) hh D B hnx hn (hl1.at fun o e => up _ o e) (hl2.at fun o e => up _ o e) (up _ _ hz) (hst.keep B fun b o _ e => up b o e) hS fun h' tk acc c as hk hS' hl hG hacc => ?_⟩
  exact ⟨rfl, hQ h' tk acc c as (fun b o c1 c2 c3 c4 e => hk b o (Nat.ne_of_lt (Heap.lt_size e)) c1 c2 c3 c4 (up b o e)) hS' hl hG hacc⟩
end
end LZ
namespace DL
open PySem PySem.Spec PyProof.Rows L2
variable [Tabl]
/-! ### new objects laid at their addresses -/
def putO : Hp → List Addr → List HO → Hp
  | H, a :: as, o :: os => putO (L2.upd H a o) as os
  | H, _, _ => H
theorem putO_off {b : Addr} : ∀ (as : List Addr) (os : List HO) (H : Hp), b ∉ as → putO H as os b = H b
  | [], _, _, _ => rfl
  | _ :: _, [], _, _ => rfl
  | a :: as, o :: os, H, h => by
    show putO (L2.upd H a o) as os b = H b
    rw [putO_off as os _ (fun z => h (List.mem_cons_of_mem _ z)), upd_ne (fun z => h (by rw [z]; exact List.mem_cons_self))]
theorem putO_at : ∀ (as : List Addr) (os : List HO) (H : Hp), as.length = os.length → as.Nodup → ∀ (j : Nat) (a : Addr) (o : HO), as[j]? = some a → os[j]? = some o → putO H as os a = some o
  | [], _, _, _, _, j, a, o, h, _ => by simp at h
  | _ :: _, [], _, h, _, _, _, _, _, _ => by cases h
  | b :: as, q :: os, H, hl, hn, 0, a, o, h1, h2 => by
    simp at h1 h2
    subst h1 h2
    show putO (L2.upd H b q) as os b = some q
    rw [putO_off as os _ (List.nodup_cons.mp hn).1, upd_same]
  | b :: as, q :: os, H, hl, hn, j + 1, a, o, h1, h2 => putO_at as os (L2.upd H b q) (Nat.succ.inj hl) (List.nodup_cons.mp hn).2 j a o (by simpa using h1) (by simpa using h2)
def pairO (xs ys : List V) (us vs : List Value) (j : Nat) : HO := .frz { cls := .type "tuple", data := .seq #[us.getD j .none, vs.getD j .none] } (.tup [xs.getD j .non, ys.getD j .non])
section
variable {X : Cx} {pins : List (Addr × Obj)} {σ : L2.St} {H : Hp} {s : Shared} {h' : Heap} {tk : Nat} {xs ys : List V} {us vs : List Value} {acc : Array Value} {c : Nat} {as : List Addr} {S : Addr}
theorem vals_refs' : ∀ as : List Addr, Vals (as.map V.ref) (as.map Value.ref)
  | [] => .nil
  | _ :: as => .cons rfl (vals_refs' as)
theorem zip_laid (I : Inv X pins σ H s) (hz : as.length ≤ sizeLine) (rx : Vals xs us) (ry : Vals ys vs) (hSs : s.heap.objs.size ≤ S)
    (hk : ∀ b o, s.heap.get? b = some o → h'.get? b = some o) (hS : h'.get? S = some { cls := .type "list", dict := none, data := .seq acc c, slots := #[] }) (hl : as.length = min us.length vs.length) (hG : LZ.G us.toArray vs.toArray S h' as) (hacc : acc.toList = as.map Value.ref) :
    ∃ H' : Hp, Same H H' ∧ H S = none ∧ (∀ t ∈ as, H t = none) ∧ S ∉ as ∧ H' S = some (.lst (as.map V.ref)) ∧ (∀ (j : Nat) (t : Addr), as[j]? = some t → ∃ ob x y, ob.dict = none ∧ xs[j]? = some x ∧ ys[j]? = some y ∧ H' t = some (.frz ob (.tup [x, y]))) ∧ Inv X pins σ H' { s with heap := h', toks := tk } := by
  have hSn : S ∉ as := fun z => Nat.lt_irrefl _ (hG.above _ z)
  have nd : as.Nodup := List.Pairwise.imp (fun {a b} (h : a < b) => Nat.ne_of_lt h) hG.rise
  have new : ∀ t ∈ as, H t = none := fun t ht => I.hok.fresh (Nat.le_trans hSs (Nat.le_of_lt (hG.above t ht)))
  have newS : H S = none := I.hok.fresh hSs
  have lx := rx.length
  have ly := ry.length
  have oget : ∀ (j : Nat) (t : Addr), as[j]? = some t → ((List.range as.length).map (pairO xs ys us vs))[j]? = some (pairO xs ys us vs j) := fun j t e => by
    have := (List.getElem?_eq_some_iff.mp e).1
    rw [List.getElem?_map, List.getElem?_range this]
    rfl
  have atP : ∀ (j : Nat) (t : Addr), as[j]? = some t → putO (L2.upd H S (.lst (as.map V.ref))) as ((List.range as.length).map (pairO xs ys us vs)) t = some (pairO xs ys us vs j) := fun j t e =>
    putO_at as _ _ (by rw [List.length_map, List.length_range]) nd j t _ e (oget j t e)
  generalize hos : (List.range as.length).map (pairO xs ys us vs) = os at atP oget
  have off : ∀ b, b ∉ as → b ≠ S → putO (L2.upd H S (.lst (as.map V.ref))) as os b = H b := fun b h1 h2 => by rw [putO_off as os _ h1, upd_ne h2]
  have low : ∀ b o, s.heap.get? b = some o → b ∉ as ∧ b ≠ S := fun b o e => ⟨fun z => absurd (Heap.lt_size e) (Nat.not_lt.mpr (Nat.le_trans hSs (Nat.le_of_lt (hG.above b z)))), fun z => absurd (Heap.lt_size e) (Nat.not_lt.mpr (by rw [z]; exact hSs))⟩
  have kp : ∀ b u, H b = some u → (putO (L2.upd H S (.lst (as.map V.ref))) as os) b = some u := fun b u e => by
    rw [off b (fun z => by rw [new b z] at e; cases e) (fun z => by rw [z, newS] at e; cases e)]
    exact e
  have eS : putO (L2.upd H S (.lst (as.map V.ref))) as os S = some (.lst (as.map V.ref)) := by rw [putO_off as os _ hSn, upd_same]
  have items : ∀ (j : Nat) (t : Addr), as[j]? = some t → ∃ x y u v, xs[j]? = some x ∧ ys[j]? = some y ∧ us[j]? = some u ∧ vs[j]? = some v ∧ RelV x u ∧ RelV y v ∧ pairO xs ys us vs j = .frz { cls := .type "tuple", data := .seq #[u, v] } (.tup [x, y]) ∧ h'.get? t = some { cls := .type "tuple", data := .seq #[u, v] } := fun j t e => by
    obtain ⟨u, v, e1, e2, e3⟩ := hG.pairs j t e
    have e1 : us[j]? = some u := by simpa using e1
    have e2 : vs[j]? = some v := by simpa using e2
    have hj1 := (List.getElem?_eq_some_iff.mp e1).1
    have hj2 := (List.getElem?_eq_some_iff.mp e2).1
    have x1 : xs[j]? = some xs[j] := List.getElem?_eq_getElem (by omega)
    have y1 : ys[j]? = some ys[j] := List.getElem?_eq_getElem (by omega)
    obtain ⟨u', f1, f2⟩ := rx.get x1
    obtain ⟨v', g1, g2⟩ := ry.get y1
    rw [e1] at f1
    rw [e2] at g1
    cases f1
    cases g1
    refine ⟨_, _, u, v, x1, y1, e1, e2, f2, g2, ?_, e3⟩
    unfold pairO
    rw [List.getD_eq_getElem?_getD, e1, List.getD_eq_getElem?_getD, e2, List.getD_eq_getElem?_getD, x1, List.getD_eq_getElem?_getD, y1]
    rfl
  refine ⟨putO (L2.upd H S (.lst (as.map V.ref))) as os, kp, newS, new, hSn, eS, fun j t e => ?_, ?_⟩
  · obtain ⟨x, y, u, v, e1, e2, _, _, _, _, e3, _⟩ := items j t e
    exact ⟨_, x, y, rfl, e1, e2, by rw [atP j t e, e3]⟩
  · refine I.call' (ch := []) rfl ⟨fun b o q _ _ _ => hk b o q, fun b o q _ _ _ => ⟨o.slots, hk b o q⟩, fun b o q n _ => ?_, fun b o q _ => ⟨o, hk b o q⟩, fun b xs q => kp b _ q, fun b o u q => kp b _ q, fun b ps q => ⟨#[], by rw [kp b _ q]; simp⟩⟩ (fun b u q => ?_) I.bare fun b z => by simp at z
    · obtain ⟨z1, z2⟩ := low b o q
      rw [off b z1 z2]
      exact n
    · by_cases hb : b ∈ as
      · obtain ⟨j, hj⟩ := List.mem_iff_getElem?.mp hb
        rw [atP j b hj] at q
        obtain ⟨x, y, u', v', _, _, _, _, r1, r2, e3, e4⟩ := items j b hj
        rw [e3] at q
        cases q
        exact ⟨e4, by show 2 ≤ sizeLine; decide, [u', v'], .cons r1 (.cons r2 .nil), ⟨_, e4, rfl, _, rfl⟩⟩
      · by_cases hb2 : b = S
        · rw [hb2] at q ⊢
          rw [eS] at q
          cases q
          refine ⟨by rw [List.length_map]; omega, acc.toList, c, by rw [hacc]; exact vals_refs' as, ?_⟩
          rw [Array.toArray_toList]
          exact hS
        · rw [off b hb hb2] at q
          exact (I.hok b u q).stay (fun d v _ y => hk d v y) (fun d y => kp d _ y) fun d xs y => kp d _ y
end
def tListZip (K : PySem.W.Frag) (ta : TA) : TE := fun σ H Q => ta σ H fun ws H1 => ∃ a b xs ys, ws = [.ref a, .ref b] ∧ SqT K H1 a xs ∧ SqT K H1 b ys ∧ xs.length ≤ 1000 ∧
  ∀ (H' : Hp) (S : Addr) (ts : List Addr), Same H1 H' → H1 S = none → (∀ t ∈ ts, H1 t = none) → S ∉ ts → H' S = some (.lst (ts.map V.ref)) → ts.length = min xs.length ys.length →
    (∀ (j : Nat) (t : Addr), ts[j]? = some t → ∃ ob x y, ob.dict = none ∧ xs[j]? = some x ∧ ys[j]? = some y ∧ H' t = some (.frz ob (.tup [x, y]))) → Q (.ref S) H'
section
variable {X : Cx} {K : PySem.W.Frag} {M : List Nat} {a b : Expr} {ta tb : TE} {tr : TA} {fa fb : Fn} {pos p p2 q : Pos}
theorem below_nat {n a b S : Nat} (ha : a < n) (hb : b < n) (hS : S = n + 5) : LZ.Below (n + 4) (n + 2) (n + 3) n (n + 1) a b S := by
  subst hS
  exact ⟨Nat.lt_succ_self (n + 4), Nat.lt_add_of_pos_right (n := n + 2) (k := 3) (by decide), Nat.lt_add_of_pos_right (n := n + 3) (k := 2) (by decide), Nat.lt_add_of_pos_right (n := n) (k := 5) (by decide), Nat.lt_add_of_pos_right (n := n + 1) (k := 4) (by decide), Nat.lt_of_lt_of_le ha (Nat.le_add_right n 5), Nat.lt_of_lt_of_le hb (Nat.le_add_right n 5)⟩
theorem off_nat {c n : Nat} (h : c < n) : c ≠ n + 4 ∧ c ≠ n + 3 ∧ c ≠ n ∧ c ≠ n + 1 := ⟨by omega, by omega, by omega, by omega⟩
theorem pe_listZip (hc : X.calm = true) (hg : Gl X "list") (hm : X.mg "list" = none) (hgz : Gl X "zip") (hmz : X.mg "zip" = none) (ha : PA X [a, b] tr)
    (hs : starEach [a, b] X.env = (false, eval a X.env) :: starEach [b] X.env := by rfl) (hpl : (backTo q (starEach [b] X.env)).any (·.1) = false := by rfl)
    (hs2 : starEach [.Call (.Name "zip" p2) [a, b] [] q] X.env = (false, eval (.Call (.Name "zip" p2) [a, b] [] q) X.env) :: starEach [] X.env := by rfl) :
    PE X (.Call (.Name "list" p) [.Call (.Name "zip" p2) [a, b] [] q] [] pos) (tListZip X.K tr) := by
  refine ⟨fun pins s σ H Q I h => ?_⟩
  refine Call_ (ld_blt I hg hm boot_list (PyProof.Rows.callWith_type1 (args_cons ?_ hs2) hs2))
  refine Call_ (ld_blt I hgz hmz PyProof.Rows.boot_zip (PyProof.Rows.callWith_type1 (L2.thn (ha.run q pins s σ H _ I h) fun us s1 ⟨vs, H1, I1, r1, q1⟩ => ?_) hs hpl))
  obtain ⟨a, b, xs, ys, ex, hqx, hqy, hxl, qq⟩ := q1
  subst ex
  cases r1 with
  | cons r rr =>
    cases rr with
    | cons r' rr =>
      cases rr
      cases r
      cases r'
      obtain ⟨its, rv, p1, _⟩ := I1.tuple hqx
      obtain ⟨its2, rv2, p2, _⟩ := I1.tuple hqy
      obtain ⟨o1, ho1, _⟩ := id p1
      obtain ⟨o2, ho2, _⟩ := id p2
      have la := Heap.lt_size ho1
      have lb := Heap.lt_size ho2
      have D := PySem.W.ktu_apart s1.heap.objs.size a b la lb
      refine RZ.call_zipT (show s1.heap.IsTuple a its.toArray from p1) (show s1.heap.IsTuple b its2.toArray from p2) fun h' hz hTI hTO h1 h2 hsz hk => args_nil ?_
      have B : LZ.Below (s1.heap.objs.size + 4) (s1.heap.objs.size + 2) (s1.heap.objs.size + 3) s1.heap.objs.size (s1.heap.objs.size + 1) a b h'.objs.size := below_nat la lb hsz
      refine LZ.call_list (s := { s1 with heap := h' }) (I.ok.hd hc) D B (n := min its.length its2.length) (by simp) (by have := rv.length; rw [sizeLine_eq]; omega) (Heap.IsTuple.at p1 fun o e => hk _ o e) (Heap.IsTuple.at p2 fun o e => hk _ o e) hz ⟨hTI, h1, h2, .inl ⟨hz, _, _, hTO⟩⟩ fun h2 tk acc c as hk2 hS hl hG hacc => ?_
      have lx := rv.length
      have ly := rv2.length
      have keep : ∀ b o, s1.heap.get? b = some o → h2.get? b = some o := fun c o e => by
        obtain ⟨n1, n2, n3, n4⟩ := off_nat (Heap.lt_size e)
        exact hk2 c o n1 n2 n3 n4 (hk c o e)
      obtain ⟨H', k1, k2, k3, k4, k5, k6, J⟩ := zip_laid (tk := tk) I1 (by rw [sizeLine_eq]; omega) rv rv2 (by show s1.heap.objs.size ≤ h'.objs.size; rw [hsz]; exact Nat.le_add_right _ 5) keep hS hl hG hacc
      exact ⟨.ref _, H', J, rfl, qq H' _ as k1 k2 k3 k4 k5 (by rw [hl]; omega) k6⟩
@[simp] def gListZip : PyData → PyData → Option PyData
  | .tuple xs, .tuple ys => if xs.length ≤ 1000 then some (.list (zpD xs ys)) else none
  | _, _ => none
open Classical in
theorem listZip_grow {Hs H H' : Hp} {S : Addr} {ts : List Addr} {xs ys : List V} {ds es : List PyData} (e : Same Hs H) (k1 : Same H H') (k2 : H S = none) (k3 : ∀ t ∈ ts, H t = none) (k4 : S ∉ ts) (k5 : H' S = some (.lst (ts.map V.ref))) (hl : ts.length = min xs.length ys.length)
    (k6 : ∀ (j : Nat) (t : Addr), ts[j]? = some t → ∃ ob x y, ob.dict = none ∧ xs[j]? = some x ∧ ys[j]? = some y ∧ H' t = some (.frz ob (.tup [x, y]))) (dx : DdAll K Hs xs ds) (dy : DdAll K Hs ys es) :
    ∃ Hs', Grow Hs H Hs' H' ∧ Dd K Hs' (.ref S) (.list (zpD ds es)) := by
  have ex : Same Hs (fun c => if c = S ∨ c ∈ ts then H' c else Hs c) := fun c o z => by
    show (if c = S ∨ c ∈ ts then H' c else Hs c) = some o
    rw [if_neg]
    · exact z
    · rintro (h | h)
      · have := e c o z; rw [h, k2] at this; cases this
      · have := e c o z; rw [k3 c h] at this; cases this
  have aS : (if S = S ∨ S ∈ ts then H' S else Hs S) = some (.lst (ts.map V.ref)) := by rw [if_pos (.inl rfl)]; exact k5
  refine ⟨fun c => if c = S ∨ c ∈ ts then H' c else Hs c, ⟨Kept.of k1, ex, fun c o z => ?_, fun c z n => ?_⟩, .lst aS ?_⟩
  · have z : (if c = S ∨ c ∈ ts then H' c else Hs c) = some o := z
    by_cases h : c = S ∨ c ∈ ts
    · rw [if_pos h] at z; exact z
    · rw [if_neg h] at z; exact k1 c o (e c o z)
  · show (if c = S ∨ c ∈ ts then H' c else Hs c) = none
    rw [if_neg]
    · exact z
    · rintro (h | h)
      · rw [h] at n; exact n k2
      · exact n (k3 c h)
  · have lx := dx.length
    have ly := dy.length
    have key : ∀ (n : Nat), n ≤ ts.length → DdAll K (fun c => if c = S ∨ c ∈ ts then H' c else Hs c) ((ts.take n).map V.ref) ((zpD ds es).take n) := fun n => by
      induction n with
      | zero => intro _; exact .nil
      | succ n ih =>
        intro hn
        have hlt : n < ts.length := by omega
        have ht : ts[n]? = some ts[n] := List.getElem?_eq_getElem hlt
        obtain ⟨ob, x, y, o1, o2, o3, o4⟩ := k6 n ts[n] ht
        obtain ⟨d, h1, h2⟩ := dx.getv o2
        obtain ⟨d2, h3, h4⟩ := dy.getv o3
        have hz := zpD_get h1 h3
        rw [List.take_succ, ht, List.take_succ, hz, List.map_append]
        refine (ih (by omega)).append (.cons (.tup o1 ?_ (.cons (h2.mono ex) (.cons (h4.mono ex) .nil))) .nil)
        show (if ts[n] = S ∨ ts[n] ∈ ts then H' ts[n] else Hs ts[n]) = _
        rw [if_pos (.inr (List.getElem_mem hlt))]
        exact o4
    have := key ts.length (Nat.le_refl _)
    rw [List.take_length, List.take_of_length_le (by rw [zpD_len]; omega)] at this
    exact this
theorem ed_listZip (ha : ED K X M a ta fa) (hb : ED K X M b tb fb) (hmz : X.mg "zip" = none) (hm : X.mg "list" = none) (hg : Gl X "list" := by rfl) (hgz : Gl X "zip" := by rfl) (hc : X.calm = true := by rfl) (hK : X.K = K := by rfl)
    (hs : starEach [a, b] X.env = (false, eval a X.env) :: starEach [b] X.env := by rfl) (hsb : starEach [b] X.env = (false, eval b X.env) :: starEach [] X.env := by rfl) (hpl : (backTo q (starEach [b] X.env)).any (·.1) = false := by rfl)
    (hs2 : starEach [.Call (.Name "zip" p2) [a, b] [] q] X.env = (false, eval (.Call (.Name "zip" p2) [a, b] [] q) X.env) :: starEach [] X.env := by rfl) :
    ED K X M (.Call (.Name "list" p) [.Call (.Name "zip" p2) [a, b] [] q] [] pos) (tListZip K (tCons ta (tCons tb tNil))) (f2 gListZip fa fb) := by
  subst hK
  refine ⟨pe_listZip hc hg hm hgz hmz (pa_cons ha.pe (pa_cons hb.pe pa_nil hsb) hs) hs hpl hs2, fun {Hs0 H0 Hs H σ ρ d Q} R hf q => ?_⟩
  obtain ⟨x, h1, hf⟩ := bind_some hf
  obtain ⟨y, h2, hf⟩ := bind_some hf
  refine ha.sm R h1 fun v Hs1 H1 g1 d1 => ?_
  refine hb.sm (R.grow g1) h2 fun u Hs2 H2 g2 d2 => ?_
  cases d1 with
  | @tup p1 ob xs ds hn hp t =>
    cases d2 with
    | @tup p3 ob2 ys es hn2 hp2 t2 =>
      obtain ⟨hl, rfl⟩ := ite_some hf
      have t1 := t.mono g2.exs
      refine ⟨p1, p3, xs, ys, rfl, sqT_of (g2.sub _ _ (g2.exs _ _ hp)), sqT_of (g2.sub _ _ hp2), by rw [t.length]; exact hl, fun H' S ts k1 k2 k3 k4 k5 hl' k6 => ?_⟩
      obtain ⟨Hs', g3, dd⟩ := listZip_grow g2.sub k1 k2 k3 k4 k5 hl' k6 t1 t2
      exact q _ Hs' H' ((g1.trans g2).trans g3) dd
    | _ => cases hf
  | _ => cases hf
end
end DL

namespace DL
open PySem PySem.Spec PyProof.Rows L2
variable [Tabl]
/-! ### a comprehension in a comprehension -/
theorem relabel_free {env : Env} {x : Str} : ∀ {names : List (Str × NameKind)}, (names.lookup x = some .cell ∨ names.lookup x = some .free) →
    let l := names.map fun (n, k) => if (k == .free && env.scope.kind == .function && env.kindOf n == some .cell) then (n, NameKind.cell) else (n, k)
    l.lookup x = some .cell ∨ l.lookup x = some .free
  | [], h => by simp at h
  | (n, k) :: r, h => by
    intro l
    show List.lookup x ((if (k == NameKind.free && env.scope.kind == .function && env.kindOf n == some .cell) = true then (n, NameKind.cell) else (n, k)) :: _) = _ ∨ List.lookup x ((if (k == NameKind.free && env.scope.kind == .function && env.kindOf n == some .cell) = true then (n, NameKind.cell) else (n, k)) :: _) = _
    rw [List.lookup_cons] at h
    cases hx : (x == n) with
    | false =>
      rw [hx] at h
      have ih := relabel_free (env := env) (x := x) (names := r) h
      split <;> rw [List.lookup_cons, hx] <;> exact ih
    | true =>
      rw [hx] at h
      split
      · rw [List.lookup_cons, hx]; exact .inl rfl
      · rw [List.lookup_cons, hx]; exact h
theorem blkOk_in {N : List Str} {sc scope : Scope} {own : List (Str × Nat)} {env : Env} (h : blkC N sc scope own = true) : BlkOk N (relabel sc env) scope own where
  kind := (blkOk_by h).kind
  uniq := (blkOk_by h).uniq
  ix := (blkOk_by h).ix
  free := fun y hy e => relabel_free ((blkOk_by h).free y hy e)
  own := (blkOk_by h).own
end DL

/-! [f(x) for x in xs] where f may raise: the exception leaves the comprehension and then the expression around it -/
namespace DL
open PySem PySem.Spec PyProof.Rows L2
variable [Tabl]
section
variable {M : Model} {A : Around} {E : Value → Shared → Prop} {s : Shared} {env : Env}
/-- how a block may end: with its list, or by an exception that goes on -/
def lcEnds (M : Model) (A : Around) (E : Value → Shared → Prop) (Q : Value → Shared → Prop) (acc : Value) (ce : Env) (r : Result) (s' : Shared) : Prop :=
  match r with
  | .ok _ => ∃ m, s'.heap.Ns ce.locals m ∧ ∀ h', Heap.SameBut ce.locals s'.heap h' → Q acc { s' with heap := h' }
  | .error x => ∃ m, s'.heap.Ns ce.locals m ∧ ∀ h', Heap.SameBut ce.locals s'.heap h' → wpAny M A (PySem.passOn "comprehension.variables-let-go" x ce : Sem Value) (fun _ _ => False) E { s' with heap := h' }
theorem lc_runs {e : Expr} {scope : Scope} {pos : Pos} {newAcc first : Sem Value} {g : Comprehension} {gs : List Comprehension} {cl : List (Str × Addr)} {Q : Value → Shared → Prop}
    (hcl : clausesOf e = g :: gs) (hs : ∀ x, foldedSetIterable g.iter env x = pure x) (hclos : closureFor scope env = pure cl)
    (hkind : scope.kind = .function) (hnames : ∀ x ∈ scope.names, x.2 = .local → scope.names.lookup x.1 = some .local)
    (h : wpAny M A first (fun x s₁ => wpAny M A (pyIter x) (fun it s₂ => wpAny M A newAcc (fun acc s₃ =>
      wpAny M A (newFunctionEnv scope env.globals cl [] env.qual none .none (some env)) (fun cenv s₄ =>
        codeAny M A (.compStart e 0 it acc { cenv with scope := relabel scope env }) (lcEnds M A E Q acc { cenv with scope := relabel scope env }) s₄) E s₃) E s₂) E s₁) E s) :
    wpAny M A (comprehension e scope env pos newAcc false first none) Q E s := by
  unfold comprehension
  rw [hclos, hcl]
  refine wpAny_bind (wpAny_mono h (fun x s₁ h₁ => ?_) fun _ _ h' => h')
  refine wpAny_bind (wpAny_standAt (wpAny_bind (wpAny_of_eq (hs x) (wpAny_bind (wpAny_holding (wpAny_mono h₁ (fun it s₂ h₂ => ?_) fun _ _ h' => h'))))))
  refine wpAny_standIf (wpAny_bind (wpAny_mono h₂ (fun acc s₃ h₃ => ?_) fun _ _ h' => h'))
  refine wpAny_bind (wpAny_pure (wpAny_bind (wpAny_mono h₃ (fun cenv s₄ h₄ => ?_) fun _ _ h' => h')))
  dsimp only
  have hv : ∀ x ∈ (scope.names.filter fun x => (x.2 == .local || x.2 == .cell) && x.1 != (".0" : Str)).reverse, x.2 = .local → Env.kindOf { cenv with scope := relabel scope env } x.1 = some .local :=
    fun x hx hl => lookup_relabel_local (hnames x (List.mem_filter.mp (List.mem_reverse.mp hx)).1 hl)
  refine wpAny_holding (wpAny_bind (wpAny_attempt (wpAny_holding (wpAny_run (codeAny_mono h₄ fun r s' hr => ?_)))))
  cases r with
  | ok f =>
    obtain ⟨m, hn, hr⟩ := hr
    exact wpAny_bind (wpAny_holding (wpAny_comp_letGo (cenv := { cenv with scope := relabel scope env }) hkind _ s' m hv hn fun h' m' _ hs' => wpAny_pure (hr h' hs')))
  | error x =>
    obtain ⟨m, hn, hr⟩ := hr
    exact wpAny_bind (wpAny_holding (wpAny_comp_letGo (cenv := { cenv with scope := relabel scope env }) hkind _ s' m hv hn fun h' m' _ hs' => wpAny_mono (hr h' hs') (fun _ _ f => f.elim) fun _ _ y => y))
end
/-- the frame is noted by its number alone -/
theorem noteFrame_eq {e1 e2 : Env} (h : e1.frame = e2.frame) (u : Value) : noteFrame u e1 = noteFrame u e2 := by
  unfold noteFrame PySem.frameOf
  rw [h]
theorem funFrames_but {base h h' : Heap} {C : Addr} (sb : Heap.SameBut C h h') : ∀ {l : List Env}, h.FunFrames base l → C ∉ frs l → h'.FunFrames base l
  | [], _, _ => trivial
  | env :: l, x, hn => by
    obtain ⟨hk, ⟨L, o, hf, hb, ho, hd⟩, hr⟩ := x
    have hL : L ≠ C := fun z => hn (List.mem_filterMap.mpr ⟨env, List.mem_cons_self, by rw [hf, z]⟩)
    refine ⟨hk, ⟨L, o, hf, hb, (sb.2 L hL).trans ho, hd⟩, funFrames_but sb hr fun hm => hn ?_⟩
    obtain ⟨e, he, q⟩ := List.mem_filterMap.mp hm
    exact List.mem_filterMap.mpr ⟨e, List.mem_cons_of_mem _ he, q⟩
section
variable {X : Cx} {pins : List (Addr × Obj)} {σ : L2.St} {H H' : Hp} {s s' : Shared} {B : Heap} {W : WX} {a : Addr} {cls : Value} {d : Option Addr}
theorem Inv.xeTo {f : Value → Shared → Prop} (I : Inv X pins σ H s) : Inv { X with xe := f } pins σ H s :=
  ⟨⟨I.ok.mod, I.ok.kind, I.ok.glob, I.ok.blt, I.ok.above, I.ok.inj, I.ok.has, I.ok.cab, I.ok.hd, I.ok.frames, I.ok.stk, I.ok.exf, I.ok.bs, I.ok.bsz, I.ok.noex, I.ok.exfs, I.ok.funs, I.ok.frf⟩, I.os, I.bare, I.base, I.loc, I.cell, I.free, I.freeC, I.pin, I.hok, I.len⟩
/-- an exception over a ground that keeps what a call keeps -/
theorem XE.of_sky (I : Inv X pins σ H s) (sky : Sky B X.stack a (Zc cls d) X.env.locals s'.heap) (st : B.StaysIn s'.heap) (hok : HOk X.prog X.w H' B) (ub : UB (frs X.stack) H H' s.heap B s'.heap) (na : H' a = none) (os : s'.os = s.os) (ag : AllBare s'.gens) (w : W cls d σ H') : XE X W (.ref a) s' := by
  obtain ⟨G, g1, g2⟩ := restrict s'.heap fun b => (B.get? b).isSome || decide (b ∈ frs X.stack)
  have gB : ∀ b o, B.get? b = some o → G.get? b = some o := fun b o e => (g1 b (by simp [e])).trans (st b o e)
  have gF : ∀ b, b ∈ frs X.stack → G.get? b = s'.heap.get? b := fun b hb => g1 b (by simp [hb])
  have og : ∀ b o, G.get? b = some o → s'.heap.get? b = some o ∧ ((B.get? b).isSome = true ∨ b ∈ frs X.stack) := fun b o e => by
    by_cases q : ((B.get? b).isSome || decide (b ∈ frs X.stack)) = true
    · rw [g1 b q] at e
      exact ⟨e, by simpa [Bool.or_eq_true] using q⟩
    · rw [g2 b (by simpa using q)] at e
      cases e
  refine ⟨a, B, { s with heap := G, gens := s'.gens, drawn := s'.drawn, toks := s'.toks }, pins, σ, H', cls, d, rfl, ?_, fun b o e hb => ?_, Heap.UpToSlots.of_keeps fun b o e => (og b o e).1, sky, na, os, ag, w⟩
  · refine I.call (ch := []) ⟨fun b o e n hb _ => gB b o (ub.keep b o e n hb), fun b o e n hb _ => ?_, fun b o e n _ => ub.free b o e n, fun b o e _ => ?_, ub.tups, ub.frzs, ub.tbls⟩ (hok.kept gB) ag (fun _ z => nomatch z)
    · obtain ⟨sl, q⟩ := ub.slot b o e hb
      exact ⟨sl, (gF b hb).trans q⟩
    · by_cases hb : b ∈ frs X.stack
      · obtain ⟨sl, q⟩ := ub.slot b o e hb
        exact ⟨_, (gF b hb).trans q⟩
      · obtain ⟨o', q⟩ := ub.there b o e hb
        exact ⟨o', gB b o' q⟩
  · obtain ⟨e', h | h⟩ := og b o e
    · obtain ⟨o', q⟩ := Option.isSome_iff_exists.mp h
      have z := st b o' q
      rw [e'] at z
      cases z
      exact q
    · exact absurd h hb
end
/-- the block's context, its calls' exceptions kept in the air -/
abbrev blkQ (X : Cx) (s : Shared) (H : Hp) (scope : Scope) (cenv : Env) (fp : List Addr) (Ex : XK) : Cx :=
  { (X.blk s H scope cenv fp) with xe := fun u s' => ∃ pins σ H1 s1, Inv (X.blk s H scope cenv fp) pins σ H1 s1 ∧ L2.CX X.prog X.w X.stack H1 s1 Ex u s' }
theorem blkQ_passes {X : Cx} {s : Shared} {H : Hp} {scope : Scope} {cenv : Env} {fp : List Addr} {Ex : XK} (σ : L2.St) : PassesAt (L2.CX X.prog X.w) (blkQ X s H scope cenv fp Ex) σ Ex :=
  fun pins H1 s1 e s' I c => ⟨pins, σ, H1, s1, Inv.xeTo (f := fun _ _ => False) I, c⟩
section
variable {X : Cx} {pins : List (Addr × Obj)} {σ : L2.St} {s : Shared} {W : WX}
/-- an exception of a call in the block: noted, the block's names let go, it goes on -/
theorem blk_error {H1 : Hp} {s1 s' : Shared} {Ex : XK} {C : Addr} {u : Value} {ce : Env} (hst : X.stack = X.env :: X.outer) (hfr : X.env.frame = some X.env.locals) (tk : Takes X W) (hW : ∀ cls d H, Ex cls d H → W cls d σ H)
    (I : Inv X pins σ H1 s1) (hcf : ce.frame = X.env.frame) (hcl : ce.locals = C) (f : FpOk X pins H1 C) {m : Str → Option Value} (hn : s1.heap.Ns C m) (c : L2.CX X.prog X.w X.stack H1 s1 Ex u s') {Q : Value → Shared → Prop} {acc : Value} :
    notedBy (model X.prog X.w) X.A ce (fun e s' => lcEnds (model X.prog X.w) X.A X.xe Q acc ce (.error e) s') u s' := by
  obtain ⟨a, B, H', cls, d, rfl, fl, hok, ub, na, os, ag, hE⟩ := c
  obtain ⟨f0, f1, f2, f3, f4, f5⟩ := f
  have hCs : C ∉ frs X.stack := fun hm => by
    rw [hst] at hm
    obtain ⟨e, he, q⟩ := List.mem_filterMap.mp hm
    rcases List.mem_cons.mp he with z | z
    · rw [z, hfr] at q
      exact f1 (Option.some.inj q).symm
    · exact f2 (List.mem_filterMap.mpr ⟨e, z, q⟩)
  obtain ⟨oC, hoC⟩ : ∃ o, s1.heap.get? C = some o := by
    obtain ⟨o, _, _, ho, _⟩ := hn
    exact ⟨o, ho⟩
  have hBC : B.get? C = some oC := ub.keep C oC hoC f0 hCs
  have hHC : H' C = none := ub.free C oC hoC f0
  have hfrs : X.A.frames = some (X.env :: X.outer) := by rw [I.ok.frames, hst]
  unfold notedBy
  rw [noteFrame_eq hcf]
  rw [hst] at fl
  refine HandSPX.looks_onZ Zc.steady hfrs hfr fl fun h1 held up1 => ?_
  obtain ⟨st1, hBa, ff1, tr1⟩ := held
  refine ⟨m, ?_, fun h2 sb => ?_⟩
  · rw [hcl]
    refine hn.at' fun o e => ?_
    rw [hoC] at e
    cases e
    exact st1 C oC hBC
  rw [hcl] at sb
  -- the ground without the block's names
  obtain ⟨G, g1, g2⟩ := restrict B fun b => decide (b ≠ C)
  have gne : ∀ b, b ≠ C → G.get? b = B.get? b := fun b hb => g1 b (by simpa using hb)
  have gC : G.get? C = none := g2 C (by simp)
  have gsub : ∀ b o, G.get? b = some o → b ≠ C ∧ B.get? b = some o := fun b o e => by
    have hb : b ≠ C := fun z => by rw [z, gC] at e; cases e
    exact ⟨hb, (gne b hb).symm.trans e⟩
  have gnone : ∀ b, B.get? b = none → G.get? b = none := fun b e => by
    by_cases hb : b = C
    · rw [hb]; exact gC
    · rw [gne b hb]; exact e
  have haC : a ≠ C := fun z => by rw [z, hBC] at hBa; cases hBa
  obtain ⟨oe, vs, T, oT, ts, he, hz, hd, h1e, hnT, hTe, hT, hdT, h3⟩ := tr1
  have hTC : T ≠ C := fun z => by rw [z, hBC] at hnT; cases hnT
  have held2 : HandSPX.HeldZ G (X.env :: X.outer) a (Zc cls d) X.env.locals h2 := by
    refine ⟨fun b o e => ?_, gnone a hBa, ?_, oe, vs, T, oT, ts, (sb.2 a haC).trans he, hz, hd, h1e, gnone T hnT, hTe, (sb.2 T hTC).trans hT, hdT, h3⟩
    · obtain ⟨hb, e⟩ := gsub b o e
      exact (sb.2 b hb).trans (st1 b o e)
    · rw [← hst]
      rw [← hst] at ff1
      exact funFrames_none (funFrames_but sb ff1 hCs) fun L hL => gnone L (by
        obtain ⟨_, _, e, _⟩ := I.stack.mem hL
        by_cases hb : (B.get? L).isSome = true
        · exact absurd hL fun hm => by
            have := (ff1.mem hm).1
            rw [this] at hb
            cases hb
        · simpa using hb)
  -- it goes on
  unfold PySem.passOn
  refine wpAny_bind (wpAny_field ((sb.2 a haC).trans he) hd h1e ?_)
  rw [if_neg (by simp)]
  rw [hcf, hfr]
  refine wpAny_bind (HandSPX.setFlight_onZ held2 fun h3 held3 up3 => wpAny_throw (tk _ _ ?_))
  have nf : ∀ b ∈ frs X.stack, ∀ o, s'.heap.get? b = some o → ∃ sl, h3.get? b = some { o with slots := sl } := fun b hb o e => by
    have hbC : b ≠ C := fun z => hCs (by rw [← z]; exact hb)
    obtain ⟨_, o', e', hnf⟩ := fl.2.2.1.mem (by rw [← hst]; exact hb)
    rw [e] at e'
    cases e'
    obtain ⟨sl1, e1⟩ := up1 b o e hnf
    obtain ⟨sl2, e2⟩ := up3 b _ ((sb.2 b hbC).trans e1) hnf
    exact ⟨sl2, e2⟩
  -- the state without the block's names
  obtain ⟨S, q1, q2⟩ := restrict s1.heap fun b => decide (b ≠ C)
  have qne : ∀ b, b ≠ C → S.get? b = s1.heap.get? b := fun b hb => q1 b (by simpa using hb)
  have qsub : ∀ b o, S.get? b = some o → b ≠ C ∧ s1.heap.get? b = some o := fun b o e => by
    have hb : b ≠ C := fun z => by rw [z, q2 C (by simp)] at e; cases e
    exact ⟨hb, (qne b hb).symm.trans e⟩
  have J : Inv X pins σ H1 { s1 with heap := S } := I.turned (t' := s1.toks) (it := C) (fun b o hb e => (qne b hb).trans e) f0 f1 f3 f4 f5
  have hokG : HOk X.prog X.w H' G := fun b o q => (hok b o q).stay (fun x u hx r => by
    have hxC : x ≠ C := fun z => by
      rw [z] at hx
      rcases hx with hx | hx
      · rw [← hx, hHC] at q; cases q
      · rw [hHC] at hx; cases hx
    exact (gne x hxC).trans r) (fun _ r => r) fun _ _ r => r
  refine XE.of_sky J (B := G) (.inr (.inr (by rw [hst]; exact held3))) held3.1 hokG ⟨fun b o e n hb => ?_, fun b o e hb => ?_, fun b o e n => ub.free b o (qsub b o e).2 n, fun b o e hb => ?_, ub.tups, ub.frzs, ub.tbls⟩ na os ag (hW _ _ _ hE)
  · obtain ⟨hbC, e⟩ := qsub b o e
    exact (gne b hbC).trans (ub.keep b o e n hb)
  · obtain ⟨hbC, e⟩ := qsub b o e
    obtain ⟨sl, e1⟩ := ub.slot b o e hb
    obtain ⟨sl2, e2⟩ := nf b hb _ e1
    exact ⟨sl2, e2⟩
  · obtain ⟨hbC, e⟩ := qsub b o e
    obtain ⟨o', e1⟩ := ub.there b o e hb
    exact ⟨o', (gne b hbC).trans e1⟩
end
end DL
namespace DL
open PySem PySem.Spec PyProof.Rows L2
variable [Tabl]
section
variable {X : Cx}
/-- .. for target in iter: elt may raise Ex -/
theorem pe_lcQ {W : WX} {elt tg iter : Expr} {ifs : List Expr} {scope : Scope} {own : List (Str × Nat)} {pos : Pos} {wi : TI} {g : TG} {tt : TT} {te : L2.St → XK → TE} (hc : X.calm = true) (hN : X.N.Nodup) (hst : X.stack = X.env :: X.outer) (hfr : X.env.frame = some X.env.locals) (tk : Takes X W) (hi : PI X tg iter wi) (ok : BlkOk X.N X.env.scope scope own)
    (hg : ∀ (s : Shared) (H : Hp) (C : Addr) (cl : List (Str × Addr)) (fp : List Addr) (Ex : XK), PG (blkQ X s H scope (compEnvC scope cl C X.env) fp Ex) tg g) (ht : ∀ (s : Shared) (H : Hp) (C : Addr) (cl : List (Str × Addr)) (fp : List Addr) (Ex : XK), PTs (blkQ X s H scope (compEnvC scope cl C X.env) fp Ex) ifs tt)
    (he : ∀ (s : Shared) (H : Hp) (C : Addr) (cl : List (Str × Addr)) (fp : List Addr) (Ex : XK) (σ : L2.St), PE (blkQ X s H scope (compEnvC scope cl C X.env) fp Ex) elt (te σ Ex)) (hs : ∀ x, foldedSetIterable iter X.env x = pure x := by intro _; rfl) :
    PE X (.ListComp elt [⟨tg, iter, ifs, 0⟩] scope pos) (fun σ H Q => tLc wi g tt (te σ fun cls d H => W cls d σ H) (own.map (·.2)) σ H Q) := by
  refine ⟨fun pins s σ H Q I h => ?_⟩
  rw [eval_ListComp]
  have hfree : ∀ y ∈ scope.names, y.2 = .free → ∃ c, X.env.cells.lookup y.1 = some c := fun y hy e => (ok.free y hy e).elim (fun k => I.ok.has _ (.inl k)) fun k => I.ok.has _ (.inr k)
  refine lc_runs rfl hs (closure_ok hfree) ok.kind (fun y hy e => by rw [ok.uniq y hy, e]) (L2.thn (hi.run pins s σ H _ I h) fun xv s1 hx => L2.thn hx fun itv s2 h2 => ?_)
  obtain ⟨it, fp, tn, J, H2, rfl, I2, T, st2, f2, q⟩ := h2
  refine wpAny_newObj_type (newEnv_comp ?_) (by show 0 ≤ sizeLine; decide)
  generalize hD : s2.heap.objs.size = D
  have hDn : H2 D = none := I2.hok.fresh (Nat.le_of_eq hD)
  obtain ⟨Wl, ⟨m0, w0⟩, turn⟩ := q D hDn
  generalize hs3 : ({ s2 with heap := s2.heap.push { cls := .type "list", data := .seq ([] : List Value).toArray } } : Shared) = s3
  have h3 : s3.heap = s2.heap.push { cls := .type "list", data := .seq ([] : List Value).toArray } := by rw [← hs3]
  have I3 : Inv X pins σ (L2.upd H2 D (.lst [])) s3 := by
    rw [← hs3]
    refine I2.laid (t' := s2.toks) (fun b o e => Heap.get?_push_of_some _ e) (Nat.le_of_eq hD) ⟨Nat.zero_le _, [], 0, .nil, ?_⟩
    rw [← hD]
    exact Heap.get?_push_size _ rfl
  have f3 : ∀ b ∈ fp, FpOk X pins (L2.upd H2 D (.lst [])) b ∧ b < s3.heap.objs.size := fun b hb => by
    obtain ⟨o, e, _⟩ := T.obj _ _ st2 b hb
    have hlt := Heap.lt_size e
    refine ⟨⟨?_, (f2 b hb).2⟩, by rw [h3, Heap.size_push]; exact Nat.lt_succ_of_lt hlt⟩
    rw [upd_ne (by rw [← hD]; exact Nat.ne_of_lt hlt)]
    exact (f2 b hb).1
  have st3 : tn 0 s3.heap := T.keep _ _ _ st2 fun b _ o e => by rw [h3]; exact Heap.get?_push_of_some _ e
  have I4 := block_start I3 ok hN f3
  have pg := hg s3 (L2.upd H2 D (.lst [])) s3.heap.objs.size (cellsFrom (s3.heap.objs.size + 1) scope.names (cloFrom X.env.cells scope.names [])) fp (fun cls d H => W cls d σ H)
  have pt := ht s3 (L2.upd H2 D (.lst [])) s3.heap.objs.size (cellsFrom (s3.heap.objs.size + 1) scope.names (cloFrom X.env.cells scope.names [])) fp (fun cls d H => W cls d σ H)
  have pe := he s3 (L2.upd H2 D (.lst [])) s3.heap.objs.size (cellsFrom (s3.heap.objs.size + 1) scope.names (cloFrom X.env.cells scope.names [])) fp (fun cls d H => W cls d σ H) σ
  show codeAny _ _ (.compStart (.ListComp elt [⟨tg, iter, ifs, 0⟩] scope pos) 0 (.ref it) (.ref D) (compEnvC scope (cellsFrom (s3.heap.objs.size + 1) scope.names (cloFrom X.env.cells scope.names [])) s3.heap.objs.size X.env)) (lcEnds (model X.prog X.w) X.A X.xe _ (.ref D) (compEnvC scope (cellsFrom (s3.heap.objs.size + 1) scope.names (cloFrom X.env.cells scope.names [])) s3.heap.objs.size X.env)) { s3 with heap := pushCells (s3.heap.push { cls := .type "dict", data := .dict #[] }) scope.names }
  have nfp : ∀ b ∈ fp, (L2.upd H2 D (.lst [])) b = none := fun b hb => (f3 b hb).1.1
  generalize hce : compEnvC scope (cellsFrom (s3.heap.objs.size + 1) scope.names (cloFrom X.env.cells scope.names [])) s3.heap.objs.size X.env = ce at I4 pg pt pe ⊢
  have cL : ce.locals = s3.heap.objs.size := by rw [← hce]; rfl
  have cF : ce.frame = X.env.frame := by rw [← hce]; rfl
  generalize hH3 : L2.upd H2 D (.lst []) = H3 at I3 I4 pg pt pe w0 nfp f3
  generalize hs4 : ({ s3 with heap := pushCells (s3.heap.push { cls := .type "dict", data := .dict #[] }) scope.names } : Shared) = s4 at I4 ⊢
  have st4 : tn 0 s4.heap := T.keep _ _ _ st3 fun b _ o e => by rw [← hs4]; exact pushCells_keeps _ _ _ _ (Heap.get?_push_of_some _ e)
  generalize hXB : blkQ X s3 H3 scope ce fp (fun cls d H => W cls d σ H) = XB at pg pt pe
  have I4 : Inv XB [] (wipe σ (own.map (·.2))) H3 s4 := by rw [← hXB]; exact Inv.xeTo I4
  have xP : XB.prog = X.prog := by rw [← hXB]
  have xw : XB.w = X.w := by rw [← hXB]
  have xK : XB.K = X.K := by rw [← hXB]
  have xA : XB.A = X.A := by rw [← hXB]
  have xc : XB.calm = true := by rw [← hXB]; exact hc
  have xe : XB.env = ce := by rw [← hXB]
  have stat : ∀ {σ' : L2.St} {H' : Hp} {s' : Shared}, Inv XB [] σ' H' s' → (∀ b ∈ fp, H' b = none) → ∀ b ∈ fp, FpOk XB [] H' b := by
    subst hXB
    exact fun {σ' H' s'} I' hn b hb => ⟨hn b hb, (I'.ok.exf b hb).1, I'.ok.exfs b hb, .inl hb, fun x c e => (I'.ok.exf b hb).2 x c e, fun p hp => absurd (show p ∈ ([] : List (Addr × Obj)) ++ [] from hp) (by simp)⟩
  -- the def's own context at a state of the block
  have back : ∀ {pinsB : List (Addr × Obj)} {σ' : L2.St} {H' : Hp} {s' : Shared}, Inv XB pinsB σ' H' s' → Inv X pins σ H' s' ∧ FpOk X pins H' s3.heap.objs.size ∧ ∃ m, s'.heap.Ns s3.heap.objs.size m := by
    subst hXB
    intro pinsB σ' H' s' I'
    have nC : H' s3.heap.objs.size = none := by
      have z : H' ce.locals = none := I'.free
      rw [cL] at z
      exact z
    refine ⟨I3.call' (ch := fp) I'.os I'.base I'.hok I'.bare fun b hb => ⟨(f3 b hb).1.2.2.2.1, (f3 b hb).1.2.1, (f3 b hb).1.2.2.2.2.1, (f3 b hb).1.2.2.2.2.2⟩, I3.fpOk (Nat.le_refl _) nC, ?_⟩
    obtain ⟨m, hn, _⟩ := I'.loc
    have hn : s'.heap.Ns ce.locals m := hn
    rw [cL] at hn
    exact ⟨m, hn⟩
  have bad : ∀ (u : Value) (s' : Shared), XB.xe u s' → notedBy (model X.prog X.w) X.A ce (fun e s' => lcEnds (model X.prog X.w) X.A X.xe (EP X pins σ Q) (.ref D) ce (.error e) s') u s' := by
    subst hXB
    intro u s' hx
    obtain ⟨pinsB, σB, H5, s5, IB, c⟩ := hx
    obtain ⟨I7, f7, m, hn⟩ := back (Inv.xeTo IB)
    exact blk_error hst hfr tk (fun cls d H h => h) I7 cF cL f7 hn c
  have loop : codeAny (model X.prog X.w) X.A (.compLoop (.ListComp elt [⟨tg, iter, ifs, 0⟩] scope pos) 0 (.ref it) (.ref D) ce) (lcEnds (model X.prog X.w) X.A X.xe (EP X pins σ Q) (.ref D) ce) s4 := by
    refine compLoop_any (fun n s' => ∃ i H', Inv XB [] (wipe σ (own.map (·.2))) H' s' ∧ tn i s'.heap ∧ (∀ b ∈ fp, H' b = none) ∧ Wl i n H') ?_ m0 ⟨0, H3, I4, st4, nfp, w0⟩
    rintro n s5 ⟨i, H5, I5, st5, n5, w5⟩
    rcases turn i n H5 w5 with ⟨stop, qq⟩ | ⟨go, Nx, hNx, step⟩
    · have td := T.done XB xP xw xK xc i [] s5 _ H5 (fun _ _ => False) I5 (stat I5 n5) st5 stop
      rw [xA] at td
      refine thnF td fun r s6 ⟨hr, I6⟩ => ?_
      subst hr
      obtain ⟨I7, ⟨f0, f1, f2, f3', f4, f5⟩, m, hn⟩ := back I6
      refine ⟨m, by rw [cL]; exact hn, fun h'' sb => ?_⟩
      rw [cL] at sb
      exact ⟨.ref D, H5, I7.turned (t' := s6.toks) (fun b o hb e => (sb.2 b hb).trans e) f0 f1 f3' f4 f5, rfl, qq⟩
    · have ti := T.item XB xP xw xK xc i [] s5 _ H5 (fun _ _ => False) I5 (stat I5 n5) st5 go
      rw [xA] at ti
      refine thnF ti fun r s6 ⟨u, hr, h6⟩ => ?_
      subst hr
      refine thnF h6 fun _ s7 ⟨x, H7, I7, r7, y7, st7, n7⟩ => ?_
      have I7' := I7.pinned (stat I7 n7) (T.obj _ _ st7)
      have r1 := pg.run _ s7 _ H7 x u _ I7' r7 (step x H7 y7)
      rw [xP, xw, xA, xe] at r1
      refine wpAny_mono r1 (fun _ s8 ⟨σ8, H8, I8, hw8, q8⟩ => ?_) bad
      have r2 := pt.run _ s8 σ8 H8 _ I8 q8
      rw [xP, xw, xA, xe] at r2
      refine wpAny_mono r2 (fun b s9 ⟨H9, I9, q9⟩ => ?_) bad
      have fin : ∀ {s' : Shared} {H' : Hp}, Inv XB ([] ++ pinsAt fp s7.heap) σ8 H' s' → Nx H' → ∃ m, m < n ∧ ∃ i H', Inv XB [] (wipe σ (own.map (·.2))) H' s' ∧ tn i s'.heap ∧ (∀ b ∈ fp, H' b = none) ∧ Wl i m H' := fun {s' H'} I' nx => by
        obtain ⟨m', hm, w'⟩ := hNx H' nx
        have pin' : ∀ b ∈ fp, ∀ o, s7.heap.get? b = some o → s'.heap.get? b = some o ∧ H' b = none := fun b hb o e =>
          let z := I'.pin (b, o) (List.mem_append_right _ (List.mem_append_right _ (mem_pinsAt hb e)))
          ⟨z.1, z.2.1⟩
        have hl : (wipe σ (own.map (·.2))).length = σ8.length := by rw [← hw8, wipe_length]
        refine ⟨m', hm, i + 1, H', (I'.unpinned (pins := [])).weak hl (fun j v e => (wipe_some (hw8 ▸ e)).1), T.keep _ _ _ st7 fun b hb o e => (pin' b hb o e).1, fun b hb => ?_, w'⟩
        obtain ⟨o, e, _⟩ := T.obj _ _ st7 b hb
        exact (pin' b hb o e).2
      cases b with
      | false =>
        simp only [Bool.false_eq_true, if_false] at q9 ⊢
        exact fin I9 q9
      | true =>
        simp only [if_true] at q9 ⊢
        have r3 := pe.run _ s9 σ8 H9 _ I9 q9
        rw [xP, xw, xA, xe] at r3
        refine wpAny_mono r3 (fun z s10 ⟨yv, H10, I10, r10, acc, hD10, hz10, nx⟩ => ?_) bad
        have ap := app_ok (X := XB) (Q := fun _ s' => ∃ m, m < n ∧ ∃ i H', Inv XB [] (wipe σ (own.map (·.2))) H' s' ∧ tn i s'.heap ∧ (∀ b ∈ fp, H' b = none) ∧ Wl i m H') (E := notedBy (model X.prog X.w) X.A ce fun e s' => lcEnds (model X.prog X.w) X.A X.xe (EP X pins σ Q) (.ref D) ce (.error e) s') I10 hD10 hz10 r10 fun s11 I11 => fin I11 nx
        rw [xP, xw, xA] at ap
        exact ap
  exact codeAny_compStart_list loop (T.self X.A 0 _ _ _ st4 loop)
end
end DL

namespace DL
open PySem PySem.Spec PyProof.Rows L2
variable [Tabl]
section
variable {K : PySem.W.Frag} {X : Cx} {M : List Nat} {xc : Nat → Addr} {W : WX} {a b e o : Expr} {es : List Expr} {ta tb te to : TE} {fa fb f fo : Fn} {pos p apos : Pos}
/-! ### a text so often -/
theorem op_mulS : OpR X (binaryOp .Mult) (fun x y H Q => ∃ z n, x = .str z ∧ y = .int n ∧ 2 ≤ n ∧ n ≤ 1000 ∧ 1 ≤ z.length ∧ z.length ≤ 1000 ∧ Q (.str ⟨(List.replicate n.toNat z.cps).foldl (· ++ ·) #[]⟩) H) := by
  intro pins s σ H x y v u Q I rx ry h
  obtain ⟨z, n, rfl, rfl, h1, h2, h3, h4, q⟩ := h
  obtain ⟨t, rfl⟩ := rx
  obtain ⟨t', rfl⟩ := ry
  have c1 : ¬ n < 1 := by omega
  have c2 : ¬ (n == 1 || z.length == 0) = true := by
    rw [Bool.or_eq_true, beq_iff_eq, beq_iff_eq]
    omega
  have hmul : z.length * n.toNat ≤ 1000 * 1000 := Nat.mul_le_mul h4 (by omega)
  have hl : Builtin.Str.tooLong (z.length * n.toNat) = false := by
    unfold Builtin.Str.tooLong
    rw [decide_eq_false_iff_not]
    have := sizeLine_eq
    omega
  have hsz : (⟨(List.replicate n.toNat z.cps).foldl (· ++ ·) #[]⟩ : Str).length ≤ sizeLine := by
    have key : ∀ (k : Nat) (acc : Array Nat), ((List.replicate k z.cps).foldl (· ++ ·) acc).size = acc.size + k * z.length := fun k => by
      induction k with
      | zero => intro acc; simp
      | succ k ih =>
        intro acc
        rw [List.replicate_succ, List.foldl_cons, ih, Array.size_append, Nat.succ_mul]
        show acc.size + z.length + _ = _
        omega
    show ((List.replicate n.toNat z.cps).foldl (· ++ ·) #[]).size ≤ sizeLine
    rw [key, sizeLine_eq, Nat.mul_comm]
    have e0 : (#[] : Array Nat).size = 0 := rfl
    omega
  refine P.mul_str (by
    have g1 : ¬ n < -(2 ^ 63 : Int) := by omega
    have g2 : ¬ n ≥ 2 ^ 63 := by omega
    rw [decide_eq_false g1, decide_eq_false g2]
    rfl) (fun _ _ => ?_) (fun _ _ => hl) ?_
  · have : (1000 : Int) ≤ (2 ^ 63 - 1) / n := (Int.le_ediv_iff_mul_le (by omega)).mpr (by omega)
    omega
  · rw [if_neg c1, if_neg c2]
    exact ⟨hsz, ⟨.str _, H, I.tok _, ⟨_, rfl⟩, q⟩⟩
@[simp] def gMulS : PyData → PyData → Option PyData := fun x y => match x, y with
  | .str z, .int n => if 2 ≤ n ∧ n ≤ 1000 ∧ 1 ≤ z.length ∧ z.length ≤ 1000 then some (.str ⟨(List.replicate n.toNat z.cps).foldl (· ++ ·) #[]⟩) else none
  | _, _ => none
theorem od_mulS : OD K X (binaryOp .Mult) (fun x y H Q => ∃ z n, x = .str z ∧ y = .int n ∧ 2 ≤ n ∧ n ≤ 1000 ∧ 1 ≤ z.length ∧ z.length ≤ 1000 ∧ Q (.str ⟨(List.replicate n.toNat z.cps).foldl (· ++ ·) #[]⟩) H) gMulS :=
  ⟨op_mulS, fun {Hs H x y dx dy d Q} e a b hf q => by
    cases a <;> cases b <;> first
      | (cases hf; done)
      | (obtain ⟨⟨h1, h2, h3, h4⟩, rfl⟩ := ite_some hf
         exact ⟨_, _, rfl, rfl, h1, h2, h3, h4, q _ Hs H (Grow.refl e) (.str _)⟩)⟩
/-! ### lists of texts -/
def strsD : List PyData → Option (List Str)
  | [] => some []
  | .str x :: r => (strsD r).map (x :: ·)
  | _ :: _ => none
theorem strsD_map : ∀ ys : List Str, strsD (ys.map PyData.str) = some ys
  | [] => rfl
  | y :: ys => by
    rw [List.map_cons]
    unfold strsD
    rw [strsD_map ys]
    rfl
theorem strs_dv {H : Hp} : ∀ {vs : List V} {ds : List PyData} {ys : List Str}, DdAll K H vs ds → strsD ds = some ys → vs = ys.map V.str
  | _, _, _, .nil, h => by cases h; rfl
  | _, _, _, .cons a r, h => by
    cases a with
    | str x =>
      unfold strsD at h
      cases hr : strsD _ with
      | none => rw [hr] at h; cases h
      | some ys =>
        rw [hr] at h
        cases h
        rw [strs_dv r hr]
        rfl
    | _ => cases h
theorem DdAll.strs {H : Hp} : ∀ ys : List Str, DdAll K H (ys.map V.str) (ys.map PyData.str)
  | [] => .nil
  | y :: ys => .cons (.str y) (DdAll.strs ys)
@[simp] def gSplit : PyData → PyData → Option PyData
  | .str x, .str y => if 1 ≤ y.length ∧ x.length ≤ 1000000 then some (.list ((Txt.split x y).map .str)) else none
  | _, _ => none
theorem ed_split (ho : ED K X M o to fo) (ha : ED K X M a ta fa) (hs : starEach [a] X.env = [(false, eval a X.env)] := by rfl) (hbase : attributeBase o "split" X.env (eval o X.env) = eval o X.env := by rfl) (hline : (apos.endLine == pos.line) = true := by rfl) :
    ED K X M (.Call (.Attribute o "split" apos) [a] [] pos) (tM1 (fun x xs H Q => ∃ a b, x = .str a ∧ xs = [.str b] ∧ (b.length == 0) = false ∧ a.length + 2 ≤ sizeLine ∧ rNewStrs (Txt.split a b) H Q) to ta) (f2 gSplit fo fa) :=
  ⟨pe_split ho.pe ha.pe hs hbase hline, fun {Hs0 H0 Hs H σ ρ d Q} R hf q => by
    obtain ⟨x, h1, hf⟩ := bind_some hf
    obtain ⟨y, h2, hf⟩ := bind_some hf
    refine ho.sm R h1 fun v Hs1 H1 g1 d1 => ?_
    cases d1 with
    | str x =>
      refine ⟨⟨x, rfl⟩, ha.sm (R.grow g1) h2 fun u Hs2 H2 g2 d2 => ?_⟩
      cases d2 with
      | str y =>
        obtain ⟨⟨hy, hx⟩, rfl⟩ := ite_some hf
        refine ⟨x, y, rfl, rfl, ?_, by rw [sizeLine_eq]; omega, fun p hp => ?_⟩
        · rw [beq_eq_false_iff_ne]; omega
        · have g3 : Grow Hs2 H2 (L2.upd Hs2 p (.lst ((Txt.split x y).map V.str))) (L2.upd H2 p (.lst ((Txt.split x y).map V.str))) := Grow.alloc g2.sub hp
          exact q _ _ _ ((g1.trans g2).trans g3) (.lst upd_same (DdAll.strs _))
      | _ => cases hf
    | _ => cases hf⟩
@[simp] def gJoin : PyData → PyData → Option PyData
  | .str x, .list ds => (strsD ds).bind fun ys => if (ys.map (·.length)).sum + ys.length * x.length ≤ 1000000 then some (.str (Txt.join x ys)) else none
  | _, _ => none
theorem ed_join (ho : ED K X M o to fo) (ha : ED K X M a ta fa) (hs : starEach [a] X.env = [(false, eval a X.env)] := by rfl) (hbase : attributeBase o "join" X.env (eval o X.env) = eval o X.env := by rfl) (hline : (apos.endLine == pos.line) = true := by rfl) (hK : X.K = K := by rfl) :
    ED K X M (.Call (.Attribute o "join" apos) [a] [] pos) (tM1 (fun x xs H Q => ∃ a p, ∃ ys : List Str, x = .str a ∧ xs = [.ref p] ∧ (SqL K H p (ys.map V.str) ∨ SqT K H p (ys.map V.str)) ∧
      (ys.map (·.length)).sum + ys.length * a.length ≤ 16777216 ∧ Q (.str (Txt.join a ys)) H) to ta) (f2 gJoin fo fa) := by
  subst hK
  exact ⟨pe_join ho.pe ha.pe hs hbase hline, fun {Hs0 H0 Hs H σ ρ d Q} R hf q => by
    obtain ⟨x, h1, hf⟩ := bind_some hf
    obtain ⟨y, h2, hf⟩ := bind_some hf
    refine ho.sm R h1 fun v Hs1 H1 g1 d1 => ?_
    cases d1 with
    | str x =>
      refine ⟨⟨x, rfl⟩, ha.sm (R.grow g1) h2 fun u Hs2 H2 g2 d2 => ?_⟩
      cases d2 with
      | @lst p1 xs ds hp t =>
        obtain ⟨ys, h3, hf⟩ := bind_some hf
        obtain ⟨hl, rfl⟩ := ite_some hf
        have e := strs_dv t h3
        subst e
        exact ⟨x, p1, ys, rfl, rfl, .inl (sqL_of (g2.sub _ _ hp)), by omega, q _ Hs2 H2 (g1.trans g2) (.str _)⟩
      | _ => cases hf
    | _ => cases hf⟩
/-! ### f'{x}..' of two parts, x an int -/
@[simp] def gFmt2 : PyData → PyData → Option PyData
  | .int i, .str y => if i.natAbs.log2 < 1920 ∧ (toString i : Str).length + y.length ≤ 1000000 then some (.str ((toString i : Str) ++ y)) else none
  | _, _ => none
theorem ed_fmt2 {x : Str} {j : Nat} {p1 p2 : Pos} (ha : ED K X M a ta fa) : ED K X M (.JoinedStr [.FormattedValue a (-1) none p1, .Constant (.str x) j p2] pos) (fun σ H Q => tJs [tFmt ta, tC (.str x)] Str.empty σ H fun out H1 => Q (.str out) H1) (f2 gFmt2 fa (fC (.str x))) :=
  ⟨pe_joined (.cons (pe_fmt ha.pe) (.cons pe_str .nil)), fun {Hs0 H0 Hs H σ ρ d Q} R hf q => by
    obtain ⟨y, h1, hf⟩ := bind_some hf
    refine ha.sm R h1 fun v Hs1 H1 g1 d1 => ?_
    cases d1 with
    | int i =>
      obtain ⟨⟨hi, hl⟩, rfl⟩ := ite_some hf
      have e0 : Str.empty ++ (toString i : Str) = (toString i : Str) := by
        show (⟨#[] ++ (toString i : Str).cps⟩ : Str) = _
        rw [Array.empty_append]
      refine .inr ⟨i, rfl, hi, (toString i : Str), rfl, ?_, ?_⟩
      · rw [e0]; exact Nat.le_trans (Nat.le_trans (Nat.le_add_right _ _) hl) (by rw [sizeLine_eq]; omega)
      · rw [e0]
        refine ⟨x, rfl, ?_, q _ Hs1 H1 g1 (.str _)⟩
        show ((toString i : Str).cps ++ x.cps).size ≤ sizeLine
        rw [Array.size_append]
        exact Nat.le_trans hl (by rw [sizeLine_eq]; omega)
    | _ => cases hf⟩
/-! ### what may raise: fresh lists, tuples -/
structure QL (K : PySem.W.Frag) (xc : Nat → Addr) (X : Cx) (M : List Nat) (W : WX) (e : Expr) (t : TE) (f : Rho → Option (Except Nat (List PyData))) : Prop where
  pe : PE X e t
  sm : ∀ {Hs0 H0 Hs H : Hp} {σ : L2.St} {ρ : Rho} {r : Except Nat (List PyData)} {Q : VK}, SR K M Hs0 H0 Hs H σ ρ → f ρ = some r →
    (match r with
      | .ok ds => ∀ p xs Hs' H', Grow Hs H Hs' H' → H p = none → Hs' p = none → H' p = some (.lst xs) → DdAll K Hs' xs ds → Q (.ref p) H'
      | .error c => ∀ H', Grow Hs H Hs H' → W (.ref (xc c)) none σ H') → t σ H Q
/-- an item of a block, a call that may raise -/
structure LQ (K : PySem.W.Frag) (xc : Nat → Addr) (X : Cx) (M : List Nat) (scope : Scope) (elt : Expr) (te : XK → TE) (f : Rho → Option (Except Nat PyData)) : Prop where
  pe : ∀ (s : Shared) (H : Hp) (C : Addr) (cl : List (Str × Addr)) (fp : List Addr) (Ex : XK), PE (blkQ X s H scope (compEnvC scope cl C X.env) fp Ex) elt (te Ex)
  sm : ∀ {Hs0 H0 Hs H : Hp} {σ : L2.St} {ρ : Rho} {r : Except Nat PyData} {Q : VK} {Ex : XK}, SR K M Hs0 H0 Hs H σ ρ → f ρ = some r →
    (match r with
      | .ok d => ∀ v Hs' H', Grow Hs H Hs' H' → Dd K Hs' v d → Q v H'
      | .error c => ∀ H', Grow Hs H Hs H' → Ex (.ref (xc c)) none H') → te Ex σ H Q
theorem lq_call {x : Str} {k n : Nat} {fA : Addr} {fd : FuncData} {ps : List Str} {scope : Scope} {tr : TA} {fr : Rho → Option (List PyData)} {φ : List PyData → Option (Except Nat PyData)} (F : FnOk X.prog X.w X.K X.mg X.base (L2.CX X.prog X.w) k fA fd ps (spX K n xc φ)) (hr : Room k X.A) (hm : X.mg x = some (.ref fA))
    (hk : PySem.W.keepIn X.K (.ref fA) = true) (hb : Binds X.K fd ps []) (hn : ∀ ds r, φ ds = some r → ds.length = n)
    (ha : ∀ (s : Shared) (H : Hp) (C : Addr) (cl : List (Str × Addr)) (fp : List Addr) (Ex : XK), AD K (blkQ X s H scope (compEnvC scope cl C X.env) fp Ex) M (e :: es) tr fr)
    (hg : ∀ (s : Shared) (H : Hp) (C : Addr) (cl : List (Str × Addr)) (fp : List Addr) (Ex : XK), Gl (blkQ X s H scope (compEnvC scope cl C X.env) fp Ex) x := by intros; rfl) (hdb : (x == ("__debug__" : Str)) = false := by decide)
    (he : ∀ (s : Shared) (H : Hp) (C : Addr) (cl : List (Str × Addr)) (fp : List Addr) (Ex : XK), starEach (e :: es) (blkQ X s H scope (compEnvC scope cl C X.env) fp Ex).env = (false, eval e (blkQ X s H scope (compEnvC scope cl C X.env) fp Ex).env) :: starEach es (blkQ X s H scope (compEnvC scope cl C X.env) fp Ex).env := by intros; rfl)
    (hpl : ∀ (s : Shared) (H : Hp) (C : Addr) (cl : List (Str × Addr)) (fp : List Addr) (Ex : XK), (backTo pos (starEach es (blkQ X s H scope (compEnvC scope cl C X.env) fp Ex).env)).any (·.1) = false := by intros; rfl) :
    LQ K xc X M scope (.Call (.Name x p) (e :: es) [] pos) (fun Ex => tCallS (spX K n xc φ) (fun _ => Ex) tr) (qCall φ fr) :=
  ⟨fun s H C cl fp Ex => pe_callS (X := blkQ X s H scope (compEnvC scope cl C X.env) fp Ex) F hr (hg s H C cl fp Ex) hm hk hb (fun σ => blkQ_passes σ) (ha s H C cl fp Ex).pa hdb (he s H C cl fp Ex) (hpl s H C cl fp Ex),
    fun {Hs0 H0 Hs H σ ρ r Q Ex} R hf q => by
      obtain ⟨ds, h1, h2⟩ := bind_some hf
      refine (ha X.s_0 (fun _ => none) 0 [] [] Ex).sm R h1 fun vs Hs1 H1 g1 d1 => ?_
      refine ⟨by rw [d1.length]; exact hn _ _ h2, Hs1, ds, r, g1.sub, (R.grow g1).tb, d1, h2, ?_⟩
      cases r with
      | error c => exact fun H2 e2 => q H2 (g1.trans e2).calm
      | ok d => exact fun v Hs2 H2 g2 d2 => q v Hs2 H2 (g1.trans g2) d2⟩
def compQ (tg : PyData → Rho → Option Rho) (f : Rho → Option (Except Nat PyData)) (ρ : Rho) : List PyData → Option (Except Nat (List PyData))
  | [] => some (.ok [])
  | d :: ds => (tg d ρ).bind fun ρ1 => (f ρ1).bind fun r => match r with
    | .error c => some (.error c)
    | .ok y => (compQ tg f ρ ds).bind fun z => match z with
      | .error c => some (.error c)
      | .ok ys => some (.ok (y :: ys))
def fLq (vs : List Nat) (h : Rho → Option (List PyData)) (tg : PyData → Rho → Option Rho) (f : Rho → Option (Except Nat PyData)) : Rho → Option (Except Nat (List PyData)) :=
  fun ρ => (h ρ).bind fun ds => if ds.length ≤ 1000000 then compQ tg f (wipeR ρ vs) ds else none
/-- what is said of the whole by what is said of the rest -/
def joinQ (acc : List PyData) : Except Nat (List PyData) → Except Nat (List PyData)
  | .error c => .error c
  | .ok ys => .ok (acc ++ ys)
theorem ql_lc {Rl : YR} {elt tg iter : Expr} {scope : Scope} {wi : TI} {g : TG} {te : XK → TE} {ws : List Nat} {h : Rho → Option (List PyData)} {hg' : PyData → Rho → Option Rho} {fq : Rho → Option (Except Nat PyData)}
    (own : List (Str × Nat)) (hN : X.N.Nodup) (tk : Takes X W) (hi : ID K X M Rl tg iter wi h) (ok : BlkOk X.N X.env.scope scope own)
    (hg : ∀ (s : Shared) (H : Hp) (C : Addr) (cl : List (Str × Addr)) (fp : List Addr) (Ex : XK), GD K (blkQ X s H scope (compEnvC scope cl C X.env) fp Ex) M Rl ws tg g hg')
    (he : LQ K xc X M scope elt te fq) (hst : X.stack = X.env :: X.outer := by rfl) (hfr : X.env.frame = some X.env.locals := by rfl)
    (hws : ws.all (fun i => (own.map (·.2)).contains i) = true := by rfl) (hc : X.calm = true := by rfl) (hs : ∀ x, foldedSetIterable iter X.env x = pure x := by intro _; rfl) :
    QL K xc X M W (.ListComp elt [⟨tg, iter, [], 0⟩] scope pos) (fun σ H Q => tLc wi g tYes (te fun cls d H => W cls d σ H) (own.map (·.2)) σ H Q) (fLq (own.map (·.2)) h hg' fq) := by
  have hws' : ∀ i ∈ ws, i ∈ own.map (·.2) := fun i hi => by
    have := List.all_eq_true.mp hws i hi
    simpa using this
  refine ⟨pe_lcQ (te := fun _ Ex => te Ex) hc hN hst hfr tk hi.pi ok (fun s H C cl fp Ex => (hg s H C cl fp Ex).pg) (fun s H C cl fp Ex => pts_nil) (fun s H C cl fp Ex _ => he.pe s H C cl fp Ex) hs, fun {Hs0 H0 Hs H σ ρ res Q} R hf q => ?_⟩
  obtain ⟨ds, h1, h2⟩ := bind_some hf
  obtain ⟨hl, h2⟩ := ite_get h2
  refine hi.sm R h1 fun J Hs1 H1 g1 Y D hD => ?_
  have nD : Hs1 D = none := g1.sub.free hD
  refine ⟨fun i m H' => m = ds.length - i ∧ i ≤ ds.length ∧ ∃ Hsi acc accd tail, Grow Hs1 H1 Hsi H' ∧ Hsi D = none ∧ H' D = some (.lst acc) ∧ DdAll K Hsi acc accd ∧ acc.length ≤ i ∧ compQ hg' fq (wipeR ρ (own.map (·.2))) (ds.drop i) = some tail ∧ joinQ accd tail = res,
    ⟨ds.length, by simp, Nat.zero_le _, Hs1, [], [], res, Grow.alloc0 g1.sub hD, nD, upd_same, .nil, Nat.le_refl _, h2, by cases res <;> rfl⟩, ?_⟩
  rintro i m H2 ⟨rfl, hle, Hsi, acc, accd, tail, g2, n2, hD2, d2, hacc, hcf, hres⟩
  by_cases hlt : i < ds.length
  · refine .inr ⟨Y.go i H2 (g2.exs.trans g2.sub) hlt, fun H' => i + 1 ≤ ds.length ∧ ∃ Hsi acc accd tail, Grow Hs1 H1 Hsi H' ∧ Hsi D = none ∧ H' D = some (.lst acc) ∧ DdAll K Hsi acc accd ∧ acc.length ≤ i + 1 ∧ compQ hg' fq (wipeR ρ (own.map (·.2))) (ds.drop (i + 1)) = some tail ∧ joinQ accd tail = res,
      fun H' ⟨a, b⟩ => ⟨ds.length - (i + 1), by omega, rfl, a, b⟩, fun x H3 hy => ?_⟩
    obtain ⟨Hs3, g3, d, hd, ad⟩ := Y.yld i H2 x H3 Hsi hlt g2.exs g2.sub hy
    have ed : ds.drop i = d :: ds.drop (i + 1) := by
      rw [List.drop_eq_getElem_cons hlt, (List.getElem?_eq_some_iff.mp hd).2]
    rw [ed] at hcf
    unfold compQ at hcf
    obtain ⟨ρ1, c1, hcf⟩ := bind_some hcf
    obtain ⟨r1, c2, hcf⟩ := bind_some hcf
    have R3 : SR K M Hs0 H0 Hs3 H3 (L2.wipe σ (own.map (·.2))) (wipeR ρ (own.map (·.2))) := (((R.grow g1).wipe _).grow g2).grow g3
    refine (hg X.s_0 (fun _ => none) 0 [] [] fun _ _ _ => True).sm R3 ad c1 fun σ4 R4 w4 => ⟨?_, ?_⟩
    · rw [w4 _ hws']
      exact wipe_wipe σ _
    · unfold L2.tYes
      dsimp only
      rw [if_pos rfl]
      have hD5 : H3 D = some (.lst acc) := g3.ex _ _ hD2
      have n3 : Hs3 D = none := g3.new D n2 (by rw [hD2]; simp)
      refine he.sm R4 c2 ?_
      cases r1 with
      | error c =>
        cases hcf
        subst hres
        exact fun H6 e6 => q H6 (((g1.trans g2).trans g3).trans e6).calm
      | ok y =>
        obtain ⟨z, c4, hcf⟩ := bind_some hcf
        refine fun v Hs6 H6 g6 d6 => ?_
        have hD6 : H6 D = some (.lst acc) := g6.ex _ _ hD5
        have n6 : Hs6 D = none := g6.new D n3 (by rw [hD5]; simp)
        have gg := (g2.trans g3).trans g6
        refine ⟨acc, hD6, szL (by omega), hlt, Hs6, acc ++ [v], accd ++ [y], z, gg.write hD n6 hD6, n6, upd_same, ((d2.mono g3.exs).mono g6.exs).append (.cons d6 .nil), ?_, c4, ?_⟩
        · rw [List.length_append, List.length_singleton]
          omega
        · cases z with
          | error c => cases hcf; exact hres
          | ok ys =>
            cases hcf
            rw [← hres]
            show Except.ok ((accd ++ [y]) ++ ys) = Except.ok (accd ++ (y :: ys))
            rw [List.append_assoc]
            rfl
  · have ei : i = ds.length := by omega
    subst ei
    rw [List.drop_length] at hcf
    unfold compQ at hcf
    cases hcf
    have hres : Except.ok (accd ++ []) = res := hres
    rw [List.append_nil] at hres
    subst hres
    exact .inl ⟨Y.stop _ H2 (g2.exs.trans g2.sub) (Nat.le_refl _), q D acc Hsi H2 (g1.trans g2) (g1.ex.free hD) n2 hD2 d2⟩
@[simp] def fTupQ (f : Rho → Option (Except Nat (List PyData))) : Rho → Option (Except Nat PyData) := fun ρ => (f ρ).bind fun r => match r with
  | .error c => some (.error c)
  | .ok ds => some (.ok (.tuple ds))
/-- tuple([.. that may raise ..]) -/
theorem qd_tupleOf {fq : Rho → Option (Except Nat (List PyData))} (h : QL K xc X M W e te fq) (hm : X.mg "tuple" = none) (hg : Gl X "tuple" := by rfl)
    (he : starEach [e] X.env = (false, eval e X.env) :: starEach [] X.env := by rfl) (hpl : (backTo pos (starEach [] X.env)).any (·.1) = false := by rfl) (hK : X.K = K := by rfl) :
    QD K xc X M W (.Call (.Name "tuple" p) [e] [] pos) (tCB (fun xs H Q => ∃ p ys, xs = [.ref p] ∧ ((SqL K H p ys ∧ NewT Q H ys) ∨ (SqT K H p ys ∧ Q (.ref p) H))) (tCons te tNil)) (fTupQ fq) := by
  subst hK
  refine ⟨pe_callTy call_tupN hg hm boot_tuple (pa_cons h.pe pa_nil he) (by decide) (by decide) he hpl, fun {Hs0 H0 Hs H σ ρ r Q} R hf q => ?_⟩
  obtain ⟨r1, h1, h2⟩ := bind_some hf
  refine h.sm R h1 ?_
  cases r1 with
  | error c =>
    cases h2
    exact fun H' e' => q H' e'
  | ok ds =>
    cases h2
    intro p0 xs Hs1 H1 g1 hp hsp hH d1
    exact ⟨p0, xs, rfl, .inl ⟨sqL_of hH, NewT.of g1 d1 q⟩⟩
@[simp] def fPairQ (f g : Rho → Option (Except Nat PyData)) : Rho → Option (Except Nat PyData) := fun ρ => (f ρ).bind fun r => match r with
  | .error c => some (.error c)
  | .ok x => (g ρ).bind fun r2 => match r2 with
    | .error c => some (.error c)
    | .ok y => some (.ok (.tuple [x, y]))
/-- (a, b), each of which may raise -/
theorem qd_pair {k : Nat} {fq gq : Rho → Option (Except Nat PyData)} (ha : QD K xc X M W a ta fq) (hb : QD K xc X M W b tb gq) (n1 : starEach [a, b] X.env = (false, eval a X.env) :: starEach [b] X.env := by rfl) (n2 : starEach [b] X.env = (false, eval b X.env) :: starEach [] X.env := by rfl) :
    QD K xc X M W (.Tuple [a, b] k pos) (tTupN (tCons ta (tCons tb tNil))) (fPairQ fq gq) :=
  ⟨pe_tupN (pa_cons ha.pe (pa_cons hb.pe pa_nil n2) n1), fun {Hs0 H0 Hs H σ ρ r Q} R hf q => by
    obtain ⟨r1, h1, hf⟩ := bind_some hf
    refine ha.sm R h1 ?_
    cases r1 with
    | error c =>
      cases hf
      exact fun H' e' => q H' e'
    | ok x =>
      obtain ⟨r2, h2, hf⟩ := bind_some hf
      intro v Hs1 H1 g1 d1
      refine hb.sm (R.grow g1) h2 ?_
      cases r2 with
      | error c =>
        cases hf
        exact fun H' e' => q H' (g1.trans e').calm
      | ok y =>
        cases hf
        intro u Hs2 H2 g2 d2
        exact ⟨szM (by show 2 ≤ 1000000; decide), NewT.of (g1.trans g2) (.cons (d1.mono g2.exs) (.cons d2 .nil)) q⟩⟩
end
end DL

namespace DL
open PySem PySem.Spec PyProof.Rows L2
variable [Tabl]
/-! ### a set's table, reckoned ahead: one more hash -/
def simLay (t1 : SetTable) (hs1 : List Int) : Option (SetTable × List Int) :=
  if t1.fits hs1.length = true ∧ SetTable.sizeAbove (SetTable.grown hs1.length) ≤ 100000 then
    (t1.relaid hs1.toArray (SetTable.grown hs1.length)).bind fun r => if r.2.toList.isPerm (List.range hs1.length) = true then some (r.1, r.2.toList.filterMap fun i => hs1[i]?) else none
  else none
def simPut (t : SetTable) (hs : List Int) (h : Int) (j : Nat) : Option (SetTable × List Int) :=
  if (t.put j).1.tooFull = true then simLay (t.put j).1 (hs.take (t.put j).2 ++ h :: hs.drop (t.put j).2)
  else some ((t.put j).1, hs.take (t.put j).2 ++ h :: hs.drop (t.put j).2)
def simStep (t : SetTable) (hs : List Int) (h : Int) : Option (SetTable × List Int) :=
  if t.gaveWay = false ∧ t.fits hs.length = true ∧ hs.length < 4000 then
    match t.probe (fun i => (hs[i]?).getD 0) h (t.probeStart h) with
    | some (.empty j none) => simPut t hs h j
    | _ => none
  else none
def simRun : SetTable → List Int → List Int → Option (SetTable × List Int)
  | t, hs, [] => some (t, hs)
  | t, hs, h :: r => (simStep t hs h).bind fun q => simRun q.1 q.2 r
theorem ite_some2 {α : Type} {c : Prop} [Decidable c] {o : Option α} {b : α} (h : (if c then o else none) = some b) : c ∧ o = some b := by
  by_cases hc : c
  · rw [if_pos hc] at h; exact ⟨hc, h⟩
  · rw [if_neg hc] at h; cases h
theorem simRun_snoc : ∀ (r : List Int) (t : SetTable) (hs : List Int) (h : Int), simRun t hs (r ++ [h]) = (simRun t hs r).bind fun q => simStep q.1 q.2 h
  | [], t, hs, h => by
    show (simStep t hs h).bind (fun q => some (q.1, q.2)) = simStep t hs h
    cases simStep t hs h with
    | none => rfl
    | some q => rfl
  | x :: r, t, hs, h => by
    show (simStep t hs x).bind _ = ((simStep t hs x).bind _).bind _
    cases simStep t hs x with
    | none => rfl
    | some q => exact simRun_snoc r q.1 q.2 h
/-- the set at a stands as reckoned, with the values vs in it -/
structure SimAt (w : World) (h : Heap) (a : Addr) (t : SetTable) (hs : List Int) (vs : List Value) : Prop where
  ob : ∃ (es : Array (Int × Value)) (ep : Nat), (∃ o, h.get? a = some o ∧ o.ExactSet ∧ o.data = .set es ep t) ∧ es.toList.map (·.1) = hs ∧ (es.toList.map (·.2)).Perm vs
  plain : t.plain = true
  led : w.params.followText "set-order" = true ∨ t.led = true
theorem take_map {α β : Type} (f : α → β) (l : List α) (p : Nat) (x : α) : (l.take p ++ x :: l.drop p).map f = (l.map f).take p ++ f x :: (l.map f).drop p := by
  rw [List.map_append, List.map_cons, List.map_take, List.map_drop]
theorem fits_room {t : SetTable} {n : Nat} (h : t.fits n = true) : t.place.size = n ∧ t.fill ≤ t.mask := by
  unfold SetTable.fits at h
  rw [Bool.and_eq_true, beq_iff_eq, decide_eq_true_eq] at h
  exact h
theorem pick_perm {α : Type} {order : List Nat} {l : List α} (h : order.Perm (List.range l.length)) : (order.filterMap fun i => l[i]?).Perm l := by
  have := h.filterMap fun i => l[i]?
  rwa [List.filterMap_getElem?_range_length] at this
theorem pick_map {α β : Type} (f : α → β) (order : List Nat) (l : List α) : (order.filterMap fun i => l[i]?).map f = order.filterMap fun i => (l.map f)[i]? := by
  rw [List.map_filterMap]
  congr 1
  funext i
  rw [List.getElem?_map]
theorem relaid_flags {t t2 : SetTable} {hs : Array Int} {n : Nat} {o : Array Nat} (e : t.relaid hs n = some (t2, o)) : t2.plain = t.plain ∧ t2.led = t.led := by
  unfold SetTable.relaid SetTable.laid at e
  obtain ⟨ow, _, e⟩ := bind_some e
  cases e
  exact ⟨rfl, rfl⟩
section
variable {P : Program} {w : World} {A : Around} {E : Value → Shared → Prop} {s : Shared}
theorem lay_sim {a : Addr} {o : Obj} {es : Array (Int × Value)} {ep : Nat} {t t2 : SetTable} {hs2 : List Int} {vs : List Value} {Q : Unit → Shared → Prop} (ho : s.heap.get? a = some o) (hx : o.ExactSet) (hd : o.data = .set es ep t) (hv : (es.toList.map (·.2)).Perm vs)
    (pl : t.plain = true) (ld : w.params.followText "set-order" = true ∨ t.led = true) (e : simLay t (es.toList.map (·.1)) = some (t2, hs2)) (hz : es.size ≤ 100000)
    (q : ∀ h', Heap.SameBut a s.heap h' → SimAt w h' a t2 hs2 vs → Q () { s with heap := h' }) : wpAny (model P w) A (setRelay a (SetTable.grown es.size)) Q E s := by
  have hl : (es.toList.map (·.1)).length = es.size := by rw [List.length_map, Array.length_toList]
  unfold simLay at e
  rw [hl] at e
  obtain ⟨⟨c1, c2⟩, e⟩ := ite_some2 e
  obtain ⟨⟨t3, order⟩, e1, e⟩ := bind_some e
  obtain ⟨c3, e⟩ := ite_some2 e
  cases e
  have hp := List.isPerm_iff.mp c3
  have he : (es.toList.map (·.1)).toArray = es.map (·.1) := by
    apply Array.toList_inj.mp
    rw [Array.toList_map]
  rw [he] at e1
  have ek : (order.filterMap (es[·]?)).toList = order.toList.filterMap fun i => es.toList[i]? := by
    rw [Array.toList_filterMap]
    congr 1
    funext i
    rw [Array.getElem?_toList]
  have pk : (order.toList.filterMap fun i => es.toList[i]?).Perm es.toList := pick_perm (by rw [Array.length_toList]; exact hp)
  have sz2 : (order.filterMap (es[·]?)).size = es.size := by
    rw [← Array.length_toList, ek, pk.length_eq, Array.length_toList]
  obtain ⟨f1, f2⟩ := relaid_flags e1
  rw [setRelay_eq]
  refine wpAny_bind (wpAny_setState_of ho hd c1 ?_)
  dsimp only
  refine wp_if_neg (by rw [sizeLine_eq]; omega) ?_
  try refine wpAny_bind (wpAny_pure ?_)
  rw [e1]
  dsimp only
  refine wpAny_bind ?_
  refine wp_if_neg (by rw [sz2]; simp) ?_
  try refine wpAny_bind (wpAny_pure ?_)
  refine wpAny_pure ?_
  dsimp only
  refine wpAny_storeSet_of ho hd ?_ (by rw [sz2, sizeLine_eq]; omega)
  refine q _ (Heap.SameBut.update ..) ⟨⟨_, ep + 1, ⟨_, store_at ho hd, ⟨hx.1, hx.2.1, hx.2.2⟩, rfl⟩, ?_, ?_⟩, by rw [f1]; exact pl, by rw [f2]; exact ld⟩
  · rw [ek, pick_map]
  · rw [ek]
    exact (pk.map _).trans hv
theorem add_sim {a : Addr} {t t2 : SetTable} {hs hs2 : List Int} {vs : List Value} (R : SimAt w s.heap a t hs vs) {x : Addr} {k : List Int} (hx : IsT P w s.heap k x) (e : simStep t hs (thash P w k) = some (t2, hs2)) {Q : Bool → Shared → Prop}
    (q : ∀ h', Heap.SameBut a s.heap h' → SimAt w h' a t2 hs2 (.ref x :: vs) → Q true { s with heap := h' }) : wpAny (model P w) A (setAddHashed a (.ref x) (thash P w k)) Q E s := by
  obtain ⟨es, ep, ⟨o, ho, hex, hd⟩, hh, hv⟩ := R.ob
  have hl : es.size = hs.length := by rw [← hh, List.length_map, Array.length_toList]
  unfold simStep at e
  obtain ⟨⟨c1, c2, c3⟩, e⟩ := ite_some2 e
  rw [← hl] at c2 c3
  have hat : (fun (i : Nat) => (hs[i]?).getD 0) = fun (i : Nat) => ((es[i]?).map fun (y : Int × Value) => y.1).getD 0 := by
    funext i
    rw [← hh, List.getElem?_map, Array.getElem?_toList]
  rw [hat] at e
  cases hp : t.probe (fun i => (es[i]?.map (·.1)).getD 0) (thash P w k) (t.probeStart (thash P w k)) with
  | none => rw [hp] at e; cases e
  | some m =>
    rw [hp] at e
    cases m with
    | candidate _ _ _ => cases e
    | empty j d =>
      cases d with
      | some _ => cases e
      | none =>
        replace e : simPut t hs (thash P w k) j = some (t2, hs2) := e
        unfold setAddHashed
        refine wpAny_holding ?_
        rw [show (100000 : Nat) = 99999 + 1 from rfl, setAddHashedIn_succ]
        refine wpAny_bind (wpAny_setState_of ho hd c2 ?_)
        dsimp only
        refine wp_if_neg (by simp [byScan, Value.scannable]) ?_
        try refine wpAny_bind (wpAny_pure ?_)
        unfold setSearch
        rw [show (100000 : Nat) = 99999 + 1 from rfl, setSearchFrom_succ]
        refine wpAny_bind (wpAny_bind (wpAny_setState_of ho hd c2 ?_))
        dsimp only
        refine wp_if_neg (by rw [c1]; decide) ?_
        try refine wpAny_bind (wpAny_pure ?_)
        rw [show (none : Option SetTable.Probe).getD (t.probeStart (thash P w k)) = t.probeStart (thash P w k) from rfl, hp]
        dsimp only
        refine wpAny_pure ?_
        dsimp only
        refine wpAny_bind (wpAny_setState_of ho hd c2 ?_)
        dsimp only
        have pp : (t.put j).1.plain = true := R.plain
        have pl : (t.put j).1.led = t.led := rfl
        unfold simPut at e
        generalize t.put j = pt at e pp pl ⊢
        obtain ⟨t1, p⟩ := pt
        dsimp only at e pp pl ⊢
        first
          | (refine wpAny_bind ?_; refine wp_if_pos pp ?_; refine hashBy_tup hx ?_)
          | refine wp_if_pos pp (wpAny_bind (hashBy_tup hx ?_))
        simp only [if_true]
        have i1 : (SetTable.insertAt es p (thash P w k, Value.ref x)).toList = es.toList.take p ++ (thash P w k, Value.ref x) :: es.toList.drop p := SetTable.toList_insertAt _ _ _
        have i2 : (SetTable.insertAt es p (thash P w k, Value.ref x)).toList.map (·.1) = hs.take p ++ thash P w k :: hs.drop p := by rw [i1, take_map, hh]
        have i3 : ((SetTable.insertAt es p (thash P w k, Value.ref x)).toList.map (·.2)).Perm (.ref x :: vs) := by
          have z : (es.toList.take p ++ (thash P w k, Value.ref x) :: es.toList.drop p).Perm ((thash P w k, Value.ref x) :: es.toList) := put_perm es.toList p _
          rw [i1]
          exact (z.map _).trans (List.Perm.cons _ hv)
        have i4 : (SetTable.insertAt es p (thash P w k, Value.ref x)).size = es.size + 1 := by
          rw [← Array.length_toList, i1, (put_perm es.toList p (thash P w k, Value.ref x)).length_eq, List.length_cons, Array.length_toList]
        generalize SetTable.insertAt es p (thash P w k, Value.ref x) = es1 at i2 i3 i4 ⊢
        refine wpAny_bind (wpAny_storeSet_of ho hd ?_ (by rw [i4, sizeLine_eq]; omega))
        have sb : Heap.SameBut a s.heap (s.heap.update a (Obj.putSet es1 t1)) := Heap.SameBut.update ..
        have ho1 := store_at (es' := es1) (t' := t1) ho hd
        generalize s.heap.update a (Obj.putSet es1 t1) = h1 at sb ho1 ⊢
        have ld : w.params.followText "set-order" = true ∨ t1.led = true := by rw [pl]; exact R.led
        by_cases hf : t1.tooFull = true
        · rw [if_pos hf, ← i2] at e
          first
            | (refine wpAny_bind ?_; refine wp_if_pos (by simp [hf]) ?_)
            | (refine wp_if_pos (by simp [hf]) ?_; refine wpAny_bind ?_)
          rw [← i4]
          refine lay_sim (s := { s with heap := h1 }) ho1 ⟨hex.1, hex.2.1, hex.2.2⟩ rfl i3 pp ld e (by omega) fun h2 sb2 R2 => ?_
          exact wpAny_pure (q h2 (sb.trans sb2) R2)
        · rw [if_neg hf, ← i2] at e
          cases e
          first
            | refine wp_if_neg (by simp [hf]) ?_
            | (refine wpAny_bind ?_; refine wp_if_neg (by simp [hf]) ?_; refine wpAny_pure ?_)
          exact wpAny_pure (q h1 sb ⟨⟨es1, ep + 1, ⟨_, ho1, ⟨hex.1, hex.2.1, hex.2.2⟩, rfl⟩, rfl, i3⟩, pp, ld⟩)
end

/-! ### the same with less work: the slots as bits, the hashes by their slots -/
def ffree (m bits : Nat) : Nat → SetTable.Probe → Option Nat
  | 0, _ => none
  | f + 1, p => if bits.testBit p.j = true then ffree m bits f (adv m p) else some p.j
def fins (j : Nat) (h : Int) : List (Nat × Int) → List (Nat × Int)
  | [] => [(j, h)]
  | x :: r => if x.1 < j then x :: fins j h r else (j, h) :: x :: r
def bitsOf : List Nat → Nat
  | [] => 0
  | j :: r => bitsOf r ||| 2 ^ j
structure FS where
  mask : Nat
  bits : Nat
  n : Nat
  tab : List (Nat × Int)
def liveL : Nat → List (Option Nat) → List (Nat × Nat)
  | _, [] => []
  | j, none :: r => liveL (j + 1) r
  | j, some k :: r => (j, k) :: liveL (j + 1) r
def fpick (hs1 : List Int) (M : Nat) (live : List (Nat × Nat)) : Option FS :=
  if (live.map (·.2)).isPerm (List.range hs1.length) = true ∧ ((live.map (·.2)).filterMap fun i => hs1[i]?).length = live.length ∧ (live.map (·.1)).Pairwise (· < ·) then some ⟨M, bitsOf (live.map (·.1)), hs1.length, (live.map (·.1)).zip ((live.map (·.2)).filterMap fun i => hs1[i]?)⟩ else none
def frelay (hs1 : List Int) (M : Nat) : Option FS :=
  (SetTable.layClean M hs1.toArray).bind fun owner => if owner.size = M + 1 then fpick hs1 M (liveL 0 owner.toList) else none
def fstep (S : FS) (h : Int) : Option FS :=
  if S.mask % 2 = 1 ∧ S.n < 4000 ∧ S.n + 1 ≤ S.mask ∧ (S.tab.all fun x => x.2 != h) = true ∧ SetTable.sizeAbove (SetTable.grown (S.n + 1)) ≤ 100000 then
    (ffree S.mask S.bits 150 (runAt S.mask (SetTable.bits h % (S.mask + 1)) (SetTable.bits h))).bind fun j =>
      if (S.n + 1) * 5 ≥ S.mask * 3 then frelay ((fins j h S.tab).map (·.2)) (SetTable.sizeAbove (SetTable.grown (S.n + 1)) - 1)
      else some ⟨S.mask, S.bits ||| 2 ^ j, S.n + 1, fins j h S.tab⟩
  else none
def frun : FS → List Int → Option FS
  | S, [] => some S
  | S, h :: r => (fstep S h).bind fun S2 => frun S2 r
structure FRel (S : FS) (t : SetTable) (hs : List Int) : Prop where
  mask : t.mask = S.mask
  dm : t.dummies = #[]
  place : t.place.toList = S.tab.map (·.1)
  hs : hs = S.tab.map (·.2)
  ris : Ris (S.tab.map (·.1))
  bits : ∀ j, S.bits.testBit j = decide (j ∈ S.tab.map (·.1))
  n : S.n = S.tab.length
theorem ffree_spec {m bits : Nat} : ∀ {f : Nat} {p : SetTable.Probe} {j : Nat}, ffree m bits f p = some j → ∃ K, K < f ∧ (nth m p K).j = j ∧ bits.testBit j = false ∧ ∀ k, k < K → bits.testBit (nth m p k).j = true
  | 0, _, _, e => by cases e
  | f + 1, p, j, e => by
    unfold ffree at e
    by_cases c : bits.testBit p.j = true
    · rw [if_pos c] at e
      obtain ⟨K, h1, h2, h3, h4⟩ := ffree_spec e
      refine ⟨K + 1, by omega, h2, h3, fun k hk => ?_⟩
      cases k with
      | zero => exact c
      | succ k => exact h4 k (by omega)
    · rw [if_neg c] at e
      cases e
      exact ⟨0, by omega, rfl, by simpa using c, fun k hk => absurd hk (by omega)⟩
theorem fins_eq {j : Nat} {h : Int} : ∀ {tab : List (Nat × Int)} {p : Nat}, p ≤ tab.length → (∀ i x, tab[i]? = some x → i < p → x.1 < j) → (∀ i x, tab[i]? = some x → p ≤ i → j ≤ x.1) → fins j h tab = tab.take p ++ (j, h) :: tab.drop p
  | [], p, hp, _, _ => by
    simp [fins]
  | x :: r, 0, _, _, c3 => by
    have := c3 0 x rfl (Nat.zero_le _)
    unfold fins
    rw [if_neg (by omega)]
    rfl
  | x :: r, p + 1, hp, c2, c3 => by
    have := c2 0 x rfl (by omega)
    unfold fins
    rw [if_pos this, fins_eq (p := p) (by simpa using hp) (fun i y hy hi => c2 (i + 1) y hy (by omega)) (fun i y hy hi => c3 (i + 1) y hy (by omega))]
    rfl
theorem fins_mem {j : Nat} {h : Int} {x : Nat × Int} : ∀ {tab : List (Nat × Int)}, x ∈ fins j h tab ↔ x = (j, h) ∨ x ∈ tab
  | [] => by simp [fins]
  | y :: r => by
    unfold fins
    split
    · rw [List.mem_cons, fins_mem, List.mem_cons]
      constructor
      · rintro (h | h | h)
        · exact .inr (.inl h)
        · exact .inl h
        · exact .inr (.inr h)
      · rintro (h | h | h)
        · exact .inr (.inl h)
        · exact .inl h
        · exact .inr (.inr h)
    · rw [List.mem_cons]
theorem fins_ris {j : Nat} {h : Int} : ∀ {tab : List (Nat × Int)}, Ris (tab.map (·.1)) → j ∉ tab.map (·.1) → Ris ((fins j h tab).map (·.1))
  | [], _, _ => by
    unfold Ris
    simp [fins]
  | x :: r, hr, hj => by
    have hr' : Ris (r.map (·.1)) := (List.pairwise_cons.mp hr).2
    have h1 := (List.pairwise_cons.mp hr).1
    rw [List.map_cons, List.mem_cons, not_or] at hj
    unfold fins
    split
    · rename_i c
      refine List.pairwise_cons.mpr ⟨fun y hy => ?_, fins_ris hr' hj.2⟩
      obtain ⟨z, hz, rfl⟩ := List.mem_map.mp hy
      rcases fins_mem.mp hz with rfl | hz
      · exact c
      · exact h1 _ (List.mem_map_of_mem hz)
    · rename_i c
      refine List.pairwise_cons.mpr ⟨fun y hy => ?_, hr⟩
      have hx : j < x.1 := by omega
      rcases List.mem_cons.mp hy with rfl | hy
      · exact hx
      · exact Nat.lt_trans hx (h1 y hy)
theorem fins_len {j : Nat} {h : Int} : ∀ {tab : List (Nat × Int)}, (fins j h tab).length = tab.length + 1
  | [] => rfl
  | x :: r => by
    unfold fins
    split
    · rw [List.length_cons, fins_len, List.length_cons]
    · rfl
theorem bitsOf_iff : ∀ (l : List Nat) (i : Nat), (bitsOf l).testBit i = decide (i ∈ l)
  | [], i => by simp [bitsOf]
  | j :: r, i => by
    unfold bitsOf
    rw [Nat.testBit_or, bitsOf_iff r, Nat.testBit_two_pow]
    by_cases h1 : i ∈ r <;> by_cases h2 : j = i <;> simp [h1, h2, eq_comm]
theorem liveL_eq : ∀ (l : List (Option Nat)) (j : Nat), liveL j l = (List.range l.length).filterMap fun i => (l.getD i none).map (j + i, ·)
  | [], _ => rfl
  | o :: r, j => by
    have ih := liveL_eq r (j + 1)
    rw [List.length_cons, List.range_succ_eq_map, List.filterMap_cons, List.filterMap_map]
    have e : ((fun i => ((o :: r).getD i none).map (fun x => (j + i, x))) ∘ Nat.succ) = fun i => (r.getD i none).map (fun x => (j + 1 + i, x)) := by
      funext i
      show ((o :: r).getD (i + 1) none).map _ = _
      rw [List.getD_cons_succ, show j + Nat.succ i = j + 1 + i by omega]
    rw [e, ← ih]
    cases o <;> rfl
theorem live_arr {owner : Array (Option Nat)} {M : Nat} (h : owner.size = M + 1) : ((List.range (M + 1)).filterMap fun j => (owner.getD j none).map (j, ·)) = liveL 0 owner.toList := by
  rw [liveL_eq, Array.length_toList, h]
  congr 1
  funext j
  rw [Nat.zero_add, Array.getD_eq_getD_getElem?, List.getD_eq_getElem?_getD, Array.getElem?_toList]

theorem fstep_sim {S S2 : FS} {t : SetTable} {hs : List Int} {h : Int} (R : FRel S t hs) (e : fstep S h = some S2) : ∃ t2 hs2, simStep t hs h = some (t2, hs2) ∧ FRel S2 t2 hs2 := by
  unfold fstep at e
  obtain ⟨⟨c1, c2, c3, c4, c5⟩, e⟩ := ite_some2 e
  obtain ⟨j, e1, e⟩ := bind_some e
  obtain ⟨K, hK, ej, hb, hbk⟩ := ffree_spec e1
  have hlen : hs.length = S.n := by rw [R.hs, List.length_map, R.n]
  have hpl : t.place.size = hs.length := by rw [← Array.length_toList, R.place, R.hs, List.length_map, List.length_map]
  have hris : Ris t.place.toList := by rw [R.place]; exact R.ris
  have hgw : t.gaveWay = false := by
    unfold SetTable.gaveWay
    rw [R.mask, c1]
    rfl
  have hfit : t.fits hs.length = true := by
    unfold SetTable.fits SetTable.fill
    rw [R.dm, Bool.and_eq_true, beq_iff_eq, decide_eq_true_eq, R.mask, hpl]
    exact ⟨rfl, by show hs.length + 0 ≤ _; omega⟩
  have hj : j ∉ S.tab.map (·.1) := by
    have := R.bits j
    rw [hb] at this
    simpa using this.symm
  have hnew : ∀ x ∈ hs, x ≠ h := fun x hx z => by
    rw [R.hs] at hx
    obtain ⟨y, hy, rfl⟩ := List.mem_map.mp hx
    have := List.all_eq_true.mp c4 y hy
    simp [z] at this
  have hpr : t.probe (fun i => (hs[i]?).getD 0) h (t.probeStart h) = some (.empty j none) := by
    have hst : t.probeStart h = runAt S.mask (SetTable.bits h % (S.mask + 1)) (SetTable.bits h) := by
      rw [start_run, R.mask]
    unfold SetTable.probe
    rw [hst]
    have sp := go_spec t hris R.dm (fun i => (hs[i]?).getD 0) h (10 * SetTable.turns t.mask) K (runAt S.mask (SetTable.bits h % (S.mask + 1)) (SetTable.bits h)) rfl (by unfold SetTable.turns; omega)
      (fun k hk => by
        have b := hbk k hk
        rw [R.bits, decide_eq_true_iff] at b
        rw [R.place, R.mask]
        exact b)
      (by rw [R.mask, ej, R.place]; exact hj)
    rcases sp with ⟨k, i, h1, h2, h3, _⟩ | ⟨_, h2⟩
    · exfalso
      have hi : i < hs.length := by
        have := (List.getElem?_eq_some_iff.mp h2).1
        rw [Array.length_toList] at this
        omega
      rw [List.getElem?_eq_getElem hi] at h3
      exact hnew _ (List.getElem_mem hi) h3
    · rw [h2, R.mask, ej]
  have hcut := below_cut hris j
  have q2 : (t.put j).2 = SetTable.below t.place j := rfl
  obtain ⟨d1, d2, d3⟩ := hcut
  have hpj : (t.put j).2 ≤ S.tab.length := by
    rw [q2]
    have : t.place.toList.length = S.tab.length := by rw [R.place, List.length_map]
    first
      | omega
      | (rw [Array.length_toList] at this; omega)
  have hat : ∀ i (x : Nat × Int), S.tab[i]? = some x → t.place.toList[i]? = some x.1 := fun i x hx => by
    rw [R.place, List.getElem?_map, hx]
    rfl
  have ef : fins j h S.tab = S.tab.take (t.put j).2 ++ (j, h) :: S.tab.drop (t.put j).2 := fins_eq hpj (fun i x hx hi => d2 i x.1 (hat i x hx) hi) (fun i x hx hi => d3 i x.1 (hat i x hx) hi)
  have g1 : (fins j h S.tab).map (·.1) = (t.put j).1.place.toList := by
    rw [ef, take_map, put_place, R.place]
    rfl
  have g2 : (fins j h S.tab).map (·.2) = hs.take (t.put j).2 ++ h :: hs.drop (t.put j).2 := by
    rw [ef, take_map, R.hs]
  have g3 := put_dm R.dm j
  have g4 : (t.put j).1.mask = S.mask := R.mask
  have gl : (t.put j).1.place.size = S.n + 1 := by
    rw [← Array.length_toList, ← g1, List.length_map, fins_len, R.n]
  have gf : (t.put j).1.tooFull = decide ((S.n + 1) * 5 ≥ S.mask * 3) := by
    unfold SetTable.tooFull SetTable.fill
    rw [g3, g4, gl]
    rfl
  have hsim : simStep t hs h = simPut t hs h j := by
    unfold simStep
    rw [if_pos ⟨hgw, hfit, by omega⟩, hpr]
  rw [hsim]
  unfold simPut
  rw [gf, ← g2]
  by_cases hf : (S.n + 1) * 5 ≥ S.mask * 3
  · rw [if_pos hf] at e
    rw [if_pos (by simpa using hf)]
    have hl1 : ((fins j h S.tab).map (·.2)).length = S.n + 1 := by rw [List.length_map, fins_len, R.n]
    generalize (fins j h S.tab).map (·.2) = hs1 at e hl1
    unfold frelay at e
    obtain ⟨owner, e2, e⟩ := bind_some e
    obtain ⟨c6, e⟩ := ite_some2 e
    unfold fpick at e
    obtain ⟨⟨c7, c8, c9⟩, e⟩ := ite_some2 e
    cases e
    unfold simLay
    rw [hl1, if_pos ⟨by
      unfold SetTable.fits SetTable.fill
      rw [g3, g4, gl, Bool.and_eq_true, beq_iff_eq, decide_eq_true_eq]
      exact ⟨rfl, by show S.n + 1 + 0 ≤ _; omega⟩, c5⟩]
    have el := live_arr c6
    rw [← el] at c7 c8 c9 ⊢
    generalize hL : ((List.range (SetTable.sizeAbove (SetTable.grown (S.n + 1)) - 1 + 1)).filterMap fun j => (owner.getD j none).map (j, ·)) = L at c7 c8 c9 ⊢
    have er : (t.put j).1.relaid hs1.toArray (SetTable.grown (S.n + 1)) = some ({ mask := SetTable.sizeAbove (SetTable.grown (S.n + 1)) - 1, place := (L.map (·.1)).toArray, dummies := #[], finger := (t.put j).1.finger, led := (t.put j).1.led, moves := (t.put j).1.movedTo (SetTable.sizeAbove (SetTable.grown (S.n + 1)) - 1), plain := (t.put j).1.plain }, (L.map (·.2)).toArray) := by
      unfold SetTable.relaid SetTable.laid
      rw [e2, ← hL]
      rfl
    rw [er, Option.bind_some]
    rw [hl1] at c7
    refine ⟨_, _, if_pos c7, ?_⟩
    have z1 : ((L.map (·.1)).zip ((L.map (·.2)).filterMap fun i => hs1[i]?)).map (·.1) = L.map (·.1) := List.map_fst_zip (by rw [c8, List.length_map]; exact Nat.le_refl _)
    have z2 : ((L.map (·.1)).zip ((L.map (·.2)).filterMap fun i => hs1[i]?)).map (·.2) = (L.map (·.2)).filterMap fun i => hs1[i]? := List.map_snd_zip (by rw [c8, List.length_map]; exact Nat.le_refl _)
    refine ⟨rfl, rfl, ?_, ?_, ?_, fun i => ?_, ?_⟩
    · exact z1.symm
    · exact z2.symm
    · rw [z1]; exact c9
    · rw [z1]; exact bitsOf_iff _ _
    · have := (List.isPerm_iff.mp c7).length_eq
      rw [List.length_map, List.length_range] at this
      show S.n + 1 = _
      rw [List.length_zip, c8, List.length_map]
      omega
  · rw [if_neg hf] at e
    cases e
    rw [if_neg (by simpa using hf)]
    refine ⟨_, _, rfl, ⟨g4, g3, g1.symm, rfl, fins_ris R.ris hj, fun i => ?_, by rw [fins_len, R.n]⟩⟩
    show (S.bits ||| 2 ^ j).testBit i = _
    rw [Nat.testBit_or, R.bits, Nat.testBit_two_pow]
    have : (i ∈ (fins j h S.tab).map (·.1)) ↔ (i ∈ S.tab.map (·.1) ∨ j = i) := by
      rw [List.mem_map, List.mem_map]
      constructor
      · rintro ⟨x, hx, rfl⟩
        rcases fins_mem.mp hx with rfl | hx
        · exact .inr rfl
        · exact .inl ⟨x, hx, rfl⟩
      · rintro (⟨x, hx, rfl⟩ | rfl)
        · exact ⟨x, fins_mem.mpr (.inr hx), rfl⟩
        · exact ⟨(j, h), fins_mem.mpr (.inl rfl), rfl⟩
    rw [← Bool.decide_or]
    exact decide_eq_decide.mpr this.symm
theorem frun_sim : ∀ {r : List Int} {S S2 : FS} {t : SetTable} {hs : List Int}, FRel S t hs → frun S r = some S2 → ∃ t2 hs2, simRun t hs r = some (t2, hs2) ∧ FRel S2 t2 hs2
  | [], S, S2, t, hs, R, e => by
    cases e
    exact ⟨t, hs, rfl, R⟩
  | h :: r, S, S2, t, hs, R, e => by
    obtain ⟨S1, e1, e2⟩ := bind_some (show ((fstep S h).bind fun S2 => frun S2 r) = some S2 from e)
    obtain ⟨t1, hs1, e3, R1⟩ := fstep_sim R e1
    obtain ⟨t2, hs2, e4, R2⟩ := frun_sim R1 e2
    refine ⟨t2, hs2, ?_, R2⟩
    show ((simStep t hs h).bind fun q => simRun q.1 q.2 r) = _
    rw [e3]
    exact e4
theorem frel_new (b : Bool) : FRel ⟨7, 0, 0, []⟩ (.fresh 0 0 b) [] := ⟨rfl, rfl, rfl, rfl, List.Pairwise.nil, fun j => by simp, rfl⟩
def hashT (k : List Int) : Int := reduceHash (Builtin.Tuple.tupleHashOf (k.map hashInt))
theorem thash_eq (P : Program) (w : World) (k : List Int) : thash P w k = hashT k := rfl
/-- set() takes these tuples of ints one after the other -/
def setTakes (kss : List (List Int)) : Bool := (frun ⟨7, 0, 0, []⟩ (kss.map hashT)).any fun S => decide (S.n ≤ S.mask) && decide (S.n < 4000)

/-! ### the set at work -/
theorem simRun_some : ∀ {r q : List Int} {t : SetTable} {hs : List Int} {u : SetTable × List Int}, simRun t hs (r ++ q) = some u → ∃ v, simRun t hs r = some v
  | [], _, t, hs, _, _ => ⟨_, rfl⟩
  | h :: r, q, t, hs, u, e => by
    obtain ⟨a, e1, e2⟩ := bind_some (show ((simStep t hs h).bind fun z => simRun z.1 z.2 (r ++ q)) = some u from e)
    obtain ⟨v, e3⟩ := simRun_some e2
    refine ⟨v, ?_⟩
    show ((simStep t hs h).bind fun z => simRun z.1 z.2 r) = _
    rw [e1]
    exact e3
section
variable {P : Program} {w : World} {A : Around} {E : Value → Shared → Prop} {s : Shared}
theorem SimAt.keep {h h' : Heap} {a : Addr} {t : SetTable} {hs : List Int} {vs : List Value} (R : SimAt w h a t hs vs) (k : ∀ o, h.get? a = some o → h'.get? a = some o) : SimAt w h' a t hs vs := by
  obtain ⟨es, ep, ⟨o, ho, r⟩, q⟩ := R.ob
  exact ⟨⟨es, ep, ⟨o, k o ho, r⟩, q⟩, R.plain, R.led⟩
/-- what stands in the set after the first i -/
def Upto (w : World) (h : Heap) (a : Addr) (ks : List (Addr × List Int)) (i : Nat) : Prop := ∃ t hs vs, simRun (.fresh 0 0 (!w.params.followText "set-order")) [] ((ks.take i).map fun p => hashT p.2) = some (t, hs) ∧ SimAt w h a t hs vs ∧ vs.Perm ((ks.take i).map fun p => Value.ref p.1)
theorem upto_loop {I : Addr} {fp wr : List Addr} {G : Array GenState → Array GenState → Prop} {n : Nat} {Pv : Nat → Value → Prop} {St : Nat → Shared → Prop} {R : Result → Shared → Prop} (W : WalksS P w A.in1 I fp wr G n Pv St) (S : Addr) (hSf : S ∉ fp) (ks : List (Addr × List Int)) (hn : n = ks.length)
    (hsim : ∃ u, simRun (.fresh 0 0 (!w.params.followText "set-order")) [] (ks.map fun p => hashT p.2) = some u) (hval : ∀ i v, Pv i v → ∃ p, ks[i]? = some p ∧ v = .ref p.1) (h0 : Heap) (hk : ∀ p ∈ ks, IsT P w h0 p.2 p.1) (hS0 : h0.get? S = none) (hw0 : ∀ b ∈ wr, h0.get? b = none) (hu : A.in1.units < cLine) :
    ∀ (k i : Nat) (s : Shared), n - i = k → i ≤ n → St i s → (∀ b o, h0.get? b = some o → s.heap.get? b = some o) → Upto w s.heap S ks i →
      (∀ s', Moved (S :: wr) G s s' → Upto w s'.heap S ks n → (∀ b o, h0.get? b = some o → s'.heap.get? b = some o) → R (.ok (.ret .none)) s') →
      codeAny (model P w) A (.builtin "set.update.loop" ⟨[.ref S, .ref I], []⟩) R s := by
  have nS : S ∉ wr := fun z => hSf (W.sub _ z)
  have up : ∀ b ∈ wr, b ∈ S :: wr := fun b z => List.mem_cons_of_mem _ z
  have still : ∀ {s s' : Shared}, Moved wr G s s' → (∀ b o, h0.get? b = some o → s.heap.get? b = some o) → ∀ b o, h0.get? b = some o → s'.heap.get? b = some o := fun m kp b o e => m.heap b o (fun z => by rw [hw0 b z] at e; cases e) (kp b o e)
  intro k
  induction k with
  | zero =>
    intro i s hk' hi hst kp U done
    have : i = n := by omega
    subst this
    refine codeAny_builtin F.entry_set_update_loop ?_
    rw [Around.under_plainId F.plain_set_update_loop _]
    show wpAny _ A.in1 (pyNext (.ref I) >>= _) _ _ s
    refine wpAny_bind (W.done s _ _ hst fun s' m => ?_)
    show wpAny _ A.in1 (ret Value.none) _ _ s'
    obtain ⟨t, hs, vs, e, r, p⟩ := U
    exact wpAny_pure (done s' (m.mono up) ⟨t, hs, vs, e, r.keep fun o z => m.heap S o nS z, p⟩ (still m kp))
  | succ k ih =>
    intro i s hk' hi hst kp U done
    have hlt : i < n := by omega
    refine codeAny_builtin F.entry_set_update_loop ?_
    rw [Around.under_plainId F.plain_set_update_loop _]
    show wpAny _ A.in1 (pyNext (.ref I) >>= _) _ _ s
    refine wpAny_bind (W.item i s _ _ hlt hst fun v s' hP hst' m => ?_)
    obtain ⟨p, hp, rfl⟩ := hval i v hP
    have kp' := still m kp
    obtain ⟨t, hs, vs, e, r, pm⟩ := U
    have r' : SimAt w s'.heap S t hs vs := r.keep fun o z => m.heap S o nS z
    have hx : IsT P w s'.heap p.2 p.1 := isT_keep (hk p (List.mem_of_getElem? hp)) kp'
    have tn : ks.take (i + 1) = ks.take i ++ [p] := by rw [List.take_succ, hp] <;> rfl
    have next : ∃ t2 hs2, simStep t hs (thash P w p.2) = some (t2, hs2) ∧ simRun (.fresh 0 0 (!w.params.followText "set-order")) [] ((ks.take (i + 1)).map fun p => hashT p.2) = some (t2, hs2) := by
      obtain ⟨u, hu⟩ := hsim
      rw [← List.take_append_drop (i + 1) ks, List.map_append] at hu
      obtain ⟨⟨t2, hs2⟩, e2⟩ := simRun_some hu
      refine ⟨t2, hs2, ?_, e2⟩
      rw [tn, List.map_append, List.map_cons, List.map_nil, simRun_snoc, e] at e2
      exact e2
    obtain ⟨t2, hs2, e2, e3⟩ := next
    show wpAny _ A.in1 (holding [Value.ref p.1] (setAdd S (.ref p.1)) >>= _) _ _ s'
    refine wpAny_bind (wpAny_holding ?_)
    unfold setAdd
    refine wpAny_holding (wpAny_bind (wpAny_pyHash_tuple hu hx ?_))
    refine add_sim (s := { s' with toks := s'.toks + (p.2.length + 1) }) r' hx e2 fun h' sb R2 => ?_
    have kp2 : ∀ b o, h0.get? b = some o → h'.get? b = some o := fun b o z => (sb.2 b (fun y => by rw [y, hS0] at z; cases z)).trans (kp' b o z)
    have U2 : Upto w h' S ks (i + 1) := ⟨t2, hs2, _, e3, R2, by
      rw [tn, List.map_append]
      exact (List.Perm.cons _ pm).trans (List.perm_append_singleton _ _).symm⟩
    refine wpAny_pure ⟨plainId_quiet F.plain_set_update_loop _, ih (i + 1) _ (by omega) hlt (W.frame _ s' _ _ hst' (Nat.le_add_right _ _) fun b hb o z => ?_) kp2 U2 fun s'' m2 U3 kp3 => ?_⟩
    · rw [sb.2 b fun y => hSf (by rw [← y]; exact hb)]
      exact z
    · refine done s'' (Moved.trans W.gtrans ((m.mono up).then_heap (Nat.le_add_right _ _) fun b o hb z => ?_) m2) U3 kp3
      rw [sb.2 b fun y => hb (by rw [y]; exact List.mem_cons_self)]
      exact z
theorem upto_new {h : Heap} {a : Addr} (ks : List (Addr × List Int)) (ho : h.get? a = some (setOb w)) : Upto w h a ks 0 :=
  ⟨_, [], [], rfl, ⟨⟨#[], 0, ⟨_, ho, ⟨rfl, rfl, rfl⟩, rfl⟩, rfl, List.Perm.nil⟩, rfl, by
    show _ ∨ (!w.params.followText "set-order") = true
    cases w.params.followText "set-order"
    · exact .inr rfl
    · exact .inl rfl⟩, List.Perm.nil⟩
/-- set(a list of tuples of ints) -/
theorem call_setT {q : Addr} {vs : Array Value} (ks : List (Addr × List Int)) {Q : Value → Shared → Prop} (calm : A.handled = none) (isL : s.heap.IsList q vs) (hin : vs.toList = ks.map fun p => Value.ref p.1) (hk : ∀ p ∈ ks, IsT P w s.heap p.2 p.1)
    (hsim : ∃ u, simRun (.fresh 0 0 (!w.params.followText "set-order")) [] (ks.map fun p => hashT p.2) = some u) (hu : A.units + 3 < cLine)
    (done : ∀ (hp : Heap) (t : Nat), Upto w hp s.heap.objs.size ks ks.length → (∀ b u, s.heap.get? b = some u → hp.get? b = some u) → Q (.ref s.heap.objs.size) { s with heap := hp, toks := t }) :
    wpAny (model P w) A (call (.type "set") [.ref q]) Q E s := by
  have nv : vs.size = ks.length := by
    have z := congrArg List.length hin
    rwa [Array.length_toList, List.length_map] at z
  obtain ⟨_, _, mro⟩ := F.called_set.mro
  have mk := F.called_set.made
  have sb := F.called_set.sub
  have nt := F.called_set.notType
  have cc := F.called_set.canCreate
  have tc := F.typeCall_set_1 (.ref q)
  refine wpAny_call (codeAny_of_tree ?_)
  show wpAny _ _ (callAny (.type "set") _) _ _ _
  refine wpAny_pure ⟨Code.quiet_builtin _ (by decide +kernel), codeAny_builtin F.entry_type_call ?_⟩
  rw [Around.under_plain (weight_type_call_type "set" [.ref q] []) rfl]
  repeat (any_goals (first | assumption | wp_step))
  refine codeAny_mono (code_set_led1 (.ref q) (E := E) (Q₁ := fun v s1 => v = .ref s.heap.objs.size ∧ s1 = { s with heap := s.heap.push (setOb w) }) ⟨rfl, rfl⟩) fun r s1 hr => ?_
  cases r with
  | error e => exact hr
  | ok fl =>
    cases fl with
    | ret v =>
      obtain ⟨rfl, rfl⟩ := hr
      have at0 : (s.heap.push (setOb w)).get? s.heap.objs.size = some (setOb w) := Heap.get?_push_size _ rfl
      have ty0 : Shared.TypeIs { s with heap := s.heap.push (setOb w) } (.ref s.heap.objs.size) "set" := ⟨_, at0, rfl⟩
      have lk := F.called_set.init.lookup
      have bd := F.called_set.init.bind (.ref s.heap.objs.size)
      repeat (any_goals (first | assumption | wp_step))
      refine codeAny_mono (codeAny_call_builtin (R := wants (fun r s2 => r = .none ∧ ∃ hp t, s2 = { s with heap := hp, toks := t } ∧ Upto w hp s.heap.objs.size ks ks.length ∧ (∀ b u, s.heap.get? b = some u → hp.get? b = some u)) E)
        F.called_set.init.plain F.entry_set_init (check_set_init_1 ty0 ?_)) fun r2 s2 hr2 => ?_
      · obtain ⟨⟨oc, od, odt, osl⟩, ho, e1, n0, e2⟩ := isL
        simp only at e1 e2
        subst e1 e2
        have ho1 : (s.heap.push (setOb w)).get? q = some { cls := .type "list", dict := od, data := .seq vs n0, slots := osl } := Heap.get?_push_of_some _ ho
        have ls := F.sub_list_set
        have lf := F.sub_list_frozenset
        have nd : (Value.type "list" == Value.type "dict") = false := by decide
        have isL1 : (s.heap.push (setOb w)).IsList q vs := ⟨_, ho1, rfl, n0, rfl⟩
        unfold Builtin.«set.__init__» noKeywords Builtin.Frozenset.updateFrom
        generalize gi : pyIter = it
        wp_walk
        subst gi
        refine wpAny_pyIter_list isL1 (wpAny_bind (wpAny_runValue ?_))
        have ql : q < s.heap.objs.size := Heap.lt_size ho
        have zz : (s.heap.push (setOb w)).objs.size = s.heap.objs.size + 1 := Heap.size_push ..
        have q1 : q ≠ (s.heap.push (setOb w)).objs.size := by rw [zz]; exact Nat.ne_of_lt (Nat.lt_succ_of_lt ql)
        have calm3 : A.in1.in1.in1.handled = none := by simp [calm]
        have out : s.heap.objs.size ∉ [(s.heap.push (setOb w)).objs.size, q] := by
          rw [zz]
          intro hm
          rcases List.mem_cons.mp hm with z | z
          · exact Nat.ne_of_lt (Nat.lt_succ_self _) z
          · exact Nat.ne_of_gt ql (List.mem_singleton.mp z)
        have val : ∀ (i : Nat) (v : Value), vs[i]? = some v → ∃ p, ks[i]? = some p ∧ v = .ref p.1 := fun i v hv => by
          have z : vs.toList[i]? = some v := by rw [Array.getElem?_toList]; exact hv
          rw [hin, List.getElem?_map] at z
          cases hq : ks[i]? with
          | none => rw [hq] at z; cases z
          | some p =>
            rw [hq] at z
            exact ⟨p, rfl, (Option.some.inj z).symm⟩
        have far : ∀ b, s.heap.objs.size ≤ b → s.heap.get? b = none := fun b hb => by
          cases z : s.heap.get? b with
          | none => rfl
          | some o => exact absurd (Nat.lt_of_lt_of_le (Heap.lt_size z) hb) (Nat.lt_irrefl _)
        refine upto_loop ((Walks.list calm3 _ q q1 vs).toS) s.heap.objs.size out ks nv hsim val s.heap hk (far _ (Nat.le_refl _)) (fun b hb => far b (by
          rw [List.mem_singleton.mp hb, zz]
          exact Nat.le_succ _)) hu (vs.size - 0) 0 _ (by omega) (Nat.zero_le _) ⟨⟨_, Heap.get?_push_size _ rfl, rfl, rfl⟩, isL1.push _⟩ (fun b o e => Heap.get?_push_of_some _ (Heap.get?_push_of_some _ e)) ?start ?fin
        case start => exact upto_new ks (Heap.get?_push_of_some _ at0)
        case fin =>
          intro s' mv U kp
          obtain ⟨hp, g, d, t, os⟩ := s'
          have eg : g = s.gens := mv.gens
          have ed : d = s.drawn := mv.drawn
          have eo : os = s.os := mv.os
          subst eg ed eo
          show wpAny _ _ _ _ _ _
          refine wpAny_pure ?_
          show wpAny _ _ (ret Value.none) _ _ _
          rw [nv] at U
          exact wpAny_pure ⟨rfl, hp, t, rfl, U, kp⟩
      · cases r2 with
        | error e => exact hr2
        | ok fl2 =>
          cases fl2 with
          | ret r =>
            obtain ⟨rfl, hp, t, rfl, U, hk⟩ := hr2
            repeat (any_goals (first | assumption | wp_step))
            exact done _ _ U hk
          | _ => exact hr2.elim
    | _ => exact hr.elim
end
end DL

namespace DL
open PySem PySem.Spec PyProof.Rows L2
variable [Tabl]
/-! ### sorted of such a set -/
theorem perm_back {α β : Type} {f : α → β} {l m : List β} (h : l.Perm m) : ∀ {ks : List α}, m = ks.map f → ∃ L : List α, L.Perm ks ∧ l = L.map f := by
  induction h with
  | nil =>
    intro ks e
    exact ⟨[], by rw [List.map_eq_nil_iff.mp e.symm], rfl⟩
  | cons x _ ih =>
    intro ks e
    obtain ⟨k, r, rfl, h1, h2⟩ := List.map_eq_cons_iff.mp e.symm
    obtain ⟨L, p, e2⟩ := ih h2.symm
    exact ⟨k :: L, List.Perm.cons k p, by rw [List.map_cons, h1, e2]⟩
  | swap x y l =>
    intro ks e
    obtain ⟨a, r, rfl, h1, h2⟩ := List.map_eq_cons_iff.mp e.symm
    obtain ⟨b, q, rfl, h3, h4⟩ := List.map_eq_cons_iff.mp h2
    exact ⟨b :: a :: q, List.Perm.swap _ _ _, by rw [List.map_cons, List.map_cons, h1, h3, h4]⟩
  | trans _ _ ih1 ih2 =>
    intro ks e
    obtain ⟨L, p, e2⟩ := ih2 e
    obtain ⟨L2, p2, e3⟩ := ih1 e2
    exact ⟨L2, p2.trans p, e3⟩
theorem sorted_one {α : Type} {f : α → List Int} : ∀ {ks L : List α}, L.Perm ks → ks.Pairwise (fun q r => f q < f r) → L.Pairwise (fun q r => f q ≤ f r) → L = ks
  | [], L, p, _, _ => p.eq_nil
  | k :: r, L, p, hk, hL => by
    cases L with
    | nil => exact absurd p.symm.eq_nil (by simp)
    | cons x L0 =>
      have hx := p.mem_iff.mp (List.mem_cons_self (a := x) (l := L0))
      have hxk : x = k := by
        rcases List.mem_cons.mp hx with e | e
        · exact e
        · have h1 := (List.pairwise_cons.mp hk).1 x e
          rcases List.mem_cons.mp (p.mem_iff.mpr (List.mem_cons_self (a := k) (l := r))) with e2 | e2
          · exact e2.symm
          · exact absurd h1 ((List.pairwise_cons.mp hL).1 k e2)
      subst hxk
      rw [sorted_one (List.Perm.cons_inv p) (List.pairwise_cons.mp hk).2 (List.pairwise_cons.mp hL).2]
section
variable {P : Program} {w : World} {A : Around} {E : Value → Shared → Prop} {s : Shared}
theorem reads_ints {h : Heap} : ∀ {k : List Int} {vs : List Value}, ItemsAre (intKind P w) k vs → ReadsAll h vs (k.map .int) []
  | _, _, .nil => .nil
  | _, _, .cons h1 h2 => by
    obtain ⟨t, rfl⟩ := Value.isInt_shape h1
    exact .cons (.int _ t) (reads_ints h2)
theorem reads_tup {h : Heap} {k : List Int} {b : Addr} (x : IsT P w h k b) : Reads h (.ref b) (.tuple (k.map .int)) [] := by
  obtain ⟨o, its, n, ho, hc, hd, hi⟩ := x
  exact .tuple ho hc hd (reads_ints hi)
theorem each_ref : ∀ L : List (Addr × List Int), PySem.W.EachIs (fun v (q : Addr × List Int) => v = Value.ref q.1) (L.map fun q => Value.ref q.1) L
  | [] => .nil
  | q :: L => .cons rfl (each_ref L)
theorem each_ref_inv : ∀ {out : List Value} {L : List (Addr × List Int)}, PySem.W.EachIs (fun v (q : Addr × List Int) => v = Value.ref q.1) out L → out = L.map fun q => Value.ref q.1
  | _, _, .nil => rfl
  | _, _, .cons h1 h2 => by rw [h1, each_ref_inv h2, List.map_cons]
theorem each_reads {h : Heap} {a : Addr} : ∀ {L : List (Addr × List Int)}, (∀ q ∈ L, IsT P w h q.2 q.1) → PySem.W.EachIs (fun v (q : Addr × List Int) => ∃ as, Reads h v (.tuple (q.2.map .int)) as ∧ a ∉ as) (L.map fun q => Value.ref q.1) L
  | [], _ => .nil
  | q :: L, h => .cons ⟨[], reads_tup (h q List.mem_cons_self), List.not_mem_nil⟩ (each_reads fun r hr => h r (List.mem_cons_of_mem _ hr))
abbrev rowEnc (q : Addr × List Int) : PyData := .tuple (q.2.map .int)
theorem rowLe : PySem.W.dataLe false rowEnc = fun p q => decide (p.2 ≤ q.2) := PySem.W.dataLe_rows (fun q : Addr × List Int => q.2)
theorem row_sorted (L : List (Addr × List Int)) : (L.mergeSort (PySem.W.dataLe false rowEnc)).Pairwise fun q r => q.2 ≤ r.2 := by
  rw [rowLe]
  have := List.pairwise_mergeSort (le := fun (p q : Addr × List Int) => decide (p.2 ≤ q.2)) (fun a b c h1 h2 => by
    rw [decide_eq_true_iff] at h1 h2 ⊢
    exact List.le_trans h1 h2) (fun a b => by
    rw [Bool.or_eq_true, decide_eq_true_iff, decide_eq_true_iff]
    exact List.le_total _ _) L
  exact this.imp fun h => by simpa using h

/-- the set at rest: all the tuples ks, its slots rising -/
structure SetAll (w : World) (h : Heap) (a : Addr) (ks : List (Addr × List Int)) : Prop where
  ob : ∃ (es : Array (Int × Value)) (ep : Nat) (t : SetTable), (∃ o, h.get? a = some o ∧ o.ExactSet ∧ o.data = .set es ep t) ∧ (es.toList.map (·.2)).Perm (ks.map fun p => Value.ref p.1) ∧ t.fits es.size = true ∧ es.size < 4000 ∧ Ris t.place.toList ∧ (w.params.followText "set-order" = true ∨ t.led = true)
theorem setAll_of {h : Heap} {a : Addr} {ks : List (Addr × List Int)} (ht : setTakes (ks.map (·.2)) = true) (U : Upto w h a ks ks.length) : SetAll w h a ks := by
  obtain ⟨t, hs, vs, e, R, pm⟩ := U
  unfold setTakes at ht
  rw [List.map_map] at ht
  rw [List.take_length] at e pm
  cases hf : frun ⟨7, 0, 0, []⟩ (ks.map (hashT ∘ fun p => p.2)) with
  | none => rw [hf] at ht; cases ht
  | some S =>
    rw [hf] at ht
    have ht : (decide (S.n ≤ S.mask) && decide (S.n < 4000)) = true := ht
    rw [Bool.and_eq_true, decide_eq_true_iff, decide_eq_true_iff] at ht
    obtain ⟨t2, hs2, e2, F⟩ := frun_sim (frel_new (!w.params.followText "set-order")) hf
    have e3 : simRun (.fresh 0 0 (!w.params.followText "set-order")) [] (ks.map (hashT ∘ fun p => p.2)) = some (t, hs) := e
    rw [e3] at e2
    cases e2
    obtain ⟨es, ep, ob, h1, h2⟩ := R.ob
    have hl : es.size = S.n := by
      rw [F.n, ← Array.length_toList, ← List.length_map (f := fun x : Int × Value => x.1), h1, F.hs, List.length_map]
    have hp : t.place.size = S.n := by rw [← Array.length_toList, F.place, List.length_map, F.n]
    refine ⟨es, ep, t, ob, h2.trans pm, ?_, by omega, by rw [F.place]; exact F.ris, R.led⟩
    unfold SetTable.fits SetTable.fill
    rw [F.dm, Bool.and_eq_true, beq_iff_eq, decide_eq_true_eq, hp, hl, F.mask]
    exact ⟨rfl, by show S.n + 0 ≤ _; omega⟩
theorem sim_of {ks : List (Addr × List Int)} (ht : setTakes (ks.map (·.2)) = true) (b : Bool) : ∃ u, simRun (.fresh 0 0 b) [] (ks.map fun p => hashT p.2) = some u := by
  unfold setTakes at ht
  rw [List.map_map] at ht
  cases hf : frun ⟨7, 0, 0, []⟩ (ks.map (hashT ∘ fun p => p.2)) with
  | none => rw [hf] at ht; cases ht
  | some S =>
    obtain ⟨t2, hs2, e2, _⟩ := frun_sim (frel_new b) hf
    exact ⟨_, e2⟩
theorem sorted_T {a : Addr} {ks : List (Addr × List Int)} {Q : Value → Shared → Prop} (R : SetAll w s.heap a ks) (hh : A.handled = none) (hk : ∀ p ∈ ks, IsT P w s.heap p.2 p.1) (hs : (ks.map (·.2)).Pairwise (· < ·)) (ne : 2 ≤ ks.length → ∀ p ∈ ks, p.2 ≠ []) (hu : A.units + 64 < cLine)
    (hQ : ∀ s' p (out : Array Value) (c : Nat), (∀ b o, s.heap.get? b = some o → s'.heap.get? b = some o) → s'.gens = s.gens → s'.os = s.os → s.heap.objs.size ≤ p → s'.heap.get? p = some (seqObj "list" out c) → out.toList = ks.map (fun q => Value.ref q.1) → Q (.ref p) s') :
    wpAny (model P w) A (call (.builtin "sorted") [.ref a]) Q E s := by
  obtain ⟨es, ep, t, ⟨o, ho, hex, hd⟩, pm0, hf, h4, hr, hl⟩ := R.ob
  have hz0 : es.size = ks.length := by
    have := pm0.length_eq
    rwa [List.length_map, List.length_map, Array.length_toList] at this
  refine Calls.call_function_entry kind_sorted plain_sorted entry_sorted (args_sorted1 _) ?_
  unfold Builtin.«sorted»
  refine wpAny_bind (m := checkCount "sorted" 1 1 _) (wpAny_pure ?_)
  refine wpAny_bind (collect_set (A := A.in1) hh ⟨o, ho, hex.1, hd⟩ hf (by unfold scanBound; omega) hr hl fun s1 vs k1 hz g1 o1 pm => ?_)
  obtain ⟨L, pL, rfl⟩ := perm_back (f := fun q : Addr × List Int => Value.ref q.1) (pm.trans pm0) rfl
  have hL : L.length = ks.length := pL.length_eq
  refine wpAny_bind (wpAny_newList ?_ (by rw [List.length_map, sizeLine_eq]; omega))
  generalize hvs : (L.map fun q => Value.ref q.1) = vs at *
  have hoL : (s1.heap.push (seqObj "list" vs.toArray 0)).get? s1.heap.objs.size = some (seqObj "list" vs.toArray 0) := Heap.get?_push_size _ rfl
  have fin : ∀ out : List Value, out = ks.map (fun q => Value.ref q.1) → Q (.ref s1.heap.objs.size) { s1 with heap := sortedHeap (s1.heap.push (seqObj "list" vs.toArray 0)) s1.heap.objs.size vs out.toArray } := fun out e => by
    obtain ⟨c, hc⟩ := sortedHeap_at (vs := vs) (out := out.toArray) hoL
    refine hQ _ s1.heap.objs.size out.toArray c (fun b u z => ?_) g1 o1 hz hc e
    have q := k1 b u z
    have lt := Heap.lt_size q
    show (sortedHeap (s1.heap.push (seqObj "list" vs.toArray 0)) s1.heap.objs.size vs out.toArray).get? b = some u
    rw [sortedHeap_old (Nat.ne_of_lt lt) (by rw [size_push']; exact Nat.lt_succ_of_lt lt)]
    exact Heap.get?_push_of_some _ q
  have tk : ∀ q ∈ L, IsT P w (s1.heap.push (seqObj "list" vs.toArray 0)) q.2 q.1 := fun q hq => isT_keep (hk q (pL.mem_iff.mp hq)) fun b u z => Heap.get?_push_of_some _ (k1 b u z)
  by_cases h2 : 2 ≤ ks.length
  · have srt : (L.map rowEnc) = L.map fun q => rowEnc q := rfl
    have e1 : PySem.W.EachIs (fun v (q : Addr × List Int) => v = Value.ref q.1) vs L := by rw [← hvs]; exact each_ref L
    have e2 : PySem.W.EachIs (fun v (q : Addr × List Int) => ∃ as, Reads (s1.heap.push (seqObj "list" vs.toArray 0)) v (rowEnc q) as ∧ s1.heap.objs.size ∉ as) vs L := by
      have := each_reads (P := P) (w := w) (a := s1.heap.objs.size) tk
      rwa [hvs] at this
    refine wpAny_bind (wpAny_holding (PySem.W.list_sort_data (s := { s1 with heap := s1.heap.push (seqObj "list" vs.toArray 0) }) (enc := rowEnc) hoL e1 e2 (PySem.W.AllAlike.of fun b b' => by
      show PySem.W.alike (.tuple _) (.tuple _) = true
      simp only [PySem.W.alike]
      exact PySem.W.alike_ints _ _) (.inl fun d hd => by
      obtain ⟨q, hq, rfl⟩ := List.mem_map.mp hd
      have := ne h2 q (pL.mem_iff.mp hq)
      cases hq2 : q.2 with
      | nil => exact absurd hq2 this
      | cons x r => exact ⟨.int x, r.map .int, by show PyData.tuple (q.2.map .int) = _; rw [hq2]; rfl⟩) (by rw [hL, sizeLine_eq]; omega) (fun q _ => by
      have hdp : (rowEnc q).depth ≤ 2 := by
        show PyData.depth (.tuple (q.2.map .int)) ≤ 2
        simp only [PyData.depth]
        rw [PySem.W.depth_ints]
        decide
      show A.units + 1 + 1 + (rowEnc q).depth < cLine
      omega) fun out ho2 eo => ?_))
    have hsrt : L.mergeSort (PySem.W.dataLe false rowEnc) = ks := sorted_one (f := fun q : Addr × List Int => q.2) ((List.mergeSort_perm _ _).trans pL) (List.pairwise_map.mp hs) (row_sorted L)
    rw [hsrt] at eo
    exact wpAny_pure ⟨_, rfl, fin out (each_ref_inv eo)⟩
  · have hone : L = ks := by
      have : ks.length = 0 ∨ ks.length = 1 := by omega
      rcases this with z | z
      · have := List.eq_nil_of_length_eq_zero z
        subst this
        exact pL.eq_nil
      · obtain ⟨k, rfl⟩ := List.length_eq_one_iff.mp z
        exact pL.eq_singleton
    refine wpAny_bind (wpAny_holding (wpAny_call_entry slot_list_sort ⟨_, hoL, rfl⟩ entry_list_sort (Srt.list_sort_any (s := { s1 with heap := s1.heap.push (seqObj "list" vs.toArray 0) }) hoL (by rw [← hvs, List.length_map, hL, sizeLine_eq]; omega) (fun z => by
      rw [← hvs, List.length_map, hL] at z
      exact absurd z h2) fun out po => ⟨.none, rfl, ?_⟩) (args_list_sort _)))
    have eo : out = ks.map fun q => Value.ref q.1 := by
      rw [← hvs, hone] at po
      have : ks.length = 0 ∨ ks.length = 1 := by omega
      rcases this with z | z
      · have := List.eq_nil_of_length_eq_zero z
        subst this
        exact po.eq_nil
      · obtain ⟨k, rfl⟩ := List.length_eq_one_iff.mp z
        exact po.eq_singleton
    exact wpAny_pure ⟨_, rfl, fin out eo⟩
end

def SetAO (w : World) (a : Addr) (ks : List (Addr × List Int)) : HO := .ext fun h => SetAll w h a ks
theorem setAO_new {P : Program} {w : World} {H : Hp} {h : Heap} {a : Addr} {ks : List (Addr × List Int)} (R : SetAll w h a ks) : ObjOk P w H h a (SetAO w a ks) := by
  have ⟨es, ep, t, ⟨o, ho, r⟩, q⟩ := R.ob
  refine ⟨R, ⟨o, ho⟩, fun h1 h2 p k => ?_⟩
  have ⟨es', ep', t', ⟨o', ho', r'⟩, q'⟩ := SetAll.ob p
  exact ⟨es', ep', t', ⟨o', k o' ho', r'⟩, q'⟩
section
variable {K : PySem.W.Frag} {X : Cx} {M : List Nat} {a : Expr} {ta : TE} {f : Fn} {pos p p2 q : Pos}
def rSetTs (K : PySem.W.Frag) (w : World) : List V → Hp → VK → Prop := fun xs H Q => ∃ (l : Addr) (ks : List (Addr × List Int)), xs = [V.ref l] ∧ SqL K H l (ks.map fun p => V.ref p.1) ∧ (∀ p ∈ ks, SqT K H p.1 (p.2.map V.int)) ∧ setTakes (ks.map (·.2)) = true ∧
  ∀ a, H a = none → Q (.ref a) (upd H a (SetAO w a ks))
theorem cr_setTs (hc : X.calm = true) (hu : X.A.units + 64 < cLine) : CallR X (.type "set") (rSetTs X.K X.w) := by
  intro pins s σ H xs us Q I r h
  obtain ⟨l, ks, rfl, hl, hk, ht, q⟩ := h
  rw [Vals.ref1 r]
  obtain ⟨its, rv, pl, hz⟩ := I.list hl
  have hn : H s.heap.objs.size = none := I.hok.fresh (Nat.le_refl _)
  refine call_setT (P := X.prog) (w := X.w) ks (I.ok.hd hc) pl.isList (by simpa using refs_of_vals rv) (fun p hp => I.isT (hk p hp)) (sim_of ht _) (by omega) fun h' tk U k => ?_
  exact ⟨.ref s.heap.objs.size, upd H s.heap.objs.size (SetAO X.w s.heap.objs.size ks), I.laid (t' := tk) k (Nat.le_refl _) (setAO_new (setAll_of ht U)), rfl, q _ hn⟩
def rSortedTs (K : PySem.W.Frag) (w : World) : List V → Hp → VK → Prop := fun vs H Q => ∃ (a : Addr) (ks : List (Addr × List Int)), vs = [V.ref a] ∧ H a = some (SetAO w a ks) ∧ (∀ p ∈ ks, SqT K H p.1 (p.2.map V.int)) ∧ (ks.map (·.2)).Pairwise (· < ·) ∧ (2 ≤ ks.length → ∀ p ∈ ks, p.2 ≠ []) ∧
  ∀ (p : Addr), H p = none → Q (.ref p) (upd H p (.lst (ks.map fun q => V.ref q.1)))
theorem cr_sortedTs (hc : X.calm = true) (hu : X.A.units + 64 < cLine) : CallR X (.builtin "sorted") (rSortedTs X.K X.w) := by
  intro pins s σ H vs us Q I r h
  obtain ⟨a, ks, rfl, ha, hk, hs, ne, q⟩ := h
  have R : SetAll X.w s.heap a ks := (I.hok a _ ha).1
  rw [Vals.ref1 r]
  refine sorted_T R (I.ok.hd hc) (fun p hp => I.isT (hk p hp)) hs ne hu fun s' p out c k g o hp hg hout => ?_
  have hfew : ks.length < 4000 := by
    have ⟨es, _, _, _, pm, _, h4, _⟩ := R.ob
    have := pm.length_eq
    rw [List.length_map, List.length_map, Array.length_toList] at this
    omega
  have hlen : (ks.map fun q => V.ref q.1).length ≤ sizeLine := by rw [List.length_map, sizeLine_eq]; omega
  have hn : H p = none := I.hok.fresh hp
  have hv : Vals (ks.map fun q => V.ref q.1) out.toList := by rw [hout]; exact vals_of_refs ks
  have J : Inv X pins σ (upd H p (.lst (ks.map fun q => V.ref q.1))) { s with heap := s'.heap, gens := s'.gens, drawn := s'.drawn, toks := s'.toks } :=
    I.call (ch := []) (Un.laid k hp hn) (I.hok.laid k hp ⟨hlen, out.toList, c, hv, hg⟩) (by rw [g]; exact I.bare) (fun _ z => nomatch z)
  have e : s' = { s with heap := s'.heap, gens := s'.gens, drawn := s'.drawn, toks := s'.toks } := by
    cases s'
    cases s
    cases o
    rfl
  rw [e]
  exact ⟨.ref p, _, J, rfl, q p hn⟩
def rowsD : List PyData → Option (List (List Int))
  | [] => some []
  | .tuple ds :: r => (intsD ds).bind fun k => (rowsD r).bind fun ks => some (k :: ks)
  | _ :: _ => none
theorem rowsD_map : ∀ kss : List (List Int), rowsD (kss.map fun k => .tuple (k.map .int)) = some kss
  | [] => rfl
  | k :: kss => by
    rw [List.map_cons]
    unfold rowsD
    rw [intsD_map, rowsD_map kss]
    rfl
theorem rows_dv {H : Hp} : ∀ {vs : List V} {ds : List PyData} {kss : List (List Int)}, DdAll K H vs ds → rowsD ds = some kss → ∃ ks : List (Addr × List Int), vs = (ks.map fun p => V.ref p.1) ∧ ks.map (·.2) = kss ∧ ∀ p ∈ ks, ∃ ob, H p.1 = some (.frz ob (.tup (p.2.map V.int)))
  | _, _, _, .nil, h => by
    cases h
    exact ⟨[], rfl, rfl, fun p hp => by cases hp⟩
  | _, _, kss, .cons (v := v) (d := d) a t, h => by
    cases a with
    | @tup l ob xs ds hn hp t2 =>
      unfold rowsD at h
      obtain ⟨k, h1, h⟩ := bind_some h
      obtain ⟨kr, h2, h⟩ := bind_some h
      cases h
      obtain ⟨ks, rfl, rfl, hk⟩ := rows_dv t h2
      have e := ints_dv t2 h1
      subst e
      refine ⟨(l, k) :: ks, rfl, rfl, fun p hp' => ?_⟩
      rcases List.mem_cons.mp hp' with rfl | hp'
      · exact ⟨ob, hp⟩
      · exact hk p hp'
    | _ => cases h
/-- sorted(set(..)) of a list of tuples of ints that stand in order, each once -/
def gSortSetT : PyData → Option (List PyData)
  | .list ds => (rowsD ds).bind fun kss => if setTakes kss = true ∧ kss.Pairwise (· < ·) ∧ (2 ≤ kss.length → ∀ k ∈ kss, k ≠ []) then some ds else none
  | _ => none
theorem fd_sortSetT {k : Nat} (ha : ED K X M a ta f) (hr : Room k X.A) (hm : X.mg "sorted" = none) (hm2 : X.mg "set" = none) (hg : Gl X "sorted" := by rfl) (hg2 : Gl X "set" := by rfl) (hc : X.calm = true := by rfl) (hK : X.K = K := by rfl)
    (na : starEach [a] X.env = (false, eval a X.env) :: starEach [] X.env := by rfl) (nb : starEach [.Call (.Name "set" p2) [a] [] q] X.env = (false, eval (.Call (.Name "set" p2) [a] [] q) X.env) :: starEach [] X.env := by rfl)
    (pa : (backTo q (starEach [] X.env)).any (·.1) = false := by rfl) (pb : (backTo pos (starEach [] X.env)).any (·.1) = false := by rfl) :
    FD K X M (.Call (.Name "sorted" p) [.Call (.Name "set" p2) [a] [] q] [] pos) (tCB (rSortedTs K X.w) (tCons (tCB (rSetTs K X.w) (tCons ta tNil)) tNil)) (fun ρ => (f ρ).bind gSortSetT) := by
  subst hK
  have hu : X.A.units + 64 < cLine := by have := hr.un; omega
  refine ⟨pe_callB (cr_sortedTs hc hu) hg hm boot_sorted (pa_cons (pe_callTy (cr_setTs hc hu) hg2 hm2 boot_set (pa_cons ha.pe pa_nil na) (by decide) (by decide) na pa) pa_nil nb) (by decide) (by decide) nb pb, fun {Hs0 H0 Hs H σ ρ d Q} R hf qq => ?_⟩
  obtain ⟨dx, h1, h2⟩ := bind_some hf
  refine ha.sm R h1 fun v Hs1 H1 g1 d1 => ?_
  cases d1 with
  | @lst l xs ds hp t =>
    obtain ⟨kss, h3, h4⟩ := bind_some h2
    obtain ⟨⟨c1, c2, c3⟩, rfl⟩ := ite_some h4
    obtain ⟨ks, rfl, rfl, hk⟩ := rows_dv t h3
    have sub := g1.sub
    have hk1 : ∀ p ∈ ks, SqT X.K H1 p.1 (p.2.map V.int) := fun p hp => by
      obtain ⟨ob, e⟩ := hk p hp
      exact sqT_of (sub _ _ e)
    refine ⟨l, ks, rfl, sqL_of (sub _ _ hp), hk1, c1, fun p0 hp0 => ?_⟩
    have g2 : Grow Hs1 H1 Hs1 (upd H1 p0 (SetAO X.w p0 ks)) := Grow.alloc0 sub hp0
    refine ⟨p0, ks, rfl, upd_same, fun p hp => (hk p hp).elim fun ob e => sqT_of (g2.sub _ _ e), c2, fun z p hp => c3 (by rw [List.length_map]; exact z) _ (List.mem_map_of_mem hp), fun p1 hp1 => ?_⟩
    have g3 := Grow.alloc0 (o := .lst (ks.map fun q => V.ref q.1)) g2.sub hp1
    have g := (g1.trans g2).trans g3
    exact qq p1 _ Hs1 _ g (g1.ex.free (g2.ex.free hp1)) (g2.sub.free hp1) upd_same t
  | _ => cases h2
end
end DL

namespace DL
open PySem PySem.Spec PyProof.Rows L2 LamX NdefX
variable [Tabl]
/-! ### a lambda: made, called -/
/-- the object at f is the lambda of the words F, its body b -/
def LamO (f : Addr) (F : NF) (b : Expr) : HO := .ext fun h => ∃ pm ctv : Value, h.get? f = some (PySem.W.kla_obj "<lambda>" F.qual F.params b F.scope F.cl pm F.c ctv)
theorem lamO_at {P : Program} {w : World} {H : Hp} {h : Heap} {f : Addr} {F : NF} {b : Expr} (hok : HOk P w H h) (e : H f = some (LamO f F b)) : ∃ pm ctv : Value, h.get? f = some (PySem.W.kla_obj "<lambda>" F.qual F.params b F.scope F.cl pm F.c ctv) := by
  obtain ⟨z, _, _⟩ := hok f _ e
  exact z
theorem lamO_ok {P : Program} {w : World} {H : Hp} {h : Heap} {f : Addr} {F : NF} {b : Expr} {pm ctv : Value} (ho : h.get? f = some (PySem.W.kla_obj "<lambda>" F.qual F.params b F.scope F.cl pm F.c ctv)) : ObjOk P w H h f (LamO f F b) :=
  ⟨⟨pm, ctv, ho⟩, ⟨_, ho⟩, fun h1 h2 ⟨pm', ctv', e⟩ k => ⟨pm', ctv', k _ e⟩⟩
section
variable {CX : CXT} {P : Program} {w : World} {K : PySem.W.Frag} {mg : Str → Option Value} {base : Heap} {N ps fr : List Str} {F : NF} {f : Addr} {k j : Nat} {A : Around} {outer : List Env} {s : Shared} {H : Hp} {E : XK} {us : List Value} {vs : List V} {ws : List (Option V)} {Q : VK} {body : Expr} {tb : TE}
theorem lam_run (S : NScope N ps fr F.scope) (hb : ∀ pm ctv : Value, bindArgs (PySem.W.kla_fn "<lambda>" F.qual F.params body F.scope F.cl pm (.ref F.c) ctv) ⟨us, []⟩ = pure (ps.zip us)) (hr : Room (k + 1) A) (e0 : Env0 P w K mg base A outer s H) (hf : H f = some (LamO f F body)) (hc : H F.c = some (CodeO F.c F.qual))
    (C : CellsAt F.cl fr ws s.heap H) (r : Vals vs us) (hl : vs.length = ps.length) (hbody : Room k (A.deeper (envF F f s.heap.objs.size)) → PE (ncx CX P w K mg base N F f A outer s H E) body tb) (q : tb (startF N vs ws) H Q) :
    codeAny (model P w) A (.call (.ref f) ⟨us, []⟩) (CR CX outer P w H s Q E) s := by
  have lim : s.heap.NoLimit := e0.mod.nolimit.keeps fun b o e => (e0.bs b o e).1
  obtain ⟨pm, ctv, ho⟩ := lamO_at e0.hok hf
  refine PySem.W.kla_callFunE hr.depth ho rfl S.co S.gen rfl (codeO_at e0.hok hc) ?_
  rw [hb pm ctv]
  refine wpAny_pure (wpAny_newFunctionEnv S.nocell (fun ⟨n, _⟩ hy => S.par n (List.of_mem_zip hy).1) (fun h₁ hns hsb => ⟨lim.fresh _ hsb, ?_⟩) S.kind)
  show codeAny _ _ (.expr body (envF F f s.heap.objs.size)) _ _
  have kp : ∀ b o, s.heap.get? b = some o → h₁.get? b = some o := fun b o e => hsb.extBut b o (Nat.ne_of_lt (Heap.lt_size e)) (Heap.get?_push_of_some _ e)
  have I : Inv (ncx CX P w K mg base N F f A outer s H E) [] (startF N vs ws) H { s with heap := h₁, toks := s.toks + (ps.zip us).length } := inv_startN S hr.hd e0 hl r C hns kp
  refine PySem.W.kla_codeExpr (wpAny_mono ((hbody (hr.deeper _)).run [] _ _ H Q I q) (fun v s' hq => ?_) fun e s' hq => hq)
  obtain ⟨w', H', J', rv, q⟩ := hq
  exact ⟨w', H', J'.os, J'.bare, J'.base, J'.hok, rv, q⟩
end
section
variable {X : Cx} {pins : List (Addr × Obj)} {σ : L2.St} {H : Hp} {s : Shared}
/-- the reading of a lambda -/
def tLamE (X : Cx) (P : Addr) (params : Arguments) (body : Expr) (scope : Scope) : TE := fun σ H Q => Tabs Tabl.T H ∧ ∀ (f c' : Addr) (H1 : Hp), Kept H H1 → (∀ b o, b ≠ P → H b = some o → H1 b = some o) → H f = none → H1 f = some (LamO f ⟨"<lambda>", X.env.qual ++ "<lambda>", params, [], scope, cloFrom X.env.cells scope.names [], c'⟩ body) →
  H1 c' = some (CodeO c' (X.env.qual ++ "<lambda>")) → Q (.ref f) H1
theorem pe_lambda {c P : Addr} {params : Arguments} {body : Expr} {scope : Scope} {pos : Pos} (TB : TabB X.base X.mg c P) (hcode : X.env.code = .ref c) (hm : (P, X.env.qual ++ "<lambda>") ∈ Tabl.T) (hu : ∀ p ∈ Tabl.T, p.1 = P → p.2 = X.env.qual ++ "<lambda>")
    (hdef : defaultsOf params X.env = ([], [])) (hfree : ∀ y ∈ scope.names, y.2 = .free → X.env.scope.names.lookup y.1 = some .cell ∨ X.env.scope.names.lookup y.1 = some .free) :
    PE X (.Lambda params body scope pos) (tLamE X P params body scope) := by
  refine ⟨fun pins s σ H Q I h => ?_⟩
  obtain ⟨hT, q⟩ := h
  obtain ⟨ps, hP, ht, ha⟩ := hT _ hm
  refine PySem.W.kla_eval hdef ?_
  have hfr : ∀ y ∈ scope.names, y.2 = .free → ∃ c, X.env.cells.lookup y.1 = some c := fun y hy e => (hfree y hy e).elim (fun z => I.ok.has _ (.inl z)) fun z => I.ok.has _ (.inr z)
  have bP : s.heap.BuiltinsAt X.mg P := TB.bm.keeps I.bk
  have hP' : s.heap.get? P = some { cls := .none, data := .fields ps } := I.hok P _ hP
  have fin : ∀ (c' : Addr) (ctv : Value) (H1 : Hp) (h' : Heap) (tk : Nat), Inv X pins σ H1 { s with heap := h', toks := tk } → s.heap.objs.size ≤ h'.objs.size → Kept H H1 → (∀ b o, b ≠ P → H b = some o → H1 b = some o) → H1 c' = some (CodeO c' (X.env.qual ++ "<lambda>")) →
      EP X pins σ Q (.ref h'.objs.size) { s with heap := h'.push (PySem.W.kla_obj "<lambda>" (X.env.qual ++ "<lambda>") params body scope (cloFrom X.env.cells scope.names []) ((X.mg "__name__").getD .none) c' ctv), toks := tk } := fun c' ctv H1 h' tk I1 hz hK hB hc => by
    have nF : H1 h'.objs.size = none := I1.hok.fresh (Nat.le_refl _)
    have I2 := I1.laid (t' := tk) (h' := h'.push (PySem.W.kla_obj "<lambda>" (X.env.qual ++ "<lambda>") params body scope (cloFrom X.env.cells scope.names []) ((X.mg "__name__").getD .none) c' ctv)) (a := h'.objs.size)
      (o := LamO h'.objs.size ⟨"<lambda>", X.env.qual ++ "<lambda>", params, [], scope, cloFrom X.env.cells scope.names [], c'⟩ body) (fun b o e => Heap.get?_push_of_some _ e) (Nat.le_refl _) (lamO_ok (F := ⟨"<lambda>", X.env.qual ++ "<lambda>", params, [], scope, cloFrom X.env.cells scope.names [], c'⟩) (pm := (X.mg "__name__").getD .none) (ctv := ctv) (Heap.get?_push_size _ rfl))
    refine ⟨.ref h'.objs.size, _, I2, rfl, q h'.objs.size c' _ (hK.trans (Kept.of (same_new nF))) (fun b o hb e => same_new nF b o (hB b o hb e)) (I.hok.fresh hz) upd_same ?_⟩
    rw [upd_ne (fun z => by rw [z, nF] at hc; cases hc)]
    exact hc
  cases hc : codeAmong pos ps.toList with
  | none =>
    refine PySem.W.kla_makeFunction (mg := X.mg) (c := c) (P := P) (ps := ps) (closure_ok hfr) I.ok.glob (I.mod.glob.keeps I.bk) hcode (TB.code.keeps I.bk) hP' ht hc TB.gP bP fun c' ctv h' tk hx hge hlt hrec htb => ?_
    obtain ⟨c2, oc, vs, t, e2, hoc, hd, hv⟩ := hrec
    cases e2
    have nC : H c' = none := I.hok.fresh hge
    have I1 := inv_table (t' := tk) (more := #[rawInt pos.line, rawInt pos.col, .ref c']) (h' := h') I hP (fun b o hb e => hx b o hb e) htb hge ⟨oc, vs, t, hoc, hd, hv⟩
    have hE : ExtN H (upd (upd H P (.tbl (ps ++ #[rawInt pos.line, rawInt pos.col, .ref c']))) c' (CodeO c' (X.env.qual ++ "<lambda>"))) := fun b o e n => by
      rw [upd_ne (ne_of_none e nC), upd_ne (fun z => n ps (Option.some.inj (e.symm.trans (by rw [z]; exact hP))))]
      exact e
    have eL : (ps ++ #[rawInt pos.line, rawInt pos.col, .ref c']).toList = ps.toList ++ [rawInt pos.line, rawInt pos.col, .ref c'] := by simp
    have hK : Kept H (upd (upd H P (.tbl (ps ++ #[rawInt pos.line, rawInt pos.col, .ref c']))) c' (CodeO c' (X.env.qual ++ "<lambda>"))) := by
      refine ⟨hE, fun b e => ?_, fun _ p hp => ?_⟩
      · have e1 := upd_none e
        exact upd_none e1
      · by_cases hb : p.1 = P
        · rw [hu p hp hb, hb]
          refine ⟨_, by rw [upd_ne (ne_of_none hP nC), upd_same], by rw [eL]; exact PySem.TriplesOk_snoc _ _ _ _ ht, fun p' cv hcv => ?_⟩
          rw [eL] at hcv
          rcases among_app _ ht hcv with z | z
          · obtain ⟨c0, e1, e2⟩ := ha p' cv z
            exact ⟨c0, e1, hE _ _ e2 codeO_ne⟩
          · exact ⟨c', z, upd_same⟩
        · obtain ⟨ps', a1, a2, a3⟩ := hT p hp
          refine ⟨ps', by rw [upd_ne (ne_of_none a1 nC), upd_ne hb]; exact a1, a2, fun p' cv hcv => ?_⟩
          obtain ⟨c0, e1, e2⟩ := a3 p' cv hcv
          exact ⟨c0, e1, hE _ _ e2 codeO_ne⟩
    exact fin c' ctv _ h' tk I1 (Nat.le_trans hge (Nat.le_of_lt hlt)) hK (fun b o hb e => by rw [upd_ne (ne_of_none e nC), upd_ne hb]; exact e) upd_same
  | some cv =>
    obtain ⟨c', e, hco⟩ := ha pos cv hc
    subst e
    refine PySem.W.kla_makeFunctionHit (mg := X.mg) (c := c) (P := P) (ps := ps) (closure_ok hfr) I.ok.glob (I.mod.glob.keeps I.bk) hcode (TB.code.keeps I.bk) hP' ht hc bP fun ctv h' tk hx hsz => ?_
    exact fin c' ctv H h' tk (I.kept hx) hsz (Kept.refl H) (fun _ _ _ e => e) hco
end
end DL

namespace DL
open PySem PySem.Spec PyProof.Rows L2 LamX NdefX
variable [Tabl]
/-! ### the state within a built-in that calls back -/
structure Mid (X : Cx) (s₀ : Shared) (H : Hp) (ex : List Addr) (H' : Hp) (s : Shared) : Prop where
  os : s.os = s₀.os
  bare : AllBare s.gens
  un : Un (frs X.stack) [] H H' s₀.heap s.heap
  hok : HOk X.prog X.w H' s.heap
  out : ∀ a ∈ ex, H' a = none ∧ a ∉ frs X.stack ∧ s₀.heap.get? a = none
section
variable {X : Cx} {s₀ s s' : Shared} {H H' : Hp} {ex : List Addr} {pins : List (Addr × Obj)} {σ : L2.St}
theorem Mid.inv (m : Mid X s₀ H ex H' s) (I : Inv X pins σ H s₀) : Inv X pins σ H' s := by
  obtain ⟨hh, g, d, t, os'⟩ := s
  obtain rfl : os' = s₀.os := m.os
  exact I.call (h' := hh) (g' := g) (d' := d) (t' := t) (ch := []) m.un m.hok m.bare (fun b z => absurd z (by simp))
theorem hok_but {P : Program} {w : World} {h g : Heap} (k : HOk P w H h) (st : ∀ b o, H b ≠ none → h.get? b = some o → g.get? b = some o) : HOk P w H g := fun b u e => by
  refine (k b u e).stay (fun d v hd q => st d v ?_ q) (fun d q => q) fun d xs q => q
  rcases hd with z | z
  · rw [z, e]; simp
  · rw [z]; simp
theorem Mid.stab {g : Heap} {t : Nat} (m : Mid X s₀ H ex H' s) (k : ∀ b o, b ∉ ex → s.heap.get? b = some o → g.get? b = some o) : Mid X s₀ H ex H' { s with heap := g, toks := t } where
  os := m.os
  bare := m.bare
  un := by
    have ne : ∀ b o, s₀.heap.get? b = some o → b ∉ ex := fun b o e z => by rw [(m.out b z).2.2] at e; cases e
    refine ⟨fun b o e n f x => k b _ (ne b o e) (m.un.keep b o e n f x), fun b o e n f x => ?_, m.un.free, fun b o e x => ?_, m.un.tups, m.un.frzs, m.un.tbls⟩
    · obtain ⟨sl, q⟩ := m.un.slot b o e n f x
      exact ⟨sl, k b _ (ne b o e) q⟩
    · obtain ⟨o', q⟩ := m.un.there b o e x
      exact ⟨o', k b _ (ne b o e) q⟩
  hok := hok_but m.hok fun b o hb e => k b o (fun z => hb (m.out b z).1) e
  out := m.out
theorem Mid.call {Q : VK} {u : Value} (m : Mid X s₀ H ex H' s) (hex : ∀ a ∈ ex, ∃ o, s.heap.get? a = some o) (c : CE X.stack X.prog X.w H' s Q u s') : ∃ v H2, Mid X s₀ H ex H2 s' ∧ (∀ a ∈ ex, ∀ o, s.heap.get? a = some o → s'.heap.get? a = some o) ∧ RelV v u ∧ Q v H2 := by
  obtain ⟨v, H2, os, bare, un, hok, r, q⟩ := c
  have ke : ∀ a ∈ ex, ∀ o, s.heap.get? a = some o → s'.heap.get? a = some o := fun a ha o e => un.keep a o e (m.out a ha).1 (m.out a ha).2.1 (by simp)
  refine ⟨v, H2, ⟨os.trans m.os, bare, m.un.trans un, hok, fun a ha => ⟨?_, (m.out a ha).2⟩⟩, ke, r, q⟩
  obtain ⟨o, e⟩ := hex a ha
  exact un.free a o e (m.out a ha).1 (by simp)
end
/-! ### list.sort(key=f), f anything that returns: J tells what stays -/
section
variable {prog : Program} {w : World} {A : Around} {E : Value → Shared → Prop} {s : Shared} {a kS : Addr} {vs : List Value} {e e1 : Nat} {P : PySem.Fin → Shared → Prop} {kz : List PyData}
theorem keyJ_rest {f : Value} {J : List Value → Shared → Prop} (stab : ∀ ks s g t, J ks s → (∀ b o, b ≠ kS → b ≠ a → s.heap.get? b = some o → g.get? b = some o) → J ks { s with heap := g, toks := t }) (start : J [] s)
    (nk : s.heap.get? kS = some (seqObj "list" #[] 0)) (na : s.heap.get? a = some (seqObj "list" #[] e1)) (hka : kS ≠ a) (hlen : kz.length = vs.length) (hZ : vs.length ≤ sizeLine) (hal : PySem.W.AllAlike kz) (hsk : PySem.W.Sortable kz) (hu : ∀ d, d ∈ kz → A.units + d.depth < cLine)
    (turn : ∀ (i : Nat) (v : Value) (ks : List Value) (s' : Shared) (o1 o2 : Obj), vs[i]? = some v → ks.length = i → J ks s' → s'.heap.get? kS = some o1 → s'.heap.get? a = some o2 →
      wpAny (model prog w) A (call f [v]) (fun u s'' => J (ks ++ [u]) s'' ∧ s''.heap.get? kS = some o1 ∧ s''.heap.get? a = some o2) (fun _ _ => False) s')
    (out : ∀ ks s', J ks s' → ks.length = vs.length → PySem.W.EachIs (fun v k => ∃ as, Reads s'.heap v k as) ks kz)
    (h : ∀ s' o c ks, J ks s' → s'.heap.get? a = some (seqObj "list" (List.toArray o) c) → PySem.W.KeyedOut false kz vs o → P (.done (.ret .none)) s') :
    wpAny (model prog w) A (PyProof.Rows.ksk_rest a f false vs.toArray e1 (.ref kS)) P E s := by
  unfold PyProof.Rows.ksk_rest
  refine wpAny_bind (wpAny_rule ?_)
  first
    | rw [List.forIn_toArray]
    | (rw [← Array.forIn_toList]; simp only [List.toList_toArray])
    | rw [← Array.forIn_toList]
  refine wpAny_bind (PyProof.Rows.ksk_fold (fun i s' => ∃ ks e, ks.length = i ∧ J ks s' ∧ s'.heap.get? kS = some (seqObj "list" (List.toArray ks) e) ∧ s'.heap.get? a = some (seqObj "list" #[] e1)) vs 0 s
    ⟨[], 0, rfl, start, nk, na⟩ ?step ?done)
  case step =>
    rintro j x s' hx ⟨ks, e, hk, hJ, nk', na'⟩
    simp only [Nat.zero_add] at hk ⊢
    have hj : j < vs.length := (List.getElem?_eq_some_iff.mp hx).1
    refine wpAny_bind (wpAny_attempt (wpAny_mono (turn j x ks s' _ _ hx hk hJ nk' na') (fun v s'' he => ?_) fun _ _ hF => hF.elim))
    obtain ⟨hJ2, nk2, na2⟩ := he
    try dsimp only
    have s1 := Heap.SameBut.update s''.heap kS (Obj.mapSeq (·.push v))
    obtain ⟨c2, hc2⟩ : ∃ c2, (s''.heap.update kS (Obj.mapSeq (·.push v))).get? kS = some (seqObj "list" ((List.toArray ks).push v) c2) := ⟨_, get?_update_seq nk2 (·.push v)⟩
    have ea : (List.toArray ks).push v = List.toArray (ks ++ [v]) := by simp
    rw [ea] at hc2
    refine wpAny_bind (listUpdate_at nk2 rfl ?_ (by rw [List.size_toArray]; omega) (by rw [Array.size_push, List.size_toArray]; omega))
    refine wpAny_pure ⟨rfl, ks ++ [v], c2, by rw [List.length_append, hk]; rfl, ?_, hc2, (s1.2 a hka.symm).trans na2⟩
    have := stab (ks ++ [v]) s'' (s''.heap.update kS (Obj.mapSeq (·.push v))) s''.toks hJ2 fun b o h1 _ e => (s1.2 b h1).trans e
    exact this
  case done =>
    rintro s' ⟨ks, e, hk, hJ, nk', na'⟩
    simp only [Nat.zero_add] at hk
    try dsimp only
    refine wpAny_bind (listItems_at nk' rfl ?_)
    obtain ⟨G, g1, g2⟩ := restrict s'.heap fun b => !decide (b = kS)
    have er := out ks s' hJ hk
    refine PySem.W.keyH_end (κ := PySem.W.dataKind s'.heap kz) (h₁ := G) (fun b o hb q => ?_) (g2 kS (by simp)) nk' na' hka (PySem.W.SortsAt.data (by simpa using er) hal hsk hu) (by rw [List.size_toArray]; exact hk) hZ fun h3 tk3 c k3 n3 => ?_
    · by_cases hbk : b = kS
      · rw [g2 b (by simp [hbk])] at q
        cases q
      · rw [← g1 b (by simp [hbk])]
        exact q
    · have hJ3 := stab ks s' h3 tk3 hJ fun b o h1 h2 q => k3 b o h2 (by rw [g1 b (by simp [h1])]; exact q)
      exact h _ _ c ks hJ3 n3 ⟨s'.heap, ks, hal, by simp, er⟩
theorem keyJ_tree {f : Value} {n : Nat} {J : List Value → Shared → Prop} (ho : s.heap.get? a = some (seqObj "list" vs.toArray n)) (stab : ∀ ks s' g t, J ks s' → (∀ b o, b ≠ s.heap.objs.size + 1 → b ≠ a → s'.heap.get? b = some o → g.get? b = some o) → J ks { s' with heap := g, toks := t })
    (start : ∀ g : Heap, (∀ b o, b ≠ a → s.heap.get? b = some o → g.get? b = some o) → J [] { s with heap := g }) (hlen : kz.length = vs.length) (hZ : vs.length ≤ sizeLine) (hal : PySem.W.AllAlike kz) (hsk : PySem.W.Sortable kz) (hu : ∀ d, d ∈ kz → A.units + d.depth < cLine)
    (turn : ∀ (i : Nat) (v : Value) (ks : List Value) (s' : Shared) (o1 o2 : Obj), vs[i]? = some v → ks.length = i → J ks s' → s'.heap.get? (s.heap.objs.size + 1) = some o1 → s'.heap.get? a = some o2 →
      wpAny (model prog w) A (call f [v]) (fun u s'' => J (ks ++ [u]) s'' ∧ s''.heap.get? (s.heap.objs.size + 1) = some o1 ∧ s''.heap.get? a = some o2) (fun _ _ => False) s')
    (out : ∀ ks s', J ks s' → ks.length = vs.length → PySem.W.EachIs (fun v k => ∃ as, Reads s'.heap v k as) ks kz)
    (h : ∀ s' o c ks, J ks s' → s'.heap.get? a = some (seqObj "list" (List.toArray o) c) → PySem.W.KeyedOut false kz vs o → P (.done (.ret .none)) s') :
    wpAny (model prog w) A (PyProof.Rows.ksk_tree a f false) P E s := by
  have ha : a < s.heap.objs.size := Heap.lt_size ho
  obtain ⟨e1, ho1⟩ : ∃ e1, (s.heap.update a (Obj.mapSeq fun _ => (#[] : Array Value))).get? a = some (seqObj "list" #[] e1) := ⟨_, get?_update_seq ho fun _ => #[]⟩
  have hkS : ((s.heap.update a (Obj.mapSeq fun _ => (#[] : Array Value))).push (seqObj "tuple" vs.toArray 0)).objs.size = s.heap.objs.size + 1 := by rw [size_push', Heap.size_update]
  unfold PyProof.Rows.ksk_tree
  refine wpAny_bind (listItems_at ho rfl ?_)
  refine wpAny_bind (listUpdate_at ho rfl ?_ (by rw [List.size_toArray]; exact hZ) (Nat.zero_le _))
  refine wpAny_bind (seqEpoch_at ho1 rfl ?_)
  refine wpAny_bind (wpAny_newTuple ?_ (by show vs.length ≤ _; exact hZ))
  refine wpAny_bind (wpAny_newList ?_ (Nat.zero_le _))
  refine wpAny_holding ?_
  have kp : ∀ b o, b ≠ a → s.heap.get? b = some o → (PySem.W.sortingHeap s.heap a vs).get? b = some o := fun b o hb q => PySem.W.sortingHeap_old hb q
  have st := start (PySem.W.sortingHeap s.heap a vs) kp
  refine keyJ_rest (kz := kz) (s := { s with heap := ((s.heap.update a (Obj.mapSeq fun _ => (#[] : Array Value))).push (seqObj "tuple" vs.toArray 0)).push (seqObj "list" #[] 0) }) (kS := ((s.heap.update a (Obj.mapSeq fun _ => (#[] : Array Value))).push (seqObj "tuple" vs.toArray 0)).objs.size) (J := J)
    (by rw [hkS]; exact stab) st (Heap.get?_push_size _ rfl) (Heap.get?_push_of_some _ (Heap.get?_push_of_some _ ho1)) (by rw [hkS]; exact Nat.ne_of_gt (Nat.lt_succ_of_lt ha)) hlen hZ hal hsk hu (by rw [hkS]; exact turn) out h
theorem sortedJ {l : Addr} {f : Value} {kw : List (Str × Value)} {Q : Value → Shared → Prop} {J : List Value → Shared → Prop} (hl : s.heap.IsList l vs.toArray) (hlen : kz.length = vs.length) (hal : PySem.W.AllAlike kz) (hk : PySem.W.Sortable kz) (hL : vs.length ≤ sizeLine)
    (hu : ∀ d, d ∈ kz → A.units + 2 + d.depth < cLine) (ha1 : argsOk "sorted" ⟨[.ref l], kw⟩) (ha2 : ∀ x, argsOk "list.sort" ⟨[.ref x], kw⟩) (ht : ∀ x, Builtin.«list.sort» ⟨[.ref x], kw⟩ = PyProof.Rows.ksk_tree x f false)
    (stab : ∀ ks s' g t, J ks s' → (∀ b o, b ≠ (PySem.W.copyHeap s.heap vs).objs.size + 1 → b ≠ s.heap.objs.size + 1 → s'.heap.get? b = some o → g.get? b = some o) → J ks { s' with heap := g, toks := t })
    (start : ∀ g : Heap, (∀ b o, s.heap.get? b = some o → g.get? b = some o) → J [] { s with heap := g })
    (turn : ∀ (i : Nat) (v : Value) (ks : List Value) (s' : Shared) (o1 o2 : Obj), vs[i]? = some v → ks.length = i → J ks s' → s'.heap.get? ((PySem.W.copyHeap s.heap vs).objs.size + 1) = some o1 → s'.heap.get? (s.heap.objs.size + 1) = some o2 →
      wpAny (model prog w) A.in1.in1 (call f [v]) (fun u s'' => J (ks ++ [u]) s'' ∧ s''.heap.get? ((PySem.W.copyHeap s.heap vs).objs.size + 1) = some o1 ∧ s''.heap.get? (s.heap.objs.size + 1) = some o2) (fun _ _ => False) s')
    (out : ∀ ks s', J ks s' → ks.length = vs.length → PySem.W.EachIs (fun v k => ∃ as, Reads s'.heap v k as) ks kz)
    (h : ∀ s' o c ks, J ks s' → s'.heap.get? (s.heap.objs.size + 1) = some (seqObj "list" (List.toArray o) c) → PySem.W.KeyedOut false kz vs o → Q (.ref (s.heap.objs.size + 1)) s') :
    wpAny (model prog w) A (call (.builtin "sorted") [.ref l] kw) Q E s := by
  have up : ∀ {g : Heap}, (∀ b o, b ≠ s.heap.objs.size + 1 → (PySem.W.copyHeap s.heap vs).get? b = some o → g.get? b = some o) → ∀ b o, s.heap.get? b = some o → g.get? b = some o := fun {g} kp b o q =>
    kp b o (Nat.ne_of_lt (Nat.lt_succ_of_lt (Heap.lt_size q))) (PySem.W.copyHeap_old q)
  refine PySem.W.sorted_of_sort hl hL ha1 ha2 fun E' => ?_
  rw [ht]
  exact keyJ_tree (s := { s with heap := PySem.W.copyHeap s.heap vs }) (PySem.W.copyHeap_at s.heap vs) stab (fun g kp => start g (up kp)) hlen hL hal hk hu turn out fun s' o c ks hJ hD ko => ⟨rfl, h s' o c ks hJ hD ko⟩
end
end DL

namespace DL
open PySem PySem.Spec PyProof.Rows L2 LamX NdefX
variable [Tabl]
instance (p : Heap → Prop) : NT (.ext p) := ⟨fun _ z => by cases z⟩
instance (f : Addr) (F : NF) (b : Expr) : NT (LamO f F b) := ⟨fun _ z => by unfold LamO at z; cases z⟩
instance (c : Addr) (q : Str) : NT (CodeO c q) := ⟨fun _ z => by unfold CodeO at z; cases z⟩
/-! ### data read off the heap -/
section
variable {P : Program} {w : World} {K : PySem.W.Frag} {Hs H : Hp} {h : Heap}
mutual
theorem dd_reads (hok : HOk P w H h) (e : Same Hs H) {v : V} {u : Value} : ∀ {d : PyData}, Dd K Hs v d → d.canLay0 = true → RelV v u → ∃ as, Reads h u d as
  | _, .non, _, r => by
    obtain rfl : u = Value.none := r
    exact ⟨_, .none⟩
  | _, .bl b, _, r => by
    obtain rfl : u = Value.bool b := r
    exact ⟨_, .bool b⟩
  | _, .int i, _, r => by
    obtain ⟨t, rfl⟩ := r
    exact ⟨_, .int i t⟩
  | _, .str x, _, r => by
    obtain ⟨t, rfl⟩ := r
    exact ⟨_, .str x t⟩
  | _, .lst (a := a) ha t, c, r => by
    obtain rfl : u = Value.ref a := r
    obtain ⟨_, its, n, rv, ho⟩ := hok a _ (e _ _ ha)
    obtain ⟨as, q⟩ := dds_reads hok e t (by simpa [PyData.canLay0] using c) rv
    exact ⟨_, .list ho rfl rfl (by simpa using q)⟩
  | _, .tup (a := a) n ha t, c, r => by
    obtain rfl : u = Value.ref a := r
    obtain ⟨_, _, its, rv, o, ho, hc, n, hd⟩ := hok a _ (e _ _ ha)
    obtain ⟨as, q⟩ := dds_reads hok e t (by simpa [PyData.canLay0] using c) rv
    exact ⟨_, .tuple ho hc hd (by simpa using q)⟩
  | _, .scr hq, c, _ => by simp [PyData.canLay0] at c
theorem dds_reads (hok : HOk P w H h) (e : Same Hs H) {vs : List V} {us : List Value} : ∀ {ds : List PyData}, DdAll K Hs vs ds → PyData.canLayAll0 ds = true → Vals vs us → ∃ as, ReadsAll h us ds as
  | _, .nil, _, .nil => ⟨_, .nil⟩
  | _, .cons a t, c, .cons r rs => by
    simp only [PyData.canLayAll0, Bool.and_eq_true] at c
    obtain ⟨as, q⟩ := dd_reads hok e a c.1 r
    obtain ⟨bs, q2⟩ := dds_reads hok e t c.2 rs
    exact ⟨_, .cons q q2⟩
end
end
omit [Tabl] in
def tupC : PyData → Bool
  | .tuple (_ :: _) => true
  | _ => false
omit [Tabl] in
def keysOk (kz : List PyData) : Bool := (kz.all fun d => d.canLay0 && (decide (d.depth ≤ 50) && tupC d)) && kz.all fun d => kz.all fun d' => PySem.W.alike d d'
theorem keysOk_alike {kz : List PyData} (h : keysOk kz = true) : PySem.W.AllAlike kz := fun d hd d' hd' => by
  unfold keysOk at h
  rw [Bool.and_eq_true] at h
  exact List.all_eq_true.mp (List.all_eq_true.mp h.2 d hd) d' hd'
theorem keysOk_one {kz : List PyData} (h : keysOk kz = true) {d : PyData} (hd : d ∈ kz) : d.canLay0 = true ∧ d.depth ≤ 50 ∧ ∃ x r, d = .tuple (x :: r) := by
  unfold keysOk at h
  rw [Bool.and_eq_true] at h
  have := List.all_eq_true.mp h.1 d hd
  rw [Bool.and_eq_true, Bool.and_eq_true, decide_eq_true_iff] at this
  refine ⟨this.1, this.2.1, ?_⟩
  have t := this.2.2
  unfold tupC at t
  split at t
  · exact ⟨_, _, rfl⟩
  · cases t
omit [Tabl] in
/-- what a captured name bears -/
def capR (ρ : Rho) (js : List Nat) : Rho := js.map fun j => (ρ[j]?).getD none
omit [Tabl] in
/-- the items by their keys -/
def keyed (kz ds : List PyData) : List PyData := ((kz.zip ds).mergeSort (PySem.W.dataLe false fun p : PyData × PyData => p.1)).map (·.2)
omit [Tabl] in
def keysF (fb : Fn) (cap : Rho) : List PyData → Option (List PyData)
  | [] => some []
  | d :: ds => (fb (some d :: cap)).bind fun k => (keysF fb cap ds).bind fun ks => some (k :: ks)
omit [Tabl] in
def gSortKey (js : List Nat) (fb : Fn) (f : Rho → Option PyData) : Rho → Option (List PyData) := fun ρ => (f ρ).bind fun d => match d with
  | .list ds => (keysF fb (capR ρ js) ds).bind fun kz => if keysOk kz = true ∧ ds.length ≤ 100000 then some (keyed kz ds) else none
  | _ => none
theorem keysF_len {fb : Fn} {cap : Rho} : ∀ {ds kz : List PyData}, keysF fb cap ds = some kz → kz.length = ds.length
  | [], _, h => by cases h; rfl
  | d :: ds, _, h => by
    unfold keysF at h
    obtain ⟨k, h1, h⟩ := bind_some h
    obtain ⟨ks, h2, h⟩ := bind_some h
    cases h
    rw [List.length_cons, List.length_cons, keysF_len h2]
theorem keysF_at {fb : Fn} {cap : Rho} : ∀ {ds kz : List PyData} {i : Nat} {d : PyData}, keysF fb cap ds = some kz → ds[i]? = some d → ∃ k, kz[i]? = some k ∧ fb (some d :: cap) = some k
  | [], _, _, _, _, h => by simp at h
  | x :: ds, _, 0, d, h, hd => by
    unfold keysF at h
    obtain ⟨k, h1, h⟩ := bind_some h
    obtain ⟨ks, h2, h⟩ := bind_some h
    cases h
    cases hd
    exact ⟨k, rfl, h1⟩
  | x :: ds, _, i + 1, d, h, hd => by
    unfold keysF at h
    obtain ⟨k, h1, h⟩ := bind_some h
    obtain ⟨ks, h2, h⟩ := bind_some h
    cases h
    exact keysF_at (i := i) h2 hd

/-! ### the lambda's answer to one item -/
abbrev lamF (X : Cx) (params : Arguments) (scope : Scope) (c' : Addr) : NF := ⟨"<lambda>", X.env.qual ++ "<lambda>", params, [], scope, cloFrom X.env.cells scope.names [], c'⟩
/-- the lambda's words, its names N = its parameter and the captured ones, which stand at js; what it reckons -/
structure LamD (X : Cx) (M : List Nat) (params : Arguments) (scope : Scope) (body : Expr) (N ps fr : List Str) (js : List Nat) (kk : Nat) (fb : Fn) : Prop where
  sc : NScope N ps fr scope
  one : ps.length = 1
  nl : N.length = js.length + 1
  hM : ∀ j ∈ js, M.contains j = false
  free : ∀ y ∈ scope.names, y.2 = .free → X.env.scope.names.lookup y.1 = some .cell ∨ X.env.scope.names.lookup y.1 = some .free
  hfr : ∀ y ∈ fr, (y, NameKind.free) ∈ scope.names
  at_ : js.map (fun j => X.N[j]?) = fr.map some
  bind : ∀ (pm ctv : Value) (c' : Addr) (u : Value), bindArgs (PySem.W.kla_fn "<lambda>" (X.env.qual ++ "<lambda>") params body scope (cloFrom X.env.cells scope.names []) pm (.ref c') ctv) ⟨[u], []⟩ = pure (ps.zip [u])
  body : ∀ (c' f : Addr) (A : Around) (outer : List Env) (s : Shared) (H : Hp) (E : XK), Room kk (A.deeper (envF (lamF X params scope c') f s.heap.objs.size)) → ∃ tb, ED X.K (ncx (L2.CX X.prog X.w) X.prog X.w X.K X.mg X.base N (lamF X params scope c') f A outer s H E) [] body tb fb
section
variable {X : Cx} {M : List Nat} {params : Arguments} {scope : Scope} {body : Expr} {N ps fr : List Str} {js : List Nat} {kk : Nat} {fb : Fn} {pins : List (Addr × Obj)} {σ : L2.St} {ρ : Rho} {s₀ s' : Shared} {H H' Hs Hs' Hs0 H0 : Hp} {ex : List Addr} {f c' : Addr}
theorem capR_sr (L : LamD X M params scope body N ps fr js kk fb) (R : SR X.K M Hs0 H0 Hs H σ ρ) (g : Grow Hs H Hs' H') {v : V} {d : PyData} (hd : Dd X.K Hs' v d) :
    SR X.K [] Hs' H' Hs' H' (startF N [v] (js.map (slotAt σ))) (some d :: capR ρ js) := by
  have e : startF N [v] (js.map (slotAt σ)) = some v :: js.map (slotAt σ) := by
    unfold startF
    rw [List.length_map, L.nl, show js.length + 1 - [v].length - js.length = 0 by simp]
    simp
  rw [e]
  refine ⟨Grow.refl g.sub, by unfold capR; simp, fun i di h _ => ?_, (fun i di h m => by simp at m), (fun i j di dj p h1 h2 m1 => by simp at m1), R.tb.grow g⟩
  cases i with
  | zero =>
    cases h
    exact ⟨v, rfl, hd⟩
  | succ i =>
    rw [List.getElem?_cons_succ] at h ⊢
    unfold capR at h
    rw [List.getElem?_map] at h ⊢
    cases hj : js[i]? with
    | none => rw [hj] at h; cases h
    | some j =>
      rw [hj] at h
      have h : (ρ[j]?).getD none = some di := Option.some.inj h
      have hρ : ρ[j]? = some (some di) := by
        cases q : ρ[j]? with
        | none => rw [q] at h; cases h
        | some o => rw [q] at h; rw [← h]; rfl
      obtain ⟨vj, a, b⟩ := R.frz j di hρ (L.hM j (List.mem_of_getElem? hj))
      exact ⟨vj, by show some (slotAt σ j) = _; rw [slotAt_of a], b.mono g.exs⟩
theorem lam_turn (L : LamD X M params scope body N ps fr js kk fb) (I : Inv X pins σ H s₀) (R : SR X.K M Hs0 H0 Hs H σ ρ) (m : Mid X s₀ H ex H' s') (hex : ∀ a ∈ ex, ∃ o, s'.heap.get? a = some o) (g : Grow Hs H Hs' H') (hf : H' f = some (LamO f (lamF X params scope c') body)) (hc : H' c' = some (CodeO c' (X.env.qual ++ "<lambda>")))
    {v : V} {u : Value} {d k : PyData} (hd : Dd X.K Hs' v d) (rv : RelV v u) (hk : fb (some d :: capR ρ js) = some k) {A : Around} (hA : A.frames = some X.stack) (hr : Room (kk + 1) A) :
    wpAny (model X.prog X.w) A (call (.ref f) [u]) (fun r s'' => ∃ vk H2 Hs2, Mid X s₀ H ex H2 s'' ∧ Grow Hs' H' Hs2 H2 ∧ (∀ a ∈ ex, ∀ o, s'.heap.get? a = some o → s''.heap.get? a = some o) ∧ RelV vk r ∧ Dd X.K Hs2 vk k) (fun _ _ => False) s' := by
  have I' := m.inv I
  have C : CellsAt (lamF X params scope c').cl fr (js.map (slotAt σ)) s'.heap H' := cells_of I' (Caps.made I'.ok L.free L.hfr L.at_)
  have e0 : Env0 X.prog X.w X.K X.mg X.base A X.stack s' H' := ⟨hA, I'.env0.mod, I'.env0.bs, I'.env0.bsz, I'.env0.funs, I'.env0.frf, I'.env0.hok, I'.env0.bare⟩
  have hb := L.body c' f A X.stack s' H' fun _ _ _ => False
  have hr1 : Room kk (A.deeper (envF (lamF X params scope c') f s'.heap.objs.size)) := hr.deeper _
  obtain ⟨tb, hED⟩ := hb hr1
  have q := hED.sm (capR_sr L R g hd) hk (Q := fun vk H2 => ∃ Hs2, Grow Hs' H' Hs2 H2 ∧ Dd X.K Hs2 vk k) fun vk Hs2 H2 g2 d2 => ⟨Hs2, g2, d2⟩
  refine wpAny_call (codeAny_mono (lam_run (F := lamF X params scope c') (ps := ps) (N := N) (fr := fr) (ws := js.map (slotAt σ)) (us := [u]) (vs := [v]) L.sc (fun pm ctv => L.bind pm ctv c' u) hr e0 hf hc C (.cons rv .nil) L.one.symm (fun _ => hED.pe) q) fun r s2 hq => ?_)
  cases r with
  | error e =>
    obtain ⟨_, _, _, _, _, _, _, _, _, _, _, _, z⟩ := hq
    exact z
  | ok fl =>
    cases fl with
    | ret w =>
      obtain ⟨vk, H2, m2, ke, r2, Hs2, g2, d2⟩ := m.call hex hq
      exact ⟨vk, H2, Hs2, m2, g2, ke, r2, d2⟩
    | next => exact False.elim hq
    | brk => exact False.elim hq
    | cont => exact False.elim hq
end

section
variable {X : Cx} {s₀ s : Shared} {H H' : Hp} {ex : List Addr} {pins : List (Addr × Obj)} {σ : L2.St}
theorem Mid.lay {D : Addr} {o : HO} (m : Mid X s₀ H ex H' s) (I : Inv X pins σ H s₀) (ha : D ∈ ex) (new : ObjOk X.prog X.w (L2.upd H' D o) s.heap D o) : Inv X pins σ (L2.upd H' D o) s := by
  have hD := (m.out D ha).1
  have h0 := (m.out D ha).2.2
  have ne : ∀ b u, H' b = some u → b ≠ D := fun b u e z => by rw [z, hD] at e; cases e
  have un : Un (frs X.stack) [] H (L2.upd H' D o) s₀.heap s.heap := by
    refine ⟨m.un.keep, m.un.slot, fun b q e n x => ?_, m.un.there, fun b xs e => ?_, fun b q u e => ?_, fun b ps e => ?_⟩
    · have hb : b ≠ D := fun z => by rw [z, h0] at e; cases e
      rw [upd_ne hb]
      exact m.un.free b q e n x
    · have q := m.un.tups b xs e
      rw [upd_ne (ne b _ q)]
      exact q
    · have q' := m.un.frzs b q u e
      rw [upd_ne (ne b _ q')]
      exact q'
    · obtain ⟨more, q⟩ := m.un.tbls b ps e
      exact ⟨more, by rw [upd_ne (ne b _ q)]; exact q⟩
  have hok : HOk X.prog X.w (L2.upd H' D o) s.heap := fun b u e => by
    by_cases hb : b = D
    · subst hb
      rw [upd_same] at e
      cases e
      exact new
    · rw [upd_ne hb] at e
      refine (m.hok b u e).stay (fun _ _ _ q => q) (fun d q => ?_) fun d xs q => ?_
      · rw [upd_ne (ne d _ q)]; exact q
      · rw [upd_ne (ne d _ q)]; exact q
  obtain ⟨hh, g, d, t, os'⟩ := s
  obtain rfl : os' = s₀.os := m.os
  exact I.call (h' := hh) (g' := g) (d' := d) (t' := t) (ch := []) un hok m.bare (fun b z => absurd z (by simp))
theorem nofr_of (I : Inv X pins σ H s₀) {f : Addr} (hf : s₀.heap.objs.size ≤ f) : f ∉ frs X.stack := fun z => by
  rcases List.mem_cons.mp (I.stkSub _ z) with e | e
  · have h1 := I.lt
    rw [← e] at h1
    exact Nat.lt_irrefl _ (Nat.lt_of_lt_of_le h1 hf)
  · exact I.nofs hf e
theorem Mid.start {g : Heap} (I : Inv X pins σ H s₀) (kp : ∀ b o, s₀.heap.get? b = some o → g.get? b = some o) (hx : ∀ a ∈ ex, s₀.heap.objs.size ≤ a) : Mid X s₀ H ex H { s₀ with heap := g } :=
  ⟨rfl, I.bare, Un.kept kp, I.hok.kept kp, fun a ha => ⟨I.hok.fresh (hx a ha), nofr_of I (hx a ha), Heap.get?_none_of_le (hx a ha)⟩⟩
end
theorem dd_all {K : PySem.W.Frag} {H : Hp} : ∀ {l : List (PyData × (V × PyData))}, (∀ b ∈ l, Dd K H b.2.1 b.2.2) → DdAll K H (l.map (·.2.1)) (l.map (·.2.2))
  | [], _ => .nil
  | b :: l, h => .cons (h b List.mem_cons_self) (dd_all fun x hx => h x (List.mem_cons_of_mem _ hx))
theorem dd_zip {K : PySem.W.Frag} {H : Hp} : ∀ {kz : List PyData} {xs : List V} {ds : List PyData}, DdAll K H xs ds → ∀ b ∈ kz.zip (xs.zip ds), Dd K H b.2.1 b.2.2
  | [], _, _, _, b, hb => by simp at hb
  | _ :: _, _, _, .nil, b, hb => by simp at hb
  | k :: kz, _, _, .cons a t, b, hb => by
    rw [List.zip_cons_cons, List.zip_cons_cons] at hb
    rcases List.mem_cons.mp hb with rfl | hb
    · exact a
    · exact dd_zip t b hb
theorem each_zip : ∀ {kz : List PyData} {xs : List V} {ds : List PyData} {us : List Value}, kz.length = xs.length → ds.length = xs.length → Vals xs us → PySem.W.EachIs (fun u (b : PyData × (V × PyData)) => RelV b.2.1 u) us (kz.zip (xs.zip ds))
  | [], [], [], _, _, _, .nil => .nil
  | k :: kz, x :: xs, d :: ds, _, h1, h2, .cons r rs => .cons r (each_zip (by simpa using h1) (by simpa using h2) rs)
theorem vals_each : ∀ {us : List Value} {l : List (PyData × (V × PyData))}, PySem.W.EachIs (fun u (b : PyData × (V × PyData)) => RelV b.2.1 u) us l → Vals (l.map (·.2.1)) us
  | _, _, .nil => .nil
  | _, _, .cons r rs => .cons r (vals_each rs)
theorem zip_fst {α β : Type} : ∀ {l : List α} {m : List β}, l.length = m.length → (l.zip m).map (·.1) = l
  | [], [], _ => rfl
  | a :: l, b :: m, h => by rw [List.zip_cons_cons, List.map_cons, zip_fst (by simpa using h)]
theorem zip_drop : ∀ {kz : List PyData} {xs : List V} {ds : List PyData}, kz.length = xs.length → ds.length = xs.length → (kz.zip (xs.zip ds)).map (fun b => (b.1, b.2.2)) = kz.zip ds
  | [], [], [], _, _ => rfl
  | k :: kz, x :: xs, d :: ds, h1, h2 => by
    rw [List.zip_cons_cons, List.zip_cons_cons, List.map_cons, zip_drop (by simpa using h1) (by simpa using h2)]
    rfl
theorem reads_each {P : Program} {w : World} {K : PySem.W.Frag} {Hs H : Hp} {h : Heap} (hok : HOk P w H h) (e : Same Hs H) : ∀ {vks : List V} {ks : List Value} {kz : List PyData}, DdAll K Hs vks kz → Vals vks ks → (∀ d ∈ kz, d.canLay0 = true) → PySem.W.EachIs (fun v k => ∃ as, Reads h v k as) ks kz
  | _, _, _, .nil, .nil, _ => .nil
  | _, _, _, .cons a t, .cons r rs, c => .cons (dd_reads hok e a (c _ List.mem_cons_self) r) (reads_each hok e t rs fun d hd => c d (List.mem_cons_of_mem _ hd))
end DL

namespace DL
open PySem PySem.Spec PyProof.Rows L2 LamX NdefX
variable [Tabl]
/-! ### sorted(xs, key=lambda ..) -/
section
variable {X : Cx} {M : List Nat} {params : Arguments} {scope : Scope} {body : Expr} {N ps fr : List Str} {js : List Nat} {kk : Nat} {fb : Fn}
/-- the call, by the lambda's object and the list -/
def rSortK (X : Cx) (M : List Nat) (params : Arguments) (scope : Scope) (body : Expr) (js : List Nat) (fb : Fn) (σ : L2.St) (x fv : V) (H : Hp) (Q : VK) : Prop :=
  ∃ (l f c' : Addr) (Hs0 H0 Hs : Hp) (ρ : Rho) (xs : List V) (ds kz : List PyData), x = .ref l ∧ fv = .ref f ∧ SR X.K M Hs0 H0 Hs H σ ρ ∧ SqL X.K H l xs ∧ DdAll X.K Hs xs ds ∧ H f = some (LamO f (lamF X params scope c') body) ∧ H c' = some (CodeO c' (X.env.qual ++ "<lambda>")) ∧
    keysF fb (capR ρ js) ds = some kz ∧ keysOk kz = true ∧ ds.length ≤ 100000 ∧ ∀ p ys H' Hs', Grow Hs H Hs' H' → H p = none → Hs' p = none → H' p = some (.lst ys) → DdAll X.K Hs' ys (keyed kz ds) → Q (.ref p) H'
theorem run_sortK (L : LamD X M params scope body N ps fr js kk fb) (hr : Room (kk + 3) X.A) {pins : List (Addr × Obj)} {σ : L2.St} {H : Hp} {s : Shared} {x fv : V} {u fu : Value} {Q : VK} (I : Inv X pins σ H s) (rx : RelV x u) (rf : RelV fv fu) (h : rSortK X M params scope body js fb σ x fv H Q) :
    wpAny (model X.prog X.w) X.A (call (.builtin "sorted") [u] [(Str.ofString "key", fu)]) (EP X pins σ Q) X.xe s := by
  obtain ⟨l, f, c', Hs0, H0, Hs, ρ, xs, ds, kz, rfl, rfl, R, hq, hd, hf, hc, hk, hok, hz, q⟩ := h
  obtain rfl : u = Value.ref l := rx
  obtain rfl : fu = Value.ref f := rf
  obtain ⟨its, rv, pl, hz2⟩ := I.list hq
  have e1 : xs.length = ds.length := hd.length
  have e2 : kz.length = ds.length := keysF_len hk
  have e3 : xs.length = its.length := rv.length
  have hal := keysOk_alike hok
  have hone : ∀ d ∈ kz, d.canLay0 = true ∧ d.depth ≤ 50 ∧ ∃ x r, d = .tuple (x :: r) := fun d hd => keysOk_one hok hd
  have hrm := hr.un
  have hsz : (PySem.W.copyHeap s.heap its).objs.size = s.heap.objs.size + 2 := by
    unfold PySem.W.copyHeap
    rw [size_push', Heap.size_update, size_push']
  let D : Addr := s.heap.objs.size + 1
  let kS : Addr := (PySem.W.copyHeap s.heap its).objs.size + 1
  have hx : ∀ a ∈ [D, kS], s.heap.objs.size ≤ a := fun a ha => by
    rcases List.mem_cons.mp ha with rfl | ha
    · exact Nat.le_succ _
    · rw [List.mem_singleton.mp ha]
      show s.heap.objs.size ≤ (PySem.W.copyHeap s.heap its).objs.size + 1
      rw [hsz]
      exact Nat.le_succ_of_le (Nat.le_succ_of_le (Nat.le_succ _))
  refine sortedJ (kz := kz) (J := fun ks s' => ∃ H' Hs' vks, Mid X s H [D, kS] H' s' ∧ Grow Hs H Hs' H' ∧ Vals vks ks ∧ DdAll X.K Hs' vks (kz.take ks.length)) pl.isList (by omega) hal (.inl fun d hd => (hone d hd).2.2) (by rw [sizeLine_eq]; omega) (fun d hd => ?_) (ksk_s1 _ _) (fun _ => ksk_l1 _ _) (fun x => ksk_t1 f x) ?_ ?_ ?_ ?_ ?_
  · have := (hone d hd).2.1
    omega
  · rintro ks s' g t ⟨H', Hs', vks, m, gg, r1, r2⟩ k
    refine ⟨H', Hs', vks, m.stab fun b o hb e => k b o (fun z => hb ?_) (fun z => hb ?_) e, gg, r1, r2⟩
    · rw [z]; exact List.mem_cons_of_mem _ (List.mem_singleton.mpr rfl)
    · rw [z]; exact List.mem_cons_self
  · intro g kp
    exact ⟨H, Hs, [], Mid.start I kp hx, Grow.refl R.sub, .nil, .nil⟩
  · rintro i v ks s' o1 o2 hv hi ⟨H', Hs', vks, m, gg, r1, r2⟩ h1 h2
    have hil : i < its.length := (List.getElem?_eq_some_iff.mp hv).1
    have hds : ds[i]? = some ds[i] := List.getElem?_eq_getElem (by omega)
    obtain ⟨xv, hxv, dxv⟩ := hd.get hds
    obtain ⟨u', hu', ru⟩ := rv.get hxv
    rw [hv] at hu'
    obtain rfl := Option.some.inj hu'
    obtain ⟨k, hk1, hk2⟩ := keysF_at hk hds
    refine wpAny_mono (lam_turn L I R m (fun a ha => ?_) gg (gg.ex _ _ hf) (gg.ex _ _ hc) (dxv.mono gg.exs) ru hk2 (A := X.A.in1.in1) (by show X.A.frames = _; exact I.ok.frames) ((hr.in1).in1)) (fun r s'' hh => ?_) fun _ _ z => z
    · rcases List.mem_cons.mp ha with rfl | ha
      · exact ⟨o2, h2⟩
      · rw [List.mem_singleton.mp ha]
        exact ⟨o1, h1⟩
    · obtain ⟨vk, H2, Hs2, m2, g2, ke, rr, dk⟩ := hh
      refine ⟨⟨H2, Hs2, vks ++ [vk], m2, gg.trans g2, r1.append (.cons rr .nil), ?_⟩, ke kS (by simp) _ h1, ke D (by simp) _ h2⟩
      have et : kz.take (ks ++ [r]).length = kz.take ks.length ++ [k] := by
        rw [List.length_append, List.length_singleton, List.take_add_one, hi, hk1]
        rfl
      rw [et]
      exact (r2.mono g2.exs).append (.cons dk .nil)
  · rintro ks s' ⟨H', Hs', vks, m, gg, r1, r2⟩ hl
    rw [List.take_of_length_le (by omega)] at r2
    exact reads_each m.hok gg.sub r2 r1 fun d hd => (hone d hd).1
  · rintro s' o c ks ⟨H', Hs', vks, m, gg, r1, r2⟩ hD ko
    have eb : (kz.zip (xs.zip ds)).map (·.1) = kz := zip_fst (by rw [List.length_zip]; omega)
    have ee := PySem.W.keyedOut_each (rev := false) (bs := kz.zip (xs.zip ds)) (fun b => b.1) (by rw [eb]; exact ko) (each_zip (by omega) (by omega) rv)
    have ed : ((kz.zip (xs.zip ds)).mergeSort (PySem.W.dataLe false fun b => b.1)).map (·.2.2) = keyed kz ds := by
      unfold keyed
      rw [← zip_drop (by omega) (by omega : ds.length = xs.length), ← List.map_mergeSort (r := PySem.W.dataLe false fun b : PyData × (V × PyData) => b.1) (f := fun b => (b.1, b.2.2)) (fun a _ b _ => rfl), List.map_map]
      rfl
    have pm := List.mergeSort_perm (kz.zip (xs.zip ds)) (PySem.W.dataLe false fun b => b.1)
    generalize (kz.zip (xs.zip ds)).mergeSort (PySem.W.dataLe false fun b => b.1) = bs at ee ed pm
    have dd : DdAll X.K Hs' (bs.map (·.2.1)) (bs.map (·.2.2)) := dd_all fun b hb => (dd_zip hd b (pm.mem_iff.mp hb)).mono gg.exs
    have hv := vals_each ee
    have hlen : (bs.map (·.2.1)).length ≤ sizeLine := by
      rw [List.length_map, pm.length_eq, List.length_zip, List.length_zip, sizeLine_eq]
      omega
    have J := m.lay (o := .lst (bs.map (·.2.1))) I List.mem_cons_self ⟨hlen, o, c, hv, hD⟩
    have hDn := (m.out D List.mem_cons_self).1
    refine ⟨.ref D, _, J, rfl, q D (bs.map (·.2.1)) _ Hs' (gg.trans (Grow.alloc0 gg.sub hDn)) (gg.ex.free hDn) (gg.sub.free hDn) upd_same ?_⟩
    rw [← ed]
    exact dd
/-- the reading of the whole call -/
def tSortK (X : Cx) (P : Addr) (M : List Nat) (params : Arguments) (scope : Scope) (body : Expr) (js : List Nat) (fb : Fn) (ta : TE) : TE := fun σ H Q => ta σ H fun x H1 => tLamE X P params body scope σ H1 fun fv H2 => rSortK X M params scope body js fb σ x fv H2 Q
/-- where the lambda's code object is kept -/
structure LamP (X : Cx) (params : Arguments) (c P : Addr) : Prop where
  TB : TabB X.base X.mg c P
  code : X.env.code = .ref c
  mem : (P, X.env.qual ++ "<lambda>") ∈ Tabl.T
  uniq : ∀ p ∈ Tabl.T, p.1 = P → p.2 = X.env.qual ++ "<lambda>"
  dflt : defaultsOf params X.env = ([], [])
theorem fd_sortKey {c P : Addr} {a : Expr} {ta : TE} {fa : Fn} {p pos lp kp : Pos} (ha : ED X.K X M a ta fa) (LP : LamP X params c P) (L : LamD X M params scope body N ps fr js kk fb) (hr : Room (kk + 3) X.A) (hm : X.mg "sorted" = none) (hg : Gl X "sorted" := by rfl)
    (hs0 : starEach [a] X.env = (false, eval a X.env) :: starEach [] X.env := by rfl)
    (he : backTo pos (starEach [a] X.env) = (false, eval a X.env) :: backTo pos (starEach [] X.env) := by rfl) (hpl : (backTo pos (starEach [a] X.env)).any (·.1) = false := by rfl)
    (hall : (backToKw pos (keywordEach [⟨some "key", .Lambda params body scope lp, kp⟩] X.env)).all (·.1.isSome) = true := by rfl) (hnone : (backToKw pos (keywordEach [⟨some "key", .Lambda params body scope lp, kp⟩] X.env)).any (·.1.isNone) = false := by rfl) (hks : (backToKw pos (keywordEach [⟨some "key", .Lambda params body scope lp, kp⟩] X.env)).filterMap (·.1) = [Str.ofString "key"] := by rfl) :
    FD X.K X M (.Call (.Name "sorted" p) [a] [⟨some "key", .Lambda params body scope lp, kp⟩] pos) (tSortK X P M params scope body js fb ta) (gSortKey js fb fa) := by
  refine ⟨⟨fun pins s σ H Q I h => ?_⟩, fun {Hs0 H0 Hs H σ ρ ds Q} R hf q => ?_⟩
  · have hk : PK X [⟨some "key", .Lambda params body scope lp, kp⟩] (tCons (tLamE X P params body scope) tNil) := pk_cons (pe_lambda LP.TB LP.code LP.mem LP.uniq LP.dflt L.free) pk_nil
    have hpa : PA X [a] (tCons ta tNil) := pa_cons ha.pe pa_nil hs0
    refine wpAny_Call_Name_kw (ld_blt I hg hm boot_sorted ?_ (by decide) (by decide))
    refine PyProof.Rows.callWith_kw (L2.thn (hpa.run pos pins s σ H (fun vs H1 => match vs with
      | [x] => tLamE X P params body scope σ H1 fun fv H2 => rSortK X M params scope body js fb σ x fv H2 Q
      | _ => False) I h) fun us s1 ⟨vs, H1, I1, r1, q1⟩ => ?_) he hpl hall hnone
    match vs, r1, q1 with
    | [x], .cons rx .nil, q1 =>
      refine L2.thn (hk.run pos pins s1 σ H1 (fun ws H2 => match ws with
        | [fv] => rSortK X M params scope body js fb σ x fv H2 Q
        | _ => False) I1 q1) fun ws s2 ⟨zs, H2, I2, r2, q2⟩ => ?_
      match zs, r2, q2 with
      | [fv], .cons rf .nil, q2 =>
        rw [hks]
        exact run_sortK L hr I2 rx rf q2
  · unfold gSortKey at hf
    obtain ⟨d, h1, hf⟩ := bind_some hf
    refine ha.sm R h1 fun v Hs1 H1 g1 d1 => ⟨(R.grow g1).tb.1, fun f c' H2 kt kb hn hlam hcode => ?_⟩
    cases d1 with
    | @lst l xs ds0 hp t =>
      obtain ⟨kz, h2, hf⟩ := bind_some hf
      obtain ⟨⟨c1, c2⟩, rfl⟩ := ite_some hf
      have s2 : Same Hs1 H2 := fun b o e => kb b o (fun z => by
        have := (R.grow g1).tb.2 _ LP.mem
        rw [z] at e
        rw [show Hs1 P = none from this] at e
        cases e) (g1.sub b o e)
      have g2 : Grow Hs1 H1 Hs1 H2 := ⟨kt, Same.refl _, s2, fun _ e _ => e⟩
      have R2 := (R.grow g1).grow g2
      exact ⟨l, f, c', _, _, Hs1, ρ, xs, ds0, kz, rfl, rfl, R2, sqL_of (s2 _ _ hp), t, hlam, hcode, h2, c1, c2, fun p ys H' Hs' gg hp1 hp2 hp3 dd => q p ys Hs' H' ((g1.trans g2).trans gg) ((g1.trans g2).ex.free hp1) hp2 hp3 dd⟩
    | _ => cases hf
end
end DL

namespace DL
open PySem PySem.Spec PyProof.Rows L2 LamX NdefX
variable [Tabl]
/-! ### min(xs, key=f): what stands of the best so far (J) and of it and a newer one (J2) -/
structure KeyJ (prog : Program) (w : World) (A : Around) (q : Value) (S : Addr) (wr : List Addr) (G : Array GenState → Array GenState → Prop) (n : Nat) (P : Nat → Value → Prop) (St : Nat → Shared → Prop) (J0 : Shared → Prop) (J : Nat → Value → Shared → Prop) (J2 : Nat → Value → Nat → Value → Shared → Prop) (bt : Nat → Nat → Bool) : Prop where
  keep0 : ∀ s s', J0 s → Moved (S :: wr) G s s' → J0 s'
  keep : ∀ b kb s s', J b kb s → Moved (S :: wr) G s s' → J b kb s'
  turn0 : ∀ v (s : Shared) (o : Obj) (Q : Value → Shared → Prop) (E : Value → Shared → Prop), 0 < n → P 0 v → J0 s → St 1 s → s.heap.get? S = some o →
    (∀ k s', J 0 k s' → St 1 s' → s'.heap.get? S = some o → Q k s') → wpAny (model prog w) A (call q [v]) Q E s
  turn : ∀ b kb i v (s : Shared) (o : Obj) (Q : Value → Shared → Prop) (E : Value → Shared → Prop), i < n → P i v → J b kb s → St (i + 1) s → s.heap.get? S = some o →
    (∀ k s', J2 b kb i k s' → St (i + 1) s' → s'.heap.get? S = some o → Q k s') → wpAny (model prog w) A (call q [v]) Q E s
  cmp : ∀ b kb i k (s : Shared) (Q : Value → Shared → Prop) (E : Value → Shared → Prop), J2 b kb i k s → Q (.bool (bt i b)) s → wpAny (model prog w) A (richCompare .Lt k kb) Q E s
  win : ∀ b kb i k s, J2 b kb i k s → J i k s
  lose : ∀ b kb i k s, J2 b kb i k s → J b kb s
section
variable {prog : Program} {w : World} {A : Around} {R : Result → Shared → Prop} {I : Addr} {fp wr : List Addr} {G : Array GenState → Array GenState → Prop} {n : Nat} {P : Nat → Value → Prop} {St : Nat → Shared → Prop} {J0 : Shared → Prop} {J : Nat → Value → Shared → Prop} {J2 : Nat → Value → Nat → Value → Shared → Prop} {bt : Nat → Nat → Bool} {q : Addr} {E : Value → Shared → Prop} {s : Shared}
theorem minJ_loop (W : WalksS prog w A.in1 I fp wr G n P St) (S : Addr) (hSf : S ∉ fp) (K : KeyJ prog w A.in1 (.ref q) S wr G n P St J0 J J2 bt) (kw : List (Str × Value)) :
    ∀ (k j : Nat) (s : Shared) (vb kb : Value) (c : Nat), n - (j + 1) = k → j + 1 ≤ n → J (argBest bt j) kb s → St (j + 1) s → P (argBest bt j) vb →
    s.heap.get? S = some { cls := .type "list", dict := none, data := .seq #[vb, kb] c, slots := #[] } →
    (∀ v s' kb', P (argBest bt (n - 1)) v → J (argBest bt (n - 1)) kb' s' → R (.ok (.ret v)) s') → codeAny (model prog w) A (.builtin "min.loop" ⟨[.ref I, (.ref q), .ref S], kw⟩) R s := by
  have hSw : S ∉ wr := fun h => hSf (W.sub _ h)
  have up : ∀ b ∈ wr, b ∈ S :: wr := fun b hb => List.mem_cons_of_mem _ hb
  have nm : (toString "min" ++ toString ".loop" : String) = "min.loop" := by decide
  have nS : ∀ {b : Addr}, b ∉ S :: wr → S ≠ b := fun hb h => hb (by rw [h]; exact List.mem_cons_self)
  intro k
  induction k with
  | zero =>
    intro j s vb kb c hk hj hJ hst hPb hS hR
    have hin : j + 1 = n := by omega
    refine codeAny_builtin F.entry_min_loop ?_
    rw [Around.under_plainId F.plain_min_loop _]
    show wpAny _ A.in1 (seqItems? (.ref S) >>= _) _ _ s
    refine wpAny_bind (wpAny_seqItems hS rfl ?_)
    show wpAny _ A.in1 (tryCatch (pyNext (.ref I)) _ >>= _) _ _ s
    refine wpAny_bind (wpAny_tryCatch (W.done s _ _ (hin ▸ hst) fun s' hm => ?_))
    have hS' := hm.heap S _ hSw hS
    show wpAny _ A.in1 (updateSeq S (fun _ => #[]) >>= _) _ _ _
    refine wpAny_bind ?_
    refine wpAny_updateSeq hS' rfl (wpAny_bind (wpAny_letGo (wpAny_pure ?_)))
    rw [show j = n - 1 by omega] at hPb hJ
    exact hR vb _ kb hPb (K.keep _ _ _ _ hJ ((hm.mono up).then_heap (tk := s'.toks) (Nat.le_refl _) fun b o hb e => (Heap.get?_update_other _ _ (nS hb)).trans e))
  | succ k ih =>
    intro j s vb kb c hk hj hJ hst hPb hS hR
    have hlt : j + 1 < n := by omega
    refine codeAny_builtin F.entry_min_loop ?_
    rw [Around.under_plainId F.plain_min_loop _]
    show wpAny _ A.in1 (seqItems? (.ref S) >>= _) _ _ s
    refine wpAny_bind (wpAny_seqItems hS rfl ?_)
    show wpAny _ A.in1 (tryCatch (pyNext (.ref I)) _ >>= _) _ _ s
    refine wpAny_bind (wpAny_tryCatch (W.item (j + 1) s _ _ hlt hst fun v s' hP hst' hm => ?_))
    have hS' := hm.heap S _ hSw hS
    have hJ' := K.keep _ _ _ _ hJ (hm.mono up)
    show wpAny _ A.in1 (tryCatch (holding [v] (call (.ref q) [v])) _ >>= _) _ _ _
    refine wpAny_bind (wpAny_tryCatch (wpAny_holding (K.turn _ _ (j + 1) v s' _ _ _ hlt hP hJ' hst' hS' fun kx s'' hJ2 hst2 hS2 => ?_)))
    show wpAny _ A.in1 (tryCatch (holding [v, kx] (richCompare .Lt kx kb >>= _)) _ >>= _) _ _ _
    refine wpAny_bind (wpAny_tryCatch (wpAny_holding (wpAny_bind (K.cmp _ _ (j + 1) kx s'' _ _ hJ2 ?_))))
    refine wpAny_bind (wpAny_holding (wpAny_truthy_bool ?_))
    refine wpAny_bind (wpAny_letGo (wpAny_pure ?_))
    cases hb : bt (j + 1) (argBest bt j) with
    | true =>
      simp only [if_true]
      refine wpAny_bind ?_
      refine wpAny_updateSeq hS2 rfl (wpAny_bind (wpAny_letGo ?_))
      rw [nm]
      have hm2 : Moved (S :: wr) G s'' { s'' with heap := s''.heap.update S (Obj.mapSeq fun _ => #[v, kx]), toks := s''.toks } := (Moved.refl W.grefl).then_heap (tk := s''.toks) (Nat.le_refl _) fun b o hb e => (Heap.get?_update_other _ _ (nS hb)).trans e
      have eb : argBest bt (j + 1) = j + 1 := by simp only [argBest, hb, if_true]
      refine wpAny_pure ⟨plainId_quiet F.plain_min_loop _, ih (j + 1) _ v kx _ (by omega) hlt (by rw [eb]; exact K.keep _ _ _ _ (K.win _ _ _ _ _ hJ2) hm2) (W.frame _ s'' _ s''.toks hst2 (Nat.le_refl _) fun b hbf o e => ?_) (by rw [eb]; exact hP) (Heap.get?_update_self _ hS2 rfl) hR⟩
      exact (Heap.get?_update_other _ _ (fun h : S = b => hSf (by rw [h]; exact hbf))).trans e
    | false =>
      simp only [Bool.false_eq_true, if_false]
      refine wpAny_bind (wpAny_letGo ?_)
      rw [nm]
      have eb : argBest bt (j + 1) = argBest bt j := by simp only [argBest, hb, Bool.false_eq_true, if_false]
      exact wpAny_pure ⟨plainId_quiet F.plain_min_loop _, ih (j + 1) _ vb kb c (by omega) hlt (by rw [eb]; exact K.lose _ _ _ _ _ hJ2) hst2 (by rw [eb]; exact hPb) hS2 hR⟩
theorem minJ_first (W : WalksS prog w A.in1 I fp wr G n P St) (S : Addr) (hSf : S ∉ fp) (K : KeyJ prog w A.in1 (.ref q) S wr G n P St J0 J J2 bt) (kw : List (Str × Value)) (hn : 0 < n) {s : Shared} {c : Nat} (hJ : J0 s) (hst : St 0 s)
    (hS : s.heap.get? S = some { cls := .type "list", dict := none, data := .seq #[] c, slots := #[] })
    (hR : ∀ v s' kb, P (argBest bt (n - 1)) v → J (argBest bt (n - 1)) kb s' → R (.ok (.ret v)) s') : codeAny (model prog w) A (.builtin "min.loop" ⟨[.ref I, (.ref q), .ref S], kw⟩) R s := by
  have hSw : S ∉ wr := fun h => hSf (W.sub _ h)
  have up : ∀ b ∈ wr, b ∈ S :: wr := fun b hb => List.mem_cons_of_mem _ hb
  have nm : (toString "min" ++ toString ".loop" : String) = "min.loop" := by decide
  have nS : ∀ {b : Addr}, b ∉ S :: wr → S ≠ b := fun hb h => hb (by rw [h]; exact List.mem_cons_self)
  refine codeAny_builtin F.entry_min_loop ?_
  rw [Around.under_plainId F.plain_min_loop _]
  show wpAny _ A.in1 (seqItems? (.ref S) >>= _) _ _ s
  refine wpAny_bind (wpAny_seqItems hS rfl ?_)
  show wpAny _ A.in1 (tryCatch (pyNext (.ref I)) _ >>= _) _ _ s
  refine wpAny_bind (wpAny_tryCatch (W.item 0 s _ _ hn hst fun v s' hP hst' hm => ?_))
  have hS' := hm.heap S _ hSw hS
  have hJ' := K.keep0 _ _ hJ (hm.mono up)
  show wpAny _ A.in1 (tryCatch (holding [v] (call (.ref q) [v])) _ >>= _) _ _ _
  refine wpAny_bind (wpAny_tryCatch (wpAny_holding (K.turn0 v s' _ _ _ hn hP hJ' hst' hS' fun kx s'' hJ2 hst2 hS2 => ?_)))
  show wpAny _ A.in1 (updateSeq S (fun _ => #[v, kx]) >>= _) _ _ _
  refine wpAny_bind ?_
  refine wpAny_updateSeq hS2 rfl ?_
  rw [nm]
  have hm2 : Moved (S :: wr) G s'' { s'' with heap := s''.heap.update S (Obj.mapSeq fun _ => #[v, kx]), toks := s''.toks } := (Moved.refl W.grefl).then_heap (tk := s''.toks) (Nat.le_refl _) fun b o hb e => (Heap.get?_update_other _ _ (nS hb)).trans e
  refine wpAny_pure ⟨plainId_quiet F.plain_min_loop _, minJ_loop W S hSf K kw _ 0 _ v kx _ rfl hn (K.keep _ _ _ _ hJ2 hm2) (W.frame _ s'' _ s''.toks hst2 (Nat.le_refl _) fun b hbf o e => ?_) hP (Heap.get?_update_self _ hS2 rfl) hR⟩
  exact (Heap.get?_update_other _ _ (fun h : S = b => hSf (by rw [h]; exact hbf))).trans e
/-- min(x, key=f) -/
theorem call_minJ {x : Value} {Q : Value → Shared → Prop}
    (h : wpAny (model prog w) A.in1 (pyIter x) (fun it s₂ => ∃ I fp wr G n P St J0 J J2 bt, it = .ref I ∧ WalksS prog w A.in1 I fp wr G n P St ∧ St 0 s₂ ∧ (∀ b ∈ fp, b < s₂.heap.objs.size) ∧ 0 < n ∧
      KeyJ prog w A.in1 (.ref q) s₂.heap.objs.size wr G n P St J0 J J2 bt ∧ J0 s₂ ∧ ∀ v s' kb, P (argBest bt (n - 1)) v → J (argBest bt (n - 1)) kb s' → Q v s') E s) :
    wpAny (model prog w) A (call (.builtin "min") [x] [(Str.ofString "key", .ref q)]) Q E s := by
  have nm : (toString "min" ++ toString ".loop" : String) = "min.loop" := by decide
  refine PyProof.Rows.kmk_tree F.kind_min F.plain_min F.entry_min (PyProof.Rows.kmk_min_key _ _) ?_
  show wpAny _ A.in1 (Builtin.Builtins.bindParams "min" ["key", "default"] 0 ⟨[], [(Str.ofString "key", .ref q)]⟩ >>= _) _ _ s
  refine wpAny_bind (wpAny_of_eq (show Builtin.Builtins.bindParams "min" ["key", "default"] 0 ⟨[], [(Str.ofString "key", .ref q)]⟩ = pure [some (.ref q), none] from rfl) ?_)
  refine wpAny_bind (wpAny_pure ?_)
  refine wpAny_bind (wpAny_mono h (fun it s₂ h₂ => ?_) fun _ _ e => e)
  obtain ⟨I, fp, wr, G, n, P, St, J0, J, J2, bt, rfl, W, hst, hfp, hn, K, hJ, hQ⟩ := h₂
  refine wpAny_bind (wpAny_newObj_type ?_)
  have hSf : s₂.heap.objs.size ∉ fp := fun hm => Nat.lt_irrefl _ (hfp _ hm)
  rw [nm]
  have hm0 : Moved (s₂.heap.objs.size :: wr) G s₂ { s₂ with heap := s₂.heap.push { cls := .type "list", data := .seq #[] 0 }, toks := s₂.toks } := (Moved.refl W.grefl).then_heap (tk := s₂.toks) (Nat.le_refl _) fun b o _ e => Heap.get?_push_of_some _ e
  have hst' := W.frame 0 s₂ (s₂.heap.push { cls := .type "list", data := .seq #[] 0 }) s₂.toks hst (Nat.le_refl _) fun b _ o e => Heap.get?_push_of_some _ e
  exact wpAny_pure ⟨plainId_quiet F.plain_min_loop _, minJ_first W s₂.heap.objs.size hSf K _ hn (K.keep0 _ _ hJ hm0) hst' (Heap.get?_push_size _ rfl) hQ⟩
end
end DL

namespace DL
open PySem PySem.Spec PyProof.Rows L2 LamX NdefX
/-! ### texts in order -/
def leS (a b : Str) : Bool := !ltCps b.cps.toList a.cps.toList
theorem leS_iff {a b : Str} : leS a b = true ↔ a.cps.toList ≤ b.cps.toList := by
  unfold leS
  rw [ltCps_eq]
  simp [List.not_lt]
theorem leS_trans {a b c : Str} (h1 : leS a b = true) (h2 : leS b c = true) : leS a c = true := leS_iff.mpr (List.le_trans (leS_iff.mp h1) (leS_iff.mp h2))
theorem leS_total (a b : Str) : leS a b = true ∨ leS b a = true := (List.le_total a.cps.toList b.cps.toList).imp leS_iff.mpr leS_iff.mpr
theorem leS_anti {a b : Str} (h1 : leS a b = true) (h2 : leS b a = true) : a = b := PySem.W.str_of_cps (List.le_antisymm (leS_iff.mp h1) (leS_iff.mp h2))
def ssort (xs : List Str) : List Str := xs.mergeSort leS
theorem ssort_perm (xs : List Str) : (ssort xs).Perm xs := List.mergeSort_perm _ _
theorem ssort_pair (xs : List Str) : (ssort xs).Pairwise fun a b => leS a b = true := List.pairwise_mergeSort (le := leS) (fun a b c => leS_trans) (fun a b => by rw [Bool.or_eq_true]; exact leS_total a b) xs
theorem rising_pair : ∀ (p : Str) (l : List Str), risingS p l = true → (p :: l).Pairwise fun a b => leS a b = true
  | p, [], _ => List.pairwise_singleton _ _
  | p, x :: r, h => by
    have h' : leS p x = true ∧ risingS x r = true := by
      have : (!ltCps x.cps.toList p.cps.toList && risingS x r) = true := h
      rwa [Bool.and_eq_true] at this
    have ih := rising_pair x r h'.2
    refine List.pairwise_cons.mpr ⟨fun b hb => ?_, ih⟩
    rcases List.mem_cons.mp hb with rfl | hb
    · exact h'.1
    · exact leS_trans h'.1 ((List.pairwise_cons.mp ih).1 b hb)
theorem sortedS_pair : ∀ {l : List Str}, sortedS l = true → l.Pairwise fun a b => leS a b = true
  | [], _ => .nil
  | x :: r, h => rising_pair x r h
theorem pair_one {l m : List Str} (p : l.Perm m) (hl : l.Pairwise fun a b => leS a b = true) (hm : m.Pairwise fun a b => leS a b = true) : l = m :=
  List.Perm.eq_of_pairwise (fun a b _ _ => leS_anti) hl hm p
theorem ssort_of {xs ys : List Str} (p : ys.Perm xs) (h : sortedS ys = true) : ys = ssort xs := pair_one (p.trans (ssort_perm xs).symm) (sortedS_pair h) (ssort_pair xs)
theorem ssort_eq {xs ys : List Str} (p : xs.Perm ys) : ssort xs = ssort ys := pair_one ((ssort_perm xs).trans (p.trans (ssort_perm ys).symm)) (ssort_pair xs) (ssort_pair ys)
/-- the least text -/
def minS (x : Str) (xs : List Str) : Str := xs.foldl (fun a y => if ltCps y.cps.toList a.cps.toList then y else a) x
theorem minD_strs : ∀ (xs : List Str) (x : Str), PySem.W.minD (.str x) (xs.map .str) = .str (minS x xs)
  | [], x => rfl
  | y :: ys, x => by
    have e : (if PySem.W.dataLt (.str y) (.str x) = true then PyData.str y else .str x) = .str (if ltCps y.cps.toList x.cps.toList then y else x) := by
      rw [PySem.W.dataLt_str, ltCps_eq]
      split <;> rfl
    have ih := minD_strs ys (if ltCps y.cps.toList x.cps.toList then y else x)
    unfold PySem.W.minD at ih ⊢
    rw [List.map_cons, List.foldl_cons, e, ih]
    rfl
@[simp] def gSortS : List PyData → Option PyData := fun xs => match xs with
  | [.list ds] => (strsD ds).bind fun ys => if ys.length < 64 then some (.list ((ssort ys).map .str)) else none
  | _ => none
@[simp] def gMinS : List PyData → Option PyData := fun xs => match xs with
  | [.list ds] => (strsD ds).bind fun ys => match ys with
    | [] => none
    | x :: r => some (.str (minS x r))
  | _ => none
variable [Tabl]
section
variable {K : PySem.W.Frag} {X : Cx}
theorem bd_sortedS (hK : X.K = K := by rfl) : BD K X (.builtin "sorted") (rSortedS K) gSortS := by
  subst hK
  refine ⟨cr_sortedS, fun {Hs H xs ds d Q} e h hf q => ?_⟩
  unfold gSortS at hf
  split at hf
  · obtain ⟨v, rfl, a⟩ := all1 h
    obtain ⟨ys, h1, h2⟩ := bind_some hf
    obtain ⟨hne, rfl⟩ := ite_some h2
    cases a with
    | lst hp t =>
      have := strs_dv t h1
      subst this
      refine ⟨_, ys, rfl, sqL_of (e _ _ hp), hne, fun zs p hz hs hn => ?_⟩
      rw [ssort_of hz hs]
      have g := Grow.alloc (o := .lst ((ssort ys).map V.str)) e hn
      exact q _ _ _ g (.lst upd_same (DdAll.strs _))
  · cases hf
def rMinS (K : PySem.W.Frag) : List V → Hp → VK → Prop := fun vs H Q => ∃ (a : Addr) (x : Str) (xs : List Str), vs = [V.ref a] ∧ SqL K H a ((x :: xs).map V.str) ∧ Q (.str (minS x xs)) H
theorem reads_strs {h : Heap} : ∀ {us : List Value} {ys : List Str}, StrsAre us ys → ReadsAll h us (ys.map .str) []
  | _, _, .nil => .nil
  | _, _, .cons x t r => by
    have := ReadsAll.cons (Reads.str (h := h) x t) (reads_strs r)
    simpa using this
theorem cr_minS (hc : X.calm = true) (hu : X.A.units + 64 < cLine) : CallR X (.builtin "min") (rMinS X.K) := by
  intro pins s σ H vs us Q I r h
  obtain ⟨a, x, xs, rfl, hs, q⟩ := h
  obtain ⟨its, rv, hl, _⟩ := I.list hs
  rw [Vals.ref1 r]
  have hd : PyData.depthAll (PyData.str x :: xs.map .str) = 0 := by
    rw [← List.map_cons]
    generalize x :: xs = l
    induction l with
    | nil => rfl
    | cons y l ih => rw [List.map_cons, PyData.depthAll, ih]; rfl
  refine PySem.W.min_list_data (x := .str x) (xs := xs.map .str) (as := []) (I.ok.hd hc) hl.isList (by have := reads_strs (h := s.heap) rv.strs; simpa using this) ⟨fun u hu v hv => ?_, fun u hu => ?_⟩ (by rw [hd]; omega) fun i v h' tk bs hv rd hk => ?_
  · rw [← List.map_cons] at hu hv
    obtain ⟨y, _, rfl⟩ := List.mem_map.mp hu
    obtain ⟨z, _, rfl⟩ := List.mem_map.mp hv
    simp [PySem.W.alike]
  · rw [← List.map_cons] at hu
    obtain ⟨y, _, rfl⟩ := List.mem_map.mp hu
    exact fun z => by cases z
  · rw [minD_strs] at rd
    cases rd with
    | str _ t => exact ⟨.str _, H, I.kept hk, ⟨t, rfl⟩, q⟩
theorem bd_minS (hc : X.calm = true := by rfl) (hu : X.A.units + 64 < cLine) (hK : X.K = K := by rfl) : BD K X (.builtin "min") (rMinS K) gMinS := by
  subst hK
  refine ⟨cr_minS hc hu, fun {Hs H xs ds d Q} e h hf q => ?_⟩
  unfold gMinS at hf
  split at hf
  · obtain ⟨v, rfl, a⟩ := all1 h
    obtain ⟨ys, h1, h2⟩ := bind_some hf
    cases a with
    | lst hp t =>
      have := strs_dv t h1
      subst this
      match ys, h2 with
      | x :: r, h2 =>
        cases h2
        exact ⟨_, x, r, rfl, sqL_of (e _ _ hp), q _ Hs H (Grow.refl e) (.str _)⟩
  · cases hf
end
end DL

namespace DL
open PySem PySem.Spec PyProof.Rows L2 LamX NdefX
/-! ### min(range(n), key=lambda ..) -/
def upInts (n : Nat) : List PyData := (List.range n).map fun i : Nat => .int (i : Int)
theorem upInts_len (n : Nat) : (upInts n).length = n := by simp [upInts]
theorem upInts_at {n i : Nat} (h : i < n) : (upInts n)[i]? = some (.int i) := by simp [upInts, h]
/-- the first place with the least key -/
def bestK (kz : List PyData) : Nat := argBest (fun i j => PySem.W.dataLt (kz.getD i .none) (kz.getD j .none)) (kz.length - 1)
variable [Tabl]
omit [Tabl] in
def gMinKey (js : List Nat) (fb fa : Fn) : Fn := fun ρ => (fa ρ).bind fun d => match d with
  | .int n => if 1 ≤ n ∧ n ≤ 1000 then (keysF fb (capR ρ js) (upInts n.toNat)).bind fun kz => if keysOk kz = true then some (.int (bestK kz)) else none else none
  | _ => none
section
variable {X : Cx} {M : List Nat} {params : Arguments} {scope : Scope} {body : Expr} {N ps fr : List Str} {js : List Nat} {kk : Nat} {fb : Fn}
theorem cr_rangeN : CallR X (.type "range") (fun vs H Q => ∃ j, vs = [V.int j] ∧ ∀ p, H p = none → Q (.ref p) (upd H p (.rng 0 j))) := by
  intro pins s σ H vs us Q I r h
  obtain ⟨j, rfl, q⟩ := h
  obtain ⟨u1, rfl, ri⟩ : ∃ u, us = [u] ∧ RelV (.int j) u := by
    cases r with
    | cons a t => cases t with
      | nil => exact ⟨_, rfl, a⟩
  obtain ⟨t, rfl⟩ := ri
  refine call_range_1 ⟨.ref s.heap.objs.size, upd H s.heap.objs.size (.rng 0 j), I.laid (t' := s.toks + 1 + 1) (fun b o e => Heap.get?_push_of_some _ e) (Nat.le_refl _) ?_, rfl, q _ (I.hok.fresh (Nat.le_refl _))⟩
  exact ⟨s.toks, t, s.toks + 1, Heap.get?_push_size _ rfl⟩
theorem Mid.moved {s₀ s s' : Shared} {H H' : Hp} {ex wr : List Addr} (m : Mid X s₀ H ex H' s) (mv : Moved wr (fun a b => b = a) s s') (hw : ∀ b ∈ wr, b ∈ ex) : Mid X s₀ H ex H' s' := by
  obtain ⟨h', g', d', t', o'⟩ := s'
  obtain ⟨k, g, d, o, t⟩ := mv
  cases g
  cases d
  cases o
  exact m.stab fun b ob hb e => k b ob (fun z => hb (hw b z)) e
def rMinK (X : Cx) (M : List Nat) (params : Arguments) (scope : Scope) (body : Expr) (js : List Nat) (fb : Fn) (σ : L2.St) (x fv : V) (H : Hp) (Q : VK) : Prop :=
  ∃ (r f c' : Addr) (Hs0 H0 Hs : Hp) (ρ : Rho) (n : Nat) (kz : List PyData), x = .ref r ∧ fv = .ref f ∧ SR X.K M Hs0 H0 Hs H σ ρ ∧ H r = some (.rng 0 n) ∧ H f = some (LamO f (lamF X params scope c') body) ∧ H c' = some (CodeO c' (X.env.qual ++ "<lambda>")) ∧
    keysF fb (capR ρ js) (upInts n) = some kz ∧ keysOk kz = true ∧ 1 ≤ n ∧ n ≤ 1000 ∧ ∀ H' Hs', Grow Hs H Hs' H' → Q (.int (bestK kz)) H'
theorem run_minK (L : LamD X M params scope body N ps fr js kk fb) (hr : Room (kk + 3) X.A) {pins : List (Addr × Obj)} {σ : L2.St} {H : Hp} {s : Shared} {x fv : V} {u fu : Value} {Q : VK} (I : Inv X pins σ H s) (rx : RelV x u) (rf : RelV fv fu) (h : rMinK X M params scope body js fb σ x fv H Q) :
    wpAny (model X.prog X.w) X.A (call (.builtin "min") [u] [(Str.ofString "key", fu)]) (EP X pins σ Q) X.xe s := by
  obtain ⟨r, f, c', Hs0, H0, Hs, ρ, n, kz, rfl, rfl, R, hrg, hf, hc, hk, hok, h1, hz, q⟩ := h
  obtain rfl : u = Value.ref r := rx
  obtain rfl : fu = Value.ref f := rf
  obtain ⟨t, t2, t3, ho⟩ := I.hok r _ hrg
  have e2 : kz.length = n := (keysF_len hk).trans (upInts_len n)
  have hal := keysOk_alike hok
  have hone : ∀ d ∈ kz, d.canLay0 = true ∧ d.depth ≤ 50 ∧ ∃ x r, d = .tuple (x :: r) := fun d hd => keysOk_one hok hd
  have hrm := hr.un
  refine call_minJ (wpAny_pyIter_range (show IsRange s.heap r 0 n 1 t t2 t3 from ho) (small_one (by omega) (by omega) (by omega) (by omega)) ?_)
  let It : Addr := s.heap.objs.size
  let h1' : Heap := s.heap.push { cls := .type "range_iterator", data := .fields #[rawInt 0, rawInt (Builtin.Range.rangeSize 0 n 1), rawInt 1] }
  let S : Addr := h1'.objs.size
  have hS : S = It + 1 := size_push' _ _
  have hx : ∀ a ∈ [It, S], s.heap.objs.size ≤ a := fun a ha => by
    rcases List.mem_cons.mp ha with rfl | ha
    · exact Nat.le_refl _
    · rw [List.mem_singleton.mp ha, hS]
      exact Nat.le_succ _
  have W : Walks X.prog X.w X.A.in1 It [It] [It] n (fun i v => i < n ∧ ∃ t, v = .int (0 + i * 1) t) (fun i h => IsRangeIter h It (0 + (i : Nat) * 1) ((n : Int) - (i : Nat)) 1) := (Walks.range (A := X.A.in1) (hr.in1).hd It 0 1 n).bound
  have hw : ∀ b ∈ [S, It], b ∈ [It, S] := fun b hb => by
    rcases List.mem_cons.mp hb with rfl | hb
    · exact List.mem_cons_of_mem _ (List.mem_singleton.mpr rfl)
    · rw [List.mem_singleton.mp hb]
      exact List.mem_cons_self
  have turn : ∀ (H' Hs' : Hp) (i : Nat) (v : Value) (s' : Shared) (o oI : Obj), i < n → (∃ t, v = .int (0 + i * 1) t) → Mid X s H [It, S] H' s' → Grow Hs H Hs' H' → s'.heap.get? It = some oI → s'.heap.get? S = some o →
      ∀ (Q : Value → Shared → Prop) (E : Value → Shared → Prop), (∀ (k : Value) (s'' : Shared) (vk : V) (H2 Hs2 : Hp) (kd : PyData), Mid X s H [It, S] H2 s'' → Grow Hs' H' Hs2 H2 → RelV vk k → Dd X.K Hs2 vk kd → kz[i]? = some kd → s''.heap.get? It = some oI → s''.heap.get? S = some o → Q k s'') →
      wpAny (model X.prog X.w) X.A.in1 (call (.ref f) [v]) Q E s' := by
    intro H' Hs' i v s' o oI hi hv m gg o1 o2 Q E hq
    obtain ⟨t, rfl⟩ := hv
    obtain ⟨kd, hk1, hk2⟩ := keysF_at hk (upInts_at hi)
    refine wpAny_mono (lam_turn L I R m (fun a ha => ?_) gg (gg.ex _ _ hf) (gg.ex _ _ hc) (v := .int i) (.int _) (show RelV (.int i) (Value.int (0 + i * 1) t) from ⟨t, by simp⟩) hk2 (A := X.A.in1) (by show X.A.frames = _; exact I.ok.frames) ((hr.in1).mono (by omega))) (fun r s'' hh => ?_) fun _ _ z => z.elim
    · rcases List.mem_cons.mp ha with rfl | ha
      · exact ⟨oI, o1⟩
      · rw [List.mem_singleton.mp ha]
        exact ⟨o, o2⟩
    · obtain ⟨vk, H2, Hs2, m2, g2, ke, rr, dk⟩ := hh
      exact hq r s'' vk H2 Hs2 kd m2 g2 rr dk hk1 (ke It (by simp) _ o1) (ke S (by simp) _ o2)
  refine ⟨It, [It], [It], _, n, _, _, fun s' => ∃ H' Hs', Mid X s H [It, S] H' s' ∧ Grow Hs H Hs' H',
    fun b kb s' => ∃ H' Hs' vk kd, Mid X s H [It, S] H' s' ∧ Grow Hs H Hs' H' ∧ RelV vk kb ∧ kz[b]? = some kd ∧ Dd X.K Hs' vk kd,
    fun b kb i ki s' => ∃ H' Hs' vk kd vk' kd', Mid X s H [It, S] H' s' ∧ Grow Hs H Hs' H' ∧ RelV vk kb ∧ kz[b]? = some kd ∧ Dd X.K Hs' vk kd ∧ RelV vk' ki ∧ kz[i]? = some kd' ∧ Dd X.K Hs' vk' kd',
    fun i j => PySem.W.dataLt (kz.getD i .none) (kz.getD j .none), rfl, W.toS, ?_, fun b hb => ?_, by omega, ?_, ⟨H, Hs, Mid.start I (fun b o e => Heap.get?_push_of_some _ e) hx, Grow.refl R.sub⟩, ?_⟩
  · show IsRangeIter _ _ _ _ _
    have e : Builtin.Range.rangeSize 0 (n : Int) 1 = (n : Int) - ((0 : Nat) : Int) := by rw [rangeSize_nat]; omega
    rw [← e]
    exact Heap.get?_push_size _ rfl
  · rw [List.mem_singleton.mp hb]
    show It < S
    rw [hS]
    exact Nat.lt_succ_self _
  · refine { keep0 := ?_, keep := ?_, turn0 := ?_, turn := ?_, cmp := ?_, win := ?_, lose := ?_ }
    · rintro s1 s2 ⟨H', Hs', m, g⟩ mv
      exact ⟨H', Hs', m.moved mv hw, g⟩
    · rintro b kb s1 s2 ⟨H', Hs', vk, kd, m, g, z⟩ mv
      exact ⟨H', Hs', vk, kd, m.moved mv hw, g, z⟩
    · rintro v s1 o Q E h0 ⟨_, hv⟩ ⟨H', Hs', m, g⟩ st hS hq
      exact turn H' Hs' 0 v s1 o _ h0 hv m g st hS Q E fun k s2 vk H2 Hs2 kd m2 g2 rr dk hk1 o1 o2 => hq k s2 ⟨H2, Hs2, vk, kd, m2, g.trans g2, rr, hk1, dk⟩ o1 o2
    · rintro b kb i v s1 o Q E hi ⟨_, hv⟩ ⟨H', Hs', vk0, kd0, m, g, r0, k0, d0⟩ st hS hq
      exact turn H' Hs' i v s1 o _ hi hv m g st hS Q E fun k s2 vk H2 Hs2 kd m2 g2 rr dk hk1 o1 o2 => hq k s2 ⟨H2, Hs2, vk0, kd0, vk, kd, m2, g.trans g2, r0, k0, d0.mono g2.exs, rr, hk1, dk⟩ o1 o2
    · rintro b kb i k s1 Q E ⟨H', Hs', vk, kd, vk', kd', m, g, rr, kb1, dk, rr', ki1, dk'⟩ hq
      have mb := List.mem_of_getElem? kb1
      have mi := List.mem_of_getElem? ki1
      obtain ⟨as, ra⟩ := dd_reads m.hok g.sub dk' (hone _ mi).1 rr'
      obtain ⟨bs, rb⟩ := dd_reads m.hok g.sub dk (hone _ mb).1 rr
      have hd : min kd'.depth kd.depth ≤ 50 := Nat.le_trans (Nat.min_le_left _ _) (hone _ mi).2.1
      refine PySem.W.rcLt_alike kd' kd X.A.in1 s1 k kb as bs ra rb (hal _ mi _ mb) (fun z => ?_) (by show X.A.units + 1 + _ < _; omega) X.prog X.w E Q ?_
      · obtain ⟨x, r, e⟩ := (hone _ mi).2.2
        rw [z] at e
        cases e
      · rw [List.getD_eq_getElem?_getD, List.getD_eq_getElem?_getD, kb1, ki1] at hq
        exact hq
    · rintro b kb i k s1 ⟨H', Hs', vk, kd, vk', kd', m, g, rr, kb1, dk, rr', ki1, dk'⟩
      exact ⟨H', Hs', vk', kd', m, g, rr', ki1, dk'⟩
    · rintro b kb i k s1 ⟨H', Hs', vk, kd, vk', kd', m, g, rr, kb1, dk, rr', ki1, dk'⟩
      exact ⟨H', Hs', vk, kd, m, g, rr, kb1, dk⟩
  · rintro v s' kb ⟨_, t, rfl⟩ ⟨H', Hs', vk, kd, m, g, _⟩
    have e : bestK kz = argBest (fun i j => PySem.W.dataLt (kz.getD i .none) (kz.getD j .none)) (n - 1) := by unfold bestK; rw [e2]
    refine ⟨.int (bestK kz), H', m.inv I, ⟨t, ?_⟩, q H' Hs' g⟩
    rw [e]
    simp
/-- the reading of the whole call -/
def tMinK (X : Cx) (P : Addr) (M : List Nat) (params : Arguments) (scope : Scope) (body : Expr) (js : List Nat) (fb : Fn) (ta : TE) : TE := fun σ H Q =>
  tCB (fun vs H Q => ∃ j, vs = [V.int j] ∧ ∀ p, H p = none → Q (.ref p) (upd H p (.rng 0 j))) (tCons ta tNil) σ H fun x H1 => tLamE X P params body scope σ H1 fun fv H2 => rMinK X M params scope body js fb σ x fv H2 Q
theorem fd_minKey {c P : Addr} {a : Expr} {ta : TE} {fa : Fn} {p p2 p3 pos lp kp : Pos} (ha : ED X.K X M a ta fa) (LP : LamP X params c P) (L : LamD X M params scope body N ps fr js kk fb) (hr : Room (kk + 3) X.A) (hm : X.mg "min" = none) (hm2 : X.mg "range" = none) (hg : Gl X "min" := by rfl) (hg2 : Gl X "range" := by rfl)
    (na : starEach [a] X.env = (false, eval a X.env) :: starEach [] X.env := by rfl) (pa : (backTo p3 (starEach [] X.env)).any (·.1) = false := by rfl)
    (hs0 : starEach [.Call (.Name "range" p2) [a] [] p3] X.env = (false, eval (.Call (.Name "range" p2) [a] [] p3) X.env) :: starEach [] X.env := by rfl)
    (he : backTo pos (starEach [.Call (.Name "range" p2) [a] [] p3] X.env) = (false, eval (.Call (.Name "range" p2) [a] [] p3) X.env) :: backTo pos (starEach [] X.env) := by rfl) (hpl : (backTo pos (starEach [.Call (.Name "range" p2) [a] [] p3] X.env)).any (·.1) = false := by rfl)
    (hall : (backToKw pos (keywordEach [⟨some "key", .Lambda params body scope lp, kp⟩] X.env)).all (·.1.isSome) = true := by rfl) (hnone : (backToKw pos (keywordEach [⟨some "key", .Lambda params body scope lp, kp⟩] X.env)).any (·.1.isNone) = false := by rfl) (hks : (backToKw pos (keywordEach [⟨some "key", .Lambda params body scope lp, kp⟩] X.env)).filterMap (·.1) = [Str.ofString "key"] := by rfl) :
    ED X.K X M (.Call (.Name "min" p) [.Call (.Name "range" p2) [a] [] p3] [⟨some "key", .Lambda params body scope lp, kp⟩] pos) (tMinK X P M params scope body js fb ta) (gMinKey js fb fa) := by
  refine ⟨⟨fun pins s σ H Q I h => ?_⟩, fun {Hs0 H0 Hs H σ ρ ds Q} R hf q => ?_⟩
  · have hk : PK X [⟨some "key", .Lambda params body scope lp, kp⟩] (tCons (tLamE X P params body scope) tNil) := pk_cons (pe_lambda LP.TB LP.code LP.mem LP.uniq LP.dflt L.free) pk_nil
    have hpr := pe_callTy (p := p2) (pos := p3) cr_rangeN hg2 hm2 boot_range (pa_cons ha.pe pa_nil na) (by decide) (by decide) na pa
    have hpa := pa_cons hpr pa_nil hs0
    refine wpAny_Call_Name_kw (ld_blt I hg hm boot_min ?_ (by decide) (by decide))
    refine PyProof.Rows.callWith_kw (L2.thn (hpa.run pos pins s σ H (fun vs H1 => match vs with
      | [x] => tLamE X P params body scope σ H1 fun fv H2 => rMinK X M params scope body js fb σ x fv H2 Q
      | _ => False) I h) fun us s1 ⟨vs, H1, I1, r1, q1⟩ => ?_) he hpl hall hnone
    match vs, r1, q1 with
    | [x], .cons rx .nil, q1 =>
      refine L2.thn (hk.run pos pins s1 σ H1 (fun ws H2 => match ws with
        | [fv] => rMinK X M params scope body js fb σ x fv H2 Q
        | _ => False) I1 q1) fun ws s2 ⟨zs, H2, I2, r2, q2⟩ => ?_
      match zs, r2, q2 with
      | [fv], .cons rf .nil, q2 =>
        rw [hks]
        exact run_minK L hr I2 rx rf q2
  · unfold gMinKey at hf
    obtain ⟨d, h1, hf⟩ := bind_some hf
    refine ha.sm R h1 fun v Hs1 H1 g1 d1 => ?_
    cases d1 with
    | int j =>
      dsimp only at hf
      split at hf
      · rename_i c12
        obtain ⟨c1, c2⟩ := c12
        obtain ⟨kz, h2, hf⟩ := bind_some hf
        obtain ⟨c3, rfl⟩ := ite_some hf
        refine ⟨j, rfl, fun r hrn => ?_⟩
        have g12 : Grow Hs1 H1 Hs1 (upd H1 r (.rng 0 j)) := Grow.alloc0 g1.sub hrn
        have R1 := (R.grow g1).grow g12
        refine ⟨R1.tb.1, fun f c' H2 kt kb hn hlam hcode => ?_⟩
        have s2 : Same Hs1 H2 := fun b o e => kb b o (fun z => by
          have := R1.tb.2 _ LP.mem
          rw [z] at e
          rw [show Hs1 P = none from this] at e
          cases e) (g12.sub b o e)
        have hP : r ≠ P := fun z => by
          obtain ⟨ps, hP, _⟩ := R1.tb.1 _ LP.mem
          rw [← z, upd_same] at hP
          cases hP
        have g2 : Grow Hs1 (upd H1 r (.rng 0 j)) Hs1 H2 := ⟨kt, Same.refl _, s2, fun _ e _ => e⟩
        have R2 := R1.grow g2
        have ej : ((j.toNat : Nat) : Int) = j := by omega
        refine ⟨r, f, c', _, _, Hs1, ρ, j.toNat, kz, rfl, rfl, R2, ?_, hlam, hcode, h2, c3, by omega, by omega, fun H' Hs' gg => q _ Hs' H' (((g1.trans g12).trans g2).trans gg) (.int _)⟩
        rw [ej]
        exact kb r _ hP upd_same
      · cases hf
    | _ => simp at hf
end
end DL

namespace DL
open PySem PySem.Spec PyProof.Rows L2 LamX NdefX
/-! ### sorted(set(rows)), fewer than 64 rows of ints, of any lengths, some of them alike -/
def insR (k : List Int) : List (List Int) → List (List Int)
  | [] => [k]
  | a :: r => if k < a then k :: a :: r else if k = a then a :: r else a :: insR k r
def rset : List (List Int) → List (List Int)
  | [] => []
  | a :: r => insR a (rset r)
theorem insR_mem {k x : List Int} : ∀ {l : List (List Int)}, x ∈ insR k l ↔ x = k ∨ x ∈ l
  | [] => by simp [insR]
  | a :: r => by
    unfold insR
    split
    · simp
    · split
      · rename_i h
        subst h
        simp
      · rw [List.mem_cons, insR_mem (l := r), List.mem_cons]
        constructor
        · rintro (h | h | h)
          · exact .inr (.inl h)
          · exact .inl h
          · exact .inr (.inr h)
        · rintro (h | h | h)
          · exact .inr (.inl h)
          · exact .inl h
          · exact .inr (.inr h)
theorem rows_lt {a b : List Int} (h1 : a ≤ b) (h2 : a ≠ b) : a < b := by
  rcases Classical.em (a < b) with h | h
  · exact h
  · exact absurd (List.le_antisymm h1 (List.not_lt.mp h)) h2
theorem insR_lt {k : List Int} : ∀ {l : List (List Int)}, l.Pairwise (· < ·) → (insR k l).Pairwise (· < ·)
  | [], _ => by simp [insR]
  | a :: r, h => by
    obtain ⟨h1, h2⟩ := List.pairwise_cons.mp h
    unfold insR
    by_cases c1 : k < a
    · rw [if_pos c1]
      refine List.pairwise_cons.mpr ⟨fun x hx => ?_, h⟩
      rcases List.mem_cons.mp hx with rfl | hx
      · exact c1
      · exact List.lt_trans c1 (h1 x hx)
    · rw [if_neg c1]
      by_cases c2 : k = a
      · rw [if_pos c2]; exact h
      · rw [if_neg c2]
        refine List.pairwise_cons.mpr ⟨fun x hx => ?_, insR_lt h2⟩
        rcases insR_mem.mp hx with rfl | hx
        · exact rows_lt (List.not_lt.mp c1) (Ne.symm c2)
        · exact h1 x hx
theorem rset_mem {x : List Int} : ∀ {ns : List (List Int)}, x ∈ rset ns ↔ x ∈ ns
  | [] => by simp [rset]
  | a :: r => by
    show x ∈ insR a (rset r) ↔ _
    rw [insR_mem, rset_mem (ns := r), List.mem_cons]
theorem rset_lt : ∀ (ns : List (List Int)), (rset ns).Pairwise (· < ·)
  | [] => List.Pairwise.nil
  | a :: r => insR_lt (rset_lt r)
theorem rows_nodup {l : List (List Int)} (h : l.Pairwise (· < ·)) : l.Nodup := h.imp fun {a b} z e => by
  rw [e] at z
  exact List.lt_irrefl _ z
variable [Tabl]
theorem rise_eqR {l m : List (List Int)} (hl : l.Pairwise (· < ·)) (hm : m.Pairwise (· < ·)) (h : ∀ x, x ∈ l ↔ x ∈ m) : l = m :=
  sorted_one (f := fun k : List Int => k) ((List.perm_ext_iff_of_nodup (rows_nodup hl) (rows_nodup hm)).mpr h) hm (hl.imp fun {a b} z => List.le_of_lt z)
theorem setAll_few {P : Program} {w : World} {s : Shared} {a : Addr} {L ks : List (Addr × List Int)} {es : Array (Int × Value)} {ep : Nat} {t : SetTable} (R : SetTR P w s.heap a L es ep t) (p : ks.Perm L) : SetAll w s.heap a ks := by
  have hes : es.toList.map (·.2) = L.map fun q => Value.ref q.1 := by
    rw [R.rows]
    unfold rowsOf
    rw [List.map_map] <;> rfl
  refine ⟨es, ep, t, R.ob, ?_, R.fits, ?_, R.tab.ris, R.led⟩
  · rw [hes]
    exact (p.map _).symm
  · have := R.size
    have := R.few
    omega
section
variable {K : PySem.W.Frag} {X : Cx} {M : List Nat} {a : Expr} {ta : TE} {f : Fn} {pos p p2 q : Pos}
def rSortedTo (K : PySem.W.Frag) (P : Program) (w : World) : List V → Hp → VK → Prop := fun vs H Q => ∃ (a : Addr) (L : List (Addr × List Int)), vs = [V.ref a] ∧ H a = some (SetTO P w a L) ∧ (∀ p ∈ L, SqT K H p.1 (p.2.map V.int)) ∧ (∀ p ∈ L, p.2 ≠ []) ∧
  ∀ (ks : List (Addr × List Int)) (p : Addr), ks.Perm L → (ks.map (·.2)).Pairwise (· < ·) → H p = none → Q (.ref p) (upd H p (.lst (ks.map fun q => V.ref q.1)))
theorem cr_sortedTo (hc : X.calm = true) (hu : X.A.units + 64 < cLine) : CallR X (.builtin "sorted") (rSortedTo X.K X.prog X.w) := by
  intro pins s σ H vs us Q I r h
  obtain ⟨a, L, rfl, ha, hk, ne, q⟩ := h
  have R0 : SetT0 X.prog X.w s.heap a L := (I.hok a _ ha).1
  obtain ⟨es, ep, t, R1⟩ := R0.full fun p hp => I.isT (hk p hp)
  have pm := List.mergeSort_perm L (PySem.W.dataLe false rowEnc)
  have srt := row_sorted L
  generalize L.mergeSort (PySem.W.dataLe false rowEnc) = ks at pm srt
  have nd : (ks.map (·.2)).Nodup := (pm.map (·.2)).nodup_iff.mpr R1.nd
  have hs : (ks.map (·.2)).Pairwise (· < ·) := (List.Pairwise.and (List.pairwise_map.mpr srt) nd).imp fun {x y} z => rows_lt z.1 z.2
  have R : SetAll X.w s.heap a ks := setAll_few R1 pm
  have hfew : ks.length < 64 := by rw [pm.length_eq]; exact R1.few
  rw [Vals.ref1 r]
  refine sorted_T R (I.ok.hd hc) (fun p hp => I.isT (hk p (pm.mem_iff.mp hp))) hs (fun _ p hp => ne p (pm.mem_iff.mp hp)) hu fun s' p out c k g o hp hg hout => ?_
  have hlen : (ks.map fun q => V.ref q.1).length ≤ sizeLine := by rw [List.length_map, sizeLine_eq]; omega
  have hn : H p = none := I.hok.fresh hp
  have hv : Vals (ks.map fun q => V.ref q.1) out.toList := by rw [hout]; exact vals_of_refs ks
  have J : Inv X pins σ (upd H p (.lst (ks.map fun q => V.ref q.1))) { s with heap := s'.heap, gens := s'.gens, drawn := s'.drawn, toks := s'.toks } :=
    I.call (ch := []) (Un.laid k hp hn) (I.hok.laid k hp ⟨hlen, out.toList, c, hv, hg⟩) (by rw [g]; exact I.bare) (fun _ z => nomatch z)
  have e : s' = { s with heap := s'.heap, gens := s'.gens, drawn := s'.drawn, toks := s'.toks } := by
    cases s'
    cases s
    cases o
    rfl
  rw [e]
  exact ⟨.ref p, _, J, rfl, q ks p pm hs hn⟩
theorem rows_dd {H : Hp} : ∀ {vs : List V} {ds : List PyData} {kss : List (List Int)}, DdAll K H vs ds → rowsD ds = some kss → ∃ ks : List (Addr × List Int), vs = (ks.map fun p => V.ref p.1) ∧ ks.map (·.2) = kss ∧ (∀ p ∈ ks, ∃ ob, H p.1 = some (.frz ob (.tup (p.2.map V.int)))) ∧ ∀ p ∈ ks, Dd K H (.ref p.1) (.tuple (p.2.map .int))
  | _, _, _, .nil, h => by
    cases h
    exact ⟨[], rfl, rfl, (fun p hp => nomatch hp), (fun p hp => nomatch hp)⟩
  | _, _, kss, .cons (v := v) (d := d) a t, h => by
    cases a with
    | @tup l ob xs ds hn hp t2 =>
      unfold rowsD at h
      obtain ⟨k, h1, h⟩ := bind_some h
      obtain ⟨kr, h2, h⟩ := bind_some h
      cases h
      obtain ⟨ks, rfl, rfl, hk, hk2⟩ := rows_dd t h2
      have e := ints_dv t2 h1
      subst e
      refine ⟨(l, k) :: ks, rfl, rfl, fun p hp' => ?_, fun p hp' => ?_⟩
      · rcases List.mem_cons.mp hp' with rfl | hp'
        · exact ⟨ob, hp⟩
        · exact hk p hp'
      · rcases List.mem_cons.mp hp' with rfl | hp'
        · exact .tup hn hp (DdAll.ints _)
        · exact hk2 p hp'
    | _ => cases h
theorem dd_rows {H : Hp} : ∀ {ks : List (Addr × List Int)}, (∀ p ∈ ks, Dd K H (.ref p.1) (.tuple (p.2.map .int))) → DdAll K H (ks.map fun p => V.ref p.1) ((ks.map (·.2)).map fun k => .tuple (k.map .int))
  | [], _ => .nil
  | k :: ks, h => .cons (h k List.mem_cons_self) (dd_rows fun p hp => h p (List.mem_cons_of_mem _ hp))
omit [Tabl] in
def gSortSetR : PyData → Option (List PyData)
  | .list ds => (rowsD ds).bind fun kss => if kss.length < 64 ∧ ∀ k ∈ kss, k ≠ [] then some ((rset kss).map fun k => .tuple (k.map .int)) else none
  | _ => none
theorem fd_sortSetR {k : Nat} (ha : ED K X M a ta f) (hr : Room k X.A) (hm : X.mg "sorted" = none) (hm2 : X.mg "set" = none) (hg : Gl X "sorted" := by rfl) (hg2 : Gl X "set" := by rfl) (hc : X.calm = true := by rfl) (hK : X.K = K := by rfl)
    (na : starEach [a] X.env = (false, eval a X.env) :: starEach [] X.env := by rfl) (nb : starEach [.Call (.Name "set" p2) [a] [] q] X.env = (false, eval (.Call (.Name "set" p2) [a] [] q) X.env) :: starEach [] X.env := by rfl)
    (pa : (backTo q (starEach [] X.env)).any (·.1) = false := by rfl) (pb : (backTo pos (starEach [] X.env)).any (·.1) = false := by rfl) :
    FD K X M (.Call (.Name "sorted" p) [.Call (.Name "set" p2) [a] [] q] [] pos) (tCB (rSortedTo K X.prog X.w) (tCons (tCB (rSetOfT K X.prog X.w) (tCons ta tNil)) tNil)) (fun ρ => (f ρ).bind gSortSetR) := by
  subst hK
  have hu : X.A.units + 64 < cLine := by have := hr.un; omega
  refine ⟨pe_callB (cr_sortedTo hc hu) hg hm boot_sorted (pa_cons (pe_callTy (cr_setOfT hc hu) hg2 hm2 boot_set (pa_cons ha.pe pa_nil na) (by decide) (by decide) na pa) pa_nil nb) (by decide) (by decide) nb pb, fun {Hs0 H0 Hs H σ ρ d Q} R hf qq => ?_⟩
  obtain ⟨dx, h1, h2⟩ := bind_some hf
  refine ha.sm R h1 fun v Hs1 H1 g1 d1 => ?_
  cases d1 with
  | @lst l xs ds hp t =>
    obtain ⟨kss, h3, h4⟩ := bind_some h2
    obtain ⟨⟨c1, c2⟩, rfl⟩ := ite_some h4
    obtain ⟨ks, rfl, rfl, hk, hdd⟩ := rows_dd t h3
    have sub := g1.sub
    have hk1 : ∀ p ∈ ks, SqT X.K H1 p.1 (p.2.map V.int) := fun p hp => by
      obtain ⟨ob, e⟩ := hk p hp
      exact sqT_of (sub _ _ e)
    refine ⟨l, ks, rfl, sqL_of (sub _ _ hp), hk1, by simpa using c1, fun p0 L hp0 hL1 hL2 => ?_⟩
    have g2 : Grow Hs1 H1 Hs1 (upd H1 p0 (SetTO X.prog X.w p0 L)) := Grow.alloc0 sub hp0
    refine ⟨p0, L, rfl, upd_same, fun p hp => (hk p (hL1 p hp)).elim fun ob e => sqT_of (g2.sub _ _ e), fun p hp => c2 _ (List.mem_map_of_mem (hL1 p hp)), fun ks' p1 pm hs hp1 => ?_⟩
    have g3 := Grow.alloc0 (o := .lst (ks'.map fun q => V.ref q.1)) g2.sub hp1
    have g := (g1.trans g2).trans g3
    have er : ks'.map (·.2) = rset (ks.map (·.2)) := rise_eqR hs (rset_lt _) fun x => by
      rw [rset_mem]
      constructor
      · intro hx
        obtain ⟨p, hp, rfl⟩ := List.mem_map.mp hx
        exact List.mem_map_of_mem (hL1 p (pm.mem_iff.mp hp))
      · intro hx
        obtain ⟨p, hp, rfl⟩ := List.mem_map.mp hx
        exact (pm.map (·.2)).mem_iff.mpr (hL2 p hp)
    refine qq p1 _ Hs1 _ g (g1.ex.free (g2.ex.free hp1)) (g2.sub.free hp1) upd_same ?_
    rw [← er]
    exact dd_rows fun p hp => hdd p (hL1 p (pm.mem_iff.mp hp))
  | _ => cases h2
end
end DL

namespace DL
open PySem PySem.Spec PyProof.Rows L2 LamX NdefX
variable [Tabl]
section
variable {P : Program} {w : World} {K : PySem.W.Frag} {mg : Str → Option Value} {base : Heap} {xc : Nat → Addr}
/-- a def of which nothing is asked: where a def that calls itself begins -/
theorem ok_none {x qual : Str} {st : Stmt} {f : Addr} {fd : FuncData} {N ps : List Str} {k n : Nat} (F : Fun K x qual st f fd) (S : FnScope N ps (defScope st)) (hn : ps.length = n) :
    FnOk P w K mg base (L2.CX P w) (k + 1) f fd ps (spX K n xc fun _ => none) := by
  refine F.okX S (fun vs H Q E h => by rw [hn]; exact h.1) (fun cdv A outer s H vs Q E hr h => ?_)
  obtain ⟨hl, Hs, ds, r, e, htb, dd, hφ, hq⟩ := h
  cases hφ
end
end DL

namespace DL
open PySem PySem.Spec PyProof.Rows L2 LamX NdefX
/-! ### sorted(a tuple of ints) -/
section
variable {prog : Program} {w : World} {A : Around} {E : Value → Shared → Prop} {s : Shared}
theorem collect_tup {l : Addr} {vs : List Value} {Q : List Value → Shared → Prop} (hl : s.heap.IsTuple l vs.toArray)
    (h : Q vs { s with heap := (s.heap.push (seqObj "list" #[] 0)).update s.heap.objs.size (Obj.mapSeq (· ++ vs.toArray)) }) (hsz : vs.length ≤ sizeLine) :
    wpAny (model prog w) A (collect (.ref l)) Q E s := by
  obtain ⟨o, ho, hc, n, hd⟩ := id hl
  unfold collect
  refine wpAny_bind (wpAny_runValue (codeAny_builtin entry_proto_collect' ?_))
  show wpAny _ _ (do again (.builtin "list.__iadd__" ⟨[← newList [], .ref l], []⟩)) _ _ s
  refine wpAny_bind (wpAny_newList (wpAny_pure ⟨Code.quiet_builtin _ (by decide +kernel), codeAny_builtin entry_list_iadd' ?_⟩))
  show wpAny _ _ (Builtin.List.listExtendWith (.ref s.heap.objs.size) (.ref l) (.ref s.heap.objs.size)) _ _ { s with heap := s.heap.push (seqObj "list" #[] 0) }
  unfold Builtin.List.listExtendWith
  have ho' : (s.heap.push (seqObj "list" #[] 0)).get? l = some o := Heap.get?_push_of_some _ ho
  refine wpAny_bind (wpAny_typeOf (T := "tuple") ⟨o, ho', hc⟩ ?_)
  have ht : (Value.type "tuple" == Value.type "tuple") = true := by rfl
  rw [if_pos (by rw [ht]; simp)]
  refine wpAny_bind (listItems_at ho' hd ?_)
  refine wpAny_bind (listItems_at (xs := #[]) (n := 0) (Heap.get?_push_size _ rfl) rfl ?_)
  rw [if_neg (by simp)]
  refine wpAny_bind (listUpdate_at (xs := #[]) (n := 0) (Heap.get?_push_size _ rfl) rfl ?_ (Nat.zero_le _) (by show (#[] ++ vs.toArray).size ≤ sizeLine + 1; simp only [Array.size_append, List.size_toArray, List.length_nil]; omega))
  refine wpAny_pure ?_
  show wpAny (model prog w) A (do
      let o ← load s.heap.objs.size
      match o.data with
      | .seq xs _ => pure xs.toList
      | _ => unsupported "internal:collect") Q E { s with heap := (s.heap.push (seqObj "list" #[] 0)).update s.heap.objs.size (Obj.mapSeq (· ++ vs.toArray)) }
  refine wpAny_bind (wpAny_load (get?_update_seq (Heap.get?_push_size _ rfl) _) ?_)
  show wpAny _ _ (pure ((#[] : Array Value) ++ vs.toArray).toList) Q E _
  rw [show ((#[] : Array Value) ++ vs.toArray).toList = vs by simp]
  exact wpAny_pure h
open SrtO in
theorem sorted_ordT {l : Addr} {vs : List Value} {ltv : Value → Value → Bool} {Q : Value → Shared → Prop} (O : Swo ltv) (hl : s.heap.IsTuple l vs.toArray) (hz : vs.length ≤ sizeLine)
    (hS : 2 ≤ vs.length → ∀ (h₁ : Heap) (a : Addr), h₁.get? a = some (seqObj "list" vs.toArray 0) → (∀ b o, s.heap.get? b = some o → b ≠ a ∧ h₁.get? b = some o) → SortableO prog w A.in1.in1 { s with heap := h₁ } a vs ltv)
    (h : ∀ out : List Value, Srtd ltv out → Stb ltv out vs → Q (.ref (s.heap.objs.size + 1)) { s with heap := sortedAll s.heap vs out.toArray }) :
    wpAny (model prog w) A (call (.builtin "sorted") [.ref l]) Q E s := by
  refine Calls.call_function_entry kind_sorted plain_sorted entry_sorted (args_sorted1 _) ?_
  unfold Builtin.«sorted»
  refine wpAny_bind (m := checkCount "sorted" 1 1 _) (wpAny_pure ?_)
  refine wpAny_bind (collect_tup hl ?_ hz)
  refine wpAny_bind (wpAny_newList ?_ hz)
  have hsz : ((s.heap.push (seqObj "list" #[] 0)).update s.heap.objs.size (Obj.mapSeq (· ++ vs.toArray))).objs.size = s.heap.objs.size + 1 := by
    rw [Heap.size_update, size_push']
  have hoL : (((s.heap.push (seqObj "list" #[] 0)).update s.heap.objs.size (Obj.mapSeq (· ++ vs.toArray))).push (seqObj "list" vs.toArray 0)).get? (s.heap.objs.size + 1) = some (seqObj "list" vs.toArray 0) := by
    rw [← hsz]; exact Heap.get?_push_size _ rfl
  have keep : ∀ b o, s.heap.get? b = some o → b ≠ s.heap.objs.size + 1 ∧ (((s.heap.push (seqObj "list" #[] 0)).update s.heap.objs.size (Obj.mapSeq (· ++ vs.toArray))).push (seqObj "list" vs.toArray 0)).get? b = some o := fun b o q => by
    have hlt : b < s.heap.objs.size := Heap.lt_size q
    refine ⟨Nat.ne_of_lt (Nat.lt_succ_of_lt hlt), Heap.get?_push_of_some _ ?_⟩
    rw [Heap.get?_update_ne _ _ _ _ (Nat.ne_of_lt hlt)]
    exact Heap.get?_push_of_some _ q
  show wpAny _ _ _ _ _ { s with heap := ((s.heap.push (seqObj "list" #[] 0)).update s.heap.objs.size (Obj.mapSeq (· ++ vs.toArray))).push (seqObj "list" vs.toArray 0) }
  rw [hsz]
  refine wpAny_bind (wpAny_holding (wpAny_call_entry slot_list_sort ⟨_, hoL, rfl⟩ entry_list_sort (list_sort_ord O hoL hz (fun h2 => hS h2 _ _ hoL keep) fun out hs hb => ⟨_, rfl, ?_⟩) (args_list_sort _)))
  exact wpAny_pure ⟨_, rfl, h out hs hb⟩
end
def isort (ns : List Int) : List Int := ns.mergeSort fun a b => decide (a ≤ b)
theorem isort_perm (ns : List Int) : (isort ns).Perm ns := List.mergeSort_perm _ _
theorem isort_pair (ns : List Int) : (isort ns).Pairwise (· ≤ ·) := by
  have := List.pairwise_mergeSort (le := fun a b : Int => decide (a ≤ b)) (fun a b c h1 h2 => by
    have := of_decide_eq_true h1
    have := of_decide_eq_true h2
    exact decide_eq_true (by omega)) (fun a b => by
    rw [Bool.or_eq_true, decide_eq_true_eq, decide_eq_true_eq]
    omega) ns
  exact this.imp fun h => of_decide_eq_true h
theorem isort_of {xs ys : List Int} (p : ys.Perm xs) (h : ys.Pairwise (· ≤ ·)) : ys = isort xs :=
  List.Perm.eq_of_pairwise (fun a b _ _ h1 h2 => by omega) h (isort_pair xs) (p.trans (isort_perm xs).symm)
@[simp] def gSortI : List PyData → Option PyData := fun xs => match xs with
  | [.tuple ds] => (intsD ds).bind fun ns => if ns.length ≤ 1000 then some (.list ((isort ns).map .int)) else none
  | _ => none
variable [Tabl]
section
variable {K : PySem.W.Frag} {X : Cx}
def rSortedIT (K : PySem.W.Frag) : List V → Hp → VK → Prop := fun vs H Q => ∃ (a : Addr) (ns : List Int), vs = [V.ref a] ∧ SqT K H a (ns.map V.int) ∧
  ∀ (ns' : List Int) (p : Addr), ns'.Perm ns → ns'.Pairwise (· ≤ ·) → H p = none → Q (.ref p) (upd H p (.lst (ns'.map V.int)))
theorem cr_sortedIT : CallR X (.builtin "sorted") (rSortedIT X.K) := by
  intro pins s σ H vs us Q I r h
  obtain ⟨a, ns, rfl, hs, q⟩ := h
  obtain ⟨its, rv, hl, hz⟩ := I.tuple hs
  rw [Vals.ref1 r]
  have hi := rv.ints
  refine sorted_ordT SrtO.swo_int hl (by rw [← rv.length]; exact hz) (fun h2 h₁ a' _ _ => SrtO.ints_sortable hi h2) fun out h1 h2 => ?_
  obtain ⟨k1, k2, k3⟩ := SrtO.ints_out hi h1 h2
  obtain ⟨ep, he'⟩ := PyProof.Rows.sortedAll_at s.heap its out.toArray
  have hlen : ((out.map SrtO.iv).map V.int).length ≤ sizeLine := by
    rw [List.length_map, k2.length_eq]
    rw [List.length_map] at hz
    exact hz
  exact ⟨.ref _, upd H (s.heap.objs.size + 1) (.lst ((out.map SrtO.iv).map V.int)), I.laid (t' := s.toks) (fun _ _ => PyProof.Rows.sortedAll_old) (Nat.le_succ _) ⟨hlen, out, ep, vals_of_ints k1, he'⟩, rfl, q _ _ k2 k3 (I.hok.fresh (Nat.le_succ _))⟩
theorem bd_sortedI (hK : X.K = K := by rfl) : BD K X (.builtin "sorted") (rSortedIT K) gSortI := by
  subst hK
  refine ⟨cr_sortedIT, fun {Hs H xs ds d Q} e h hf q => ?_⟩
  unfold gSortI at hf
  split at hf
  · obtain ⟨v, rfl, a⟩ := all1 h
    obtain ⟨ys, h1, h2⟩ := bind_some hf
    obtain ⟨hne, rfl⟩ := ite_some h2
    cases a with
    | tup hn hp t =>
      have := ints_dv t h1
      subst this
      refine ⟨_, ys, rfl, sqT_of (e _ _ hp), fun zs p hz hs hn => ?_⟩
      rw [isort_of hz hs]
      have g := Grow.alloc (o := .lst ((isort ys).map V.int)) e hn
      exact q _ _ _ g (.lst upd_same (DdAll.ints _))
  · cases hf
end

/-! ### a set of texts, its number -/
omit [Tabl] in
def stepS (σ : List Str) (v : Str) : List Str := if σ.any (· == v) then σ else σ ++ [v]
omit [Tabl] in
def fmS (xs : List Str) (i : Nat) : List Str := (xs.take i).foldl stepS []
omit [Tabl] in
theorem fmS_succ {xs : List Str} {i : Nat} (h : i < xs.length) : fmS xs (i + 1) = stepS (fmS xs i) (xs.getD i Str.empty) := by
  unfold fmS
  rw [List.take_add_one, List.getElem?_eq_getElem h, List.foldl_append]
  rw [List.getD_eq_getElem?_getD, List.getElem?_eq_getElem h]
  rfl
omit [Tabl] in
theorem stepS_any (σ : List Str) (v k : Str) : (stepS σ v).any (· == k) = (σ.any (· == k) || decide (k = v)) := by
  unfold stepS
  by_cases h : σ.any (· == v) = true
  · rw [if_pos h]
    by_cases e : k = v
    · subst e; rw [h]; simp
    · simp [e]
  · rw [if_neg h, List.any_append]
    by_cases e : k = v
    · subst e; simp
    · have hb : (v == k) = false := by simpa [beq_iff_eq] using (fun h' : v = k => e h'.symm)
      simp [hb, e]
omit [Tabl] in
theorem stepS_length (σ : List Str) (v : Str) : (stepS σ v).length = if σ.any (· == v) then σ.length else σ.length + 1 := by
  unfold stepS; split <;> simp
omit [Tabl] in
theorem fmS_le (xs : List Str) : ∀ i, (fmS xs i).length ≤ i
  | 0 => Nat.le_refl _
  | i + 1 => by
    by_cases h : i < xs.length
    · rw [fmS_succ h, stepS_length]
      have := fmS_le xs i
      split <;> omega
    · have : fmS xs (i + 1) = fmS xs i := by
        unfold fmS
        rw [List.take_of_length_le (by omega), List.take_of_length_le (by omega)]
      rw [this]
      have := fmS_le xs i
      omega
section
variable {prog : Program} {w : World} {A : Around} {R : Result → Shared → Prop} {I : Addr} {fp wr : List Addr} {G : Array GenState → Array GenState → Prop} {n : Nat} {P : Nat → Value → Prop} {St : Nat → Shared → Prop}
omit [Tabl] in
theorem set_loopS (W : WalksS prog w A.in1 I fp wr G n P St) (S : Addr) (hSf : S ∉ fp)
    (xs : List Str) (hn : n = xs.length) (hval : ∀ i v, P i v → ∃ t, v = .str (xs.getD i Str.empty) t) (hb : n + 1 < scanBound) :
    ∀ (k i : Nat) (s : Shared), n - i = k → i ≤ n → St i s →
      s.heap.SetOf (strKind prog w) S (fun k' => (fmS xs i).any (· == k')) (fmS xs i).length →
      (∀ s', Moved (S :: wr) G s s' → s'.heap.SetOf (strKind prog w) S (fun k' => (fmS xs n).any (· == k')) (fmS xs n).length → R (.ok (.ret .none)) s') →
      codeAny (model prog w) A (.builtin "set.update.loop" ⟨[.ref S, .ref I], []⟩) R s := by
  have hSw : S ∉ wr := fun h => hSf (W.sub _ h)
  have hsub : ∀ b ∈ wr, b ∈ S :: wr := fun b hb => List.mem_cons_of_mem _ hb
  intro k
  induction k with
  | zero =>
    intro i s hk hi hst hS hR
    have hin : i = n := by omega
    subst hin
    refine codeAny_builtin F.entry_set_update_loop ?_
    rw [Around.under_plainId F.plain_set_update_loop _]
    show wpAny _ A.in1 (pyNext (.ref I) >>= _) _ _ s
    refine wpAny_bind (W.done s _ _ hst fun s' hm => ?_)
    show wpAny _ A.in1 (ret Value.none) _ _ s'
    exact wpAny_pure (hR s' (hm.mono hsub) (by
      obtain ⟨o, es, ep, t, ho, rest⟩ := hS
      exact ⟨o, es, ep, t, hm.heap S _ hSw ho, rest⟩))
  | succ k ih =>
    intro i s hk hi hst hS hR
    have hlt : i < n := by omega
    refine codeAny_builtin F.entry_set_update_loop ?_
    rw [Around.under_plainId F.plain_set_update_loop _]
    show wpAny _ A.in1 (pyNext (.ref I) >>= _) _ _ s
    refine wpAny_bind (W.item i s _ _ hlt hst fun v s' hP hst' hm => ?_)
    obtain ⟨t, rfl⟩ := hval i v hP
    have hS' : s'.heap.SetOf (strKind prog w) S (fun k' => (fmS xs i).any (· == k')) (fmS xs i).length := by
      obtain ⟨o, es, ep, tb, ho, rest⟩ := hS
      exact ⟨o, es, ep, tb, hm.heap S _ hSw ho, rest⟩
    show wpAny _ A.in1 (holding [Value.str (xs.getD i Str.empty) t] (setAdd S (.str (xs.getD i Str.empty) t)) >>= _) _ _ s'
    refine wpAny_bind (wpAny_holding ?_)
    unfold setAdd
    refine wpAny_holding ?_
    refine wpAny_bind ((strKind prog w).pyHash (k := xs.getD i Str.empty) (strKind_is _ _ _ _) ?_)
    have hroom : (fmS xs i).length + 1 < scanBound := by have := fmS_le xs i; omega
    refine wpAny_setAddHashed_of (knd := strKind prog w) (s := { s' with toks := s'.toks + 1 }) (strKind_is _ _ _ _) rfl hS' hroom fun h' hsb hS2 => ?_
    have hSi : h'.SetOf (strKind prog w) S (fun k' => (fmS xs (i + 1)).any (· == k')) (fmS xs (i + 1)).length :=
      SetOf_congr hS2 (fun k' => by rw [fmS_succ (by omega), stepS_any]) (by rw [fmS_succ (by omega), stepS_length])
    refine wpAny_pure ⟨plainId_quiet F.plain_set_update_loop _, ih (i + 1) _ (by omega) hlt (W.frame _ s' _ _ hst' (Nat.le_succ _) fun b hb o e => ?_) hSi fun s'' hm'' hS'' => ?_⟩
    · rw [hsb.2 b (fun h : b = S => hSf (by rw [← h]; exact hb))]; exact e
    · refine hR s'' (Moved.trans W.gtrans ((hm.mono hsub).then_heap (Nat.le_succ _) fun b o hb e => ?_) hm'') hS''
      rw [hsb.2 b (fun h : b = S => hb (by rw [h]; exact List.mem_cons_self))]; exact e
end
section
variable {prog : Program} {w : World} {A : Around} {E : Value → Shared → Prop} {s : Shared}
set_option maxHeartbeats 3200000 in
omit [Tabl] in
theorem call_set_lS {l : Addr} {items : Array Value} {xs : List Str} {Q : Value → Shared → Prop}
    (hh : A.handled = none) (hl : s.heap.IsList l items) (hi : PyProof.Rows.StrsAre items.toList xs) (hn1 : xs.length + 1 < scanBound)
    (h : ∀ (h' : Heap) (tk : Nat), h'.SetOf (PySem.strKind prog w) s.heap.objs.size (fun k' => (fmS xs xs.length).any (· == k')) (fmS xs xs.length).length →
      (∀ b o, s.heap.get? b = some o → h'.get? b = some o) → Q (.ref s.heap.objs.size) { s with heap := h', toks := tk }) :
    wpAny (model prog w) A (call (.type "set") [.ref l]) Q E s := by
  have hsz : xs.length = items.size := by rw [← StrsAre.len_eq hi, Array.length_toList]
  rw [hsz] at h hn1
  obtain ⟨c, tl, hmro⟩ := PySem.F.called_set.mro
  have hmade := PySem.F.called_set.made
  have hsub := PySem.F.called_set.sub
  refine wpAny_call (codeAny_of_tree ?_)
  show wpAny _ _ (callAny (.type "set") _) _ _ _
  refine wpAny_pure ⟨Code.quiet_builtin _ (by decide +kernel), codeAny_builtin PySem.F.entry_type_call ?_⟩
  rw [Around.under_plain (weight_type_call_type "set" [.ref l] []) rfl]
  have h1 := PySem.F.called_set.notType
  have h2 := PySem.F.called_set.canCreate
  have hct := PySem.F.typeCall_set_1 (.ref l)
  repeat (any_goals (first | assumption | wp_step))
  refine codeAny_mono (code_set_new_1 (.ref l) (E := E) (Q₁ := fun obj s₁ => ∃ led : Bool, obj = .ref s.heap.objs.size ∧ s₁ = { s with heap := s.heap.push { cls := .type "set", dict := none, data := .set #[] 0 (.fresh 0 0 led) } }) fun led => ⟨led, rfl, rfl⟩) fun r s₁ hr => ?_
  cases r with
  | error e => exact hr
  | ok fl =>
    cases fl with
    | ret obj =>
      obtain ⟨led, rfl, rfl⟩ := hr
      have hS : (s.heap.push { cls := .type "set", dict := none, data := .set #[] 0 (.fresh 0 0 led) }).get? s.heap.objs.size = some { cls := .type "set", dict := none, data := .set #[] 0 (.fresh 0 0 led) } := Heap.get?_push_size _ rfl
      have hT : Shared.TypeIs { s with heap := s.heap.push { cls := .type "set", dict := none, data := .set #[] 0 (.fresh 0 0 led) } } (.ref s.heap.objs.size) "set" := ⟨_, hS, rfl⟩
      have hli := PySem.F.called_set.init.lookup
      have hbi := PySem.F.called_set.init.bind (.ref s.heap.objs.size)
      repeat (any_goals (first | assumption | wp_step))
      refine codeAny_mono (codeAny_call_builtin (R := wants (fun r s₂ => r = .none ∧ ∃ h' tk, s₂ = { s with heap := h', toks := tk } ∧
          h'.SetOf (PySem.strKind prog w) s.heap.objs.size (fun k' => (fmS xs items.size).any (· == k')) (fmS xs items.size).length ∧
          (∀ b o, s.heap.get? b = some o → h'.get? b = some o)) E) PySem.F.called_set.init.plain PySem.F.entry_set_init (check_set_init_1 hT ?_)) fun r₂ s₂ hr₂ => ?_
      · obtain ⟨ol, hol, hcl, nl, hdl⟩ := hl
        obtain ⟨ocls, odict, odata, oslots⟩ := ol
        simp only at hcl hdl
        subst hcl; subst hdl
        have hol' : (s.heap.push { cls := .type "set", dict := none, data := .set #[] 0 (.fresh 0 0 led) }).get? l = some { cls := .type "list", dict := odict, data := .seq items nl, slots := oslots } := Heap.get?_push_of_some _ hol
        have hsls := PySem.F.sub_list_set
        have hslf := PySem.F.sub_list_frozenset
        have hne : (Value.type "list" == Value.type "dict") = false := by decide
        have hl1 : (s.heap.push { cls := .type "set", dict := none, data := .set #[] 0 (.fresh 0 0 led) }).IsList l items := ⟨_, hol', rfl, nl, rfl⟩
        unfold Builtin.«set.__init__» noKeywords Builtin.Frozenset.updateFrom
        generalize hPI : pyIter = PI
        wp_walk
        subst hPI
        refine wpAny_pyIter_list hl1 ?_
        refine wpAny_bind (wpAny_runValue ?_)
        have hlS : l < s.heap.objs.size := Heap.lt_size hol
        have hh3 : A.in1.in1.in1.handled = none := by simp [hh]
        have hneI : l ≠ (s.heap.push { cls := .type "set", dict := none, data := .set #[] 0 (.fresh 0 0 led) }).objs.size := by
          rw [Heap.size_push]; exact Nat.ne_of_lt (Nat.lt_succ_of_lt hlS)
        have hSf : s.heap.objs.size ∉ [(s.heap.push { cls := .type "set", dict := none, data := .set #[] 0 (.fresh 0 0 led) }).objs.size, l] := by
          rw [Heap.size_push]; simp only [List.mem_cons, List.mem_singleton, List.not_mem_nil, or_false, not_or]
          exact ⟨Nat.ne_of_lt (Nat.lt_succ_self _), Nat.ne_of_gt hlS⟩
        have hval : ∀ (i : Nat) (v : Value), items[i]? = some v → ∃ t, v = .str (xs.getD i Str.empty) t := fun i v hv => SS.strs_at hi i v (by rw [Array.getElem?_toList]; exact hv)
        refine set_loopS ((Walks.list hh3 _ l hneI items).toS) s.heap.objs.size
          hSf xs hsz.symm hval hn1 (items.size - 0) 0 _ (by omega) (Nat.zero_le _)
          ⟨⟨_, Heap.get?_push_size _ rfl, rfl, rfl⟩, (hl1.push _)⟩ ?hS0 ?hR
        case hS0 =>
          have hget : ((s.heap.push { cls := .type "set", dict := none, data := .set #[] 0 (.fresh 0 0 led) }).push { cls := .type "list_iterator", data := .fields #[.ref l, .int 0 0] }).get? s.heap.objs.size
              = some { cls := .type "set", dict := none, data := .set #[] 0 (.fresh 0 0 led) } := Heap.get?_push_of_some _ hS
          exact PyProof.Rows.SetOf_congr ((PyProof.Rows.setObjOf_fresh (knd := PySem.strKind prog w) led).setOf hget (by unfold scanBound; omega)) (fun _ => rfl) rfl
        case hR =>
          intro s' hm hS'
          obtain ⟨h', g', d', tk', os'⟩ := s'
          have eg : g' = s.gens := hm.gens
          have ed : d' = s.drawn := hm.drawn
          have eo : os' = s.os := hm.os
          subst eg; subst ed; subst eo
          show wpAny _ _ _ _ _ _
          refine wpAny_pure ?_
          show wpAny _ _ (ret Value.none) _ _ _
          refine wpAny_pure ⟨rfl, h', tk', rfl, hS', fun b o e => ?_⟩
          have hb : b < s.heap.objs.size := Heap.lt_size e
          have hb1 : b ≠ s.heap.objs.size := Nat.ne_of_lt hb
          have hb2 : b ≠ (s.heap.push { cls := .type "set", dict := none, data := .set #[] 0 (.fresh 0 0 led) }).objs.size := by
            rw [Heap.size_push]; exact Nat.ne_of_lt (Nat.lt_succ_of_lt hb)
          exact hm.heap b o (by simp only [List.mem_cons, List.mem_singleton, List.not_mem_nil, or_false, not_or]; exact ⟨hb1, hb2⟩) (Heap.get?_push_of_some _ (Heap.get?_push_of_some _ e))
      · cases r₂ with
        | error e => exact hr₂
        | ok fl₂ =>
          cases fl₂ with
          | ret r =>
            obtain ⟨rfl, h', tk, rfl, hS', hk'⟩ := hr₂
            repeat (any_goals (first | assumption | wp_step))
            exact h _ _ hS' hk'
          | _ => exact hr₂.elim
    | _ => exact hr.elim
end
omit [Tabl] in
def SetSO (P : Program) (w : World) (a : Addr) (S : Str → Bool) (n : Nat) : HO := .ext fun h => h.SetOf (strKind P w) a S n
omit [Tabl] in
@[simp] def gLenSetS : PyData → Option PyData
  | .list ds => (strsD ds).bind fun ys => if ys.length ≤ 1000 then some (.int (fmS ys ys.length).length) else none
  | _ => none
section
variable {K : PySem.W.Frag} {X : Cx} {M : List Nat} {a : Expr} {ta : TE} {f : Fn} {pos p p2 q : Pos}
def rSetS (K : PySem.W.Frag) (P : Program) (w : World) : List V → Hp → VK → Prop := fun xs H Q => ∃ (p : Addr) (ys : List Str), xs = [.ref p] ∧ SqL K H p (ys.map V.str) ∧ ys.length ≤ 1000 ∧ ∀ a, H a = none → Q (.ref a) (upd H a (SetSO P w a (fun k => (fmS ys ys.length).any (· == k)) (fmS ys ys.length).length))
omit [Tabl] in
theorem setSO_ok {P : Program} {w : World} {H : Hp} {h : Heap} {a : Addr} {S : Str → Bool} {n : Nat} (R : h.SetOf (strKind P w) a S n) : ObjOk P w H h a (SetSO P w a S n) := by
  refine ⟨R, ?_, fun h1 h2 R1 k => ?_⟩
  · obtain ⟨o, es, ep, t, ho, _⟩ := R
    exact ⟨o, ho⟩
  · obtain ⟨o, es, ep, t, ho, rest⟩ := R1
    exact ⟨o, es, ep, t, k _ ho, rest⟩
theorem cr_setS (hc : X.calm = true) : CallR X (.type "set") (rSetS X.K X.prog X.w) := by
  intro pins s σ H xs us Q I r h
  obtain ⟨p0, ys, rfl, hq, hl, q⟩ := h
  obtain ⟨u, rfl, rx⟩ := vals1 r
  cases rx
  obtain ⟨its, rv, pt, hz⟩ := I.list hq
  refine call_set_lS (I.ok.hd hc) pt.isList (by simpa using rv.strs) (by unfold scanBound; omega) fun h' tk R1 k => ?_
  exact ⟨.ref _, upd H s.heap.objs.size (SetSO X.prog X.w s.heap.objs.size _ _), I.laid (t' := tk) k (Nat.le_refl _) (setSO_ok R1), rfl, q _ (I.hok.fresh (Nat.le_refl _))⟩
def rLenSS (P : Program) (w : World) : List V → Hp → VK → Prop := fun xs H Q => ∃ (a : Addr) (S : Str → Bool) (n : Nat), xs = [.ref a] ∧ H a = some (SetSO P w a S n) ∧ Q (.int n) H
theorem cr_lenSS : CallR X (.builtin "len") (rLenSS X.prog X.w) := by
  intro pins s σ H xs us Q I r h
  obtain ⟨a, S, n, rfl, ha, q⟩ := h
  obtain ⟨u, rfl, rx⟩ := vals1 r
  cases rx
  have R : s.heap.SetOf (strKind X.prog X.w) a S n := (I.hok a _ ha).1
  obtain ⟨o, es, ep, t, ho, hex, hdt, _, _, hb, hf, hn⟩ := R
  exact call_len_set ho hex hdt hf (by unfold scanBound at hb; omega) ⟨.int n, H, I.tok _, ⟨_, by rw [hn]⟩, q⟩
theorem ed_lenSetS (ha : ED K X M a ta f) (hm : X.mg "len" = none) (hm2 : X.mg "set" = none) (hg : Gl X "len" := by rfl) (hg2 : Gl X "set" := by rfl) (hc : X.calm = true := by rfl) (hK : X.K = K := by rfl)
    (na : starEach [a] X.env = (false, eval a X.env) :: starEach [] X.env := by rfl) (nb : starEach [.Call (.Name "set" p2) [a] [] q] X.env = (false, eval (.Call (.Name "set" p2) [a] [] q) X.env) :: starEach [] X.env := by rfl)
    (pa : (backTo q (starEach [] X.env)).any (·.1) = false := by rfl) (pb : (backTo pos (starEach [] X.env)).any (·.1) = false := by rfl) :
    ED K X M (.Call (.Name "len" p) [.Call (.Name "set" p2) [a] [] q] [] pos) (tCB (rLenSS X.prog X.w) (tCons (tCB (rSetS K X.prog X.w) (tCons ta tNil)) tNil)) (f1 gLenSetS f) := by
  subst hK
  refine ⟨pe_callB cr_lenSS hg hm boot_len (pa_cons (pe_callTy (cr_setS hc) hg2 hm2 boot_set (pa_cons ha.pe pa_nil na) (by decide) (by decide) na pa) pa_nil nb) (by decide) (by decide) nb pb, fun {Hs0 H0 Hs H σ ρ d Q} R hf qq => ?_⟩
  obtain ⟨dx, h1, h2⟩ := bind_some hf
  refine ha.sm R h1 fun v Hs1 H1 g1 d1 => ?_
  cases d1 with
  | @lst l xs ds hp t =>
    obtain ⟨ns, h3, h4⟩ := bind_some h2
    obtain ⟨hl, rfl⟩ := ite_some h4
    have e := strs_dv t h3
    subst e
    exact ⟨l, ns, rfl, sqL_of (g1.sub _ _ hp), hl, fun p0 hp0 => ⟨p0, _, _, rfl, upd_same, qq _ Hs1 _ (g1.trans (Grow.alloc0 g1.sub hp0)) (.int _)⟩⟩
  | _ => cases h2
end
end DL

namespace DL
open PySem PySem.Spec PyProof.Rows L2 LamX NdefX
/-! ### defs that hold lambdas: their own code object is known -/
theorem okXC {P : Program} {w : World} {K : PySem.W.Frag} {mg : Str → Option Value} {base : Heap} {x qual : Str} {st : Stmt} {f : Addr} {fd : FuncData} {N ps : List Str} {k : Nat} {sp : Sp} (cdv : Value) (F : L2.Fun K x qual st f fd) (hc : fd.code = cdv) (S : FnScope N ps (defScope st)) (len : ∀ vs H Q E, sp vs H Q E → vs.length = ps.length)
    (hbody : ∀ (A : Around) (outer : List Env) (s : Shared) (H : Hp) (vs : List V) (Q : VK) (E : XK), Room k (A.deeper (envOfC qual (defScope st) s.heap.objs.size f cdv)) → sp vs H Q E →
      ∃ t, PSs (cxOf (L2.CX P w) P w K mg base N qual (defScope st) f cdv A outer s H E) (defBody st) t ∧ t { nx := fun _ H' => Q .non H', rt := Q } (start N vs) H) : FnOk P w K mg base (L2.CX P w) (k + 1) f fd ps sp := by
  obtain ⟨oc, od, kV, doc, pm, an, cdv', ct, osl, rfl, lk, hcd⟩ := F.ex
  obtain rfl : cdv' = cdv := hc
  exact fn_of lk hcd S len fun A outer s H vs Q E hr hsp => hbody A outer s H vs Q E hr hsp
theorem lam_free {X : Cx} {scope : Scope} (sc : Scope) (h : (scope.names.all fun y => !decide (y.2 = .free) || decide (sc.names.lookup y.1 = some .cell) || decide (sc.names.lookup y.1 = some .free)) = true) (hs : X.env.scope = sc := by rfl) :
    ∀ y ∈ scope.names, y.2 = .free → X.env.scope.names.lookup y.1 = some .cell ∨ X.env.scope.names.lookup y.1 = some .free := fun y hy e => by
  have := List.all_eq_true.mp h y hy
  rw [hs]
  simp only [Bool.or_eq_true, Bool.not_eq_true', decide_eq_true_eq, decide_eq_false_iff_not] at this
  rcases this with (z | z) | z
  · exact absurd e z
  · exact .inl z
  · exact .inr z
theorem lam_fr {fr : List Str} {scope : Scope} (h : (fr.all fun y => decide ((y, NameKind.free) ∈ scope.names)) = true) : ∀ y ∈ fr, (y, NameKind.free) ∈ scope.names := fun y hy => of_decide_eq_true (List.all_eq_true.mp h y hy)
theorem lam_M {M js : List Nat} (h : (js.all fun j => !M.contains j) = true) : ∀ j ∈ js, M.contains j = false := fun j hj => by
  have := List.all_eq_true.mp h j hj
  cases q : M.contains j with
  | false => rfl
  | true => rw [q] at this; cases this
variable [Tabl]
theorem lamP_of {X : Cx} {params : Arguments} {c P : Addr} (q : Str) (TB : TabB X.base X.mg c P) (mem : (P, q) ∈ Tabl.T) (uniq : ∀ p ∈ Tabl.T, p.1 = P → p.2 = q) (code : X.env.code = .ref c := by rfl) (hq : X.env.qual ++ "<lambda>" = q := by rfl) (dflt : defaultsOf params X.env = ([], []) := by rfl) : LamP X params c P :=
  ⟨TB, code, by rw [hq]; exact mem, by rw [hq]; exact uniq, dflt⟩
section
variable {K : PySem.W.Frag} {P : Program} {w : World} {mg : Str → Option Value} {base : Heap} {xc : Nat → Addr}
theorem ok_defC {x qual : Str} {st : Stmt} {f : Addr} {fd : FuncData} {N ps : List Str} {k n : Nat} (M : List Nat) {g : Gn} (cdv : Value) (F : Fun K x qual st f fd) (hcd : fd.code = cdv) (S : FnScope N ps (defScope st)) (hn : ps.length = n)
    (hb : ∀ (A : Around) (outer : List Env) (s : Shared) (H : Hp) (E : XK), Room k (A.deeper (envOfC qual (defScope st) s.heap.objs.size f cdv)) →
      PassesOwn (model P w) (cxOf (L2.CX P w) P w K mg base N qual (defScope st) f cdv A outer s H E).A (cxOf (L2.CX P w) P w K mg base N qual (defScope st) f cdv A outer s H E).env (cxOf (L2.CX P w) P w K mg base N qual (defScope st) f cdv A outer s H E).xe →
      Takes (cxOf (L2.CX P w) P w K mg base N qual (defScope st) f cdv A outer s H E) (fun cls d _ H' => E cls d H') →
      ∃ t, SS K xc (cxOf (L2.CX P w) P w K mg base N qual (defScope st) f cdv A outer s H E) M (fun cls d _ H' => E cls d H') (defBody st) t g)
    (hM : M.all (fun i => decide (n ≤ i)) = true := by rfl) :
    FnOk P w K mg base (L2.CX P w) (k + 1) f fd ps (spX K n xc (defN n N.length g)) := by
  refine okXC cdv F hcd S (fun vs H Q E h => by rw [hn]; exact h.1) (fun A outer s H vs Q E hr h => ?_)
  obtain ⟨hl, Hs, ds, r, e, htb, dd, hφ, hq⟩ := h
  obtain ⟨hds, hφ⟩ := ite_get hφ
  obtain ⟨t, hS⟩ := hb A outer s H E hr (passes_of rfl) (takes_of rfl rfl rfl rfl)
  refine ⟨t, hS.ps, ?_⟩
  have hlen := dd.length
  have R : SR K M Hs H Hs H (L2.start N vs) (ds.map some ++ List.replicate (N.length - ds.length) none) := by
    have get : ∀ {i : Nat} {d : PyData}, (ds.map some ++ List.replicate (N.length - ds.length) none)[i]? = some (some d) → ds[i]? = some d := fun {i d} h => by
      by_cases hi : i < ds.length
      · rw [List.getElem?_append_left (by simpa using hi), List.getElem?_map] at h
        rw [List.getElem?_eq_getElem hi] at h ⊢
        cases h; rfl
      · rw [List.getElem?_append_right (by simpa using hi), List.getElem?_replicate] at h
        split at h <;> cases h
    refine ⟨Grow.refl e, ?_, fun i d h _ => ?_, fun i d h m => ?_, fun i j di dj p h1 h2 m1 m2 h3 h4 => ?_, htb⟩
    · unfold L2.start
      rw [List.length_append, List.length_append, List.length_map, List.length_map, List.length_replicate, List.length_replicate, hlen]
    · obtain ⟨v, h1, h2⟩ := dd.get (get h)
      refine ⟨v, ?_, h2⟩
      unfold L2.start
      have hi : i < vs.length := (List.getElem?_eq_some_iff.mp h1).1
      rw [List.getElem?_append_left (by simpa using hi), List.getElem?_map, h1]
      rfl
    · have := (List.getElem?_eq_some_iff.mp (get h)).1
      have hi : i ∈ M := by simpa using m
      have := of_decide_eq_true (List.all_eq_true.mp hM i hi)
      omega
    · have := (List.getElem?_eq_some_iff.mp (get h1)).1
      have hi : i ∈ M := by simpa using m1
      have := of_decide_eq_true (List.all_eq_true.mp hM i hi)
      omega
  unfold runDef at hφ
  cases hg : g (ds.map some ++ List.replicate (N.length - ds.length) none) with
  | none => rw [hg] at hφ; cases hφ
  | some o =>
    rw [hg] at hφ
    refine hS.sm R hg ?_
    cases o with
    | nx ρ =>
      obtain rfl := Option.some.inj hφ
      exact fun Hs' H' σ' e' R' => hq _ Hs' H' R'.g .non
    | ret d =>
      obtain rfl := Option.some.inj hφ
      exact fun v Hs' H' g' d' => hq v Hs' H' g' d'
    | exc c ρ =>
      obtain rfl := Option.some.inj hφ
      exact fun Hs' H' σ' e' R' => hq H' R'.g.calm
    | brk ρ => cases hφ
    | ct ρ => cases hφ
end
end DL
namespace DL
open PySem PySem.Spec PyProof.Rows L2 LamX NdefX
variable [Tabl]
theorem lamD_mk {X : Cx} {M : List Nat} {params : Arguments} {scope : Scope} {body : Expr} {fb : Fn} (N ps fr : List Str) (js : List Nat) (kk : Nat) (sc : Scope) (h1 : nscB N ps fr scope = true)
    (h2 : (scope.names.all fun y => !decide (y.2 = .free) || decide (sc.names.lookup y.1 = some .cell) || decide (sc.names.lookup y.1 = some .free)) = true) (h3 : (fr.all fun y => decide ((y, NameKind.free) ∈ scope.names)) = true)
    (hb : ∀ (c' f : Addr) (A : Around) (outer : List Env) (s : Shared) (H : Hp) (E : XK), Room kk (A.deeper (envF (lamF X params scope c') f s.heap.objs.size)) → ∃ tb, ED X.K (ncx (L2.CX X.prog X.w) X.prog X.w X.K X.mg X.base N (lamF X params scope c') f A outer s H E) [] body tb fb)
    (one : ps.length = 1 := by rfl) (nl : N.length = js.length + 1 := by rfl) (hM : (js.all fun j => !M.contains j) = true := by rfl) (at_ : js.map (fun j => X.N[j]?) = fr.map some := by rfl) (hs : X.env.scope = sc := by rfl)
    (bind : ∀ (pm ctv : Value) (c' : Addr) (u : Value), bindArgs (PySem.W.kla_fn "<lambda>" (X.env.qual ++ "<lambda>") params body scope (cloFrom X.env.cells scope.names []) pm (.ref c') ctv) ⟨[u], []⟩ = pure (ps.zip [u]) := by intro _ _ _ _; rfl) :
    LamD X M params scope body N ps fr js kk fb :=
  ⟨nscope_by h1, one, nl, lam_M hM, lam_free sc h2 hs, lam_fr h3, at_, bind, hb⟩
end DL
namespace DL
open PySem PySem.Spec PyProof.Rows L2 LamX NdefX
variable [Tabl]
section
variable {K : PySem.W.Frag} {X : Cx} {M : List Nat} {params : Arguments} {scope : Scope} {body : Expr} {N ps fr : List Str} {js : List Nat} {kk : Nat} {fb : Fn}
theorem fd_sortKeyK {c P : Addr} {a : Expr} {ta : TE} {fa : Fn} {p pos lp kp : Pos} (ha : ED K X M a ta fa) (LP : LamP X params c P) (L : LamD X M params scope body N ps fr js kk fb) (hr : Room (kk + 3) X.A) (hm : X.mg "sorted" = none) (hg : Gl X "sorted" := by rfl)
    (hs0 : starEach [a] X.env = (false, eval a X.env) :: starEach [] X.env := by rfl)
    (he : backTo pos (starEach [a] X.env) = (false, eval a X.env) :: backTo pos (starEach [] X.env) := by rfl) (hpl : (backTo pos (starEach [a] X.env)).any (·.1) = false := by rfl)
    (hall : (backToKw pos (keywordEach [⟨some "key", .Lambda params body scope lp, kp⟩] X.env)).all (·.1.isSome) = true := by rfl) (hnone : (backToKw pos (keywordEach [⟨some "key", .Lambda params body scope lp, kp⟩] X.env)).any (·.1.isNone) = false := by rfl) (hks : (backToKw pos (keywordEach [⟨some "key", .Lambda params body scope lp, kp⟩] X.env)).filterMap (·.1) = [Str.ofString "key"] := by rfl) (hK : X.K = K := by rfl) :
    FD K X M (.Call (.Name "sorted" p) [a] [⟨some "key", .Lambda params body scope lp, kp⟩] pos) (tSortK X P M params scope body js fb ta) (gSortKey js fb fa) := by
  subst hK
  exact fd_sortKey ha LP L hr hm hg hs0 he hpl hall hnone hks
theorem fd_minKeyK {c P : Addr} {a : Expr} {ta : TE} {fa : Fn} {p p2 p3 pos lp kp : Pos} (ha : ED K X M a ta fa) (LP : LamP X params c P) (L : LamD X M params scope body N ps fr js kk fb) (hr : Room (kk + 3) X.A) (hm : X.mg "min" = none) (hm2 : X.mg "range" = none) (hg : Gl X "min" := by rfl) (hg2 : Gl X "range" := by rfl)
    (na : starEach [a] X.env = (false, eval a X.env) :: starEach [] X.env := by rfl) (pa : (backTo p3 (starEach [] X.env)).any (·.1) = false := by rfl)
    (hs0 : starEach [.Call (.Name "range" p2) [a] [] p3] X.env = (false, eval (.Call (.Name "range" p2) [a] [] p3) X.env) :: starEach [] X.env := by rfl)
    (he : backTo pos (starEach [.Call (.Name "range" p2) [a] [] p3] X.env) = (false, eval (.Call (.Name "range" p2) [a] [] p3) X.env) :: backTo pos (starEach [] X.env) := by rfl) (hpl : (backTo pos (starEach [.Call (.Name "range" p2) [a] [] p3] X.env)).any (·.1) = false := by rfl)
    (hall : (backToKw pos (keywordEach [⟨some "key", .Lambda params body scope lp, kp⟩] X.env)).all (·.1.isSome) = true := by rfl) (hnone : (backToKw pos (keywordEach [⟨some "key", .Lambda params body scope lp, kp⟩] X.env)).any (·.1.isNone) = false := by rfl) (hks : (backToKw pos (keywordEach [⟨some "key", .Lambda params body scope lp, kp⟩] X.env)).filterMap (·.1) = [Str.ofString "key"] := by rfl) (hK : X.K = K := by rfl) :
    ED K X M (.Call (.Name "min" p) [.Call (.Name "range" p2) [a] [] p3] [⟨some "key", .Lambda params body scope lp, kp⟩] pos) (tMinK X P M params scope body js fb ta) (gMinKey js fb fa) := by
  subst hK
  exact fd_minKey ha LP L hr hm hm2 hg hg2 na pa hs0 he hpl hall hnone hks
end
end DL

namespace DL
open PySem PySem.Spec PyProof.Rows L2 LamX NdefX
/-! ### a dict of ints that a callee writes -/
abbrev Dm := List (Int × Int)
def dkv (m : Dm) : List (Key × V) := m.map fun p => (Sum.inl p.1, V.int p.2)
def putI (m : Dm) (k v : Int) : Dm := if (m.any fun p => decide (p.1 = k)) = true then m.map (fun p => if p.1 = k then (p.1, v) else p) else m ++ [(k, v)]
def lkI (m : Dm) (k : Int) : Option Int := (m.find? fun p => decide (p.1 = k)).map (·.2)
theorem dkv_put (m : Dm) (k v : Int) : putK (dkv m) (Sum.inl k) (V.int v) = dkv (putI m k v) := by
  have e : ((dkv m).any fun kv => decide (kv.1 = Sum.inl k)) = m.any fun p => decide (p.1 = k) := by
    unfold dkv
    rw [List.any_map]
    congr 1
    funext p
    simp
  unfold putK putI
  rw [e]
  by_cases c : (m.any fun p => decide (p.1 = k)) = true
  · rw [if_pos c, if_pos c]
    unfold dkv
    rw [List.map_map, List.map_map]
    refine List.map_congr_left fun p _ => ?_
    by_cases h : p.1 = k
    · simp [h]
    · simp [h]
  · rw [if_neg c, if_neg c]
    unfold dkv
    rw [List.map_append]
    rfl
theorem dkv_val (m : Dm) (k : Int) : valV (dkv m) (Sum.inl k) = (lkI m k).map V.int := by
  unfold valV lkI dkv
  rw [List.find?_map, Option.map_map, Option.map_map]
  have : ((fun kv : Key × V => decide (kv.1 = Sum.inl k)) ∘ fun p : Int × Int => ((Sum.inl p.1 : Key), V.int p.2)) = fun p => decide (p.1 = k) := by
    funext p
    simp
  rw [this]
  rfl
instance (kvs : List (Key × V)) : NT (.dK kvs) := ⟨fun _ z => by cases z⟩
variable [Tabl]
section
variable {p : Addr} {Hs H Hs' H' Hs1 H1 Hs2 H2 Hs0 H0 : Hp}
structure GrowD (p : Addr) (Hs H Hs' H' : Hp) : Prop where
  ext : ∀ b o, b ≠ p → H b = some o → (∀ ps, o ≠ .tbl ps) → H' b = some o
  back : ∀ b, H' b = none → H b = none
  tabs : LamX.Tabs Tabl.T H → LamX.Tabs Tabl.T H'
  exs : Same Hs Hs'
  sub : Same Hs' H'
  new : ∀ a, Hs a = none → H a ≠ none → Hs' a = none
theorem GrowD.of (g : Grow Hs H Hs' H') : GrowD p Hs H Hs' H' := ⟨fun b o _ e n => g.ex.ext b o e n, g.ex.back, g.ex.tabs, g.exs, g.sub, g.new⟩
theorem GrowD.trans (a : GrowD p Hs H Hs1 H1) (b : GrowD p Hs1 H1 Hs2 H2) : GrowD p Hs H Hs2 H2 where
  ext := fun c o hc e n => b.ext c o hc (a.ext c o hc e n) n
  back := fun c h => a.back c (b.back c h)
  tabs := fun t => b.tabs (a.tabs t)
  exs := a.exs.trans b.exs
  sub := b.sub
  new := fun c e n => b.new c (a.new c e n) (fun z => n (a.back c z))
theorem GrowD.put {kvs kvs' : List (Key × V)} (e : Same Hs H) (hn : Hs p = none) (hp : H p = some (.dK kvs)) : GrowD p Hs H Hs (upd H p (.dK kvs')) where
  ext := fun b o hb h _ => by rw [upd_ne hb]; exact h
  back := fun b h => upd_none h
  tabs := fun t => tabs_upd hp (fun _ z => by cases z) (fun _ z => by cases z) t
  exs := Same.refl _
  sub := fun b o h => by
    have hb : b ≠ p := fun z => by rw [z, hn] at h; cases h
    rw [upd_ne hb]
    exact e _ _ h
  new := fun _ e _ => e
theorem TB.growD (t : TB Hs H) (g : GrowD p Hs H Hs' H') : TB Hs' H' := ⟨g.tabs t.1, fun q hq => g.new q.1 (t.2 q hq) (by
  obtain ⟨ps, e, _⟩ := t.1 q hq
  rw [e]; simp)⟩
/-- a dict that is fresh: seen from before it was -/
theorem GrowD.fresh (hn : H p = none) (hs : Hs p = none) (g : GrowD p Hs (upd H p (.dK [])) Hs' H') : Grow Hs H Hs' H' where
  ex := ⟨fun b o e n => by
      have hb : b ≠ p := fun z => by rw [z, hn] at e; cases e
      exact g.ext b o hb (by rw [upd_ne hb]; exact e) n, fun b e => upd_none (g.back b e), fun t => g.tabs (t.ext (same_new hn))⟩
  exs := g.exs
  sub := g.sub
  new := fun a e n => by
    refine g.new a e ?_
    by_cases ha : a = p
    · rw [ha] at n
      exact absurd hn n
    · rw [upd_ne ha]
      exact n
end
/-- how slots and heap bear the data, and the dict at p, in slot i, bears m -/
structure SRd (K : PySem.W.Frag) (i : Nat) (p : Addr) (Hs0 H0 Hs H : Hp) (σ : L2.St) (ρ : Rho) (m : Dm) : Prop where
  g : GrowD p Hs0 H0 Hs H
  len : σ.length = ρ.length
  frz : ∀ (j : Nat) (d : PyData), ρ[j]? = some (some d) → ∃ v, σ[j]? = some (some v) ∧ Dd K Hs v d
  slot : σ[i]? = some (some (.ref p))
  dct : H p = some (.dK (dkv m))
  hid : Hs p = none
  tb : TB Hs H
section
variable {K : PySem.W.Frag} {X : Cx} {i : Nat} {p : Addr} {Hs0 H0 Hs H Hs' H' : Hp} {σ σ' : L2.St} {ρ ρ' : Rho} {m : Dm} {Rl : YR} {W : WX}
theorem SRd.sr (r : SRd K i p Hs0 H0 Hs H σ ρ m) : SR K [] Hs H Hs H σ ρ :=
  ⟨Grow.refl r.g.sub, r.len, fun j d h _ => r.frz j d h, (fun _ _ _ m => by simp at m), (fun _ _ _ _ _ _ _ m => by simp at m), r.tb⟩
theorem SRd.of (r : SRd K i p Hs0 H0 Hs H σ ρ m) (e : SR K [] Hs H Hs' H' σ' ρ') (hs : σ'[i]? = σ[i]?) : SRd K i p Hs0 H0 Hs' H' σ' ρ' m where
  g := r.g.trans (.of e.g)
  len := e.len
  frz := fun j d h => e.frz j d h rfl
  slot := by rw [hs]; exact r.slot
  dct := e.g.ex p _ r.dct
  hid := e.g.new p r.hid (by rw [r.dct]; simp)
  tb := e.tb
theorem SRd.grow (r : SRd K i p Hs0 H0 Hs H σ ρ m) (e : Grow Hs H Hs' H') : SRd K i p Hs0 H0 Hs' H' σ ρ m := r.of (r.sr.grow e) rfl
/-- the dict is changed -/
theorem SRd.to (r : SRd K i p Hs0 H0 Hs H σ ρ m) (e : GrowD p Hs H Hs' H') {m' : Dm} (hd : H' p = some (.dK (dkv m'))) : SRd K i p Hs0 H0 Hs' H' σ ρ m' where
  g := r.g.trans e
  len := r.len
  frz := fun j d h => let ⟨v, a, b⟩ := r.frz j d h; ⟨v, a, b.mono e.exs⟩
  slot := r.slot
  dct := hd
  hid := e.new p r.hid (by rw [r.dct]; simp)
  tb := r.tb.growD e
abbrev Gd := Rho → Dm → Option (Rho × Dm)
structure SDd (K : PySem.W.Frag) (X : Cx) (i : Nat) (st : Stmt) (t : TS) (g : Gd) : Prop where
  ps : PS X st t
  sm : ∀ {p : Addr} {Hs0 H0 Hs H : Hp} {σ : L2.St} {ρ ρ' : Rho} {m m' : Dm} {D : Ends}, SRd K i p Hs0 H0 Hs H σ ρ m → g ρ m = some (ρ', m') → (∀ Hs' H' σ', Same Hs Hs' → SRd K i p Hs0 H0 Hs' H' σ' ρ' m' → D.nx σ' H') → t D σ H
structure SSd (K : PySem.W.Frag) (X : Cx) (i : Nat) (st : List Stmt) (t : TS) (g : Gd) : Prop where
  ps : PSs X st t
  sm : ∀ {p : Addr} {Hs0 H0 Hs H : Hp} {σ : L2.St} {ρ ρ' : Rho} {m m' : Dm} {D : Ends}, SRd K i p Hs0 H0 Hs H σ ρ m → g ρ m = some (ρ', m') → (∀ Hs' H' σ', Same Hs Hs' → SRd K i p Hs0 H0 Hs' H' σ' ρ' m' → D.nx σ' H') → t D σ H
variable {st : Stmt} {rest : List Stmt} {t u : TS} {g1 g2 : Gd} {e b : Expr} {te tb : TE} {f fb : Fn} {pos pos' : Pos}
omit [Tabl] in
def dBlk (g1 g2 : Gd) : Gd := fun ρ m => (g1 ρ m).bind fun r => g2 r.1 r.2
theorem ssd_one (h : SDd K X i st t g1) : SSd K X i [st] t g1 := ⟨pss_one h.ps, h.sm⟩
theorem ssd_cons (h1 : SDd K X i st t g1) (h2 : SSd K X i rest u g2) : SSd K X i (st :: rest) (tSeq t u) (dBlk g1 g2) :=
  ⟨pss_cons h1.ps h2.ps, fun {p Hs0 H0 Hs H σ ρ ρ' m m' D} R hf o => by
    obtain ⟨⟨ρ1, m1⟩, a, c⟩ := bind_some hf
    exact h1.sm (D := { D with nx := u D }) R a fun Hs1 H1 σ1 e1 R1 => h2.sm R1 c fun Hs2 H2 σ2 e2 R2 => o Hs2 H2 σ2 (e1.trans e2) R2⟩
omit [Tabl] in
/-- name = e, the name another one -/
def dSet (j : Nat) (f : Fn) : Gd := fun ρ m => (f ρ).bind fun d => some (ρ.set j (some d), m)
theorem sdd_set (j : Nat) (hps : PS X st (tAsg te (gName j))) (h : ED K X [] e te f) (hj : j ≠ i) : SDd K X i st (tAsg te (gName j)) (dSet j f) :=
  ⟨hps, fun {p Hs0 H0 Hs H σ ρ ρ' m m' D} R hf o => by
    obtain ⟨d, h1, h2⟩ := bind_some hf
    cases h2
    exact h.sm R.sr h1 fun v Hs1 H1 g1 d1 => o Hs1 H1 _ g1.exs (R.of ((R.sr.grow g1).set rfl d1) (List.getElem?_set_ne hj))⟩
omit [Tabl] in
/-- names[b] = e -/
def dPut (fb f : Fn) : Gd := fun ρ m => (f ρ).bind fun d => (fb ρ).bind fun k => match k, d with
  | .int k, .int v => if m.length < 1000000 then some (ρ, putI m k v) else none
  | _, _ => none
omit [Tabl] in
theorem dkv_len (m : Dm) : (dkv m).length = m.length := by unfold dkv; rw [List.length_map]
theorem sdd_put {x : Str} {ps : Pos} (hu : X.A.units + 1 < cLine) (h : ED K X [] e te f) (hb : ED K X [] b tb fb) (hN : X.N[i]? = some x := by rfl) (hv : Vis X.env.scope x := by first | exact Or.inl rfl | exact Or.inr (Or.inl rfl) | exact Or.inr (Or.inr rfl))
    (ha : ∀ v, assign (.Subscript (.Name x pos') b ps) X.env v = (do
      let ov ← holding [v] (eval (.Name x pos') X.env)
      let iv ← holding [v, ov] (eval b X.env)
      standAt ps
      holding [v, ov, iv] (setItem ov iv v)
      release [v, ov, iv] []) := by intro _; rfl)
    (hs : swapsWithSole [.Subscript (.Name x pos') b ps] e pos.line X.env = pure false := by rfl) (hw : swappedStores [.Subscript (.Name x pos') b ps] e X.env = pure none := by rfl)
    (h1 : (assignEach [.Subscript (.Name x pos') b ps] X.env).map (·.2) = [assign (.Subscript (.Name x pos') b ps) X.env] := by rfl) (hd : (x == ("__debug__" : Str)) = false := by decide) (hcd : (x == ("__classdict__" : Str)) = false := by decide) :
    SDd K X i (.Assign [.Subscript (.Name x pos') b ps] e pos) (tAsg te (gSub (tVar i) tb rSetD)) (dPut fb f) :=
  ⟨ps_asg h.pe (pg_sub (pe_var hN hv hd hcd) hb.pe (set_dict hu) ha) hs hw h1, fun {p Hs0 H0 Hs H σ ρ ρ' m m' D} R hf o => by
    obtain ⟨d, h1, hf⟩ := bind_some hf
    obtain ⟨k, h2, hf⟩ := bind_some hf
    refine h.sm R.sr h1 fun v Hs1 H1 g1 d1 => ?_
    have R1 := R.grow g1
    refine ⟨.ref p, R1.slot, hb.sm R1.sr h2 fun w Hs2 H2 g2 d2 => ?_⟩
    have R2 := R1.grow g2
    have d1 := d1.mono g2.exs
    cases d2 with
    | int k' =>
      cases d1 with
      | int v' =>
        obtain ⟨hl, he⟩ := ite_some hf
        cases he
        refine ⟨p, upd H2 p (.dK (dkv (putI m k' v'))), rfl, ?_, o Hs2 _ σ (g1.exs.trans g2.exs) (R2.to (GrowD.put R2.g.sub R2.hid R2.dct) upd_same)⟩
        rw [← dkv_put]
        exact DPut.k (k := .inl k') (v := .int v') R2.dct (szL (by rw [dkv_len]; exact hl))
      | _ => cases hf
    | _ => cases d1 <;> cases hf⟩
omit [Tabl] in
/-- for -/
def dForF (tg : PyData → Rho → Option Rho) (body : Gd) : List PyData → Gd
  | [], ρ, m => some (ρ, m)
  | d :: ds, ρ, m => (tg d ρ).bind fun ρ1 => (body ρ1 m).bind fun r => dForF tg body ds r.1 r.2
omit [Tabl] in
def dFor (h : Rho → Option (List PyData)) (tg : PyData → Rho → Option Rho) (body : Gd) : Gd := fun ρ m => (h ρ).bind fun ds => dForF tg body ds ρ m
theorem sdd_for {iter tg : Expr} {body : List Stmt} {wi : TI} {g : TG} {tb : TS} {gb : Gd} {vs : List Nat} {h : Rho → Option (List PyData)} {hg : PyData → Rho → Option Rho} (hp : PassesOwn (model X.prog X.w) X.A X.env X.xe)
    (hi : ID K X [] Rl tg iter wi h) (hG : GD K X [] Rl vs tg g hg) (hb : SSd K X i body tb gb) (hv : vs.contains i = false := by rfl) (hc : X.calm = true := by rfl) (hs : ∀ x, foldedSetIterable iter X.env x = pure x := by intro _; rfl) :
    SDd K X i (.For tg iter body [] pos) (tFor wi g tb) (dFor h hg gb) :=
  ⟨ps_for hp hc hi.pi hG.pg hb.ps hs, fun {p Hs0 H0 Hs H σ ρ ρ' m m' D} R hf o => by
    obtain ⟨ds, h1, h2⟩ := bind_some hf
    refine hi.sm R.sr h1 fun J Hs1 H1 g1 Y => ?_
    refine ⟨fun k c σ' H' => c = ds.length - k ∧ k ≤ ds.length ∧ ∃ Hsi ρi mi, Same Hs1 Hsi ∧ SRd K i p Hs0 H0 Hsi H' σ' ρi mi ∧ dForF hg gb (ds.drop k) ρi mi = some (ρ', m'), ⟨ds.length, by simp, Nat.zero_le _, Hs1, ρ, m, Same.refl _, R.grow g1, h2⟩, ?_⟩
    rintro k c σ2 H2 ⟨rfl, hle, Hsi, ρi, mi, e2, R2, hF⟩
    by_cases hlt : k < ds.length
    · refine .inr ⟨Y.go k H2 (e2.trans R2.g.sub) hlt, fun σ' H' => k + 1 ≤ ds.length ∧ ∃ Hsi ρi mi, Same Hs1 Hsi ∧ SRd K i p Hs0 H0 Hsi H' σ' ρi mi ∧ dForF hg gb (ds.drop (k + 1)) ρi mi = some (ρ', m'),
        fun σ' H' ⟨a, b⟩ => ⟨ds.length - (k + 1), by omega, rfl, a, b⟩, fun x H3 hy => ?_⟩
      obtain ⟨Hs3, g3, d, hd, ad⟩ := Y.yld k H2 x H3 Hsi hlt e2 R2.g.sub hy
      have ed : ds.drop k = d :: ds.drop (k + 1) := by
        have e1 := List.drop_eq_getElem_cons hlt
        have e2 : ds[k] = d := (List.getElem?_eq_some_iff.mp hd).2
        rw [e1, e2]
      rw [ed] at hF
      unfold dForF at hF
      obtain ⟨ρ1, c1, hF⟩ := bind_some hF
      obtain ⟨⟨ρ2, m2⟩, c2, hF⟩ := bind_some hF
      have R3 := R2.grow g3
      refine hG.sm R3.sr ad c1 fun σ4 R4 w4 => ?_
      have hs4 : σ4[i]? = σ2[i]? := by
        have hi : i ∉ vs := by simpa using hv
        have := w4 vs fun _ z => z
        rw [← wipe_out (σ := σ4) hi, this, wipe_out hi]
      refine hb.sm (R3.of R4 hs4) c2 fun Hs5 H5 σ5 e5 R5 => ⟨hlt, Hs5, ρ2, m2, (e2.trans g3.exs).trans e5, R5, hF⟩
    · have ei : k = ds.length := by omega
      subst ei
      rw [List.drop_length] at hF
      unfold dForF at hF
      cases hF
      exact .inl ⟨Y.stop _ H2 (e2.trans R2.g.sub) (Nat.le_refl _), o Hsi H2 σ2 (g1.exs.trans e2) R2⟩⟩

/-! ### a call that is handed the dict -/
/-- a of things of data, the dict, then others -/
structure ADd (K : PySem.W.Frag) (X : Cx) (i : Nat) (es : List Expr) (t : TA) (n : Nat) (f : Rho → Option (List PyData)) : Prop where
  pa : PA X es t
  sm : ∀ {p : Addr} {Hs0 H0 Hs H : Hp} {σ : L2.St} {ρ : Rho} {m : Dm} {ds : List PyData} {Q : List V → Hp → Prop}, SRd K i p Hs0 H0 Hs H σ ρ m → f ρ = some ds → (∀ vs1 vs2 Hs' H', Grow Hs H Hs' H' → vs1.length = n → DdAll K Hs' (vs1 ++ vs2) ds → Q (vs1 ++ V.ref p :: vs2) H') → t σ H Q
theorem add_here {x : Str} {es : List Expr} {tr : TA} {fr : Rho → Option (List PyData)} (h : AD K X [] es tr fr) (hN : X.N[i]? = some x := by rfl) (hv : Vis X.env.scope x := by first | exact Or.inl rfl | exact Or.inr (Or.inl rfl) | exact Or.inr (Or.inr rfl))
    (hs : starEach (.Name x pos :: es) X.env = (false, eval (.Name x pos) X.env) :: starEach es X.env := by rfl) (hd : (x == ("__debug__" : Str)) = false := by decide) (hcd : (x == ("__classdict__" : Str)) = false := by decide) : ADd K X i (.Name x pos :: es) (tCons (tVar i) tr) 0 fr :=
  ⟨pa_cons (pe_var hN hv hd hcd) h.pa hs, fun {p Hs0 H0 Hs H σ ρ m ds Q} R hf q => ⟨.ref p, R.slot, h.sm R.sr hf fun vs Hs' H' g d => q [] vs Hs' H' g rfl d⟩⟩
theorem add_cons {n : Nat} {es : List Expr} {tr : TA} {fr : Rho → Option (List PyData)} (ha : ED K X [] e te f) (hr : ADd K X i es tr n fr) (hs : starEach (e :: es) X.env = (false, eval e X.env) :: starEach es X.env := by rfl) : ADd K X i (e :: es) (tCons te tr) (n + 1) (fCons f fr) :=
  ⟨pa_cons ha.pe hr.pa hs, fun {p Hs0 H0 Hs H σ ρ m ds Q} R hf q => by
    obtain ⟨d, h1, hf⟩ := bind_some hf
    obtain ⟨ds', h2, hf⟩ := bind_some hf
    obtain rfl := Option.some.inj hf
    exact ha.sm R.sr h1 fun v Hs1 H1 g1 d1 => hr.sm (R.grow g1) h2 fun vs1 vs2 Hs2 H2 g2 hl dd => q (v :: vs1) vs2 Hs2 H2 (g1.trans g2) (by rw [List.length_cons, hl]) (.cons (d1.mono g2.exs) dd)⟩
/-- what a def does that writes a dict; n: the arguments ahead of it -/
def spD (K : PySem.W.Frag) (n k : Nat) (φ : List PyData → Dm → Option Dm) : Sp := fun vs H Q _ => ∃ (p : Addr) (vs1 vs2 : List V) (Hs : Hp) (ds : List PyData) (m m' : Dm), vs = vs1 ++ V.ref p :: vs2 ∧ vs1.length = n ∧ vs.length = k ∧ Same Hs H ∧ TB Hs H ∧ Hs p = none ∧ H p = some (.dK (dkv m)) ∧ DdAll K Hs (vs1 ++ vs2) ds ∧
  φ ds m = some m' ∧ ∀ Hs' H', GrowD p Hs H Hs' H' → H' p = some (.dK (dkv m')) → Q .non H'
omit [Tabl] in
def dCall (φ : List PyData → Dm → Option Dm) (fa : Rho → Option (List PyData)) : Gd := fun ρ m => (fa ρ).bind fun ds => (φ ds m).bind fun m' => some (ρ, m')
theorem sdd_call {k n c : Nat} {fA : Addr} {fd : FuncData} {ps : List Str} {x : Str} {q : Pos} {es : List Expr} {tr : TA} {fr : Rho → Option (List PyData)} {φ : List PyData → Dm → Option Dm} (F : FnOk X.prog X.w X.K X.mg X.base (L2.CX X.prog X.w) k fA fd ps (spD K n c φ)) (hr : Room k X.A) (hm : X.mg x = some (.ref fA))
    (hk : PySem.W.keepIn X.K (.ref fA) = true) (hb : Binds X.K fd ps []) (tk : Takes X W) (ha : ADd K X i (e :: es) tr n fr) (hn : ∀ ds m r, φ ds m = some r → ds.length + 1 = c) (hg : Gl X x := by rfl) (hdb : (x == ("__debug__" : Str)) = false := by decide) (he : starEach (e :: es) X.env = (false, eval e X.env) :: starEach es X.env := by rfl)
    (hpl : (backTo pos (starEach es X.env)).any (·.1) = false := by rfl) (hs : swapsWith (.Call (.Name x q) (e :: es) [] pos) none pos'.line X.env = pure false := by rfl) :
    SDd K X i (.Expr (.Call (.Name x q) (e :: es) [] pos) pos') (tDrop (tCallS (spD K n c φ) (WE W) tr)) (dCall φ fr) :=
  ⟨ps_expr (pe_callS F hr hg hm hk hb (fun σ => passAt tk σ) ha.pa hdb he hpl) hs, fun {p Hs0 H0 Hs H σ ρ ρ' m m' D} R hf o => by
    obtain ⟨ds, h1, hf⟩ := bind_some hf
    obtain ⟨m1, h2, hf⟩ := bind_some hf
    cases hf
    refine ha.sm R h1 fun vs1 vs2 Hs1 H1 g1 hl dd => ?_
    have R1 := R.grow g1
    have hlen := dd.length
    rw [List.length_append] at hlen
    refine ⟨p, vs1, vs2, Hs1, ds, m, m', rfl, hl, ?_, R1.g.sub, R1.tb, R1.hid, R1.dct, dd, h2, fun Hs2 H2 g2 hd => o Hs2 H2 σ (g1.exs.trans g2.exs) (R1.to g2 hd)⟩
    have := hn _ _ _ h2
    rw [List.length_append, List.length_cons]
    omega⟩
end
/-! ### a def that writes a dict -/
omit [Tabl] in
def rhoD (N n : Nat) (ds : List PyData) : Rho := (ds.take n).map some ++ none :: ((ds.drop n).map some ++ List.replicate (N - (ds.length + 1)) none)
omit [Tabl] in
def defD (N n k : Nat) (g : Gd) : List PyData → Dm → Option Dm := fun ds m => if ds.length + 1 = k ∧ n ≤ ds.length then (g (rhoD N n ds) m).map (·.2) else none
theorem defD_len {N n k : Nat} {g : Gd} : ∀ ds m r, defD N n k g ds m = some r → ds.length + 1 = k := fun ds m r h => (ite_get h).1.1
section
variable {K : PySem.W.Frag} {P : Program} {w : World} {mg : Str → Option Value} {base : Heap} {xc : Nat → Addr}
theorem ok_noneD {x qual : Str} {st : Stmt} {f : Addr} {fd : FuncData} {N ps : List Str} {k n c : Nat} (F : Fun K x qual st f fd) (S : FnScope N ps (defScope st)) (hn : ps.length = c) :
    FnOk P w K mg base (L2.CX P w) (k + 1) f fd ps (spD K n c fun _ _ => none) := by
  refine F.okX S (fun vs H Q E h => ?_) (fun cdv A outer s H vs Q E hr h => ?_)
  · obtain ⟨_, _, _, _, _, _, _, _, _, hl, _⟩ := h
    rw [hn]; exact hl
  · obtain ⟨p, vs1, vs2, Hs, ds, m, m', _, _, _, _, _, _, _, _, hφ, _⟩ := h
    cases hφ
theorem ok_dict {x qual : Str} {st : Stmt} {f : Addr} {fd : FuncData} {N ps : List Str} {k n c : Nat} {g : Gd} (cdv : Value) (F : Fun K x qual st f fd) (hcd : fd.code = cdv) (S : FnScope N ps (defScope st)) (hn : ps.length = c)
    (hb : ∀ (A : Around) (outer : List Env) (s : Shared) (H : Hp) (E : XK), Room k (A.deeper (envOfC qual (defScope st) s.heap.objs.size f cdv)) →
      PassesOwn (model P w) (cxOf (L2.CX P w) P w K mg base N qual (defScope st) f cdv A outer s H E).A (cxOf (L2.CX P w) P w K mg base N qual (defScope st) f cdv A outer s H E).env (cxOf (L2.CX P w) P w K mg base N qual (defScope st) f cdv A outer s H E).xe →
      Takes (cxOf (L2.CX P w) P w K mg base N qual (defScope st) f cdv A outer s H E) (fun cls d _ H' => E cls d H') →
      ∃ t, SSd K (cxOf (L2.CX P w) P w K mg base N qual (defScope st) f cdv A outer s H E) n (defBody st) t g) :
    FnOk P w K mg base (L2.CX P w) (k + 1) f fd ps (spD K n c (defD N.length n c g)) := by
  refine okXC cdv F hcd S (fun vs H Q E h => ?_) (fun A outer s H vs Q E hr h => ?_)
  · obtain ⟨_, _, _, _, _, _, _, _, _, hl, _⟩ := h
    rw [hn]; exact hl
  · obtain ⟨p, vs1, vs2, Hs, ds, m, m', rfl, h1, hc, e, htb, hp, hd, dd, hφ, hq⟩ := h
    obtain ⟨⟨hl, hle⟩, hφ⟩ := ite_get hφ
    obtain ⟨t, hS⟩ := hb A outer s H E hr (passes_of rfl) (takes_of rfl rfl rfl rfl)
    refine ⟨t, hS.ps, ?_⟩
    obtain ⟨⟨ρ', m1⟩, hg, he⟩ := Option.map_eq_some_iff.mp hφ
    obtain rfl : m1 = m' := he
    have hlen := dd.length
    rw [List.length_append] at hlen
    have R : SRd K n p Hs H Hs H (L2.start N (vs1 ++ V.ref p :: vs2)) (rhoD N.length n ds) m := by
      have e1 : L2.start N (vs1 ++ V.ref p :: vs2) = vs1.map some ++ some (V.ref p) :: (vs2.map some ++ List.replicate (N.length - (ds.length + 1)) none) := by
        unfold L2.start
        rw [List.map_append, List.map_cons, List.append_assoc, List.cons_append]
        have : (vs1 ++ V.ref p :: vs2).length = ds.length + 1 := by
          rw [List.length_append, List.length_cons]
          omega
        rw [this]
      rw [e1]
      have lt : ((ds.take n).map some : Rho).length = n := by
        rw [List.length_map, List.length_take]
        omega
      have lv : (vs1.map some : L2.St).length = n := by rw [List.length_map]; exact h1
      refine ⟨GrowD.of (Grow.refl e), ?_, fun j d h => ?_, ?_, hd, hp, htb⟩
      · unfold rhoD
        simp only [List.length_append, List.length_map, List.length_take, List.length_cons, List.length_drop, List.length_replicate]
        omega
      · unfold rhoD at h
        by_cases hj : j < n
        · rw [List.getElem?_append_left (by rw [lt]; exact hj), List.getElem?_map, List.getElem?_take, if_pos hj] at h
          have hds : ds[j]? = some d := by
            cases q : ds[j]? with
            | none => rw [q] at h; cases h
            | some d' => rw [q] at h; cases h; rfl
          obtain ⟨v, a1, a2⟩ := dd.get hds
          rw [List.getElem?_append_left (by omega)] at a1
          refine ⟨v, ?_, a2⟩
          rw [List.getElem?_append_left (by rw [lv]; exact hj), List.getElem?_map, a1]
          rfl
        · rw [List.getElem?_append_right (by rw [lt]; omega), lt] at h
          by_cases hj0 : j - n = 0
          · rw [hj0] at h
            cases h
          · obtain ⟨u, hu⟩ : ∃ u, j - n = u + 1 := ⟨j - n - 1, by omega⟩
            rw [hu, List.getElem?_cons_succ] at h
            by_cases hu2 : u < (ds.drop n).length
            · rw [List.getElem?_append_left (by rw [List.length_map]; exact hu2), List.getElem?_map, List.getElem?_drop] at h
              have hds : ds[n + u]? = some d := by
                cases q : ds[n + u]? with
                | none => rw [q] at h; cases h
                | some d' => rw [q] at h; cases h; rfl
              obtain ⟨v, a1, a2⟩ := dd.get hds
              rw [List.getElem?_append_right (by omega), h1, show n + u - n = u by omega] at a1
              refine ⟨v, ?_, a2⟩
              rw [List.getElem?_append_right (by rw [lv]; omega), lv, hu, List.getElem?_cons_succ, List.getElem?_append_left (by
                rw [List.length_map]
                have := (List.getElem?_eq_some_iff.mp a1).1
                exact this), List.getElem?_map, a1]
              rfl
            · rw [List.getElem?_append_right (by rw [List.length_map]; omega), List.getElem?_replicate] at h
              split at h <;> cases h
      · rw [List.getElem?_append_right (by rw [lv]; exact Nat.le_refl _), lv, Nat.sub_self]
        rfl
    exact hS.sm R hg fun Hs' H' σ' e' R' => hq Hs' H' R'.g R'.dct
end
end DL

namespace DL
open PySem PySem.Spec PyProof.Rows L2 LamX NdefX
variable [Tabl]
section
variable {K : PySem.W.Frag} {X : Cx} {i : Nat} {W : WX} {xc : Nat → Addr} {e : Expr} {te : TE} {pos : Pos}
/-! ### expressions where the dict is read -/
structure EDd (K : PySem.W.Frag) (X : Cx) (i : Nat) (e : Expr) (t : TE) (f : Rho → Dm → Option PyData) : Prop where
  pe : PE X e t
  sm : ∀ {p : Addr} {Hs0 H0 Hs H : Hp} {σ : L2.St} {ρ : Rho} {m : Dm} {d : PyData} {Q : VK}, SRd K i p Hs0 H0 Hs H σ ρ m → f ρ m = some d → (∀ v Hs' H', Grow Hs H Hs' H' → Dd K Hs' v d → Q v H') → t σ H Q
structure FDd (K : PySem.W.Frag) (X : Cx) (i : Nat) (e : Expr) (t : TE) (f : Rho → Dm → Option (List PyData)) : Prop where
  pe : PE X e t
  sm : ∀ {p : Addr} {Hs0 H0 Hs H : Hp} {σ : L2.St} {ρ : Rho} {m : Dm} {ds : List PyData} {Q : VK}, SRd K i p Hs0 H0 Hs H σ ρ m → f ρ m = some ds →
    (∀ l xs Hs' H', Grow Hs H Hs' H' → H l = none → Hs' l = none → H' l = some (.lst xs) → DdAll K Hs' xs ds → Q (.ref l) H') → t σ H Q
omit [Tabl] in
/-- the name that the dict tells of the j-th slot -/
def fNm (j : Nat) (m : Dm) : Fn := fun ρ => (fVar j ρ).bind fun d => match d with
  | .int k => (lkI m k).bind fun v => some (.int v)
  | _ => none
theorem fdd_lc {elt tg iter : Expr} {scope : Scope} {wi : TI} {g : TG} {ws : List Nat} {h : Rho → Option (List PyData)} {hg' : PyData → Rho → Option Rho} {Rl : YR}
    (j : Nat) (own : List (Str × Nat)) (hN : X.N.Nodup) (hi : ID K X [] Rl tg iter wi h) (ok : BlkOk X.N X.env.scope scope own)
    (hg : ∀ (s : Shared) (H : Hp) (C : Addr) (cl : List (Str × Addr)) (fp : List Addr), GD K (X.blk s H scope (compEnvC scope cl C X.env) fp) [] Rl ws tg g hg')
    (he : ∀ (s : Shared) (H : Hp) (C : Addr) (cl : List (Str × Addr)) (fp : List Addr), PE (X.blk s H scope (compEnvC scope cl C X.env) fp) elt (tDGet (tVar i) (tVar j)))
    (hio : (own.map (·.2)).contains i = false := by rfl)
    (hws : ws.all (fun i => (own.map (·.2)).contains i) = true := by rfl) (hc : X.calm = true := by rfl) (hs : ∀ x, foldedSetIterable iter X.env x = pure x := by intro _; rfl) :
    FDd K X i (.ListComp elt [⟨tg, iter, [], 0⟩] scope pos) (tLc wi g tYes (tDGet (tVar i) (tVar j)) (own.map (·.2))) (fun ρ m => fLc (own.map (·.2)) h hg' cYes (fNm j m) ρ) := by
  have hws' : ∀ i ∈ ws, i ∈ own.map (·.2) := fun i hi => by
    have := List.all_eq_true.mp hws i hi
    simpa using this
  have hio' : i ∉ own.map (·.2) := by simpa using hio
  refine ⟨pe_lc hc hN hi.pi ok (fun s H C cl fp => (hg s H C cl fp).pg) (fun s H C cl fp => pts_nil) he hs, fun {p Hs0 H0 Hs H σ ρ m res Q} R hf q => ?_⟩
  obtain ⟨ds, h1, h2⟩ := bind_some hf
  obtain ⟨hl, h2⟩ := ite_get h2
  refine hi.sm R.sr h1 fun J Hs1 H1 g1 Y D hD => ?_
  have R1 := R.grow g1
  have nD : Hs1 D = none := g1.sub.free hD
  refine ⟨fun k c H' => c = ds.length - k ∧ k ≤ ds.length ∧ ∃ Hsi acc accd tail, Grow Hs1 H1 Hsi H' ∧ Hsi D = none ∧ H' D = some (.lst acc) ∧ DdAll K Hsi acc accd ∧ acc.length ≤ k ∧ compF hg' cYes (fNm j m) (wipeR ρ (own.map (·.2))) (ds.drop k) = some tail ∧ accd ++ tail = res,
    ⟨ds.length, by simp, Nat.zero_le _, Hs1, [], [], res, Grow.alloc0 g1.sub hD, nD, upd_same, .nil, Nat.le_refl _, h2, rfl⟩, ?_⟩
  rintro k c H2 ⟨rfl, hle, Hsi, acc, accd, tail, g2, n2, hD2, d2, hacc, hcf, hres⟩
  by_cases hlt : k < ds.length
  · refine .inr ⟨Y.go k H2 (g2.exs.trans g2.sub) hlt, fun H' => k + 1 ≤ ds.length ∧ ∃ Hsi acc accd tail, Grow Hs1 H1 Hsi H' ∧ Hsi D = none ∧ H' D = some (.lst acc) ∧ DdAll K Hsi acc accd ∧ acc.length ≤ k + 1 ∧ compF hg' cYes (fNm j m) (wipeR ρ (own.map (·.2))) (ds.drop (k + 1)) = some tail ∧ accd ++ tail = res,
      fun H' ⟨a, b⟩ => ⟨ds.length - (k + 1), by omega, rfl, a, b⟩, fun x H3 hy => ?_⟩
    obtain ⟨Hs3, g3, d, hd, ad⟩ := Y.yld k H2 x H3 Hsi hlt g2.exs g2.sub hy
    have ed : ds.drop k = d :: ds.drop (k + 1) := by
      have e1 := List.drop_eq_getElem_cons hlt
      have e2 : ds[k] = d := (List.getElem?_eq_some_iff.mp hd).2
      rw [e1, e2]
    rw [ed] at hcf
    unfold compF at hcf
    obtain ⟨ρ1, c1, hcf⟩ := bind_some hcf
    obtain ⟨bb, c2, hcf⟩ := bind_some hcf
    cases c2
    rw [if_pos rfl] at hcf
    obtain ⟨y, c3, hcf⟩ := bind_some hcf
    obtain ⟨ys, c4, hcf⟩ := bind_some hcf
    obtain rfl := Option.some.inj hcf
    have R3 : SR K [] Hs H Hs3 H3 (L2.wipe σ (own.map (·.2))) (wipeR ρ (own.map (·.2))) := (((R.sr.grow g1).wipe _).grow g2).grow g3
    refine (hg X.s_0 (fun _ => none) 0 [] []).sm R3 ad c1 fun σ4 R4 w4 => ⟨?_, ?_⟩
    · rw [w4 _ hws']
      exact wipe_wipe σ _
    · unfold tYes
      dsimp only
      rw [if_pos rfl]
      have hs4 : σ4[i]? = some (some (.ref p)) := by
        have := w4 _ hws'
        rw [wipe_wipe] at this
        rw [← wipe_out (σ := σ4) hio', this, wipe_out hio']
        exact R.slot
      have hp3 : H3 p = some (.dK (dkv m)) := g3.ex p _ (g2.ex p _ R1.dct)
      unfold fNm at c3
      obtain ⟨z, c5, c6⟩ := bind_some c3
      obtain ⟨vz, a5, b5⟩ := R4.frz j z (fVar_some c5) rfl
      have fin : ∀ (kk vv : Int), z = .int kk → lkI m kk = some vv → y = .int vv → tDGet (tVar i) (tVar j) σ4 H3 fun y H4 => ∃ acc, H4 D = some (.lst acc) ∧ acc.length < sizeLine ∧ (k + 1 ≤ ds.length ∧ ∃ Hsi acc' accd tail, Grow Hs1 H1 Hsi (upd H4 D (.lst (acc ++ [y]))) ∧ Hsi D = none ∧ (upd H4 D (.lst (acc ++ [y]))) D = some (.lst acc') ∧ DdAll K Hsi acc' accd ∧ acc'.length ≤ k + 1 ∧ compF hg' cYes (fNm j m) (wipeR ρ (own.map (·.2))) (ds.drop (k + 1)) = some tail ∧ accd ++ tail = res) := by
        rintro kk vv rfl hk rfl
        cases b5
        refine ⟨.ref p, hs4, .int kk, a5, p, .int vv, rfl, ?_, ?_⟩
        · have := DGet.k (k := .inl kk) hp3
          rw [dkv_val, hk] at this
          exact this
        · have hD3 : H3 D = some (.lst acc) := g3.ex _ _ hD2
          have n3 : Hs3 D = none := g3.new D n2 (by rw [hD2]; simp)
          have gg := g2.trans g3
          refine ⟨acc, hD3, szL (by omega), hlt, Hs3, acc ++ [.int vv], accd ++ [.int vv], ys, gg.write hD n3 hD3, n3, upd_same, (d2.mono g3.exs).append (.cons (.int _) .nil), ?_, c4, ?_⟩
          · rw [List.length_append, List.length_singleton]
            omega
          · rw [List.append_assoc]
            exact hres
      split at c6
      · rename_i kk
        obtain ⟨vv, hk, hv⟩ := bind_some c6
        exact fin kk vv rfl hk (Option.some.inj hv).symm
      · cases c6
  · have ei : k = ds.length := by omega
    subst ei
    rw [List.drop_length] at hcf
    unfold compF at hcf
    cases hcf
    rw [List.append_nil] at hres
    subst hres
    exact .inl ⟨Y.stop _ H2 (g2.exs.trans g2.sub) (Nat.le_refl _), q D acc Hsi H2 (g1.trans g2) (g1.ex.free hD) n2 hD2 d2⟩
omit [Tabl] in
/-- (tuple(fresh list),) -/
def fTup1 (f : Rho → Dm → Option (List PyData)) : Rho → Dm → Option PyData := fun ρ m => (f ρ m).bind fun ds => some (.tuple [.tuple ds])
theorem edd_tup1 {f : Rho → Dm → Option (List PyData)} {p1 tp : Pos} {k : Nat} (h : FDd K X i e te f) (hm : X.mg "tuple" = none) (hg : Gl X "tuple" := by rfl)
    (he : starEach (e :: []) X.env = (false, eval e X.env) :: starEach [] X.env := by rfl) (hpl : (backTo pos (starEach [] X.env)).any (·.1) = false := by rfl)
    (hs : starEach (.Call (.Name "tuple" tp) [e] [] pos :: []) X.env = (false, eval (.Call (.Name "tuple" tp) [e] [] pos) X.env) :: starEach [] X.env := by rfl) (hK : X.K = K := by rfl) :
    EDd K X i (.Tuple [.Call (.Name "tuple" tp) [e] [] pos] k p1) (tTupN (tCons (tCB (fun xs H Q => ∃ p ys, xs = [.ref p] ∧ ((SqL K H p ys ∧ NewT Q H ys) ∨ (SqT K H p ys ∧ Q (.ref p) H))) (tCons te tNil)) tNil)) (fTup1 f) := by
  subst hK
  refine ⟨pe_tupN (pa_cons (pe_callTy (bd_tuple (K := X.K)).cr hg hm boot_tuple (pa_cons h.pe pa_nil he) (by decide) (by decide) he hpl) pa_nil hs), fun {p Hs0 H0 Hs H σ ρ m d Q} R hf q => ?_⟩
  obtain ⟨ds, h1, h2⟩ := bind_some hf
  obtain rfl := Option.some.inj h2
  refine h.sm R h1 fun l xs Hs1 H1 g1 hl hsl hH dd => ?_
  refine ⟨l, xs, rfl, .inl ⟨sqL_of hH, fun a ob hn ha => ⟨szM (by simp), fun b ob2 hn2 hb => ?_⟩⟩⟩
  have g2 : Grow Hs1 H1 (upd Hs1 a (.frz ob (.tup xs))) (upd H1 a (.frz ob (.tup xs))) := Grow.alloc g1.sub ha
  have d2 : Dd X.K (upd Hs1 a (.frz ob (.tup xs))) (.ref a) (.tuple ds) := .tup hn upd_same (dd.mono g2.exs)
  exact NewT.of (g1.trans g2) (.cons d2 .nil) q b ob2 hn2 hb
/-! ### names = {}, a loop that fills it, what it tells -/
omit [Tabl] in
def gNames (i : Nat) (g1 : Gd) (f : Rho → Dm → Option PyData) : Gn := fun ρ => if i < ρ.length then (g1 (ρ.set i none) []).bind fun r => (f r.1 r.2).bind fun d => some (.ret d) else none
theorem ss_names {st0 st1 : Stmt} {t1 : TS} {g1 : Gd} {f : Rho → Dm → Option PyData} (h0 : PS X st0 (tAsg tDNewK (gName i))) (h1 : SDd K X i st1 t1 g1) (h2 : EDd K X i e te f) :
    SS K xc X [] W [st0, st1, .Return (some e) pos] (tSeq (tAsg tDNewK (gName i)) (tSeq t1 (tRet te))) (gNames i g1 f) :=
  ⟨pss_cons h0 (pss_cons h1.ps (pss_one (ps_ret h2.pe))), fun {Hs0 H0 Hs H σ ρ r D} R hf o => by
    unfold gNames at hf
    obtain ⟨hi, hf⟩ := ite_get hf
    obtain ⟨⟨ρ1, m1⟩, c1, hf⟩ := bind_some hf
    obtain ⟨d, c2, hf⟩ := bind_some hf
    cases hf
    intro p hp
    have hsp : Hs p = none := R.sub.free hp
    have R1 : SRd K i p Hs (upd H p (.dK [])) Hs (upd H p (.dK [])) (σ.set i (some (.ref p))) (ρ.set i none) [] := by
      refine ⟨GrowD.of (Grow.refl (R.sub.trans (same_new hp))), by rw [List.length_set, List.length_set]; exact R.len, fun j d h => ?_, List.getElem?_set_self (by rw [R.len]; exact hi), upd_same, hsp, ?_⟩
      · by_cases hj : i = j
        · subst hj
          rw [List.getElem?_set_self hi] at h
          cases h
        · rw [List.getElem?_set_ne hj] at h ⊢
          exact R.frz j d h rfl
      · exact ⟨R.tb.1.ext (same_new hp), R.tb.2⟩
    exact h1.sm R1 c1 fun Hs2 H2 σ2 e2 R2 => h2.sm R2 c2 fun v Hs3 H3 g3 d3 => o v Hs3 H3 (R.g.trans (GrowD.fresh hp hsp (R2.g.trans (.of g3)))) d3⟩
/-! ### names that take a value while a dict is written -/
theorem sdd_setE (j : Nat) {x : Str} {f : Fn} {pos' : Pos} (hN : X.N.Nodup) (h : ED K X [] e te f) (hj : j ≠ i) (hi : X.N[j]? = some x := by rfl) (hx : Loc X.env.scope x := by first | exact Or.inl rfl | exact Or.inr rfl)
    (hs : swapsWith e (some (.Name x pos')) pos.line X.env = pure false := by rfl) (hf : X.fn x = true ∨ X.env.scope.names.lookup x = some .local := by first | exact .inl rfl | exact .inr rfl) :
    SDd K X i (.Assign [.Name x pos'] e pos) (tAsg te (gName j)) (dSet j f) := sdd_set j (ps_set hN hi hx h.pe hs hf) h hj
theorem sdd_setLc {elt tg iter : Expr} {ifs : List Expr} {scope : Scope} {pos1 py : Pos} {wi : TI} {g : TG} {tt : TT} {ws : List Nat} {h : Rho → Option (List PyData)} {hg' : PyData → Rho → Option Rho} {c : Rho → Option Bool} {Rl : YR} {f : Fn} (j : Nat) {y : Str}
    (own : List (Str × Nat)) (hN : X.N.Nodup) (hi : ID K X [] Rl tg iter wi h) (ok : BlkOk X.N X.env.scope scope own)
    (hg : ∀ (s : Shared) (H : Hp) (C : Addr) (cl : List (Str × Addr)) (fp : List Addr), GD K (X.blk s H scope (compEnvC scope cl C X.env) fp) [] Rl ws tg g hg')
    (ht : ∀ (s : Shared) (H : Hp) (C : Addr) (cl : List (Str × Addr)) (fp : List Addr), CTD K (X.blk s H scope (compEnvC scope cl C X.env) fp) [] ifs tt c)
    (he : ∀ (s : Shared) (H : Hp) (C : Addr) (cl : List (Str × Addr)) (fp : List Addr), ED K (X.blk s H scope (compEnvC scope cl C X.env) fp) [] elt te f)
    (hsw : swapsWith (.ListComp elt [⟨tg, iter, ifs, 0⟩] scope pos1) (some (.Name y py)) pos.line X.env = pure true) (hj : j ≠ i)
    (hy : X.N[j]? = some y := by rfl) (hyl : X.env.scope.names.lookup y = some .local := by rfl)
    (hws : ws.all (fun i => (own.map (·.2)).contains i) = true := by rfl) (hc : X.calm = true := by rfl) (hs : ∀ x, foldedSetIterable iter X.env x = pure x := by intro _; rfl) :
    SDd K X i (.Assign [.Name y py] (.ListComp elt [⟨tg, iter, ifs, 0⟩] scope pos1) pos) (tAsg (tLc wi g tt te (own.map (·.2))) (gName j)) (dSet j (fFr (fLc (own.map (·.2)) h hg' c f))) :=
  sdd_set j (sd_setLc (xc := fun _ => 0) (W := fun _ _ _ _ => False) (M := []) j own hN hi ok hg ht he hsw hy hyl rfl hws hc hs).ps (ed_fr (fd_lc (pos := pos1) own hN hi ok hg ht he hws hc hs)) hj
end
end DL


namespace DL
open PySem PySem.Spec PyProof.Rows L2 LamX

/-- The end for defs that own a table of code objects. -/
theorem walk_ofAll {l : PySem.W.OpenLaw} {n k : Nat} {q : Program} {loose : List Str} {XP : (Str → Option Value) → Heap → Prop} {YP : World → Heap → Prop} {d : DefRec} {K : Params → PySem.W.Frag} {CX : World → CXT} {x : Str} (ds : List Str)
    (hn : l.most = some n) (hn2 : n ≤ sizeLine) (hdf : d.params.defaults = []) (hr : Room k callerA) (hrec : (ds.all fun y => (recsOf q).any fun e => e.name == y) = true) (hY : ∀ (w : World) (h : Heap), YP w h → (K w.params).In h)
    (F : ∀ (w : World) (mg : Str → Option Value) (fa : Addr) (h : Heap), YP w h → (K w.params).In h → h.Ns mainGlobals mg → mg d.name = some (.ref fa) → (∀ y ∈ ds, ∀ fA, mg y = some (.ref fA) → OwnTab (K w.params) fA h) → LawAtS l w (K w.params) (CX w) k n x mg fa h)
    (hCX : ∀ (w : World) (H : Hp) (s : Shared) (e : Value) (s' : Shared), CX w [] H s (fun _ _ _ => False) e s' → False) :
    PySem.W.WalkO q loose XP YP l.row.toRowW d [] (fun f vs => PySem.call f vs) := by
  refine Att.attach_callB hn hdf fun w s₀ s₁ mg mb fa o pm cd doc a vs ns G Y ho hd hcd hmg hobj hints hlen hbits hg => ?_
  have KX := hY w _ Y
  have own : ∀ y ∈ ds, ∀ fA, mg y = some (.ref fA) → OwnTab (K w.params) fA s₁.heap := fun y hy fA hmy => fun c P o1 fd1 e dd vs1 sl k1 k2 k3 k4 k5 => by
    obtain ⟨dL, hm, hn1⟩ := List.any_eq_true.mp (List.all_eq_true.mp hrec y hy)
    have hn2 : dL.name = y := beq_iff_eq.mp hn1
    obtain ⟨a', o', fd', c', P', h1, h2, h3, h4, h5, h6⟩ := G.T.tab dL hm
    rw [hn2, hmy] at h1; cases h1
    have g1 := KX _ _ k1
    rw [g1] at h2; cases h2
    rw [k2] at h3; cases h3
    rw [k3] at h4; cases h4
    obtain ⟨⟨oc, vc, e1, _, e3, e4⟩, hP⟩ := h6
    have g2 := KX _ _ k4
    rw [g2] at e1; cases e1; cases e3
    rw [k5] at e4; cases e4
    exact hP
  obtain ⟨fd, cs, sp, hT, nT, C, hb, hsp, hF⟩ := F w mg fa _ Y KX G.T.g hmg own
  exact law_callTs KX G.T.g G.T.b G.T.builtins G.T.nolimit hg hT nT C G.T.bmain hobj hints (Nat.le_trans hlen hn2) hr hF hb (fun H hH hS => hsp H a ns hlen hbits hH hS) fun H e s' => hCX w H s₁ e s'

/-- Tables that stand empty. -/
theorem tabs_empty {T : List (Addr × Str)} {H : Hp} (h : ∀ p ∈ T, H p.1 = some (.tbl #[])) : Tabs T H := fun p hp => ⟨#[], h p hp, by first | exact PySem.TriplesOk_nil | exact .nil | simp [TriplesOk] | trivial, fun pos cv e => by simp [codeAmong] at e⟩
end DL

namespace Lw
open PySem PySem.Spec PyProof.Rows L2 DL
variable [Tabl]
def topS (i : Nat) : Stmt := PySem.Challenge.pw_mapweave_k10_whole_the_same_with_other_n.main.body.getD i (.Pass ⟨0, 0, 0, 0⟩)
abbrev s_must : Stmt := topS 4
abbrev N_must : List Str := ["fits"]
theorem nd_must : (N_must).Nodup := by decide +kernel
theorem sc_must : FnScope N_must ["fits"] (defScope s_must) := ⟨rfl, rfl, rfl, by decide +kernel, rfl, by decide +kernel, by decide +kernel⟩
abbrev s_must_be_inner : Stmt := topS 6
abbrev N_must_be_inner : List Str := ["one"]
theorem nd_must_be_inner : (N_must_be_inner).Nodup := by decide +kernel
theorem sc_must_be_inner : FnScope N_must_be_inner ["one"] (defScope s_must_be_inner) := ⟨rfl, rfl, rfl, by decide +kernel, rfl, by decide +kernel, by decide +kernel⟩
abbrev s_walk : Stmt := topS 7
abbrev N_walk : List Str := ["one", "k", "found"]
theorem nd_walk : (N_walk).Nodup := by decide +kernel
theorem sc_walk : FnScope N_walk ["one", "k"] (defScope s_walk) := ⟨rfl, rfl, rfl, by decide +kernel, rfl, by decide +kernel, by decide +kernel⟩
abbrev s_ring : Stmt := topS 8
abbrev N_ring : List Str := ["one", "k", "some", "at", "found", "begin"]
theorem nd_ring : (N_ring).Nodup := by decide +kernel
theorem sc_ring : FnScope N_ring ["one", "k"] (defScope s_ring) := ⟨rfl, rfl, rfl, by decide +kernel, rfl, by decide +kernel, by decide +kernel⟩
abbrev s_branch : Stmt := topS 9
abbrev N_branch : List Str := ["one", "k", "inner", "texts", "n", "number"]
theorem nd_branch : (N_branch).Nodup := by decide +kernel
theorem sc_branch : FnScope N_branch ["one", "k", "inner"] (defScope s_branch) := ⟨rfl, rfl, rfl, by decide +kernel, rfl, by decide +kernel, by decide +kernel⟩
abbrev s_rings_of : Stmt := topS 10
abbrev N_rings_of : List Str := ["one", "k"]
theorem nd_rings_of : (N_rings_of).Nodup := by decide +kernel
theorem sc_rings_of : FnScope N_rings_of ["one"] (defScope s_rings_of) := ⟨rfl, rfl, rfl, by decide +kernel, rfl, by decide +kernel, by decide +kernel⟩
abbrev s_ring_text : Stmt := topS 11
abbrev N_ring_text : List Str := ["one", "some", "texts", "k"]
theorem nd_ring_text : (N_ring_text).Nodup := by decide +kernel
theorem sc_ring_text : FnScope N_ring_text ["one", "some"] (defScope s_ring_text) := ⟨rfl, rfl, rfl, by decide +kernel, rfl, by decide +kernel, by decide +kernel⟩
abbrev s_plain : Stmt := topS 12
abbrev N_plain : List Str := ["one", "some"]
theorem nd_plain : (N_plain).Nodup := by decide +kernel
theorem sc_plain : FnScope N_plain ["one"] (defScope s_plain) := ⟨rfl, rfl, rfl, by decide +kernel, rfl, by decide +kernel, by decide +kernel⟩
abbrev s_pair_up : Stmt := topS 13
abbrev N_pair_up : List Str := ["one", "other", "k", "n", "names", "inner", "outer", "mine", "yours", "a", "b", "number"]
theorem nd_pair_up : (N_pair_up).Nodup := by decide +kernel
theorem sc_pair_up : FnScope N_pair_up ["one", "other", "k", "n", "names", "inner", "outer"] (defScope s_pair_up) := ⟨rfl, rfl, rfl, by decide +kernel, rfl, by decide +kernel, by decide +kernel⟩
abbrev s_best_turn : Stmt := topS 14
abbrev N_best_turn : List Str := ["one", "some", "texts", "at", "k"]
theorem nd_best_turn : (N_best_turn).Nodup := by decide +kernel
theorem sc_best_turn : FnScope N_best_turn ["one", "some"] (defScope s_best_turn) := ⟨rfl, rfl, rfl, by decide +kernel, rfl, by decide +kernel, by decide +kernel⟩
abbrev s_renaming : Stmt := topS 15
abbrev N_renaming : List Str := ["one", "other", "mine", "yours", "names", "left", "right", "k", "n"]
theorem nd_renaming : (N_renaming).Nodup := by decide +kernel
theorem sc_renaming : FnScope N_renaming ["one", "other"] (defScope s_renaming) := ⟨rfl, rfl, rfl, by decide +kernel, rfl, by decide +kernel, by decide +kernel⟩
abbrev s_all_maps : Stmt := topS 17
abbrev N_all_maps : List Str := ["many", "to", "rows", "k", "more", "row", "number"]
theorem nd_all_maps : (N_all_maps).Nodup := by decide +kernel
theorem sc_all_maps : FnScope N_all_maps ["many", "to"] (defScope s_all_maps) := ⟨rfl, rfl, rfl, by decide +kernel, rfl, by decide +kernel, by decide +kernel⟩
abbrev s__law_cell : Stmt := topS 19
abbrev N__law_cell : List Str := ["_law_script", "_law_k"]
theorem nd__law_cell : (N__law_cell).Nodup := by decide +kernel
theorem sc__law_cell : FnScope N__law_cell ["_law_script", "_law_k"] (defScope s__law_cell) := ⟨rfl, rfl, rfl, by decide +kernel, rfl, by decide +kernel, by decide +kernel⟩
abbrev s__law_mix : Stmt := topS 20
abbrev N__law_mix : List Str := ["_law_cell_here", "_law_prime", "_law_many"]
theorem nd__law_mix : (N__law_mix).Nodup := by decide +kernel
theorem sc__law_mix : FnScope N__law_mix ["_law_cell_here", "_law_prime", "_law_many"] (defScope s__law_mix) := ⟨rfl, rfl, rfl, by decide +kernel, rfl, by decide +kernel, by decide +kernel⟩
abbrev s__law_map : Stmt := topS 21
abbrev N__law_map : List Str := ["_law_cell_here", "_law_many", "_law_to", "_law_row", "_law_left", "_law_k"]
theorem nd__law_map : (N__law_map).Nodup := by decide +kernel
theorem sc__law_map : FnScope N__law_map ["_law_cell_here", "_law_many", "_law_to"] (defScope s__law_map) := ⟨rfl, rfl, rfl, by decide +kernel, rfl, by decide +kernel, by decide +kernel⟩
abbrev s__law_sizes : Stmt := topS 22
abbrev N__law_sizes : List Str := ["_law_script", "_law_k", "_law_seed"]
theorem nd__law_sizes : (N__law_sizes).Nodup := by decide +kernel
theorem sc__law_sizes : FnScope N__law_sizes ["_law_script", "_law_k"] (defScope s__law_sizes) := ⟨rfl, rfl, rfl, by decide +kernel, rfl, by decide +kernel, by decide +kernel⟩
abbrev s__law_then : Stmt := topS 23
abbrev N__law_then : List Str := ["_law_one", "_law_other", "_law_number"]
theorem nd__law_then : (N__law_then).Nodup := by decide +kernel
theorem sc__law_then : FnScope N__law_then ["_law_one", "_law_other"] (defScope s__law_then) := ⟨rfl, rfl, rfl, by decide +kernel, rfl, by decide +kernel, by decide +kernel⟩
abbrev s__law_self : Stmt := topS 24
abbrev N__law_self : List Str := ["_law_cell_here", "_law_most", "_law_many"]
theorem nd__law_self : (N__law_self).Nodup := by decide +kernel
theorem sc__law_self : FnScope N__law_self ["_law_cell_here", "_law_most"] (defScope s__law_self) := ⟨rfl, rfl, rfl, by decide +kernel, rfl, by decide +kernel, by decide +kernel⟩
abbrev s__law_perm : Stmt := topS 25
abbrev N__law_perm : List Str := ["_law_cell_here", "_law_many", "_law_left", "_law_k"]
theorem nd__law_perm : (N__law_perm).Nodup := by decide +kernel
theorem sc__law_perm : FnScope N__law_perm ["_law_cell_here", "_law_many"] (defScope s__law_perm) := ⟨rfl, rfl, rfl, by decide +kernel, rfl, by decide +kernel, by decide +kernel⟩
abbrev s__law_renamed : Stmt := topS 26
abbrev N__law_renamed : List Str := ["_law_one", "_law_names", "_law_row", "_law_k", "_law_number"]
theorem nd__law_renamed : (N__law_renamed).Nodup := by decide +kernel
theorem sc__law_renamed : FnScope N__law_renamed ["_law_one", "_law_names"] (defScope s__law_renamed) := ⟨rfl, rfl, rfl, by decide +kernel, rfl, by decide +kernel, by decide +kernel⟩
abbrev s__law_right : Stmt := topS 27
abbrev N__law_right : List Str := ["_law_one", "_law_other", "_law_told"]
theorem nd__law_right : (N__law_right).Nodup := by decide +kernel
theorem sc__law_right : FnScope N__law_right ["_law_one", "_law_other"] (defScope s__law_right) := ⟨rfl, rfl, rfl, by decide +kernel, rfl, by decide +kernel, by decide +kernel⟩
abbrev s__law_refused : Stmt := topS 28
abbrev N__law_refused : List Str := ["_law_way", "_law_one", "_law_other", "_law_told"]
theorem nd__law_refused : (N__law_refused).Nodup := by decide +kernel
theorem sc__law_refused : FnScope N__law_refused ["_law_way", "_law_one", "_law_other"] (defScope s__law_refused) := ⟨rfl, rfl, rfl, by decide +kernel, rfl, by decide +kernel, by decide +kernel⟩
abbrev s__law_all_perms : Stmt := topS 29
abbrev N__law_all_perms : List Str := ["_law_many", "_law_rows", "_law_k", "_law_more", "_law_row", "_law_at"]
theorem nd__law_all_perms : (N__law_all_perms).Nodup := by decide +kernel
theorem sc__law_all_perms : FnScope N__law_all_perms ["_law_many"] (defScope s__law_all_perms) := ⟨rfl, rfl, rfl, by decide +kernel, rfl, by decide +kernel, by decide +kernel⟩
abbrev s_law : Stmt := topS 30
abbrev N_law : List Str := ["_law_script", "_law_cell_here", "_law_one", "_law_other", "_law_at", "_law_near", "_law_longer", "_law_bad", "_law_alike", "_law_names", "_law_way"]
theorem nd_law : (N_law).Nodup := by decide +kernel
theorem sc_law : FnScope N_law ["_law_script"] (defScope s_law) := ⟨rfl, rfl, rfl, by decide +kernel, rfl, by decide +kernel, by decide +kernel⟩
noncomputable def g_must_0t0 : Gn := (gRaise 2)
noncomputable def g_must_0 : Gn := (gIf (bNot (fTru (fVar 0)))
      g_must_0t0 gNx)
noncomputable def g_must : Gn := g_must_0
noncomputable def phi_must := defN 1 1 g_must
noncomputable def g_must_be_inner_0 : Gn := (gExprQ (qCall phi_must (fCons (fAnd (f2 (gEq false) (f2 gIx (fVar 0) (fC (.int 0))) (fBi gLen (fCons (f2 gIx (fVar 0) (fC (.int 1))) fNil))) (f2 (gIb fun i j => decide (j < i)) (f2 gIx (fVar 0) (fC (.int 0))) (fC (.int 0)))) fNil)))
noncomputable def g_must_be_inner : Gn := g_must_be_inner_0
noncomputable def phi_must_be_inner := defN 1 1 g_must_be_inner
noncomputable def g_walk_0 : Gn := (gOwn 2 (fList fNil))
noncomputable def g_walk_1b0 : Gn := (gApp 2 (fVar 1))
noncomputable def g_walk_1b1 : Gn := (gAsg (f2 gIx (f2 gIx (fVar 0) (fC (.int 1))) (fVar 1)) (hName 1))
noncomputable def g_walk_1b : Gn := (gBlk g_walk_1b0 g_walk_1b1)
noncomputable def g_walk_1 : Gn := (whileF (fB (f2 (gIn true) (fVar 1) (fVar 2))) g_walk_1b 1000000)
noncomputable def g_walk_2 : Gn := (gRet (fTup (fCons (fVar 2) (fCons (fVar 1) fNil))))
noncomputable def g_walk : Gn := (gBlk g_walk_0 (gBlk g_walk_1 g_walk_2))
noncomputable def phi_walk := defN 2 3 g_walk
noncomputable def g_ring_0 : Gn := (gExprQ (qCall phi_must_be_inner (fCons (fVar 0) fNil)))
noncomputable def g_ring_1 : Gn := (gAsg (fCall phi_walk (fCons (fVar 0) (fCons (fVar 1) fNil))) (hSeq 2 (hCons (hName 4) (hCons (hName 5) hNil))))
noncomputable def g_ring_2 : Gn := (gAsg (fSl (fVar 4) (pSome (f2 gIdx (fVar 4) (fVar 5))) pNone) (hName 2))
noncomputable def g_ring_3 : Gn := (gAsg (f2 gIdx (fVar 2) (fBi gMinL (fCons (fVar 2) fNil))) (hName 3))
noncomputable def g_ring_4 : Gn := (gRet (fBi gTuple (fCons (f2 gAdd (fSl (fVar 2) (pSome (fVar 3)) pNone) (fSl (fVar 2) pNone (pSome (fVar 3)))) fNil)))
noncomputable def g_ring : Gn := (gBlk g_ring_0 (gBlk g_ring_1 (gBlk g_ring_2 (gBlk g_ring_3 g_ring_4))))
noncomputable def phi_ring := defN 2 6 g_ring
noncomputable def g_branch_0 (ph : List PyData → Option (Except Nat PyData)) : Gn := (gOwn 3 (fList fNil))
noncomputable def g_branch_1b0t0 (ph : List PyData → Option (Except Nat PyData)) : Gn := (gApp 3 (fCall ph (fCons (fVar 0) (fCons (fVar 4) (fCons (fVar 2) fNil)))))
noncomputable def g_branch_1b0 (ph : List PyData → Option (Except Nat PyData)) : Gn := (gIf (bAnd (fB (f2 (gEq false) (fVar 5) (fVar 1))) (fB (f2 (gIn true) (fVar 4) (fVar 2))))
      (g_branch_1b0t0 ph) gNx)
noncomputable def g_branch_1 (ph : List PyData → Option (Except Nat PyData)) : Gn := (gFor (iEn (f2 gIx (fVar 0) (fC (.int 1)))) (hSeq 2 (hCons (hName 4) (hCons (hName 5) hNil)))
      (g_branch_1b0 ph))
noncomputable def g_branch_2 (ph : List PyData → Option (Except Nat PyData)) : Gn := (gRet (f2 gAdd (f2 gAdd (fC (.str (PySem.Str.ofString "("))) (f2 gJoin (fC (.str (PySem.Str.ofString ""))) (fBi gSortS (fCons (fVar 3) fNil)))) (fC (.str (PySem.Str.ofString ")")))))
noncomputable def g_branch (ph : List PyData → Option (Except Nat PyData)) : Gn := (gBlk (g_branch_0 ph) (gBlk (g_branch_1 ph) (g_branch_2 ph)))
noncomputable def phi_branch : Nat → List PyData → Option (Except Nat PyData)
  | 0 => fun _ => none
  | n + 1 => defN 3 6 (g_branch (phi_branch n))
theorem len_branch : ∀ n ds r, phi_branch n ds = some r → ds.length = 3
  | 0, _, _, h => nomatch h
  | _ + 1, ds, r, h => defN_len ds r h
noncomputable def g_rings_of_0 : Gn := (gRet (fFr (fun ρ => ((fFr (fLc [1] (iR1 (f2 gIx (fVar 0) (fC (.int 0)))) (hName 1) cYes (fCall phi_ring (fCons (fVar 0) (fCons (fVar 1) fNil))))) ρ).bind gSortSetR)))
noncomputable def g_rings_of : Gn := g_rings_of_0
noncomputable def phi_rings_of := defN 1 2 g_rings_of
noncomputable def g_ring_text_0 : Gn := (gAsg (fFr (fLc [3] (iSq (fVar 1)) (hName 3) cYes (fCall (phi_branch 10) (fCons (fVar 0) (fCons (fVar 3) (fCons (fVar 1) fNil)))))) (hName 2))
noncomputable def g_ring_text_1 : Gn := (gRet (f2 gAdd (f2 gAdd (fC (.str (PySem.Str.ofString "["))) (fBi gMinS (fCons (fFr (fLc [3] (iR1 (fBi gLen (fCons (fVar 2) fNil))) (hName 3) cYes (f2 gJoin (fC (.str (PySem.Str.ofString ""))) (f2 gAdd (fSl (fVar 2) (pSome (fVar 3)) pNone) (fSl (fVar 2) pNone (pSome (fVar 3))))))) fNil))) (fC (.str (PySem.Str.ofString "]")))))
noncomputable def g_ring_text : Gn := (gBlk g_ring_text_0 g_ring_text_1)
noncomputable def phi_ring_text := defN 2 4 g_ring_text
noncomputable def g_plain_0 : Gn := (gExprQ (qCall phi_must_be_inner (fCons (fVar 0) fNil)))
noncomputable def g_plain_1 : Gn := (gRet (f2 gJoin (fC (.str (PySem.Str.ofString ""))) (fBi gSortS (fCons (fFr (fLc [1] (iSq (fCall phi_rings_of (fCons (fVar 0) fNil))) (hName 1) cYes (fCall phi_ring_text (fCons (fVar 0) (fCons (fVar 1) fNil))))) fNil))))
noncomputable def g_plain : Gn := (gBlk g_plain_0 g_plain_1)
noncomputable def phi_plain := defN 1 2 g_plain
noncomputable def g_pair_up_0 (ph : List PyData → Dm → Option Dm) : Gd := (dPut (fVar 2) (fVar 3))
noncomputable def g_pair_up_1 (ph : List PyData → Dm → Option Dm) : Gd := (dSet 7 (fFr (fLc [9, 11] (iEn (f2 gIx (fVar 0) (fC (.int 1)))) (hSeq 2 (hCons (hName 9) (hCons (hName 11) hNil))) (bAnd (fB (f2 (gEq false) (fVar 11) (fVar 2))) (fB (f2 (gIn true) (fVar 9) (fVar 5)))) (fVar 9))))
noncomputable def g_pair_up_2 (ph : List PyData → Dm → Option Dm) : Gd := (dSet 8 (fFr (fLc [10, 11] (iEn (f2 gIx (fVar 1) (fC (.int 1)))) (hSeq 2 (hCons (hName 10) (hCons (hName 11) hNil))) (bAnd (fB (f2 (gEq false) (fVar 11) (fVar 3))) (fB (f2 (gIn true) (fVar 10) (fVar 6)))) (fVar 10))))
noncomputable def g_pair_up_3 (ph : List PyData → Dm → Option Dm) : Gd := (dSet 7 (fFr (gSortKey [0, 5] (fTup (fCons (fCall (phi_branch 10) (fCons (fVar 1) (fCons (fVar 0) (fCons (fVar 2) fNil)))) (fCons (fVar 0) fNil))) (fVar 7))))
noncomputable def g_pair_up_4 (ph : List PyData → Dm → Option Dm) : Gd := (dSet 8 (fFr (gSortKey [1, 6] (fTup (fCons (fCall (phi_branch 10) (fCons (fVar 1) (fCons (fVar 0) (fCons (fVar 2) fNil)))) (fCons (fVar 0) fNil))) (fVar 8))))
noncomputable def g_pair_up_5b0 (ph : List PyData → Dm → Option Dm) : Gd := (dCall ph (fCons (fVar 0) (fCons (fVar 1) (fCons (fVar 9) (fCons (fVar 10) (fCons (fVar 5) (fCons (fVar 6) fNil)))))))
noncomputable def g_pair_up_5 (ph : List PyData → Dm → Option Dm) : Gd := (dFor (iZp (fVar 7) (fVar 8)) (hSeq 2 (hCons (hName 9) (hCons (hName 10) hNil)))
      (g_pair_up_5b0 ph))
noncomputable def g_pair_up (ph : List PyData → Dm → Option Dm) : Gd := (dBlk (g_pair_up_0 ph) (dBlk (g_pair_up_1 ph) (dBlk (g_pair_up_2 ph) (dBlk (g_pair_up_3 ph) (dBlk (g_pair_up_4 ph) (g_pair_up_5 ph))))))
noncomputable def phi_pair_up : Nat → List PyData → Dm → Option Dm
  | 0 => fun _ _ => none
  | n + 1 => defD 12 4 7 (g_pair_up (phi_pair_up n))
theorem len_pair_up : ∀ n ds m r, phi_pair_up n ds m = some r → ds.length + 1 = 7
  | 0, _, _, _, h => nomatch h
  | _ + 1, ds, m, r, h => defD_len ds m r h
noncomputable def g_best_turn_0 : Gn := (gAsg (fFr (fLc [4] (iSq (fVar 1)) (hName 4) cYes (fCall (phi_branch 10) (fCons (fVar 0) (fCons (fVar 4) (fCons (fVar 1) fNil)))))) (hName 2))
noncomputable def g_best_turn_1 : Gn := (gAsg (gMinKey [2] (fTup (fCons (f2 gJoin (fC (.str (PySem.Str.ofString ""))) (f2 gAdd (fSl (fVar 1) (pSome (fVar 0)) pNone) (fSl (fVar 1) pNone (pSome (fVar 0))))) (fCons (fVar 0) fNil))) (fBi gLen (fCons (fVar 1) fNil))) (hName 3))
noncomputable def g_best_turn_2 : Gn := (gRet (f2 gAdd (fSl (fVar 1) (pSome (fVar 3)) pNone) (fSl (fVar 1) pNone (pSome (fVar 3)))))
noncomputable def g_best_turn : Gn := (gBlk g_best_turn_0 (gBlk g_best_turn_1 g_best_turn_2))
noncomputable def phi_best_turn := defN 2 5 g_best_turn
noncomputable def g_renaming_0 : Gn := (gExprQ (qCall phi_must_be_inner (fCons (fVar 0) fNil)))
noncomputable def g_renaming_1 : Gn := (gExprQ (qCall phi_must_be_inner (fCons (fVar 1) fNil)))
noncomputable def g_renaming_2t0 : Gn := (gRet (fC .none))
noncomputable def g_renaming_2 : Gn := (gIf (fB (f2 (gEq true) (fCall phi_plain (fCons (fVar 0) fNil)) (fCall phi_plain (fCons (fVar 1) fNil))))
      g_renaming_2t0 gNx)
noncomputable def g_renaming_3 : Gn := (gAsg (fFr (gSortKey [0] (fTup (fCons (fCall phi_ring_text (fCons (fVar 1) (fCons (fVar 0) fNil))) (fCons (fVar 0) fNil))) (fCall phi_rings_of (fCons (fVar 0) fNil)))) (hName 2))
noncomputable def g_renaming_4 : Gn := (gAsg (fFr (gSortKey [1] (fTup (fCons (fCall phi_ring_text (fCons (fVar 1) (fCons (fVar 0) fNil))) (fCons (fVar 0) fNil))) (fCall phi_rings_of (fCons (fVar 1) fNil)))) (hName 3))
noncomputable def g_renaming_6b0b0 : Gd := (dCall (phi_pair_up 10) (fCons (fVar 0) (fCons (fVar 1) (fCons (fVar 7) (fCons (fVar 8) (fCons (fVar 5) (fCons (fVar 6) fNil)))))))
noncomputable def g_renaming_6b0 : Gd := (dFor (iZp (fCall phi_best_turn (fCons (fVar 0) (fCons (fVar 5) fNil))) (fCall phi_best_turn (fCons (fVar 1) (fCons (fVar 6) fNil)))) (hSeq 2 (hCons (hName 7) (hCons (hName 8) hNil)))
      g_renaming_6b0b0)
noncomputable def g_renaming_6 : Gd := (dFor (iZp (fVar 2) (fVar 3)) (hSeq 2 (hCons (hName 5) (hCons (hName 6) hNil)))
      g_renaming_6b0)
noncomputable def g_renaming_7 : Rho → Dm → Option PyData := (fTup1 fun ρ m => fLc [7] (iR1 (f2 gIx (fVar 0) (fC (.int 0)))) (hName 7) cYes (fNm 7 m) ρ)
noncomputable def g_renaming_rest : Gn := (gNames 4 g_renaming_6 g_renaming_7)
noncomputable def g_renaming : Gn := (gBlk g_renaming_0 (gBlk g_renaming_1 (gBlk g_renaming_2 (gBlk g_renaming_3 (gBlk g_renaming_4 g_renaming_rest)))))
noncomputable def phi_renaming := defN 2 9 g_renaming
noncomputable def g_all_maps_0 : Gn := (gAsg (fFr (fList (fCons (fTup fNil) fNil))) (hName 2))
noncomputable def g_all_maps_1b0 : Gn := (gOwn 4 (fList fNil))
noncomputable def g_all_maps_1b1b0 : Gn := (gExt 4 (fLc [6] (iR1 (fVar 1)) (hName 6) cYes (f2 gAdd (fVar 5) (fTup (fCons (fVar 6) fNil)))))
noncomputable def g_all_maps_1b1 : Gn := (gFor (iSq (fVar 2)) (hName 5)
      g_all_maps_1b1b0)
noncomputable def g_all_maps_1b2 : Gn := (gGive 2 4)
noncomputable def g_all_maps_1b : Gn := (gBlk g_all_maps_1b0 (gBlk g_all_maps_1b1 g_all_maps_1b2))
noncomputable def g_all_maps_1 : Gn := (gFor (iR1 (fVar 0)) (hName 3)
      g_all_maps_1b)
noncomputable def g_all_maps_2 : Gn := (gRet (fBi gTuple (fCons (fFr (fLc [5] (iSq (fVar 2)) (hName 5) cYes (fTup (fCons (fVar 1) (fCons (fVar 5) fNil))))) fNil)))
noncomputable def g_all_maps : Gn := (gBlk g_all_maps_0 (gBlk g_all_maps_1 g_all_maps_2))
noncomputable def phi_all_maps := defN 2 7 g_all_maps
noncomputable def g__law_cell_0t0 : Gn := (gRet (f2 gIx (fVar 0) (fVar 1)))
noncomputable def g__law_cell_0 : Gn := (gIf (fB (f2 (gIb fun i j => decide (i < j)) (fVar 1) (fBi gLen (fCons (fVar 0) fNil))))
      g__law_cell_0t0 gNx)
noncomputable def g__law_cell_1 : Gn := (gRet (fC (.int 0)))
noncomputable def g__law_cell : Gn := (gBlk g__law_cell_0 g__law_cell_1)
noncomputable def phi__law_cell := defN 2 2 g__law_cell
noncomputable def g__law_mix_0 : Gn := (gRet (f2 (gIc (fun _ j => 0 < j) fun i j => i % j) (f2 (gIc (fun _ j => 0 < j) fun i j => i % j) (f2 gMulD (fVar 0) (fC (.int 48271))) (fVar 1)) (fVar 2)))
noncomputable def g__law_mix : Gn := g__law_mix_0
noncomputable def phi__law_mix := defN 3 3 g__law_mix
noncomputable def g__law_map_0 : Gn := (gAsg (fFr (fList fNil)) (hName 3))
noncomputable def g__law_map_1t0 : Gn := (gAsg (fFr (fLc [5] (iR1 (fVar 1)) (hName 5) cYes (fCall phi__law_mix (fCons (f2 gAdd (fVar 0) (f2 gMulD (fC (.int 31)) (fVar 5))) (fCons (fC (.int 9973)) (fCons (fVar 2) fNil)))))) (hName 3))
noncomputable def g__law_map_1 : Gn := (gIf (fB (f2 (gIb fun i j => decide (j < i)) (fVar 2) (fC (.int 0))))
      g__law_map_1t0 gNx)
noncomputable def g__law_map_2t0 : Gn := (gAsg (fFr (fLc [5] (iR1 (fVar 1)) (hName 5) cYes (f2 (gIc (fun _ j => 0 < j) fun i j => i % j) (fVar 5) (fVar 2)))) (hName 3))
noncomputable def g__law_map_2t1 : Gn := (gAsg (f2 gAdd (fSl (fVar 3) (pSome (f2 (gIc (fun _ j => 0 < j) fun i j => i % j) (f2 (gIc CDiv fun i j => i / j) (fVar 0) (fC (.int 4))) (fVar 1))) pNone) (fSl (fVar 3) pNone (pSome (f2 (gIc (fun _ j => 0 < j) fun i j => i % j) (f2 (gIc CDiv fun i j => i / j) (fVar 0) (fC (.int 4))) (fVar 1))))) (hName 3))
noncomputable def g__law_map_2t : Gn := (gBlk g__law_map_2t0 g__law_map_2t1)
noncomputable def g__law_map_2 : Gn := (gIf (bAnd (fB (f2 (gEq false) (f2 (gIc (fun _ j => 0 < j) fun i j => i % j) (fVar 0) (fC (.int 4))) (fC (.int 0)))) (fB (fChain (gIb fun i j => decide (i < j)) (gIb fun i j => decide (i ≤ j)) (fC (.int 0)) (fVar 2) (fVar 1))))
      g__law_map_2t gNx)
noncomputable def g__law_map_3t0 : Gn := (gOwn 4 (gRgL (fVar 2)))
noncomputable def g__law_map_3t1 : Gn := (gSetPop 3 5 4 [5] (iR1 (fVar 1)) (fCall phi__law_mix (fCons (f2 gAdd (fVar 0) (f2 gMulD (fC (.int 7)) (fVar 5))) (fCons (fC (.int 9967)) (fCons (f2 (gI fun i j => i - j) (fVar 2) (fVar 5)) fNil)))))
noncomputable def g__law_map_3t : Gn := (gBlk g__law_map_3t0 g__law_map_3t1)
noncomputable def g__law_map_3 : Gn := (gIf (bAnd (fB (f2 (gEq false) (f2 (gIc (fun _ j => 0 < j) fun i j => i % j) (fVar 0) (fC (.int 4))) (fC (.int 1)))) (fB (fChain (gIb fun i j => decide (i < j)) (gIb fun i j => decide (i ≤ j)) (fC (.int 0)) (fVar 1) (fVar 2))))
      g__law_map_3t gNx)
noncomputable def g__law_map_4 : Gn := (gRet (fTup (fCons (fVar 2) (fCons (fBi gTuple (fCons (fVar 3) fNil)) fNil))))
noncomputable def g__law_map : Gn := (gBlk g__law_map_0 (gBlk g__law_map_1 (gBlk g__law_map_2 (gBlk g__law_map_3 g__law_map_4))))
noncomputable def phi__law_map := defN 3 6 g__law_map
noncomputable def g__law_sizes_0 : Gn := (gAsg (fCall phi__law_cell (fCons (fVar 0) (fCons (fVar 1) fNil))) (hName 2))
noncomputable def g__law_sizes_1 : Gn := (gRet (fFr (fList (fCons (fCall phi__law_mix (fCons (fVar 2) (fCons (fC (.int 9949)) (fCons (fC (.int 7)) fNil)))) (fCons (fCall phi__law_mix (fCons (fVar 2) (fCons (fC (.int 9941)) (fCons (fC (.int 7)) fNil)))) (fCons (fCall phi__law_mix (fCons (fVar 2) (fCons (fC (.int 9931)) (fCons (fC (.int 7)) fNil)))) (fCons (fCall phi__law_mix (fCons (fVar 2) (fCons (fC (.int 9929)) (fCons (fC (.int 7)) fNil)))) fNil)))))))
noncomputable def g__law_sizes : Gn := (gBlk g__law_sizes_0 g__law_sizes_1)
noncomputable def phi__law_sizes := defN 2 3 g__law_sizes
noncomputable def g__law_then_0 : Gn := (gRet (fTup (fCons (f2 gIx (fVar 1) (fC (.int 0))) (fCons (fBi gTuple (fCons (fFr (fLc [2] (iSq (f2 gIx (fVar 0) (fC (.int 1)))) (hName 2) cYes (f2 gIx (f2 gIx (fVar 1) (fC (.int 1))) (fVar 2)))) fNil)) fNil))))
noncomputable def g__law_then : Gn := g__law_then_0
noncomputable def phi__law_then := defN 2 3 g__law_then
noncomputable def g__law_self_0 : Gn := (gAsg (f2 gAdd (fC (.int 1)) (fCall phi__law_mix (fCons (fVar 0) (fCons (fC (.int 9923)) (fCons (fVar 1) fNil))))) (hName 2))
noncomputable def g__law_self_1 : Gn := (gRet (fCall phi__law_map (fCons (fVar 0) (fCons (fVar 2) (fCons (fVar 2) fNil)))))
noncomputable def g__law_self : Gn := (gBlk g__law_self_0 g__law_self_1)
noncomputable def phi__law_self := defN 2 3 g__law_self
noncomputable def g__law_perm_0 : Gn := (gOwn 2 (gRgL (fVar 1)))
noncomputable def g__law_perm_1 : Gn := (gRetPop 3 2 [3] (iR1 (fVar 1)) (fCall phi__law_mix (fCons (f2 gAdd (fVar 0) (f2 gMulD (fC (.int 5)) (fVar 3))) (fCons (fC (.int 9871)) (fCons (f2 (gI fun i j => i - j) (fVar 1) (fVar 3)) fNil)))))
noncomputable def g__law_perm : Gn := (gBlk g__law_perm_0 g__law_perm_1)
noncomputable def phi__law_perm := defN 2 4 g__law_perm
noncomputable def g__law_renamed_0 : Gn := (gOwn 2 (fLc [3] (iSq (fVar 1)) (hName 3) cYes (fC .none)))
noncomputable def g__law_renamed_1b0 : Gn := (gSet 2 (f2 gIx (fVar 1) (fVar 3)) (f2 gIx (fVar 1) (fVar 4)))
noncomputable def g__law_renamed_1 : Gn := (gFor (iEn (f2 gIx (fVar 0) (fC (.int 1)))) (hSeq 2 (hCons (hName 3) (hCons (hName 4) hNil)))
      g__law_renamed_1b0)
noncomputable def g__law_renamed_2 : Gn := (gRet (fTup (fCons (f2 gIx (fVar 0) (fC (.int 0))) (fCons (fBi gTuple (fCons (fVar 2) fNil)) fNil))))
noncomputable def g__law_renamed : Gn := (gBlk g__law_renamed_0 (gBlk g__law_renamed_1 g__law_renamed_2))
noncomputable def phi__law_renamed := defN 2 5 g__law_renamed
noncomputable def g__law_right_0 : Gn := (gSetQ 2 (qCall phi_renaming (fCons (fVar 0) (fCons (fVar 1) fNil))))
noncomputable def g__law_right_1t0 : Gn := (gRet (fC (.bool false)))
noncomputable def g__law_right_1 : Gn := (gIf (bOr (bNot (fTru (f1 (gIsi "str") (fCall phi_plain (fCons (fVar 0) fNil))))) (fB (f2 (gEq true) (f2 (gIs false) (fVar 2) (fC .none)) (f2 (gEq true) (fCall phi_plain (fCons (fVar 0) fNil)) (fCall phi_plain (fCons (fVar 1) fNil))))))
      g__law_right_1t0 gNx)
noncomputable def g__law_right_2t0 : Gn := (gRet (fC (.bool true)))
noncomputable def g__law_right_2 : Gn := (gIf (fB (f2 (gIs false) (fVar 2) (fC .none)))
      g__law_right_2t0 gNx)
noncomputable def g__law_right_3t0 : Gn := (gRet (fC (.bool false)))
noncomputable def g__law_right_3 : Gn := (gIf (bOr (bNot (fTru (f1 (gIsi "tuple") (fVar 2)))) (bOr (fB (f2 (gEq true) (fBi gLen (fCons (fVar 2) fNil)) (fC (.int 1)))) (fB (f2 (gEq true) (fBi gSortI (fCons (f2 gIx (fVar 2) (fC (.int 0))) fNil)) (fFr (gRgL (f2 gIx (fVar 0) (fC (.int 0)))))))))
      g__law_right_3t0 gNx)
noncomputable def g__law_right_4 : Gn := (gRet (f2 (gEq false) (fCall phi__law_renamed (fCons (fVar 0) (fCons (f2 gIx (fVar 2) (fC (.int 0))) fNil))) (fVar 1)))
noncomputable def g__law_right : Gn := (gBlk g__law_right_0 (gBlk g__law_right_1 (gBlk g__law_right_2 (gBlk g__law_right_3 g__law_right_4))))
noncomputable def phi__law_right := defN 2 3 g__law_right
noncomputable def g__law_refused_0 : Gn := (gAsg (fC (.bool false)) (hName 3))
noncomputable def g__law_refused_1y0t0 : Gn := (gExprQ (qCall phi_plain (fCons (fVar 1) fNil)))
noncomputable def g__law_refused_1y0e0t0 : Gn := (gExprQ (qCall phi_renaming (fCons (fVar 1) (fCons (fVar 2) fNil))))
noncomputable def g__law_refused_1y0e0e0 : Gn := (gExprQ (qCall phi_renaming (fCons (fVar 2) (fCons (fVar 1) fNil))))
noncomputable def g__law_refused_1y0e0 : Gn := (gIf (fB (f2 (gEq false) (fVar 0) (fC (.int 1))))
      g__law_refused_1y0e0t0 g__law_refused_1y0e0e0)
noncomputable def g__law_refused_1y0 : Gn := (gIf (fB (f2 (gEq false) (fVar 0) (fC (.int 0))))
      g__law_refused_1y0t0 g__law_refused_1y0e0)
noncomputable def g__law_refused_1x0 : Gn := (gAsg (fC (.bool true)) (hName 3))
noncomputable def g__law_refused_1 : Gn := (gTry 2 g__law_refused_1y0 g__law_refused_1x0)
noncomputable def g__law_refused_2 : Gn := (gRet (fVar 3))
noncomputable def g__law_refused : Gn := (gBlk g__law_refused_0 (gBlk g__law_refused_1 g__law_refused_2))
noncomputable def phi__law_refused := defN 3 4 g__law_refused
noncomputable def g__law_all_perms_0 : Gn := (gAsg (fFr (fList (fCons (fTup fNil) fNil))) (hName 1))
noncomputable def g__law_all_perms_1b0 : Gn := (gOwn 3 (fList fNil))
noncomputable def g__law_all_perms_1b1b0 : Gn := (gExt 3 (fLc [5] (iR1 (f2 gAdd (fBi gLen (fCons (fVar 4) fNil)) (fC (.int 1)))) (hName 5) cYes (f2 gAdd (f2 gAdd (fSl (fVar 4) pNone (pSome (fVar 5))) (fTup (fCons (fVar 2) fNil))) (fSl (fVar 4) (pSome (fVar 5)) pNone))))
noncomputable def g__law_all_perms_1b1 : Gn := (gFor (iSq (fVar 1)) (hName 4)
      g__law_all_perms_1b1b0)
noncomputable def g__law_all_perms_1b2 : Gn := (gGive 1 3)
noncomputable def g__law_all_perms_1b : Gn := (gBlk g__law_all_perms_1b0 (gBlk g__law_all_perms_1b1 g__law_all_perms_1b2))
noncomputable def g__law_all_perms_1 : Gn := (gFor (iR1 (fVar 0)) (hName 2)
      g__law_all_perms_1b)
noncomputable def g__law_all_perms_2 : Gn := (gRet (fVar 1))
noncomputable def g__law_all_perms : Gn := (gBlk g__law_all_perms_0 (gBlk g__law_all_perms_1 g__law_all_perms_2))
noncomputable def phi__law_all_perms := defN 1 6 g__law_all_perms
noncomputable def g_law_0b0 : Gn := (gAsg (fCall phi__law_self (fCons (fVar 1) (fCons (fC (.int 7)) fNil))) (hName 2))
noncomputable def g_law_0b1 : Gn := (gAsg (fCall phi__law_renamed (fCons (fVar 2) (fCons (fCall phi__law_perm (fCons (fVar 1) (fCons (f2 gIx (fVar 2) (fC (.int 0))) fNil))) fNil))) (hName 3))
noncomputable def g_law_0b2t0 : Gn := (gRet (fC (.bool false)))
noncomputable def g_law_0b2 : Gn := (gIf (bOr (fB (f2 (gEq true) (fCall phi_plain (fCons (fVar 2) fNil)) (fCall phi_plain (fCons (fVar 3) fNil)))) (bNot (fTru (fCall phi__law_right (fCons (fVar 2) (fCons (fVar 3) fNil))))))
      g_law_0b2t0 gNx)
noncomputable def g_law_0b3 : Gn := (gAsg (f2 (gIc (fun _ j => 0 < j) fun i j => i % j) (f2 (gIc CDiv fun i j => i / j) (fVar 1) (fC (.int 3))) (f2 gIx (fVar 2) (fC (.int 0)))) (hName 4))
noncomputable def g_law_0b4 : Gn := (gAsg (fTup (fCons (f2 gIx (fVar 2) (fC (.int 0))) (fCons (f2 gAdd (f2 gAdd (fSl (f2 gIx (fVar 2) (fC (.int 1))) pNone (pSome (fVar 4))) (fTup (fCons (f2 (gIc (fun _ j => 0 < j) fun i j => i % j) (f2 gAdd (f2 gIx (f2 gIx (fVar 2) (fC (.int 1))) (fVar 4)) (fC (.int 1))) (f2 gIx (fVar 2) (fC (.int 0)))) fNil))) (fSl (f2 gIx (fVar 2) (fC (.int 1))) (pSome (f2 gAdd (fVar 4) (fC (.int 1)))) pNone)) fNil))) (hName 5))
noncomputable def g_law_0b5t0 : Gn := (gRet (fC (.bool false)))
noncomputable def g_law_0b5 : Gn := (gIf (bOr (bNot (fTru (fCall phi__law_right (fCons (fVar 2) (fCons (fVar 5) fNil))))) (bNot (fTru (fCall phi__law_right (fCons (fVar 3) (fCons (fVar 5) fNil))))))
      g_law_0b5t0 gNx)
noncomputable def g_law_0b6t0 : Gn := (gAsg (fFr (fLc [9] (iSq (fCall phi__law_all_perms (fCons (f2 gIx (fVar 2) (fC (.int 0))) fNil))) (hName 9) (fB (f2 (gEq false) (fCall phi__law_renamed (fCons (fVar 2) (fCons (fVar 9) fNil))) (fVar 5))) (fVar 9))) (hName 8))
noncomputable def g_law_0b6t1t0 : Gn := (gRet (fC (.bool false)))
noncomputable def g_law_0b6t1 : Gn := (gIf (fB (f2 (gEq true) (f2 (gIs false) (fCall phi_renaming (fCons (fVar 2) (fCons (fVar 5) fNil))) (fC .none)) (f2 (gEq false) (fBi gLen (fCons (fVar 8) fNil)) (fC (.int 0)))))
      g_law_0b6t1t0 gNx)
noncomputable def g_law_0b6t : Gn := (gBlk g_law_0b6t0 g_law_0b6t1)
noncomputable def g_law_0b6 : Gn := (gIf (fB (f2 (gIb fun i j => decide (i < j)) (f2 gIx (fVar 2) (fC (.int 0))) (fC (.int 6))))
      g_law_0b6t gNx)
noncomputable def g_law_0b7 : Gn := (gAsg (fTup (fCons (f2 gAdd (f2 gIx (fVar 2) (fC (.int 0))) (fC (.int 1))) (fCons (f2 gAdd (f2 gIx (fVar 2) (fC (.int 1))) (fTup (fCons (f2 gIx (fVar 2) (fC (.int 0))) fNil))) fNil))) (hName 6))
noncomputable def g_law_0b8t0 : Gn := (gRet (fC (.bool false)))
noncomputable def g_law_0b8 : Gn := (gIf (bOr (bNot (fTru (fCall phi__law_right (fCons (fVar 2) (fCons (fVar 6) fNil))))) (fB (f2 (gIs true) (fCall phi_renaming (fCons (fVar 6) (fCons (fVar 2) fNil))) (fC .none))))
      g_law_0b8t0 gNx)
noncomputable def g_law_0b9b0t0 : Gn := (gRet (fC (.bool false)))
noncomputable def g_law_0b9b0 : Gn := (gIf (bNot (fTru (fBi gAll (fCons (fFr (fLc [10] (iR1 (fC (.int 3))) (hName 10) cYes (fCall phi__law_refused (fCons (fVar 10) (fCons (fVar 7) (fCons (fVar 2) fNil)))))) fNil))))
      g_law_0b9b0t0 gNx)
noncomputable def g_law_0b9 : Gn := (gFor (iSq (fFr (fList (fCons (fTup (fCons (fC (.int 0)) (fCons (fTup fNil) fNil))) (fCons (fTup (fCons (fC (.int 2)) (fCons (fTup (fCons (fC (.int 0)) fNil)) fNil))) (fCons (fTup (fCons (fC (.int 1)) (fCons (fTup (fCons (fC (.int 0)) (fCons (fC (.int 0)) fNil))) fNil))) fNil)))))) (hName 7)
      g_law_0b9b0)
noncomputable def g_law_0b : Gn := (gBlk g_law_0b0 (gBlk g_law_0b1 (gBlk g_law_0b2 (gBlk g_law_0b3 (gBlk g_law_0b4 (gBlk g_law_0b5 (gBlk g_law_0b6 (gBlk g_law_0b7 (gBlk g_law_0b8 g_law_0b9)))))))))
noncomputable def g_law_0 : Gn := (gFor (iSq (fSl (fVar 0) pNone (pSome (fC (.int 4))))) (hName 1)
      g_law_0b)
noncomputable def g_law_1 : Gn := (gRet (f2 (gEq false) (f1 gLenSetS (fFr (fLc [2] (iSq (fCall phi_all_maps (fCons (fC (.int 3)) (fCons (fC (.int 3)) fNil)))) (hName 2) cYes (fCall phi_plain (fCons (fVar 2) fNil))))) (fC (.int 7))))
noncomputable def g_law : Gn := (gBlk g_law_0 g_law_1)
noncomputable def phi_law := defN 1 11 g_law
structure Cs where
  a : Nat → Addr
  d : Nat → FuncData
  c : Nat → Addr
  q : Nat → Addr
  t : Nat → Addr
structure Txt (K : PySem.W.Frag) (mg : Str → Option Value) (A : Cs) (base : Heap) : Prop where
  F0 : Fun K "must" "must" s_must (A.a 0) (A.d 0)
  g0 : mg "must" = some (.ref (A.a 0))
  b0 : Binds K (A.d 0) ["fits"] []
  F1 : Fun K "must_be_inner" "must_be_inner" s_must_be_inner (A.a 1) (A.d 1)
  g1 : mg "must_be_inner" = some (.ref (A.a 1))
  b1 : Binds K (A.d 1) ["one"] []
  F2 : Fun K "walk" "walk" s_walk (A.a 2) (A.d 2)
  g2 : mg "walk" = some (.ref (A.a 2))
  b2 : Binds K (A.d 2) ["one", "k"] []
  F3 : Fun K "ring" "ring" s_ring (A.a 3) (A.d 3)
  g3 : mg "ring" = some (.ref (A.a 3))
  b3 : Binds K (A.d 3) ["one", "k"] []
  F4 : Fun K "branch" "branch" s_branch (A.a 4) (A.d 4)
  g4 : mg "branch" = some (.ref (A.a 4))
  b4 : Binds K (A.d 4) ["one", "k", "inner"] []
  F5 : Fun K "rings_of" "rings_of" s_rings_of (A.a 5) (A.d 5)
  g5 : mg "rings_of" = some (.ref (A.a 5))
  b5 : Binds K (A.d 5) ["one"] []
  F6 : Fun K "ring_text" "ring_text" s_ring_text (A.a 6) (A.d 6)
  g6 : mg "ring_text" = some (.ref (A.a 6))
  b6 : Binds K (A.d 6) ["one", "some"] []
  F7 : Fun K "plain" "plain" s_plain (A.a 7) (A.d 7)
  g7 : mg "plain" = some (.ref (A.a 7))
  b7 : Binds K (A.d 7) ["one"] []
  F8 : Fun K "pair_up" "pair_up" s_pair_up (A.a 8) (A.d 8)
  g8 : mg "pair_up" = some (.ref (A.a 8))
  b8 : Binds K (A.d 8) ["one", "other", "k", "n", "names", "inner", "outer"] []
  q8 : (A.d 8).code = .ref (A.q 8)
  t8 : LamX.TabB base mg (A.q 8) (A.t 8)
  e8 : (A.t 8, ("pair_up.<locals>.<lambda>" : Str)) ∈ Tabl.T
  u8 : ∀ p ∈ Tabl.T, p.1 = A.t 8 → p.2 = ("pair_up.<locals>.<lambda>" : Str)
  F9 : Fun K "best_turn" "best_turn" s_best_turn (A.a 9) (A.d 9)
  g9 : mg "best_turn" = some (.ref (A.a 9))
  b9 : Binds K (A.d 9) ["one", "some"] []
  q9 : (A.d 9).code = .ref (A.q 9)
  t9 : LamX.TabB base mg (A.q 9) (A.t 9)
  e9 : (A.t 9, ("best_turn.<locals>.<lambda>" : Str)) ∈ Tabl.T
  u9 : ∀ p ∈ Tabl.T, p.1 = A.t 9 → p.2 = ("best_turn.<locals>.<lambda>" : Str)
  F10 : Fun K "renaming" "renaming" s_renaming (A.a 10) (A.d 10)
  g10 : mg "renaming" = some (.ref (A.a 10))
  b10 : Binds K (A.d 10) ["one", "other"] []
  q10 : (A.d 10).code = .ref (A.q 10)
  t10 : LamX.TabB base mg (A.q 10) (A.t 10)
  e10 : (A.t 10, ("renaming.<locals>.<lambda>" : Str)) ∈ Tabl.T
  u10 : ∀ p ∈ Tabl.T, p.1 = A.t 10 → p.2 = ("renaming.<locals>.<lambda>" : Str)
  F11 : Fun K "all_maps" "all_maps" s_all_maps (A.a 11) (A.d 11)
  g11 : mg "all_maps" = some (.ref (A.a 11))
  b11 : Binds K (A.d 11) ["many", "to"] []
  F13 : Fun K "_law_mix" "_law_mix" s__law_mix (A.a 13) (A.d 13)
  g13 : mg "_law_mix" = some (.ref (A.a 13))
  b13 : Binds K (A.d 13) ["_law_cell_here", "_law_prime", "_law_many"] []
  F14 : Fun K "_law_map" "_law_map" s__law_map (A.a 14) (A.d 14)
  g14 : mg "_law_map" = some (.ref (A.a 14))
  b14 : Binds K (A.d 14) ["_law_cell_here", "_law_many", "_law_to"] []
  F17 : Fun K "_law_self" "_law_self" s__law_self (A.a 17) (A.d 17)
  g17 : mg "_law_self" = some (.ref (A.a 17))
  b17 : Binds K (A.d 17) ["_law_cell_here", "_law_most"] []
  F18 : Fun K "_law_perm" "_law_perm" s__law_perm (A.a 18) (A.d 18)
  g18 : mg "_law_perm" = some (.ref (A.a 18))
  b18 : Binds K (A.d 18) ["_law_cell_here", "_law_many"] []
  F19 : Fun K "_law_renamed" "_law_renamed" s__law_renamed (A.a 19) (A.d 19)
  g19 : mg "_law_renamed" = some (.ref (A.a 19))
  b19 : Binds K (A.d 19) ["_law_one", "_law_names"] []
  F20 : Fun K "_law_right" "_law_right" s__law_right (A.a 20) (A.d 20)
  g20 : mg "_law_right" = some (.ref (A.a 20))
  b20 : Binds K (A.d 20) ["_law_one", "_law_other"] []
  F21 : Fun K "_law_refused" "_law_refused" s__law_refused (A.a 21) (A.d 21)
  g21 : mg "_law_refused" = some (.ref (A.a 21))
  b21 : Binds K (A.d 21) ["_law_way", "_law_one", "_law_other"] []
  F22 : Fun K "_law_all_perms" "_law_all_perms" s__law_all_perms (A.a 22) (A.d 22)
  g22 : mg "_law_all_perms" = some (.ref (A.a 22))
  b22 : Binds K (A.d 22) ["_law_many"] []
  F23 : Fun K "law" "law" s_law (A.a 23) (A.d 23)
  g23 : mg "law" = some (.ref (A.a 23))
  b23 : Binds K (A.d 23) ["_law_script"] []
  m_all : mg "all" = none
  m_enumerate : mg "enumerate" = none
  m_isinstance : mg "isinstance" = none
  m_len : mg "len" = none
  m_list : mg "list" = none
  m_min : mg "min" = none
  m_range : mg "range" = none
  m_set : mg "set" = none
  m_sorted : mg "sorted" = none
  m_str : mg "str" = none
  m_tuple : mg "tuple" = none
  m_zip : mg "zip" = none
  gC0 : mg "MapError" = some (.ref (A.c 0))
  x0 : PySem.W.excIn K (A.c 0) [.type "ValueError", .type "Exception", .type "BaseException", .type "object"] "ValueError.__new__" = true
  kC0 : PySem.W.keepIn K (.ref (A.c 0)) = true
  bC0 : PySem.W.subIn K (.ref (A.c 0)) (.type "BaseException") = some true
  tC0 : PySem.W.typeIn K (.ref (A.c 0)) = some (.type "type")
  gC2 : mg "NoFit" = some (.ref (A.c 2))
  x2 : PySem.W.excIn K (A.c 2) [.type "ValueError", .type "Exception", .type "BaseException", .type "object"] "ValueError.__new__" = true
  kC2 : PySem.W.keepIn K (.ref (A.c 2)) = true
  bC2 : PySem.W.subIn K (.ref (A.c 2)) (.type "BaseException") = some true
  tC2 : PySem.W.typeIn K (.ref (A.c 2)) = some (.type "type")
  exm22 : PySem.W.exmOne K (.ref (A.c 2)) (.ref (A.c 2)) = some true
section
variable {P : Program} {w : World} {K : PySem.W.Frag} {mg : Str → Option Value} {base : Heap} {A : Cs}
theorem ok_must (T : Txt K mg A base) : FnOk P w K mg base (L2.CX P w) 1 (A.a 0) (A.d 0) ["fits"] (spX K 1 A.c phi_must) := by
  exact ok_def [] T.F0 sc_must rfl (fun cdv Ar outer s H E hr hp tk => ⟨_, (ss_one (sd_if (td_not (td_truth (ed_var 0)))
      (ss_one (sd_raise 2 T.x2 T.gC2 T.kC2 (raises_own T.bC2 T.tC2) tk)) ss_nil))⟩)
theorem ok_must_be_inner (T : Txt K mg A base) : FnOk P w K mg base (L2.CX P w) 2 (A.a 1) (A.d 1) ["one"] (spX K 1 A.c phi_must_be_inner) := by
  exact ok_def [] T.F1 sc_must_be_inner rfl (fun cdv Ar outer s H E hr hp tk => ⟨_, (ss_one (sd_exprQ (qd_call (ok_must T) (hr.mono (by decide)) T.g0 T.F0.kp T.b0 defN_len tk (ad_cons (ed_and (ed_cmp (od_eq hr) (ed_ix (ed_var 0) ed_int) (ed_bi bd_len T.m_len PySem.boot_len (ad_cons (ed_ix (ed_var 0) ed_int) ad_nil))) (ed_one (ed_cmp od_gt (ed_ix (ed_var 0) ed_int) ed_int))) ad_nil))))⟩)
theorem ok_walk (T : Txt K mg A base) : FnOk P w K mg base (L2.CX P w) 1 (A.a 2) (A.d 2) ["one", "k"] (spX K 2 A.c phi_walk) := by
  exact ok_def [2] T.F2 sc_walk rfl (fun cdv Ar outer s H E hr hp tk => ⟨_, (ss_cons (sd_own 2 nd_walk (fd_lst ad_nil))
    (ss_cons (sd_while 1000000 hp (td_cmp (od_notIn hr) (ed_var 1) (ed_var 2)) (ss_cons (sd_append 2 (ed_var 1))
    (ss_one (sd_set 1 nd_walk (ed_ix (ed_ix (ed_var 0) ed_int) (ed_var 1))))))
    (ss_one (sd_ret (ed_tup (ad_cons (ed_var 2) (ad_cons (ed_var 1) ad_nil)))))))⟩)
theorem ok_ring (T : Txt K mg A base) : FnOk P w K mg base (L2.CX P w) 3 (A.a 3) (A.d 3) ["one", "k"] (spX K 2 A.c phi_ring) := by
  exact ok_def [] T.F3 sc_ring rfl (fun cdv Ar outer s H E hr hp tk => ⟨_, (ss_cons (sd_exprQ (qd_call (ok_must_be_inner T) (hr.mono (by decide)) T.g1 T.F1.kp T.b1 defN_len tk (ad_cons (ed_var 0) ad_nil)))
    (ss_cons (sd_tgt (ed_call (ok_walk T) (hr.mono (by decide)) T.g2 T.F2.kp T.b2 defN_len (ad_cons (ed_var 0) (ad_cons (ed_var 1) ad_nil))) (gd_seq (gsd_cons (gd_name 4 nd_ring) (gsd_cons (gd_name 5 nd_ring) gsd_nil))))
    (ss_cons (sd_set 2 nd_ring (ed_sl (ed_var 4) (pd_some (ed_index (ed_var 4) (ed_var 5))) pd_none))
    (ss_cons (sd_set 3 nd_ring (ed_index (ed_var 2) (ed_bi bd_minL T.m_min PyProof.Rows.boot_min (ad_cons (ed_var 2) ad_nil))))
    (ss_one (sd_ret (ed_ty bd_tuple T.m_tuple PyProof.Rows.boot_tuple (ad_cons (ed_op od_add (ed_sl (ed_var 2) (pd_some (ed_var 3)) pd_none) (ed_sl (ed_var 2) pd_none (pd_some (ed_var 3)))) ad_nil))))))))⟩)
theorem ok_branch (T : Txt K mg A base) : ∀ n, FnOk P w K mg base (L2.CX P w) (0 + n + 1) (A.a 4) (A.d 4) ["one", "k", "inner"] (spX K 3 A.c (phi_branch n))
  | 0 => ok_none T.F4 sc_branch rfl
  | n + 1 => ok_def (g := g_branch (phi_branch n)) [3] T.F4 sc_branch rfl (fun cdv Ar outer s H E hr hp tk => ⟨_, (ss_cons (sd_own 3 nd_branch (fd_lst ad_nil))
    (ss_cons (sd_for hp (id_enum (ed_ix (ed_var 0) ed_int) T.m_enumerate) (gd_pair (gsd_cons (gd_name 4 nd_branch) (gsd_cons (gd_name 5 nd_branch) gsd_nil)))
      (ss_one (sd_if (td_w (wd_and (td_cmp (od_eq hr) (ed_var 5) (ed_var 1)) (wd_and1 (td_cmp (od_notIn hr) (ed_var 4) (ed_var 2)))))
      (ss_one (sd_append 3 (ed_call (ok_branch T n) (hr.mono (by omega)) T.g4 T.F4.kp T.b4 (len_branch n) (ad_cons (ed_var 0) (ad_cons (ed_var 4) (ad_cons (ed_var 2) ad_nil)))))) ss_nil)))
    (ss_one (sd_ret (ed_op od_add (ed_op od_add ed_str (ed_join ed_str (ed_bi bd_sortedS T.m_sorted PyProof.Rows.boot_sorted (ad_cons (ed_var 3) ad_nil)))) ed_str)))))⟩)
theorem ok_rings_of (T : Txt K mg A base) : FnOk P w K mg base (L2.CX P w) 4 (A.a 5) (A.d 5) ["one"] (spX K 1 A.c phi_rings_of) := by
  exact ok_def [] T.F5 sc_rings_of rfl (fun cdv Ar outer s H E hr hp tk => ⟨_, (ss_one (sd_ret (ed_fr (fd_sortSetR (ed_fr (fd_lc [(("k" : Str), 1)] nd_rings_of (id_range1 (ed_ix (ed_var 0) ed_int) T.m_range) (blkOk_by (N := N_rings_of) (sc := (defScope s_rings_of)) (by decide +kernel)) (fun _ _ _ _ _ => (gd_name 1 nd_rings_of)) (fun _ _ _ _ _ => ctd_nil) (fun _ _ _ _ _ => (ed_call (ok_ring T) (hr.mono (by decide)) T.g3 T.F3.kp T.b3 defN_len (ad_cons (ed_var 0) (ad_cons (ed_var 1) ad_nil)))))) hr T.m_sorted T.m_set))))⟩)
theorem ok_ring_text (T : Txt K mg A base) : FnOk P w K mg base (L2.CX P w) 12 (A.a 6) (A.d 6) ["one", "some"] (spX K 2 A.c phi_ring_text) := by
  exact ok_def [] T.F6 sc_ring_text rfl (fun cdv Ar outer s H E hr hp tk => ⟨_, (ss_cons (sd_set 2 nd_ring_text (ed_fr (fd_lc [(("k" : Str), 3)] nd_ring_text (id_seq (ed_var 1)) (blkOk_by (N := N_ring_text) (sc := (defScope s_ring_text)) (by decide +kernel)) (fun _ _ _ _ _ => (gd_name 3 nd_ring_text)) (fun _ _ _ _ _ => ctd_nil) (fun _ _ _ _ _ => (ed_call (ok_branch T 10) (hr.mono (by decide)) T.g4 T.F4.kp T.b4 defN_len (ad_cons (ed_var 0) (ad_cons (ed_var 3) (ad_cons (ed_var 1) ad_nil))))))))
    (ss_one (sd_ret (ed_op od_add (ed_op od_add ed_str (ed_bi (bd_minS (hu := hr.units)) T.m_min PyProof.Rows.boot_min (ad_cons (ed_fr (fd_lc [(("k" : Str), 3)] nd_ring_text (id_range1 (ed_bi bd_len T.m_len PySem.boot_len (ad_cons (ed_var 2) ad_nil)) T.m_range) (blkOk_by (N := N_ring_text) (sc := (defScope s_ring_text)) (by decide +kernel)) (fun _ _ _ _ _ => (gd_name 3 nd_ring_text)) (fun _ _ _ _ _ => ctd_nil) (fun _ _ _ _ _ => (ed_join ed_str (ed_op od_add (ed_sl (ed_var 2) (pd_some (ed_var 3)) pd_none) (ed_sl (ed_var 2) pd_none (pd_some (ed_var 3)))))))) ad_nil))) ed_str))))⟩)
theorem ok_plain (T : Txt K mg A base) : FnOk P w K mg base (L2.CX P w) 13 (A.a 7) (A.d 7) ["one"] (spX K 1 A.c phi_plain) := by
  exact ok_def [] T.F7 sc_plain rfl (fun cdv Ar outer s H E hr hp tk => ⟨_, (ss_cons (sd_exprQ (qd_call (ok_must_be_inner T) (hr.mono (by decide)) T.g1 T.F1.kp T.b1 defN_len tk (ad_cons (ed_var 0) ad_nil)))
    (ss_one (sd_ret (ed_join ed_str (ed_bi bd_sortedS T.m_sorted PyProof.Rows.boot_sorted (ad_cons (ed_fr (fd_lc [(("some" : Str), 1)] nd_plain (id_seq (ed_call (ok_rings_of T) (hr.mono (by decide)) T.g5 T.F5.kp T.b5 defN_len (ad_cons (ed_var 0) ad_nil))) (blkOk_by (N := N_plain) (sc := (defScope s_plain)) (by decide +kernel)) (fun _ _ _ _ _ => (gd_name 1 nd_plain)) (fun _ _ _ _ _ => ctd_nil) (fun _ _ _ _ _ => (ed_call (ok_ring_text T) (hr.mono (by decide)) T.g6 T.F6.kp T.b6 defN_len (ad_cons (ed_var 0) (ad_cons (ed_var 1) ad_nil)))))) ad_nil))))))⟩)
theorem ok_pair_up (T : Txt K mg A base) : ∀ n, FnOk P w K mg base (L2.CX P w) (14 + n + 1) (A.a 8) (A.d 8) ["one", "other", "k", "n", "names", "inner", "outer"] (spD K 4 7 (phi_pair_up n))
  | 0 => ok_noneD T.F8 sc_pair_up rfl
  | n + 1 => ok_dict (g := g_pair_up (phi_pair_up n)) (.ref (A.q 8)) T.F8 T.q8 sc_pair_up rfl (fun Ar outer s H E hr hp tk => ⟨_, (ssd_cons (sdd_put (hu_of hr) (ed_var 3) (ed_var 2))
    (ssd_cons (sdd_setLc 7 [(("a" : Str), 9), (("number" : Str), 11)] nd_pair_up (id_enum (ed_ix (ed_var 0) ed_int) T.m_enumerate) (blkOk_by (N := N_pair_up) (sc := (defScope s_pair_up)) (by decide +kernel)) (fun _ _ _ _ _ => (gd_pair (gsd_cons (gd_name 9 nd_pair_up) (gsd_cons (gd_name 11 nd_pair_up) gsd_nil)))) (fun _ _ _ _ _ => (ctd_one (td_w (wd_and (td_cmp (od_eq hr) (ed_var 11) (ed_var 2)) (wd_and1 (td_cmp (od_notIn hr) (ed_var 9) (ed_var 5))))))) (fun _ _ _ _ _ => (ed_var 9)) (sw_true rfl rfl rfl (by decide +kernel)) (by decide))
    (ssd_cons (sdd_setLc 8 [(("b" : Str), 10), (("number" : Str), 11)] nd_pair_up (id_enum (ed_ix (ed_var 1) ed_int) T.m_enumerate) (blkOk_by (N := N_pair_up) (sc := (defScope s_pair_up)) (by decide +kernel)) (fun _ _ _ _ _ => (gd_pair (gsd_cons (gd_name 10 nd_pair_up) (gsd_cons (gd_name 11 nd_pair_up) gsd_nil)))) (fun _ _ _ _ _ => (ctd_one (td_w (wd_and (td_cmp (od_eq hr) (ed_var 11) (ed_var 3)) (wd_and1 (td_cmp (od_notIn hr) (ed_var 10) (ed_var 6))))))) (fun _ _ _ _ _ => (ed_var 10)) (sw_true rfl rfl rfl (by decide +kernel)) (by decide))
    (ssd_cons (sdd_setE 7 nd_pair_up (ed_fr (fd_sortKeyK (ed_var 7) (lamP_of "pair_up.<locals>.<lambda>" T.t8 T.e8 T.u8) (lamD_mk ["a", "one", "inner"] ["a"] ["one", "inner"] [0, 5] 11 (defScope s_pair_up) (by decide +kernel) (by decide +kernel) (by decide +kernel) (fun c2 f2 Ar2 outer2 s2 H2 E2 hr => ⟨_, (ed_tup (ad_cons (ed_call (ok_branch T 10) (hr.mono (by omega)) T.g4 T.F4.kp T.b4 defN_len (ad_cons (ed_var 1) (ad_cons (ed_var 0) (ad_cons (ed_var 2) ad_nil)))) (ad_cons (ed_var 0) ad_nil)))⟩)) (hr.mono (by omega)) T.m_sorted)) (by decide))
    (ssd_cons (sdd_setE 8 nd_pair_up (ed_fr (fd_sortKeyK (ed_var 8) (lamP_of "pair_up.<locals>.<lambda>" T.t8 T.e8 T.u8) (lamD_mk ["b", "other", "outer"] ["b"] ["other", "outer"] [1, 6] 11 (defScope s_pair_up) (by decide +kernel) (by decide +kernel) (by decide +kernel) (fun c2 f2 Ar2 outer2 s2 H2 E2 hr => ⟨_, (ed_tup (ad_cons (ed_call (ok_branch T 10) (hr.mono (by omega)) T.g4 T.F4.kp T.b4 defN_len (ad_cons (ed_var 1) (ad_cons (ed_var 0) (ad_cons (ed_var 2) ad_nil)))) (ad_cons (ed_var 0) ad_nil)))⟩)) (hr.mono (by omega)) T.m_sorted)) (by decide))
    (ssd_one (sdd_for hp (id_zip (ed_var 7) (ed_var 8) T.m_zip) (gd_pair (gsd_cons (gd_name 9 nd_pair_up) (gsd_cons (gd_name 10 nd_pair_up) gsd_nil)))
      (ssd_one (sdd_call (ok_pair_up T n) (hr.mono (by omega)) T.g8 T.F8.kp T.b8 tk (add_cons (ed_var 0) (add_cons (ed_var 1) (add_cons (ed_var 9) (add_cons (ed_var 10) (add_here (ad_cons (ed_var 5) (ad_cons (ed_var 6) ad_nil))))))) (len_pair_up n))))))))))⟩)
theorem ok_best_turn (T : Txt K mg A base) : FnOk P w K mg base (L2.CX P w) 15 (A.a 9) (A.d 9) ["one", "some"] (spX K 2 A.c phi_best_turn) := by
  exact ok_defC [] (.ref (A.q 9)) T.F9 T.q9 sc_best_turn rfl (fun Ar outer s H E hr hp tk => ⟨_, (ss_cons (sd_set 2 nd_best_turn (ed_fr (fd_lc [(("k" : Str), 4)] nd_best_turn (id_seq (ed_var 1)) (blkOk_by (N := N_best_turn) (sc := (defScope s_best_turn)) (by decide +kernel)) (fun _ _ _ _ _ => (gd_name 4 nd_best_turn)) (fun _ _ _ _ _ => ctd_nil) (fun _ _ _ _ _ => (ed_call (ok_branch T 10) (hr.mono (by decide)) T.g4 T.F4.kp T.b4 defN_len (ad_cons (ed_var 0) (ad_cons (ed_var 4) (ad_cons (ed_var 1) ad_nil))))))))
    (ss_cons (sd_set 3 nd_best_turn (fd_minKeyK (ed_bi bd_len T.m_len PySem.boot_len (ad_cons (ed_var 1) ad_nil)) (lamP_of "best_turn.<locals>.<lambda>" T.t9 T.e9 T.u9) (lamD_mk ["k", "texts"] ["k"] ["texts"] [2] 1 (defScope s_best_turn) (by decide +kernel) (by decide +kernel) (by decide +kernel) (fun c2 f2 Ar2 outer2 s2 H2 E2 hr => ⟨_, (ed_tup (ad_cons (ed_join ed_str (ed_op od_add (ed_sl (ed_var 1) (pd_some (ed_var 0)) pd_none) (ed_sl (ed_var 1) pd_none (pd_some (ed_var 0))))) (ad_cons (ed_var 0) ad_nil)))⟩)) (hr.mono (by decide)) T.m_min T.m_range))
    (ss_one (sd_ret (ed_op od_add (ed_sl (ed_var 1) (pd_some (ed_var 3)) pd_none) (ed_sl (ed_var 1) pd_none (pd_some (ed_var 3))))))))⟩)
theorem ok_renaming (T : Txt K mg A base) : FnOk P w K mg base (L2.CX P w) 29 (A.a 10) (A.d 10) ["one", "other"] (spX K 2 A.c phi_renaming) := by
  exact ok_defC [] (.ref (A.q 10)) T.F10 T.q10 sc_renaming rfl (fun Ar outer s H E hr hp tk => ⟨_, (ss_cons (sd_exprQ (qd_call (ok_must_be_inner T) (hr.mono (by decide)) T.g1 T.F1.kp T.b1 defN_len tk (ad_cons (ed_var 0) ad_nil)))
    (ss_cons (sd_exprQ (qd_call (ok_must_be_inner T) (hr.mono (by decide)) T.g1 T.F1.kp T.b1 defN_len tk (ad_cons (ed_var 1) ad_nil)))
    (ss_cons (sd_if (td_cmp (od_ne hr) (ed_call (ok_plain T) (hr.mono (by decide)) T.g7 T.F7.kp T.b7 defN_len (ad_cons (ed_var 0) ad_nil)) (ed_call (ok_plain T) (hr.mono (by decide)) T.g7 T.F7.kp T.b7 defN_len (ad_cons (ed_var 1) ad_nil)))
      (ss_one (sd_ret ed_non)) ss_nil)
    (ss_cons (sd_set 2 nd_renaming (ed_fr (fd_sortKeyK (ed_call (ok_rings_of T) (hr.mono (by decide)) T.g5 T.F5.kp T.b5 defN_len (ad_cons (ed_var 0) ad_nil)) (lamP_of "renaming.<locals>.<lambda>" T.t10 T.e10 T.u10) (lamD_mk ["some", "one"] ["some"] ["one"] [0] 12 (defScope s_renaming) (by decide +kernel) (by decide +kernel) (by decide +kernel) (fun c2 f2 Ar2 outer2 s2 H2 E2 hr => ⟨_, (ed_tup (ad_cons (ed_call (ok_ring_text T) (hr.mono (by decide)) T.g6 T.F6.kp T.b6 defN_len (ad_cons (ed_var 1) (ad_cons (ed_var 0) ad_nil))) (ad_cons (ed_var 0) ad_nil)))⟩)) (hr.mono (by decide)) T.m_sorted)))
    (ss_cons (sd_set 3 nd_renaming (ed_fr (fd_sortKeyK (ed_call (ok_rings_of T) (hr.mono (by decide)) T.g5 T.F5.kp T.b5 defN_len (ad_cons (ed_var 1) ad_nil)) (lamP_of "renaming.<locals>.<lambda>" T.t10 T.e10 T.u10) (lamD_mk ["some", "other"] ["some"] ["other"] [1] 12 (defScope s_renaming) (by decide +kernel) (by decide +kernel) (by decide +kernel) (fun c2 f2 Ar2 outer2 s2 H2 E2 hr => ⟨_, (ed_tup (ad_cons (ed_call (ok_ring_text T) (hr.mono (by decide)) T.g6 T.F6.kp T.b6 defN_len (ad_cons (ed_var 1) (ad_cons (ed_var 0) ad_nil))) (ad_cons (ed_var 0) ad_nil)))⟩)) (hr.mono (by decide)) T.m_sorted)))
    (ss_names (ps_set nd_renaming rfl (by first | exact Or.inl rfl | exact Or.inr rfl) pe_dnewK rfl (by first | exact .inl rfl | exact .inr rfl)) (sdd_for hp (id_zip (ed_var 2) (ed_var 3) T.m_zip) (gd_pair (gsd_cons (gd_name 5 nd_renaming) (gsd_cons (gd_name 6 nd_renaming) gsd_nil)))
      (ssd_one (sdd_for hp (id_zip (ed_call (ok_best_turn T) (hr.mono (by decide)) T.g9 T.F9.kp T.b9 defN_len (ad_cons (ed_var 0) (ad_cons (ed_var 5) ad_nil))) (ed_call (ok_best_turn T) (hr.mono (by decide)) T.g9 T.F9.kp T.b9 defN_len (ad_cons (ed_var 1) (ad_cons (ed_var 6) ad_nil))) T.m_zip) (gd_pair (gsd_cons (gd_name 7 nd_renaming) (gsd_cons (gd_name 8 nd_renaming) gsd_nil)))
      (ssd_one (sdd_call (ok_pair_up T 10) (hr.mono (by decide)) T.g8 T.F8.kp T.b8 tk (add_cons (ed_var 0) (add_cons (ed_var 1) (add_cons (ed_var 7) (add_cons (ed_var 8) (add_here (ad_cons (ed_var 5) (ad_cons (ed_var 6) ad_nil))))))) (len_pair_up 10)))))) (edd_tup1 (fdd_lc 7 [(("k" : Str), 7)] nd_renaming (id_range1 (ed_ix (ed_var 0) ed_int) T.m_range) (blkOk_by (N := N_renaming) (sc := (defScope s_renaming)) (by decide +kernel)) (fun _ _ _ _ _ => (gd_name 7 nd_renaming)) (fun _ _ _ _ _ => pe_dget (hu_of hr) (pv 4) (pv 7) (fun _ _ => rfl))) T.m_tuple)))))))⟩)
theorem ok_all_maps (T : Txt K mg A base) : FnOk P w K mg base (L2.CX P w) 1 (A.a 11) (A.d 11) ["many", "to"] (spX K 2 A.c phi_all_maps) := by
  exact ok_def [4] T.F11 sc_all_maps rfl (fun cdv Ar outer s H E hr hp tk => ⟨_, (ss_cons (sd_set 2 nd_all_maps (ed_fr (fd_lst (ad_cons (ed_tup ad_nil) ad_nil))))
    (ss_cons (sd_for hp (id_range1 (ed_var 0) T.m_range) (gd_name 3 nd_all_maps)
      (ss_cons (sd_own 4 nd_all_maps (fd_lst ad_nil))
    (ss_cons (sd_for hp (id_seq (ed_var 2)) (gd_name 5 nd_all_maps)
      (ss_one (sd_extend 4 (fd_lc [(("number" : Str), 6)] nd_all_maps (id_range1 (ed_var 1) T.m_range) (blkOk_by (N := N_all_maps) (sc := (defScope s_all_maps)) (by decide +kernel)) (fun _ _ _ _ _ => (gd_name 6 nd_all_maps)) (fun _ _ _ _ _ => ctd_nil) (fun _ _ _ _ _ => (ed_op od_add (ed_var 5) (ed_tup (ad_cons (ed_var 6) ad_nil))))))))
    (ss_one (sd_give 2 4 nd_all_maps)))))
    (ss_one (sd_ret (ed_ty bd_tuple T.m_tuple PyProof.Rows.boot_tuple (ad_cons (ed_fr (fd_lc [(("row" : Str), 5)] nd_all_maps (id_seq (ed_var 2)) (blkOk_by (N := N_all_maps) (sc := (defScope s_all_maps)) (by decide +kernel)) (fun _ _ _ _ _ => (gd_name 5 nd_all_maps)) (fun _ _ _ _ _ => ctd_nil) (fun _ _ _ _ _ => (ed_tup (ad_cons (ed_var 1) (ad_cons (ed_var 5) ad_nil)))))) ad_nil))))))⟩)
theorem ok__law_mix (T : Txt K mg A base) : FnOk P w K mg base (L2.CX P w) 1 (A.a 13) (A.d 13) ["_law_cell_here", "_law_prime", "_law_many"] (spX K 3 A.c phi__law_mix) := by
  exact ok_def [] T.F13 sc__law_mix rfl (fun cdv Ar outer s H E hr hp tk => ⟨_, (ss_one (sd_ret (ed_op od_mod (ed_op od_mod (ed_op od_mulD (ed_var 0) ed_int) (ed_var 1)) (ed_var 2))))⟩)
theorem ok__law_map (T : Txt K mg A base) : FnOk P w K mg base (L2.CX P w) 2 (A.a 14) (A.d 14) ["_law_cell_here", "_law_many", "_law_to"] (spX K 3 A.c phi__law_map) := by
  exact ok_def [4] T.F14 sc__law_map rfl (fun cdv Ar outer s H E hr hp tk => ⟨_, (ss_cons (sd_set 3 nd__law_map (ed_fr (fd_lst ad_nil)))
    (ss_cons (sd_if (td_cmp od_gt (ed_var 2) ed_int)
      (ss_one (sd_setLc 3 [(("_law_k" : Str), 5)] nd__law_map (id_range1 (ed_var 1) T.m_range) (blkOk_by (N := N__law_map) (sc := (defScope s__law_map)) (by decide +kernel)) (fun _ _ _ _ _ => (gd_name 5 nd__law_map)) (fun _ _ _ _ _ => ctd_nil) (fun _ _ _ _ _ => (ed_call (ok__law_mix T) (hr.mono (by decide)) T.g13 T.F13.kp T.b13 defN_len (ad_cons (ed_op od_add (ed_var 0) (ed_op od_mulD ed_int (ed_var 5))) (ad_cons ed_int (ad_cons (ed_var 2) ad_nil))))) (sw_true rfl rfl rfl (by decide +kernel)))) ss_nil)
    (ss_cons (sd_if (td_w (wd_and (td_cmp (od_eq hr) (ed_op od_mod (ed_var 0) ed_int) ed_int) (wd_and1 (td_chain od_lt od_le ed_int (ed_var 2) (ed_var 1)))))
      (ss_cons (sd_setLc 3 [(("_law_k" : Str), 5)] nd__law_map (id_range1 (ed_var 1) T.m_range) (blkOk_by (N := N__law_map) (sc := (defScope s__law_map)) (by decide +kernel)) (fun _ _ _ _ _ => (gd_name 5 nd__law_map)) (fun _ _ _ _ _ => ctd_nil) (fun _ _ _ _ _ => (ed_op od_mod (ed_var 5) (ed_var 2))) (sw_true rfl rfl rfl (by decide +kernel)))
    (ss_one (sd_set 3 nd__law_map (ed_op od_add (ed_sl (ed_var 3) (pd_some (ed_op od_mod (ed_op od_fdiv (ed_var 0) ed_int) (ed_var 1))) pd_none) (ed_sl (ed_var 3) pd_none (pd_some (ed_op od_mod (ed_op od_fdiv (ed_var 0) ed_int) (ed_var 1)))))))) ss_nil)
    (ss_cons (sd_if (td_w (wd_and (td_cmp (od_eq hr) (ed_op od_mod (ed_var 0) ed_int) ed_int) (wd_and1 (td_chain od_lt od_le ed_int (ed_var 1) (ed_var 2)))))
      (ss_cons (sd_own 4 nd__law_map (fd_listRg (ed_var 2) T.m_range T.m_list))
    (ss_one (sd_setPop 3 4 [(("_law_k" : Str), 5)] nd__law_map (id_range1 (ed_var 1) T.m_range) (blkOk_by (N := N__law_map) (sc := (defScope s__law_map)) (by decide +kernel)) (fun _ _ _ _ _ => (gd_name 5 nd__law_map)) (fun _ _ _ _ _ => (pv 4)) (fun _ _ _ _ _ => (ed_call (ok__law_mix T) (hr.mono (by decide)) T.g13 T.F13.kp T.b13 defN_len (ad_cons (ed_op od_add (ed_var 0) (ed_op od_mulD ed_int (ed_var 5))) (ad_cons ed_int (ad_cons (ed_op od_sub (ed_var 2) (ed_var 5)) ad_nil))))) (sw_true rfl rfl rfl (by decide +kernel))))) ss_nil)
    (ss_one (sd_ret (ed_tup (ad_cons (ed_var 2) (ad_cons (ed_ty bd_tuple T.m_tuple PyProof.Rows.boot_tuple (ad_cons (ed_var 3) ad_nil)) ad_nil)))))))))⟩)
theorem ok__law_self (T : Txt K mg A base) : FnOk P w K mg base (L2.CX P w) 3 (A.a 17) (A.d 17) ["_law_cell_here", "_law_most"] (spX K 2 A.c phi__law_self) := by
  exact ok_def [] T.F17 sc__law_self rfl (fun cdv Ar outer s H E hr hp tk => ⟨_, (ss_cons (sd_set 2 nd__law_self (ed_op od_add ed_int (ed_call (ok__law_mix T) (hr.mono (by decide)) T.g13 T.F13.kp T.b13 defN_len (ad_cons (ed_var 0) (ad_cons ed_int (ad_cons (ed_var 1) ad_nil))))))
    (ss_one (sd_ret (ed_call (ok__law_map T) (hr.mono (by decide)) T.g14 T.F14.kp T.b14 defN_len (ad_cons (ed_var 0) (ad_cons (ed_var 2) (ad_cons (ed_var 2) ad_nil)))))))⟩)
theorem ok__law_perm (T : Txt K mg A base) : FnOk P w K mg base (L2.CX P w) 2 (A.a 18) (A.d 18) ["_law_cell_here", "_law_many"] (spX K 2 A.c phi__law_perm) := by
  exact ok_def [2] T.F18 sc__law_perm rfl (fun cdv Ar outer s H E hr hp tk => ⟨_, (ss_cons (sd_own 2 nd__law_perm (fd_listRg (ed_var 1) T.m_range T.m_list))
    (ss_one (sd_retPop 2 [(("_law_k" : Str), 3)] nd__law_perm (id_range1 (ed_var 1) T.m_range) (blkOk_by (N := N__law_perm) (sc := (defScope s__law_perm)) (by decide +kernel)) (fun _ _ _ _ _ => (gd_name 3 nd__law_perm)) (fun _ _ _ _ _ => (pv 2)) (fun _ _ _ _ _ => (ed_call (ok__law_mix T) (hr.mono (by decide)) T.g13 T.F13.kp T.b13 defN_len (ad_cons (ed_op od_add (ed_var 0) (ed_op od_mulD ed_int (ed_var 3))) (ad_cons ed_int (ad_cons (ed_op od_sub (ed_var 1) (ed_var 3)) ad_nil))))) T.m_tuple)))⟩)
theorem ok__law_renamed (T : Txt K mg A base) : FnOk P w K mg base (L2.CX P w) 1 (A.a 19) (A.d 19) ["_law_one", "_law_names"] (spX K 2 A.c phi__law_renamed) := by
  exact ok_def [2] T.F19 sc__law_renamed rfl (fun cdv Ar outer s H E hr hp tk => ⟨_, (ss_cons (sd_ownLc 2 [(("_law_k" : Str), 3)] nd__law_renamed (id_seq (ed_var 1)) (blkOk_by (N := N__law_renamed) (sc := (defScope s__law_renamed)) (by decide +kernel)) (fun _ _ _ _ _ => (gd_name 3 nd__law_renamed)) (fun _ _ _ _ _ => ctd_nil) (fun _ _ _ _ _ => ed_non) (sw_true rfl rfl rfl (by decide +kernel)))
    (ss_cons (sd_for hp (id_enum (ed_ix (ed_var 0) ed_int) T.m_enumerate) (gd_pair (gsd_cons (gd_name 3 nd__law_renamed) (gsd_cons (gd_name 4 nd__law_renamed) gsd_nil)))
      (ss_one (sd_setItem 2 (ed_ix (ed_var 1) (ed_var 4)) (ed_ix (ed_var 1) (ed_var 3)))))
    (ss_one (sd_ret (ed_tup (ad_cons (ed_ix (ed_var 0) ed_int) (ad_cons (ed_ty bd_tuple T.m_tuple PyProof.Rows.boot_tuple (ad_cons (ed_var 2) ad_nil)) ad_nil)))))))⟩)
theorem ok__law_right (T : Txt K mg A base) : FnOk P w K mg base (L2.CX P w) 30 (A.a 20) (A.d 20) ["_law_one", "_law_other"] (spX K 2 A.c phi__law_right) := by
  exact ok_def [] T.F20 sc__law_right rfl (fun cdv Ar outer s H E hr hp tk => ⟨_, (ss_cons (sd_setQ 2 nd__law_right (qd_call (ok_renaming T) (hr.mono (by decide)) T.g10 T.F10.kp T.b10 defN_len tk (ad_cons (ed_var 0) (ad_cons (ed_var 1) ad_nil))))
    (ss_cons (sd_if (td_w (wd_or (td_not (td_truth (ed_isi (T := "str") (ed_call (ok_plain T) (hr.mono (by decide)) T.g7 T.F7.kp T.b7 defN_len (ad_cons (ed_var 0) ad_nil)) T.m_isinstance T.m_str PyProof.Rows.boot_str))) (wd_or1 (td_cmp (od_ne hr) (ed_cmp od_is (ed_var 2) ed_non) (ed_cmp (od_ne hr) (ed_call (ok_plain T) (hr.mono (by decide)) T.g7 T.F7.kp T.b7 defN_len (ad_cons (ed_var 0) ad_nil)) (ed_call (ok_plain T) (hr.mono (by decide)) T.g7 T.F7.kp T.b7 defN_len (ad_cons (ed_var 1) ad_nil)))))))
      (ss_one (sd_ret ed_bl)) ss_nil)
    (ss_cons (sd_if (td_cmp od_is (ed_var 2) ed_non)
      (ss_one (sd_ret ed_bl)) ss_nil)
    (ss_cons (sd_if (td_w (wd_or (td_not (td_truth (ed_isi (T := "tuple") (ed_var 2) T.m_isinstance T.m_tuple PyProof.Rows.boot_tuple))) (wd_or (td_cmp (od_ne hr) (ed_bi bd_len T.m_len PySem.boot_len (ad_cons (ed_var 2) ad_nil)) ed_int) (wd_or1 (td_cmp (od_ne hr) (ed_bi bd_sortedI T.m_sorted PyProof.Rows.boot_sorted (ad_cons (ed_ix (ed_var 2) ed_int) ad_nil)) (ed_fr (fd_listRg (ed_ix (ed_var 0) ed_int) T.m_range T.m_list)))))))
      (ss_one (sd_ret ed_bl)) ss_nil)
    (ss_one (sd_ret (ed_cmp (od_eq hr) (ed_call (ok__law_renamed T) (hr.mono (by decide)) T.g19 T.F19.kp T.b19 defN_len (ad_cons (ed_var 0) (ad_cons (ed_ix (ed_var 2) ed_int) ad_nil))) (ed_var 1))))))))⟩)
theorem ok__law_refused (T : Txt K mg A base) : FnOk P w K mg base (L2.CX P w) 30 (A.a 21) (A.d 21) ["_law_way", "_law_one", "_law_other"] (spX K 3 A.c phi__law_refused) := by
  exact ok_def [] T.F21 sc__law_refused rfl (fun cdv Ar outer s H E hr hp tk => ⟨_, (ss_cons (sd_set 3 nd__law_refused ed_bl)
    (ss_cons (sd_tryOnly 2 ⟨rfl, by decide, .inl T.gC2⟩ tk T.exm22 (fun W pn xe tk => (ss_one (sd_if (td_cmp (od_eq hr) (ed_var 0) ed_int)
      (ss_one (sd_exprQ (qd_call (ok_plain T) (hr.mono (by decide)) T.g7 T.F7.kp T.b7 defN_len tk (ad_cons (ed_var 1) ad_nil)))) (ss_one (sd_if (td_cmp (od_eq hr) (ed_var 0) ed_int)
      (ss_one (sd_exprQ (qd_call (ok_renaming T) (hr.mono (by decide)) T.g10 T.F10.kp T.b10 defN_len tk (ad_cons (ed_var 1) (ad_cons (ed_var 2) ad_nil))))) (ss_one (sd_exprQ (qd_call (ok_renaming T) (hr.mono (by decide)) T.g10 T.F10.kp T.b10 defN_len tk (ad_cons (ed_var 2) (ad_cons (ed_var 1) ad_nil)))))))))) (fun a oe pn => (ss_one (sd_set 3 nd__law_refused ed_bl))))
    (ss_one (sd_ret (ed_var 3)))))⟩)
theorem ok__law_all_perms (T : Txt K mg A base) : FnOk P w K mg base (L2.CX P w) 1 (A.a 22) (A.d 22) ["_law_many"] (spX K 1 A.c phi__law_all_perms) := by
  exact ok_def [3] T.F22 sc__law_all_perms rfl (fun cdv Ar outer s H E hr hp tk => ⟨_, (ss_cons (sd_set 1 nd__law_all_perms (ed_fr (fd_lst (ad_cons (ed_tup ad_nil) ad_nil))))
    (ss_cons (sd_for hp (id_range1 (ed_var 0) T.m_range) (gd_name 2 nd__law_all_perms)
      (ss_cons (sd_own 3 nd__law_all_perms (fd_lst ad_nil))
    (ss_cons (sd_for hp (id_seq (ed_var 1)) (gd_name 4 nd__law_all_perms)
      (ss_one (sd_extend 3 (fd_lc [(("_law_at" : Str), 5)] nd__law_all_perms (id_range1 (ed_op od_add (ed_bi bd_len T.m_len PySem.boot_len (ad_cons (ed_var 4) ad_nil)) ed_int) T.m_range) (blkOk_by (N := N__law_all_perms) (sc := (defScope s__law_all_perms)) (by decide +kernel)) (fun _ _ _ _ _ => (gd_name 5 nd__law_all_perms)) (fun _ _ _ _ _ => ctd_nil) (fun _ _ _ _ _ => (ed_op od_add (ed_op od_add (ed_sl (ed_var 4) pd_none (pd_some (ed_var 5))) (ed_tup (ad_cons (ed_var 2) ad_nil))) (ed_sl (ed_var 4) (pd_some (ed_var 5)) pd_none)))))))
    (ss_one (sd_give 1 3 nd__law_all_perms)))))
    (ss_one (sd_ret (ed_var 1)))))⟩)
theorem ok_law (T : Txt K mg A base) : FnOk P w K mg base (L2.CX P w) 31 (A.a 23) (A.d 23) ["_law_script"] (spX K 1 A.c phi_law) := by
  exact ok_def [] T.F23 sc_law rfl (fun cdv Ar outer s H E hr hp tk => ⟨_, (ss_cons (sd_for hp (id_seq (ed_sl (ed_var 0) pd_none (pd_some ed_int))) (gd_name 1 nd_law)
      (ss_cons (sd_set 2 nd_law (ed_call (ok__law_self T) (hr.mono (by decide)) T.g17 T.F17.kp T.b17 defN_len (ad_cons (ed_var 1) (ad_cons ed_int ad_nil))))
    (ss_cons (sd_set 3 nd_law (ed_call (ok__law_renamed T) (hr.mono (by decide)) T.g19 T.F19.kp T.b19 defN_len (ad_cons (ed_var 2) (ad_cons (ed_call (ok__law_perm T) (hr.mono (by decide)) T.g18 T.F18.kp T.b18 defN_len (ad_cons (ed_var 1) (ad_cons (ed_ix (ed_var 2) ed_int) ad_nil))) ad_nil))))
    (ss_cons (sd_if (td_w (wd_or (td_cmp (od_ne hr) (ed_call (ok_plain T) (hr.mono (by decide)) T.g7 T.F7.kp T.b7 defN_len (ad_cons (ed_var 2) ad_nil)) (ed_call (ok_plain T) (hr.mono (by decide)) T.g7 T.F7.kp T.b7 defN_len (ad_cons (ed_var 3) ad_nil))) (wd_or1 (td_not (td_truth (ed_call (ok__law_right T) (hr.mono (by decide)) T.g20 T.F20.kp T.b20 defN_len (ad_cons (ed_var 2) (ad_cons (ed_var 3) ad_nil))))))))
      (ss_one (sd_ret ed_bl)) ss_nil)
    (ss_cons (sd_set 4 nd_law (ed_op od_mod (ed_op od_fdiv (ed_var 1) ed_int) (ed_ix (ed_var 2) ed_int)))
    (ss_cons (sd_set 5 nd_law (ed_tup (ad_cons (ed_ix (ed_var 2) ed_int) (ad_cons (ed_op od_add (ed_op od_add (ed_sl (ed_ix (ed_var 2) ed_int) pd_none (pd_some (ed_var 4))) (ed_tup (ad_cons (ed_op od_mod (ed_op od_add (ed_ix (ed_ix (ed_var 2) ed_int) (ed_var 4)) ed_int) (ed_ix (ed_var 2) ed_int)) ad_nil))) (ed_sl (ed_ix (ed_var 2) ed_int) (pd_some (ed_op od_add (ed_var 4) ed_int)) pd_none)) ad_nil))))
    (ss_cons (sd_if (td_w (wd_or (td_not (td_truth (ed_call (ok__law_right T) (hr.mono (by decide)) T.g20 T.F20.kp T.b20 defN_len (ad_cons (ed_var 2) (ad_cons (ed_var 5) ad_nil))))) (wd_or1 (td_not (td_truth (ed_call (ok__law_right T) (hr.mono (by decide)) T.g20 T.F20.kp T.b20 defN_len (ad_cons (ed_var 3) (ad_cons (ed_var 5) ad_nil))))))))
      (ss_one (sd_ret ed_bl)) ss_nil)
    (ss_cons (sd_if (td_cmp od_lt (ed_ix (ed_var 2) ed_int) ed_int)
      (ss_cons (sd_setLc 8 [(("_law_names" : Str), 9)] nd_law (id_seq (ed_call (ok__law_all_perms T) (hr.mono (by decide)) T.g22 T.F22.kp T.b22 defN_len (ad_cons (ed_ix (ed_var 2) ed_int) ad_nil))) (blkOk_by (N := N_law) (sc := (defScope s_law)) (by decide +kernel)) (fun _ _ _ _ _ => (gd_name 9 nd_law)) (fun _ _ _ _ _ => (ctd_one (td_cmp (od_eq hr) (ed_call (ok__law_renamed T) (hr.mono (by decide)) T.g19 T.F19.kp T.b19 defN_len (ad_cons (ed_var 2) (ad_cons (ed_var 9) ad_nil))) (ed_var 5)))) (fun _ _ _ _ _ => (ed_var 9)) (sw_true rfl rfl rfl (by decide +kernel)))
    (ss_one (sd_if (td_cmp (od_ne hr) (ed_cmp od_is (ed_call (ok_renaming T) (hr.mono (by decide)) T.g10 T.F10.kp T.b10 defN_len (ad_cons (ed_var 2) (ad_cons (ed_var 5) ad_nil))) ed_non) (ed_cmp (od_eq hr) (ed_bi bd_len T.m_len PySem.boot_len (ad_cons (ed_var 8) ad_nil)) ed_int))
      (ss_one (sd_ret ed_bl)) ss_nil))) ss_nil)
    (ss_cons (sd_set 6 nd_law (ed_tup (ad_cons (ed_op od_add (ed_ix (ed_var 2) ed_int) ed_int) (ad_cons (ed_op od_add (ed_ix (ed_var 2) ed_int) (ed_tup (ad_cons (ed_ix (ed_var 2) ed_int) ad_nil))) ad_nil))))
    (ss_cons (sd_if (td_w (wd_or (td_not (td_truth (ed_call (ok__law_right T) (hr.mono (by decide)) T.g20 T.F20.kp T.b20 defN_len (ad_cons (ed_var 2) (ad_cons (ed_var 6) ad_nil))))) (wd_or1 (td_cmp od_isNot (ed_call (ok_renaming T) (hr.mono (by decide)) T.g10 T.F10.kp T.b10 defN_len (ad_cons (ed_var 6) (ad_cons (ed_var 2) ad_nil))) ed_non))))
      (ss_one (sd_ret ed_bl)) ss_nil)
    (ss_one (sd_for hp (id_seq (ed_fr (fd_lst (ad_cons (ed_tup (ad_cons ed_int (ad_cons (ed_tup ad_nil) ad_nil))) (ad_cons (ed_tup (ad_cons ed_int (ad_cons (ed_tup (ad_cons ed_int ad_nil)) ad_nil))) (ad_cons (ed_tup (ad_cons ed_int (ad_cons (ed_tup (ad_cons ed_int (ad_cons ed_int ad_nil))) ad_nil))) ad_nil)))))) (gd_name 7 nd_law)
      (ss_one (sd_if (td_not (td_truth (ed_bi bd_all T.m_all PyProof.Rows.boot_all (ad_cons (ed_fr (fd_lc [(("_law_way" : Str), 10)] nd_law (id_range1 ed_int T.m_range) (blkOk_by (N := N_law) (sc := (defScope s_law)) (by decide +kernel)) (fun _ _ _ _ _ => (gd_name 10 nd_law)) (fun _ _ _ _ _ => ctd_nil) (fun _ _ _ _ _ => (ed_call (ok__law_refused T) (hr.mono (by decide)) T.g21 T.F21.kp T.b21 defN_len (ad_cons (ed_var 10) (ad_cons (ed_var 7) (ad_cons (ed_var 2) ad_nil))))))) ad_nil))))
      (ss_one (sd_ret ed_bl)) ss_nil))))))))))))))
    (ss_one (sd_ret (ed_cmp (od_eq hr) (ed_lenSetS (ed_fr (fd_lc [(("_law_one" : Str), 2)] nd_law (id_seq (ed_call (ok_all_maps T) (hr.mono (by decide)) T.g11 T.F11.kp T.b11 defN_len (ad_cons ed_int (ad_cons ed_int ad_nil)))) (blkOk_by (N := N_law) (sc := (defScope s_law)) (by decide +kernel)) (fun _ _ _ _ _ => (gd_name 2 nd_law)) (fun _ _ _ _ _ => ctd_nil) (fun _ _ _ _ _ => (ed_call (ok_plain T) (hr.mono (by decide)) T.g7 T.F7.kp T.b7 defN_len (ad_cons (ed_var 2) ad_nil))))) T.m_len T.m_set) ed_int))))⟩)
end
end Lw


namespace DL
/-! ### a row of things, each led on: where it comes back -/
def itr (f : Nat → Nat) : Nat → Nat → Nat
  | 0, k => k
  | i + 1, k => f (itr f i k)
theorem itr_add (f : Nat → Nat) (i : Nat) : ∀ j k, itr f (i + j) k = itr f j (itr f i k)
  | 0, _ => rfl
  | j + 1, k => by
    show f (itr f (i + j) k) = f (itr f j (itr f i k))
    rw [itr_add f i j k]
theorem itr_lt {f : Nat → Nat} {n k : Nat} (hf : ∀ x, x < n → f x < n) (hk : k < n) : ∀ i, itr f i k < n
  | 0 => hk
  | i + 1 => hf _ (itr_lt hf hk i)
/-- x_p is x_t again, the ones before all unlike -/
structure Orb (f : Nat → Nat) (k t s : Nat) : Prop where
  pos : 0 < s
  back : itr f (t + s) k = itr f t k
  new : ∀ i j, i < j → j < t + s → itr f i k ≠ itr f j k
theorem Orb.mul {f : Nat → Nat} {k t s : Nat} (h : Orb f k t s) (i : Nat) (hi : t ≤ i) : ∀ m, itr f (i + s * m) k = itr f i k
  | 0 => rfl
  | m + 1 => by
    have e1 : i + s * (m + 1) = (t + s) + (i - t + s * m) := by rw [Nat.mul_succ]; omega
    have e2 : i + s * m = t + (i - t + s * m) := by omega
    rw [e1, itr_add, h.back, ← itr_add, ← e2]
    exact h.mul i hi m
theorem Orb.iff {f : Nat → Nat} {k t s : Nat} (h : Orb f k t s) {i j : Nat} (hij : i < j) : itr f i k = itr f j k ↔ t ≤ i ∧ s ∣ (j - i) := by
  constructor
  · intro e
    -- bring j, i below t + s
    have red : ∀ x, ∃ y, y < t + s ∧ itr f y k = itr f x k ∧ (x < t → y = x) ∧ (t ≤ x → t ≤ y ∧ s ∣ (x - y) ∧ y ≤ x) := fun x => by
      by_cases hx : x < t
      · exact ⟨x, by have := h.pos; omega, rfl, fun _ => rfl, fun z => by omega⟩
      · refine ⟨t + (x - t) % s, by have := Nat.mod_lt (x - t) h.pos; omega, ?_, fun z => by omega, fun _ => ⟨by omega, ?_, ?_⟩⟩
        · have hd := Nat.mod_add_div (x - t) s
          have := h.mul (t + (x - t) % s) (by omega) ((x - t) / s)
          rw [← this]
          congr 1
          omega
        · have hd := Nat.mod_add_div (x - t) s
          exact ⟨(x - t) / s, by omega⟩
        · have := Nat.mod_le (x - t) s
          omega
    obtain ⟨y1, l1, e1, a1, b1⟩ := red i
    obtain ⟨y2, l2, e2, a2, b2⟩ := red j
    have ey : y1 = y2 := by
      rcases Nat.lt_trichotomy y1 y2 with z | z | z
      · exact absurd (by rw [e1, e2, e]) (h.new y1 y2 z l2)
      · exact z
      · exact absurd (by rw [e1, e2, e]) (h.new y2 y1 z l1)
    by_cases hi : i < t
    · have h1 := a1 hi
      by_cases hj : j < t
      · have := a2 hj; omega
      · have := (b2 (by omega)).1; omega
    · obtain ⟨_, d1, c1⟩ := b1 (by omega)
      obtain ⟨_, d2, c2⟩ := b2 (by omega)
      refine ⟨by omega, ?_⟩
      have : j - i = (j - y2) - (i - y1) := by omega
      rw [this]
      exact Nat.dvd_sub d2 d1
  · rintro ⟨h1, m, hm⟩
    have := h.mul i h1 m
    rw [← hm, show i + (j - i) = j by omega] at this
    exact this.symm
theorem natnodup_len : ∀ {l m : List Nat}, l.Nodup → (∀ x, x ∈ l → x ∈ m) → l.length ≤ m.length
  | [], _, _, _ => Nat.zero_le _
  | a :: l, m, h1, h => by
    obtain ⟨a1, a2⟩ := List.nodup_cons.mp h1
    have hm := h a List.mem_cons_self
    have := natnodup_len (m := m.erase a) a2 fun x hx => (List.mem_erase_of_ne (fun e => a1 (by rw [← e]; exact hx))).mpr (h x (List.mem_cons_of_mem _ hx))
    rw [List.length_erase_of_mem hm] at this
    have : 0 < m.length := List.length_pos_of_mem hm
    rw [List.length_cons]
    omega
/-- each thing comes round -/
theorem orb_ex {f : Nat → Nat} {n k : Nat} (hf : ∀ x, x < n → f x < n) (hk : k < n) : ∃ t s, Orb f k t s ∧ t + s ≤ n := by
  -- the first place that was met before
  have ex : ∃ p, p ≤ n ∧ ∃ i, i < p ∧ itr f i k = itr f p k := by
    refine Classical.byContradiction fun hn => ?_
    have nd : ((List.range (n + 1)).map fun i => itr f i k).Nodup := by
      refine List.pairwise_iff_getElem.mpr fun i j hi hj hij e => ?_
      rw [List.length_map, List.length_range] at hi hj
      rw [List.getElem_map, List.getElem_map, List.getElem_range, List.getElem_range] at e
      exact hn ⟨j, by omega, i, hij, e⟩
    have := natnodup_len (m := List.range n) nd fun x hx => by
      obtain ⟨i, _, rfl⟩ := List.mem_map.mp hx
      exact List.mem_range.mpr (itr_lt hf hk i)
    rw [List.length_map, List.length_range, List.length_range] at this
    omega
  have least : ∀ m, (∃ p, p ≤ m ∧ ∃ i, i < p ∧ itr f i k = itr f p k) → ∃ p, p ≤ m ∧ (∃ i, i < p ∧ itr f i k = itr f p k) ∧ ∀ q, q < p → ¬ ∃ i, i < q ∧ itr f i k = itr f q k := fun m => by
    induction m with
    | zero =>
      rintro ⟨p, hp, i, hi, _⟩
      omega
    | succ m ih =>
      intro h
      by_cases h2 : ∃ p, p ≤ m ∧ ∃ i, i < p ∧ itr f i k = itr f p k
      · obtain ⟨p, a, b, c⟩ := ih h2
        exact ⟨p, by omega, b, c⟩
      · obtain ⟨p, hp, hi⟩ := h
        have : p = m + 1 := by
          rcases Nat.lt_or_ge m p with z | z
          · omega
          · exact absurd ⟨p, z, hi⟩ h2
        subst this
        exact ⟨m + 1, Nat.le_refl _, hi, fun q hq hx => h2 ⟨q, by omega, hx⟩⟩
  obtain ⟨p, hp, ⟨t, ht, e⟩, hmin⟩ := least n ex
  refine ⟨t, p - t, ⟨by omega, by rw [show t + (p - t) = p by omega]; exact e.symm, fun i j hij hj e2 => hmin j (by omega) ⟨i, hij, e2⟩⟩, by omega⟩
/-! ### all of them -/
def lcms (s : Nat → Nat) : Nat → Nat
  | 0 => 1
  | n + 1 => Nat.lcm (lcms s n) (s n)
def maxs (t : Nat → Nat) : Nat → Nat
  | 0 => 0
  | n + 1 => max (maxs t n) (t n)
theorem lcms_dvd (s : Nat → Nat) : ∀ n m, lcms s n ∣ m ↔ ∀ k, k < n → s k ∣ m
  | 0, m => ⟨fun _ k hk => by omega, fun _ => Nat.one_dvd m⟩
  | n + 1, m => by
    show Nat.lcm (lcms s n) (s n) ∣ m ↔ _
    constructor
    · intro h k hk
      by_cases e : k = n
      · subst e; exact Nat.dvd_trans (Nat.dvd_lcm_right _ _) h
      · exact (lcms_dvd s n m).mp (Nat.dvd_trans (Nat.dvd_lcm_left _ _) h) k (by omega)
    · intro h
      exact Nat.lcm_dvd ((lcms_dvd s n m).mpr fun k hk => h k (by omega)) (h n (by omega))
theorem lcms_pos (s : Nat → Nat) (hs : ∀ k, 0 < s k) : ∀ n, 0 < lcms s n
  | 0 => Nat.one_pos
  | n + 1 => Nat.lcm_pos (lcms_pos s hs n) (hs n)
theorem maxs_le (t : Nat → Nat) : ∀ n i, maxs t n ≤ i ↔ ∀ k, k < n → t k ≤ i
  | 0, i => ⟨fun _ k hk => by omega, fun _ => Nat.zero_le _⟩
  | n + 1, i => by
    show max (maxs t n) (t n) ≤ i ↔ _
    rw [Nat.max_le, maxs_le t n i]
    constructor
    · rintro ⟨h1, h2⟩ k hk
      by_cases e : k = n
      · subst e; exact h2
      · exact h1 k (by omega)
    · intro h
      exact ⟨fun k hk => h k (by omega), h n (by omega)⟩
/-- the rows i and j are the same -/
theorem rows_iff {f : Nat → Nat} {n : Nat} {t s : Nat → Nat} (h : ∀ k, k < n → Orb f k (t k) (s k)) {i j : Nat} (hij : i < j) : (∀ k, k < n → itr f i k = itr f j k) ↔ maxs t n ≤ i ∧ lcms s n ∣ (j - i) := by
  rw [maxs_le, lcms_dvd]
  constructor
  · intro e
    exact ⟨fun k hk => ((h k hk).iff hij |>.mp (e k hk)).1, fun k hk => ((h k hk).iff hij |>.mp (e k hk)).2⟩
  · rintro ⟨h1, h2⟩ k hk
    exact (h k hk).iff hij |>.mpr ⟨h1 k hk, h2 k hk⟩
/-- sizes up to nine: all go round together after 2520 at most -/
theorem lcms_le {s : Nat → Nat} {n : Nat} (h : ∀ k, k < n → 0 < s k ∧ s k ≤ 9) : lcms s n ∣ 2520 := by
  refine (lcms_dvd s n 2520).mpr fun k hk => ?_
  obtain ⟨h1, h2⟩ := h k hk
  generalize s k = x at h1 h2
  have : x = 1 ∨ x = 2 ∨ x = 3 ∨ x = 4 ∨ x = 5 ∨ x = 6 ∨ x = 7 ∨ x = 8 ∨ x = 9 := by omega
  rcases this with rfl | rfl | rfl | rfl | rfl | rfl | rfl | rfl | rfl <;> decide
end DL

namespace Mt
open PySem
/-! ### texts of brackets are read in one way -/
def cp (s : Str) : List Nat := s.cps.toList
theorem cp_inj {a b : Str} (h : cp a = cp b) : a = b := by
  cases a
  cases b
  congr 1
  exact Array.toList_inj.mp h
theorem cp_app (a b : Str) : cp (a ++ b) = cp a ++ cp b := Array.toList_append
def cat : List Str → Str
  | [] => Str.empty
  | x :: r => x ++ cat r
theorem cp_cat : ∀ l : List Str, cp (cat l) = (l.map cp).flatten
  | [] => rfl
  | x :: r => by
    show cp (x ++ cat r) = _
    rw [cp_app, cp_cat r, List.map_cons, List.flatten_cons]
def wt (c : Nat) : Int := if c = 40 ∨ c = 91 then 1 else if c = 41 ∨ c = 93 then -1 else 0
def bal : List Nat → Int
  | [] => 0
  | c :: r => wt c + bal r
theorem bal_app : ∀ l m : List Nat, bal (l ++ m) = bal l + bal m
  | [], m => by simp [bal]
  | c :: r, m => by
    rw [List.cons_append]
    show wt c + bal (r ++ m) = wt c + bal r + bal m
    rw [bal_app r m]
    omega
structure Atom (l : List Nat) : Prop where
  ne : l ≠ []
  zero : bal l = 0
  pre : ∀ p q, l = p ++ q → p ≠ [] → q ≠ [] → 0 < bal p
theorem flat_zero : ∀ {L : List (List Nat)}, (∀ a ∈ L, Atom a) → bal L.flatten = 0
  | [], _ => rfl
  | a :: L, h => by
    rw [List.flatten_cons, bal_app, (h a List.mem_cons_self).zero, flat_zero fun b hb => h b (List.mem_cons_of_mem _ hb)]
    rfl
theorem flat_pre : ∀ {L : List (List Nat)} {p q : List Nat}, (∀ a ∈ L, Atom a) → L.flatten = p ++ q → 0 ≤ bal p
  | [], p, q, _, e => by
    have : p = [] := by
      have := List.append_eq_nil_iff.mp e.symm
      exact this.1
    rw [this]
    exact Int.le_refl 0
  | a :: L, p, q, h, e => by
    rw [List.flatten_cons] at e
    have ha := h a List.mem_cons_self
    rcases List.append_eq_append_iff.mp e with ⟨c, e1, e2⟩ | ⟨c, e1, e2⟩
    · rw [e1, bal_app, ha.zero]
      have := flat_pre (fun b hb => h b (List.mem_cons_of_mem _ hb)) e2
      omega
    · by_cases hp : p = []
      · rw [hp]; exact Int.le_refl 0
      · by_cases hc : c = []
        · rw [hc, List.append_nil] at e1
          rw [← e1, ha.zero]
          exact Int.le_refl 0
        · exact Int.le_of_lt (ha.pre p c e1 hp hc)
theorem atom_wrap {o c : Nat} {L : List (List Nat)} (ho : wt o = 1) (hc : wt c = -1) (h : ∀ a ∈ L, Atom a) : Atom ([o] ++ L.flatten ++ [c]) := by
  refine ⟨by simp, ?_, fun p q e hp hq => ?_⟩
  · rw [bal_app, bal_app, flat_zero h]
    simp [bal, ho, hc]
  · cases p with
    | nil => exact absurd rfl hp
    | cons x p =>
      rw [List.append_assoc, List.singleton_append, List.cons_append] at e
      obtain ⟨rfl, e1⟩ := List.cons.inj e
      have hq' : q = q.dropLast ++ [q.getLast hq] := (List.dropLast_concat_getLast hq).symm
      rw [hq', ← List.append_assoc] at e1
      have e2 := (List.append_inj' e1 rfl).1
      have := flat_pre h e2
      show 0 < wt o + bal p
      rw [ho]
      omega
theorem decode : ∀ {L M : List (List Nat)}, (∀ a ∈ L, Atom a) → (∀ a ∈ M, Atom a) → L.flatten = M.flatten → L = M
  | [], [], _, _, _ => rfl
  | [], b :: M, _, h2, e => by
    rw [List.flatten_cons] at e
    have := List.append_eq_nil_iff.mp e.symm
    exact absurd this.1 (h2 b List.mem_cons_self).ne
  | a :: L, [], h1, _, e => by
    rw [List.flatten_cons] at e
    have := List.append_eq_nil_iff.mp e
    exact absurd this.1 (h1 a List.mem_cons_self).ne
  | a :: L, b :: M, h1, h2, e => by
    rw [List.flatten_cons, List.flatten_cons] at e
    have ha := h1 a List.mem_cons_self
    have hb := h2 b List.mem_cons_self
    have key : a = b ∧ L.flatten = M.flatten := by
      rcases List.append_eq_append_iff.mp e with ⟨c, e1, e2⟩ | ⟨c, e1, e2⟩
      · by_cases hc : c = []
        · rw [hc, List.append_nil] at e1
          rw [hc, List.nil_append] at e2
          exact ⟨e1.symm, e2⟩
        · have := hb.pre a c e1 ha.ne hc
          rw [ha.zero] at this
          omega
      · by_cases hc : c = []
        · rw [hc, List.append_nil] at e1
          rw [hc, List.nil_append] at e2
          exact ⟨e1, e2.symm⟩
        · have := ha.pre b c e1 hb.ne hc
          rw [hb.zero] at this
          omega
    rw [key.1, decode (fun x hx => h1 x (List.mem_cons_of_mem _ hx)) (fun x hx => h2 x (List.mem_cons_of_mem _ hx)) key.2]
def AtomS (s : Str) : Prop := Atom (cp s)
def lp : Str := ⟨#[40]⟩
def rp : Str := ⟨#[41]⟩
def lb : Str := ⟨#[91]⟩
def rb : Str := ⟨#[93]⟩
theorem atoms_map {l : List Str} (h : ∀ a ∈ l, AtomS a) : ∀ a ∈ l.map cp, Atom a := fun a ha => by
  obtain ⟨x, hx, rfl⟩ := List.mem_map.mp ha
  exact h x hx
theorem wrap_paren {l : List Str} (h : ∀ a ∈ l, AtomS a) : AtomS (lp ++ cat l ++ rp) := by
  unfold AtomS
  rw [cp_app, cp_app, cp_cat]
  exact atom_wrap (o := 40) (c := 41) (by decide) (by decide) (atoms_map h)
theorem wrap_brack {l : List Str} (h : ∀ a ∈ l, AtomS a) : AtomS (lb ++ cat l ++ rb) := by
  unfold AtomS
  rw [cp_app, cp_app, cp_cat]
  exact atom_wrap (o := 91) (c := 93) (by decide) (by decide) (atoms_map h)
theorem map_cp_inj : ∀ {l m : List Str}, l.map cp = m.map cp → l = m
  | [], [], _ => rfl
  | [], _ :: _, h => by simp at h
  | _ :: _, [], h => by simp at h
  | a :: l, b :: m, h => by
    rw [List.map_cons, List.map_cons] at h
    obtain ⟨h1, h2⟩ := List.cons.inj h
    rw [cp_inj h1, map_cp_inj h2]
theorem cat_inj {l m : List Str} (h1 : ∀ a ∈ l, AtomS a) (h2 : ∀ a ∈ m, AtomS a) (e : cat l = cat m) : l = m := by
  have e2 := congrArg cp e
  rw [cp_cat, cp_cat] at e2
  exact map_cp_inj (decode (atoms_map h1) (atoms_map h2) e2)
theorem wrap_inj {a b x y : Str} (e : a ++ x ++ b = a ++ y ++ b) : x = y := by
  have e2 := congrArg cp e
  rw [cp_app, cp_app, cp_app, cp_app, List.append_assoc, List.append_assoc] at e2
  exact cp_inj (List.append_cancel_right (List.append_cancel_left e2))
end Mt

namespace Mt
open PySem
/-! ### trees: their texts, and two trees of one text paired up -/
section
variable (srt : List Str → List Str) (kids kids' : Nat → List Nat)
/-- the text of what hangs at k, d deep at most -/
def B : Nat → Nat → Str
  | 0, _ => Str.empty
  | d + 1, k => lp ++ cat (srt ((kids k).map (B d))) ++ rp
/-- what hangs at k is less than d deep -/
def En : Nat → Nat → Prop
  | 0, _ => False
  | d + 1, k => ∀ a ∈ kids k, En d a
end
section
variable {srt : List Str → List Str} {kids kids' : Nat → List Nat}
theorem En.up : ∀ {d k : Nat}, En kids d k → En kids (d + 1) k
  | 0, _, h => h.elim
  | d + 1, k, h => fun a ha => En.up (d := d) (h a ha)
theorem En.mono {d : Nat} : ∀ {e k : Nat}, En kids d k → d ≤ e → En kids e k
  | 0, k, h, le => by
    obtain rfl : d = 0 := by omega
    exact h
  | e + 1, k, h, le => by
    by_cases q : d = e + 1
    · rw [← q]; exact h
    · exact (En.mono (e := e) h (by omega)).up
theorem B_up : ∀ {d k : Nat}, En kids d k → B srt kids (d + 1) k = B srt kids d k
  | 0, _, h => h.elim
  | d + 1, k, h => by
    show lp ++ cat (srt ((kids k).map (B srt kids (d + 1)))) ++ rp = lp ++ cat (srt ((kids k).map (B srt kids d))) ++ rp
    rw [List.map_congr_left fun a ha => B_up (d := d) (h a ha)]
theorem B_mono {d k : Nat} (h : En kids d k) : ∀ {e : Nat}, d ≤ e → B srt kids e k = B srt kids d k
  | 0, le => by
    obtain rfl : d = 0 := by omega
    rfl
  | e + 1, le => by
    by_cases q : d = e + 1
    · rw [← q]
    · rw [B_up (h.mono (by omega)), B_mono h (by omega)]
theorem B_atom (sp : ∀ l, (srt l).Perm l) : ∀ {d k : Nat}, En kids d k → AtomS (B srt kids d k)
  | 0, _, h => h.elim
  | d + 1, k, h => wrap_paren fun a ha => by
    obtain ⟨x, hx, rfl⟩ := List.mem_map.mp ((sp _).mem_iff.mp ha)
    exact B_atom sp (h x hx)
/-- a whole map's trees: T, the text of each thing -/
structure Tr (srt : List Str → List Str) (kids : Nat → List Nat) (T : Nat → Str) (S : Nat → Prop) (D : Nat) : Prop where
  en : ∀ k, S k → En kids D k
  kid : ∀ k, S k → ∀ a ∈ kids k, S a
  eq : ∀ k, S k → T k = lp ++ cat (srt ((kids k).map T)) ++ rp
theorem Tr.of {S : Nat → Prop} {D : Nat} (en : ∀ k, S k → En kids D k) (kid : ∀ k, S k → ∀ a ∈ kids k, S a) : Tr srt kids (B srt kids D) S D :=
  ⟨en, kid, fun k hk => by
    rw [← B_up (en k hk)]
    rfl⟩
theorem Tr.atom {T : Nat → Str} {S : Nat → Prop} {D : Nat} (t : Tr srt kids T S D) (sp : ∀ l, (srt l).Perm l) {k : Nat} (hk : S k) : AtomS (T k) := by
  have key : ∀ d k, S k → En kids d k → AtomS (T k) := fun d => by
    induction d with
    | zero => intro k _ h; exact h.elim
    | succ d ih =>
      intro k hk h
      rw [t.eq k hk]
      refine wrap_paren fun a ha => ?_
      obtain ⟨x, hx, rfl⟩ := List.mem_map.mp ((sp _).mem_iff.mp ha)
      exact ih x (t.kid k hk x hx) (h x hx)
  exact key D k hk (t.en k hk)
theorem Tr.kids_eq {T T' : Nat → Str} {S S' : Nat → Prop} {D D' : Nat} (t : Tr srt kids T S D) (t' : Tr srt kids' T' S' D') (sp : ∀ l, (srt l).Perm l) {k k' : Nat} (hk : S k) (hk' : S' k') (e : T k = T' k') : srt ((kids k).map T) = srt ((kids' k').map T') := by
  rw [t.eq k hk, t'.eq k' hk'] at e
  refine cat_inj (fun a ha => ?_) (fun a ha => ?_) (wrap_inj e)
  · obtain ⟨x, hx, rfl⟩ := List.mem_map.mp ((sp _).mem_iff.mp ha)
    exact t.atom sp (t.kid k hk x hx)
  · obtain ⟨x, hx, rfl⟩ := List.mem_map.mp ((sp _).mem_iff.mp ha)
    exact t'.atom sp (t'.kid k' hk' x hx)
/-- the pairs that are made, two things and what hangs at them -/
def Pr (sk sk' : Nat → List Nat) : Nat → Nat → Nat → List (Nat × Nat)
  | 0, _, _ => []
  | d + 1, k, k' => (k, k') :: ((sk k).zip (sk' k')).flatMap fun p => Pr sk sk' d p.1 p.2
def sub (sk : Nat → List Nat) : Nat → Nat → List Nat
  | 0, _ => []
  | d + 1, k => k :: (sk k).flatMap (sub sk d)
/-- the children in the order of their texts -/
structure Ord (srt : List Str → List Str) (kids sk : Nat → List Nat) (T : Nat → Str) : Prop where
  perm : ∀ k, (sk k).Perm (kids k)
  txt : ∀ k, (sk k).map T = srt ((kids k).map T)
theorem zip_flat {sk sk' : Nat → List Nat} {T T' : Nat → Str} {d : Nat} : ∀ {l l' : List Nat}, l.map T = l'.map T' → (∀ a ∈ l, ∀ b ∈ l', T a = T' b → (Pr sk sk' d a b).map (·.1) = sub sk d a ∧ (Pr sk sk' d a b).map (·.2) = sub sk' d b) →
    ((l.zip l').flatMap fun p => Pr sk sk' d p.1 p.2).map (·.1) = l.flatMap (sub sk d) ∧ ((l.zip l').flatMap fun p => Pr sk sk' d p.1 p.2).map (·.2) = l'.flatMap (sub sk' d)
  | [], [], _, _ => ⟨rfl, rfl⟩
  | [], _ :: _, h, _ => by simp at h
  | _ :: _, [], h, _ => by simp at h
  | a :: l, b :: l', h, k => by
    rw [List.map_cons, List.map_cons] at h
    obtain ⟨h1, h2⟩ := List.cons.inj h
    obtain ⟨i1, i2⟩ := zip_flat h2 fun x hx y hy => k x (List.mem_cons_of_mem _ hx) y (List.mem_cons_of_mem _ hy)
    obtain ⟨j1, j2⟩ := k a List.mem_cons_self b List.mem_cons_self h1
    rw [List.zip_cons_cons, List.flatMap_cons, List.map_append, List.map_append, i1, i2, j1, j2, List.flatMap_cons, List.flatMap_cons]
    exact ⟨rfl, rfl⟩
theorem pr_keys {sk sk' : Nat → List Nat} {T T' : Nat → Str} {S S' : Nat → Prop} {D D' : Nat} (t : Tr srt kids T S D) (t' : Tr srt kids' T' S' D') (sp : ∀ l, (srt l).Perm l) (o : Ord srt kids sk T) (o' : Ord srt kids' sk' T') :
    ∀ {d k k' : Nat}, S k → S' k' → T k = T' k' → (Pr sk sk' d k k').map (·.1) = sub sk d k ∧ (Pr sk sk' d k k').map (·.2) = sub sk' d k'
  | 0, _, _, _, _, _ => ⟨rfl, rfl⟩
  | d + 1, k, k', hk, hk', e => by
    have e1 : (sk k).map T = (sk' k').map T' := by rw [o.txt, o'.txt]; exact t.kids_eq t' sp hk hk' e
    have := zip_flat (sk := sk) (sk' := sk') (d := d) e1 fun a ha b hb q => pr_keys t t' sp o o' (d := d) (t.kid k hk a ((o.perm k).mem_iff.mp ha)) (t'.kid k' hk' b ((o'.perm k').mem_iff.mp hb)) q
    unfold Pr sub
    rw [List.map_cons, List.map_cons, this.1, this.2]
    exact ⟨rfl, rfl⟩
theorem pr_closed {sk sk' : Nat → List Nat} (p1 : ∀ k, (sk k).Perm (kids k)) (p2 : ∀ k, (sk' k).Perm (kids' k)) : ∀ {d k k' : Nat} {x : Nat × Nat}, x ∈ Pr sk sk' d k k' → x = (k, k') ∨ ∃ y ∈ Pr sk sk' d k k', x.1 ∈ kids y.1 ∧ x.2 ∈ kids' y.2
  | 0, _, _, _, h => by simp [Pr] at h
  | d + 1, k, k', x, h => by
    unfold Pr at h
    rcases List.mem_cons.mp h with h | h
    · exact .inl h
    · refine .inr ?_
      obtain ⟨⟨a, b⟩, hab, hx⟩ := List.mem_flatMap.mp h
      have ma := (p1 k).mem_iff.mp (List.of_mem_zip hab).1
      have mb := (p2 k').mem_iff.mp (List.of_mem_zip hab).2
      rcases pr_closed p1 p2 (d := d) hx with rfl | ⟨y, hy, h1, h2⟩
      · exact ⟨(k, k'), by unfold Pr; exact List.mem_cons_self, ma, mb⟩
      · exact ⟨y, by unfold Pr; exact List.mem_cons_of_mem _ (List.mem_flatMap.mpr ⟨(a, b), hab, hy⟩), h1, h2⟩
/-- texts are the same when things are led over, one by one -/
theorem B_over (se : ∀ {l m : List Str}, l.Perm m → srt l = srt m) {π : Nat → Nat} {S : Nat → Prop} (hk : ∀ k, S k → ∀ a ∈ kids k, S a) (h : ∀ k, S k → (kids' (π k)).Perm ((kids k).map π)) : ∀ {d k : Nat}, S k → B srt kids' d (π k) = B srt kids d k
  | 0, _, _ => rfl
  | d + 1, k, hs => by
    show lp ++ cat (srt ((kids' (π k)).map (B srt kids' d))) ++ rp = lp ++ cat (srt ((kids k).map (B srt kids d))) ++ rp
    have e : srt ((kids' (π k)).map (B srt kids' d)) = srt ((kids k).map (B srt kids d)) := by
      refine (se ((h k hs).map _)).trans ?_
      rw [List.map_map]
      rw [List.map_congr_left fun a ha => show (B srt kids' d ∘ π) a = B srt kids d a from B_over se hk h (d := d) (hk k hs a ha)]
    rw [e]
end
end Mt

namespace Mt
open PySem DL
/-! ### things that come round, and what hangs at them -/
def Cyc (f : Nat → Nat) (x : Nat) : Prop := ∃ s, 0 < s ∧ itr f s x = x
section
variable {f : Nat → Nat} {n : Nat}
theorem itr_one (f : Nat → Nat) (i k : Nat) : itr f i (f k) = itr f (i + 1) k := by
  rw [Nat.add_comm, itr_add]
  rfl
theorem cyc_itr {x : Nat} (h : Cyc f x) (i : Nat) : Cyc f (itr f i x) := by
  obtain ⟨s, hs, e⟩ := h
  exact ⟨s, hs, by rw [← itr_add, Nat.add_comm, itr_add, e]⟩
theorem Cyc.orb (hf : ∀ x, x < n → f x < n) {x : Nat} (hx : x < n) (h : Cyc f x) : ∃ s, s ≤ n ∧ Orb f x 0 s := by
  obtain ⟨t, s, o, le⟩ := orb_ex hf hx
  obtain ⟨m, hm, e⟩ := h
  have := (o.iff (i := 0) (j := m) hm).mp e.symm
  obtain rfl : t = 0 := by omega
  exact ⟨s, by omega, o⟩
theorem orb_cyc {x s : Nat} (o : Orb f x 0 s) : Cyc f x := ⟨s, o.pos, by have := o.back; rwa [Nat.zero_add] at this⟩
theorem orb_at0 {x t s : Nat} (o : Orb f x t s) : Orb f (itr f t x) 0 s :=
  ⟨o.pos, by rw [Nat.zero_add, ← itr_add]; exact o.back, fun i j h1 h2 e => by
    rw [← itr_add, ← itr_add] at e
    exact o.new (t + i) (t + j) (by omega) (by omega) e⟩
theorem orb_next {x s : Nat} (o : Orb f x 0 s) : Orb f (f x) 0 s := by
  have hb : itr f s x = x := by have := o.back; rwa [Nat.zero_add] at this
  refine ⟨o.pos, ?_, fun i j h1 h2 e => ?_⟩
  · rw [Nat.zero_add, itr_one]
    show f (itr f s x) = f x
    rw [hb]
  · rw [itr_one, itr_one] at e
    by_cases q : j + 1 < s
    · exact o.new (i + 1) (j + 1) (by omega) (by omega) e
    · have : j + 1 = s := by omega
      rw [this, hb] at e
      exact o.new 0 (i + 1) (by omega) (by omega) e.symm
theorem orb_shift {x s : Nat} (o : Orb f x 0 s) : ∀ i, Orb f (itr f i x) 0 s
  | 0 => o
  | i + 1 => orb_next (orb_shift o i)
theorem orb_mod {x s : Nat} (o : Orb f x 0 s) (i : Nat) : itr f i x = itr f (i % s) x := by
  have := o.mul (i % s) (Nat.zero_le _) (i / s)
  rw [Nat.mod_add_div] at this
  exact this
theorem orb_one {x s s' : Nat} (o : Orb f x 0 s) (o' : Orb f x 0 s') : s = s' := by
  have b : itr f s x = x := by have := o.back; rwa [Nat.zero_add] at this
  have b' : itr f s' x = x := by have := o'.back; rwa [Nat.zero_add] at this
  rcases Nat.lt_trichotomy s s' with h | h | h
  · exact absurd b.symm (o'.new 0 s o.pos (by omega))
  · exact h
  · exact absurd b'.symm (o.new 0 s' o'.pos (by omega))
/-- the steps to where it comes round -/
structure Lv (f : Nat → Nat) (x t : Nat) : Prop where
  at_ : Cyc f (itr f t x)
  no : ∀ i, i < t → ¬ Cyc f (itr f i x)
theorem Lv.one {x t t' : Nat} (a : Lv f x t) (b : Lv f x t') : t = t' := by
  rcases Nat.lt_trichotomy t t' with h | h | h
  · exact absurd a.at_ (b.no t h)
  · exact h
  · exact absurd b.at_ (a.no t' h)
theorem Lv.zero {x : Nat} (h : Cyc f x) : Lv f x 0 := ⟨h, fun i hi => absurd hi (Nat.not_lt_zero i)⟩
theorem Lv.succ {x t : Nat} (h : ¬ Cyc f x) (l : Lv f (f x) t) : Lv f x (t + 1) :=
  ⟨by rw [← itr_one]; exact l.at_, fun i hi => by
    cases i with
    | zero => exact h
    | succ i => rw [← itr_one]; exact l.no i (by omega)⟩
theorem lv_ex (hf : ∀ x, x < n → f x < n) {x : Nat} (hx : x < n) : ∃ t, t < n ∧ Lv f x t := by
  obtain ⟨t, s, o, le⟩ := orb_ex hf hx
  have hp := o.pos
  have hc : Cyc f (itr f t x) := orb_cyc (orb_at0 o)
  have key : ∀ m, Cyc f (itr f m x) → ∃ t, t ≤ m ∧ Lv f x t := fun m => by
    induction m with
    | zero => exact fun h => ⟨0, Nat.le_refl _, Lv.zero h⟩
    | succ m ih =>
      intro h
      by_cases q : ∃ j, j ≤ m ∧ Cyc f (itr f j x)
      · obtain ⟨j, hj, hc⟩ := q
        by_cases q2 : Cyc f (itr f m x)
        · obtain ⟨t, ht, l⟩ := ih q2
          exact ⟨t, by omega, l⟩
        · have : Cyc f (itr f m x) := by
            have := cyc_itr hc (m - j)
            rwa [← itr_add, show j + (m - j) = m by omega] at this
          exact absurd this q2
      · exact ⟨m + 1, Nat.le_refl _, h, fun i hi hc => q ⟨i, by omega, hc⟩⟩
  obtain ⟨t', ht', l⟩ := key t hc
  exact ⟨t', by omega, l⟩
/-- .. reckoned -/
def cycB (f : Nat → Nat) (n x : Nat) : Bool := (List.range n).any fun i => itr f (i + 1) x == x
theorem cycB_iff (hf : ∀ x, x < n → f x < n) {x : Nat} (hx : x < n) : cycB f n x = true ↔ Cyc f x := by
  unfold cycB
  rw [List.any_eq_true]
  constructor
  · rintro ⟨i, _, e⟩
    exact ⟨i + 1, Nat.succ_pos i, beq_iff_eq.mp e⟩
  · intro h
    obtain ⟨s, le, o⟩ := h.orb hf hx
    have := o.pos
    refine ⟨s - 1, List.mem_range.mpr (by omega), beq_iff_eq.mpr ?_⟩
    rw [show s - 1 + 1 = s by omega]
    have := o.back
    rwa [Nat.zero_add] at this
def kids (f : Nat → Nat) (n k : Nat) : List Nat := (List.range n).filter fun a => f a == k && !cycB f n a
theorem kids_mem (hf : ∀ x, x < n → f x < n) {k a : Nat} : a ∈ kids f n k ↔ a < n ∧ f a = k ∧ ¬ Cyc f a := by
  unfold kids
  rw [List.mem_filter, List.mem_range, Bool.and_eq_true, beq_iff_eq, Bool.not_eq_true']
  constructor
  · rintro ⟨h1, h2, h3⟩
    exact ⟨h1, h2, fun c => by rw [(cycB_iff hf h1).mpr c] at h3; cases h3⟩
  · rintro ⟨h1, h2, h3⟩
    refine ⟨h1, h2, ?_⟩
    cases q : cycB f n a with
    | false => rfl
    | true => exact absurd ((cycB_iff hf h1).mp q) h3
theorem kids_nodup (k : Nat) : (kids f n k).Nodup := List.Nodup.sublist List.filter_sublist List.nodup_range
theorem kids_en (hf : ∀ x, x < n → f x < n) : ∀ {d k t : Nat}, k < n → Lv f k t → n ≤ t + d → En (kids f n) d k
  | 0, k, t, hk, l, le => by
    obtain ⟨t', h, l'⟩ := lv_ex hf hk
    rw [l.one l'] at le
    omega
  | d + 1, k, t, hk, l, le => fun a ha => by
    obtain ⟨h1, h2, h3⟩ := (kids_mem hf).mp ha
    exact kids_en hf (d := d) (t := t + 1) h1 (Lv.succ h3 (by rw [h2]; exact l)) (by omega)
theorem kids_tr (hf : ∀ x, x < n → f x < n) {srt : List Str → List Str} {D : Nat} (hD : n ≤ D) : Tr srt (kids f n) (B srt (kids f n) D) (fun k => k < n) D :=
  Tr.of (fun k hk => by
    obtain ⟨t, ht, l⟩ := lv_ex hf hk
    exact kids_en hf hk l (by omega)) fun k hk a ha => ((kids_mem hf).mp ha).1
/-! ### what hangs at a thing -/
theorem sub_at (hf : ∀ x, x < n → f x < n) {sk : Nat → List Nat} (p : ∀ k, (sk k).Perm (kids f n k)) : ∀ {d k x : Nat}, x ∈ sub sk d k → (k < n → x < n) ∧ ∃ i, itr f i x = k ∧ ∀ j, j < i → ¬ Cyc f (itr f j x)
  | 0, _, _, h => by simp [sub] at h
  | d + 1, k, x, h => by
    unfold sub at h
    rcases List.mem_cons.mp h with rfl | h
    · exact ⟨fun z => z, 0, rfl, fun j hj => absurd hj (Nat.not_lt_zero j)⟩
    · obtain ⟨a, ha, hx⟩ := List.mem_flatMap.mp h
      obtain ⟨h1, h2, h3⟩ := (kids_mem hf).mp ((p k).mem_iff.mp ha)
      obtain ⟨c1, i, c2, c3⟩ := sub_at hf p (d := d) hx
      refine ⟨fun _ => c1 h1, i + 1, by show f (itr f i x) = k; rw [c2, h2], fun j hj => ?_⟩
      by_cases q : j < i
      · exact c3 j q
      · obtain rfl : j = i := by omega
        rw [c2]
        exact h3
theorem sub_of (hf : ∀ x, x < n → f x < n) {sk : Nat → List Nat} (p : ∀ k, (sk k).Perm (kids f n k)) : ∀ {i d k x : Nat}, x < n → itr f i x = k → (∀ j, j < i → ¬ Cyc f (itr f j x)) → i < d → x ∈ sub sk d k
  | _, 0, _, _, _, _, _, h => by omega
  | 0, d + 1, k, x, hx, e, _, _ => by
    obtain rfl : x = k := e
    unfold sub
    exact List.mem_cons_self
  | i + 1, d + 1, k, x, hx, e, h, le => by
    unfold sub
    refine List.mem_cons_of_mem _ (List.mem_flatMap.mpr ⟨itr f i x, (p k).mem_iff.mpr ((kids_mem hf).mpr ⟨itr_lt hf hx i, e, h i (by omega)⟩), ?_⟩)
    exact sub_of hf p (i := i) hx rfl (fun j hj => h j (by omega)) (by omega)
theorem sub_lv (hf : ∀ x, x < n → f x < n) {sk : Nat → List Nat} (p : ∀ k, (sk k).Perm (kids f n k)) {d k x t : Nat} (l : Lv f k t) (h : x ∈ sub sk d k) : ∃ i, itr f i x = k ∧ Lv f x (t + i) := by
  obtain ⟨_, i, c2, c3⟩ := sub_at hf p h
  refine ⟨i, c2, by rw [Nat.add_comm, itr_add, c2]; exact l.at_, fun j hj => ?_⟩
  by_cases q : j < i
  · exact c3 j q
  · have := l.no (j - i) (by omega)
    rwa [← c2, ← itr_add, show i + (j - i) = j by omega] at this
theorem sub_nodup (hf : ∀ x, x < n → f x < n) {sk : Nat → List Nat} (p : ∀ k, (sk k).Perm (kids f n k)) : ∀ {d k t : Nat}, Lv f k t → (sub sk d k).Nodup
  | 0, _, _, _ => List.Pairwise.nil
  | d + 1, k, t, l => by
    unfold sub
    have lk : ∀ a ∈ sk k, Lv f a (t + 1) := fun a ha => by
      obtain ⟨_, h2, h3⟩ := (kids_mem hf).mp ((p k).mem_iff.mp ha)
      exact Lv.succ h3 (by rw [h2]; exact l)
    refine List.nodup_cons.mpr ⟨fun h => ?_, ?_⟩
    · obtain ⟨a, ha, hx⟩ := List.mem_flatMap.mp h
      obtain ⟨i, _, l2⟩ := sub_lv hf p (lk a ha) hx
      have := l.one l2
      omega
    · refine List.pairwise_flatMap.mpr ⟨fun a ha => sub_nodup hf p (d := d) (lk a ha), ?_⟩
      have nd : (sk k).Nodup := (p k).nodup_iff.mpr (kids_nodup k)
      refine (List.Pairwise.and_mem.mp nd).imp fun {a b} ⟨ha, hb, hne⟩ x hx y hy e => ?_
      subst e
      obtain ⟨i, e1, l1⟩ := sub_lv hf p (lk a ha) hx
      obtain ⟨j, e2, l2⟩ := sub_lv hf p (lk b hb) hy
      have := l1.one l2
      obtain rfl : i = j := by omega
      exact hne (by rw [← e1, ← e2])
/-- all things, each once, by the roots at which they hang -/
theorem all_once (hf : ∀ x, x < n → f x < n) {sk : Nat → List Nat} (p : ∀ k, (sk k).Perm (kids f n k)) {R : List Nat} (nd : R.Nodup) (hR : ∀ x, x ∈ R ↔ x < n ∧ Cyc f x) {D : Nat} (hD : n ≤ D) : (R.flatMap (sub sk D)).Perm (List.range n) := by
  refine (List.perm_ext_iff_of_nodup ?_ List.nodup_range).mpr fun x => ?_
  · refine List.pairwise_flatMap.mpr ⟨fun a ha => sub_nodup hf p (Lv.zero ((hR a).mp ha).2), ?_⟩
    refine (List.Pairwise.and_mem.mp nd).imp fun {a b} ⟨ha, hb, hne⟩ x hx y hy e => ?_
    subst e
    obtain ⟨i, e1, l1⟩ := sub_lv hf p (Lv.zero ((hR a).mp ha).2) hx
    obtain ⟨j, e2, l2⟩ := sub_lv hf p (Lv.zero ((hR b).mp hb).2) hy
    have := l1.one l2
    obtain rfl : i = j := by omega
    exact hne (by rw [← e1, ← e2])
  · rw [List.mem_flatMap, List.mem_range]
    constructor
    · rintro ⟨a, ha, hx⟩
      exact (sub_at hf p hx).1 ((hR a).mp ha).1
    · intro hx
      obtain ⟨t, ht, l⟩ := lv_ex hf hx
      exact ⟨itr f t x, (hR _).mpr ⟨itr_lt hf hx t, l.at_⟩, sub_of hf p hx rfl l.no (by omega)⟩
end
end Mt

namespace Mt
open PySem DL
/-! ### rings -/
section
variable {f : Nat → Nat} {n : Nat}
def perF (f : Nat → Nat) (m : Nat) : Nat → Nat → Nat
  | 0, i => i
  | d + 1, i => if itr f i m = m then i else perF f m d (i + 1)
def perN (f : Nat → Nat) (n m : Nat) : Nat := perF f m n 1
theorem perF_eq {m s : Nat} (o : Orb f m 0 s) : ∀ {d i : Nat}, 1 ≤ i → i ≤ s → s ≤ i + d → perF f m d i = s
  | 0, i, h1, h2, h3 => by
    show i = s
    omega
  | d + 1, i, h1, h2, h3 => by
    unfold perF
    have hb : itr f s m = m := by have := o.back; rwa [Nat.zero_add] at this
    by_cases q : itr f i m = m
    · rw [if_pos q]
      by_cases qs : i = s
      · exact qs
      · exact absurd q.symm (o.new 0 i (by omega) (by omega))
    · rw [if_neg q]
      have : i ≠ s := fun e => q (by rw [e]; exact hb)
      exact perF_eq o (by omega) (by omega) (by omega)
theorem per_orb (hf : ∀ x, x < n → f x < n) {m : Nat} (hm : m < n) (c : Cyc f m) : Orb f m 0 (perN f n m) := by
  obtain ⟨s, le, o⟩ := c.orb hf hm
  have := o.pos
  have e : perN f n m = s := perF_eq o (Nat.le_refl _) (by omega) (by omega)
  rw [e]
  exact o
def rl (f : Nat → Nat) (m s : Nat) : List Nat := (List.range s).map fun i => itr f i m
theorem rl_len (f : Nat → Nat) (m s : Nat) : (rl f m s).length = s := by unfold rl; rw [List.length_map, List.length_range]
theorem rl_get {m s i : Nat} (h : i < s) : (rl f m s)[i]? = some (itr f i m) := by
  unfold rl
  rw [List.getElem?_map, List.getElem?_range h]
  rfl
theorem rl_mem {m s x : Nat} (o : Orb f m 0 s) : x ∈ rl f m s ↔ ∃ i, itr f i m = x := by
  unfold rl
  rw [List.mem_map]
  constructor
  · rintro ⟨i, _, e⟩
    exact ⟨i, e⟩
  · rintro ⟨i, e⟩
    exact ⟨i % s, List.mem_range.mpr (Nat.mod_lt _ o.pos), by rw [← orb_mod o]; exact e⟩
theorem rl_nodup {m s : Nat} (o : Orb f m 0 s) : (rl f m s).Nodup := by
  unfold rl
  refine List.pairwise_iff_getElem.mpr fun i j hi hj hij e => ?_
  rw [List.length_map, List.length_range] at hi hj
  rw [List.getElem_map, List.getElem_map, List.getElem_range, List.getElem_range] at e
  exact o.new i j hij (by omega) e
theorem cyc_back {x : Nat} (c : Cyc f x) (i : Nat) : ∃ j, itr f j (itr f i x) = x := by
  obtain ⟨s, hs, e⟩ := c
  have mul : ∀ q, itr f (s * q) x = x := fun q => by
    induction q with
    | zero => rfl
    | succ q ih => rw [Nat.mul_succ, itr_add, ih, e]
  have : i ≤ s * i := Nat.le_mul_of_pos_left i hs
  exact ⟨s * i - i, by rw [← itr_add, show i + (s * i - i) = s * i by omega]; exact mul i⟩
def isRep (f : Nat → Nat) (n m : Nat) : Bool := cycB f n m && (List.range n).all fun i => decide (m ≤ itr f i m)
def reps (f : Nat → Nat) (n : Nat) : List Nat := (List.range n).filter (isRep f n)
theorem reps_mem (hf : ∀ x, x < n → f x < n) {m : Nat} : m ∈ reps f n ↔ m < n ∧ Cyc f m ∧ ∀ i, m ≤ itr f i m := by
  unfold reps isRep
  rw [List.mem_filter, List.mem_range, Bool.and_eq_true, List.all_eq_true]
  constructor
  · rintro ⟨h1, h2, h3⟩
    have c := (cycB_iff hf h1).mp h2
    refine ⟨h1, c, fun i => ?_⟩
    obtain ⟨s, le, o⟩ := c.orb hf h1
    rw [orb_mod o]
    have := Nat.mod_lt i o.pos
    exact of_decide_eq_true (h3 (i % s) (List.mem_range.mpr (by omega)))
  · rintro ⟨h1, h2, h3⟩
    exact ⟨h1, (cycB_iff hf h1).mpr h2, fun i _ => decide_eq_true (h3 i)⟩
theorem reps_nodup : (reps f n).Nodup := List.Nodup.sublist List.filter_sublist List.nodup_range
theorem rep_ex (hf : ∀ x, x < n → f x < n) {x : Nat} (hx : x < n) : ∃ m, m ∈ reps f n ∧ ∃ i, itr f i x = m := by
  obtain ⟨t, _, l⟩ := lv_ex hf hx
  have key : ∀ v, ∀ i, itr f i (itr f t x) ≤ v → ∃ m, (∃ i, itr f i (itr f t x) = m) ∧ ∀ j, m ≤ itr f j (itr f t x) := fun v => by
    induction v with
    | zero =>
      intro i h
      exact ⟨0, ⟨i, by omega⟩, fun j => Nat.zero_le _⟩
    | succ v ih =>
      intro i h
      by_cases q : ∃ j, itr f j (itr f t x) ≤ v
      · obtain ⟨j, hj⟩ := q
        exact ih j hj
      · exact ⟨v + 1, ⟨i, by
          have : ¬ itr f i (itr f t x) ≤ v := fun z => q ⟨i, z⟩
          omega⟩, fun j => by
          have : ¬ itr f j (itr f t x) ≤ v := fun z => q ⟨j, z⟩
          omega⟩
  obtain ⟨m, ⟨i, e⟩, least⟩ := key _ 0 (Nat.le_refl _)
  refine ⟨m, (reps_mem hf).mpr ⟨?_, ?_, fun j => ?_⟩, t + i, by rw [itr_add]; exact e⟩
  · rw [← e]; exact itr_lt hf (itr_lt hf hx t) i
  · rw [← e]; exact cyc_itr l.at_ i
  · have := least (i + j)
    rwa [itr_add, e] at this
theorem rep_le {x m m' i j : Nat} (c : Cyc f m) (h' : ∀ i, m' ≤ itr f i m') (e : itr f i x = m) (e' : itr f j x = m') : m' ≤ m := by
  obtain ⟨s, hs, es⟩ := c
  have mul : ∀ q, itr f (s * q) m = m := fun q => by
    induction q with
    | zero => rfl
    | succ q ih => rw [Nat.mul_succ, itr_add, ih, es]
  -- m again, far behind
  have : j ≤ s * j := Nat.le_mul_of_pos_left j hs
  have e2 : itr f (i + s * j) x = m := by rw [itr_add, e]; exact mul j
  have e3 : itr f (i + s * j - j) m' = m := by rw [← e', ← itr_add, show j + (i + s * j - j) = i + s * j by omega]; exact e2
  rw [← e3]
  exact h' _
theorem rep_one (hf : ∀ x, x < n → f x < n) {x m m' i j : Nat} (h : m ∈ reps f n) (h' : m' ∈ reps f n) (e : itr f i x = m) (e' : itr f j x = m') : m = m' := by
  obtain ⟨_, c, l⟩ := (reps_mem hf).mp h
  obtain ⟨_, c', l'⟩ := (reps_mem hf).mp h'
  exact Nat.le_antisymm (rep_le c' l e' e) (rep_le c l' e e')
/-- all that come round, ring by ring, each ring from any of its things on -/
theorem roots_nodup (hf : ∀ x, x < n → f x < n) {ms : List Nat} (p : ms.Perm (reps f n)) {bt : Nat → Nat} (hb : ∀ m ∈ reps f n, ∃ i, bt m = itr f i m) :
    (ms.flatMap fun m => rl f (bt m) (perN f n m)).Nodup ∧ ∀ x, x ∈ (ms.flatMap fun m => rl f (bt m) (perN f n m)) ↔ x < n ∧ Cyc f x := by
  have orb : ∀ m ∈ reps f n, Orb f (bt m) 0 (perN f n m) := fun m hm => by
    obtain ⟨h1, h2, h3⟩ := (reps_mem hf).mp hm
    obtain ⟨i, e⟩ := hb m hm
    rw [e]
    exact orb_shift (per_orb hf h1 h2) i
  refine ⟨List.pairwise_flatMap.mpr ⟨fun m hm => rl_nodup (orb m (p.mem_iff.mp hm)), ?_⟩, fun x => ?_⟩
  · refine (List.Pairwise.and_mem.mp (p.nodup_iff.mpr reps_nodup)).imp fun {a b} ⟨ha, hb', hne⟩ x hx y hy e => ?_
    subst e
    have ha := p.mem_iff.mp ha
    have hb' := p.mem_iff.mp hb'
    obtain ⟨i, e1⟩ := (rl_mem (orb a ha)).mp hx
    obtain ⟨j, e2⟩ := (rl_mem (orb b hb')).mp hy
    obtain ⟨i', e3⟩ := hb a ha
    obtain ⟨j', e4⟩ := hb b hb'
    have ca := ((reps_mem hf).mp ha).2.1
    have cb := ((reps_mem hf).mp hb').2.1
    rw [e3, ← itr_add] at e1
    rw [e4, ← itr_add] at e2
    obtain ⟨u, eu⟩ := cyc_back ca (i' + i)
    obtain ⟨v, ev⟩ := cyc_back cb (j' + j)
    rw [e1] at eu
    rw [e2] at ev
    exact hne (rep_one hf ha hb' eu ev)
  · rw [List.mem_flatMap]
    constructor
    · rintro ⟨m, hm, hx⟩
      have hm := p.mem_iff.mp hm
      obtain ⟨h1, h2, h3⟩ := (reps_mem hf).mp hm
      obtain ⟨i, e1⟩ := (rl_mem (orb m hm)).mp hx
      obtain ⟨i', e3⟩ := hb m hm
      rw [e3, ← itr_add] at e1
      rw [← e1]
      exact ⟨itr_lt hf h1 _, cyc_itr h2 _⟩
    · rintro ⟨hx, c⟩
      obtain ⟨m, hm, i, e⟩ := rep_ex hf hx
      obtain ⟨j, ej⟩ := cyc_back c i
      obtain ⟨i', e3⟩ := hb m hm
      obtain ⟨h1, h2, h3⟩ := (reps_mem hf).mp hm
      obtain ⟨u, eu⟩ := cyc_back h2 i'
      refine ⟨m, p.mem_iff.mpr hm, (rl_mem (orb m hm)).mpr ⟨u + j, ?_⟩⟩
      rw [itr_add, e3, eu, ← e]
      exact ej
end
/-! ### the text of a map -/
section
variable {srt : List Str → List Str} {mn : List Str → Str} {f f' : Nat → Nat} {n n' D : Nat}
def Wt (f : Nat → Nat) (T : Nat → Str) (s r : Nat) : Str := cat ((rl f r s).map T)
def RT (mn : List Str → Str) (f : Nat → Nat) (n : Nat) (T : Nat → Str) (m : Nat) : Str := lb ++ mn ((rl f m (perN f n m)).map (Wt f T (perN f n m))) ++ rb
def PT (srt : List Str → List Str) (mn : List Str → Str) (f : Nat → Nat) (n D : Nat) : Str := cat (srt ((reps f n).map (RT mn f n (B srt (kids f n) D))))
/-- a thing of each ring from which the text is least -/
def Best (mn : List Str → Str) (f : Nat → Nat) (n : Nat) (T : Nat → Str) (bt : Nat → Nat) : Prop := ∀ m ∈ reps f n, ∃ i, bt m = itr f i m ∧ Wt f T (perN f n m) (bt m) = mn ((rl f m (perN f n m)).map (Wt f T (perN f n m)))
theorem best_ex (mnm : ∀ l : List Str, l ≠ [] → mn l ∈ l) (hf : ∀ x, x < n → f x < n) (T : Nat → Str) {m : Nat} (hm : m ∈ reps f n) : ∃ i, i < perN f n m ∧ Wt f T (perN f n m) (itr f i m) = mn ((rl f m (perN f n m)).map (Wt f T (perN f n m))) := by
  obtain ⟨h1, h2, h3⟩ := (reps_mem hf).mp hm
  have o := per_orb hf h1 h2
  have ne : (rl f m (perN f n m)).map (Wt f T (perN f n m)) ≠ [] := fun z => by
    have := congrArg List.length z
    rw [List.length_map, rl_len] at this
    have := o.pos
    simp at *
    omega
  obtain ⟨x, hx, e⟩ := List.mem_map.mp (mnm _ ne)
  unfold rl at hx
  obtain ⟨i, hi, rfl⟩ := List.mem_map.mp hx
  exact ⟨i, List.mem_range.mp hi, e⟩
theorem rl_lt (hf : ∀ x, x < n → f x < n) {r s : Nat} (hr : r < n) : ∀ x ∈ rl f r s, x < n := fun x hx => by
  unfold rl at hx
  obtain ⟨i, _, rfl⟩ := List.mem_map.mp hx
  exact itr_lt hf hr i
theorem rt_eq {T : Nat → Str} {bt : Nat → Nat} (b : Best mn f n T bt) {m : Nat} (hm : m ∈ reps f n) : RT mn f n T m = lb ++ cat ((rl f (bt m) (perN f n m)).map T) ++ rb := by
  obtain ⟨i, _, e⟩ := b m hm
  unfold RT
  rw [← e]
  rfl
theorem zip_flatG {F F' : Nat → Str} {Q : Nat → Nat → List (Nat × Nat)} {h h' : Nat → List Nat} : ∀ {l l' : List Nat}, l.map F = l'.map F' → (∀ a ∈ l, ∀ b ∈ l', F a = F' b → (Q a b).map (·.1) = h a ∧ (Q a b).map (·.2) = h' b) →
    ((l.zip l').flatMap fun p => Q p.1 p.2).map (·.1) = l.flatMap h ∧ ((l.zip l').flatMap fun p => Q p.1 p.2).map (·.2) = l'.flatMap h'
  | [], [], _, _ => ⟨rfl, rfl⟩
  | [], _ :: _, h, _ => by simp at h
  | _ :: _, [], h, _ => by simp at h
  | a :: l, b :: l', h, k => by
    rw [List.map_cons, List.map_cons] at h
    obtain ⟨h1, h2⟩ := List.cons.inj h
    obtain ⟨i1, i2⟩ := zip_flatG h2 fun x hx y hy => k x (List.mem_cons_of_mem _ hx) y (List.mem_cons_of_mem _ hy)
    obtain ⟨j1, j2⟩ := k a List.mem_cons_self b List.mem_cons_self h1
    rw [List.zip_cons_cons, List.flatMap_cons, List.map_append, List.map_append, i1, i2, j1, j2, List.flatMap_cons, List.flatMap_cons]
    exact ⟨rfl, rfl⟩
theorem zip_at {F F' : Nat → Str} : ∀ {l l' : List Nat} {a b : Nat}, l.map F = l'.map F' → (a, b) ∈ l.zip l' → F a = F' b
  | [], _, _, _, _, h => by simp at h
  | _ :: _, [], _, _, _, h => by simp at h
  | x :: l, y :: l', a, b, e, h => by
    rw [List.map_cons, List.map_cons] at e
    obtain ⟨h1, h2⟩ := List.cons.inj e
    rw [List.zip_cons_cons] at h
    rcases List.mem_cons.mp h with h | h
    · cases h
      exact h1
    · exact zip_at h2 h
/-- all pairs that the two maps are given -/
def PP (sk sk' : Nat → List Nat) (D : Nat) (f f' : Nat → Nat) (n n' : Nat) (bt bt' : Nat → Nat) (ms ms' : List Nat) : List (Nat × Nat) :=
  (ms.zip ms').flatMap fun q => ((rl f (bt q.1) (perN f n q.1)).zip (rl f' (bt' q.2) (perN f' n' q.2))).flatMap fun p => Pr sk sk' D p.1 p.2
theorem sound (sp : ∀ l, (srt l).Perm l) (mnm : ∀ l : List Str, l ≠ [] → mn l ∈ l) (hf : ∀ x, x < n → f x < n) (hf' : ∀ x, x < n' → f' x < n') (hD : n ≤ D) (hD' : n' ≤ D) (hp : 0 < D) {sk sk' : Nat → List Nat} {bt bt' : Nat → Nat} {ms ms' : List Nat}
    (o : Ord srt (kids f n) sk (B srt (kids f n) D)) (o' : Ord srt (kids f' n') sk' (B srt (kids f' n') D)) (b : Best mn f n (B srt (kids f n) D) bt) (b' : Best mn f' n' (B srt (kids f' n') D) bt')
    (p : ms.Perm (reps f n)) (p' : ms'.Perm (reps f' n')) (q : ms.map (RT mn f n (B srt (kids f n) D)) = srt ((reps f n).map (RT mn f n (B srt (kids f n) D)))) (q' : ms'.map (RT mn f' n' (B srt (kids f' n') D)) = srt ((reps f' n').map (RT mn f' n' (B srt (kids f' n') D))))
    (e : PT srt mn f n D = PT srt mn f' n' D) :
    ((PP sk sk' D f f' n n' bt bt' ms ms').map (·.1)).Perm (List.range n) ∧ ((PP sk sk' D f f' n n' bt bt' ms ms').map (·.2)).Perm (List.range n') ∧ ∀ x ∈ PP sk sk' D f f' n n' bt bt' ms ms', (f x.1, f' x.2) ∈ PP sk sk' D f f' n n' bt bt' ms ms' := by
  have t := kids_tr hf (srt := srt) hD
  have t' := kids_tr hf' (srt := srt) hD'
  unfold PT at e
  generalize B srt (kids f n) D = T at *
  generalize B srt (kids f' n') D = T' at *
  have lt : ∀ m ∈ reps f n, bt m < n := fun m hm => by
    obtain ⟨i, ei, _⟩ := b m hm
    rw [ei]
    exact itr_lt hf ((reps_mem hf).mp hm).1 i
  have lt' : ∀ m ∈ reps f' n', bt' m < n' := fun m hm => by
    obtain ⟨i, ei, _⟩ := b' m hm
    rw [ei]
    exact itr_lt hf' ((reps_mem hf').mp hm).1 i
  have at1 : ∀ m ∈ reps f n, ∀ a ∈ (rl f (bt m) (perN f n m)).map T, AtomS a := fun m hm a ha => by
    obtain ⟨x, hx, rfl⟩ := List.mem_map.mp ha
    exact t.atom sp (rl_lt hf (lt m hm) x hx)
  have at2 : ∀ m ∈ reps f' n', ∀ a ∈ (rl f' (bt' m) (perN f' n' m)).map T', AtomS a := fun m hm a ha => by
    obtain ⟨x, hx, rfl⟩ := List.mem_map.mp ha
    exact t'.atom sp (rl_lt hf' (lt' m hm) x hx)
  have e1 : ms.map (RT mn f n T) = ms'.map (RT mn f' n' T') := by
    rw [q, q']
    refine cat_inj (fun a ha => ?_) (fun a ha => ?_) e
    · obtain ⟨m, hm, rfl⟩ := List.mem_map.mp ((sp _).mem_iff.mp ha)
      rw [rt_eq b hm]
      exact wrap_brack (at1 m hm)
    · obtain ⟨m, hm, rfl⟩ := List.mem_map.mp ((sp _).mem_iff.mp ha)
      rw [rt_eq b' hm]
      exact wrap_brack (at2 m hm)
  have e2 : ∀ m ∈ ms, ∀ m' ∈ ms', RT mn f n T m = RT mn f' n' T' m' → (rl f (bt m) (perN f n m)).map T = (rl f' (bt' m') (perN f' n' m')).map T' := fun m hm m' hm' z => by
    rw [rt_eq b (p.mem_iff.mp hm), rt_eq b' (p'.mem_iff.mp hm')] at z
    exact cat_inj (at1 m (p.mem_iff.mp hm)) (at2 m' (p'.mem_iff.mp hm')) (wrap_inj z)
  have big := zip_flatG (Q := fun m m' => ((rl f (bt m) (perN f n m)).zip (rl f' (bt' m') (perN f' n' m'))).flatMap fun p => Pr sk sk' D p.1 p.2) (h := fun m => (rl f (bt m) (perN f n m)).flatMap (sub sk D)) (h' := fun m => (rl f' (bt' m) (perN f' n' m)).flatMap (sub sk' D)) e1
    fun m hm m' hm' z => zip_flatG (Q := Pr sk sk' D) (e2 m hm m' hm' z) fun k hk k' hk' z2 => pr_keys t t' sp o o' (rl_lt hf (lt m (p.mem_iff.mp hm)) k hk) (rl_lt hf' (lt' m' (p'.mem_iff.mp hm')) k' hk') z2
  have rn := roots_nodup hf p fun m hm => (b m hm).imp fun _ h => h.1
  have rn' := roots_nodup hf' p' fun m hm => (b' m hm).imp fun _ h => h.1
  refine ⟨?_, ?_, fun x hx => ?_⟩
  · unfold PP
    rw [big.1, ← List.flatMap_assoc]
    exact all_once hf o.perm rn.1 rn.2 hD
  · unfold PP
    rw [big.2, ← List.flatMap_assoc]
    exact all_once hf' o'.perm rn'.1 rn'.2 hD'
  · unfold PP at hx ⊢
    obtain ⟨⟨m, m'⟩, hm, hx⟩ := List.mem_flatMap.mp hx
    obtain ⟨⟨k, k'⟩, hk, hx⟩ := List.mem_flatMap.mp hx
    have mm := List.of_mem_zip hm
    have hmr := p.mem_iff.mp mm.1
    have hmr' := p'.mem_iff.mp mm.2
    have e3 := e2 m mm.1 m' mm.2 (zip_at e1 hm)
    rcases pr_closed o.perm o'.perm hx with rfl | ⟨y, hy, h1, h2⟩
    · -- on a ring
      have hs : perN f n m = perN f' n' m' := by
        have := congrArg List.length e3
        rwa [List.length_map, List.length_map, rl_len, rl_len] at this
      obtain ⟨i, hi, hk⟩ := List.mem_iff_getElem.mp hk
      rw [List.length_zip, rl_len, rl_len] at hi
      rw [List.getElem_zip] at hk
      cases hk
      obtain ⟨h1, h2, h3⟩ := (reps_mem hf).mp hmr
      obtain ⟨h1', h2', h3'⟩ := (reps_mem hf').mp hmr'
      have or1 : Orb f (bt m) 0 (perN f n m) := by
        obtain ⟨j, ej, _⟩ := b m hmr
        rw [ej]
        exact orb_shift (per_orb hf h1 h2) j
      have or2 : Orb f' (bt' m') 0 (perN f' n' m') := by
        obtain ⟨j, ej, _⟩ := b' m' hmr'
        rw [ej]
        exact orb_shift (per_orb hf' h1' h2') j
      refine List.mem_flatMap.mpr ⟨(m, m'), hm, List.mem_flatMap.mpr ⟨(f (itr f i (bt m)), f' (itr f' i (bt' m'))), ?_, ?_⟩⟩
      · have hpos := or1.pos
        refine List.mem_iff_getElem.mpr ⟨(i + 1) % perN f n m, ?_, ?_⟩
        · rw [List.length_zip, rl_len, rl_len]
          show _ < min (perN f n m) (perN f' n' m')
          rw [← hs, Nat.min_self]
          exact Nat.mod_lt (i + 1) hpos
        · rw [List.getElem_zip]
          have a1 := orb_mod or1 (i + 1)
          have a2 := orb_mod or2 (i + 1)
          rw [← hs] at a2
          simp only [rl, List.getElem_map, List.getElem_range]
          rw [← a1, ← a2]
          rfl
      · simp only [rl, List.getElem_map, List.getElem_range]
        obtain ⟨d, rfl⟩ : ∃ d, D = d + 1 := ⟨D - 1, by omega⟩
        unfold Pr
        exact List.mem_cons_self
    · obtain ⟨_, a1, _⟩ := (kids_mem hf).mp h1
      obtain ⟨_, a2, _⟩ := (kids_mem hf').mp h2
      refine List.mem_flatMap.mpr ⟨(m, m'), hm, List.mem_flatMap.mpr ⟨(k, k'), hk, ?_⟩⟩
      rw [a1, a2]
      exact hy
end
end Mt

namespace Mt
open PySem DL
section
variable {srt : List Str → List Str} {mn : List Str → Str} {f f' : Nat → Nat} {n n' D : Nat}
/-! ### the names that the pairs tell -/
theorem names_of {L : List (Nat × Nat)} {nm : Nat → Nat} (h1 : (L.map (·.1)).Perm (List.range n)) (h2 : (L.map (·.2)).Perm (List.range n')) (h3 : ∀ x ∈ L, (f x.1, f' x.2) ∈ L) (hn : ∀ p ∈ L, nm p.1 = p.2) :
    n = n' ∧ ((List.range n).map nm).Perm (List.range n) ∧ ∀ k, k < n → f' (nm k) = nm (f k) := by
  have e : n = n' := by
    have a := h1.length_eq
    have b := h2.length_eq
    rw [List.length_map, List.length_range] at a b
    omega
  refine ⟨e, ?_, fun k hk => ?_⟩
  · have e2 : L.map (·.2) = (L.map (·.1)).map nm := by
      rw [List.map_map]
      exact List.map_congr_left fun p hp => (hn p hp).symm
    rw [e2, ← e] at h2
    exact ((h1.map nm).symm).trans h2
  · obtain ⟨p, hp, ek⟩ := List.mem_map.mp (h1.mem_iff.mpr (List.mem_range.mpr hk))
    have ek : p.1 = k := ek
    subst ek
    rw [hn p hp]
    exact (hn _ (h3 p hp)).symm
/-! ### other names, the same text -/
structure Iso (n : Nat) (f f' π : Nat → Nat) : Prop where
  perm : ((List.range n).map π).Perm (List.range n)
  led : ∀ x, x < n → f' (π x) = π (f x)
theorem Iso.lt (I : Iso n f f' π) {x : Nat} (hx : x < n) : π x < n := List.mem_range.mp (I.perm.mem_iff.mp (List.mem_map_of_mem (List.mem_range.mpr hx)))
theorem Iso.inj (I : Iso n f f' π) {x y : Nat} (hx : x < n) (hy : y < n) (e : π x = π y) : x = y := by
  have nd : ((List.range n).map π).Nodup := I.perm.nodup_iff.mpr List.nodup_range
  rcases Nat.lt_trichotomy x y with h | h | h
  · have := (List.pairwise_iff_getElem.mp nd) x y (by simpa using hx) (by simpa using hy) h
    rw [List.getElem_map, List.getElem_map, List.getElem_range, List.getElem_range] at this
    exact absurd e this
  · exact h
  · have := (List.pairwise_iff_getElem.mp nd) y x (by simpa using hy) (by simpa using hx) h
    rw [List.getElem_map, List.getElem_map, List.getElem_range, List.getElem_range] at this
    exact absurd e.symm this
theorem Iso.onto (I : Iso n f f' π) {y : Nat} (hy : y < n) : ∃ x, x < n ∧ π x = y := by
  obtain ⟨x, hx, e⟩ := List.mem_map.mp (I.perm.mem_iff.mpr (List.mem_range.mpr hy))
  exact ⟨x, List.mem_range.mp hx, e⟩
theorem Iso.itr (I : Iso n f f' π) (hf : ∀ x, x < n → f x < n) {x : Nat} (hx : x < n) : ∀ i, DL.itr f' i (π x) = π (DL.itr f i x)
  | 0 => rfl
  | i + 1 => by
    show f' (DL.itr f' i (π x)) = π (f (DL.itr f i x))
    rw [Iso.itr I hf hx i]
    exact I.led _ (itr_lt hf hx i)
theorem Iso.cyc (I : Iso n f f' π) (hf : ∀ x, x < n → f x < n) {x : Nat} (hx : x < n) : Cyc f' (π x) ↔ Cyc f x := by
  constructor
  · rintro ⟨s, hs, e⟩
    rw [I.itr hf hx] at e
    exact ⟨s, hs, I.inj (itr_lt hf hx s) hx e⟩
  · rintro ⟨s, hs, e⟩
    exact ⟨s, hs, by rw [I.itr hf hx, e]⟩
theorem Iso.kids (I : Iso n f f' π) (hf : ∀ x, x < n → f x < n) (hf' : ∀ x, x < n → f' x < n) {k : Nat} (hk : k < n) : (Mt.kids f' n (π k)).Perm ((Mt.kids f n k).map π) := by
  have nd : ((Mt.kids f n k).map π).Nodup := by
    refine List.pairwise_map.mpr ((List.Pairwise.and_mem.mp (kids_nodup (f := f) (n := n) k)).imp fun {a b} ⟨ha, hb, hne⟩ e => hne (I.inj ((kids_mem hf).mp ha).1 ((kids_mem hf).mp hb).1 e))
  refine (List.perm_ext_iff_of_nodup (kids_nodup _) nd).mpr fun y => ?_
  rw [kids_mem hf', List.mem_map]
  constructor
  · rintro ⟨h1, h2, h3⟩
    obtain ⟨x, hx, rfl⟩ := I.onto h1
    refine ⟨x, (kids_mem hf).mpr ⟨hx, ?_, fun c => h3 ((I.cyc hf hx).mpr c)⟩, rfl⟩
    rw [I.led x hx] at h2
    exact I.inj (hf x hx) hk h2
  · rintro ⟨x, hx, rfl⟩
    obtain ⟨h1, h2, h3⟩ := (kids_mem hf).mp hx
    exact ⟨I.lt h1, by rw [I.led x h1, h2], fun c => h3 ((I.cyc hf h1).mp c)⟩
theorem Iso.orb (I : Iso n f f' π) (hf : ∀ x, x < n → f x < n) {m s : Nat} (hm : m < n) (o : Orb f m 0 s) : Orb f' (π m) 0 s := by
  refine ⟨o.pos, ?_, fun i j h1 h2 e => ?_⟩
  · rw [I.itr hf hm, I.itr hf hm, o.back]
  · rw [I.itr hf hm, I.itr hf hm] at e
    exact o.new i j h1 h2 (I.inj (itr_lt hf hm i) (itr_lt hf hm j) e)
theorem Iso.rl (I : Iso n f f' π) (hf : ∀ x, x < n → f x < n) {r : Nat} (hr : r < n) (s : Nat) : Mt.rl f' (π r) s = (Mt.rl f r s).map π := by
  unfold Mt.rl
  rw [List.map_map]
  exact List.map_congr_left fun i _ => I.itr hf hr i
theorem Iso.per (I : Iso n f f' π) (hf : ∀ x, x < n → f x < n) (hf' : ∀ x, x < n → f' x < n) {m : Nat} (hm : m < n) (c : Cyc f m) : perN f' n (π m) = perN f n m :=
  orb_one (per_orb hf' (I.lt hm) ((I.cyc hf hm).mpr c)) (I.orb hf hm (per_orb hf hm c))
/-- the ring's text is told from any of its things -/
theorem rt_turn (mne : ∀ l l' : List Str, (∀ x, x ∈ l ↔ x ∈ l') → mn l = mn l') (hf : ∀ x, x < n → f x < n) {T : Nat → Str} {m : Nat} (hm : m < n) (c : Cyc f m) (i : Nat) : RT mn f n T (itr f i m) = RT mn f n T m := by
  have o := per_orb hf hm c
  have o2 := per_orb hf (itr_lt hf hm i) (cyc_itr c i)
  have es : perN f n (itr f i m) = perN f n m := orb_one o2 (orb_shift o i)
  unfold RT
  rw [es]
  have : mn ((rl f (itr f i m) (perN f n m)).map (Wt f T (perN f n m))) = mn ((rl f m (perN f n m)).map (Wt f T (perN f n m))) := by
    refine mne _ _ fun x => ?_
    rw [List.mem_map, List.mem_map]
    have mem : ∀ y, y ∈ rl f (itr f i m) (perN f n m) ↔ y ∈ rl f m (perN f n m) := fun y => by
      rw [rl_mem (orb_shift o i), rl_mem o]
      constructor
      · rintro ⟨j, e⟩
        exact ⟨i + j, by rw [itr_add]; exact e⟩
      · rintro ⟨j, e⟩
        obtain ⟨u, eu⟩ := cyc_back c i
        exact ⟨u + j, by rw [itr_add, eu]; exact e⟩
    constructor
    · rintro ⟨y, hy, e⟩
      exact ⟨y, (mem y).mp hy, e⟩
    · rintro ⟨y, hy, e⟩
      exact ⟨y, (mem y).mpr hy, e⟩
  rw [this]
theorem Iso.rt (I : Iso n f f' π) (hf : ∀ x, x < n → f x < n) (hf' : ∀ x, x < n → f' x < n) {T T' : Nat → Str} (hT : ∀ x, x < n → T' (π x) = T x) {m : Nat} (hm : m < n) (c : Cyc f m) : RT mn f' n T' (π m) = RT mn f n T m := by
  unfold RT
  rw [I.per hf hf' hm c, I.rl hf hm, List.map_map]
  have : (Mt.rl f m (perN f n m)).map (Wt f' T' (perN f n m) ∘ π) = (Mt.rl f m (perN f n m)).map (Wt f T (perN f n m)) := List.map_congr_left fun r hr => by
    have hr := rl_lt hf hm r hr
    show Wt f' T' (perN f n m) (π r) = _
    unfold Wt
    rw [I.rl hf hr, List.map_map]
    rw [List.map_congr_left fun x hx => show (T' ∘ π) x = T x from hT x (rl_lt hf hr x hx)]
  rw [this]
theorem same_text (se : ∀ {l m : List Str}, l.Perm m → srt l = srt m) (mne : ∀ l l' : List Str, (∀ x, x ∈ l ↔ x ∈ l') → mn l = mn l') (hf : ∀ x, x < n → f x < n) (hf' : ∀ x, x < n → f' x < n) {π : Nat → Nat} (I : Iso n f f' π) : PT srt mn f' n D = PT srt mn f n D := by
  have hT : ∀ x, x < n → B srt (kids f' n) D (π x) = B srt (kids f n) D x := fun x hx => B_over se (S := fun k => k < n) (fun k hk a ha => ((kids_mem hf).mp ha).1) (fun k hk => I.kids hf hf' hk) hx
  unfold PT
  have ch : ∀ m : Nat, ∃ q, m < n → q ∈ reps f' n ∧ ∃ i, itr f' i (π m) = q := fun m => by
    by_cases hm : m < n
    · obtain ⟨q, a, b⟩ := rep_ex hf' (I.lt hm)
      exact ⟨q, fun _ => ⟨a, b⟩⟩
    · exact ⟨0, fun z => absurd z hm⟩
  let φ : Nat → Nat := fun m => Classical.choose (ch m)
  have hφ : ∀ m, m < n → φ m ∈ reps f' n ∧ ∃ i, itr f' i (π m) = φ m := fun m => Classical.choose_spec (ch m)
  have pm : ((reps f n).map φ).Perm (reps f' n) := by
    refine (List.perm_ext_iff_of_nodup ?_ reps_nodup).mpr fun y => ?_
    · refine List.pairwise_map.mpr ((List.Pairwise.and_mem.mp (reps_nodup (f := f) (n := n))).imp fun {a b} ⟨ha, hb, hne⟩ e => hne ?_)
      obtain ⟨a1, a2, a3⟩ := (reps_mem hf).mp ha
      obtain ⟨b1, b2, b3⟩ := (reps_mem hf).mp hb
      obtain ⟨_, i, ei⟩ := hφ a a1
      obtain ⟨_, j, ej⟩ := hφ b b1
      rw [I.itr hf a1] at ei
      rw [I.itr hf b1] at ej
      have ee : itr f i a = itr f j b := I.inj (itr_lt hf a1 i) (itr_lt hf b1 j) (by rw [ei, ej, e])
      obtain ⟨u, eu⟩ := cyc_back a2 i
      obtain ⟨v, ev⟩ := cyc_back b2 j
      rw [ee] at eu
      exact rep_one hf ha hb eu ev
    · rw [List.mem_map]
      constructor
      · rintro ⟨m, hm, rfl⟩
        exact (hφ m ((reps_mem hf).mp hm).1).1
      · intro hy
        obtain ⟨y1, y2, y3⟩ := (reps_mem hf').mp hy
        obtain ⟨x, hx, rfl⟩ := I.onto y1
        obtain ⟨m, hm, i, ei⟩ := rep_ex hf hx
        have m1 := ((reps_mem hf).mp hm).1
        obtain ⟨h1, j, ej⟩ := hφ m m1
        refine ⟨m, hm, rep_one (x := π x) (i := i + j) (j := 0) hf' h1 hy ?_ rfl⟩
        rw [itr_add, I.itr hf hx, ei]
        exact ej
  have e : (reps f n).map (RT mn f n (B srt (kids f n) D)) = ((reps f n).map φ).map (RT mn f' n (B srt (kids f' n) D)) := by
    rw [List.map_map]
    refine List.map_congr_left fun m hm => ?_
    obtain ⟨a1, a2, a3⟩ := (reps_mem hf).mp hm
    obtain ⟨_, i, ei⟩ := hφ m a1
    show _ = RT mn f' n (B srt (kids f' n) D) (φ m)
    rw [← ei, rt_turn mne hf' (I.lt a1) ((I.cyc hf a1).mpr a2) i]
    exact (I.rt hf hf' hT a1 a2).symm
  rw [e, se (pm.map _)]
end
end Mt

namespace Mt
open PySem PySem.Spec PyProof.Rows DL
/-! ### texts as keys -/
abbrev kle {α : Type} (k : α → PyData) : α → α → Bool := PySem.W.dataLe false k
theorem kle_eq {α : Type} (k : α → PyData) (a b : α) : kle k a b = !PySem.W.dataLt (k b) (k a) := rfl
theorem dlt_irr (x : PyData) : PySem.W.dataLt x x = false := lex_irrefl _
theorem dlt_asym {x y : PyData} (h : PySem.W.dataLt x y = true) : PySem.W.dataLt y x = false := by
  cases q : PySem.W.dataLt y x with
  | false => rfl
  | true =>
    have := lex_trans _ _ _ h q
    rw [lex_irrefl] at this
    cases this
theorem dlt_neg {x y z : PyData} (h1 : PySem.W.dataLt y x = false) (h2 : PySem.W.dataLt z y = false) : PySem.W.dataLt z x = false := by
  cases q : PySem.W.dataLt z x with
  | false => rfl
  | true =>
    rcases (listOrd itemOrd).negTrans (PySem.W.keyToks z) (PySem.W.keyToks y) (PySem.W.keyToks x) q with e | e
    · have e : PySem.W.dataLt z y = true := e
      rw [h2] at e
      cases e
    · have e : PySem.W.dataLt y x = true := e
      rw [h1] at e
      cases e
theorem kle_sorted {α : Type} (k : α → PyData) (l : List α) : (l.mergeSort (kle k)).Pairwise fun a b => PySem.W.dataLt (k b) (k a) = false := by
  have := List.pairwise_mergeSort (le := kle k) (fun a b c h1 h2 => by
    rw [kle_eq, Bool.not_eq_true'] at h1 h2 ⊢
    exact dlt_neg h1 h2) (fun a b => by
    rw [kle_eq, kle_eq]
    cases q : PySem.W.dataLt (k b) (k a) with
    | false => rfl
    | true => rw [dlt_asym q]; rfl) l
  exact this.imp fun h => by
    rw [kle_eq, Bool.not_eq_true'] at h
    exact h
/-- a key that begins with a text -/
def tkey (s : Str) (d : PyData) : PyData := .tuple [.str s, d]
theorem tkey_toks (s : Str) (d : PyData) : PySem.W.keyToksAll [.str s, d] = .inl 1 :: .inr s.cps.toList :: (.inl 1 :: (PySem.W.keyToks d ++ PySem.W.keyToksAll [])) := by
  rw [PySem.W.toks_all_cons, PySem.W.toks_all_cons]
  rfl
theorem tkey_le {s s' : Str} {d d' : PyData} (h : PySem.W.dataLt (tkey s' d') (tkey s d) = false) : leS s s' = true := by
  unfold tkey at h
  rw [PySem.W.dataLt_tuple, tkey_toks, tkey_toks, lex_self] at h
  obtain ⟨h1, _⟩ := lex_false.mp h
  have h1 : decide (s'.cps.toList < s.cps.toList) = false := h1
  unfold leS
  rw [ltCps_eq, h1]
  rfl
def skG {α : Type} (T : α → Str) (e : α → PyData) (l : List α) : List α := l.mergeSort (kle fun a => tkey (T a) (e a))
theorem skG_perm {α : Type} (T : α → Str) (e : α → PyData) (l : List α) : (skG T e l).Perm l := List.mergeSort_perm _ _
theorem skG_txt {α : Type} (T : α → Str) (e : α → PyData) (l : List α) : (skG T e l).map T = ssort (l.map T) := by
  refine pair_one (((skG_perm T e l).map T).trans (ssort_perm _).symm) (List.pairwise_map.mpr ?_) (ssort_pair _)
  exact (kle_sorted (fun a => tkey (T a) (e a)) l).imp fun {a b} h => tkey_le (s := T a) (s' := T b) (d := e a) (d' := e b) h
theorem keyed_map {α : Type} (k w : α → PyData) (l : List α) : keyed (l.map k) (l.map w) = (l.mergeSort (kle k)).map w := by
  unfold keyed
  have e : (l.map k).zip (l.map w) = l.map fun a => (k a, w a) := by
    induction l with
    | nil => rfl
    | cons a l ih => rw [List.map_cons, List.map_cons, List.zip_cons_cons, ih, List.map_cons]
  rw [e, ← List.map_mergeSort (r := kle k) (f := fun a => (k a, w a)) (fun a _ b _ => rfl), List.map_map]
  rfl
/-! ### the least text -/
def minL : List Str → Str
  | [] => Str.empty
  | x :: r => minS x r
theorem minS_spec : ∀ (r : List Str) (x : Str), minS x r ∈ x :: r ∧ ∀ y ∈ x :: r, leS (minS x r) y = true
  | [], x => ⟨List.mem_cons_self, fun y hy => by
    rcases List.mem_cons.mp hy with rfl | hy
    · exact (leS_total y y).elim id id
    · cases hy⟩
  | z :: r, x => by
    have e : minS x (z :: r) = minS (if ltCps z.cps.toList x.cps.toList then z else x) r := rfl
    rw [e]
    obtain ⟨h1, h2⟩ := minS_spec r (if ltCps z.cps.toList x.cps.toList then z else x)
    by_cases c : ltCps z.cps.toList x.cps.toList = true
    · rw [if_pos c] at h1 h2 ⊢
      refine ⟨List.mem_cons_of_mem _ h1, fun y hy => ?_⟩
      rcases List.mem_cons.mp hy with rfl | hy
      · refine leS_trans (h2 z List.mem_cons_self) ?_
        rcases leS_total z y with q | q
        · exact q
        · unfold leS at q
          rw [c] at q
          cases q
      · exact h2 y hy
    · rw [if_neg c] at h1 h2 ⊢
      refine ⟨?_, fun y hy => ?_⟩
      · rcases List.mem_cons.mp h1 with h | h
        · rw [h]; exact List.mem_cons_self
        · exact List.mem_cons_of_mem _ (List.mem_cons_of_mem _ h)
      · rcases List.mem_cons.mp hy with rfl | hy
        · exact h2 _ List.mem_cons_self
        · rcases List.mem_cons.mp hy with rfl | hy
          · refine leS_trans (h2 x List.mem_cons_self) ?_
            unfold leS
            cases q : ltCps y.cps.toList x.cps.toList with
            | false => rfl
            | true => exact absurd q c
          · exact h2 y (List.mem_cons_of_mem _ hy)
theorem minL_mem : ∀ l : List Str, l ≠ [] → minL l ∈ l
  | [], h => absurd rfl h
  | x :: r, _ => (minS_spec r x).1
theorem minL_le : ∀ {l : List Str} {y : Str}, y ∈ l → leS (minL l) y = true
  | [], _, h => by cases h
  | x :: r, y, h => (minS_spec r x).2 y h
theorem minL_one (l l' : List Str) (h : ∀ x, x ∈ l ↔ x ∈ l') : minL l = minL l' := by
  match l, l', h with
  | [], [], _ => rfl
  | [], y :: r, h => exact absurd ((h y).mpr List.mem_cons_self) (by simp)
  | x :: r, [], h => exact absurd ((h x).mp List.mem_cons_self) (by simp)
  | x :: r, y :: r', h =>
    exact leS_anti (minL_le ((h _).mpr (minL_mem (y :: r') (by simp)))) (minL_le ((h _).mp (minL_mem (x :: r) (by simp))))
theorem minL_of {l : List Str} {x : Str} (hx : x ∈ l) (h : ∀ y ∈ l, leS x y = true) : x = minL l :=
  leS_anti (h _ (minL_mem l (List.ne_nil_of_mem hx))) (minL_le hx)
/-- the first best place -/
theorem bestK_le {kz : List PyData} (hn : kz ≠ []) : bestK kz < kz.length ∧ ∀ i, i < kz.length → PySem.W.dataLt (kz.getD i .none) (kz.getD (bestK kz) .none) = false := by
  have hl : 0 < kz.length := List.length_pos_iff.mpr hn
  have key : ∀ k, argBest (fun i j => PySem.W.dataLt (kz.getD i .none) (kz.getD j .none)) k ≤ k ∧ ∀ i, i ≤ k → PySem.W.dataLt (kz.getD i .none) (kz.getD (argBest (fun i j => PySem.W.dataLt (kz.getD i .none) (kz.getD j .none)) k) .none) = false := fun k => by
    induction k with
    | zero => exact ⟨Nat.le_refl _, fun i hi => by obtain rfl : i = 0 := by omega
                                                   exact dlt_irr _⟩
    | succ k ih =>
      unfold argBest
      by_cases c : PySem.W.dataLt (kz.getD (k + 1) .none) (kz.getD (argBest (fun i j => PySem.W.dataLt (kz.getD i .none) (kz.getD j .none)) k) .none) = true
      · rw [if_pos c]
        refine ⟨Nat.le_refl _, fun i hi => ?_⟩
        by_cases q : i = k + 1
        · rw [q]; exact dlt_irr _
        · exact dlt_neg (dlt_asym c) (ih.2 i (by omega))
      · rw [if_neg c]
        refine ⟨Nat.le_succ_of_le ih.1, fun i hi => ?_⟩
        by_cases q : i = k + 1
        · rw [q]
          exact Bool.eq_false_iff.mpr c
        · exact ih.2 i (by omega)
  obtain ⟨h1, h2⟩ := key (kz.length - 1)
  unfold bestK
  exact ⟨by omega, fun i hi => h2 i (by omega)⟩
/-! ### a dict that is filled with pairs of unlike keys -/
theorem lk_put (m : Dm) (k v k' : Int) : lkI (putI m k v) k' = if k' = k then some v else lkI m k' := by
  unfold putI
  by_cases c : (m.any fun p => decide (p.1 = k)) = true
  · rw [if_pos c]
    unfold lkI
    rw [List.find?_map, Option.map_map]
    have e1 : ((fun p : Int × Int => decide (p.1 = k')) ∘ fun p => if p.1 = k then (p.1, v) else p) = fun p => decide (p.1 = k') := by
      funext p
      by_cases h : p.1 = k <;> simp [h]
    rw [e1]
    by_cases hk : k' = k
    · rw [if_pos hk]
      subst hk
      obtain ⟨p, hp, hp2⟩ := List.any_eq_true.mp c
      cases q : m.find? (fun p => decide (p.1 = k')) with
      | none => exact absurd hp2 (by simpa using List.find?_eq_none.mp q p hp)
      | some r =>
        have := List.find?_some q
        simp only [decide_eq_true_eq] at this
        simp [this]
    · rw [if_neg hk]
      cases q : m.find? (fun p => decide (p.1 = k')) with
      | none => rfl
      | some r =>
        have := List.find?_some q
        simp only [decide_eq_true_eq] at this
        have hr : ¬ r.1 = k := fun z => hk (by rw [← this, z])
        simp [hr]
  · rw [if_neg c]
    unfold lkI
    rw [List.find?_append]
    by_cases hk : k' = k
    · rw [if_pos hk]
      subst hk
      have : m.find? (fun p => decide (p.1 = k')) = none := List.find?_eq_none.mpr fun p hp h => c (List.any_eq_true.mpr ⟨p, hp, h⟩)
      rw [this]
      simp
    · rw [if_neg hk]
      have hk' : ¬ k = k' := fun z => hk z.symm
      cases q : m.find? (fun p => decide (p.1 = k')) with
      | none => simp [hk']
      | some r => simp
def fill (m : Dm) (L : List (Nat × Nat)) : Dm := L.foldl (fun m p => putI m p.1 p.2) m
theorem fill_app (m : Dm) (L M : List (Nat × Nat)) : fill m (L ++ M) = fill (fill m L) M := List.foldl_append
theorem fill_old : ∀ {L : List (Nat × Nat)} {m : Dm} {k : Nat}, k ∉ L.map (·.1) → lkI (fill m L) k = lkI m k
  | [], _, _, _ => rfl
  | p :: L, m, k, h => by
    rw [List.map_cons, List.mem_cons, not_or] at h
    show lkI (fill (putI m p.1 p.2) L) k = _
    rw [fill_old h.2, lk_put, if_neg (by have := h.1; omega)]
theorem fill_at : ∀ {L : List (Nat × Nat)} {m : Dm} {p : Nat × Nat}, (L.map (·.1)).Nodup → p ∈ L → lkI (fill m L) p.1 = some (p.2 : Int)
  | [], _, _, _, h => by cases h
  | q :: L, m, p, nd, h => by
    rw [List.map_cons] at nd
    obtain ⟨n1, n2⟩ := List.nodup_cons.mp nd
    show lkI (fill (putI m q.1 q.2) L) p.1 = _
    rcases List.mem_cons.mp h with rfl | h
    · rw [fill_old n1, lk_put, if_pos rfl]
    · exact fill_at n2 h
theorem put_len (m : Dm) (k v : Int) : (putI m k v).length ≤ m.length + 1 := by
  unfold putI
  split
  · rw [List.length_map]; exact Nat.le_succ _
  · rw [List.length_append]; exact Nat.le_refl _
theorem fill_len : ∀ (L : List (Nat × Nat)) (m : Dm), (fill m L).length ≤ m.length + L.length
  | [], _ => Nat.le_refl _
  | p :: L, m => by
    have h1 := fill_len L (putI m p.1 p.2)
    have h2 := put_len m p.1 p.2
    show (fill (putI m p.1 p.2) L).length ≤ _
    rw [List.length_cons]
    omega
end Mt

namespace Mt
open PySem PySem.Spec PyProof.Rows DL
/-! ### how long texts are; join -/
theorem slen (s : Str) : s.length = (cp s).length := by
  show s.cps.size = s.cps.toList.length
  simp
theorem cat_len : ∀ l : List Str, (cat l).length = (l.map (·.length)).sum
  | [] => rfl
  | x :: r => by
    rw [List.map_cons, List.sum_cons, ← cat_len r, slen, slen, slen]
    show (cp (x ++ cat r)).length = _
    rw [cp_app, List.length_append]
theorem app_len (a b : Str) : (a ++ b).length = a.length + b.length := by
  rw [slen, slen, slen, cp_app, List.length_append]
theorem join_cat (l : List Str) : Txt.join (Str.ofString "") l = cat l := by
  have e : Txt.join (Str.ofString "") l = Str.join (Str.ofString "") l := StrLaws.glued_eq_join _ _
  rw [e]
  refine cp_inj ?_
  rw [cp_cat]
  have e0 : cp (Str.ofString "") = [] := by decide +kernel
  have key : ∀ l : List Str, cp (Str.join (Str.ofString "") l) = (l.map cp).flatten := fun l => by
    induction l with
    | nil => rfl
    | cons x r ih =>
      cases r with
      | nil => show cp x = _; simp
      | cons y r =>
        show cp (x ++ Str.ofString "" ++ Str.join (Str.ofString "") (y :: r)) = _
        rw [cp_app, cp_app, ih, e0, List.append_nil]
        rfl
  exact key l
theorem sum_mono {α : Type} {f g : α → Nat} : ∀ {l : List α}, (∀ a ∈ l, f a ≤ g a) → (l.map f).sum ≤ (l.map g).sum
  | [], _ => Nat.le_refl _
  | a :: l, h => by
    rw [List.map_cons, List.map_cons, List.sum_cons, List.sum_cons]
    exact Nat.add_le_add (h a List.mem_cons_self) (sum_mono fun b hb => h b (List.mem_cons_of_mem _ hb))
theorem sum_le {α : Type} {f : α → Nat} {b : Nat} : ∀ {l : List α}, (∀ a ∈ l, f a ≤ b) → (l.map f).sum ≤ l.length * b
  | [], _ => by simp
  | a :: l, h => by
    rw [List.map_cons, List.sum_cons, List.length_cons, Nat.succ_mul]
    have h1 := h a List.mem_cons_self
    have h2 := sum_le (l := l) fun b hb => h b (List.mem_cons_of_mem _ hb)
    omega
theorem perm_sum {l m : List Nat} (p : l.Perm m) : l.sum = m.sum := by
  induction p with
  | nil => rfl
  | cons x _ ih => rw [List.sum_cons, List.sum_cons, ih]
  | swap x y l => simp only [List.sum_cons]; omega
  | trans _ _ h1 h2 => exact h1.trans h2
theorem cat_srt (l : List Str) : (cat (ssort l)).length = (l.map (·.length)).sum := by
  rw [cat_len]
  exact perm_sum ((ssort_perm l).map _)
theorem B_len {kids : Nat → List Nat} : ∀ {d k : Nat}, En kids d k → (B ssort kids d k).length = 2 * (sub kids d k).length
  | 0, _, h => h.elim
  | d + 1, k, h => by
    have e1 : B ssort kids (d + 1) k = lp ++ cat (ssort ((kids k).map (B ssort kids d))) ++ rp := rfl
    have e2 : sub kids (d + 1) k = k :: (kids k).flatMap (sub kids d) := rfl
    rw [e1, e2, app_len, app_len, cat_srt, List.map_map, List.length_cons, List.length_flatMap]
    have e3 : ((kids k).map ((·.length) ∘ B ssort kids d)).sum = 2 * ((kids k).map fun a => (sub kids d a).length).sum := by
      have h' : ∀ a ∈ kids k, En kids d a := h
      generalize kids k = l at h'
      induction l with
      | nil => rfl
      | cons a l ih =>
        rw [List.map_cons, List.map_cons, List.sum_cons, List.sum_cons, ih fun b hb => h' b (List.mem_cons_of_mem _ hb)]
        show (B ssort kids d a).length + _ = _
        rw [B_len (h' a List.mem_cons_self)]
        omega
    rw [e3]
    show 1 + _ + 1 = _
    omega
section
variable {f : Nat → Nat} {n : Nat}
theorem sub_few (hf : ∀ x, x < n → f x < n) {d k : Nat} (hk : k < n) : (sub (kids f n) d k).length ≤ n := by
  obtain ⟨t, _, l⟩ := lv_ex hf hk
  have := natnodup_len (m := List.range n) (sub_nodup hf (fun k => List.Perm.refl (kids f n k)) (d := d) l) fun x hx => List.mem_range.mpr ((sub_at hf (fun k => List.Perm.refl (kids f n k)) hx).1 hk)
  rwa [List.length_range] at this
theorem T_len (hf : ∀ x, x < n → f x < n) {d k : Nat} (hk : k < n) (h : En (kids f n) d k) : (B ssort (kids f n) d k).length ≤ 2 * n := by
  rw [B_len h]
  have := sub_few hf (d := d) hk
  omega
theorem kids_few (k : Nat) : (kids f n k).length ≤ n := by
  have := (List.filter_sublist (p := fun a => f a == k && !cycB f n a) (l := List.range n)).length_le
  rwa [List.length_range] at this
theorem reps_few : (reps f n).length ≤ n := by
  have := (List.filter_sublist (p := isRep f n) (l := List.range n)).length_le
  rwa [List.length_range] at this
end
end Mt

namespace Mt
open PySem PySem.Spec PyProof.Rows DL
/-! ### rows of things as data -/
def zs (l : List Nat) : List Int := l.map fun (i : Nat) => (i : Int)
theorem zs_mem {l : List Nat} {x : Nat} : ((x : Nat) : Int) ∈ zs l ↔ x ∈ l := by
  unfold zs
  rw [List.mem_map]
  exact ⟨fun ⟨i, hi, e⟩ => by
    have : i = x := by omega
    exact this ▸ hi, fun h => ⟨x, h, rfl⟩⟩
theorem zs_len (l : List Nat) : (zs l).length = l.length := by unfold zs; rw [List.length_map]
theorem zs_app (l m : List Nat) : zs (l ++ m) = zs l ++ zs m := List.map_append
theorem zs_drop (l : List Nat) (i : Nat) : (zs l).drop i = zs (l.drop i) := by unfold zs; rw [List.map_drop]
theorem zs_take (l : List Nat) (i : Nat) : (zs l).take i = zs (l.take i) := by unfold zs; rw [List.map_take]
theorem zs_map (l : List Nat) : (zs l).map PyData.int = l.map fun (i : Nat) => PyData.int (i : Int) := by unfold zs; rw [List.map_map]; rfl
theorem rl_turn {f : Nat → Nat} {x s : Nat} (o : Orb f x 0 s) {j : Nat} (hj : j ≤ s) : (rl f x s).drop j ++ (rl f x s).take j = rl f (itr f j x) s := by
  refine List.ext_getElem (by rw [List.length_append, List.length_drop, List.length_take, rl_len, rl_len]; omega) fun i h1 h2 => ?_
  rw [rl_len] at h2
  have e1 : (rl f (itr f j x) s)[i] = itr f (j + i) x := by
    simp only [rl, List.getElem_map, List.getElem_range]
    rw [← itr_add]
  rw [e1]
  by_cases hi : i < s - j
  · rw [List.getElem_append_left (by rw [List.length_drop, rl_len]; exact hi), List.getElem_drop]
    simp only [rl, List.getElem_map, List.getElem_range]
  · rw [List.getElem_append_right (by rw [List.length_drop, rl_len]; omega), List.getElem_take]
    simp only [rl, List.getElem_map, List.getElem_range, List.length_drop, List.length_map, List.length_range]
    have := orb_mod o (j + i)
    rw [this, Nat.mod_eq_sub_mod (by omega), Nat.mod_eq_of_lt (by omega)]
    congr 1
    omega
theorem rl_getD {f : Nat → Nat} {x s i : Nat} (h : i < s) : (zs (rl f x s)).getD i 0 = ((itr f i x : Nat) : Int) := by
  rw [List.getD_eq_getElem?_getD]
  unfold zs
  rw [List.getElem?_map, rl_get h]
  rfl
section
variable {f : Nat → Nat} {n : Nat}
/-- a ring turned so that its least stands first -/
theorem turn_rep (hf : ∀ x, x < n → f x < n) {x s : Nat} (hx : x < n) (o : Orb f x 0 s) : ∃ m, m ∈ reps f n ∧ (∃ i, itr f i x = m) ∧ (zs (rl f x s)).drop (ixI (zs (rl f x s)) (minI (zs (rl f x s)))) ++ (zs (rl f x s)).take (ixI (zs (rl f x s)) (minI (zs (rl f x s)))) = zs (rl f m (perN f n m)) := by
  haveI : Tabl := ⟨[]⟩
  have hpos := o.pos
  have hne : zs (rl f x s) ≠ [] := fun z => by
    have := congrArg List.length z
    rw [zs_len, rl_len] at this
    simp at this
    omega
  obtain ⟨h1, h2⟩ := minI_spec hne
  have hj := ixI_lt h1
  have hg := ixI_getD h1
  rw [zs_len, rl_len] at hj
  generalize ixI (zs (rl f x s)) (minI (zs (rl f x s))) = j at *
  rw [rl_getD hj] at hg
  have least : ∀ i, itr f j x ≤ itr f i x := fun i => by
    have : ((itr f i x : Nat) : Int) ∈ zs (rl f x s) := zs_mem.mpr ((rl_mem o).mpr ⟨i, rfl⟩)
    have := h2 _ this
    omega
  have oj := orb_shift o j
  have hm : itr f j x < n := itr_lt hf hx j
  refine ⟨itr f j x, (reps_mem hf).mpr ⟨hm, orb_cyc oj, fun i => ?_⟩, ⟨j, rfl⟩, ?_⟩
  · rw [← itr_add]
    exact least _
  · rw [orb_one (per_orb hf hm (orb_cyc oj)) oj, zs_drop, zs_take, ← zs_app, rl_turn o (Nat.le_of_lt hj)]
theorem reps_lt : (reps f n).Pairwise (· < ·) := List.Pairwise.sublist List.filter_sublist List.pairwise_lt_range
/-- the rings in order -/
theorem rings_lt (hf : ∀ x, x < n → f x < n) : ((reps f n).map fun m => zs (rl f m (perN f n m))).Pairwise (· < ·) := by
  refine List.pairwise_map.mpr ((reps_lt (f := f) (n := n)).imp_of_mem fun {a b} ha hb h => ?_)
  obtain ⟨a1, a2, _⟩ := (reps_mem hf).mp ha
  obtain ⟨b1, b2, _⟩ := (reps_mem hf).mp hb
  have pa := (per_orb hf a1 a2).pos
  have pb := (per_orb hf b1 b2).pos
  have head : ∀ m s, 0 < s → ∃ t, zs (rl f m s) = ((m : Nat) : Int) :: t := fun m s hs => by
    obtain ⟨s', rfl⟩ : ∃ s', s = s' + 1 := ⟨s - 1, by omega⟩
    unfold rl zs
    rw [List.range_succ_eq_map, List.map_cons, List.map_cons]
    exact ⟨_, rfl⟩
  obtain ⟨t, e⟩ := head a _ pa
  obtain ⟨t', e'⟩ := head b _ pb
  rw [e, e']
  exact List.Lex.rel (by omega)
theorem kids_ten (hf : ∀ x, x < n → f x < n) (hn : n ≤ 10) {k : Nat} (hk : k < n) : En (kids f n) 10 k := by
  obtain ⟨t, _, l⟩ := lv_ex hf hk
  exact kids_en hf hk l (by omega)
end
/-! ### texts that may be laid -/
def Sok (x : Str) : Prop := PyData.canLay0 (.str x) = true
instance (x : Str) : Decidable (Sok x) := inferInstanceAs (Decidable (_ = true))
theorem sok_iff {x : Str} : Sok x ↔ ∀ c ∈ cp x, c < 1114112 := by
  unfold Sok cp
  show x.cps.all (· < 0x110000) = true ↔ _
  rw [Array.all_eq_true_iff_forall_mem]
  simp
theorem sok_app {x y : Str} (h1 : Sok x) (h2 : Sok y) : Sok (x ++ y) := by
  rw [sok_iff] at *
  intro c hc
  rw [cp_app] at hc
  exact (List.mem_append.mp hc).elim (h1 c) (h2 c)
theorem sok_cat : ∀ {l : List Str}, (∀ x ∈ l, Sok x) → Sok (cat l)
  | [], _ => by decide +kernel
  | x :: r, h => sok_app (h x List.mem_cons_self) (sok_cat fun y hy => h y (List.mem_cons_of_mem _ hy))
theorem sok_B {kids : Nat → List Nat} : ∀ {d k : Nat}, Sok (B ssort kids d k)
  | 0, _ => (by decide +kernel : Sok Str.empty)
  | d + 1, k => sok_app (sok_app (by decide +kernel : Sok lp) (sok_cat fun x hx => by
      obtain ⟨a, _, rfl⟩ := List.mem_map.mp ((ssort_perm _).mem_iff.mp hx)
      exact sok_B)) (by decide +kernel : Sok rp)
section
variable {f : Nat → Nat} {n : Nat} {T : Nat → Str}
theorem sok_Wt (h : ∀ k, Sok (T k)) {s r : Nat} : Sok (Wt f T s r) := sok_cat fun x hx => by
  obtain ⟨a, _, rfl⟩ := List.mem_map.mp hx
  exact h a
theorem sok_min {l : List Str} (h : ∀ x ∈ l, Sok x) : Sok (minL l) := by
  by_cases e : l = []
  · rw [e]
    exact (by decide +kernel : Sok Str.empty)
  · exact h _ (minL_mem l e)
theorem sok_RT (h : ∀ k, Sok (T k)) {m : Nat} : Sok (RT minL f n T m) :=
  sok_app (sok_app (by decide +kernel : Sok lb) (sok_min fun x hx => by
    obtain ⟨a, _, rfl⟩ := List.mem_map.mp hx
    exact sok_Wt h)) (by decide +kernel : Sok rb)
theorem sok_PT {D : Nat} : Sok (PT ssort minL f n D) := sok_cat fun x hx => by
  obtain ⟨a, _, rfl⟩ := List.mem_map.mp ((ssort_perm _).mem_iff.mp hx)
  exact sok_RT fun k => sok_B
/-! ### how long -/
theorem sum_len_le {α : Type} {g : α → Str} {l : List α} {b : Nat} (h : ∀ a ∈ l, (g a).length ≤ b) : (cat (l.map g)).length ≤ l.length * b := by
  rw [cat_len, List.map_map]
  exact sum_le h
theorem Wt_len (h : ∀ k, k < n → (T k).length ≤ 2 * n) (hf : ∀ x, x < n → f x < n) {s r : Nat} (hr : r < n) : (Wt f T s r).length ≤ s * (2 * n) := by
  have := sum_len_le (g := T) (l := rl f r s) (b := 2 * n) fun a ha => h a (rl_lt hf hr a ha)
  rwa [rl_len] at this
theorem per_le (hf : ∀ x, x < n → f x < n) {m : Nat} (hm : m < n) (c : Cyc f m) : perN f n m ≤ n := by
  have nd := rl_nodup (per_orb hf hm c)
  have := natnodup_len nd (m := List.range n) fun x hx => List.mem_range.mpr (rl_lt hf hm x hx)
  rwa [rl_len, List.length_range] at this
theorem RT_len (h : ∀ k, k < n → (T k).length ≤ 2 * n) (hf : ∀ x, x < n → f x < n) {m : Nat} (hm : m ∈ reps f n) : (RT minL f n T m).length ≤ 2 + n * (2 * n) := by
  obtain ⟨h1, h2, _⟩ := (reps_mem hf).mp hm
  have hp := (per_orb hf h1 h2).pos
  have hle := per_le hf h1 h2
  unfold RT
  rw [app_len, app_len]
  have hne : (rl f m (perN f n m)).map (Wt f T (perN f n m)) ≠ [] := fun z => by
    have := congrArg List.length z
    rw [List.length_map, rl_len] at this
    simp at this
    omega
  obtain ⟨r, hr, e⟩ := List.mem_map.mp (minL_mem _ hne)
  rw [← e]
  have a := Wt_len h hf (s := perN f n m) (rl_lt hf h1 r hr)
  have b : perN f n m * (2 * n) ≤ n * (2 * n) := Nat.mul_le_mul_right _ hle
  have c1 : lb.length = 1 := rfl
  have c2 : rb.length = 1 := rfl
  omega
end
/-! ### what the built-ins answer -/
theorem join_ok {xs : List Str} (h : (cat xs).length ≤ 1000000) : gJoin (.str (Str.ofString "")) (.list (xs.map .str)) = some (.str (cat xs)) := by
  haveI : Tabl := ⟨[]⟩
  rw [cat_len] at h
  have e : (Str.ofString "").length = 0 := rfl
  simp only [gJoin, strsD_map, Option.bind_some, e, Nat.mul_zero, Nat.add_zero]
  rw [if_pos h, join_cat]
theorem sortS_ok {xs : List Str} (h : xs.length < 64) : gSortS [.list (xs.map .str)] = some (.list ((ssort xs).map .str)) := by
  haveI : Tabl := ⟨[]⟩
  simp only [gSortS, strsD_map, Option.bind_some]
  rw [if_pos h]
theorem minS_ok {xs : List Str} (h : xs ≠ []) : gMinS [.list (xs.map .str)] = some (.str (minL xs)) := by
  haveI : Tabl := ⟨[]⟩
  simp only [gMinS, strsD_map, Option.bind_some]
  cases xs with
  | nil => exact absurd rfl h
  | cons x r => rfl
theorem keysF_of {α : Type} {fb : Fn} {cap : Rho} {w k : α → PyData} : ∀ {l : List α}, (∀ a ∈ l, fb (some (w a) :: cap) = some (k a)) → keysF fb cap (l.map w) = some (l.map k)
  | [], _ => rfl
  | a :: l, h => by
    rw [List.map_cons]
    unfold keysF
    rw [h a List.mem_cons_self, keysF_of fun b hb => h b (List.mem_cons_of_mem _ hb)]
    rfl
theorem keysOk_of {α : Type} {l : List α} {T : α → Str} {e : α → PyData} (hT : ∀ a ∈ l, Sok (T a)) (he : ∀ a ∈ l, (e a).canLay0 = true ∧ (e a).depth ≤ 40) (hal : ∀ a ∈ l, ∀ b ∈ l, PySem.W.alike (e a) (e b) = true) : keysOk (l.map fun a => tkey (T a) (e a)) = true := by
  unfold keysOk
  rw [Bool.and_eq_true, List.all_eq_true, List.all_eq_true]
  refine ⟨fun x hx => ?_, fun x hx => ?_⟩
  · obtain ⟨a, ha, rfl⟩ := List.mem_map.mp hx
    obtain ⟨h1, h2⟩ := he a ha
    have h3 : PyData.canLay0 (.str (T a)) = true := hT a ha
    rw [Bool.and_eq_true, Bool.and_eq_true, decide_eq_true_eq]
    refine ⟨?_, ?_, rfl⟩
    · unfold tkey
      simp only [PyData.canLay0, PyData.canLayAll0, h1] at h3 ⊢
      simp [h3]
    · unfold tkey
      simp only [PyData.depth, PyData.depthAll]
      omega
  · obtain ⟨a, ha, rfl⟩ := List.mem_map.mp hx
    rw [List.all_eq_true]
    intro y hy
    obtain ⟨b, hb, rfl⟩ := List.mem_map.mp hy
    have := hal a ha b hb
    unfold tkey
    simp [PySem.W.alike, PySem.W.alikeAll, this]
theorem sortKey_of {α : Type} {js : List Nat} {fb : Fn} {f : Rho → Option PyData} {ρ : Rho} {w : α → PyData} {T : α → Str} {e : α → PyData} {l : List α} (h : f ρ = some (.list (l.map w))) (hk : ∀ a ∈ l, fb (some (w a) :: capR ρ js) = some (tkey (T a) (e a)))
    (hT : ∀ a ∈ l, Sok (T a)) (he : ∀ a ∈ l, (e a).canLay0 = true ∧ (e a).depth ≤ 40) (hal : ∀ a ∈ l, ∀ b ∈ l, PySem.W.alike (e a) (e b) = true) (hl : l.length ≤ 100000) : gSortKey js fb f ρ = some ((skG T e l).map w) := by
  unfold gSortKey
  rw [h, Option.bind_some]
  simp only []
  rw [keysF_of hk, Option.bind_some, if_pos ⟨keysOk_of hT he hal, by rw [List.length_map]; exact hl⟩, keyed_map]
  rfl
def bestI (T : Nat → Str) (s : Nat) : Nat := bestK ((List.range s).map fun i => tkey (T i) (.int (i : Nat)))
theorem minKey_of {js : List Nat} {fb fa : Fn} {ρ : Rho} {s : Nat} {T : Nat → Str} (h : fa ρ = some (.int (s : Nat))) (hs : 1 ≤ s ∧ s ≤ 1000) (hk : ∀ i, i < s → fb (some (.int (i : Nat)) :: capR ρ js) = some (tkey (T i) (.int (i : Nat)))) (hT : ∀ i, i < s → Sok (T i)) : gMinKey js fb fa ρ = some (.int (bestI T s : Nat)) := by
  unfold gMinKey
  rw [h, Option.bind_some]
  simp only []
  have e : upInts ((s : Nat) : Int).toNat = (List.range s).map fun (i : Nat) => PyData.int (i : Nat) := by
    rw [Int.toNat_natCast]
    rfl
  rw [if_pos (by omega), e, keysF_of (k := fun i => tkey (T i) (.int (i : Nat))) fun i hi => hk i (List.mem_range.mp hi), Option.bind_some, if_pos]
  · rfl
  · exact keysOk_of (fun i hi => hT i (List.mem_range.mp hi)) (fun i _ => ⟨by simp [PyData.canLay0], by simp [PyData.depth]⟩) fun i _ j _ => by simp [PySem.W.alike]
theorem bestI_ok {T : Nat → Str} {s : Nat} (hs : 0 < s) : bestI T s < s ∧ T (bestI T s) = minL ((List.range s).map T) := by
  have hne : (List.range s).map (fun i => tkey (T i) (.int (i : Nat))) ≠ [] := fun z => by
    have := congrArg List.length z
    simp at this
    omega
  obtain ⟨h1, h2⟩ := bestK_le hne
  have h1 : bestI T s < s := by
    have : bestI T s < ((List.range s).map fun i => tkey (T i) (.int (i : Nat))).length := h1
    rwa [List.length_map, List.length_range] at this
  refine ⟨h1, minL_of (List.mem_map_of_mem (List.mem_range.mpr h1)) fun y hy => ?_⟩
  obtain ⟨i, hi, rfl⟩ := List.mem_map.mp hy
  have hi := List.mem_range.mp hi
  have := h2 i (by rw [List.length_map, List.length_range]; exact hi)
  have at1 : ∀ j, j < s → ((List.range s).map fun i => tkey (T i) (.int (i : Nat))).getD j .none = tkey (T j) (.int (j : Nat)) := fun j hj => by
    rw [List.getD_eq_getElem?_getD, List.getElem?_map, List.getElem?_range hj]
    rfl
  rw [at1 i hi] at this
  have e2 : bestK ((List.range s).map fun i => tkey (T i) (.int (i : Nat))) = bestI T s := rfl
  rw [e2, at1 _ h1] at this
  exact tkey_le this
/-- where the text is least -/
def btI (f : Nat → Nat) (n : Nat) (T : Nat → Str) (m : Nat) : Nat := itr f (bestI (fun i => Wt f T (perN f n m) (itr f i m)) (perN f n m)) m
theorem bt_best {f : Nat → Nat} {n : Nat} (hf : ∀ x, x < n → f x < n) (T : Nat → Str) : Best minL f n T (btI f n T) := fun m hm => by
  obtain ⟨h1, h2, _⟩ := (reps_mem hf).mp hm
  have hp := (per_orb hf h1 h2).pos
  obtain ⟨a, b⟩ := bestI_ok (T := fun i => Wt f T (perN f n m) (itr f i m)) hp
  refine ⟨_, rfl, ?_⟩
  unfold btI
  rw [b]
  congr 1
  unfold rl
  rw [List.map_map]
  rfl
end Mt

namespace Mt
open PySem PySem.Spec PyProof.Rows DL
/-! ### all rows of numbers, each once -/
def putEach (k : Nat) (r : List Nat) : List (List Nat) := (List.range (r.length + 1)).map fun i => r.take i ++ [k] ++ r.drop i
def permsN : Nat → List (List Nat)
  | 0 => [[]]
  | k + 1 => (permsN k).flatMap (putEach k)
theorem put_perm {n : Nat} (l r : List Nat) : (l ++ [n] ++ r).Perm (List.range (n + 1)) ↔ (l ++ r).Perm (List.range n) := by
  rw [List.range_succ]
  have a : (l ++ [n] ++ r).Perm ((l ++ r) ++ [n]) := by
    rw [List.append_assoc, List.append_assoc]
    exact List.Perm.append_left l List.perm_append_comm
  exact ⟨fun h => (List.perm_append_right_iff [n]).mp (a.symm.trans h), fun h => a.trans (h.append_right [n])⟩
theorem permsN_mem : ∀ {n : Nat} {p : List Nat}, p ∈ permsN n ↔ p.Perm (List.range n)
  | 0, p => by
    show p ∈ [[]] ↔ _
    rw [List.mem_singleton, List.range_zero, List.perm_nil]
  | n + 1, p => by
    show p ∈ (permsN n).flatMap (putEach n) ↔ _
    rw [List.mem_flatMap]
    constructor
    · rintro ⟨q, hq, hp⟩
      obtain ⟨i, _, rfl⟩ := List.mem_map.mp hp
      rw [put_perm, List.take_append_drop]
      exact permsN_mem.mp hq
    · intro h
      have hn : n ∈ p := h.mem_iff.mpr (List.mem_range.mpr (Nat.lt_succ_self n))
      obtain ⟨l, r, rfl⟩ := List.append_of_mem hn
      rw [show l ++ n :: r = l ++ [n] ++ r by simp, put_perm] at h
      refine ⟨l ++ r, permsN_mem.mpr h, List.mem_map.mpr ⟨l.length, List.mem_range.mpr (by rw [List.length_append]; omega), ?_⟩⟩
      simp
theorem permsN_len : ∀ n : Fin 6, (permsN n.val).length ≤ 120 := by decide +kernel
theorem permsN_row {n : Nat} {p : List Nat} (h : p ∈ permsN n) : p.length = n := by
  have := (permsN_mem.mp h).length_eq
  rwa [List.length_range] at this
theorem row_fn {n : Nat} {p : List Nat} (h : p.length = n) : (List.range n).map (fun i => p.getD i 0) = p := by
  subst h
  refine List.ext_getElem (by rw [List.length_map, List.length_range]) fun i h1 h2 => ?_
  rw [List.getElem_map, List.getElem_range, List.getD_eq_getElem?_getD, List.getElem?_eq_getElem h2]
  rfl
theorem Iso.congr {n : Nat} {f f' π π' : Nat → Nat} (hf : ∀ x, x < n → f x < n) (h : ∀ i, i < n → π i = π' i) (I : Iso n f f' π) : Iso n f f' π' where
  perm := by
    have := I.perm
    rwa [List.map_congr_left fun i hi => h i (List.mem_range.mp hi)] at this
  led x hx := by
    have := I.led x hx
    rwa [h x hx, h (f x) (hf x hx)] at this
/-! ### rows of numbers from data -/
theorem zs_back {l : List Int} {p : List Nat} (h : l.Perm (zs p)) : zs (l.map Int.toNat) = l ∧ (l.map Int.toNat).Perm p := by
  have e1 : ∀ q : List Nat, (zs q).map Int.toNat = q := fun q => by
    unfold zs
    rw [List.map_map]
    exact List.map_id' q
  refine ⟨?_, ?_⟩
  · have : ∀ x ∈ l, ((x.toNat : Nat) : Int) = x := fun x hx => by
      obtain ⟨i, _, e⟩ := List.mem_map.mp (h.mem_iff.mp hx)
      have e : (i : Int) = x := e
      omega
    unfold zs
    rw [List.map_map]
    conv => rhs; rw [← List.map_id l]
    exact List.map_congr_left this
  · have := h.map Int.toNat
    rwa [e1] at this
theorem isort_row {n : Nat} {p : List Nat} (h : p.Perm (List.range n)) : isort (zs p) = idr n := by
  haveI : Tabl := ⟨[]⟩
  refine (isort_of (ys := idr n) ?_ ?_).symm
  · exact (h.map fun (i : Nat) => (i : Int)).symm
  · exact (idr_lt n).imp fun h => by omega
/-! ### the texts of the maps of three things -/
def sIn (x : Str) : List Str → List Str
  | [] => [x]
  | y :: r => if leS x y then x :: y :: r else y :: sIn x r
def sIns : List Str → List Str
  | [] => []
  | x :: r => sIn x (sIns r)
theorem sIn_perm (x : Str) : ∀ l : List Str, (sIn x l).Perm (x :: l)
  | [] => List.Perm.refl _
  | y :: r => by
    unfold sIn
    by_cases c : leS x y = true
    · rw [if_pos c]
    · rw [if_neg c]
      exact ((sIn_perm x r).cons y).trans (List.Perm.swap x y r)
theorem sIns_perm : ∀ l : List Str, (sIns l).Perm l
  | [] => List.Perm.refl _
  | x :: r => (sIn_perm x _).trans ((sIns_perm r).cons x)
theorem sIn_pair (x : Str) : ∀ {l : List Str}, l.Pairwise (fun a b => leS a b = true) → (sIn x l).Pairwise fun a b => leS a b = true
  | [], _ => List.pairwise_singleton _ _
  | y :: r, h => by
    obtain ⟨h1, h2⟩ := List.pairwise_cons.mp h
    unfold sIn
    by_cases c : leS x y = true
    · rw [if_pos c]
      refine List.pairwise_cons.mpr ⟨fun z hz => ?_, h⟩
      rcases List.mem_cons.mp hz with rfl | hz
      · exact c
      · exact leS_trans c (h1 z hz)
    · rw [if_neg c]
      have c' : leS y x = true := (leS_total x y).resolve_left c
      refine List.pairwise_cons.mpr ⟨fun z hz => ?_, sIn_pair x h2⟩
      rcases List.mem_cons.mp ((sIn_perm x r).mem_iff.mp hz) with rfl | hz
      · exact c'
      · exact h1 z hz
theorem sIns_pair : ∀ l : List Str, (sIns l).Pairwise fun a b => leS a b = true
  | [] => List.Pairwise.nil
  | x :: r => sIn_pair x (sIns_pair r)
theorem ssort_ins : ssort = sIns := funext fun l => pair_one ((ssort_perm l).trans (sIns_perm l).symm) (ssort_pair l) (sIns_pair l)
def ext3 (m : Nat) (r : List Int) : List (List Int) := (List.range m).map fun (i : Nat) => r ++ [(i : Int)]
def rows3 (m : Nat) : Nat → List (List Int)
  | 0 => [[]]
  | n + 1 => (rows3 m n).flatMap (ext3 m)
def txt3 (r : List Int) : Str := PT sIns minL (fun x => (r.getD x 0).toNat) 3 10
theorem seven : (fmS ((rows3 3 3).map txt3) 27).length = 7 := by decide +kernel
end Mt

namespace Lw
open PySem PySem.Spec PyProof.Rows L2 DL
variable [Tabl]
theorem while_t {c : Rho → Option Bool} {b : Gn} {n : Nat} {ρ ρ' : Rho} (h1 : c ρ = some true) (h2 : b ρ = some (.nx ρ')) : whileF c b (n + 1) ρ = whileF c b n ρ' := by
  show (c ρ).bind _ = _
  rw [h1, Option.bind_some, if_pos rfl, h2, Option.bind_some]
theorem while_f {c : Rho → Option Bool} {b : Gn} {n : Nat} {ρ : Rho} (h1 : c ρ = some false) : whileF c b (n + 1) ρ = some (.nx ρ) := by
  show (c ρ).bind _ = _
  rw [h1, Option.bind_some, if_neg Bool.false_ne_true]
end Lw
namespace Lw
open PySem PySem.Spec PyProof.Rows L2 DL
variable [Tabl]
/-! ### what the law's own helpers reckon (the same in every law) -/
theorem mix_eq {c p m : Int} (hp : 0 < p) (hm : 0 < m) : phi__law_mix [.int c, .int p, .int m] = some (.ok (.int (c * 48271 % p % m))) := by
  have h1 : MulOk c 48271 := .inl (.inr ⟨by omega, by omega⟩)
  simp [phi__law_mix, g__law_mix, g__law_mix_0, hp, hm, h1]
theorem mix_lt {c p m : Int} (hm : 0 < m) : 0 ≤ c * 48271 % p % m ∧ c * 48271 % p % m < m := ⟨Int.emod_nonneg _ (by omega), Int.emod_lt_of_pos _ hm⟩
/-- a row of many numbers below to -/
structure Vr (many to : Int) (r : List Int) : Prop where
  len : 0 < to → (r.length : Int) = many
  nil : to ≤ 0 → r = []
  lt : ∀ x ∈ r, 0 ≤ x ∧ x < to
theorem eqv_int (i j : Int) : PyData.eqv (.int i) (.int j) = decide (i = j) := by
  show (i == j) = _
  rw [Bool.beq_eq_decide_eq]
theorem shaped_int (i : Int) : SeqAt.shaped (.int i) = true := by
  simp [SeqAt.shaped, PyData.canLay0, PyData.depth]
abbrev mapRho (c many to : Int) (r : List Int) (x y : Option PyData) : Rho := [some (.int c), some (.int many), some (.int to), some (.list (r.map .int)), x, y]
theorem map_stage1 {c many to : Int} (hm : 0 ≤ many ∧ many ≤ 1000) (ht : 0 ≤ to ∧ to ≤ 1000) : ∃ r, Vr many to r ∧ g__law_map_1 (mapRho c many to [] none none) = some (.nx (mapRho c many to r none none)) := by
  unfold g__law_map_1
  by_cases h : 0 < to
  · rw [if_t (by simp [h])]
    unfold g__law_map_1t0 gAsg fFr
    rw [lc_rg (n := many) (g := fun i => .int ((c + 31 * i) * 48271 % 9973 % to)) rfl (by omega) fun i hi => ?_]
    · refine ⟨(List.range many.toNat).map fun (i : Nat) => (c + 31 * i) * 48271 % 9973 % to, ⟨fun _ => ?_, fun z => absurd h (by omega), fun x hx => ?_⟩, ?_⟩
      · rw [List.length_map, List.length_range]; omega
      · obtain ⟨i, _, rfl⟩ := List.mem_map.mp hx
        exact mix_lt h
      · simp [Function.comp_def]
    · have h1 : MulOk 31 (i : Int) := .inl (.inl ⟨by omega, by omega⟩)
      simp [h1, mix_eq (p := 9973) (by omega) h]
  · rw [if_f (by simp [h])]
    exact ⟨[], ⟨fun z => absurd z h, fun _ => rfl, fun x hx => by cases hx⟩, rfl⟩
theorem cond_eq {c z a b : Int} {ρ : Rho} {i j k : Nat} (hi : ρ[i]? = some (some (.int c))) (hj : ρ[j]? = some (some (.int a))) (hk : ρ[k]? = some (some (.int b))) :
    bAnd (fB (f2 (gEq false) (f2 (gIc (fun _ j => 0 < j) fun i j => i % j) (fVar i) (fC (.int 4))) (fC (.int z)))) (fB (fChain (gIb fun i j => decide (i < j)) (gIb fun i j => decide (i ≤ j)) (fC (.int 0)) (fVar j) (fVar k))) ρ = some (decide (c % 4 = z) && (decide (0 < a) && decide (a ≤ b))) := by
  have e : fVar i ρ = some (.int c) := by unfold fVar; rw [hi]
  have e1 : fVar j ρ = some (.int a) := by unfold fVar; rw [hj]
  have e2 : fVar k ρ = some (.int b) := by unfold fVar; rw [hk]
  unfold bAnd fB f2 fChain
  rw [e, e1, e2]
  simp only [fC, gIc, gEq, gIb, Option.bind_some, shaped_int, and_self, if_true, Bool.false_xor, eqv_int, show (0 : Int) < 4 from by decide]
  cases h1 : decide (c % 4 = z) with
  | false => simp
  | true =>
    cases h2 : decide (0 < a) with
    | false => simp
    | true => simp
theorem cutA_mem {α : Type} {xs : List α} {lo hi : Option Int} {x : α} (h : x ∈ cutA xs lo hi) : x ∈ xs := List.mem_of_mem_drop (List.mem_of_mem_take h)
theorem sIx_of {n d : Nat} {k : Int} (h : 0 ≤ k) : HT.sIx n d (some k) = min k.toNat n := by
  have e : k = ((k.toNat : Nat) : Int) := by omega
  rw [e, HT.sIx_nat]
  rfl
theorem cutA_map {α β : Type} (f : α → β) (xs : List α) (lo hi : Option Int) : cutA (xs.map f) lo hi = (cutA xs lo hi).map f := by
  unfold cutA
  rw [List.length_map, List.map_take, List.map_drop]
theorem cutA_to {α : Type} (xs : List α) {k : Int} (h : 0 ≤ k) : cutA xs none (some k) = xs.take k.toNat := by
  unfold cutA
  rw [HT.sIx_none, List.drop_zero, sIx_of h, Nat.sub_zero]
  by_cases hk : k.toNat ≤ xs.length
  · rw [Nat.min_eq_left hk]
  · rw [Nat.min_eq_right (by omega), List.take_of_length_le (Nat.le_refl _), List.take_of_length_le (by omega)]
theorem cutA_from {α : Type} (xs : List α) {k : Int} (h : 0 ≤ k) : cutA xs (some k) none = xs.drop k.toNat := by
  unfold cutA
  rw [HT.sIx_none, sIx_of h]
  by_cases hk : k.toNat ≤ xs.length
  · rw [Nat.min_eq_left hk, List.take_of_length_le (by rw [List.length_drop]; omega)]
  · rw [Nat.min_eq_right (by omega), List.drop_length, List.take_nil, List.drop_of_length_le (by omega)]
theorem map_stage2 {c many to : Int} {r : List Int} (hm : 0 ≤ many ∧ many ≤ 1000) (ht : 0 ≤ to ∧ to ≤ 1000) (hv : Vr many to r) : ∃ r', Vr many to r' ∧ g__law_map_2 (mapRho c many to r none none) = some (.nx (mapRho c many to r' none none)) := by
  unfold g__law_map_2
  have hc := cond_eq (c := c) (z := 0) (a := to) (b := many) (ρ := mapRho c many to r none none) (i := 0) (j := 2) (k := 1) rfl rfl rfl
  cases h : (decide (c % 4 = 0) && (decide (0 < to) && decide (to ≤ many))) with
  | false => exact ⟨r, hv, by rw [if_f (by rw [hc, h])]; rfl⟩
  | true =>
    rw [if_t (by rw [hc, h])]
    simp only [Bool.and_eq_true, decide_eq_true_eq] at h
    obtain ⟨_, h2, h3⟩ := h
    have h5 : 0 < many := by omega
    have e1 : g__law_map_2t0 (mapRho c many to r none none) = some (.nx (mapRho c many to ((List.range many.toNat).map fun (i : Nat) => (i : Int) % to) none none)) := by
      unfold g__law_map_2t0 gAsg fFr
      rw [lc_rg (n := many) (g := fun i => .int ((i : Int) % to)) rfl (by omega) fun i hi => ?_]
      · simp [Function.comp_def]
      · simp [h2]
    generalize hr1 : (List.range many.toNat).map (fun (i : Nat) => (i : Int) % to) = r1 at e1
    have hl1 : (r1.length : Int) = many := by rw [← hr1, List.length_map, List.length_range]; omega
    have hlt1 : ∀ x ∈ r1, 0 ≤ x ∧ x < to := fun x hx => by
      rw [← hr1] at hx
      obtain ⟨i, _, rfl⟩ := List.mem_map.mp hx
      exact ⟨Int.emod_nonneg _ (by omega), Int.emod_lt_of_pos _ h2⟩
    unfold g__law_map_2t
    rw [blk_nx e1]
    have hk : 0 ≤ c / 4 % many := Int.emod_nonneg _ (by omega)
    have hd : CDiv c 4 := ⟨by decide, by decide⟩
    have e2 : g__law_map_2t1 (mapRho c many to r1 none none) = some (.nx (mapRho c many to (r1.drop (c / 4 % many).toNat ++ r1.take (c / 4 % many).toNat) none none)) := by
      have hsz : r1.length - (c / 4 % many).toNat + min (c / 4 % many).toNat r1.length ≤ 1000000 := by omega
      simp [g__law_map_2t1, hd, h5, cutA_map, cutA_to r1 hk, cutA_from r1 hk, hsz]
    refine ⟨_, ⟨fun _ => ?_, fun z => absurd h2 (by omega), fun x hx => ?_⟩, e2⟩
    · rw [List.length_append, List.length_drop, List.length_take]; omega
    · rcases List.mem_append.mp hx with hx | hx
      · exact hlt1 x (List.mem_of_mem_drop hx)
      · exact hlt1 x (List.mem_of_mem_take hx)
theorem rg_ints (n : Nat) : rgD 0 n = ((List.range n).map fun (i : Nat) => (i : Int)).map PyData.int := by
  rw [rgD_zero, List.map_map]
  rfl
theorem map_stage3 {c many to : Int} {r : List Int} (hm : 0 ≤ many ∧ many ≤ 1000) (ht : 0 ≤ to ∧ to ≤ 1000) (hv : Vr many to r) : ∃ r' y, Vr many to r' ∧ g__law_map_3 (mapRho c many to r none none) = some (.nx (mapRho c many to r' y none)) := by
  unfold g__law_map_3
  have hc := cond_eq (c := c) (z := 1) (a := many) (b := to) (ρ := mapRho c many to r none none) (i := 0) (j := 1) (k := 2) rfl rfl rfl
  cases h : (decide (c % 4 = 1) && (decide (0 < many) && decide (many ≤ to))) with
  | false => exact ⟨r, none, hv, by rw [if_f (by rw [hc, h])]; rfl⟩
  | true =>
    rw [if_t (by rw [hc, h])]
    simp only [Bool.and_eq_true, decide_eq_true_eq] at h
    obtain ⟨_, h2, h3⟩ := h
    have hp : 0 < to := by omega
    have hrg := rg_ints to.toNat
    generalize hL : ((List.range to.toNat).map fun (i : Nat) => (i : Int)) = L at hrg
    have lL : L.length = to.toNat := by rw [← hL, List.length_map, List.length_range]
    have e1 : g__law_map_3t0 (mapRho c many to r none none) = some (.nx (mapRho c many to r (some (.list (L.map .int))) none)) := by
      have hz : 0 ≤ to ∧ to ≤ 1000000 := ⟨by omega, by omega⟩
      simp [g__law_map_3t0, hz, hrg]
    unfold g__law_map_3t
    rw [blk_nx e1]
    have hB : B62 many := ⟨by omega, by omega⟩
    obtain ⟨ys, rest, p1, p2, p3⟩ := popF_ok (j := 5) (iL := 4) (fe := fCall phi__law_mix (fCons (f2 gAdd (fVar 0) (f2 gMulD (fC (.int 7)) (fVar 5))) (fCons (fC (.int 9967)) (fCons (f2 (gI fun i j => i - j) (fVar 2) (fVar 5)) fNil)))) (by decide)
      (ds := rgD 0 many.toNat) (ρ := mapRho c many to r (some (.list (L.map .int))) none) (L := L) rfl (by rw [rgD_len, lL]; omega) (by rw [lL]; omega) (fun i d hd L' hL' => by
        have hi : i < many.toNat := by
          have := (List.getElem?_eq_some_iff.mp hd).1
          rwa [rgD_len] at this
        rw [rgD_get hi] at hd
        cases hd
        have hto : 0 < to - i := by omega
        have h1 : MulOk 7 ((0 : Int) + i) := .inl (.inl ⟨by omega, by omega⟩)
        refine ⟨(c + 7 * (0 + i)) * 48271 % 9967 % (to - (0 + i)), ?_, (mix_lt (by omega)).1, Int.lt_of_lt_of_le (mix_lt (by omega)).2 (by omega)⟩
        simp only [fCall, fCons, f2, fVar, fC, fNil, List.set_cons_succ, List.set_cons_zero, List.getElem?_cons_zero, List.getElem?_cons_succ, Option.bind_some, gAdd, gMulD, gI, if_pos h1]
        rw [mix_eq (by omega) (by omega)]
        rfl)
    refine ⟨ys, none, ⟨fun _ => by rw [p2, rgD_len]; omega, fun z => absurd hp (by omega), fun x hx => ?_⟩, ?_⟩
    · have : x ∈ L := p3.subset (List.mem_append_left _ hx)
      rw [← hL] at this
      obtain ⟨i, hi, rfl⟩ := List.mem_map.mp this
      have := List.mem_range.mp hi
      omega
    · unfold g__law_map_3t1 gSetPop
      have hw : wipeR (mapRho c many to r (some (.list (L.map .int))) none) [5] = mapRho c many to r (some (.list (L.map .int))) none := rfl
      have hi : iR1 (fVar 1) (mapRho c many to r (some (.list (L.map .int))) none) = some (rgD 0 many.toNat) := by simp [hB]
      rw [hi, Option.bind_some, if_pos (by rw [rgD_len]; omega), hw, p1]
      rfl
/-- the law's map: many numbers below to -/
theorem map_eq {c many to : Int} (hm : 0 ≤ many ∧ many ≤ 1000) (ht : 0 ≤ to ∧ to ≤ 1000) : ∃ r, Vr many to r ∧ phi__law_map [.int c, .int many, .int to] = some (.ok (mapD to r)) := by
  obtain ⟨r1, v1, e1⟩ := map_stage1 (c := c) hm ht
  obtain ⟨r2, v2, e2⟩ := map_stage2 (c := c) hm ht v1
  obtain ⟨r3, y, v3, e3⟩ := map_stage3 (c := c) hm ht v2
  refine ⟨r3, v3, ?_⟩
  have e0 : g__law_map_0 [some (.int c), some (.int many), some (.int to), none, none, none] = some (.nx (mapRho c many to [] none none)) := by simp [g__law_map_0]
  have e4 : g__law_map_4 (mapRho c many to r3 y none) = some (.ret (mapD to r3)) := by simp [g__law_map_4, mapD]
  have e : g__law_map [some (.int c), some (.int many), some (.int to), none, none, none] = some (.ret (mapD to r3)) := by
    unfold g__law_map
    rw [blk_nx e0, blk_nx e1, blk_nx e2, blk_nx e3, e4]
  exact def_ret rfl e
theorem cell_eq (ns : List Int) (k : Nat) (hl : ns.length ≤ 63) : phi__law_cell [.dict (scrK ns), .int k] = some (.ok (.int (ns.getD k 0))) := by
  have hlen : (scrK ns).length = ns.length := by unfold scrK; rw [List.length_map]
  by_cases h : k < ns.length
  · have h1 : (k : Int) < (ns.length : Int) := by omega
    have ha : atI (ns.map PyData.int) (k : Int) = some (.int ns[k]) := atI_nat (by rw [List.getElem?_map, List.getElem?_eq_getElem h]; rfl)
    have ha' : atI ((scrK ns).map (·.1)) (k : Int) = some (.int ns[k]) := by rw [scr_fst]; exact ha
    simp [phi__law_cell, g__law_cell, g__law_cell_0, g__law_cell_0t0, g__law_cell_1, hlen, h, ha']
  · simp [phi__law_cell, g__law_cell, g__law_cell_0, g__law_cell_0t0, g__law_cell_1, hlen, h, List.getElem?_eq_none (Nat.le_of_not_lt h)]
theorem sizes_eq (ns : List Int) (k : Nat) (hl : ns.length ≤ 63) : ∃ a b c d : Int, (0 ≤ a ∧ a < 7) ∧ (0 ≤ b ∧ b < 7) ∧ (0 ≤ c ∧ c < 7) ∧ (0 ≤ d ∧ d < 7) ∧ phi__law_sizes [.dict (scrK ns), .int k] = some (.ok (.list [.int a, .int b, .int c, .int d])) := by
  refine ⟨_, _, _, _, mix_lt (c := ns.getD k 0) (p := 9949) (by omega), mix_lt (c := ns.getD k 0) (p := 9941) (by omega), mix_lt (c := ns.getD k 0) (p := 9931) (by omega), mix_lt (c := ns.getD k 0) (p := 9929) (by omega), ?_⟩
  simp [phi__law_sizes, g__law_sizes, g__law_sizes_0, g__law_sizes_1, cell_eq ns k hl, mix_eq]
end Lw
namespace Lw
open PySem PySem.Spec PyProof.Rows L2 DL
variable [Tabl]
theorem Vr.wf {many to : Int} {r : List Int} (h : Vr many to r) (hm : 0 ≤ many ∧ many ≤ 1000) (ht : 0 ≤ to ∧ to ≤ 1000) : Wf (to, r) where
  len := by
    by_cases z : 0 < to
    · have := h.len z; show r.length ≤ 1000; omega
    · rw [h.nil (by omega)]; exact Nat.zero_le _
  rng := ht
  lt := h.lt
theorem mp_eq {c many to : Int} (hm : 0 ≤ many ∧ many ≤ 1000) (ht : 0 ≤ to ∧ to ≤ 1000) : ∃ a : Mp, Wf a ∧ a.1 = to ∧ (a.2.length : Int) ≤ many ∧ (0 < to → (a.2.length : Int) = many) ∧ phi__law_map [.int c, .int many, .int to] = some (.ok (mpD a)) := by
  obtain ⟨r, hv, e⟩ := map_eq (c := c) hm ht
  refine ⟨(to, r), hv.wf hm ht, rfl, ?_, hv.len, e⟩
  by_cases z : 0 < to
  · have := hv.len z; show (r.length : Int) ≤ _; omega
  · rw [hv.nil (by omega)]; exact hm.1
theorem cell_at (ns : List Int) (k : Nat) (hl : ns.length ≤ 63) {i : Int} (h : i = k) : phi__law_cell [.dict (scrK ns), .int i] = some (.ok (.int (ns.getD k 0))) := by
  subst h
  exact cell_eq ns k hl
end Lw
namespace Lw
open PySem PySem.Spec PyProof.Rows L2 DL
variable [Tabl]
theorem must_t : phi_must [.bool true] = some (.ok .none) := by simp [phi_must, g_must, g_must_0, g_must_0t0]
theorem must_f : phi_must [.bool false] = some (.error 2) := by simp [phi_must, g_must, g_must_0, g_must_0t0]
end Lw
namespace Lw
open PySem PySem.Spec PyProof.Rows L2 DL
variable [Tabl]
def nxt (a : Mp) (x : Nat) : Nat := (a.2.getD x 0).toNat
def trc (a : Mp) (k p : Nat) : List Int := (List.range p).map fun i => ((itr (nxt a) i k : Nat) : Int)
/-- a map of things into themselves -/
structure Inn (a : Mp) : Prop where
  wf : Wf a
  same : a.1 = (a.2.length : Nat)
theorem nxt_lt {a : Mp} (h : Inn a) {x : Nat} (hx : x < a.2.length) : nxt a x < a.2.length := by
  have := getD_lt h.wf hx
  have := h.same
  unfold nxt
  omega
theorem trc_succ (a : Mp) (k p : Nat) : trc a k (p + 1) = trc a k p ++ [((itr (nxt a) p k : Nat) : Int)] := by
  unfold trc
  rw [List.range_succ, List.map_append]
  rfl
theorem trc_mem {a : Mp} {k p : Nat} {x : Nat} : ((x : Nat) : Int) ∈ trc a k p ↔ ∃ i, i < p ∧ itr (nxt a) i k = x := by
  unfold trc
  rw [List.mem_map]
  constructor
  · rintro ⟨i, hi, e⟩
    exact ⟨i, List.mem_range.mp hi, by omega⟩
  · rintro ⟨i, hi, e⟩
    exact ⟨i, List.mem_range.mpr hi, by rw [e]⟩
theorem walk_loop {a : Mp} (h : Inn a) {k t s : Nat} (hk : k < a.2.length) (o : Orb (nxt a) k t s) (hp : t + s ≤ 1000) : ∀ (m n i : Nat), m + i = t + s → m < n →
    whileF (fB (f2 (gIn true) (fVar 1) (fVar 2))) g_walk_1b n [some (mpD a), some (.int (itr (nxt a) i k : Nat)), some (.list ((trc a k i).map .int))] = some (.nx [some (mpD a), some (.int (itr (nxt a) (t + s) k : Nat)), some (.list ((trc a k (t + s)).map .int))])
  | 0, n + 1, i, e, _ => by
    have e : i = t + s := by omega
    subst e
    have hin : ((itr (nxt a) (t + s) k : Nat) : Int) ∈ trc a k (t + s) := trc_mem.mpr ⟨t, by have := o.pos; omega, o.back.symm⟩
    exact while_f (by simp [hin])
  | m + 1, n + 1, i, e, hn => by
    have hout : ¬ ((itr (nxt a) i k : Nat) : Int) ∈ trc a k i := fun z => by
      obtain ⟨j, hj, ej⟩ := trc_mem.mp z
      exact o.new j i hj (by omega) ej
    have hx : itr (nxt a) i k < a.2.length := itr_lt (fun x hx => nxt_lt h hx) hk i
    have hrow := ix_row (m := a) hx
    have hnx : a.2.getD (itr (nxt a) i k) 0 = ((itr (nxt a) (i + 1) k : Nat) : Int) := by
      have := getD_lt h.wf hx
      show _ = (((a.2.getD (itr (nxt a) i k) 0).toNat : Nat) : Int)
      omega
    rw [hnx] at hrow
    have hlen : (trc a k i).length < 1000000 := by unfold trc; rw [List.length_map, List.length_range]; omega
    have e1 := walk_loop h hk o hp m n (i + 1) (by omega) (by omega)
    rw [trc_succ, List.map_append] at e1
    rw [while_t (ρ' := [some (mpD a), some (.int (itr (nxt a) (i + 1) k : Nat)), some (.list ((trc a k i).map .int ++ [((itr (nxt a) i k : Nat) : Int)].map .int))]) (by simp [hout]) (by
      generalize itr (nxt a) (i + 1) k = y at *
      generalize itr (nxt a) i k = x at *
      simp [g_walk_1b, g_walk_1b0, g_walk_1b1, hlen, hrow, -gIx_tuple])]
    exact e1
theorem walk_eq {a : Mp} (h : Inn a) {k t s : Nat} (hk : k < a.2.length) (o : Orb (nxt a) k t s) (hp : t + s ≤ 1000) : phi_walk [mpD a, .int (k : Nat)] = some (.ok (.tuple [.list ((trc a k (t + s)).map .int), .int (itr (nxt a) t k : Nat)])) := by
  have e0 : g_walk_0 [some (mpD a), some (.int (k : Nat)), none] = some (.nx [some (mpD a), some (.int (itr (nxt a) 0 k : Nat)), some (.list ((trc a k 0).map .int))]) := by
    simp [g_walk_0, trc, itr]
  have e : g_walk [some (mpD a), some (.int (k : Nat)), none] = some (.ret (.tuple [.list ((trc a k (t + s)).map .int), .int (itr (nxt a) t k : Nat)])) := by
    unfold g_walk
    rw [blk_nx e0, show g_walk_1 = whileF (fB (f2 (gIn true) (fVar 1) (fVar 2))) g_walk_1b 1000000 from rfl, blk_nx (walk_loop h hk o hp (t + s) 1000000 0 (by omega) (by omega)), o.back]
    simp [g_walk_2]
  exact def_ret rfl e
end Lw
namespace Lw
open PySem PySem.Spec PyProof.Rows L2 DL
variable [Tabl]
theorem inner_ok {a : Mp} (h : a.1 = (a.2.length : Nat)) (hp : 0 < a.1) : phi_must_be_inner [mpD a] = some (.ok .none) := by
  have e : g_must_be_inner [some (mpD a)] = some (.nx [some (mpD a)]) := by
    have hp' : 0 < a.2.length := by omega
    simp [g_must_be_inner, g_must_be_inner_0, h, hp', must_t]
  exact def_nx rfl e
theorem inner_no {a : Mp} (h : ¬ (a.1 = (a.2.length : Nat) ∧ 0 < a.1)) : phi_must_be_inner [mpD a] = some (.error 2) := by
  have e : g_must_be_inner [some (mpD a)] = some (.exc 2 [some (mpD a)]) := by
    by_cases h1 : a.1 = (a.2.length : Nat)
    · have h2 : ¬ 0 < a.2.length := fun z => h ⟨h1, by omega⟩
      simp [g_must_be_inner, g_must_be_inner_0, h1, h2, must_f]
    · simp [g_must_be_inner, g_must_be_inner_0, h1, must_f]
  exact def_exc rfl e
theorem trc_len (a : Mp) (k p : Nat) : (trc a k p).length = p := by unfold trc; rw [List.length_map, List.length_range]
theorem trc_get {a : Mp} {k p i : Nat} (h : i < p) : (trc a k p).getD i 0 = ((itr (nxt a) i k : Nat) : Int) := by
  unfold trc
  exact getD_range h
theorem trc_nodup {a : Mp} {k t s : Nat} (o : Orb (nxt a) k t s) : (trc a k (t + s)).Nodup := by
  unfold trc
  refine List.pairwise_iff_getElem.mpr fun i j hi hj hij e => ?_
  rw [List.length_map, List.length_range] at hi hj
  rw [List.getElem_map, List.getElem_map, List.getElem_range, List.getElem_range] at e
  exact o.new i j hij hj (by omega)
theorem trc_ix {a : Mp} {k t s : Nat} (o : Orb (nxt a) k t s) : ixI (trc a k (t + s)) ((itr (nxt a) t k : Nat) : Int) = t := by
  have hp := o.pos
  have := ixI_of (trc_nodup o) (i := t) (by rw [trc_len]; omega)
  rwa [trc_get (by omega)] at this
end Lw
namespace Lw
open PySem PySem.Spec PyProof.Rows L2 DL
variable [Tabl]
/-- a row turned so that its least stands first -/
def rot (l : List Int) : List Int := l.drop (ixI l (minI l)) ++ l.take (ixI l (minI l))
theorem rot_len (l : List Int) : (rot l).length = l.length := by
  unfold rot
  rw [List.length_append, List.length_drop, List.length_take]
  omega
/-- the ring of a thing, from where one comes into it -/
def rg (a : Mp) (k t s : Nat) : List Int := (trc a k (t + s)).drop t
theorem rg_len (a : Mp) (k t s : Nat) : (rg a k t s).length = s := by
  unfold rg
  rw [List.length_drop, trc_len]
  omega
theorem rotD {l : List Int} (hne : l ≠ []) (hl : l.length ≤ 1000) : gIdx (.list (l.map .int)) (.int (minI l)) = some (.int (ixI l (minI l))) := gIdx_list (minI_spec hne).1
theorem ring_eq {a : Mp} (h : Inn a) {k t s : Nat} (hk : k < a.2.length) (o : Orb (nxt a) k t s) (hp : t + s ≤ 1000) : phi_ring [mpD a, .int (k : Nat)] = some (.ok (.tuple ((rot (rg a k t s)).map .int))) := by
  have w := walk_eq h hk o hp
  have i0 := inner_ok h.same (by have := h.same; omega)
  have hm : ((itr (nxt a) t k : Nat) : Int) ∈ trc a k (t + s) := trc_mem.mpr ⟨t, by have := o.pos; omega, rfl⟩
  have g := gIdx_list hm
  rw [trc_ix o] at g
  have hc : cutA (trc a k (t + s)) (some ((t : Nat) : Int)) none = rg a k t s := by
    rw [cutA_from _ (Int.natCast_nonneg t), Int.toNat_natCast]
    rfl
  have hne : rg a k t s ≠ [] := fun z => by
    have := rg_len a k t s
    rw [z] at this
    have := o.pos
    simp at *
    omega
  have hrl := rg_len a k t s
  have hd := rotD hne (by rw [hrl]; omega)
  generalize hR : rg a k t s = r at *
  have c1 := cutA_from r (k := ((ixI r (minI r) : Nat) : Int)) (Int.natCast_nonneg _)
  have c2 := cutA_to r (k := ((ixI r (minI r) : Nat) : Int)) (Int.natCast_nonneg _)
  rw [Int.toNat_natCast] at c1 c2
  have hsz : r.length - ixI r (minI r) + min (ixI r (minI r)) r.length ≤ 1000000 := by omega
  have hrot : rot r = r.drop (ixI r (minI r)) ++ r.take (ixI r (minI r)) := rfl
  generalize trc a k (t + s) = W at *
  generalize itr (nxt a) t k = B at *
  have e0 : g_ring_0 [some (mpD a), some (.int (k : Nat)), none, none, none, none] = some (.nx [some (mpD a), some (.int (k : Nat)), none, none, none, none]) := by
    simp [g_ring_0, i0]
  have e1 : g_ring_1 [some (mpD a), some (.int (k : Nat)), none, none, none, none] = some (.nx [some (mpD a), some (.int (k : Nat)), none, none, some (.list (W.map .int)), some (.int (B : Nat))]) := by
    simp [g_ring_1, w]
  have e2 : g_ring_2 [some (mpD a), some (.int (k : Nat)), none, none, some (.list (W.map .int)), some (.int (B : Nat))] = some (.nx [some (mpD a), some (.int (k : Nat)), some (.list (r.map .int)), none, some (.list (W.map .int)), some (.int (B : Nat))]) := by
    simp [g_ring_2, g, cutA_map, hc]
  have e3 : g_ring_3 [some (mpD a), some (.int (k : Nat)), some (.list (r.map .int)), none, some (.list (W.map .int)), some (.int (B : Nat))] = some (.nx [some (mpD a), some (.int (k : Nat)), some (.list (r.map .int)), some (.int (ixI r (minI r) : Nat)), some (.list (W.map .int)), some (.int (B : Nat))]) := by
    simp [g_ring_3, hd, hne, intsD_map]
  have e : g_ring [some (mpD a), some (.int (k : Nat)), none, none, none, none] = some (.ret (.tuple ((rot r).map .int))) := by
    unfold g_ring
    rw [blk_nx e0, blk_nx e1, blk_nx e2, blk_nx e3, hrot]
    generalize ixI r (minI r) = I at *
    simp [g_ring_4, cutA_map, c1, c2, hsz]
  exact def_ret rfl e
theorem ring_no {a : Mp} {x : Int} (h : ¬ (a.1 = (a.2.length : Nat) ∧ 0 < a.1)) : phi_ring [mpD a, .int x] = some (.error 2) := by
  have i0 := inner_no h
  have e : g_ring [some (mpD a), some (.int x), none, none, none, none] = some (.exc 2 [some (mpD a), some (.int x), none, none, none, none]) := by
    unfold g_ring
    exact blk_exc (by simp [g_ring_0, i0])
  exact def_exc rfl e
end Lw

namespace Lw
open PySem PySem.Spec PyProof.Rows L2 DL Mt
variable [Tabl]
/-! ### branch, rings -/
theorem nxt_eq {a : Mp} (h : Inn a) {x : Nat} (hx : x < a.2.length) : a.2.getD x 0 = ((nxt a x : Nat) : Int) := by
  have := getD_lt h.wf hx
  unfold nxt
  omega
theorem nxt_all {a : Mp} (h : Inn a) : ∀ x, x < a.2.length → nxt a x < a.2.length := fun x hx => nxt_lt h hx
/-- the things of the ring into which k comes -/
def RFor (a : Mp) (I : List Nat) (k : Nat) : Prop := ∀ x, x < a.2.length → (∃ j, itr (nxt a) j x = k) → (x ∈ I ↔ Cyc (nxt a) x)
theorem RFor.kid {a : Mp} {I : List Nat} {k x : Nat} (h : RFor a I k) (e : nxt a x = k) : RFor a I x := fun y hy z => by
  obtain ⟨j, ej⟩ := z
  exact h y hy ⟨j + 1, by show nxt a (itr _ j y) = k; rw [ej, e]⟩
abbrev KD (a : Mp) : Nat → List Nat := kids (nxt a) a.2.length
def kp (a : Mp) (k : Nat) (x : Nat) : Bool := nxt a x == k && !cycB (nxt a) a.2.length x
theorem kp_iff {a : Mp} (h : Inn a) {k x : Nat} (hx : x < a.2.length) : kp a k x = true ↔ nxt a x = k ∧ ¬ Cyc (nxt a) x := by
  unfold kp
  rw [Bool.and_eq_true, beq_iff_eq, Bool.not_eq_true', ← cycB_iff (nxt_all h) hx]
  simp
/-- the test of a thing that hangs at k -/
theorem kp_cond {a : Mp} (h : Inn a) {I : List Nat} {k x : Nat} (hx : x < a.2.length) (hR : RFor a I k) : (decide (a.2.getD x 0 = ((k : Nat) : Int)) && !decide (((x : Nat) : Int) ∈ zs I)) = kp a k x := by
  rw [nxt_eq h hx]
  by_cases e : nxt a x = k
  · have q := hR x hx ⟨1, e⟩
    by_cases c : Cyc (nxt a) x
    · have : kp a k x = false := by
        cases z : kp a k x with
        | false => rfl
        | true => exact absurd c ((kp_iff h hx).mp z).2
      rw [this, decide_eq_true (zs_mem.mpr (q.mpr c))]
      simp
    · rw [(kp_iff h hx).mpr ⟨e, c⟩, decide_eq_false (fun z => c (q.mp (zs_mem.mp z)))]
      simp [e]
  · have : kp a k x = false := by
      cases z : kp a k x with
      | false => rfl
      | true => exact absurd ((kp_iff h hx).mp z).1 e
    rw [this, decide_eq_false (by omega)]
    rfl
theorem cond_ev {ρ : Rho} {i j k l : Nat} {x y z : Int} {I : List Int} (h1 : fVar i ρ = some (.int x)) (h2 : fVar j ρ = some (.int y)) (h3 : fVar k ρ = some (.int z)) (h4 : fVar l ρ = some (.tuple (I.map .int))) : bAnd (fB (f2 (gEq false) (fVar i) (fVar j))) (fB (f2 (gIn true) (fVar k) (fVar l))) ρ = some (decide (x = y) && !decide (z ∈ I)) := by
  simp only [bAnd, fB, f2, h1, h2, h3, h4, Option.bind_some, gEq_int, gIn_ints, Bool.false_xor, Bool.true_xor]
  cases decide (x = y) <;> rfl
theorem branch_eq {a : Mp} (h : Inn a) (hn : a.2.length ≤ 10) {I : List Nat} : ∀ {d k : Nat}, k < a.2.length → En (KD a) d k → RFor a I k → phi_branch d [mpD a, .int (k : Nat), .tuple ((zs I).map .int)] = some (.ok (.str (B ssort (KD a) d k)))
  | 0, k, _, h0, _ => h0.elim
  | d + 1, k, hk, he, hR => by
    have hf := nxt_all h
    have few : ∀ i, i ≤ a.2.length → ((List.range i).filter (kp a k)).length ≤ 10 := fun i hi => by
      have := List.length_filter_le (kp a k) (List.range i)
      rw [List.length_range] at this
      omega
    have loop := for_en (fs := f2 gIx (fVar 0) (fC (.int 1))) (j1 := 4) (j2 := 5) (b := g_branch_1b0 (phi_branch d)) (ρ := [some (mpD a), some (.int (k : Nat)), some (.tuple ((zs I).map .int)), some (.list []), none, none]) (r := a.2) (d := .tuple (a.2.map .int))
      (fun i ρ => i ≤ a.2.length ∧ ∃ o4 o5, ρ = [some (mpD a), some (.int (k : Nat)), some (.tuple ((zs I).map .int)), some (.list ((((List.range i).filter (kp a k)).map (B ssort (KD a) d)).map .str)), o4, o5]) (fun _ => False) (by simp) (.inl rfl) (fun i hi ρ hρ => by
        obtain ⟨_, o4, o5, rfl⟩ := hρ
        refine .inl ⟨[some (mpD a), some (.int (k : Nat)), some (.tuple ((zs I).map .int)), some (.list ((((List.range (i + 1)).filter (kp a k)).map (B ssort (KD a) d)).map .str)), some (.int (i : Nat)), some (.int (a.2.getD i 0))], ?_, hi, _, _, rfl⟩
        have hc := cond_ev (ρ := [some (mpD a), some (.int (k : Nat)), some (.tuple ((zs I).map .int)), some (.list ((((List.range i).filter (kp a k)).map (B ssort (KD a) d)).map .str)), some (.int (i : Nat)), some (.int (a.2.getD i 0))]) (i := 5) (j := 1) (k := 4) (l := 2) rfl rfl rfl rfl
        rw [kp_cond h hi hR] at hc
        rw [List.range_succ, List.filter_append]
        have hlen : ((((List.range i).filter (kp a k)).map (B ssort (KD a) d)).map PyData.str).length < 1000000 := by
          rw [List.length_map, List.length_map]
          have := few i (by omega)
          omega
        show g_branch_1b0 (phi_branch d) [some (mpD a), some (.int (k : Nat)), some (.tuple ((zs I).map .int)), some (.list ((((List.range i).filter (kp a k)).map (B ssort (KD a) d)).map .str)), some (.int (i : Nat)), some (.int (a.2.getD i 0))] = _
        unfold g_branch_1b0
        by_cases hp : kp a k i = true
        · obtain ⟨e1, e2⟩ := (kp_iff h hi).mp hp
          have ih := branch_eq h hn (d := d) (k := i) (I := I) hi (he i ((kids_mem hf).mpr ⟨hi, e1, e2⟩)) (hR.kid e1)
          rw [hp] at hc
          rw [if_t hc, List.filter_cons_of_pos hp, List.filter_nil, List.map_append, List.map_append]
          generalize (((List.range i).filter (kp a k)).map (B ssort (KD a) d)).map PyData.str = W at *
          generalize a.2.getD i 0 = y at *
          simp [g_branch_1b0t0, ih, hlen]
        · rw [Bool.not_eq_true] at hp
          rw [hp] at hc
          rw [if_f hc, List.filter_cons_of_neg (by simp [hp]), List.filter_nil, List.append_nil]
          rfl) ⟨Nat.zero_le _, none, none, rfl⟩
    obtain ⟨ρ', e1, _, o4, o5, rfl⟩ := loop.resolve_right fun ⟨_, _, z⟩ => z
    have e0 : g_branch_0 (phi_branch d) [some (mpD a), some (.int (k : Nat)), some (.tuple ((zs I).map .int)), none, none, none] = some (.nx [some (mpD a), some (.int (k : Nat)), some (.tuple ((zs I).map .int)), some (.list []), none, none]) := by
      simp [g_branch_0]
    have lenB : (B ssort (KD a) (d + 1) k).length ≤ 2 * a.2.length := T_len hf hk he
    have hB : B ssort (KD a) (d + 1) k = lp ++ cat (ssort ((KD a k).map (B ssort (KD a) d))) ++ rp := rfl
    have hfew : ((KD a k).map (B ssort (KD a) d)).length < 64 := by
      rw [List.length_map]
      have := kids_few (f := nxt a) (n := a.2.length) k
      show (kids (nxt a) a.2.length k).length < 64
      omega
    have hK : (List.range a.2.length).filter (kp a k) = KD a k := rfl
    rw [hK] at e1
    rw [hB] at lenB ⊢
    rw [app_len, app_len] at lenB
    have c1 : lp.length = 1 := rfl
    have c2 : rp.length = 1 := rfl
    generalize (KD a k).map (B ssort (KD a) d) = xs at *
    have s := sortS_ok hfew
    have j := join_ok (xs := ssort xs) (by omega)
    have e2 : g_branch_2 (phi_branch d) [some (mpD a), some (.int (k : Nat)), some (.tuple ((zs I).map .int)), some (.list (xs.map .str)), o4, o5] = some (.ret (.str (lp ++ cat (ssort xs) ++ rp))) := by
      have p1 : PyData.str (Str.ofString "(") = .str lp := congrArg PyData.str (by decide +kernel)
      have p2 : PyData.str (Str.ofString ")") = .str rp := congrArg PyData.str (by decide +kernel)
      have a1 : gAdd (.str lp) (.str (cat (ssort xs))) = some (.str (lp ++ cat (ssort xs))) := if_pos (by omega)
      have a2 : gAdd (.str (lp ++ cat (ssort xs))) (.str rp) = some (.str (lp ++ cat (ssort xs) ++ rp)) := if_pos (by rw [app_len]; omega)
      have b : fBi gSortS (fCons (fVar 3) fNil) [some (mpD a), some (.int (k : Nat)), some (.tuple ((zs I).map .int)), some (.list (xs.map .str)), o4, o5] = some (.list ((ssort xs).map .str)) := (bi1 rfl).trans s
      unfold g_branch_2 gRet f2
      rw [b, p1, p2]
      simp only [fC, Option.bind_some]
      rw [j, Option.bind_some, a1, Option.bind_some, a2]
      rfl
    have e : g_branch (phi_branch d) [some (mpD a), some (.int (k : Nat)), some (.tuple ((zs I).map .int)), none, none, none] = some (.ret (.str (lp ++ cat (ssort xs) ++ rp))) := by
      unfold g_branch
      rw [blk_nx e0, show g_branch_1 (phi_branch d) = gFor (iEn (f2 gIx (fVar 0) (fC (.int 1)))) (hSeq 2 (hCons (hName 4) (hCons (hName 5) hNil))) (g_branch_1b0 (phi_branch d)) from rfl, blk_nx e1, e2]
    exact def_ret rfl e
/-- a ring as data -/
def RGd (a : Mp) (m : Nat) : PyData := .tuple ((zs (rl (nxt a) m (perN (nxt a) a.2.length m))).map .int)
theorem rg_rl (a : Mp) (k t s : Nat) : rg a k t s = zs (rl (nxt a) (itr (nxt a) t k) s) := by
  have e : trc a k (t + s) = zs (rl (nxt a) k (t + s)) := by
    unfold trc zs rl
    rw [List.map_map]
    rfl
  unfold rg
  rw [e, zs_drop]
  congr 1
  refine List.ext_getElem (by rw [List.length_drop, rl_len, rl_len]; omega) fun i h1 h2 => ?_
  rw [List.getElem_drop]
  simp only [rl, List.getElem_map, List.getElem_range]
  rw [itr_add]
theorem ring_rep {a : Mp} (h : Inn a) (hn : a.2.length ≤ 10) {k : Nat} (hk : k < a.2.length) : ∃ m, m ∈ reps (nxt a) a.2.length ∧ (∃ i, itr (nxt a) i k = m) ∧ phi_ring [mpD a, .int (k : Nat)] = some (.ok (RGd a m)) := by
  obtain ⟨t, s, o, hl⟩ := orb_ex (nxt_all h) hk
  have e := ring_eq h hk o (by omega)
  obtain ⟨m, hm, ⟨i, hi⟩, em⟩ := turn_rep (nxt_all h) (itr_lt (nxt_all h) hk t) (orb_at0 o)
  refine ⟨m, hm, ⟨t + i, by rw [itr_add, hi]⟩, ?_⟩
  rw [e]
  unfold rot RGd
  rw [rg_rl, em]
theorem rings_eq {a : Mp} (h : Inn a) (hn : a.2.length ≤ 10) (hp : 0 < a.2.length) : phi_rings_of [mpD a] = some (.ok (.list ((reps (nxt a) a.2.length).map (RGd a)))) := by
  have hf := nxt_all h
  obtain ⟨R, hR⟩ : ∃ R : Nat → Nat, ∀ k, k < a.2.length → R k ∈ reps (nxt a) a.2.length ∧ (∃ i, itr (nxt a) i k = R k) ∧ phi_ring [mpD a, .int (k : Nat)] = some (.ok (RGd a (R k))) := by
    have : ∀ k, ∃ m, k < a.2.length → m ∈ reps (nxt a) a.2.length ∧ (∃ i, itr (nxt a) i k = m) ∧ phi_ring [mpD a, .int (k : Nat)] = some (.ok (RGd a m)) := fun k => by
      by_cases hk : k < a.2.length
      · obtain ⟨m, hm⟩ := ring_rep h hn hk
        exact ⟨m, fun _ => hm⟩
      · exact ⟨0, fun z => absurd z hk⟩
    exact ⟨fun k => Classical.choose (this k), fun k => Classical.choose_spec (this k)⟩
  have hs := h.same
  have q := lc_rg (vs := [1]) (j := 1) (fn := f2 gIx (fVar 0) (fC (.int 0))) (f := fCall phi_ring (fCons (fVar 0) (fCons (fVar 1) fNil))) (ρ := [some (mpD a), none]) (n := ((a.2.length : Nat) : Int)) (g := fun k => RGd a (R k)) (by rw [← hs]; simp) (by omega) (fun k hk => by
    have := (hR k (by omega)).2.2
    simp [this])
  rw [Int.toNat_natCast] at q
  have e1 : (List.range a.2.length).map (fun k => RGd a (R k)) = ((List.range a.2.length).map fun k => zs (rl (nxt a) (R k) (perN (nxt a) a.2.length (R k)))).map fun k => .tuple (k.map .int) := by
    rw [List.map_map]
    rfl
  have e2 : rset ((List.range a.2.length).map fun k => zs (rl (nxt a) (R k) (perN (nxt a) a.2.length (R k)))) = (reps (nxt a) a.2.length).map fun m => zs (rl (nxt a) m (perN (nxt a) a.2.length m)) := by
    refine rise_eqR (rset_lt _) (rings_lt hf) fun x => ?_
    rw [rset_mem, List.mem_map, List.mem_map]
    constructor
    · rintro ⟨k, hk, rfl⟩
      exact ⟨R k, (hR k (List.mem_range.mp hk)).1, rfl⟩
    · rintro ⟨m, hm, rfl⟩
      have hm1 := ((reps_mem hf).mp hm).1
      obtain ⟨h1, ⟨i, hi⟩, _⟩ := hR m hm1
      have : R m = m := rep_one hf h1 hm (x := m) (i := i) (j := 0) hi rfl
      exact ⟨m, List.mem_range.mpr hm1, by rw [this]⟩
  have e3 : gSortSetR (.list ((List.range a.2.length).map fun k => RGd a (R k))) = some ((reps (nxt a) a.2.length).map (RGd a)) := by
    rw [e1]
    unfold gSortSetR
    simp only []
    have hne : ∀ k ∈ (List.range a.2.length).map (fun k => zs (rl (nxt a) (R k) (perN (nxt a) a.2.length (R k)))), k ≠ [] := fun k hk => by
      obtain ⟨i, hi, rfl⟩ := List.mem_map.mp hk
      obtain ⟨r1, r2, _⟩ := (reps_mem hf).mp (hR i (List.mem_range.mp hi)).1
      have := (per_orb hf r1 r2).pos
      intro z
      have := congrArg List.length z
      rw [zs_len, rl_len] at this
      simp at this
      omega
    rw [rowsD_map, Option.bind_some, if_pos ⟨by rw [List.length_map, List.length_range]; omega, hne⟩, e2, List.map_map]
    rfl
  have e : g_rings_of [some (mpD a), none] = some (.ret (.list ((reps (nxt a) a.2.length).map (RGd a)))) := by
    unfold g_rings_of g_rings_of_0 gRet
    have : (fun ρ => ((fFr (fLc [1] (iR1 (f2 gIx (fVar 0) (fC (.int 0)))) (hName 1) cYes (fCall phi_ring (fCons (fVar 0) (fCons (fVar 1) fNil))))) ρ).bind gSortSetR) [some (mpD a), none] = some ((reps (nxt a) a.2.length).map (RGd a)) := by
      show (fFr _ _).bind gSortSetR = _
      rw [fFr_of q, Option.bind_some, e3]
    rw [fFr_of this]
    rfl
  exact def_ret rfl e
theorem rfor_rl {a : Mp} (h : Inn a) {m : Nat} (hm : m ∈ reps (nxt a) a.2.length) {k : Nat} (hk : k ∈ rl (nxt a) m (perN (nxt a) a.2.length m)) : RFor a (rl (nxt a) m (perN (nxt a) a.2.length m)) k := fun y hy ⟨j, ej⟩ => by
  have hf := nxt_all h
  obtain ⟨h1, h2, _⟩ := (reps_mem hf).mp hm
  have o := per_orb hf h1 h2
  obtain ⟨i, hi⟩ := (rl_mem o).mp hk
  constructor
  · intro z
    obtain ⟨l, el⟩ := (rl_mem o).mp z
    rw [← el]
    exact cyc_itr h2 l
  · intro c
    obtain ⟨l, el⟩ := cyc_back c j
    exact (rl_mem o).mpr ⟨i + l, by rw [itr_add, hi, ← ej, el]⟩
end Lw

namespace Lw
open PySem PySem.Spec PyProof.Rows L2 DL Mt
variable [Tabl]
/-! ### ring_text, plain, best_turn -/
abbrev TX (a : Mp) : Nat → Str := B ssort (kids (nxt a) a.2.length) 10
abbrev RS (a : Mp) : List Nat := reps (nxt a) a.2.length
abbrev PR (a : Mp) : Nat → Nat := perN (nxt a) a.2.length
abbrev RTa (a : Mp) : Nat → Str := RT minL (nxt a) a.2.length (TX a)
abbrev PTa (a : Mp) : Str := PT ssort minL (nxt a) a.2.length 10
structure Sm (a : Mp) : Prop where
  inn : Inn a
  few : a.2.length ≤ 10
  pos : 0 < a.2.length
theorem Sm.rep {a : Mp} (S : Sm a) {m : Nat} (hm : m ∈ RS a) : m < a.2.length ∧ Cyc (nxt a) m ∧ Orb (nxt a) m 0 (PR a m) ∧ PR a m ≤ 10 := by
  have hf := nxt_all S.inn
  obtain ⟨h1, h2, _⟩ := (reps_mem hf).mp hm
  have := per_le hf h1 h2
  have := S.few
  exact ⟨h1, h2, per_orb hf h1 h2, by show perN _ _ _ ≤ 10; omega⟩
theorem Sm.txt {a : Mp} (S : Sm a) {k : Nat} (hk : k < a.2.length) : (TX a k).length ≤ 2 * a.2.length := T_len (nxt_all S.inn) hk (kids_ten (nxt_all S.inn) S.few hk)
theorem branch_ten {a : Mp} (S : Sm a) {I : List Nat} {k : Nat} (hk : k < a.2.length) (hR : RFor a I k) : phi_branch 10 [mpD a, .int (k : Nat), .tuple ((zs I).map .int)] = some (.ok (.str (TX a k))) :=
  branch_eq S.inn S.few hk (kids_ten (nxt_all S.inn) S.few hk) hR
theorem turn_join {ρ : Rho} {j1 j2 i : Nat} {xs : List Str} (h1 : fVar j1 ρ = some (.list (xs.map .str))) (h2 : fVar j2 ρ = some (.int (i : Nat))) (hx : xs.length ≤ 1000) (hl : (cat (xs.drop i ++ xs.take i)).length ≤ 1000000) :
    f2 gJoin (fC (.str (Str.ofString ""))) (f2 gAdd (fSl (fVar j1) (pSome (fVar j2)) pNone) (fSl (fVar j1) pNone (pSome (fVar j2)))) ρ = some (.str (cat (xs.drop i ++ xs.take i))) := by
  have c1 := cutA_from (xs.map PyData.str) (k := ((i : Nat) : Int)) (Int.natCast_nonneg i)
  have c2 := cutA_to (xs.map PyData.str) (k := ((i : Nat) : Int)) (Int.natCast_nonneg i)
  rw [Int.toNat_natCast] at c1 c2
  have s1 : fSl (fVar j1) (pSome (fVar j2)) pNone ρ = some (.list ((xs.drop i).map .str)) := by
    unfold fSl pSome pNone
    rw [h1, h2]
    show some (PyData.list (cutA (xs.map .str) (some ((i : Nat) : Int)) none)) = _
    rw [c1, List.map_drop]
  have s2 : fSl (fVar j1) pNone (pSome (fVar j2)) ρ = some (.list ((xs.take i).map .str)) := by
    unfold fSl pSome pNone
    rw [h1, h2]
    show some (PyData.list (cutA (xs.map .str) none (some ((i : Nat) : Int)))) = _
    rw [c2, List.map_take]
  have s3 : f2 gAdd (fSl (fVar j1) (pSome (fVar j2)) pNone) (fSl (fVar j1) pNone (pSome (fVar j2))) ρ = some (.list ((xs.drop i ++ xs.take i).map .str)) := by
    show (fSl _ _ _ ρ).bind (fun x => (fSl _ _ _ ρ).bind fun y => gAdd x y) = _
    rw [s1, s2, List.map_append]
    exact if_pos (by rw [List.length_map, List.length_map, List.length_drop, List.length_take]; omega)
  show (some _).bind (fun x => (f2 gAdd _ _ ρ).bind fun y => gJoin x y) = _
  rw [s3]
  exact join_ok hl
/-- the texts of a ring's things -/
theorem texts_eq {a : Mp} (S : Sm a) {m : Nat} (hm : m ∈ RS a) {ρ : Rho} {vs : List Nat} {j i0 i1 : Nat} (h0 : fVar i0 ((wipeR ρ vs)) = some (mpD a)) (h1 : fVar i1 ρ = some (RGd a m)) (h1' : fVar i1 (wipeR ρ vs) = some (RGd a m)) (hj : j < ρ.length) (n0 : j ≠ i0) (n1 : j ≠ i1) :
    fLc vs (iSq (fVar i1)) (hName j) cYes (fCall (phi_branch 10) (fCons (fVar i0) (fCons (fVar j) (fCons (fVar i1) fNil)))) ρ = some (((rl (nxt a) m (PR a m)).map (TX a)).map .str) := by
  obtain ⟨h2, h3, o, h4⟩ := S.rep hm
  have q := lc_sq (vs := vs) (j := j) (fs := fVar i1) (f := fCall (phi_branch 10) (fCons (fVar i0) (fCons (fVar j) (fCons (fVar i1) fNil)))) (ρ := ρ) (w := fun (x : Nat) => PyData.int (x : Nat)) (l := rl (nxt a) m (PR a m)) (g := fun x => .str (TX a x)) (d := RGd a m) h1 (by
      show some _ = _
      rw [zs_map]) (by rw [rl_len]; omega) (fun x hx => by
      have e0 : ∀ {i : Nat}, j ≠ i → fVar i ((wipeR ρ vs).set j (some (.int (x : Nat)))) = fVar i (wipeR ρ vs) := fun {i} hi => by
        unfold fVar
        rw [List.getElem?_set_ne hi]
      have ej : fVar j ((wipeR ρ vs).set j (some (.int (x : Nat)))) = some (.int (x : Nat)) := by
        unfold fVar
        rw [List.getElem?_set_self (by rw [wipeR_length]; exact hj)]
      have := branch_ten S (rl_lt (nxt_all S.inn) h2 x hx) (rfor_rl S.inn hm hx)
      unfold fCall fCons fNil
      rw [e0 n0, e0 n1, ej, h0, h1']
      show (phi_branch 10 [mpD a, .int (x : Nat), RGd a m]).bind _ = _
      rw [show RGd a m = .tuple ((zs (rl (nxt a) m (PR a m))).map .int) from rfl, this]
      rfl)
  rw [q, List.map_map]
  rfl
theorem Wt_turn {a : Mp} (S : Sm a) {m : Nat} (hm : m ∈ RS a) {i : Nat} (hi : i < PR a m) : cat (((rl (nxt a) m (PR a m)).map (TX a)).drop i ++ ((rl (nxt a) m (PR a m)).map (TX a)).take i) = Wt (nxt a) (TX a) (PR a m) (itr (nxt a) i m) := by
  obtain ⟨_, _, o, _⟩ := S.rep hm
  unfold Wt
  rw [← List.map_drop, ← List.map_take, ← List.map_append, rl_turn o (Nat.le_of_lt hi)]
theorem Wt_few {a : Mp} (S : Sm a) {m : Nat} (hm : m ∈ RS a) (i : Nat) : (Wt (nxt a) (TX a) (PR a m) (itr (nxt a) i m)).length ≤ 1000 := by
  have hf := nxt_all S.inn
  obtain ⟨h2, h3, o, h4⟩ := S.rep hm
  have := Wt_len (T := TX a) (n := a.2.length) (fun k hk => S.txt hk) hf (s := PR a m) (r := itr (nxt a) i m) (itr_lt hf h2 i)
  have f := S.few
  have b : PR a m * (2 * a.2.length) ≤ 10 * 20 := Nat.mul_le_mul h4 (by omega)
  omega
theorem rtext_eq {a : Mp} (S : Sm a) {m : Nat} (hm : m ∈ RS a) : phi_ring_text [mpD a, RGd a m] = some (.ok (.str (RTa a m))) := by
  have hf := nxt_all S.inn
  obtain ⟨h2, h3, o, h4⟩ := S.rep hm
  have hpos := o.pos
  have q := texts_eq S hm (ρ := [some (mpD a), some (RGd a m), none, none]) (vs := [3]) (j := 3) (i0 := 0) (i1 := 1) rfl rfl rfl (by show 3 < 4; decide) (by decide) (by decide)
  have e0 : g_ring_text_0 [some (mpD a), some (RGd a m), none, none] = some (.nx [some (mpD a), some (RGd a m), some (.list (((rl (nxt a) m (PR a m)).map (TX a)).map .str)), none]) := by
    unfold g_ring_text_0 gAsg
    rw [fFr_of q]
    rfl
  have lenX : ((rl (nxt a) m (PR a m)).map (TX a)).length = PR a m := by rw [List.length_map, rl_len]
  have q2 := lc_rg (vs := [3]) (j := 3) (fn := fBi gLen (fCons (fVar 2) fNil)) (f := f2 gJoin (fC (.str (PySem.Str.ofString ""))) (f2 gAdd (fSl (fVar 2) (pSome (fVar 3)) pNone) (fSl (fVar 2) pNone (pSome (fVar 3))))) (ρ := [some (mpD a), some (RGd a m), some (.list (((rl (nxt a) m (PR a m)).map (TX a)).map .str)), none]) (n := ((PR a m : Nat) : Int)) (g := fun i => .str (Wt (nxt a) (TX a) (PR a m) (itr (nxt a) i m)))
    ((bi1 rfl).trans (by show some (PyData.int _) = _; rw [List.length_map, lenX])) (by omega) (fun i hi => by
      have hi : i < PR a m := by omega
      rw [← Wt_turn S hm hi]
      refine turn_join rfl rfl (by rw [lenX]; omega) ?_
      rw [Wt_turn S hm hi]
      have := Wt_few S hm i
      omega)
  rw [Int.toNat_natCast] at q2
  have hW : (List.range (PR a m)).map (fun i => PyData.str (Wt (nxt a) (TX a) (PR a m) (itr (nxt a) i m))) = (((rl (nxt a) m (PR a m)).map (Wt (nxt a) (TX a) (PR a m))).map PyData.str) := by
    unfold rl
    rw [List.map_map, List.map_map]
    rfl
  rw [hW] at q2
  have hne : (rl (nxt a) m (PR a m)).map (Wt (nxt a) (TX a) (PR a m)) ≠ [] := fun z => by
    have := congrArg List.length z
    rw [List.length_map, rl_len] at this
    simp at this
    omega
  have hmin := minS_ok hne
  have hlen : (minL ((rl (nxt a) m (PR a m)).map (Wt (nxt a) (TX a) (PR a m)))).length ≤ 1000 := by
    obtain ⟨x, hx, e⟩ := List.mem_map.mp (minL_mem _ hne)
    obtain ⟨i, hi⟩ := (rl_mem o).mp hx
    rw [← e, ← hi]
    exact Wt_few S hm i
  have hRT : RTa a m = lb ++ minL ((rl (nxt a) m (PR a m)).map (Wt (nxt a) (TX a) (PR a m))) ++ rb := rfl
  rw [hRT]
  generalize minL ((rl (nxt a) m (PR a m)).map (Wt (nxt a) (TX a) (PR a m))) = w at *
  have e1 : g_ring_text_1 [some (mpD a), some (RGd a m), some (.list (((rl (nxt a) m (PR a m)).map (TX a)).map .str)), none] = some (.ret (.str (lb ++ w ++ rb))) := by
    have p1 : PyData.str (Str.ofString "[") = .str lb := congrArg PyData.str (by decide +kernel)
    have p2 : PyData.str (Str.ofString "]") = .str rb := congrArg PyData.str (by decide +kernel)
    have c1 : lb.length = 1 := rfl
    have c2 : rb.length = 1 := rfl
    have a1 : gAdd (.str lb) (.str w) = some (.str (lb ++ w)) := if_pos (by omega)
    have a2 : gAdd (.str (lb ++ w)) (.str rb) = some (.str (lb ++ w ++ rb)) := if_pos (by rw [app_len]; omega)
    have b := (bi1 (g := gMinS) (fFr_of q2)).trans hmin
    unfold g_ring_text_1 gRet f2
    rw [p1, p2]
    unfold f2 at b
    rw [b]
    simp only [fC, Option.bind_some]
    rw [a1, Option.bind_some, a2]
    rfl
  have e : g_ring_text [some (mpD a), some (RGd a m), none, none] = some (.ret (.str (lb ++ w ++ rb))) := by
    unfold g_ring_text
    rw [blk_nx e0, e1]
  exact def_ret rfl e
theorem RT_few {a : Mp} (S : Sm a) {m : Nat} (hm : m ∈ RS a) : (RTa a m).length ≤ 300 := by
  have := RT_len (T := TX a) (fun k hk => S.txt hk) (nxt_all S.inn) hm
  have f := S.few
  have b : a.2.length * (2 * a.2.length) ≤ 10 * 20 := Nat.mul_le_mul f (by omega)
  show (RT minL _ _ _ _).length ≤ 300
  omega
theorem plain_eq {a : Mp} (S : Sm a) : phi_plain [mpD a] = some (.ok (.str (PTa a))) := by
  have i0 := inner_ok S.inn.same (by have := S.inn.same; have := S.pos; omega)
  have r0 := rings_eq S.inn S.few S.pos
  have few : (RS a).length ≤ 10 := Nat.le_trans (reps_few (f := nxt a) (n := a.2.length)) S.few
  have q := lc_sq (vs := [1]) (j := 1) (fs := fCall phi_rings_of (fCons (fVar 0) fNil)) (f := fCall phi_ring_text (fCons (fVar 0) (fCons (fVar 1) fNil))) (ρ := [some (mpD a), none]) (w := RGd a) (l := RS a) (g := fun m => .str (RTa a m)) (d := .list ((RS a).map (RGd a))) (by
      unfold fCall fCons fNil
      show (phi_rings_of [mpD a]).bind _ = _
      rw [r0]
      rfl) rfl (by omega) (fun m hm => by
      unfold fCall fCons fNil
      show (phi_ring_text [mpD a, RGd a m]).bind _ = _
      rw [rtext_eq S hm]
      rfl)
  have hq : (RS a).map (fun m => PyData.str (RTa a m)) = ((RS a).map (RTa a)).map .str := by rw [List.map_map]; rfl
  rw [hq] at q
  have s := sortS_ok (xs := (RS a).map (RTa a)) (by rw [List.length_map]; omega)
  have hlen : (cat (ssort ((RS a).map (RTa a)))).length ≤ 1000000 := by
    rw [cat_srt, ← cat_len]
    have := sum_len_le (g := RTa a) (l := RS a) (b := 300) fun m hm => RT_few S hm
    have b : (RS a).length * 300 ≤ 10 * 300 := Nat.mul_le_mul_right _ few
    omega
  have j := join_ok hlen
  have e0 : g_plain_0 [some (mpD a), none] = some (.nx [some (mpD a), none]) := by simp [g_plain_0, i0]
  have e1 : g_plain_1 [some (mpD a), none] = some (.ret (.str (PTa a))) := by
    have b := (bi1 (g := gSortS) (fFr_of q)).trans s
    unfold g_plain_1 gRet
    show ((some _).bind fun x => (fBi gSortS _ _).bind fun y => gJoin x y).bind _ = _
    rw [b, Option.bind_some, Option.bind_some, j]
    rfl
  have e : g_plain [some (mpD a), none] = some (.ret (.str (PTa a))) := by
    unfold g_plain
    rw [blk_nx e0, e1]
  exact def_ret rfl e
theorem plain_no {a : Mp} (h : ¬ (a.1 = (a.2.length : Nat) ∧ 0 < a.1)) : phi_plain [mpD a] = some (.error 2) := by
  have i0 := inner_no h
  have e : g_plain [some (mpD a), none] = some (.exc 2 [some (mpD a), none]) := by
    unfold g_plain
    exact blk_exc (by simp [g_plain_0, i0])
  exact def_exc rfl e
abbrev BT (a : Mp) : Nat → Nat := btI (nxt a) a.2.length (TX a)
theorem best_eq {a : Mp} (S : Sm a) {m : Nat} (hm : m ∈ RS a) : phi_best_turn [mpD a, RGd a m] = some (.ok (.tuple ((zs (rl (nxt a) (BT a m) (PR a m))).map .int))) := by
  have hf := nxt_all S.inn
  obtain ⟨h2, h3, o, h4⟩ := S.rep hm
  have hpos := o.pos
  have q := texts_eq S hm (ρ := [some (mpD a), some (RGd a m), none, none, none]) (vs := [4]) (j := 4) (i0 := 0) (i1 := 1) rfl rfl rfl (by show 4 < 5; decide) (by decide) (by decide)
  have lenX : ((rl (nxt a) m (PR a m)).map (TX a)).length = PR a m := by rw [List.length_map, rl_len]
  have hW := fun i hi => Wt_turn S hm (i := i) hi
  generalize hX : (rl (nxt a) m (PR a m)).map (TX a) = X at *
  have e0 : g_best_turn_0 [some (mpD a), some (RGd a m), none, none, none] = some (.nx [some (mpD a), some (RGd a m), some (.list (X.map .str)), none, none]) := by
    unfold g_best_turn_0 gAsg
    rw [fFr_of q]
    rfl
  have mk := minKey_of (js := [2]) (fb := fTup (fCons (f2 gJoin (fC (.str (PySem.Str.ofString ""))) (f2 gAdd (fSl (fVar 1) (pSome (fVar 0)) pNone) (fSl (fVar 1) pNone (pSome (fVar 0))))) (fCons (fVar 0) fNil))) (fa := fBi gLen (fCons (fVar 1) fNil)) (ρ := [some (mpD a), some (RGd a m), some (.list (X.map .str)), none, none]) (s := PR a m) (T := fun i => Wt (nxt a) (TX a) (PR a m) (itr (nxt a) i m))
    ((bi1 rfl).trans (by show some (PyData.int _) = _; rw [List.length_map, zs_len, rl_len])) (by omega) (fun i hi => by
      have tj := turn_join (ρ := some (.int (i : Nat)) :: capR [some (mpD a), some (RGd a m), some (.list (X.map .str)), none, none] [2]) (j1 := 1) (j2 := 0) (i := i) (xs := X) rfl rfl (by omega) (by rw [hW i hi]; have := Wt_few S hm i; omega)
      rw [hW i hi] at tj
      unfold fTup fCons fNil
      rw [tj]
      rfl) (fun i hi => sok_Wt fun k => sok_B)
  have hlt := (bestI_ok (T := fun i => Wt (nxt a) (TX a) (PR a m) (itr (nxt a) i m)) hpos).1
  have hbt : BT a m = itr (nxt a) (bestI (fun i => Wt (nxt a) (TX a) (PR a m) (itr (nxt a) i m)) (PR a m)) m := rfl
  rw [hbt]
  generalize bestI (fun i => Wt (nxt a) (TX a) (PR a m) (itr (nxt a) i m)) (PR a m) = at1 at *
  have e1 : g_best_turn_1 [some (mpD a), some (RGd a m), some (.list (X.map .str)), none, none] = some (.nx [some (mpD a), some (RGd a m), some (.list (X.map .str)), some (.int (at1 : Nat)), none]) := by
    unfold g_best_turn_1 gAsg
    rw [mk]
    rfl
  have c1 := cutA_from ((zs (rl (nxt a) m (PR a m))).map PyData.int) (k := ((at1 : Nat) : Int)) (Int.natCast_nonneg _)
  have c2 := cutA_to ((zs (rl (nxt a) m (PR a m))).map PyData.int) (k := ((at1 : Nat) : Int)) (Int.natCast_nonneg _)
  rw [Int.toNat_natCast] at c1 c2
  have e2 : g_best_turn_2 [some (mpD a), some (RGd a m), some (.list (X.map .str)), some (.int (at1 : Nat)), none] = some (.ret (.tuple ((zs (rl (nxt a) (itr (nxt a) at1 m) (PR a m))).map .int))) := by
    show ((some (PyData.tuple (cutA ((zs (rl (nxt a) m (PR a m))).map .int) (some ((at1 : Nat) : Int)) none))).bind fun x => (some (PyData.tuple (cutA ((zs (rl (nxt a) m (PR a m))).map .int) none (some ((at1 : Nat) : Int))))).bind fun y => gAdd x y).bind _ = _
    rw [c1, c2, Option.bind_some, Option.bind_some]
    have ad : gAdd (.tuple (((zs (rl (nxt a) m (PR a m))).map PyData.int).drop at1)) (.tuple (((zs (rl (nxt a) m (PR a m))).map PyData.int).take at1)) = some (.tuple (((zs (rl (nxt a) m (PR a m))).map PyData.int).drop at1 ++ ((zs (rl (nxt a) m (PR a m))).map PyData.int).take at1)) := if_pos (by
      rw [List.length_drop, List.length_take, List.length_map, zs_len, rl_len]
      omega)
    rw [ad, ← List.map_drop, ← List.map_take, ← List.map_append, zs_drop, zs_take, ← zs_app, rl_turn o (Nat.le_of_lt hlt)]
    rfl
  have e : g_best_turn [some (mpD a), some (RGd a m), none, none, none] = some (.ret (.tuple ((zs (rl (nxt a) (itr (nxt a) at1 m) (PR a m))).map .int))) := by
    unfold g_best_turn
    rw [blk_nx e0, blk_nx e1, e2]
  exact def_ret rfl e
end Lw

namespace Lw
open PySem PySem.Spec PyProof.Rows L2 DL Mt
variable [Tabl]
/-! ### pair_up, renaming -/
theorem dloop {α : Type} {tg : PyData → Rho → Option Rho} {body : Gd} (P : Rho → Prop) (w : α → PyData) (F : α → List (Nat × Nat)) (N : Nat) : ∀ {L : List α} {ρ : Rho} {m : Dm},
    (∀ x ∈ L, ∀ (ρ : Rho) (m : Dm), P ρ → m.length + (F x).length ≤ N → ∃ ρ1 ρ2, tg (w x) ρ = some ρ1 ∧ body ρ1 m = some (ρ2, fill m (F x)) ∧ P ρ2) → P ρ → m.length + (L.flatMap F).length ≤ N →
    ∃ ρ', dForF tg body (L.map w) ρ m = some (ρ', fill m (L.flatMap F)) ∧ P ρ'
  | [], ρ, m, _, hp, _ => ⟨ρ, rfl, hp⟩
  | x :: L, ρ, m, h, hp, hl => by
    rw [List.flatMap_cons, List.length_append] at hl
    obtain ⟨ρ1, ρ2, h1, h2, h3⟩ := h x List.mem_cons_self ρ m hp (by omega)
    have := fill_len (F x) m
    obtain ⟨ρ', h4, h5⟩ := dloop P w F N (L := L) (m := fill m (F x)) (fun y hy => h y (List.mem_cons_of_mem _ hy)) h3 (by omega)
    refine ⟨ρ', ?_, h5⟩
    rw [List.map_cons, List.flatMap_cons, fill_app]
    unfold dForF
    rw [h1, Option.bind_some, h2, Option.bind_some]
    exact h4
theorem zpD_zs (l m : List Nat) : zpD ((zs l).map PyData.int) ((zs m).map PyData.int) = (l.zip m).map fun p => PyData.tuple [.int (p.1 : Nat), .int (p.2 : Nat)] := by
  rw [zs_map, zs_map]
  unfold zpD
  rw [List.zip_map, List.map_map]
  rfl
abbrev SK (a : Mp) (k : Nat) : List Nat := skG (TX a) (fun (x : Nat) => PyData.int (x : Nat)) (kids (nxt a) a.2.length k)
theorem sk_ord (a : Mp) : Mt.Ord ssort (kids (nxt a) a.2.length) (SK a) (TX a) := ⟨fun k => skG_perm _ _ _, fun k => skG_txt _ _ _⟩
abbrev pairRho (a b : Mp) (k k' : Nat) (I J : List Nat) (o7 o8 o9 o10 o11 : Option PyData) : Rho := [some (mpD a), some (mpD b), some (.int (k : Nat)), some (.int (k' : Nat)), none, some (.tuple ((zs I).map .int)), some (.tuple ((zs J).map .int)), o7, o8, o9, o10, o11]
/-- the things that hang at k, sorted -/
theorem sorted_kids {a : Mp} (S : Sm a) {I : List Nat} {k : Nat} (hR : RFor a I k) {js : List Nat} {ρ : Rho} {i : Nat} (hc : capR ρ js = [some (mpD a), some (.tuple ((zs I).map .int))]) (h : fVar i ρ = some (.list ((zs (kids (nxt a) a.2.length k)).map .int))) :
    gSortKey js (fTup (fCons (fCall (phi_branch 10) (fCons (fVar 1) (fCons (fVar 0) (fCons (fVar 2) fNil)))) (fCons (fVar 0) fNil))) (fVar i) ρ = some ((zs (SK a k)).map .int) := by
  rw [zs_map]
  refine sortKey_of (w := fun (x : Nat) => PyData.int (x : Nat)) (T := TX a) (e := fun (x : Nat) => PyData.int (x : Nat)) (l := kids (nxt a) a.2.length k) (by rw [h, zs_map]) (fun x hx => ?_) (fun x _ => sok_B) (fun x _ => ⟨by simp [PyData.canLay0], by simp [PyData.depth]⟩) (fun x _ y _ => by simp [PySem.W.alike]) ?_
  · obtain ⟨h1, h2, _⟩ := (kids_mem (nxt_all S.inn)).mp hx
    have := branch_ten S h1 (hR.kid h2)
    rw [hc]
    unfold fTup fCons fCall fNil
    show ((((phi_branch 10 [mpD a, .int (x : Nat), .tuple ((zs I).map .int)]).bind _).bind _).bind _) = _
    rw [this]
    rfl
  · have := kids_few (f := nxt a) (n := a.2.length) k
    have := S.few
    omega
theorem pair_eq {a b : Mp} (S : Sm a) (S' : Sm b) {I J : List Nat} : ∀ {d k k' : Nat} {m : Dm}, k < a.2.length → k' < b.2.length → En (kids (nxt a) a.2.length) d k → RFor a I k → RFor b J k' → m.length + (Pr (SK a) (SK b) d k k').length ≤ 100000 →
    phi_pair_up d [mpD a, mpD b, .int (k : Nat), .int (k' : Nat), .tuple ((zs I).map .int), .tuple ((zs J).map .int)] m = some (fill m (Pr (SK a) (SK b) d k k'))
  | 0, k, k', m, _, _, h0, _, _, _ => h0.elim
  | d + 1, k, k', m, hk, hk', he, hR, hR', hl => by
    have hf := nxt_all S.inn
    have hf' := nxt_all S'.inn
    have hPr : Pr (SK a) (SK b) (d + 1) k k' = (k, k') :: ((SK a k).zip (SK b k')).flatMap fun p => Pr (SK a) (SK b) d p.1 p.2 := rfl
    rw [hPr] at hl ⊢
    rw [List.length_cons] at hl
    have e0 : g_pair_up_0 (phi_pair_up d) (pairRho a b k k' I J none none none none none) m = some (pairRho a b k k' I J none none none none none, putI m k k') := by
      have hm : m.length < 1000000 := by omega
      show (if m.length < 1000000 then some _ else none) = _
      rw [if_pos hm]
    have q1 := lc_enIF (vs := [9, 11]) (j1 := 9) (j2 := 11) (fs := f2 gIx (fVar 0) (fC (.int 1))) (f := fVar 9) (c := bAnd (fB (f2 (gEq false) (fVar 11) (fVar 2))) (fB (f2 (gIn true) (fVar 9) (fVar 5)))) (ρ := pairRho a b k k' I J none none none none none) (r := a.2) (g := fun (i : Nat) => (i : Int)) (p := kp a k) (d := .tuple (a.2.map .int)) (by simp) (.inl rfl) (by have := S.few; omega) (fun i hi => by
      rw [← kp_cond S.inn hi hR]
      exact ⟨cond_ev rfl rfl rfl rfl, fun _ => rfl⟩)
    have q1 : fLc [9, 11] (iEn (f2 gIx (fVar 0) (fC (.int 1)))) (hSeq 2 (hCons (hName 9) (hCons (hName 11) hNil))) (bAnd (fB (f2 (gEq false) (fVar 11) (fVar 2))) (fB (f2 (gIn true) (fVar 9) (fVar 5)))) (fVar 9) (pairRho a b k k' I J none none none none none) = some ((zs (kids (nxt a) a.2.length k)).map .int) := q1
    have e1 : g_pair_up_1 (phi_pair_up d) (pairRho a b k k' I J none none none none none) (putI m k k') = some (pairRho a b k k' I J (some (.list ((zs (kids (nxt a) a.2.length k)).map .int))) none none none none, putI m k k') := by
      unfold g_pair_up_1 dSet
      rw [fFr_of q1]
      rfl
    have q2 := lc_enIF (vs := [10, 11]) (j1 := 10) (j2 := 11) (fs := f2 gIx (fVar 1) (fC (.int 1))) (f := fVar 10) (c := bAnd (fB (f2 (gEq false) (fVar 11) (fVar 3))) (fB (f2 (gIn true) (fVar 10) (fVar 6)))) (ρ := pairRho a b k k' I J (some (.list ((zs (kids (nxt a) a.2.length k)).map .int))) none none none none) (r := b.2) (g := fun (i : Nat) => (i : Int)) (p := kp b k') (d := .tuple (b.2.map .int)) (by simp) (.inl rfl) (by have := S'.few; omega) (fun i hi => by
      rw [← kp_cond S'.inn hi hR']
      exact ⟨cond_ev rfl rfl rfl rfl, fun _ => rfl⟩)
    have q2 : fLc [10, 11] (iEn (f2 gIx (fVar 1) (fC (.int 1)))) (hSeq 2 (hCons (hName 10) (hCons (hName 11) hNil))) (bAnd (fB (f2 (gEq false) (fVar 11) (fVar 3))) (fB (f2 (gIn true) (fVar 10) (fVar 6)))) (fVar 10) (pairRho a b k k' I J (some (.list ((zs (kids (nxt a) a.2.length k)).map .int))) none none none none) = some ((zs (kids (nxt b) b.2.length k')).map .int) := q2
    have e2 : g_pair_up_2 (phi_pair_up d) (pairRho a b k k' I J (some (.list ((zs (kids (nxt a) a.2.length k)).map .int))) none none none none) (putI m k k') = some (pairRho a b k k' I J (some (.list ((zs (kids (nxt a) a.2.length k)).map .int))) (some (.list ((zs (kids (nxt b) b.2.length k')).map .int))) none none none, putI m k k') := by
      unfold g_pair_up_2 dSet
      rw [fFr_of q2]
      rfl
    have q3 := sorted_kids S hR (js := [0, 5]) (ρ := pairRho a b k k' I J (some (.list ((zs (kids (nxt a) a.2.length k)).map .int))) (some (.list ((zs (kids (nxt b) b.2.length k')).map .int))) none none none) (i := 7) rfl rfl
    have e3 : g_pair_up_3 (phi_pair_up d) (pairRho a b k k' I J (some (.list ((zs (kids (nxt a) a.2.length k)).map .int))) (some (.list ((zs (kids (nxt b) b.2.length k')).map .int))) none none none) (putI m k k') = some (pairRho a b k k' I J (some (.list ((zs (SK a k)).map .int))) (some (.list ((zs (kids (nxt b) b.2.length k')).map .int))) none none none, putI m k k') := by
      unfold g_pair_up_3 dSet
      rw [fFr_of q3]
      rfl
    have q4 := sorted_kids S' hR' (js := [1, 6]) (ρ := pairRho a b k k' I J (some (.list ((zs (SK a k)).map .int))) (some (.list ((zs (kids (nxt b) b.2.length k')).map .int))) none none none) (i := 8) rfl rfl
    have e4 : g_pair_up_4 (phi_pair_up d) (pairRho a b k k' I J (some (.list ((zs (SK a k)).map .int))) (some (.list ((zs (kids (nxt b) b.2.length k')).map .int))) none none none) (putI m k k') = some (pairRho a b k k' I J (some (.list ((zs (SK a k)).map .int))) (some (.list ((zs (SK b k')).map .int))) none none none, putI m k k') := by
      unfold g_pair_up_4 dSet
      rw [fFr_of q4]
      rfl
    have hput : (putI m (k : Nat) (k' : Nat)).length ≤ m.length + 1 := put_len m _ _
    obtain ⟨ρ', h5, _⟩ := dloop (tg := hSeq 2 (hCons (hName 9) (hCons (hName 10) hNil))) (body := g_pair_up_5b0 (phi_pair_up d)) (fun ρ => ∃ o9 o10, ρ = pairRho a b k k' I J (some (.list ((zs (SK a k)).map .int))) (some (.list ((zs (SK b k')).map .int))) o9 o10 none) (fun p : Nat × Nat => PyData.tuple [.int (p.1 : Nat), .int (p.2 : Nat)]) (fun p => Pr (SK a) (SK b) d p.1 p.2) 100000
      (L := (SK a k).zip (SK b k')) (ρ := pairRho a b k k' I J (some (.list ((zs (SK a k)).map .int))) (some (.list ((zs (SK b k')).map .int))) none none none) (m := putI m k k') (fun p hp ρ m hρ hm => by
        obtain ⟨o9, o10, rfl⟩ := hρ
        obtain ⟨z1, z2⟩ := List.of_mem_zip (show (p.1, p.2) ∈ _ from hp)
        have y1 := (skG_perm _ _ _).mem_iff.mp z1
        have y2 := (skG_perm _ _ _).mem_iff.mp z2
        obtain ⟨x1, x2, _⟩ := (kids_mem hf).mp y1
        obtain ⟨w1, w2, _⟩ := (kids_mem hf').mp y2
        have ih := pair_eq S S' (I := I) (J := J) (d := d) (k := p.1) (k' := p.2) (m := m) x1 w1 (he _ y1) (hR.kid x2) (hR'.kid w2) hm
        refine ⟨pairRho a b k k' I J (some (.list ((zs (SK a k)).map .int))) (some (.list ((zs (SK b k')).map .int))) (some (.int (p.1 : Nat))) (some (.int (p.2 : Nat))) none, pairRho a b k k' I J (some (.list ((zs (SK a k)).map .int))) (some (.list ((zs (SK b k')).map .int))) (some (.int (p.1 : Nat))) (some (.int (p.2 : Nat))) none, rfl, ?_, _, _, rfl⟩
        show (phi_pair_up d [mpD a, mpD b, .int (p.1 : Nat), .int (p.2 : Nat), .tuple ((zs I).map .int), .tuple ((zs J).map .int)] m).bind _ = _
        rw [ih]
        rfl) ⟨none, none, rfl⟩ (by omega)
    have e5 : g_pair_up_5 (phi_pair_up d) (pairRho a b k k' I J (some (.list ((zs (SK a k)).map .int))) (some (.list ((zs (SK b k')).map .int))) none none none) (putI m k k') = some (ρ', fill (putI m k k') (((SK a k).zip (SK b k')).flatMap fun p => Pr (SK a) (SK b) d p.1 p.2)) := by
      unfold g_pair_up_5 dFor
      show (some (zpD ((zs (SK a k)).map .int) ((zs (SK b k')).map .int))).bind _ = _
      rw [zpD_zs, Option.bind_some]
      exact h5
    have e : g_pair_up (phi_pair_up d) (pairRho a b k k' I J none none none none none) m = some (ρ', fill (putI m k k') (((SK a k).zip (SK b k')).flatMap fun p => Pr (SK a) (SK b) d p.1 p.2)) := by
      unfold g_pair_up dBlk
      simp only [e0, e1, e2, e3, e4, e5, Option.bind_some]
    rw [show phi_pair_up (d + 1) = defD 12 4 7 (g_pair_up (phi_pair_up d)) from rfl]
    unfold defD
    rw [if_pos ⟨rfl, by show 4 ≤ 6; decide⟩]
    show (g_pair_up (phi_pair_up d) (pairRho a b k k' I J none none none none none) m).map (·.2) = _
    rw [e]
    rfl
abbrev MS (a : Mp) : List Nat := skG (RTa a) (RGd a) (reps (nxt a) a.2.length)
theorem alike_ints : ∀ l m : List Int, PySem.W.alikeAll (l.map PyData.int) (m.map PyData.int) = true
  | [], _ => by simp [PySem.W.alikeAll]
  | _ :: _, [] => by simp [PySem.W.alikeAll]
  | x :: l, y :: m => by
    rw [List.map_cons, List.map_cons]
    simp [PySem.W.alikeAll, PySem.W.alike, alike_ints l m]
theorem sorted_rings {a : Mp} (S : Sm a) {js : List Nat} {ρ : Rho} {i : Nat} (hc : capR ρ js = [some (mpD a)]) (h : fVar i ρ = some (mpD a)) :
    gSortKey js (fTup (fCons (fCall phi_ring_text (fCons (fVar 1) (fCons (fVar 0) fNil))) (fCons (fVar 0) fNil))) (fCall phi_rings_of (fCons (fVar i) fNil)) ρ = some ((MS a).map (RGd a)) := by
  refine sortKey_of (w := RGd a) (T := RTa a) (e := RGd a) (l := reps (nxt a) a.2.length) ?_ (fun x hx => ?_) (fun x _ => sok_RT fun k => sok_B) (fun x _ => ?_) (fun x _ y _ => ?_) ?_
  · unfold fCall fCons fNil
    rw [h]
    show (phi_rings_of [mpD a]).bind _ = _
    rw [rings_eq S.inn S.few S.pos]
    rfl
  · rw [hc]
    unfold fTup fCons fCall fNil
    show ((((phi_ring_text [mpD a, RGd a x]).bind _).bind _).bind _) = _
    rw [rtext_eq S hx]
    rfl
  · have : shK 2 (RGd a x) := shK_ints
    exact ⟨this.1, Nat.le_trans this.2 (by decide)⟩
  · unfold RGd
    show PySem.W.alikeAll _ _ = true
    exact alike_ints _ _
  · have := reps_few (f := nxt a) (n := a.2.length)
    have := S.few
    omega
abbrev renRho (a b : Mp) (o2 o3 o4 o5 o6 o7 o8 : Option PyData) : Rho := [some (mpD a), some (mpD b), o2, o3, o4, o5, o6, o7, o8]
theorem inner_sm {a : Mp} (S : Sm a) : phi_must_be_inner [mpD a] = some (.ok .none) := inner_ok S.inn.same (by have := S.inn.same; have := S.pos; omega)
theorem ren_0 {a b : Mp} (S : Sm a) (o2 o3 o4 o5 o6 o7 o8 : Option PyData) : g_renaming_0 (renRho a b o2 o3 o4 o5 o6 o7 o8) = some (.nx (renRho a b o2 o3 o4 o5 o6 o7 o8)) := by
  simp [g_renaming_0, inner_sm S]
theorem ren_1 {a b : Mp} (S : Sm b) (o2 o3 o4 o5 o6 o7 o8 : Option PyData) : g_renaming_1 (renRho a b o2 o3 o4 o5 o6 o7 o8) = some (.nx (renRho a b o2 o3 o4 o5 o6 o7 o8)) := by
  simp [g_renaming_1, inner_sm S]
theorem plain_cmp {a b : Mp} (S : Sm a) (S' : Sm b) {ρ : Rho} {i j : Nat} (h1 : fVar i ρ = some (mpD a)) (h2 : fVar j ρ = some (mpD b)) : f2 (gEq true) (fCall phi_plain (fCons (fVar i) fNil)) (fCall phi_plain (fCons (fVar j) fNil)) ρ = some (.bool (!decide (PTa a = PTa b))) := by
  unfold f2 fCall fCons fNil
  rw [h1, h2]
  show (((phi_plain [mpD a]).bind _).bind fun x => ((phi_plain [mpD b]).bind _).bind fun y => gEq true x y) = _
  rw [plain_eq S, plain_eq S']
  show gEq true (.str (PTa a)) (.str (PTa b)) = _
  rw [gEq_str true sok_PT sok_PT, Bool.true_xor, Bool.beq_eq_decide_eq]
theorem ren_none {a b : Mp} (S : Sm a) (S' : Sm b) (h : PTa a ≠ PTa b) : phi_renaming [mpD a, mpD b] = some (.ok .none) := by
  have e2 : g_renaming_2 (renRho a b none none none none none none none) = some (.ret .none) := by
    unfold g_renaming_2
    rw [if_t]
    · rfl
    · unfold fB
      rw [plain_cmp S S' rfl rfl, decide_eq_false h]
      rfl
  have e : g_renaming (renRho a b none none none none none none none) = some (.ret .none) := by
    unfold g_renaming
    rw [blk_nx (ren_0 S ..), blk_nx (ren_1 S' ..), blk_ret e2]
  exact def_ret rfl e
theorem ren_no1 {a b : Mp} (h : ¬ (a.1 = (a.2.length : Nat) ∧ 0 < a.1)) : phi_renaming [mpD a, mpD b] = some (.error 2) := by
  have i0 := inner_no h
  have e : g_renaming (renRho a b none none none none none none none) = some (.exc 2 (renRho a b none none none none none none none)) := by
    unfold g_renaming
    exact blk_exc (by simp [g_renaming_0, i0])
  exact def_exc rfl e
theorem ren_no2 {a b : Mp} (S : Sm a) (h : ¬ (b.1 = (b.2.length : Nat) ∧ 0 < b.1)) : phi_renaming [mpD a, mpD b] = some (.error 2) := by
  have i0 := inner_no h
  have e : g_renaming (renRho a b none none none none none none none) = some (.exc 2 (renRho a b none none none none none none none)) := by
    unfold g_renaming
    rw [blk_nx (ren_0 S ..)]
    exact blk_exc (by simp [g_renaming_1, i0])
  exact def_exc rfl e
abbrev PPa (a b : Mp) : List (Nat × Nat) := PP (SK a) (SK b) 10 (nxt a) (nxt b) a.2.length b.2.length (BT a) (BT b) (MS a) (MS b)
theorem ren_some {a b : Mp} (S : Sm a) (S' : Sm b) (h : PTa a = PTa b) : ∃ nm : Nat → Nat, phi_renaming [mpD a, mpD b] = some (.ok (.tuple [.tuple ((zs ((List.range a.2.length).map nm)).map .int)])) ∧ a.2.length = b.2.length ∧ Iso a.2.length (nxt a) (nxt b) nm := by
  have hf := nxt_all S.inn
  have hf' := nxt_all S'.inn
  have few := S.few
  obtain ⟨k1, k2, k3⟩ := sound (sp := ssort_perm) (mnm := minL_mem) hf hf' S.few S'.few (by decide) (sk_ord a) (sk_ord b) (bt_best hf (TX a)) (bt_best hf' (TX b)) (skG_perm (RTa a) (RGd a) (RS a)) (skG_perm (RTa b) (RGd b) (RS b)) (skG_txt (RTa a) (RGd a) (RS a)) (skG_txt (RTa b) (RGd b) (RS b)) h
  have hlen : (PPa a b).length = a.2.length := by
    have := k1.length_eq
    rwa [List.length_map, List.length_range] at this
  have nd : ((PPa a b).map (·.1)).Nodup := k1.nodup_iff.mpr List.nodup_range
  have e2 : g_renaming_2 (renRho a b none none none none none none none) = some (.nx (renRho a b none none none none none none none)) := by
    unfold g_renaming_2
    rw [if_f]
    · rfl
    · unfold fB
      rw [plain_cmp S S' rfl rfl, decide_eq_true h]
      rfl
  have e3 : g_renaming_3 (renRho a b none none none none none none none) = some (.nx (renRho a b (some (.list ((MS a).map (RGd a)))) none none none none none none)) := by
    unfold g_renaming_3 gAsg
    rw [fFr_of (sorted_rings S (js := [0]) (i := 0) rfl rfl)]
    rfl
  have e4 : g_renaming_4 (renRho a b (some (.list ((MS a).map (RGd a)))) none none none none none none) = some (.nx (renRho a b (some (.list ((MS a).map (RGd a)))) (some (.list ((MS b).map (RGd b)))) none none none none none)) := by
    unfold g_renaming_4 gAsg
    rw [fFr_of (sorted_rings S' (js := [1]) (i := 1) rfl rfl)]
    rfl
  -- the loop over the rings
  obtain ⟨ρ', h6, p5, p6, p7, p8, rfl⟩ := dloop (tg := hSeq 2 (hCons (hName 5) (hCons (hName 6) hNil))) (body := g_renaming_6b0) (fun ρ => ∃ o5 o6 o7 o8, ρ = renRho a b (some (.list ((MS a).map (RGd a)))) (some (.list ((MS b).map (RGd b)))) none o5 o6 o7 o8) (fun p : Nat × Nat => PyData.tuple [RGd a p.1, RGd b p.2])
      (fun q => ((rl (nxt a) (BT a q.1) (PR a q.1)).zip (rl (nxt b) (BT b q.2) (PR b q.2))).flatMap fun p => Pr (SK a) (SK b) 10 p.1 p.2) 100000
      (L := (MS a).zip (MS b)) (ρ := renRho a b (some (.list ((MS a).map (RGd a)))) (some (.list ((MS b).map (RGd b)))) none none none none none) (m := []) (fun q hq ρ m hρ hm => by
        obtain ⟨o5, o6, o7, o8, rfl⟩ := hρ
        obtain ⟨z1, z2⟩ := List.of_mem_zip (show (q.1, q.2) ∈ _ from hq)
        have y1 := (skG_perm _ _ _).mem_iff.mp z1
        have y2 := (skG_perm _ _ _).mem_iff.mp z2
        obtain ⟨r1, c1, o1, _⟩ := S.rep y1
        obtain ⟨r2, c2, o2, _⟩ := S'.rep y2
        have b1 := best_eq S y1
        have b2 := best_eq S' y2
        obtain ⟨i1, t1, _⟩ := bt_best hf (TX a) _ y1
        obtain ⟨i2, t2, _⟩ := bt_best hf' (TX b) _ y2
        refine ⟨renRho a b (some (.list ((MS a).map (RGd a)))) (some (.list ((MS b).map (RGd b)))) none (some (RGd a q.1)) (some (RGd b q.2)) o7 o8, ?_⟩
        obtain ⟨ρ', h7, p7, p8, rfl⟩ := dloop (tg := hSeq 2 (hCons (hName 7) (hCons (hName 8) hNil))) (body := g_renaming_6b0b0) (fun ρ => ∃ o7 o8, ρ = renRho a b (some (.list ((MS a).map (RGd a)))) (some (.list ((MS b).map (RGd b)))) none (some (RGd a q.1)) (some (RGd b q.2)) o7 o8) (fun p : Nat × Nat => PyData.tuple [.int (p.1 : Nat), .int (p.2 : Nat)])
          (fun p => Pr (SK a) (SK b) 10 p.1 p.2) 100000 (L := (rl (nxt a) (BT a q.1) (PR a q.1)).zip (rl (nxt b) (BT b q.2) (PR b q.2))) (ρ := renRho a b (some (.list ((MS a).map (RGd a)))) (some (.list ((MS b).map (RGd b)))) none (some (RGd a q.1)) (some (RGd b q.2)) o7 o8) (m := m) (fun p hp ρ m hρ hm => by
            obtain ⟨o7, o8, rfl⟩ := hρ
            obtain ⟨x1, x2⟩ := List.of_mem_zip (show (p.1, p.2) ∈ _ from hp)
            have back : ∀ {c : Mp} {m i : Nat} {s : Nat} (o : Orb (nxt c) m 0 s) {x : Nat} (e : BT c m = itr (nxt c) i m), x ∈ rl (nxt c) (BT c m) s → x ∈ rl (nxt c) m s := fun {c m i s} o {x} e hx => by
              rw [e] at hx
              obtain ⟨j, ej⟩ := (rl_mem (orb_shift o i)).mp hx
              exact (rl_mem o).mpr ⟨i + j, by rw [itr_add, ej]⟩
            have w1 := back o1 t1 x1
            have w2 := back o2 t2 x2
            have l1 := rl_lt hf r1 _ w1
            have l2 := rl_lt hf' r2 _ w2
            have pe := pair_eq S S' (d := 10) (m := m) l1 l2 (kids_ten hf S.few l1) (rfor_rl S.inn y1 w1) (rfor_rl S'.inn y2 w2) hm
            refine ⟨renRho a b (some (.list ((MS a).map (RGd a)))) (some (.list ((MS b).map (RGd b)))) none (some (RGd a q.1)) (some (RGd b q.2)) (some (.int (p.1 : Nat))) (some (.int (p.2 : Nat))), renRho a b (some (.list ((MS a).map (RGd a)))) (some (.list ((MS b).map (RGd b)))) none (some (RGd a q.1)) (some (RGd b q.2)) (some (.int (p.1 : Nat))) (some (.int (p.2 : Nat))), rfl, ?_, _, _, rfl⟩
            show (phi_pair_up 10 [mpD a, mpD b, .int (p.1 : Nat), .int (p.2 : Nat), RGd a q.1, RGd b q.2] m).bind _ = _
            unfold RGd
            rw [pe]
            rfl) ⟨o7, o8, rfl⟩ hm
        refine ⟨renRho a b (some (.list ((MS a).map (RGd a)))) (some (.list ((MS b).map (RGd b)))) none (some (RGd a q.1)) (some (RGd b q.2)) p7 p8, rfl, ?_, _, _, _, _, rfl⟩
        unfold g_renaming_6b0 dFor
        have it : iZp (fCall phi_best_turn (fCons (fVar 0) (fCons (fVar 5) fNil))) (fCall phi_best_turn (fCons (fVar 1) (fCons (fVar 6) fNil))) (renRho a b (some (.list ((MS a).map (RGd a)))) (some (.list ((MS b).map (RGd b)))) none (some (RGd a q.1)) (some (RGd b q.2)) o7 o8) = some (((rl (nxt a) (BT a q.1) (PR a q.1)).zip (rl (nxt b) (BT b q.2) (PR b q.2))).map fun p => PyData.tuple [.int (p.1 : Nat), .int (p.2 : Nat)]) := by
          unfold iZp fCall fCons fNil
          show ((phi_best_turn [mpD a, RGd a q.1]).bind _).bind (fun d => ((phi_best_turn [mpD b, RGd b q.2]).bind _).bind _) = _
          rw [b1, b2]
          show some (zpD _ _) = _
          rw [zpD_zs]
        rw [it, Option.bind_some]
        exact h7) ⟨none, none, none, none, rfl⟩ (by
          show 0 + (PPa a b).length ≤ 100000
          omega)
  have hPP : (((MS a).zip (MS b)).flatMap fun q => ((rl (nxt a) (BT a q.1) (PR a q.1)).zip (rl (nxt b) (BT b q.2) (PR b q.2))).flatMap fun p => Pr (SK a) (SK b) 10 p.1 p.2) = PPa a b := rfl
  rw [hPP] at h6
  have e6 : g_renaming_6 (renRho a b (some (.list ((MS a).map (RGd a)))) (some (.list ((MS b).map (RGd b)))) none none none none none) [] = some (renRho a b (some (.list ((MS a).map (RGd a)))) (some (.list ((MS b).map (RGd b)))) none p5 p6 p7 p8, fill [] (PPa a b)) := by
    unfold g_renaming_6 dFor
    have it : iZp (fVar 2) (fVar 3) (renRho a b (some (.list ((MS a).map (RGd a)))) (some (.list ((MS b).map (RGd b)))) none none none none none) = some (((MS a).zip (MS b)).map fun p => PyData.tuple [RGd a p.1, RGd b p.2]) := by
      show some (zpD _ _) = _
      unfold zpD
      rw [List.zip_map, List.map_map]
      rfl
    rw [it, Option.bind_some]
    exact h6
  -- the names
  have at1 : ∀ p ∈ PPa a b, lkI (fill [] (PPa a b)) ((p.1 : Nat) : Int) = some ((p.2 : Nat) : Int) := fun p hp => fill_at nd hp
  have all : ∀ i, i < a.2.length → lkI (fill [] (PPa a b)) ((i : Nat) : Int) = some (((((lkI (fill [] (PPa a b)) ((i : Nat) : Int)).getD 0).toNat : Nat)) : Int) := fun i hi => by
    obtain ⟨p, hp, e⟩ := List.mem_map.mp (k1.mem_iff.mpr (List.mem_range.mpr hi))
    have := at1 p hp
    have e : p.1 = i := e
    rw [e] at this
    rw [this]
    rfl
  refine ⟨fun i => ((lkI (fill [] (PPa a b)) ((i : Nat) : Int)).getD 0).toNat, ?_, ?_⟩
  · generalize fill [] (PPa a b) = mm at *
    have q := lc_rgI (vs := [7]) (j := 7) (fn := f2 gIx (fVar 0) (fC (.int 0))) (f := fNm 7 mm) (ρ := renRho a b (some (.list ((MS a).map (RGd a)))) (some (.list ((MS b).map (RGd b)))) none p5 p6 p7 p8) (n := ((a.2.length : Nat) : Int)) (g := fun i => ((((lkI mm ((i : Nat) : Int)).getD 0).toNat : Nat) : Int)) (by rw [← S.inn.same]; simp) (by omega) (fun i hi => by
      show (lkI mm ((i : Nat) : Int)).bind _ = _
      rw [all i (by omega)]
      rfl)
    rw [Int.toNat_natCast] at q
    have hz : (List.range a.2.length).map (fun (i : Nat) => ((((lkI mm ((i : Nat) : Int)).getD 0).toNat : Nat) : Int)) = zs ((List.range a.2.length).map fun (i : Nat) => ((lkI mm ((i : Nat) : Int)).getD 0).toNat) := by
      unfold zs
      rw [List.map_map]
      rfl
    rw [hz] at q
    have e7 : g_renaming_7 (renRho a b (some (.list ((MS a).map (RGd a)))) (some (.list ((MS b).map (RGd b)))) none p5 p6 p7 p8) mm = some (.tuple [.tuple ((zs ((List.range a.2.length).map fun (i : Nat) => ((lkI mm ((i : Nat) : Int)).getD 0).toNat)).map .int)]) := by
      unfold g_renaming_7 fTup1
      simp only []
      rw [q]
      rfl
    have er : g_renaming_rest (renRho a b (some (.list ((MS a).map (RGd a)))) (some (.list ((MS b).map (RGd b)))) none none none none none) = some (.ret (.tuple [.tuple ((zs ((List.range a.2.length).map fun (i : Nat) => ((lkI mm ((i : Nat) : Int)).getD 0).toNat)).map .int)])) := by
      unfold g_renaming_rest gNames
      rw [if_pos (by show 4 < 9; decide)]
      show (g_renaming_6 (renRho a b (some (.list ((MS a).map (RGd a)))) (some (.list ((MS b).map (RGd b)))) none none none none none) []).bind _ = _
      rw [e6, Option.bind_some]
      simp only []
      rw [e7]
      rfl
    have e : g_renaming (renRho a b none none none none none none none) = some (.ret (.tuple [.tuple ((zs ((List.range a.2.length).map fun (i : Nat) => ((lkI mm ((i : Nat) : Int)).getD 0).toNat)).map .int)])) := by
      unfold g_renaming
      rw [blk_nx (ren_0 S ..), blk_nx (ren_1 S' ..), blk_nx e2, blk_nx e3, blk_nx e4, er]
    exact def_ret rfl e
  · obtain ⟨n1, n2, n3⟩ := names_of (nm := fun i => ((lkI (fill [] (PPa a b)) ((i : Nat) : Int)).getD 0).toNat) k1 k2 k3 fun p hp => by
      show ((lkI (fill [] (PPa a b)) ((p.1 : Nat) : Int)).getD 0).toNat = p.2
      rw [at1 p hp]
      rfl
    exact ⟨n1, n2, n3⟩
end Lw

namespace Lw
open PySem PySem.Spec PyProof.Rows L2 DL Mt
variable [Tabl]
theorem for_rgN {h' : Rho → Option (List PyData)} {j : Nat} {b : Gn} {ρ : Rho} {n : Nat} (P : Nat → Rho → Prop) (h1 : h' ρ = some (rgD 0 n)) (h : ∀ i, i < n → ∀ ρ, P i ρ → ∃ ρ', b (ρ.set j (some (.int i))) = some (.nx ρ') ∧ P (i + 1) ρ') (h0 : P 0 ρ) : ∃ ρ', gFor h' (hName j) b ρ = some (.nx ρ') ∧ P n ρ' := by
  rcases for_rg (lo := 0) P (fun _ => False) h1 (fun i hi ρ hp => .inl (by rw [Int.zero_add]; exact h i hi ρ hp)) h0 with h | ⟨_, _, z⟩
  · exact h
  · exact z.elim
/-! ### all the maps -/
theorem for_cons_nx {tg : PyData → Rho → Option Rho} {b : Gn} {x : PyData} {ds : List PyData} {ρ ρ1 ρ' : Rho} (h1 : tg x ρ = some ρ1) (h2 : b ρ1 = some (.nx ρ')) : forF tg b (x :: ds) ρ = forF tg b ds ρ' := by
  conv => lhs; unfold forF
  rw [h1, Option.bind_some, h2]
  rfl
theorem f2_of {g : PyData → PyData → Option PyData} {fa fb : Fn} {ρ : Rho} {x y : PyData} (ha : fa ρ = some x) (hb : fb ρ = some y) : f2 g fa fb ρ = g x y := by
  unfold f2
  rw [ha, Option.bind_some, hb, Option.bind_some]
theorem ext_len (m : Nat) (r : List Int) : (ext3 m r).length = m := by unfold ext3; rw [List.length_map, List.length_range]
theorem flat_len {α β : Type} {f : α → List β} {m : Nat} (h : ∀ x, (f x).length = m) : ∀ l : List α, (l.flatMap f).length = l.length * m
  | [] => by simp
  | x :: l => by rw [List.flatMap_cons, List.length_append, h, flat_len h l, List.length_cons, Nat.succ_mul, Nat.add_comm]
theorem rowsN_len (m : Nat) : ∀ n, (rows3 m n).length = m ^ n
  | 0 => rfl
  | n + 1 => by
    show ((rows3 m n).flatMap (ext3 m)).length = _
    rw [flat_len (ext_len m), rowsN_len m n, Nat.pow_succ]
theorem rowsN_mem (m : Nat) : ∀ n, ∀ r ∈ rows3 m n, r.length = n ∧ ∀ x ∈ r, 0 ≤ x ∧ x < m
  | 0, r, h => by
    rw [show rows3 m 0 = [[]] from rfl, List.mem_singleton] at h
    subst h
    exact ⟨rfl, fun x hx => by cases hx⟩
  | n + 1, r, h => by
    obtain ⟨q, hq, hr⟩ := List.mem_flatMap.mp (show r ∈ (rows3 m n).flatMap (ext3 m) from h)
    obtain ⟨i, hi, rfl⟩ := List.mem_map.mp hr
    obtain ⟨h1, h2⟩ := rowsN_mem m n q hq
    have hi := List.mem_range.mp hi
    refine ⟨by rw [List.length_append, h1]; rfl, fun x hx => ?_⟩
    rcases List.mem_append.mp hx with hx | hx
    · exact h2 x hx
    · rw [List.mem_singleton] at hx
      omega
theorem small_pow {m n : Nat} (hm : m ≤ 4) (hn : n ≤ 4) : m ^ n ≤ 256 :=
  Nat.le_trans (Nat.pow_le_pow_left hm n) (Nat.pow_le_pow_right (n := 4) (by decide) hn)
abbrev rowD (r : List Int) : PyData := .tuple (r.map .int)
abbrev amRho (a t l o3 o4 o5 o6 : Option PyData) : Rho := [a, t, l, o3, o4, o5, o6]
theorem am_inner {a l o3 o6 : Option PyData} {m : Nat} (hm : m ≤ 4) : ∀ {rows : List (List Int)} {acc : List PyData} {o5 : Option PyData}, acc.length + rows.length * m ≤ 10000 → (∀ r ∈ rows, r.length ≤ 1000) →
    ∃ o5', forF (hName 5) g_all_maps_1b1b0 (rows.map rowD) (amRho a (some (.int m)) l o3 (some (.list acc)) o5 o6) = some (.nx (amRho a (some (.int m)) l o3 (some (.list (acc ++ (rows.flatMap (ext3 m)).map rowD))) o5' o6))
  | [], acc, o5, _, _ => ⟨o5, by
    show some (Out.nx _) = _
    simp⟩
  | r :: rows, acc, o5, h, hr => by
    rw [List.length_cons, Nat.succ_mul] at h
    have hl := hr r List.mem_cons_self
    have q := lc_rg (vs := [6]) (j := 6) (fn := fVar 1) (f := f2 gAdd (fVar 5) (fTup (fCons (fVar 6) fNil))) (ρ := amRho a (some (.int m)) l o3 (some (.list acc)) (some (rowD r)) o6) (n := m) (g := fun i => rowD (r ++ [(i : Int)])) rfl (by omega) (fun i hi => by
      have c : (r.map PyData.int).length + [PyData.int (i : Int)].length ≤ 1000000 := by
        rw [List.length_map, List.length_singleton]
        omega
      have e : gAdd (rowD r) (.tuple [.int i]) = some (rowD (r ++ [(i : Int)])) := by
        unfold gAdd
        simp only []
        rw [if_pos c]
        simp [rowD]
      refine (f2_of rfl ?_).trans e
      rfl)
    rw [Int.toNat_natCast] at q
    have el : ((List.range m).map fun (i : Nat) => rowD (r ++ [(i : Int)])) = (ext3 m r).map rowD := by
      unfold ext3
      rw [List.map_map]
      rfl
    rw [el] at q
    have c2 : acc.length + ((ext3 m r).map rowD).length ≤ 1000000 := by
      rw [List.length_map, ext_len]
      omega
    have e : g_all_maps_1b1b0 (amRho a (some (.int m)) l o3 (some (.list acc)) (some (rowD r)) o6) = some (.nx (amRho a (some (.int m)) l o3 (some (.list (acc ++ (ext3 m r).map rowD))) (some (rowD r)) o6)) := by
      unfold g_all_maps_1b1b0 gExt
      rw [show lstAt 4 (amRho a (some (.int m)) l o3 (some (.list acc)) (some (rowD r)) o6) = some acc from rfl, Option.bind_some, q, Option.bind_some, if_pos c2]
      rfl
    obtain ⟨o5', e2⟩ := am_inner (a := a) (l := l) (o3 := o3) (o6 := o6) hm (rows := rows) (acc := acc ++ (ext3 m r).map rowD) (o5 := some (rowD r)) (by
      rw [List.length_append, List.length_map, ext_len]
      omega) (fun x hx => hr x (List.mem_cons_of_mem _ hx))
    refine ⟨o5', ?_⟩
    rw [List.map_cons, for_cons_nx rfl e, e2, List.flatMap_cons, List.map_append, List.append_assoc]
theorem all_maps_eq {many to : Nat} (hm : many ≤ 4) (ht : to ≤ 4) : phi_all_maps [.int many, .int to] = some (.ok (.tuple ((rows3 to many).map fun r => mpD (to, r)))) := by
  have hB : B62 (many : Int) := ⟨by omega, by omega⟩
  have e0 : g_all_maps_0 (amRho (some (.int many)) (some (.int to)) none none none none none) = some (.nx (amRho (some (.int many)) (some (.int to)) (some (.list ((rows3 to 0).map rowD))) none none none none)) := by
    simp [g_all_maps_0, rows3]
  have hi : iR1 (fVar 0) (amRho (some (.int many)) (some (.int to)) (some (.list ((rows3 to 0).map rowD))) none none none none) = some (rgD 0 many) := by simp [hB]
  obtain ⟨ρ', e1, o3, o5, rfl⟩ := for_rgN (j := 3) (b := g_all_maps_1b) (fun i ρ => ∃ o3 o5, ρ = amRho (some (.int many)) (some (.int to)) (some (.list ((rows3 to i).map rowD))) o3 none o5 none) hi (fun i hi ρ ⟨o3, o5, hρ⟩ => by
    subst hρ
    have h1 := rowsN_len to i
    have h2 := small_pow ht (show i + 1 ≤ 4 by omega)
    have s0 : g_all_maps_1b0 (amRho (some (.int many)) (some (.int to)) (some (.list ((rows3 to i).map rowD))) (some (.int i)) none o5 none) = some (.nx (amRho (some (.int many)) (some (.int to)) (some (.list ((rows3 to i).map rowD))) (some (.int i)) (some (.list [])) o5 none)) := rfl
    obtain ⟨o5', s1⟩ := am_inner (a := some (.int many)) (l := some (.list ((rows3 to i).map rowD))) (o3 := some (.int i)) (o6 := none) ht (rows := rows3 to i) (acc := []) (o5 := o5) (by
      rw [h1, ← Nat.pow_succ]
      show 0 + _ ≤ _
      have : to ^ (i + 1) ≤ 256 := h2
      rw [Nat.succ_eq_add_one]
      omega) (fun r hr => by have := (rowsN_mem to i r hr).1; omega)
    have s1' : g_all_maps_1b1 (amRho (some (.int many)) (some (.int to)) (some (.list ((rows3 to i).map rowD))) (some (.int i)) (some (.list [])) o5 none) = some (.nx (amRho (some (.int many)) (some (.int to)) (some (.list ((rows3 to i).map rowD))) (some (.int i)) (some (.list ((rows3 to (i + 1)).map rowD))) o5' none)) := s1
    refine ⟨amRho (some (.int many)) (some (.int to)) (some (.list ((rows3 to (i + 1)).map rowD))) (some (.int i)) none o5' none, ?_, _, _, rfl⟩
    show g_all_maps_1b (amRho (some (.int many)) (some (.int to)) (some (.list ((rows3 to i).map rowD))) (some (.int i)) none o5 none) = _
    unfold g_all_maps_1b
    rw [blk_nx s0, blk_nx s1']
    rfl) ⟨none, none, rfl⟩
  refine def_ret rfl (?_ : g_all_maps (amRho (some (.int many)) (some (.int to)) none none none none none) = _)
  unfold g_all_maps
  rw [blk_nx e0, show g_all_maps_1 = gFor (iR1 (fVar 0)) (hName 3) g_all_maps_1b from rfl, blk_nx e1]
  have hl := rowsN_len to many
  have hs := small_pow ht hm
  have q := lc_sq (vs := [5]) (j := 5) (fs := fVar 2) (f := fTup (fCons (fVar 1) (fCons (fVar 5) fNil))) (ρ := amRho (some (.int many)) (some (.int to)) (some (.list ((rows3 to many).map rowD))) o3 none o5 none) (w := rowD) (l := rows3 to many) (d := .list ((rows3 to many).map rowD)) (g := fun r => mpD (to, r)) rfl rfl (by omega) (fun r hr => rfl)
  unfold g_all_maps_2 gRet
  rw [bi1 (fFr_of q)]
  rfl
/-! ### the law's helpers -/
theorem self_eq (c : Int) : ∃ a : Mp, Sm a ∧ a.2.length ≤ 7 ∧ phi__law_self [.int c, .int 7] = some (.ok (mpD a)) := by
  have hm := mix_eq (c := c) (p := 9923) (m := 7) (by decide) (by decide)
  have hl := mix_lt (c := c) (p := 9923) (m := 7) (by decide)
  generalize c * 48271 % 9923 % 7 = x at *
  obtain ⟨a, w, h1, h2, h3, e⟩ := mp_eq (c := c) (many := 1 + x) (to := 1 + x) ⟨by omega, by omega⟩ ⟨by omega, by omega⟩
  have h3 := h3 (by omega)
  refine ⟨a, ⟨⟨w, by omega⟩, by omega, by omega⟩, by omega, ?_⟩
  have e0 : g__law_self_0 [some (.int c), some (.int 7), none] = some (.nx [some (.int c), some (.int 7), some (.int (1 + x))]) := by simp [g__law_self_0, hm]
  have e1 : g__law_self_1 [some (.int c), some (.int 7), some (.int (1 + x))] = some (.ret (mpD a)) := by simp [g__law_self_1, e]
  refine def_ret rfl (?_ : g__law_self [some (.int c), some (.int 7), none] = _)
  unfold g__law_self
  rw [blk_nx e0, e1]
theorem perm_eq {c : Int} {n : Nat} (hn : n ≤ 1000) : ∃ p : List Nat, p.Perm (List.range n) ∧ phi__law_perm [.int c, .int n] = some (.ok (.tuple ((zs p).map .int))) := by
  have hz : (0 : Int) ≤ n ∧ (n : Int) ≤ 1000000 := ⟨by omega, by omega⟩
  have hB : B62 (n : Int) := ⟨by omega, by omega⟩
  have hrg : rgD 0 n = (zs (List.range n)).map .int := by rw [rgD_zero, zs_map]
  have lz : (zs (List.range n)).length = n := by rw [zs_len, List.length_range]
  have e0 : g__law_perm_0 [some (.int c), some (.int n), none, none] = some (.nx [some (.int c), some (.int n), some (.list ((zs (List.range n)).map .int)), none]) := by
    simp only [g__law_perm_0, gOwn, gRgL, fVar, List.getElem?_cons_succ, List.getElem?_cons_zero, Option.bind_some, if_pos hz, Int.toNat_natCast, hrg, List.set_cons_succ, List.set_cons_zero]
  obtain ⟨ys, rest, p1, p2, p3⟩ := popF_ok (j := 3) (iL := 2) (fe := fCall phi__law_mix (fCons (f2 gAdd (fVar 0) (f2 gMulD (fC (.int 5)) (fVar 3))) (fCons (fC (.int 9871)) (fCons (f2 (gI fun i j => i - j) (fVar 1) (fVar 3)) fNil)))) (by decide)
    (ds := rgD 0 n) (ρ := [some (.int c), some (.int n), some (.list ((zs (List.range n)).map .int)), none]) (L := zs (List.range n)) rfl (by rw [rgD_len, lz]; exact Nat.le_refl _) (by rw [lz]; omega) (fun i d hd L' hL' => by
      have hi : i < n := by
        have := (List.getElem?_eq_some_iff.mp hd).1
        rwa [rgD_len] at this
      rw [rgD_get hi] at hd
      cases hd
      rw [lz] at hL'
      have hto : 0 < (n : Int) - (0 + i) := by omega
      have h1 : MulOk 5 ((0 : Int) + i) := .inl (.inl ⟨by omega, by omega⟩)
      refine ⟨(c + 5 * (0 + i)) * 48271 % 9871 % ((n : Int) - (0 + i)), ?_, (mix_lt hto).1, Int.lt_of_lt_of_le (mix_lt hto).2 (by omega)⟩
      simp only [fCall, fCons, f2, fVar, fC, fNil, List.set_cons_succ, List.set_cons_zero, List.getElem?_cons_zero, List.getElem?_cons_succ, Option.bind_some, gAdd, gMulD, gI, if_pos h1]
      rw [mix_eq (by omega) hto]
      rfl)
  have hr : rest = [] := by
    have := p3.length_eq
    rw [List.length_append, p2, rgD_len, lz] at this
    exact List.eq_nil_of_length_eq_zero (by omega)
  rw [hr, List.append_nil] at p3
  obtain ⟨z1, z2⟩ := zs_back p3
  refine ⟨ys.map Int.toNat, z2, ?_⟩
  rw [z1]
  have hi : iR1 (fVar 1) [some (.int c), some (.int n), some (.list ((zs (List.range n)).map .int)), none] = some (rgD 0 n) := by simp [hB]
  have e1 : g__law_perm_1 [some (.int c), some (.int n), some (.list ((zs (List.range n)).map .int)), none] = some (.ret (.tuple (ys.map .int))) := by
    unfold g__law_perm_1 gRetPop
    have hw : wipeR [some (.int c), some (.int n), some (.list ((zs (List.range n)).map .int)), none] [3] = [some (.int c), some (.int n), some (.list ((zs (List.range n)).map .int)), none] := rfl
    rw [hi, Option.bind_some, if_pos (by rw [rgD_len]; omega), hw, p1]
    rfl
  refine def_ret rfl (?_ : g__law_perm [some (.int c), some (.int n), none, none] = _)
  unfold g__law_perm
  rw [blk_nx e0, e1]
/-! ### a map with other names -/
def rowV (L : List PyData) (y : Nat) : Nat := match L[y]? with
  | some (.int x) => x.toNat
  | _ => 0
theorem rowV_eq {L : List PyData} {y v : Nat} (h : L[y]? = some (.int (v : Nat))) : rowV L y = v := by
  unfold rowV
  rw [h]
  rfl
theorem row_all {L : List PyData} {n : Nat} (hl : L.length = n) (h : ∀ y, y < n → ∃ v : Nat, L[y]? = some (.int (v : Nat))) : L = (zs ((List.range n).map (rowV L))).map .int := by
  refine List.ext_getElem? fun y => ?_
  by_cases hy : y < n
  · obtain ⟨v, hv⟩ := h y hy
    rw [zs_map, List.map_map, List.getElem?_map, List.getElem?_range hy, hv]
    show _ = some (PyData.int ((rowV L y : Nat) : Int))
    rw [rowV_eq hv]
  · rw [List.getElem?_eq_none (by omega), List.getElem?_eq_none]
    rw [List.length_map, zs_len, List.length_map, List.length_range]
    omega
theorem zs_getD {l : List Nat} {i : Nat} (h : i < l.length) : (zs l).getD i 0 = ((l.getD i 0 : Nat) : Int) := by
  unfold zs
  rw [List.getD_eq_getElem?_getD, List.getElem?_map, List.getElem?_eq_getElem h, List.getD_eq_getElem?_getD, List.getElem?_eq_getElem h]
  rfl
theorem getD_rangeN {g : Nat → Nat} {n i : Nat} (h : i < n) : ((List.range n).map g).getD i 0 = g i := by
  rw [List.getD_eq_getElem?_getD, List.getElem?_map, List.getElem?_range h]
  rfl
theorem sm_row {n : Nat} {g : Nat → Nat} (h1 : 0 < n) (h2 : n ≤ 10) (h : ∀ i, i < n → g i < n) : Sm (((n : Nat) : Int), zs ((List.range n).map g)) ∧ ∀ i, i < n → nxt (((n : Nat) : Int), zs ((List.range n).map g)) i = g i := by
  have hl : (zs ((List.range n).map g)).length = n := by rw [zs_len, List.length_map, List.length_range]
  refine ⟨⟨⟨⟨by show (zs _).length ≤ 1000; omega, ⟨by show (0 : Int) ≤ (n : Nat); omega, by show ((n : Nat) : Int) ≤ 1000; omega⟩, fun x hx => ?_⟩, by show ((n : Nat) : Int) = ((zs _).length : Nat); rw [hl]⟩, by show (zs _).length ≤ 10; omega, by show 0 < (zs _).length; omega⟩, fun i hi => ?_⟩
  · obtain ⟨y, hy, rfl⟩ := List.mem_map.mp (show x ∈ zs ((List.range n).map g) from hx)
    obtain ⟨i, hi, rfl⟩ := List.mem_map.mp hy
    have := h i (List.mem_range.mp hi)
    show 0 ≤ ((g i : Nat) : Int) ∧ ((g i : Nat) : Int) < ((n : Nat) : Int)
    omega
  · show ((zs ((List.range n).map g)).getD i 0).toNat = g i
    rw [zs_getD (by rw [List.length_map, List.length_range]; exact hi), getD_rangeN hi, Int.toNat_natCast]
theorem renamed_ex {a : Mp} (S : Sm a) {π : Nat → Nat} (hp : ((List.range a.2.length).map π).Perm (List.range a.2.length)) :
    ∃ b : Mp, Sm b ∧ b.2.length = a.2.length ∧ Iso a.2.length (nxt a) (nxt b) π ∧ phi__law_renamed [mpD a, .tuple ((zs ((List.range a.2.length).map π)).map .int)] = some (.ok (mpD b)) := by
  have hf := nxt_all S.inn
  have few := S.few
  have lt : ∀ x, x < a.2.length → π x < a.2.length := fun x hx => List.mem_range.mp (hp.mem_iff.mp (List.mem_map_of_mem (List.mem_range.mpr hx)))
  have inj : ∀ x y, x < a.2.length → y < a.2.length → π x = π y → x = y := fun x y hx hy e => by
    have I : Iso a.2.length (fun x => x) (fun x => x) π := ⟨hp, fun x _ => rfl⟩
    exact I.inj hx hy e
  have onto : ∀ y, y < a.2.length → ∃ x, x < a.2.length ∧ π x = y := fun y hy => by
    have I : Iso a.2.length (fun x => x) (fun x => x) π := ⟨hp, fun x _ => rfl⟩
    exact I.onto hy
  have hz : (zs ((List.range a.2.length).map π)).length = a.2.length := by rw [zs_len, List.length_map, List.length_range]
  have at1 : ∀ i, i < a.2.length → gIx (.tuple ((zs ((List.range a.2.length).map π)).map .int)) (.int (i : Nat)) = some (.int ((π i : Nat) : Int)) := fun i hi => by
    have := ix_row (m := (0, zs ((List.range a.2.length).map π))) (i := i) (by show i < (zs _).length; omega)
    rw [this]
    show some (PyData.int ((zs ((List.range a.2.length).map π)).getD i 0)) = _
    rw [zs_getD (by rw [List.length_map, List.length_range]; exact hi), getD_rangeN hi]
  generalize hNM : zs ((List.range a.2.length).map π) = NM at *
  have q := lc_sq (vs := [3]) (j := 3) (fs := fVar 1) (f := fC .none) (ρ := [some (mpD a), some (.tuple (NM.map .int)), none, none, none]) (w := PyData.int) (l := NM) (g := fun _ => .none) (d := .tuple (NM.map .int)) rfl rfl (by omega) (fun _ _ => rfl)
  have e0 : g__law_renamed_0 [some (mpD a), some (.tuple (NM.map .int)), none, none, none] = some (.nx [some (mpD a), some (.tuple (NM.map .int)), some (.list (NM.map fun _ => .none)), none, none]) := by
    unfold g__law_renamed_0 gOwn
    rw [q]
    rfl
  have loop := for_en (fs := f2 gIx (fVar 0) (fC (.int 1))) (j1 := 3) (j2 := 4) (b := g__law_renamed_1b0) (ρ := [some (mpD a), some (.tuple (NM.map .int)), some (.list (NM.map fun _ => .none)), none, none]) (r := a.2) (d := .tuple (a.2.map .int))
    (fun i ρ => i ≤ a.2.length ∧ ∃ L o3 o4, ρ = [some (mpD a), some (.tuple (NM.map .int)), some (.list L), o3, o4] ∧ L.length = a.2.length ∧ ∀ k, k < i → L[π k]? = some (.int ((π (nxt a k) : Nat) : Int))) (fun _ => False) (by simp) (.inl rfl) (fun i hi ρ hρ => by
      obtain ⟨_, L, o3, o4, rfl, hL, hk⟩ := hρ
      refine .inl ⟨[some (mpD a), some (.tuple (NM.map .int)), some (.list (L.set (π i) (.int ((π (nxt a i) : Nat) : Int)))), some (.int (i : Nat)), some (.int (a.2.getD i 0))], ?_, hi, _, _, _, rfl, by rw [List.length_set]; exact hL, fun k hk2 => ?_⟩
      · show g__law_renamed_1b0 [some (mpD a), some (.tuple (NM.map .int)), some (.list L), some (.int (i : Nat)), some (.int (a.2.getD i 0))] = _
        have x1 := at1 i hi
        have x2 := at1 (nxt a i) (hf i hi)
        rw [← nxt_eq S.inn hi] at x2
        have x3 : ixN L.length ((π i : Nat) : Int) = some (π i) := by
          have := ixN_of (n := L.length) (x := ((π i : Nat) : Int)) ⟨by omega, by have := lt i hi; omega⟩
          rwa [Int.toNat_natCast] at this
        unfold g__law_renamed_1b0 gSet f2
        simp only [fVar, lstAt, List.getElem?_cons_succ, List.getElem?_cons_zero, Option.bind_some, x1, x2, x3]
        rfl
      · by_cases e : k = i
        · subst e
          rw [List.getElem?_set_self (by have := lt k hi; omega)]
        · have ne : π i ≠ π k := fun z => e (inj k i (by omega) hi z.symm)
          rw [List.getElem?_set_ne ne]
          exact hk k (by omega)) ⟨Nat.zero_le _, _, none, none, rfl, by rw [List.length_map, hz], fun k hk => absurd hk (Nat.not_lt_zero k)⟩
  obtain ⟨ρ', e1, _, L, o3, o4, rfl, hL, hk⟩ := loop.resolve_right fun ⟨_, _, z⟩ => z
  have full : ∀ y, y < a.2.length → ∃ v : Nat, v < a.2.length ∧ L[y]? = some (.int (v : Nat)) := fun y hy => by
    obtain ⟨x, hx, rfl⟩ := onto y hy
    exact ⟨π (nxt a x), lt _ (hf x hx), hk x hx⟩
  have hrow := row_all hL fun y hy => (full y hy).imp fun _ h => h.2
  obtain ⟨Sb, nb⟩ := sm_row (g := rowV L) S.pos S.few fun y hy => by
    obtain ⟨v, h1, h2⟩ := full y hy
    rw [rowV_eq h2]
    exact h1
  refine ⟨(((a.2.length : Nat) : Int), zs ((List.range a.2.length).map (rowV L))), Sb, by show (zs _).length = _; rw [zs_len, List.length_map, List.length_range], ⟨hp, fun x hx => ?_⟩, ?_⟩
  · rw [nb _ (lt x hx)]
    exact rowV_eq (hk x hx)
  · have hsame := S.inn.same
    generalize hR : zs ((List.range a.2.length).map (rowV L)) = R at *
    have e2 : g__law_renamed_2 [some (mpD a), some (.tuple (NM.map .int)), some (.list L), o3, o4] = some (.ret (mpD (((a.2.length : Nat) : Int), R))) := by
      rw [hrow, ← hsame]
      rfl
    have e : g__law_renamed [some (mpD a), some (.tuple (NM.map .int)), none, none, none] = some (.ret (mpD (((a.2.length : Nat) : Int), R))) := by
      unfold g__law_renamed
      rw [blk_nx e0, show g__law_renamed_1 = gFor (iEn (f2 gIx (fVar 0) (fC (.int 1)))) (hSeq 2 (hCons (hName 3) (hCons (hName 4) hNil))) g__law_renamed_1b0 from rfl, blk_nx e1, e2]
    exact def_ret rfl e
theorem iso_one {n : Nat} {f π : Nat → Nat} {b b' : Mp} (S : Sm b) (S' : Sm b') (h : b.2.length = n) (h' : b'.2.length = n) (I : Iso n f (nxt b) π) (I' : Iso n f (nxt b') π) : b = b' := by
  have e1 : b.1 = b'.1 := by rw [S.inn.same, S'.inn.same, h, h']
  have e2 : b.2 = b'.2 := by
    refine List.ext_getElem (by rw [h, h']) fun y h1 h2 => ?_
    obtain ⟨x, hx, rfl⟩ := I.onto (show y < n by omega)
    have q1 := nxt_eq S.inn (x := π x) h1
    have q2 := nxt_eq S'.inn (x := π x) h2
    rw [I.led x hx] at q1
    rw [I'.led x hx] at q2
    rw [List.getD_eq_getElem?_getD, List.getElem?_eq_getElem h1] at q1
    rw [List.getD_eq_getElem?_getD, List.getElem?_eq_getElem h2] at q2
    exact (show b.2[π x] = _ from q1).trans (show b'.2[π x] = _ from q2).symm
  exact Prod.ext e1 e2
end Lw

namespace Lw
open PySem PySem.Spec PyProof.Rows L2 DL Mt
variable [Tabl]
/-! ### right, refused, all the rows of names -/
theorem kit_ss : kitB "str" "str" = some true := by decide +kernel
theorem kit_tt : kitB "tuple" "tuple" = some true := by decide +kernel
theorem gEq_bool (neg a b : Bool) : gEq neg (.bool a) (.bool b) = some (.bool (xor neg (a == b))) := by
  unfold gEq
  rw [if_pos ⟨shaped_of (shK_bool (k := 1) (by decide) a) (by decide), shaped_of (shK_bool (k := 1) (by decide) b) (by decide)⟩]
  cases a <;> cases b <;> rfl
/-- what stands first in right -/
theorem right_1 {a b : Mp} (S : Sm a) (S' : Sm b) {d : PyData} {z : Bool} (hd : gIs false d .none = some (.bool z)) (h : z = !decide (PTa a = PTa b)) : g__law_right_1 [some (mpD a), some (mpD b), some d] = some (.nx [some (mpD a), some (mpD b), some d]) := by
  have p1 : fCall phi_plain (fCons (fVar 0) fNil) [some (mpD a), some (mpD b), some d] = some (.str (PTa a)) := by
    unfold fCall fCons fNil
    show (phi_plain [mpD a]).bind _ = _
    rw [plain_eq S]
    rfl
  have c1 : fTru (f1 (gIsi "str") (fCall phi_plain (fCons (fVar 0) fNil))) [some (mpD a), some (mpD b), some d] = some true := by
    unfold fTru f1
    rw [p1]
    show ((kitB "str" "str").map PyData.bool).bind gTru = _
    rw [kit_ss]
    rfl
  have c2 : f2 (gEq true) (f2 (gIs false) (fVar 2) (fC .none)) (f2 (gEq true) (fCall phi_plain (fCons (fVar 0) fNil)) (fCall phi_plain (fCons (fVar 1) fNil))) [some (mpD a), some (mpD b), some d] = some (.bool false) := by
    have y1 : f2 (gIs false) (fVar 2) (fC .none) [some (mpD a), some (mpD b), some d] = some (.bool z) := hd
    rw [f2_of y1 (plain_cmp S S' rfl rfl), gEq_bool, h]
    simp
  unfold g__law_right_1
  rw [if_f]
  · rfl
  · unfold bOr bNot fB
    rw [c1, c2]
    rfl
theorem right_eq {a b : Mp} (S : Sm a) (S' : Sm b) : phi__law_right [mpD a, mpD b] = some (.ok (.bool true)) := by
  by_cases h : PTa a = PTa b
  · obtain ⟨nm, e, hl, I⟩ := ren_some S S' h
    obtain ⟨b', Sb, hb, I', er⟩ := renamed_ex S I.perm
    have eb : b' = b := iso_one Sb S' hb hl.symm I' I
    rw [eb] at er
    have hs := isort_row I.perm
    have few := S.few
    have same := S.inn.same
    have hz : (zs ((List.range a.2.length).map nm)).length = a.2.length := by rw [zs_len, List.length_map, List.length_range]
    generalize zs ((List.range a.2.length).map nm) = NM at *
    have e0 : g__law_right_0 [some (mpD a), some (mpD b), none] = some (.nx [some (mpD a), some (mpD b), some (.tuple [.tuple (NM.map .int)])]) := by
      show (phi_renaming [mpD a, mpD b]).bind _ = _
      rw [e]
      rfl
    have e1 := right_1 S S' (d := .tuple [.tuple (NM.map .int)]) (z := false) rfl (by rw [decide_eq_true h]; rfl)
    have e2 : g__law_right_2 [some (mpD a), some (mpD b), some (.tuple [.tuple (NM.map .int)])] = some (.nx [some (mpD a), some (mpD b), some (.tuple [.tuple (NM.map .int)])]) := by
      unfold g__law_right_2
      rw [if_f]
      · rfl
      · rfl
    have e3 : g__law_right_3 [some (mpD a), some (mpD b), some (.tuple [.tuple (NM.map .int)])] = some (.nx [some (mpD a), some (mpD b), some (.tuple [.tuple (NM.map .int)])]) := by
      unfold g__law_right_3
      have c1 : fTru (f1 (gIsi "tuple") (fVar 2)) [some (mpD a), some (mpD b), some (.tuple [.tuple (NM.map .int)])] = some true := by
        show ((kitB "tuple" "tuple").map PyData.bool).bind gTru = _
        rw [kit_tt]
        rfl
      have c2 : f2 (gEq true) (fBi gLen (fCons (fVar 2) fNil)) (fC (.int 1)) [some (mpD a), some (mpD b), some (.tuple [.tuple (NM.map .int)])] = some (.bool false) := by
        show gEq true (.int 1) (.int 1) = _
        rw [gEq_int]
        rfl
      have c3 : f2 (gEq true) (fBi gSortI (fCons (f2 gIx (fVar 2) (fC (.int 0))) fNil)) (fFr (gRgL (f2 gIx (fVar 0) (fC (.int 0))))) [some (mpD a), some (mpD b), some (.tuple [.tuple (NM.map .int)])] = some (.bool false) := by
        have y1 : fBi gSortI (fCons (f2 gIx (fVar 2) (fC (.int 0))) fNil) [some (mpD a), some (mpD b), some (.tuple [.tuple (NM.map .int)])] = some (.list ((idr a.2.length).map .int)) := by
          show gSortI [.tuple (NM.map .int)] = _
          unfold gSortI
          simp only [intsD_map, Option.bind_some]
          rw [if_pos (by omega), hs]
        have y2 : fFr (gRgL (f2 gIx (fVar 0) (fC (.int 0)))) [some (mpD a), some (mpD b), some (.tuple [.tuple (NM.map .int)])] = some (.list ((idr a.2.length).map .int)) := by
          refine fFr_of ?_
          show (if 0 ≤ a.1 ∧ a.1 ≤ 1000000 then some (rgD 0 a.1.toNat) else none) = _
          rw [if_pos ⟨by omega, by omega⟩, same, Int.toNat_natCast, rgD_idr]
        rw [f2_of y1 y2, gEq_intsL]
        simp
      rw [if_f]
      · rfl
      · unfold bOr bNot fB
        rw [c1, c2, c3]
        rfl
    have e4 : g__law_right_4 [some (mpD a), some (mpD b), some (.tuple [.tuple (NM.map .int)])] = some (.ret (.bool true)) := by
      unfold g__law_right_4 gRet
      have y1 : fCall phi__law_renamed (fCons (fVar 0) (fCons (f2 gIx (fVar 2) (fC (.int 0))) fNil)) [some (mpD a), some (mpD b), some (.tuple [.tuple (NM.map .int)])] = some (mpD b) := by
        show (phi__law_renamed [mpD a, .tuple (NM.map .int)]).bind _ = _
        rw [er]
        rfl
      have y2 : fVar 1 [some (mpD a), some (mpD b), some (.tuple [.tuple (NM.map .int)])] = some (mpD b) := rfl
      rw [f2_of y1 y2, gEq_map]
      simp
    refine def_ret rfl (?_ : g__law_right [some (mpD a), some (mpD b), none] = _)
    unfold g__law_right
    rw [blk_nx e0, blk_nx e1, blk_nx e2, blk_nx e3, e4]
  · have e := ren_none S S' h
    have e0 : g__law_right_0 [some (mpD a), some (mpD b), none] = some (.nx [some (mpD a), some (mpD b), some .none]) := by
      show (phi_renaming [mpD a, mpD b]).bind _ = _
      rw [e]
      rfl
    have e1 := right_1 S S' (d := .none) (z := true) rfl (by rw [decide_eq_false h]; rfl)
    have e2 : g__law_right_2 [some (mpD a), some (mpD b), some .none] = some (.ret (.bool true)) := by
      unfold g__law_right_2
      rw [if_t]
      · rfl
      · rfl
    refine def_ret rfl (?_ : g__law_right [some (mpD a), some (mpD b), none] = _)
    unfold g__law_right
    rw [blk_nx e0, blk_nx e1, blk_ret e2]
theorem refused_eq {a b : Mp} (S : Sm a) (h : ¬ (b.1 = (b.2.length : Nat) ∧ 0 < b.1)) {i : Nat} (hi : i < 3) : phi__law_refused [.int (i : Nat), mpD b, mpD a] = some (.ok (.bool true)) := by
  have h0 := plain_no h
  have h1 := ren_no1 (b := a) h
  have h2 := ren_no2 S h
  have hi4 : i = 0 ∨ i = 1 ∨ i = 2 := by omega
  rcases hi4 with rfl | rfl | rfl <;>
  simp [phi__law_refused, g__law_refused, g__law_refused_0, g__law_refused_1, g__law_refused_1y0, g__law_refused_1y0t0, g__law_refused_1y0e0, g__law_refused_1y0e0t0, g__law_refused_1y0e0e0, g__law_refused_1x0, g__law_refused_2, h0, h1, h2]
abbrev rD (r : List Nat) : PyData := .tuple ((zs r).map .int)
abbrev apRho (o0 o1 o2 o3 o4 o5 : Option PyData) : Rho := [o0, o1, o2, o3, o4, o5]
theorem put_len2 (k : Nat) (r : List Nat) : (putEach k r).length = r.length + 1 := by unfold putEach; rw [List.length_map, List.length_range]
theorem ap_inner {o0 o1 o5 : Option PyData} {k m : Nat} (hk : k ≤ 5) : ∀ {rows : List (List Nat)} {acc : List PyData} {o4 : Option PyData}, (∀ r ∈ rows, r.length = k) → acc.length + rows.length * (k + 1) ≤ 10000 →
    ∃ o4', forF (hName 4) g__law_all_perms_1b1b0 (rows.map rD) (apRho o0 o1 (some (.int (k : Nat))) (some (.list acc)) o4 o5) = some (.nx (apRho o0 o1 (some (.int (k : Nat))) (some (.list (acc ++ (rows.flatMap (putEach k)).map rD))) o4' o5))
  | [], acc, o4, _, _ => ⟨o4, by
    show some (Out.nx _) = _
    simp⟩
  | r :: rows, acc, o4, hr, h => by
    rw [List.length_cons, Nat.succ_mul] at h
    have hl := hr r List.mem_cons_self
    have q := lc_rg (vs := [5]) (j := 5) (fn := f2 gAdd (fBi gLen (fCons (fVar 4) fNil)) (fC (.int 1))) (f := f2 gAdd (f2 gAdd (fSl (fVar 4) pNone (pSome (fVar 5))) (fTup (fCons (fVar 2) fNil))) (fSl (fVar 4) (pSome (fVar 5)) pNone)) (ρ := apRho o0 o1 (some (.int (k : Nat))) (some (.list acc)) (some (rD r)) o5) (n := ((r.length + 1 : Nat) : Int)) (g := fun i => rD (r.take i ++ [k] ++ r.drop i))
      (by
        show some (PyData.int (((((zs r).map PyData.int).length : Nat) : Int) + 1)) = _
        rw [List.length_map, zs_len]
        rfl) (by omega) (fun i hi => by
      have c1 := cutA_from ((zs r).map PyData.int) (k := ((i : Nat) : Int)) (Int.natCast_nonneg i)
      have c2 := cutA_to ((zs r).map PyData.int) (k := ((i : Nat) : Int)) (Int.natCast_nonneg i)
      rw [Int.toNat_natCast, ← List.map_drop, zs_drop] at c1
      rw [Int.toNat_natCast, ← List.map_take, zs_take] at c2
      generalize hρ : (wipeR (apRho o0 o1 (some (.int (k : Nat))) (some (.list acc)) (some (rD r)) o5) [5]).set 5 (some (.int ((i : Nat) : Int))) = ρ
      have v2 : fVar 2 ρ = some (.int (k : Nat)) := by rw [← hρ]; rfl
      have v4 : fVar 4 ρ = some (rD r) := by rw [← hρ]; rfl
      have v5 : fVar 5 ρ = some (.int ((i : Nat) : Int)) := by rw [← hρ]; rfl
      have s1 : fSl (fVar 4) pNone (pSome (fVar 5)) ρ = some (rD (r.take i)) := by
        unfold fSl pSome pNone
        rw [v4, v5]
        show some (PyData.tuple (cutA ((zs r).map .int) none (some ((i : Nat) : Int)))) = _
        rw [c2]
      have s2 : fSl (fVar 4) (pSome (fVar 5)) pNone ρ = some (rD (r.drop i)) := by
        unfold fSl pSome pNone
        rw [v4, v5]
        show some (PyData.tuple (cutA ((zs r).map .int) (some ((i : Nat) : Int)) none)) = _
        rw [c1]
      have s3 : fTup (fCons (fVar 2) fNil) ρ = some (rD [k]) := by
        unfold fTup fCons fNil
        rw [v2]
        rfl
      have add : ∀ x y : List Nat, x.length ≤ 1000 → y.length ≤ 1000 → gAdd (rD x) (rD y) = some (rD (x ++ y)) := fun x y hx hy => by
        have : gAdd (rD x) (rD y) = some (.tuple ((zs x).map .int ++ (zs y).map .int)) := if_pos (by rw [List.length_map, List.length_map, zs_len, zs_len]; omega)
        rw [this, ← List.map_append, ← zs_app]
      rw [f2_of ((f2_of s1 s3).trans (add _ _ (by rw [List.length_take]; omega) (by rw [List.length_singleton]; decide))) s2]
      exact add _ _ (by rw [List.length_append, List.length_take, List.length_singleton]; omega) (by rw [List.length_drop]; omega))
    rw [Int.toNat_natCast] at q
    have el : ((List.range (r.length + 1)).map fun (i : Nat) => rD (r.take i ++ [k] ++ r.drop i)) = (putEach k r).map rD := by
      unfold putEach
      rw [List.map_map]
      rfl
    rw [el] at q
    have c2 : acc.length + ((putEach k r).map rD).length ≤ 1000000 := by
      rw [List.length_map, put_len2]
      omega
    have e : g__law_all_perms_1b1b0 (apRho o0 o1 (some (.int (k : Nat))) (some (.list acc)) (some (rD r)) o5) = some (.nx (apRho o0 o1 (some (.int (k : Nat))) (some (.list (acc ++ (putEach k r).map rD))) (some (rD r)) o5)) := by
      unfold g__law_all_perms_1b1b0 gExt
      rw [show lstAt 3 (apRho o0 o1 (some (.int (k : Nat))) (some (.list acc)) (some (rD r)) o5) = some acc from rfl, Option.bind_some, q, Option.bind_some, if_pos c2]
      rfl
    obtain ⟨o4', e2⟩ := ap_inner (o0 := o0) (o1 := o1) (o5 := o5) (m := m) hk (rows := rows) (acc := acc ++ (putEach k r).map rD) (o4 := some (rD r)) (fun x hx => hr x (List.mem_cons_of_mem _ hx)) (by
      rw [List.length_append, List.length_map, put_len2]
      omega)
    refine ⟨o4', ?_⟩
    rw [List.map_cons, for_cons_nx rfl e, e2, List.flatMap_cons, List.map_append, List.append_assoc]
theorem all_perms_eq {n : Nat} (hn : n ≤ 5) : phi__law_all_perms [.int n] = some (.ok (.list ((permsN n).map rD))) := by
  have hB : B62 (n : Int) := ⟨by omega, by omega⟩
  have e0 : g__law_all_perms_0 (apRho (some (.int n)) none none none none none) = some (.nx (apRho (some (.int n)) (some (.list ((permsN 0).map rD))) none none none none)) := rfl
  have hi : iR1 (fVar 0) (apRho (some (.int n)) (some (.list ((permsN 0).map rD))) none none none none) = some (rgD 0 n) := by simp [hB]
  obtain ⟨ρ', e1, o2, o4, rfl⟩ := for_rgN (j := 2) (b := g__law_all_perms_1b) (fun i ρ => ∃ o2 o4, ρ = apRho (some (.int n)) (some (.list ((permsN i).map rD))) o2 none o4 none) hi (fun i hi ρ ⟨o2, o4, hρ⟩ => by
    subst hρ
    have h1 := permsN_len ⟨i, by omega⟩
    have s0 : g__law_all_perms_1b0 (apRho (some (.int n)) (some (.list ((permsN i).map rD))) (some (.int i)) none o4 none) = some (.nx (apRho (some (.int n)) (some (.list ((permsN i).map rD))) (some (.int i)) (some (.list [])) o4 none)) := rfl
    obtain ⟨o4', s1⟩ := ap_inner (o0 := some (.int n)) (o1 := some (.list ((permsN i).map rD))) (o5 := none) (k := i) (m := 0) (by omega) (rows := permsN i) (acc := []) (o4 := o4) (fun r hr => permsN_row hr) (by
      have h1 : (permsN i).length ≤ 120 := h1
      have : (permsN i).length * (i + 1) ≤ 120 * 6 := Nat.mul_le_mul h1 (by omega)
      show 0 + _ ≤ _
      omega)
    have s1' : g__law_all_perms_1b1 (apRho (some (.int n)) (some (.list ((permsN i).map rD))) (some (.int i)) (some (.list [])) o4 none) = some (.nx (apRho (some (.int n)) (some (.list ((permsN i).map rD))) (some (.int i)) (some (.list ((permsN (i + 1)).map rD))) o4' none)) := s1
    refine ⟨apRho (some (.int n)) (some (.list ((permsN (i + 1)).map rD))) (some (.int i)) none o4' none, ?_, _, _, rfl⟩
    show g__law_all_perms_1b (apRho (some (.int n)) (some (.list ((permsN i).map rD))) (some (.int i)) none o4 none) = _
    unfold g__law_all_perms_1b
    rw [blk_nx s0, blk_nx s1']
    rfl) ⟨none, none, rfl⟩
  refine def_ret rfl (?_ : g__law_all_perms (apRho (some (.int n)) none none none none none) = _)
  unfold g__law_all_perms
  rw [blk_nx e0, show g__law_all_perms_1 = gFor (iR1 (fVar 0)) (hName 2) g__law_all_perms_1b from rfl, blk_nx e1]
  rfl
end Lw

namespace Lw
open PySem PySem.Spec PyProof.Rows L2 DL Mt
variable [Tabl]
/-! ### the law -/
abbrev lawRho (S : PyData) (o1 o2 o3 o4 o5 o6 o7 o8 o9 o10 : Option PyData) : Rho := [some S, o1, o2, o3, o4, o5, o6, o7, o8, o9, o10]
def Pl (S : PyData) (ρ : Rho) : Prop := ∃ o1 o2 o3 o4 o5 o6 o7 o8 o9 o10, ρ = lawRho S o1 o2 o3 o4 o5 o6 o7 o8 o9 o10
theorem call2 {φ : List PyData → Option (Except Nat PyData)} {fa fb : Fn} {ρ : Rho} {x y d : PyData} (ha : fa ρ = some x) (hb : fb ρ = some y) (h : φ [x, y] = some (.ok d)) : fCall φ (fCons fa (fCons fb fNil)) ρ = some d := by
  unfold fCall fCons fNil
  rw [ha, hb]
  show (φ [x, y]).bind _ = _
  rw [h]
  rfl
theorem same_pt {a b : Mp} (S : Sm a) (S' : Sm b) (h : b.2.length = a.2.length) {π : Nat → Nat} (I : Iso a.2.length (nxt a) (nxt b) π) : PTa a = PTa b := by
  have hf' : ∀ x, x < a.2.length → nxt b x < a.2.length := fun x hx => by
    have := nxt_all S'.inn x (by omega)
    omega
  have := same_text (D := 10) ssort_eq minL_one (nxt_all S.inn) hf' I
  show PT ssort minL (nxt a) a.2.length 10 = PT ssort minL (nxt b) b.2.length 10
  rw [h, this]
theorem not_pt {a b : Mp} (S : Sm a) (S' : Sm b) (h : a.2.length ≠ b.2.length) : PTa a ≠ PTa b := fun e => by
  obtain ⟨_, _, q, _⟩ := ren_some S S' e
  exact h q
/-- the map with one thing led elsewhere -/
def near (a : Mp) (i : Nat) : Mp := (a.1, a.2.take i ++ [(a.2.getD i 0 + 1) % a.1] ++ a.2.drop (i + 1))
theorem near_len {a : Mp} {i : Nat} (hi : i < a.2.length) : (near a i).2.length = a.2.length := by
  show (a.2.take i ++ [_] ++ a.2.drop (i + 1)).length = _
  rw [List.length_append, List.length_append, List.length_take, List.length_drop, List.length_singleton]
  omega
theorem near_sm {a : Mp} (S : Sm a) {i : Nat} (hi : i < a.2.length) : Sm (near a i) := by
  have hl := near_len hi
  have same := S.inn.same
  have few := S.few
  have hp : 0 < a.1 := by omega
  refine ⟨⟨⟨by omega, S.inn.wf.rng, fun x hx => ?_⟩, by rw [hl]; exact same⟩, by omega, by omega⟩
  rcases List.mem_append.mp (show x ∈ a.2.take i ++ [(a.2.getD i 0 + 1) % a.1] ++ a.2.drop (i + 1) from hx) with h | h
  · rcases List.mem_append.mp h with h | h
    · exact S.inn.wf.lt x (List.mem_of_mem_take h)
    · rw [List.mem_singleton] at h
      rw [h]
      exact ⟨Int.emod_nonneg _ (by omega), Int.emod_lt_of_pos _ hp⟩
  · exact S.inn.wf.lt x (List.mem_of_mem_drop h)
/-- the map of one thing more -/
def longer (a : Mp) : Mp := (a.1 + 1, a.2 ++ [a.1])
theorem longer_len (a : Mp) : (longer a).2.length = a.2.length + 1 := List.length_append
theorem longer_sm {a : Mp} (S : Sm a) (h7 : a.2.length ≤ 7) : Sm (longer a) := by
  have hl := longer_len a
  have same := S.inn.same
  refine ⟨⟨⟨by omega, ⟨by show 0 ≤ a.1 + 1; omega, by show a.1 + 1 ≤ 1000; omega⟩, fun x hx => ?_⟩, by rw [hl]; show a.1 + 1 = _; omega⟩, by omega, by omega⟩
  show 0 ≤ x ∧ x < a.1 + 1
  rcases List.mem_append.mp (show x ∈ a.2 ++ [a.1] from hx) with h | h
  · have := S.inn.wf.lt x h
    omega
  · rw [List.mem_singleton] at h
    omega
/-- the rows of names that lead the one to the other -/
def Rn (a : Mp) (p : List Nat) : Nat → Nat := fun i => p.getD i 0
theorem names_ex {a : Mp} (S : Sm a) {p : List Nat} (hp : p.Perm (List.range a.2.length)) : ∃ b : Mp, Sm b ∧ b.2.length = a.2.length ∧ Iso a.2.length (nxt a) (nxt b) (fun i => p.getD i 0) ∧ phi__law_renamed [mpD a, rD p] = some (.ok (mpD b)) := by
  have hl : p.length = a.2.length := by
    have := hp.length_eq
    rwa [List.length_range] at this
  have e := row_fn hl
  have := renamed_ex S (π := fun i => p.getD i 0) (by rw [e]; exact hp)
  rwa [e] at this
theorem alike_iff {a b : Mp} (S : Sm a) (S' : Sm b) (h : b.2.length = a.2.length) {R : List Nat → Mp} (hR : ∀ p ∈ permsN a.2.length, Sm (R p) ∧ (R p).2.length = a.2.length ∧ Iso a.2.length (nxt a) (nxt (R p)) (fun i => p.getD i 0)) :
    (PTa a = PTa b) ↔ (permsN a.2.length).filter (fun p => decide (R p = b)) ≠ [] := by
  constructor
  · intro e
    obtain ⟨nm, _, hl, I⟩ := ren_some S S' e
    have hp : (List.range a.2.length).map nm ∈ permsN a.2.length := permsN_mem.mpr I.perm
    obtain ⟨r1, r2, r3⟩ := hR _ hp
    have I2 : Iso a.2.length (nxt a) (nxt b) (fun i => ((List.range a.2.length).map nm).getD i 0) := I.congr (nxt_all S.inn) fun i hi => (getD_rangeN hi).symm
    have : R ((List.range a.2.length).map nm) = b := iso_one r1 S' r2 h r3 I2
    intro z
    have m := (List.mem_filter (p := fun p => decide (R p = b))).mpr ⟨hp, decide_eq_true this⟩
    rw [z] at m
    cases m
  · intro ne
    obtain ⟨p, hp⟩ := List.exists_mem_of_ne_nil _ ne
    obtain ⟨h1, h2⟩ := List.mem_filter.mp hp
    obtain ⟨r1, r2, r3⟩ := hR p h1
    have := of_decide_eq_true h2
    rw [this] at r3
    exact same_pt S S' h r3
theorem ren_is {a b : Mp} (S : Sm a) (S' : Sm b) {ρ : Rho} {i j : Nat} (h1 : fVar i ρ = some (mpD a)) (h2 : fVar j ρ = some (mpD b)) (neg : Bool) : f2 (gIs neg) (fCall phi_renaming (fCons (fVar i) (fCons (fVar j) fNil))) (fC .none) ρ = some (.bool (xor neg (!decide (PTa a = PTa b)))) := by
  by_cases e : PTa a = PTa b
  · obtain ⟨nm, e1, _⟩ := ren_some S S' e
    rw [f2_of (call2 h1 h2 e1) (show fC .none ρ = some .none from rfl), decide_eq_true e]
    rfl
  · rw [f2_of (call2 h1 h2 (ren_none S S' e)) (show fC .none ρ = some .none from rfl), decide_eq_false e]
    rfl
theorem right_t {a b : Mp} (S : Sm a) (S' : Sm b) {ρ : Rho} {i j : Nat} (h1 : fVar i ρ = some (mpD a)) (h2 : fVar j ρ = some (mpD b)) : fTru (fCall phi__law_right (fCons (fVar i) (fCons (fVar j) fNil))) ρ = some true := by
  unfold fTru
  rw [call2 h1 h2 (right_eq S S')]
  rfl
theorem or_ff {f g : Rho → Option Bool} {ρ : Rho} (h1 : f ρ = some false) (h2 : g ρ = some false) : bOr f g ρ = some false := by
  unfold bOr
  rw [h1, Option.bind_some, if_neg Bool.false_ne_true, h2]
theorem not_t {f : Rho → Option Bool} {ρ : Rho} (h1 : f ρ = some true) : bNot f ρ = some false := by
  unfold bNot
  rw [h1]
  rfl
theorem fB_of {f : Fn} {ρ : Rho} {b : Bool} (h : f ρ = some (.bool b)) : fB f ρ = some b := by
  unfold fB
  rw [h]
  rfl
theorem asg_of {f : Fn} {j : Nat} {ρ : Rho} {d : PyData} (h : f ρ = some d) : gAsg f (hName j) ρ = some (.nx (ρ.set j (some d))) := by
  unfold gAsg
  rw [h]
  rfl
theorem f2c {g : PyData → PyData → Option PyData} {fa : Fn} {ρ : Rho} {x k : PyData} (ha : fa ρ = some x) : f2 g fa (fC k) ρ = g x k := f2_of ha rfl
theorem tup2 {fa fb : Fn} {ρ : Rho} {x y : PyData} (ha : fa ρ = some x) (hb : fb ρ = some y) : fTup (fCons fa (fCons fb fNil)) ρ = some (.tuple [x, y]) := by
  show (((fa ρ).bind fun d => (((fb ρ).bind fun d => some [d])).bind fun ds => some (d :: ds)).bind _) = _
  rw [ha, hb]
  rfl
theorem ix0 {a : Mp} {ρ : Rho} {i : Nat} (h : fVar i ρ = some (mpD a)) : f2 gIx (fVar i) (fC (.int 0)) ρ = some (.int a.1) := (f2_of h rfl).trans (gIx_m0 a)
theorem ix1 {a : Mp} {ρ : Rho} {i : Nat} (h : fVar i ρ = some (mpD a)) : f2 gIx (fVar i) (fC (.int 1)) ρ = some (.tuple (a.2.map .int)) := (f2_of h rfl).trans (gIx_m1 a)
theorem add_rows {x y : List Int} (h : x.length + y.length ≤ 1000000) : gAdd (.tuple (x.map .int)) (.tuple (y.map .int)) = some (.tuple ((x ++ y).map .int)) := by
  have : gAdd (.tuple (x.map .int)) (.tuple (y.map .int)) = some (.tuple (x.map .int ++ y.map .int)) := if_pos (by rw [List.length_map, List.length_map]; exact h)
  rw [this, ← List.map_append]
theorem bad_turn {a m : Mp} (Sa : Sm a) (h : ¬ (m.1 = (m.2.length : Nat) ∧ 0 < m.1)) (S : PyData) (o1 o3 o4 o5 o6 o8 o9 o10 : Option PyData) : ∃ ρ', g_law_0b9b0 (lawRho S o1 (some (mpD a)) o3 o4 o5 o6 (some (mpD m)) o8 o9 o10) = some (.nx ρ') ∧ ∃ q10, ρ' = lawRho S o1 (some (mpD a)) o3 o4 o5 o6 (some (mpD m)) o8 o9 q10 := by
  have q := lc_rg (vs := [10]) (j := 10) (fn := fC (.int 3)) (f := fCall phi__law_refused (fCons (fVar 10) (fCons (fVar 7) (fCons (fVar 2) fNil)))) (ρ := lawRho S o1 (some (mpD a)) o3 o4 o5 o6 (some (mpD m)) o8 o9 o10) (n := 3) (g := fun _ => .bool true) rfl (by decide) (fun i hi => by
    show (phi__law_refused [.int (i : Nat), mpD m, mpD a]).bind _ = _
    rw [refused_eq Sa h (by omega)]
    rfl)
  refine ⟨lawRho S o1 (some (mpD a)) o3 o4 o5 o6 (some (mpD m)) o8 o9 o10, ?_, _, rfl⟩
  unfold g_law_0b9b0
  rw [if_f]
  · rfl
  · refine not_t ?_
    unfold fTru
    rw [bi1 (fFr_of q)]
    rfl
theorem body_ok (c : Int) (S : PyData) (o2 o3 o4 o5 o6 o7 o8 o9 o10 : Option PyData) : Good (Pl S) g_law_0b (lawRho S (some (.int c)) o2 o3 o4 o5 o6 o7 o8 o9 o10) := by
  unfold g_law_0b
  obtain ⟨a, Sa, h7, ea⟩ := self_eq c
  have same := Sa.inn.same
  have pos := Sa.pos
  refine Good.step (ρ1 := lawRho S (some (.int c)) (some (mpD a)) o3 o4 o5 o6 o7 o8 o9 o10) (asg_of (call2 rfl rfl ea)) ?_
  obtain ⟨p, hp, ep⟩ := perm_eq (c := c) (n := a.2.length) (by omega)
  rw [← same] at ep
  obtain ⟨b, Sb, hb, I, eb⟩ := names_ex Sa hp
  refine Good.step (ρ1 := lawRho S (some (.int c)) (some (mpD a)) (some (mpD b)) o4 o5 o6 o7 o8 o9 o10) (asg_of (call2 rfl (call2 rfl (ix0 rfl) ep) eb)) ?_
  have pt := same_pt Sa Sb hb I
  refine Good.step (ρ1 := lawRho S (some (.int c)) (some (mpD a)) (some (mpD b)) o4 o5 o6 o7 o8 o9 o10) (by
    unfold g_law_0b2
    rw [if_f]
    · rfl
    · exact or_ff (fB_of ((plain_cmp Sa Sb rfl rfl).trans (by rw [decide_eq_true pt]; rfl))) (not_t (right_t Sa Sb rfl rfl))) ?_
  -- where it is led elsewhere
  obtain ⟨at1, hat1, eat⟩ : ∃ at1 : Nat, at1 < a.2.length ∧ c / 3 % a.1 = ((at1 : Nat) : Int) := by
    have q1 := Int.emod_nonneg (c / 3) (show a.1 ≠ 0 by omega)
    have q2 := Int.emod_lt_of_pos (c / 3) (show 0 < a.1 by omega)
    exact ⟨(c / 3 % a.1).toNat, by omega, by omega⟩
  have hd : CDiv c 3 := ⟨by decide, by decide⟩
  have hap : 0 < a.1 := by omega
  refine Good.step (ρ1 := lawRho S (some (.int c)) (some (mpD a)) (some (mpD b)) (some (.int (at1 : Nat))) o5 o6 o7 o8 o9 o10) (asg_of (by
    have y1 : f2 (gIc CDiv fun i j => i / j) (fVar 1) (fC (.int 3)) (lawRho S (some (.int c)) (some (mpD a)) (some (mpD b)) o4 o5 o6 o7 o8 o9 o10) = some (.int (c / 3)) := by
      rw [f2c (show fVar 1 _ = some (.int c) from rfl)]
      exact if_pos hd
    rw [f2_of y1 (ix0 (i := 2) rfl), ← eat]
    exact if_pos hap)) ?_
  have hN := near_sm Sa hat1
  have hNl := near_len hat1
  refine Good.step (ρ1 := lawRho S (some (.int c)) (some (mpD a)) (some (mpD b)) (some (.int (at1 : Nat))) (some (mpD (near a at1))) o6 o7 o8 o9 o10) (asg_of (by
    generalize hρ : lawRho S (some (.int c)) (some (mpD a)) (some (mpD b)) (some (.int (at1 : Nat))) o5 o6 o7 o8 o9 o10 = ρ
    have v2 : fVar 2 ρ = some (mpD a) := by rw [← hρ]; rfl
    have v4 : fVar 4 ρ = some (.int (at1 : Nat)) := by rw [← hρ]; rfl
    have c1 := cutA_to (a.2.map PyData.int) (k := ((at1 : Nat) : Int)) (Int.natCast_nonneg _)
    have c2 := cutA_from (a.2.map PyData.int) (k := ((at1 : Nat) : Int) + 1) (by omega)
    rw [Int.toNat_natCast, ← List.map_take] at c1
    rw [show (((at1 : Nat) : Int) + 1).toNat = at1 + 1 by omega, ← List.map_drop] at c2
    have s1 : fSl (f2 gIx (fVar 2) (fC (.int 1))) pNone (pSome (fVar 4)) ρ = some (.tuple ((a.2.take at1).map .int)) := by
      unfold fSl
      rw [ix1 v2]
      unfold pSome pNone
      rw [v4]
      show some (PyData.tuple (cutA (a.2.map .int) none (some ((at1 : Nat) : Int)))) = _
      rw [c1]
    have s2 : fSl (f2 gIx (fVar 2) (fC (.int 1))) (pSome (f2 gAdd (fVar 4) (fC (.int 1)))) pNone ρ = some (.tuple ((a.2.drop (at1 + 1)).map .int)) := by
      unfold fSl
      rw [ix1 v2]
      unfold pSome pNone
      rw [f2_of v4 (show fC (.int 1) ρ = some (.int 1) from rfl)]
      show some (PyData.tuple (cutA (a.2.map .int) (some (((at1 : Nat) : Int) + 1)) none)) = _
      rw [c2]
    have s3 : f2 (gIc (fun _ j => 0 < j) fun i j => i % j) (f2 gAdd (f2 gIx (f2 gIx (fVar 2) (fC (.int 1))) (fVar 4)) (fC (.int 1))) (f2 gIx (fVar 2) (fC (.int 0))) ρ = some (.int ((a.2.getD at1 0 + 1) % a.1)) := by
      have y1 : f2 gIx (f2 gIx (fVar 2) (fC (.int 1))) (fVar 4) ρ = some (.int (a.2.getD at1 0)) := (f2_of (ix1 v2) v4).trans (ix_row (m := a) hat1)
      have y2 : f2 gAdd (f2 gIx (f2 gIx (fVar 2) (fC (.int 1))) (fVar 4)) (fC (.int 1)) ρ = some (.int (a.2.getD at1 0 + 1)) := by
        rw [f2c y1]
        rfl
      rw [f2_of y2 (ix0 v2)]
      exact if_pos hap
    have s4 : fTup (fCons (f2 (gIc (fun _ j => 0 < j) fun i j => i % j) (f2 gAdd (f2 gIx (f2 gIx (fVar 2) (fC (.int 1))) (fVar 4)) (fC (.int 1))) (f2 gIx (fVar 2) (fC (.int 0)))) fNil) ρ = some (.tuple ([(a.2.getD at1 0 + 1) % a.1].map .int)) := by
      unfold fTup fCons fNil
      rw [s3]
      rfl
    have few := Sa.few
    have s5 := (f2_of s1 s4).trans (add_rows (by rw [List.length_take, List.length_singleton]; omega))
    have s6 := (f2_of s5 s2).trans (add_rows (by rw [List.length_append, List.length_take, List.length_singleton, List.length_drop]; omega))
    exact tup2 (ix0 (a := a) v2) s6)) ?_
  generalize hne : near a at1 = nr at *
  refine Good.step (ρ1 := lawRho S (some (.int c)) (some (mpD a)) (some (mpD b)) (some (.int (at1 : Nat))) (some (mpD nr)) o6 o7 o8 o9 o10) (by
    unfold g_law_0b5
    rw [if_f]
    · rfl
    · exact or_ff (not_t (right_t Sa hN rfl rfl)) (not_t (right_t Sb hN rfl rfl))) ?_
  -- all the names of a few things
  obtain ⟨q8, e6⟩ : ∃ q8, g_law_0b6 (lawRho S (some (.int c)) (some (mpD a)) (some (mpD b)) (some (.int (at1 : Nat))) (some (mpD nr)) o6 o7 o8 o9 o10) = some (.nx (lawRho S (some (.int c)) (some (mpD a)) (some (mpD b)) (some (.int (at1 : Nat))) (some (mpD nr)) o6 o7 q8 o9 o10)) := by
    have cnd : ∀ o8, fB (f2 (gIb fun i j => decide (i < j)) (f2 gIx (fVar 2) (fC (.int 0))) (fC (.int 6))) (lawRho S (some (.int c)) (some (mpD a)) (some (mpD b)) (some (.int (at1 : Nat))) (some (mpD nr)) o6 o7 o8 o9 o10) = some (decide (a.1 < 6)) := fun o8 => fB_of (by
      rw [f2c (ix0 (a := a) (i := 2) rfl)]
      rfl)
    by_cases h6 : a.1 < 6
    · obtain ⟨R, hR⟩ : ∃ R : List Nat → Mp, ∀ p ∈ permsN a.2.length, (Sm (R p) ∧ (R p).2.length = a.2.length ∧ Iso a.2.length (nxt a) (nxt (R p)) (fun i => p.getD i 0)) ∧ phi__law_renamed [mpD a, rD p] = some (.ok (mpD (R p))) := by
        have : ∀ p, ∃ m : Mp, p ∈ permsN a.2.length → (Sm m ∧ m.2.length = a.2.length ∧ Iso a.2.length (nxt a) (nxt m) (fun i => p.getD i 0)) ∧ phi__law_renamed [mpD a, rD p] = some (.ok (mpD m)) := fun p => by
          by_cases h : p ∈ permsN a.2.length
          · obtain ⟨m, m1, m2, m3, m4⟩ := names_ex Sa (permsN_mem.mp h)
            exact ⟨m, fun _ => ⟨⟨m1, m2, m3⟩, m4⟩⟩
          · exact ⟨a, fun z => absurd z h⟩
        exact ⟨fun p => Classical.choose (this p), fun p => Classical.choose_spec (this p)⟩
      have iff := alike_iff Sa hN hNl fun p hp => (hR p hp).1
      have all := all_perms_eq (n := a.2.length) (by omega)
      rw [← same] at all
      have pl := permsN_len ⟨a.2.length, by omega⟩
      have q := lc_sqF (vs := [9]) (j := 9) (fs := fCall phi__law_all_perms (fCons (f2 gIx (fVar 2) (fC (.int 0))) fNil)) (f := fVar 9) (c := fB (f2 (gEq false) (fCall phi__law_renamed (fCons (fVar 2) (fCons (fVar 9) fNil))) (fVar 5))) (ρ := lawRho S (some (.int c)) (some (mpD a)) (some (mpD b)) (some (.int (at1 : Nat))) (some (mpD nr)) o6 o7 o8 o9 o10) (w := rD) (l := permsN a.2.length) (d := .list ((permsN a.2.length).map rD)) (g := rD) (p := fun p => decide (R p = nr))
        (by
          unfold fCall fCons fNil
          rw [ix0 rfl]
          show (phi__law_all_perms [.int a.1]).bind _ = _
          rw [all]
          rfl) rfl (by
          have pl : (permsN a.2.length).length ≤ 120 := pl
          omega) (fun p hp => ⟨by
          refine fB_of ?_
          refine (f2_of (call2 rfl rfl (hR p hp).2) (show fVar 5 _ = some (mpD nr) from rfl)).trans ?_
          rw [gEq_map, Bool.false_xor], fun _ => rfl⟩)
      refine ⟨some (.list (((permsN a.2.length).filter fun p => decide (R p = nr)).map rD)), ?_⟩
      generalize (permsN a.2.length).filter (fun p => decide (R p = nr)) = al at *
      unfold g_law_0b6
      rw [if_t ((cnd o8).trans (by rw [decide_eq_true h6]))]
      unfold g_law_0b6t
      have s0 : g_law_0b6t0 (lawRho S (some (.int c)) (some (mpD a)) (some (mpD b)) (some (.int (at1 : Nat))) (some (mpD nr)) o6 o7 o8 o9 o10) = some (.nx (lawRho S (some (.int c)) (some (mpD a)) (some (mpD b)) (some (.int (at1 : Nat))) (some (mpD nr)) o6 o7 (some (.list (al.map rD))) o9 o10)) := asg_of (fFr_of q)
      rw [blk_nx s0]
      unfold g_law_0b6t1
      rw [if_f]
      · rfl
      · refine fB_of ?_
        have y1 := ren_is Sa hN (ρ := lawRho S (some (.int c)) (some (mpD a)) (some (mpD b)) (some (.int (at1 : Nat))) (some (mpD nr)) o6 o7 (some (.list (al.map rD))) o9 o10) (i := 2) (j := 5) rfl rfl false
        have y2 : f2 (gEq false) (fBi gLen (fCons (fVar 8) fNil)) (fC (.int 0)) (lawRho S (some (.int c)) (some (mpD a)) (some (mpD b)) (some (.int (at1 : Nat))) (some (mpD nr)) o6 o7 (some (.list (al.map rD))) o9 o10) = some (.bool (decide (((al.length : Nat) : Int) = 0))) := by
          have z1 : fBi gLen (fCons (fVar 8) fNil) (lawRho S (some (.int c)) (some (mpD a)) (some (mpD b)) (some (.int (at1 : Nat))) (some (mpD nr)) o6 o7 (some (.list (al.map rD))) o9 o10) = some (.int ((al.length : Nat) : Int)) := (bi1 rfl).trans (by show some (PyData.int _) = _; rw [List.length_map])
          rw [f2_of z1 (show fC (.int 0) _ = some (.int 0) from rfl), gEq_int, Bool.false_xor]
        rw [f2_of y1 y2, gEq_bool, Bool.false_xor]
        by_cases e : PTa a = PTa nr
        · have ne := iff.mp e
          have : ¬ ((al.length : Nat) : Int) = 0 := fun z => ne (List.eq_nil_of_length_eq_zero (by omega))
          rw [decide_eq_true e, decide_eq_false this]
          rfl
        · have en : al = [] := Classical.byContradiction fun z => e (iff.mpr z)
          rw [decide_eq_false e, en]
          rfl
    · refine ⟨o8, ?_⟩
      unfold g_law_0b6
      rw [if_f ((cnd o8).trans (by rw [decide_eq_false h6]))]
      rfl
  refine Good.step e6 ?_
  have hL := longer_sm Sa h7
  have hLl := longer_len a
  refine Good.step (ρ1 := lawRho S (some (.int c)) (some (mpD a)) (some (mpD b)) (some (.int (at1 : Nat))) (some (mpD nr)) (some (mpD (longer a))) o7 q8 o9 o10) (asg_of (by
    generalize hρ : lawRho S (some (.int c)) (some (mpD a)) (some (mpD b)) (some (.int (at1 : Nat))) (some (mpD nr)) o6 o7 q8 o9 o10 = ρ
    have v2 : fVar 2 ρ = some (mpD a) := by rw [← hρ]; rfl
    have y1 : f2 gAdd (f2 gIx (fVar 2) (fC (.int 0))) (fC (.int 1)) ρ = some (.int (a.1 + 1)) := by
      rw [f2c (ix0 v2)]
      rfl
    have y2 : fTup (fCons (f2 gIx (fVar 2) (fC (.int 0))) fNil) ρ = some (.tuple ([a.1].map .int)) := by
      unfold fTup fCons fNil
      rw [ix0 v2]
      rfl
    have few := Sa.few
    have y3 := (f2_of (ix1 v2) y2).trans (add_rows (by rw [List.length_singleton]; omega))
    exact tup2 y1 y3)) ?_
  generalize hlo : longer a = lo at *
  have ptl : PTa lo ≠ PTa a := not_pt hL Sa (by omega)
  refine Good.step (ρ1 := lawRho S (some (.int c)) (some (mpD a)) (some (mpD b)) (some (.int (at1 : Nat))) (some (mpD nr)) (some (mpD lo)) o7 q8 o9 o10) (by
    unfold g_law_0b8
    rw [if_f]
    · rfl
    · exact or_ff (not_t (right_t Sa hL rfl rfl)) (fB_of ((ren_is hL Sa rfl rfl true).trans (by rw [decide_eq_false ptl]; rfl)))) ?_
  -- maps that are not into themselves
  have hgood : Good (fun ρ => ∃ q7 q10, ρ = lawRho S (some (.int c)) (some (mpD a)) (some (mpD b)) (some (.int (at1 : Nat))) (some (mpD nr)) (some (mpD lo)) q7 q8 o9 q10) g_law_0b9 (lawRho S (some (.int c)) (some (mpD a)) (some (mpD b)) (some (.int (at1 : Nat))) (some (mpD nr)) (some (mpD lo)) o7 q8 o9 o10) := by
    unfold g_law_0b9
    refine Good.loop (ds := [mpD (0, []), mpD (2, [0]), mpD (1, [0, 0])]) ?_ (fun d hd ρ hρ => ?_) ⟨_, _, rfl⟩
    · simp [mpD, mapD]
    · obtain ⟨q7, q10, rfl⟩ := hρ
      have key : ∃ m : Mp, d = mpD m ∧ ¬ (m.1 = (m.2.length : Nat) ∧ 0 < m.1) := by
        simp only [List.mem_cons, List.not_mem_nil, or_false] at hd
        rcases hd with rfl | rfl | rfl
        · exact ⟨_, rfl, by decide⟩
        · exact ⟨_, rfl, by decide⟩
        · exact ⟨_, rfl, by decide⟩
      obtain ⟨m, rfl, hm⟩ := key
      obtain ⟨ρ', e, q, rfl⟩ := bad_turn Sa hm S (some (.int c)) (some (mpD b)) (some (.int (at1 : Nat))) (some (mpD nr)) (some (mpD lo)) q8 o9 q10
      exact ⟨_, rfl, _, e, _, _, rfl⟩
  obtain ⟨ρ', e9, q7, q10, rfl⟩ := hgood
  exact Good.last e9 ⟨_, _, _, _, _, _, _, _, _, _, rfl⟩
theorem txt3_eq {r : List Int} (h : r.length = 3) : PTa ((3 : Int), r) = txt3 r := by
  show PT ssort minL (nxt ((3 : Int), r)) r.length 10 = PT sIns minL _ 3 10
  rw [ssort_ins, h]
  rfl
theorem law_plain (ns : List Int) (hl : ns.length ≤ 63) : phi_law [.dict (scrK ns)] = some (.ok (.bool true)) := by
  have h0 : Good (Pl (.dict (scrK ns))) g_law_0 (lawRho (.dict (scrK ns)) none none none none none none none none none none) := by
    unfold g_law_0
    refine Good.loop (ds := (ns.take 4).map .int) ?_ (fun d hd ρ hρ => ?_) ⟨_, _, _, _, _, _, _, _, _, _, rfl⟩
    · have hc := cutA_to (ns.map PyData.int) (k := 4) (by decide)
      simp only [iSq, fSl, fVar, pNone, pSome, fC, List.getElem?_cons_zero, Option.bind_some, gSl, scr_fst, hc, seqD]
      rw [List.map_take]
      rfl
    · obtain ⟨c, _, rfl⟩ := List.mem_map.mp hd
      obtain ⟨o1, o2, o3, o4, o5, o6, o7, o8, o9, o10, rfl⟩ := hρ
      exact ⟨_, rfl, body_ok c _ o2 o3 o4 o5 o6 o7 o8 o9 o10⟩
  obtain ⟨ρ1, e0, o1, o2, o3, o4, o5, o6, o7, o8, o9, o10, rfl⟩ := h0
  have am := all_maps_eq (many := 3) (to := 3) (by decide) (by decide)
  have ln := rowsN_len 3 3
  have q := lc_sq (vs := [2]) (j := 2) (fs := fCall phi_all_maps (fCons (fC (.int 3)) (fCons (fC (.int 3)) fNil))) (f := fCall phi_plain (fCons (fVar 2) fNil)) (ρ := lawRho (.dict (scrK ns)) o1 o2 o3 o4 o5 o6 o7 o8 o9 o10) (w := fun r => mpD ((3 : Int), r)) (l := rows3 3 3) (d := .tuple ((rows3 3 3).map fun r => mpD ((3 : Int), r))) (g := fun r => .str (txt3 r)) (call2 rfl rfl am) rfl (by rw [ln]; decide) (fun r hr => by
    obtain ⟨h1, h2⟩ := rowsN_mem 3 3 r hr
    have S : Sm ((3 : Int), r) := ⟨⟨⟨by show r.length ≤ 1000; omega, by show (0 : Int) ≤ 3 ∧ (3 : Int) ≤ 1000; decide, h2⟩, by show (3 : Int) = (r.length : Nat); omega⟩, by show r.length ≤ 10; omega, by show 0 < r.length; omega⟩
    unfold fCall fCons fNil
    show (phi_plain [mpD ((3 : Int), r)]).bind _ = _
    rw [plain_eq S, txt3_eq h1]
    rfl)
  have hq : (rows3 3 3).map (fun r => PyData.str (txt3 r)) = ((rows3 3 3).map txt3).map .str := by rw [List.map_map]; rfl
  rw [hq] at q
  have e1 : g_law_1 (lawRho (.dict (scrK ns)) o1 o2 o3 o4 o5 o6 o7 o8 o9 o10) = some (.ret (.bool true)) := by
    unfold g_law_1 gRet
    have y1 : f1 gLenSetS (fFr (fLc [2] (iSq (fCall phi_all_maps (fCons (fC (.int 3)) (fCons (fC (.int 3)) fNil)))) (hName 2) cYes (fCall phi_plain (fCons (fVar 2) fNil)))) (lawRho (.dict (scrK ns)) o1 o2 o3 o4 o5 o6 o7 o8 o9 o10) = some (.int 7) := by
      have l27 : ((rows3 3 3).map txt3).length = 27 := by rw [List.length_map, ln]
      have s := seven
      unfold f1
      rw [fFr_of q, Option.bind_some]
      generalize (rows3 3 3).map txt3 = T at *
      unfold gLenSetS
      simp only [strsD_map, Option.bind_some]
      rw [l27, if_pos (by decide), s]
      rfl
    rw [f2_of y1 (show fC (.int 7) _ = some (.int 7) from rfl), gEq_int]
    rfl
  have e : g_law (lawRho (.dict (scrK ns)) none none none none none none none none none none) = some (.ret (.bool true)) := by
    unfold g_law
    rw [blk_nx e0, e1]
  exact def_ret rfl e
end Lw

namespace Lw
open PySem PySem.Spec PyProof.Rows L2 DL
theorem all_mk {l : PySem.W.OpenLaw} {w : World} {K : PySem.W.Frag} {h : Heap} {mg : Str → Option Value} {fa f0 f1 f2 f3 f4 f5 f6 f7 f8 f9 f10 f11 f13 f14 f17 f18 f19 f20 f21 f22 f23 e0 e2 q8 t8 q9 t9 q10 t10 : Addr} (X : K.In h) (G : h.Ns mainGlobals mg) (hfa : mg "law" = some (.ref fa)) (own : ∀ y ∈ (["pair_up", "best_turn", "renaming"] : List Str), ∀ fA, mg y = some (.ref fA) → LamX.OwnTab K fA h)
    {od0 an0 od1 an1 od2 an2 od3 an3 od4 an4 od5 an5 od6 an6 od7 an7 od8 an8 od9 an9 od10 an10 od11 an11 od13 an13 od14 an14 od17 an17 od18 an18 od19 an19 od20 an20 od21 an21 od22 an22 od23 an23 : Option Addr} {sl0 sl1 sl2 sl3 sl4 sl5 sl6 sl7 sl8 sl9 sl10 sl11 sl13 sl14 sl17 sl18 sl19 sl20 sl21 sl22 sl23 : Array (Option Value)} {oc0 kV0 dc0 pm0 ct0 cd0 oc1 kV1 dc1 pm1 ct1 cd1 oc2 kV2 dc2 pm2 ct2 cd2 oc3 kV3 dc3 pm3 ct3 cd3 oc4 kV4 dc4 pm4 ct4 cd4 oc5 kV5 dc5 pm5 ct5 cd5 oc6 kV6 dc6 pm6 ct6 cd6 oc7 kV7 dc7 pm7 ct7 cd7 oc8 kV8 dc8 pm8 ct8 oc9 kV9 dc9 pm9 ct9 oc10 kV10 dc10 pm10 ct10 oc11 kV11 dc11 pm11 ct11 cd11 oc13 kV13 dc13 pm13 ct13 cd13 oc14 kV14 dc14 pm14 ct14 cd14 oc17 kV17 dc17 pm17 ct17 cd17 oc18 kV18 dc18 pm18 ct18 cd18 oc19 kV19 dc19 pm19 ct19 cd19 oc20 kV20 dc20 pm20 ct20 cd20 oc21 kV21 dc21 pm21 ct21 cd21 oc22 kV22 dc22 pm22 ct22 cd22 oc23 kV23 dc23 pm23 ct23 cd23 : Value}
    {oe8 oe9 oe10 : Value} {oo8 oo9 oo10 : Option Addr} {vs8 vs9 vs10 : Array Value} {os8 os9 os10 : Array (Option Value)}
    (a0 : PySem.W.nsIn K mainGlobals "must" = some (some (.ref f0))) (l0 : K.lookup f0 = some ⟨oc0, od0, .func (PySem.W.fnOf "must" "must" (defArgs s_must) (defBody s_must) (defScope s_must) .none kV0 dc0 pm0 an0 cd0 ct0), sl0⟩) (c0 : PySem.W.codeIn K cd0 "must" = true) (k0 : PySem.W.keepIn K (.ref f0) = true)
    (a1 : PySem.W.nsIn K mainGlobals "must_be_inner" = some (some (.ref f1))) (l1 : K.lookup f1 = some ⟨oc1, od1, .func (PySem.W.fnOf "must_be_inner" "must_be_inner" (defArgs s_must_be_inner) (defBody s_must_be_inner) (defScope s_must_be_inner) .none kV1 dc1 pm1 an1 cd1 ct1), sl1⟩) (c1 : PySem.W.codeIn K cd1 "must_be_inner" = true) (k1 : PySem.W.keepIn K (.ref f1) = true)
    (a2 : PySem.W.nsIn K mainGlobals "walk" = some (some (.ref f2))) (l2 : K.lookup f2 = some ⟨oc2, od2, .func (PySem.W.fnOf "walk" "walk" (defArgs s_walk) (defBody s_walk) (defScope s_walk) .none kV2 dc2 pm2 an2 cd2 ct2), sl2⟩) (c2 : PySem.W.codeIn K cd2 "walk" = true) (k2 : PySem.W.keepIn K (.ref f2) = true)
    (a3 : PySem.W.nsIn K mainGlobals "ring" = some (some (.ref f3))) (l3 : K.lookup f3 = some ⟨oc3, od3, .func (PySem.W.fnOf "ring" "ring" (defArgs s_ring) (defBody s_ring) (defScope s_ring) .none kV3 dc3 pm3 an3 cd3 ct3), sl3⟩) (c3 : PySem.W.codeIn K cd3 "ring" = true) (k3 : PySem.W.keepIn K (.ref f3) = true)
    (a4 : PySem.W.nsIn K mainGlobals "branch" = some (some (.ref f4))) (l4 : K.lookup f4 = some ⟨oc4, od4, .func (PySem.W.fnOf "branch" "branch" (defArgs s_branch) (defBody s_branch) (defScope s_branch) .none kV4 dc4 pm4 an4 cd4 ct4), sl4⟩) (c4 : PySem.W.codeIn K cd4 "branch" = true) (k4 : PySem.W.keepIn K (.ref f4) = true)
    (a5 : PySem.W.nsIn K mainGlobals "rings_of" = some (some (.ref f5))) (l5 : K.lookup f5 = some ⟨oc5, od5, .func (PySem.W.fnOf "rings_of" "rings_of" (defArgs s_rings_of) (defBody s_rings_of) (defScope s_rings_of) .none kV5 dc5 pm5 an5 cd5 ct5), sl5⟩) (c5 : PySem.W.codeIn K cd5 "rings_of" = true) (k5 : PySem.W.keepIn K (.ref f5) = true)
    (a6 : PySem.W.nsIn K mainGlobals "ring_text" = some (some (.ref f6))) (l6 : K.lookup f6 = some ⟨oc6, od6, .func (PySem.W.fnOf "ring_text" "ring_text" (defArgs s_ring_text) (defBody s_ring_text) (defScope s_ring_text) .none kV6 dc6 pm6 an6 cd6 ct6), sl6⟩) (c6 : PySem.W.codeIn K cd6 "ring_text" = true) (k6 : PySem.W.keepIn K (.ref f6) = true)
    (a7 : PySem.W.nsIn K mainGlobals "plain" = some (some (.ref f7))) (l7 : K.lookup f7 = some ⟨oc7, od7, .func (PySem.W.fnOf "plain" "plain" (defArgs s_plain) (defBody s_plain) (defScope s_plain) .none kV7 dc7 pm7 an7 cd7 ct7), sl7⟩) (c7 : PySem.W.codeIn K cd7 "plain" = true) (k7 : PySem.W.keepIn K (.ref f7) = true)
    (a8 : PySem.W.nsIn K mainGlobals "pair_up" = some (some (.ref f8))) (l8 : K.lookup f8 = some ⟨oc8, od8, .func (PySem.W.fnOf "pair_up" "pair_up" (defArgs s_pair_up) (defBody s_pair_up) (defScope s_pair_up) .none kV8 dc8 pm8 an8 (.ref q8) ct8), sl8⟩) (c8 : PySem.W.codeIn K (.ref q8) "pair_up" = true) (k8 : PySem.W.keepIn K (.ref f8) = true)
    (a9 : PySem.W.nsIn K mainGlobals "best_turn" = some (some (.ref f9))) (l9 : K.lookup f9 = some ⟨oc9, od9, .func (PySem.W.fnOf "best_turn" "best_turn" (defArgs s_best_turn) (defBody s_best_turn) (defScope s_best_turn) .none kV9 dc9 pm9 an9 (.ref q9) ct9), sl9⟩) (c9 : PySem.W.codeIn K (.ref q9) "best_turn" = true) (k9 : PySem.W.keepIn K (.ref f9) = true)
    (a10 : PySem.W.nsIn K mainGlobals "renaming" = some (some (.ref f10))) (l10 : K.lookup f10 = some ⟨oc10, od10, .func (PySem.W.fnOf "renaming" "renaming" (defArgs s_renaming) (defBody s_renaming) (defScope s_renaming) .none kV10 dc10 pm10 an10 (.ref q10) ct10), sl10⟩) (c10 : PySem.W.codeIn K (.ref q10) "renaming" = true) (k10 : PySem.W.keepIn K (.ref f10) = true)
    (a11 : PySem.W.nsIn K mainGlobals "all_maps" = some (some (.ref f11))) (l11 : K.lookup f11 = some ⟨oc11, od11, .func (PySem.W.fnOf "all_maps" "all_maps" (defArgs s_all_maps) (defBody s_all_maps) (defScope s_all_maps) .none kV11 dc11 pm11 an11 cd11 ct11), sl11⟩) (c11 : PySem.W.codeIn K cd11 "all_maps" = true) (k11 : PySem.W.keepIn K (.ref f11) = true)
    (a13 : PySem.W.nsIn K mainGlobals "_law_mix" = some (some (.ref f13))) (l13 : K.lookup f13 = some ⟨oc13, od13, .func (PySem.W.fnOf "_law_mix" "_law_mix" (defArgs s__law_mix) (defBody s__law_mix) (defScope s__law_mix) .none kV13 dc13 pm13 an13 cd13 ct13), sl13⟩) (c13 : PySem.W.codeIn K cd13 "_law_mix" = true) (k13 : PySem.W.keepIn K (.ref f13) = true)
    (a14 : PySem.W.nsIn K mainGlobals "_law_map" = some (some (.ref f14))) (l14 : K.lookup f14 = some ⟨oc14, od14, .func (PySem.W.fnOf "_law_map" "_law_map" (defArgs s__law_map) (defBody s__law_map) (defScope s__law_map) .none kV14 dc14 pm14 an14 cd14 ct14), sl14⟩) (c14 : PySem.W.codeIn K cd14 "_law_map" = true) (k14 : PySem.W.keepIn K (.ref f14) = true)
    (a17 : PySem.W.nsIn K mainGlobals "_law_self" = some (some (.ref f17))) (l17 : K.lookup f17 = some ⟨oc17, od17, .func (PySem.W.fnOf "_law_self" "_law_self" (defArgs s__law_self) (defBody s__law_self) (defScope s__law_self) .none kV17 dc17 pm17 an17 cd17 ct17), sl17⟩) (c17 : PySem.W.codeIn K cd17 "_law_self" = true) (k17 : PySem.W.keepIn K (.ref f17) = true)
    (a18 : PySem.W.nsIn K mainGlobals "_law_perm" = some (some (.ref f18))) (l18 : K.lookup f18 = some ⟨oc18, od18, .func (PySem.W.fnOf "_law_perm" "_law_perm" (defArgs s__law_perm) (defBody s__law_perm) (defScope s__law_perm) .none kV18 dc18 pm18 an18 cd18 ct18), sl18⟩) (c18 : PySem.W.codeIn K cd18 "_law_perm" = true) (k18 : PySem.W.keepIn K (.ref f18) = true)
    (a19 : PySem.W.nsIn K mainGlobals "_law_renamed" = some (some (.ref f19))) (l19 : K.lookup f19 = some ⟨oc19, od19, .func (PySem.W.fnOf "_law_renamed" "_law_renamed" (defArgs s__law_renamed) (defBody s__law_renamed) (defScope s__law_renamed) .none kV19 dc19 pm19 an19 cd19 ct19), sl19⟩) (c19 : PySem.W.codeIn K cd19 "_law_renamed" = true) (k19 : PySem.W.keepIn K (.ref f19) = true)
    (a20 : PySem.W.nsIn K mainGlobals "_law_right" = some (some (.ref f20))) (l20 : K.lookup f20 = some ⟨oc20, od20, .func (PySem.W.fnOf "_law_right" "_law_right" (defArgs s__law_right) (defBody s__law_right) (defScope s__law_right) .none kV20 dc20 pm20 an20 cd20 ct20), sl20⟩) (c20 : PySem.W.codeIn K cd20 "_law_right" = true) (k20 : PySem.W.keepIn K (.ref f20) = true)
    (a21 : PySem.W.nsIn K mainGlobals "_law_refused" = some (some (.ref f21))) (l21 : K.lookup f21 = some ⟨oc21, od21, .func (PySem.W.fnOf "_law_refused" "_law_refused" (defArgs s__law_refused) (defBody s__law_refused) (defScope s__law_refused) .none kV21 dc21 pm21 an21 cd21 ct21), sl21⟩) (c21 : PySem.W.codeIn K cd21 "_law_refused" = true) (k21 : PySem.W.keepIn K (.ref f21) = true)
    (a22 : PySem.W.nsIn K mainGlobals "_law_all_perms" = some (some (.ref f22))) (l22 : K.lookup f22 = some ⟨oc22, od22, .func (PySem.W.fnOf "_law_all_perms" "_law_all_perms" (defArgs s__law_all_perms) (defBody s__law_all_perms) (defScope s__law_all_perms) .none kV22 dc22 pm22 an22 cd22 ct22), sl22⟩) (c22 : PySem.W.codeIn K cd22 "_law_all_perms" = true) (k22 : PySem.W.keepIn K (.ref f22) = true)
    (a23 : PySem.W.nsIn K mainGlobals "law" = some (some (.ref f23))) (l23 : K.lookup f23 = some ⟨oc23, od23, .func (PySem.W.fnOf "law" "law" (defArgs s_law) (defBody s_law) (defScope s_law) .none kV23 dc23 pm23 an23 cd23 ct23), sl23⟩) (c23 : PySem.W.codeIn K cd23 "law" = true) (k23 : PySem.W.keepIn K (.ref f23) = true)
    (y8 : K.lookup q8 = some ⟨oe8, oo8, .fields vs8, os8⟩) (x8 : vs8[11]? = some (.ref t8)) (h8 : PySem.W.codeHdIn K q8 t8 = true) (n8 : K.lookup t8 = none)
    (y9 : K.lookup q9 = some ⟨oe9, oo9, .fields vs9, os9⟩) (x9 : vs9[11]? = some (.ref t9)) (h9 : PySem.W.codeHdIn K q9 t9 = true) (n9 : K.lookup t9 = none)
    (y10 : K.lookup q10 = some ⟨oe10, oo10, .fields vs10, os10⟩) (x10 : vs10[11]? = some (.ref t10)) (h10 : PySem.W.codeHdIn K q10 t10 = true) (n10 : K.lookup t10 = none)
    (ne8_9 : t8 ≠ t9)
    (ne8_10 : t8 ≠ t10)
    (ne9_10 : t9 ≠ t10)
    (z_all : PySem.W.nsIn K mainGlobals "all" = some none)
    (z_enumerate : PySem.W.nsIn K mainGlobals "enumerate" = some none)
    (z_isinstance : PySem.W.nsIn K mainGlobals "isinstance" = some none)
    (z_len : PySem.W.nsIn K mainGlobals "len" = some none)
    (z_list : PySem.W.nsIn K mainGlobals "list" = some none)
    (z_min : PySem.W.nsIn K mainGlobals "min" = some none)
    (z_range : PySem.W.nsIn K mainGlobals "range" = some none)
    (z_set : PySem.W.nsIn K mainGlobals "set" = some none)
    (z_sorted : PySem.W.nsIn K mainGlobals "sorted" = some none)
    (z_str : PySem.W.nsIn K mainGlobals "str" = some none)
    (z_tuple : PySem.W.nsIn K mainGlobals "tuple" = some none)
    (z_zip : PySem.W.nsIn K mainGlobals "zip" = some none)
    (zgC0_0 : PySem.W.nsIn K mainGlobals "MapError" = some (some (.ref e0)))
    (zx0_0 : PySem.W.excIn K (e0) [.type "ValueError", .type "Exception", .type "BaseException", .type "object"] "ValueError.__new__" = true)
    (zkC0_0 : PySem.W.keepIn K (.ref (e0)) = true)
    (zbC0_0 : PySem.W.subIn K (.ref (e0)) (.type "BaseException") = some true)
    (ztC0_0 : PySem.W.typeIn K (.ref (e0)) = some (.type "type"))
    (zgC2_0 : PySem.W.nsIn K mainGlobals "NoFit" = some (some (.ref e2)))
    (zx2_0 : PySem.W.excIn K (e2) [.type "ValueError", .type "Exception", .type "BaseException", .type "object"] "ValueError.__new__" = true)
    (zkC2_0 : PySem.W.keepIn K (.ref (e2)) = true)
    (zbC2_0 : PySem.W.subIn K (.ref (e2)) (.type "BaseException") = some true)
    (ztC2_0 : PySem.W.typeIn K (.ref (e2)) = some (.type "type"))
    (zexm22_0 : PySem.W.hasDictIn K e2 = true)
    (zexm22_1 : PySem.W.subIn K (.ref e2) (.ref e2) = some true)
    (hpl : ∀ [Tabl], ∀ ns : List Int, ns.length ≤ 63 → phi_law [.dict (scrK ns)] = some (.ok (.bool true))) :
    LamX.LawAtS l w K (L2.CX l.prog w) 31 63 "_law_script" mg fa h := by
  letI : Tabl := ⟨[(t8, "pair_up.<locals>.<lambda>"), (t9, "best_turn.<locals>.<lambda>"), (t10, "renaming.<locals>.<lambda>")]⟩
  have e := hfa.symm.trans (PySem.W.mg_of X G a23)
  cases e
  have F0 := fun_mk (st := s_must) l0 c0 k0
  have F1 := fun_mk (st := s_must_be_inner) l1 c1 k1
  have F2 := fun_mk (st := s_walk) l2 c2 k2
  have F3 := fun_mk (st := s_ring) l3 c3 k3
  have F4 := fun_mk (st := s_branch) l4 c4 k4
  have F5 := fun_mk (st := s_rings_of) l5 c5 k5
  have F6 := fun_mk (st := s_ring_text) l6 c6 k6
  have F7 := fun_mk (st := s_plain) l7 c7 k7
  have F8 := fun_mk (st := s_pair_up) l8 c8 k8
  have F9 := fun_mk (st := s_best_turn) l9 c9 k9
  have F10 := fun_mk (st := s_renaming) l10 c10 k10
  have F11 := fun_mk (st := s_all_maps) l11 c11 k11
  have F13 := fun_mk (st := s__law_mix) l13 c13 k13
  have F14 := fun_mk (st := s__law_map) l14 c14 k14
  have F17 := fun_mk (st := s__law_self) l17 c17 k17
  have F18 := fun_mk (st := s__law_perm) l18 c18 k18
  have F19 := fun_mk (st := s__law_renamed) l19 c19 k19
  have F20 := fun_mk (st := s__law_right) l20 c20 k20
  have F21 := fun_mk (st := s__law_refused) l21 c21 k21
  have F22 := fun_mk (st := s__law_all_perms) l22 c22 k22
  have F23 := fun_mk (st := s_law) l23 c23 k23
  let A : Cs := ⟨fun i => match i with | 0 => f0 | 1 => f1 | 2 => f2 | 3 => f3 | 4 => f4 | 5 => f5 | 6 => f6 | 7 => f7 | 8 => f8 | 9 => f9 | 10 => f10 | 11 => f11 | 13 => f13 | 14 => f14 | 17 => f17 | 18 => f18 | 19 => f19 | 20 => f20 | 21 => f21 | 22 => f22 | 23 => fa | _ => 0, fun i => match i with | 0 => PySem.W.fnOf "must" "must" (defArgs s_must) (defBody s_must) (defScope s_must) .none kV0 dc0 pm0 an0 cd0 ct0 | 1 => PySem.W.fnOf "must_be_inner" "must_be_inner" (defArgs s_must_be_inner) (defBody s_must_be_inner) (defScope s_must_be_inner) .none kV1 dc1 pm1 an1 cd1 ct1 | 2 => PySem.W.fnOf "walk" "walk" (defArgs s_walk) (defBody s_walk) (defScope s_walk) .none kV2 dc2 pm2 an2 cd2 ct2 | 3 => PySem.W.fnOf "ring" "ring" (defArgs s_ring) (defBody s_ring) (defScope s_ring) .none kV3 dc3 pm3 an3 cd3 ct3 | 4 => PySem.W.fnOf "branch" "branch" (defArgs s_branch) (defBody s_branch) (defScope s_branch) .none kV4 dc4 pm4 an4 cd4 ct4 | 5 => PySem.W.fnOf "rings_of" "rings_of" (defArgs s_rings_of) (defBody s_rings_of) (defScope s_rings_of) .none kV5 dc5 pm5 an5 cd5 ct5 | 6 => PySem.W.fnOf "ring_text" "ring_text" (defArgs s_ring_text) (defBody s_ring_text) (defScope s_ring_text) .none kV6 dc6 pm6 an6 cd6 ct6 | 7 => PySem.W.fnOf "plain" "plain" (defArgs s_plain) (defBody s_plain) (defScope s_plain) .none kV7 dc7 pm7 an7 cd7 ct7 | 8 => PySem.W.fnOf "pair_up" "pair_up" (defArgs s_pair_up) (defBody s_pair_up) (defScope s_pair_up) .none kV8 dc8 pm8 an8 (.ref q8) ct8 | 9 => PySem.W.fnOf "best_turn" "best_turn" (defArgs s_best_turn) (defBody s_best_turn) (defScope s_best_turn) .none kV9 dc9 pm9 an9 (.ref q9) ct9 | 10 => PySem.W.fnOf "renaming" "renaming" (defArgs s_renaming) (defBody s_renaming) (defScope s_renaming) .none kV10 dc10 pm10 an10 (.ref q10) ct10 | 11 => PySem.W.fnOf "all_maps" "all_maps" (defArgs s_all_maps) (defBody s_all_maps) (defScope s_all_maps) .none kV11 dc11 pm11 an11 cd11 ct11 | 13 => PySem.W.fnOf "_law_mix" "_law_mix" (defArgs s__law_mix) (defBody s__law_mix) (defScope s__law_mix) .none kV13 dc13 pm13 an13 cd13 ct13 | 14 => PySem.W.fnOf "_law_map" "_law_map" (defArgs s__law_map) (defBody s__law_map) (defScope s__law_map) .none kV14 dc14 pm14 an14 cd14 ct14 | 17 => PySem.W.fnOf "_law_self" "_law_self" (defArgs s__law_self) (defBody s__law_self) (defScope s__law_self) .none kV17 dc17 pm17 an17 cd17 ct17 | 18 => PySem.W.fnOf "_law_perm" "_law_perm" (defArgs s__law_perm) (defBody s__law_perm) (defScope s__law_perm) .none kV18 dc18 pm18 an18 cd18 ct18 | 19 => PySem.W.fnOf "_law_renamed" "_law_renamed" (defArgs s__law_renamed) (defBody s__law_renamed) (defScope s__law_renamed) .none kV19 dc19 pm19 an19 cd19 ct19 | 20 => PySem.W.fnOf "_law_right" "_law_right" (defArgs s__law_right) (defBody s__law_right) (defScope s__law_right) .none kV20 dc20 pm20 an20 cd20 ct20 | 21 => PySem.W.fnOf "_law_refused" "_law_refused" (defArgs s__law_refused) (defBody s__law_refused) (defScope s__law_refused) .none kV21 dc21 pm21 an21 cd21 ct21 | 22 => PySem.W.fnOf "_law_all_perms" "_law_all_perms" (defArgs s__law_all_perms) (defBody s__law_all_perms) (defScope s__law_all_perms) .none kV22 dc22 pm22 an22 cd22 ct22 | 23 => PySem.W.fnOf "law" "law" (defArgs s_law) (defBody s_law) (defScope s_law) .none kV23 dc23 pm23 an23 cd23 ct23 | _ => PySem.W.fnOf "law" "law" (defArgs s_law) (defBody s_law) (defScope s_law) .none kV23 dc23 pm23 an23 cd23 ct23, fun i => match i with | 0 => e0 | 2 => e2 | _ => 0, fun i => match i with | 8 => q8 | 9 => q9 | 10 => q10 | _ => 0, fun i => match i with | 8 => t8 | 9 => t9 | 10 => t10 | _ => 0⟩
  have T : ∀ base : Heap, (LamX.TabB base mg q8 t8 ∧ LamX.TabB base mg q9 t9 ∧ LamX.TabB base mg q10 t10) → Txt K mg A base := fun base tb => {
    F0 := F0, g0 := PySem.W.mg_of X G a0, b0 := F0.binds (ps := ["fits"]) fun _ _ _ _ _ _ us hl => match us, hl with | [_], _ => rfl,
    F1 := F1, g1 := PySem.W.mg_of X G a1, b1 := F1.binds (ps := ["one"]) fun _ _ _ _ _ _ us hl => match us, hl with | [_], _ => rfl,
    F2 := F2, g2 := PySem.W.mg_of X G a2, b2 := F2.binds (ps := ["one", "k"]) fun _ _ _ _ _ _ us hl => match us, hl with | [_, _], _ => rfl,
    F3 := F3, g3 := PySem.W.mg_of X G a3, b3 := F3.binds (ps := ["one", "k"]) fun _ _ _ _ _ _ us hl => match us, hl with | [_, _], _ => rfl,
    F4 := F4, g4 := PySem.W.mg_of X G a4, b4 := F4.binds (ps := ["one", "k", "inner"]) fun _ _ _ _ _ _ us hl => match us, hl with | [_, _, _], _ => rfl,
    F5 := F5, g5 := PySem.W.mg_of X G a5, b5 := F5.binds (ps := ["one"]) fun _ _ _ _ _ _ us hl => match us, hl with | [_], _ => rfl,
    F6 := F6, g6 := PySem.W.mg_of X G a6, b6 := F6.binds (ps := ["one", "some"]) fun _ _ _ _ _ _ us hl => match us, hl with | [_, _], _ => rfl,
    F7 := F7, g7 := PySem.W.mg_of X G a7, b7 := F7.binds (ps := ["one"]) fun _ _ _ _ _ _ us hl => match us, hl with | [_], _ => rfl,
    F8 := F8, g8 := PySem.W.mg_of X G a8, b8 := F8.binds (ps := ["one", "other", "k", "n", "names", "inner", "outer"]) fun _ _ _ _ _ _ us hl => match us, hl with | [_, _, _, _, _, _, _], _ => rfl,
    F9 := F9, g9 := PySem.W.mg_of X G a9, b9 := F9.binds (ps := ["one", "some"]) fun _ _ _ _ _ _ us hl => match us, hl with | [_, _], _ => rfl,
    F10 := F10, g10 := PySem.W.mg_of X G a10, b10 := F10.binds (ps := ["one", "other"]) fun _ _ _ _ _ _ us hl => match us, hl with | [_, _], _ => rfl,
    F11 := F11, g11 := PySem.W.mg_of X G a11, b11 := F11.binds (ps := ["many", "to"]) fun _ _ _ _ _ _ us hl => match us, hl with | [_, _], _ => rfl,
    F13 := F13, g13 := PySem.W.mg_of X G a13, b13 := F13.binds (ps := ["_law_cell_here", "_law_prime", "_law_many"]) fun _ _ _ _ _ _ us hl => match us, hl with | [_, _, _], _ => rfl,
    F14 := F14, g14 := PySem.W.mg_of X G a14, b14 := F14.binds (ps := ["_law_cell_here", "_law_many", "_law_to"]) fun _ _ _ _ _ _ us hl => match us, hl with | [_, _, _], _ => rfl,
    F17 := F17, g17 := PySem.W.mg_of X G a17, b17 := F17.binds (ps := ["_law_cell_here", "_law_most"]) fun _ _ _ _ _ _ us hl => match us, hl with | [_, _], _ => rfl,
    F18 := F18, g18 := PySem.W.mg_of X G a18, b18 := F18.binds (ps := ["_law_cell_here", "_law_many"]) fun _ _ _ _ _ _ us hl => match us, hl with | [_, _], _ => rfl,
    F19 := F19, g19 := PySem.W.mg_of X G a19, b19 := F19.binds (ps := ["_law_one", "_law_names"]) fun _ _ _ _ _ _ us hl => match us, hl with | [_, _], _ => rfl,
    F20 := F20, g20 := PySem.W.mg_of X G a20, b20 := F20.binds (ps := ["_law_one", "_law_other"]) fun _ _ _ _ _ _ us hl => match us, hl with | [_, _], _ => rfl,
    F21 := F21, g21 := PySem.W.mg_of X G a21, b21 := F21.binds (ps := ["_law_way", "_law_one", "_law_other"]) fun _ _ _ _ _ _ us hl => match us, hl with | [_, _, _], _ => rfl,
    F22 := F22, g22 := PySem.W.mg_of X G a22, b22 := F22.binds (ps := ["_law_many"]) fun _ _ _ _ _ _ us hl => match us, hl with | [_], _ => rfl,
    F23 := F23, g23 := PySem.W.mg_of X G a23, b23 := F23.binds (ps := ["_law_script"]) fun _ _ _ _ _ _ us hl => match us, hl with | [_], _ => rfl,
    q8 := rfl, t8 := tb.1, e8 := .head _, u8 := (fun p hp h => by
      rcases List.mem_cons.mp hp with e | hp
      · subst e; rfl
      · skip
        rcases List.mem_cons.mp hp with e | hp
        · subst e; exact absurd (show t9 = t8 from h) (Ne.symm ne8_9)
        · skip
          rcases List.mem_cons.mp hp with e | hp
          · subst e; exact absurd (show t10 = t8 from h) (Ne.symm ne8_10)
          · skip
            cases hp),
    q9 := rfl, t9 := tb.2.1, e9 := .tail _ (.head _), u9 := (fun p hp h => by
      rcases List.mem_cons.mp hp with e | hp
      · subst e; exact absurd (show t8 = t9 from h) ne8_9
      · skip
        rcases List.mem_cons.mp hp with e | hp
        · subst e; rfl
        · skip
          rcases List.mem_cons.mp hp with e | hp
          · subst e; exact absurd (show t10 = t9 from h) (Ne.symm ne9_10)
          · skip
            cases hp),
    q10 := rfl, t10 := tb.2.2, e10 := .tail _ (.tail _ (.head _)), u10 := (fun p hp h => by
      rcases List.mem_cons.mp hp with e | hp
      · subst e; exact absurd (show t8 = t10 from h) ne8_10
      · skip
        rcases List.mem_cons.mp hp with e | hp
        · subst e; exact absurd (show t9 = t10 from h) ne9_10
        · skip
          rcases List.mem_cons.mp hp with e | hp
          · subst e; rfl
          · skip
            cases hp),
    m_all := PySem.W.mg_none_of X G z_all,
    m_enumerate := PySem.W.mg_none_of X G z_enumerate,
    m_isinstance := PySem.W.mg_none_of X G z_isinstance,
    m_len := PySem.W.mg_none_of X G z_len,
    m_list := PySem.W.mg_none_of X G z_list,
    m_min := PySem.W.mg_none_of X G z_min,
    m_range := PySem.W.mg_none_of X G z_range,
    m_set := PySem.W.mg_none_of X G z_set,
    m_sorted := PySem.W.mg_none_of X G z_sorted,
    m_str := PySem.W.mg_none_of X G z_str,
    m_tuple := PySem.W.mg_none_of X G z_tuple,
    m_zip := PySem.W.mg_none_of X G z_zip,
    gC0 := PySem.W.mg_of X G zgC0_0,
    x0 := zx0_0,
    kC0 := zkC0_0,
    bC0 := zbC0_0,
    tC0 := ztC0_0,
    gC2 := PySem.W.mg_of X G zgC2_0,
    x2 := zx2_0,
    kC2 := zkC2_0,
    bC2 := zbC2_0,
    tC2 := ztC2_0,
    exm22 := PySem.W.exm_ref zbC2_0 zexm22_0 ztC2_0 zexm22_1 }
  have W8 : h.get? t8 = some { cls := .none, data := .fields #[] } := own "pair_up" (by simp) f8 (PySem.W.mg_of X G a8) _ _ _ _ _ _ _ _ l8 rfl rfl y8 x8
  have W9 : h.get? t9 = some { cls := .none, data := .fields #[] } := own "best_turn" (by simp) f9 (PySem.W.mg_of X G a9) _ _ _ _ _ _ _ _ l9 rfl rfl y9 x9
  have W10 : h.get? t10 = some { cls := .none, data := .fields #[] } := own "renaming" (by simp) f10 (PySem.W.mg_of X G a10) _ _ _ _ _ _ _ _ l10 rfl rfl y10 x10
  refine ⟨PySem.W.fnOf "law" "law" (defArgs s_law) (defBody s_law) (defScope s_law) .none kV23 dc23 pm23 an23 cd23 ct23, [(q8, t8), (q9, t9), (q10, t10)], spLaw K, (fun p hp => by
    rcases List.mem_cons.mp hp with e | hp
    · subst e; exact W8
    rcases List.mem_cons.mp hp with e | hp
    · subst e; exact W9
    rcases List.mem_cons.mp hp with e | hp
    · subst e; exact W10
    cases hp), (fun p hp => by
    rcases List.mem_cons.mp hp with e | hp
    · subst e; exact n8
    rcases List.mem_cons.mp hp with e | hp
    · subst e; exact n9
    rcases List.mem_cons.mp hp with e | hp
    · subst e; exact n10
    cases hp), (fun p hp => by
    rcases List.mem_cons.mp hp with e | hp
    · subst e; exact PySem.W.codeHd_of_K X h8
    rcases List.mem_cons.mp hp with e | hp
    · subst e; exact PySem.W.codeHd_of_K X h9
    rcases List.mem_cons.mp hp with e | hp
    · subst e; exact PySem.W.codeHd_of_K X h10
    cases hp), fun s u => .of_eq rfl, fun H a ns hl _ hT hS => ⟨a, ns, rfl, hS, tabs_empty (fun p hp => by
    rcases List.mem_cons.mp hp with e | hp
    · subst e; exact hT (q8, t8) (by simp)
    rcases List.mem_cons.mp hp with e | hp
    · subst e; exact hT (q9, t9) (by simp)
    rcases List.mem_cons.mp hp with e | hp
    · subst e; exact hT (q10, t10) (by simp)
    cases hp), hl, fun _ => rfl⟩, fun base _ _ hB => ?_⟩
  exact (ok_law (T base ⟨hB (q8, t8) (by simp), hB (q9, t9) (by simp), hB (q10, t10) (by simp)⟩)).imp (spLaw_of hpl)
end Lw
open PySem PySem.W PyProof.Rows
set_option maxHeartbeats 0 in
theorem PySem.Challenge.cw_mapweave_k10_whole_the_same_with_other_n_holds : PySem.Challenge.rw_mapweave_k10_whole_the_same_with_other_n.Holds := by
  w_on; o_law; k_head; (case hw => w_witness2)
  k_fill
  refine DL.walk_ofAll (l := PySem.Challenge.rw_mapweave_k10_whole_the_same_with_other_n) (n := 63) (k := 31) (x := "_law_script") (CX := fun w => L2.CX PySem.Challenge.rw_mapweave_k10_whole_the_same_with_other_n.prog w) ["pair_up", "best_turn", "renaming"] rfl (by decide) rfl ⟨rfl, by decide, by decide⟩ (by first | rfl | decide +kernel) (fun w h Y => PySem.W.km_in_of Y) ?F (fun _ _ _ _ _ h => @DL.no_cx ⟨[]⟩ _ _ _ _ _ _ h)
  case F =>
    intro w mg fa h Y KX G hmg own
    refine' Lw.all_mk KX G hmg own ?a0 ?l0 ?c0 ?k0 ?a1 ?l1 ?c1 ?k1 ?a2 ?l2 ?c2 ?k2 ?a3 ?l3 ?c3 ?k3 ?a4 ?l4 ?c4 ?k4 ?a5 ?l5 ?c5 ?k5 ?a6 ?l6 ?c6 ?k6 ?a7 ?l7 ?c7 ?k7 ?a8 ?l8 ?c8 ?k8 ?a9 ?l9 ?c9 ?k9 ?a10 ?l10 ?c10 ?k10 ?a11 ?l11 ?c11 ?k11 ?a13 ?l13 ?c13 ?k13 ?a14 ?l14 ?c14 ?k14 ?a17 ?l17 ?c17 ?k17 ?a18 ?l18 ?c18 ?k18 ?a19 ?l19 ?c19 ?k19 ?a20 ?l20 ?c20 ?k20 ?a21 ?l21 ?c21 ?k21 ?a22 ?l22 ?c22 ?k22 ?a23 ?l23 ?c23 ?k23 ?y8 ?x8 ?h8 ?n8 ?y9 ?x9 ?h9 ?n9 ?y10 ?x10 ?h10 ?n10 ?ne8_9 ?ne8_10 ?ne9_10 ?z_all ?z_enumerate ?z_isinstance ?z_len ?z_list ?z_min ?z_range ?z_set ?z_sorted ?z_str ?z_tuple ?z_zip ?zgC0_0 ?zx0_0 ?zkC0_0 ?zbC0_0 ?ztC0_0 ?zgC2_0 ?zx2_0 ?zkC2_0 ?zbC2_0 ?ztC2_0 ?zexm22_0 ?zexm22_1 @Lw.law_plain
    (case a0 => k_is); (case l0 => k_is); (case c0 => k_is); (case k0 => k_is); (case a1 => k_is); (case l1 => k_is)
    (case c1 => k_is); (case k1 => k_is); (case a2 => k_is); (case l2 => k_is); (case c2 => k_is); (case k2 => k_is)
    (case a3 => k_is); (case l3 => k_is); (case c3 => k_is); (case k3 => k_is); (case a4 => k_is); (case l4 => k_is)
    (case c4 => k_is); (case k4 => k_is); (case a5 => k_is); (case l5 => k_is); (case c5 => k_is); (case k5 => k_is)
    (case a6 => k_is); (case l6 => k_is); (case c6 => k_is); (case k6 => k_is); (case a7 => k_is); (case l7 => k_is)
    (case c7 => k_is); (case k7 => k_is); (case a8 => k_is); (case l8 => k_is); (case c8 => k_is); (case k8 => k_is)
    (case a9 => k_is); (case l9 => k_is); (case c9 => k_is); (case k9 => k_is); (case a10 => k_is); (case l10 => k_is)
    (case c10 => k_is); (case k10 => k_is); (case a11 => k_is); (case l11 => k_is); (case c11 => k_is); (case k11 => k_is)
    (case a13 => k_is); (case l13 => k_is); (case c13 => k_is); (case k13 => k_is); (case a14 => k_is); (case l14 => k_is)
    (case c14 => k_is); (case k14 => k_is); (case a17 => k_is); (case l17 => k_is); (case c17 => k_is); (case k17 => k_is)
    (case a18 => k_is); (case l18 => k_is); (case c18 => k_is); (case k18 => k_is); (case a19 => k_is); (case l19 => k_is)
    (case c19 => k_is); (case k19 => k_is); (case a20 => k_is); (case l20 => k_is); (case c20 => k_is); (case k20 => k_is)
    (case a21 => k_is); (case l21 => k_is); (case c21 => k_is); (case k21 => k_is); (case a22 => k_is); (case l22 => k_is)
    (case c22 => k_is); (case k22 => k_is); (case a23 => k_is); (case l23 => k_is); (case c23 => k_is); (case k23 => k_is)
    (case y8 => k_is); (case x8 => rfl); (case h8 => first | rfl | k_is); (case n8 => first | rfl | k_is); (case y9 => k_is); (case x9 => rfl)
    (case h9 => first | rfl | k_is); (case n9 => first | rfl | k_is); (case y10 => k_is); (case x10 => rfl); (case h10 => first | rfl | k_is); (case n10 => first | rfl | k_is)
    (case ne8_9 => decide); (case ne8_10 => decide); (case ne9_10 => decide); (case z_all => k_is); (case z_enumerate => k_is); (case z_isinstance => k_is)
    (case z_len => k_is); (case z_list => k_is); (case z_min => k_is); (case z_range => k_is); (case z_set => k_is); (case z_sorted => k_is)
    (case z_str => k_is); (case z_tuple => k_is); (case z_zip => k_is); (case zgC0_0 => k_is); (case zx0_0 => k_exc); (case zkC0_0 => k_is)
    (case zbC0_0 => k_is); (case ztC0_0 => k_is); (case zgC2_0 => k_is); (case zx2_0 => k_exc); (case zkC2_0 => k_is); (case zbC2_0 => k_is)
    (case ztC2_0 => k_is); (case zexm22_0 => k_is); (case zexm22_1 => first | rfl | k_is)

