import PyProof.Rows.All
import Wide.All
import OpenK.AllK
import Wide.FinOn
import PyProof.EqAt
import PyProof.EqKinds
import PyProof.TupleCall
import HandS.ForMost
import HandS.ForExc
import HandS.CallSlots
import HandS.IsInst
import HandS.ExcIs
import HandS.Style
import HandS.TupAny
import HandS.TupMul
import HandS.Zip
import HandS.Conv
import HandS.Deep
import HandS.Wide
import HandS.WideBits
import HandS.RevRange
import HandS.NoneIn
import HandS.SetFor
import HandS.Strs
import KE.GoesEnum
import KE.KDictZip
import HandS.Zip0
import PySem.Challenge.RW_mapweave_k07_whole_maps_that_join
set_option Elab.async false
set_option linter.all false
set_option maxRecDepth 100000
set_option maxHeartbeats 4000000
/-! A data layer over HandS: each derivation also says, as a plain function of the slots' data, what the code computes. -/
namespace DL
open PySem PySem.Spec PyProof.Rows L2

/-- the data of the slots -/
abbrev Rho := List (Option PyData)
abbrev Fn := Rho → Option PyData
/-- the script, told as a thing of its own -/
def scrK (ns : List Int) : List (PyData × PyData) := ns.map fun n => (PyData.int n, PyData.none)

mutual
inductive Dd (K : PySem.W.Frag) (H : Hp) : V → PyData → Prop
  | non : Dd K H .non .none
  | bl (b : Bool) : Dd K H (.bl b) (.bool b)
  | int (i : Int) : Dd K H (.int i) (.int i)
  | str (x : Str) : Dd K H (.str x) (.str x)
  | lst {a : Addr} {xs : List V} {ds : List PyData} : H a = some (.lst xs) → DdAll K H xs ds → Dd K H (.ref a) (.list ds)
  | tup {a : Addr} {ob : Obj} {xs : List V} {ds : List PyData} : ob.dict = none → H a = some (.frz ob (.tup xs)) → DdAll K H xs ds → Dd K H (.ref a) (.tuple ds)
  | scr {a : Addr} {ns : List Int} : SqL K H a (ns.map V.int) → Dd K H (.ref a) (.dict (scrK ns))
inductive DdAll (K : PySem.W.Frag) (H : Hp) : List V → List PyData → Prop
  | nil : DdAll K H [] []
  | cons {v : V} {vs : List V} {d : PyData} {ds : List PyData} : Dd K H v d → DdAll K H vs ds → DdAll K H (v :: vs) (d :: ds)
end

section
variable {K : PySem.W.Frag} {H H' H1 H2 H3 : Hp}
mutual
theorem Dd.mono {v : V} {d : PyData} (e : Same H H') : Dd K H v d → Dd K H' v d
  | .non => .non
  | .bl b => .bl b
  | .int i => .int i
  | .str x => .str x
  | .lst h t => .lst (e _ _ h) (DdAll.mono e t)
  | .tup n h t => .tup n (e _ _ h) (DdAll.mono e t)
  | .scr h => .scr (e.seq h)
theorem DdAll.mono {vs : List V} {ds : List PyData} (e : Same H H') : DdAll K H vs ds → DdAll K H' vs ds
  | .nil => .nil
  | .cons a r => .cons (Dd.mono e a) (DdAll.mono e r)
end
theorem DdAll.length : ∀ {vs : List V} {ds : List PyData}, DdAll K H vs ds → vs.length = ds.length
  | _, _, .nil => rfl
  | _, _, .cons _ r => congrArg Nat.succ r.length
theorem DdAll.get : ∀ {vs : List V} {ds : List PyData} {i : Nat} {d : PyData}, DdAll K H vs ds → ds[i]? = some d → ∃ v, vs[i]? = some v ∧ Dd K H v d
  | _, _, _, _, .nil, h => by simp at h
  | _, _, 0, d, .cons a _, h => by simp at h; subst h; exact ⟨_, rfl, a⟩
  | _, _, i + 1, d, .cons _ r, h => by
    obtain ⟨v, h1, h2⟩ := DdAll.get (i := i) (d := d) r (by simpa using h)
    exact ⟨v, by simpa using h1, h2⟩
theorem DdAll.getv : ∀ {vs : List V} {ds : List PyData} {i : Nat} {v : V}, DdAll K H vs ds → vs[i]? = some v → ∃ d, ds[i]? = some d ∧ Dd K H v d
  | _, _, _, _, .nil, h => by simp at h
  | _, _, 0, d, .cons a _, h => by simp at h; subst h; exact ⟨_, rfl, a⟩
  | _, _, i + 1, d, .cons _ r, h => by
    obtain ⟨v, h1, h2⟩ := DdAll.getv (i := i) (v := d) r (by simpa using h)
    exact ⟨v, by simpa using h1, h2⟩
theorem DdAll.append : ∀ {vs ws : List V} {ds es : List PyData}, DdAll K H vs ds → DdAll K H ws es → DdAll K H (vs ++ ws) (ds ++ es)
  | _, _, _, _, .nil, s => s
  | _, _, _, _, .cons a r, s => .cons a (r.append s)
theorem DdAll.take : ∀ {vs : List V} {ds : List PyData} (n : Nat), DdAll K H vs ds → DdAll K H (vs.take n) (ds.take n)
  | _, _, 0, _ => .nil
  | _, _, _ + 1, .nil => .nil
  | _, _, n + 1, .cons a r => .cons a (DdAll.take n r)
theorem DdAll.drop : ∀ {vs : List V} {ds : List PyData} (n : Nat), DdAll K H vs ds → DdAll K H (vs.drop n) (ds.drop n)
  | _, _, 0, r => r
  | _, _, _ + 1, .nil => .nil
  | _, _, n + 1, .cons _ r => DdAll.drop n r
theorem DdAll.set {x : V} {d : PyData} (a : Dd K H x d) : ∀ {vs : List V} {ds : List PyData} (i : Nat), DdAll K H vs ds → DdAll K H (vs.set i x) (ds.set i d)
  | _, _, _, .nil => .nil
  | _, _, 0, .cons _ r => .cons a r
  | _, _, i + 1, .cons b r => .cons b (DdAll.set a i r)
theorem DdAll.erase : ∀ {vs : List V} {ds : List PyData} (i : Nat), DdAll K H vs ds → DdAll K H (vs.eraseIdx i) (ds.eraseIdx i)
  | _, _, _, .nil => .nil
  | _, _, 0, .cons _ r => r
  | _, _, i + 1, .cons b r => .cons b (DdAll.erase i r)
theorem DdAll.dropLast : ∀ {vs : List V} {ds : List PyData}, DdAll K H vs ds → DdAll K H vs.dropLast ds.dropLast
  | _, _, .nil => .nil
  | _, _, .cons a .nil => .nil
  | _, _, .cons a (.cons b r) => .cons a (DdAll.dropLast (.cons b r))
theorem DdAll.ints : ∀ (ns : List Int), DdAll K H (ns.map V.int) (ns.map PyData.int)
  | [] => .nil
  | n :: ns => .cons (.int n) (DdAll.ints ns)
theorem DdAll.rep {x : V} {d : PyData} (a : Dd K H x d) : ∀ n, DdAll K H (List.replicate n x) (List.replicate n d)
  | 0 => .nil
  | n + 1 => .cons a (DdAll.rep a n)

/-! ### from data of ours to Dp (for ==) -/
theorem sqL_of {a : Addr} {xs : List V} (h : H a = some (.lst xs)) : SqL K H a xs := .inl (.inl h)
theorem sqT_of {a : Addr} {ob : Obj} {xs : List V} (h : H a = some (.frz ob (.tup xs))) : SqT K H a xs := .inl (.inr ⟨ob, h⟩)
mutual
theorem Dd.dp {v : V} : ∀ {d : PyData}, Dd K H v d → d.canLay0 = true → Dp K H v d
  | _, .non, _ => .non
  | _, .bl b, _ => .bl b
  | _, .int i, _ => .int i
  | _, .str x, _ => .str x
  | _, .lst h t, c => .lst (sqL_of h) (DdAll.dp t (by simpa [PyData.canLay0] using c))
  | _, .tup _ h t, c => .tup (sqT_of h) (DdAll.dp t (by simpa [PyData.canLay0] using c))
  | _, .scr h, c => by simp [PyData.canLay0] at c
theorem DdAll.dp {vs : List V} : ∀ {ds : List PyData}, DdAll K H vs ds → PyData.canLayAll0 ds = true → DpAll K H vs ds
  | _, .nil, _ => .nil
  | _, .cons a r, c => by
    simp only [PyData.canLayAll0, Bool.and_eq_true] at c
    exact .cons (Dd.dp a c.1) (DdAll.dp r c.2)
end

/-! ### heaps -/
structure Grow (Hs H Hs' H' : Hp) : Prop where
  ex : Same H H'
  exs : Same Hs Hs'
  sub : Same Hs' H'
  new : ∀ a, Hs a = none → H a ≠ none → Hs' a = none
variable {Hs Hs' Hs1 Hs2 Hs0 H0 : Hp}
theorem Grow.refl (h : Same Hs H) : Grow Hs H Hs H := ⟨Same.refl _, Same.refl _, h, fun _ e _ => e⟩
theorem Grow.trans (a : Grow Hs H Hs1 H1) (b : Grow Hs1 H1 Hs2 H2) : Grow Hs H Hs2 H2 where
  ex := a.ex.trans b.ex
  exs := a.exs.trans b.exs
  sub := b.sub
  new := fun c e n => b.new c (a.new c e n) (fun z => n (a.ex.free z))
theorem Grow.idle (h : Same Hs H) (e : Same H H') : Grow Hs H Hs H' := ⟨e, Same.refl _, h.trans e, fun _ e _ => e⟩
theorem same_new {p : Addr} {o : HO} (h : H p = none) : Same H (upd H p o) := fun b x e => by
  rw [upd_ne (ne_of_none e h)]
  exact e
theorem Grow.alloc {p : Addr} {o : HO} (h : Same Hs H) (hp : H p = none) : Grow Hs H (upd Hs p o) (upd H p o) where
  ex := same_new hp
  exs := same_new (h.free hp)
  sub := fun b x e => by
    by_cases hb : b = p
    · subst hb; rw [upd_same] at e ⊢; exact e
    · rw [upd_ne hb] at e ⊢; exact h b x e
  new := fun a e n => by
    have : a ≠ p := fun z => n (by rw [z]; exact hp)
    rw [upd_ne this]; exact e
/-- a fresh object that is not shown to the data -/
theorem Grow.alloc0 {p : Addr} {o : HO} (h : Same Hs H) (hp : H p = none) : Grow Hs H Hs (upd H p o) := Grow.idle h (same_new hp)

/-- how slots and heap bear the data; M: the slots of lists that may change; Hs: what the data lean on; Hs0, H0: the entry -/
structure SR (K : PySem.W.Frag) (M : List Nat) (Hs0 H0 Hs H : Hp) (σ : L2.St) (ρ : Rho) : Prop where
  g : Grow Hs0 H0 Hs H
  len : σ.length = ρ.length
  frz : ∀ i d, ρ[i]? = some (some d) → M.contains i = false → ∃ v, σ[i]? = some (some v) ∧ Dd K Hs v d
  own : ∀ i d, ρ[i]? = some (some d) → M.contains i = true → ∃ p xs ds, d = .list ds ∧ σ[i]? = some (some (.ref p)) ∧ H p = some (.lst xs) ∧ Hs p = none ∧ H0 p = none ∧ DdAll K Hs xs ds
  sep : ∀ i j di dj p, ρ[i]? = some (some di) → ρ[j]? = some (some dj) → M.contains i = true → M.contains j = true → σ[i]? = some (some (.ref p)) → σ[j]? = some (some (.ref p)) → i = j
variable {M : List Nat} {σ : L2.St} {ρ : Rho}
theorem SR.sub (r : SR K M Hs0 H0 Hs H σ ρ) : Same Hs H := r.g.sub
theorem SR.grow (r : SR K M Hs0 H0 Hs H σ ρ) (e : Grow Hs H Hs' H') : SR K M Hs0 H0 Hs' H' σ ρ where
  g := r.g.trans e
  len := r.len
  frz := fun i d h m => let ⟨v, a, b⟩ := r.frz i d h m; ⟨v, a, b.mono e.exs⟩
  own := fun i d h m => let ⟨p, xs, ds, a, b, c, n, n0, k⟩ := r.own i d h m; ⟨p, xs, ds, a, b, e.ex _ _ c, e.new p n (by rw [c]; simp), n0, k.mono e.exs⟩
  sep := r.sep
/-- what has been new since the entry stands still -/
def thawH (H0 Hs H : Hp) : Hp := fun a => if H0 a = none then H a else Hs a
open Classical in
theorem SR.thaw (r : SR K M Hs0 H0 Hs H σ ρ) : ∃ Hp', Same Hs Hp' ∧ SR K [] Hs0 H0 Hp' H σ ρ ∧ SR K [] Hp' H Hp' H σ ρ := by
  refine ⟨fun a => if H0 a = none then H a else Hs a, ?_⟩
  have e1 : Same Hs (fun a => if H0 a = none then H a else Hs a) := fun b o e => by
    show (if H0 b = none then H b else Hs b) = some o
    by_cases z : H0 b = none
    · rw [if_pos z]; exact r.sub b o e
    · rw [if_neg z]; exact e
  have e2 : Same (fun a => if H0 a = none then H a else Hs a) H := fun b o e => by
    have e : (if H0 b = none then H b else Hs b) = some o := e
    by_cases z : H0 b = none
    · rw [if_pos z] at e; exact e
    · rw [if_neg z] at e; exact r.sub b o e
  have g : Grow Hs0 H0 (fun a => if H0 a = none then H a else Hs a) H := ⟨r.g.ex, r.g.exs.trans e1, e2, fun a e n => by
    show (if H0 a = none then H a else Hs a) = none
    rw [if_neg n]; exact r.g.new a e n⟩
  have fz : ∀ i d, ρ[i]? = some (some d) → ∃ v, σ[i]? = some (some v) ∧ Dd K (fun a => if H0 a = none then H a else Hs a) v d := fun i d h => by
    cases m : M.contains i with
    | false =>
      obtain ⟨v, a, b⟩ := r.frz i d h m
      exact ⟨v, a, b.mono e1⟩
    | true =>
      obtain ⟨p, xs, ds, rfl, b, c, n, n0, k⟩ := r.own i d h m
      exact ⟨_, b, .lst (by show (if H0 p = none then H p else Hs p) = _; rw [if_pos n0]; exact c) (k.mono e1)⟩
  exact ⟨e1, ⟨g, r.len, fun i d h _ => fz i d h, fun _ _ _ m => by simp at m, fun _ _ _ _ _ _ _ m => by simp at m⟩,
    ⟨Grow.refl e2, r.len, fun i d h _ => fz i d h, fun _ _ _ m => by simp at m, fun _ _ _ _ _ _ _ m => by simp at m⟩⟩
end
end DL

namespace DL
open PySem PySem.Spec PyProof.Rows L2

/-! ### judgements: a derivation, its reading, and the function of the data -/
structure ED (K : PySem.W.Frag) (X : Cx) (M : List Nat) (e : Expr) (t : TE) (f : Fn) : Prop where
  pe : PE X e t
  sm : ∀ {Hs0 H0 Hs H : Hp} {σ : L2.St} {ρ : Rho} {d : PyData} {Q : VK}, SR K M Hs0 H0 Hs H σ ρ → f ρ = some d → (∀ v Hs' H', Grow Hs H Hs' H' → Dd K Hs' v d → Q v H') → t σ H Q
structure AD (K : PySem.W.Frag) (X : Cx) (M : List Nat) (es : List Expr) (t : TA) (f : Rho → Option (List PyData)) : Prop where
  pa : PA X es t
  sm : ∀ {Hs0 H0 Hs H : Hp} {σ : L2.St} {ρ : Rho} {ds : List PyData} {Q : List V → Hp → Prop}, SR K M Hs0 H0 Hs H σ ρ → f ρ = some ds → (∀ vs Hs' H', Grow Hs H Hs' H' → DdAll K Hs' vs ds → Q vs H') → t σ H Q
structure TD (K : PySem.W.Frag) (X : Cx) (M : List Nat) (e : Expr) (t : TT) (f : Rho → Option Bool) : Prop where
  pt : PT X e t
  sm : ∀ {Hs0 H0 Hs H : Hp} {σ : L2.St} {ρ : Rho} {b : Bool} {Q : Bool → Hp → Prop}, SR K M Hs0 H0 Hs H σ ρ → f ρ = some b → (∀ H', Same H H' → Q b H') → t σ H Q
structure WD (K : PySem.W.Frag) (X : Cx) (M : List Nat) (e : Expr) (t : TT) (f : Rho → Option Bool) : Prop where
  pw : PW X e t
  sm : ∀ {Hs0 H0 Hs H : Hp} {σ : L2.St} {ρ : Rho} {b : Bool} {Q : Bool → Hp → Prop}, SR K M Hs0 H0 Hs H σ ρ → f ρ = some b → (∀ H', Same H H' → Q b H') → t σ H Q
/-- a fresh list, its items below Hs' -/
structure FD (K : PySem.W.Frag) (X : Cx) (M : List Nat) (e : Expr) (t : TE) (f : Rho → Option (List PyData)) : Prop where
  pe : PE X e t
  sm : ∀ {Hs0 H0 Hs H : Hp} {σ : L2.St} {ρ : Rho} {ds : List PyData} {Q : VK}, SR K M Hs0 H0 Hs H σ ρ → f ρ = some ds →
    (∀ p xs Hs' H', Grow Hs H Hs' H' → H p = none → Hs' p = none → H' p = some (.lst xs) → DdAll K Hs' xs ds → Q (.ref p) H') → t σ H Q

section
variable {K : PySem.W.Frag} {X : Cx} {M : List Nat} {a b c e : Expr} {es : List Expr} {ta tb tc te : TE} {t u : TT} {fa fb fc f : Fn} {pos p pos' : Pos}

/-! ### names, constants -/
@[simp] def fVar (i : Nat) : Fn := fun ρ => match ρ[i]? with
  | some o => o
  | none => none
@[simp] def fC (d : PyData) : Fn := fun _ => some d
theorem fVar_some {i : Nat} {ρ : Rho} {d : PyData} (h : fVar i ρ = some d) : ρ[i]? = some (some d) := by
  unfold fVar at h
  split at h
  · rename_i o e; rw [e, h]
  · cases h
theorem ed_var (i : Nat) {x : Str} (hN : X.N[i]? = some x := by rfl) (hv : Vis X.env.scope x := by first | exact Or.inl rfl | exact Or.inr (Or.inl rfl) | exact Or.inr (Or.inr rfl)) (hM : M.contains i = false := by rfl)
    (hd : (x == ("__debug__" : Str)) = false := by decide) (hcd : (x == ("__classdict__" : Str)) = false := by decide) : ED K X M (.Name x pos) (tVar i) (fVar i) :=
  ⟨pe_var hN hv hd hcd, fun {Hs0 H0 Hs H σ ρ d Q} r h q => by
    obtain ⟨v, a, b⟩ := r.frz i d (fVar_some h) hM
    exact ⟨v, a, q v Hs H (Grow.refl r.sub) b⟩⟩
theorem ed_int {i j} : ED K X M (.Constant (.int i) j pos) (tC (.int i)) (fC (.int i)) :=
  ⟨pe_int, fun {Hs0 H0 Hs H σ ρ d Q} r h q => by cases h; exact q _ Hs H (Grow.refl r.sub) (.int i)⟩
theorem ed_bl {i j} : ED K X M (.Constant (.bool i) j pos) (tC (.bl i)) (fC (.bool i)) :=
  ⟨pe_bl, fun {Hs0 H0 Hs H σ ρ d Q} r h q => by cases h; exact q _ Hs H (Grow.refl r.sub) (.bl i)⟩
theorem ed_non {j} : ED K X M (.Constant .none j pos) (tC .non) (fC .none) :=
  ⟨pe_non, fun {Hs0 H0 Hs H σ ρ d Q} r h q => by cases h; exact q _ Hs H (Grow.refl r.sub) .non⟩
theorem ed_str {x j} : ED K X M (.Constant (.str x) j pos) (tC (.str x)) (fC (.str x)) :=
  ⟨pe_str, fun {Hs0 H0 Hs H σ ρ d Q} r h q => by cases h; exact q _ Hs H (Grow.refl r.sub) (.str x)⟩

/-! ### argument lists, displays -/
@[simp] def fNil : Rho → Option (List PyData) := fun _ => some []
@[simp] def fCons (f : Fn) (g : Rho → Option (List PyData)) : Rho → Option (List PyData) := fun ρ => (f ρ).bind fun d => (g ρ).bind fun ds => some (d :: ds)
variable {tr : TA} {fr : Rho → Option (List PyData)}
theorem ad_nil : AD K X M [] tNil fNil := ⟨pa_nil, fun {Hs0 H0 Hs H σ ρ ds Q} r h q => by cases h; exact q [] Hs H (Grow.refl r.sub) .nil⟩
theorem ad_cons (ha : ED K X M e te f) (hr : AD K X M es tr fr) (hs : starEach (e :: es) X.env = (false, eval e X.env) :: starEach es X.env := by rfl) : AD K X M (e :: es) (tCons te tr) (fCons f fr) :=
  ⟨pa_cons ha.pe hr.pa hs, fun {Hs0 H0 Hs H σ ρ ds Q} r h q => by
    unfold fCons at h
    cases h1 : f ρ with
    | none => rw [h1] at h; cases h
    | some d =>
      rw [h1] at h
      cases h2 : fr ρ with
      | none => simp [h2] at h
      | some ds' =>
        simp [h2] at h
        subst h
        refine ha.sm r h1 fun v Hs1 H1 g1 d1 => ?_
        exact hr.sm (r.grow g1) h2 fun vs Hs2 H2 g2 d2 => q _ Hs2 H2 (g1.trans g2) (.cons (d1.mono g2.exs) d2)⟩
theorem szM {n : Nat} (h : n ≤ 1000000) : n ≤ sizeLine := Nat.le_trans h (by decide)
theorem szL {n : Nat} (h : n < 1000000) : n < sizeLine := Nat.lt_of_lt_of_le h (by decide)
@[simp] def fTup (g : Rho → Option (List PyData)) : Fn := fun ρ => (g ρ).bind fun ds => if ds.length ≤ 1000000 then some (.tuple ds) else none
@[simp] def fList (g : Rho → Option (List PyData)) : Rho → Option (List PyData) := fun ρ => (g ρ).bind fun ds => if ds.length ≤ 1000000 then some ds else none
@[simp] def fFr (g : Rho → Option (List PyData)) : Fn := fun ρ => (g ρ).bind fun ds => some (.list ds)
theorem bind_some {α β : Type} {o : Option α} {k : α → Option β} {b : β} (h : o.bind k = some b) : ∃ a, o = some a ∧ k a = some b := by
  cases o with
  | none => cases h
  | some a => exact ⟨a, rfl, h⟩
theorem ite_some {α : Type} {c : Prop} [Decidable c] {a b : α} (h : (if c then some a else none) = some b) : c ∧ a = b := by
  by_cases hc : c
  · rw [if_pos hc] at h; exact ⟨hc, Option.some.inj h⟩
  · rw [if_neg hc] at h; cases h
/-- a new tuple, told with its own object: it has no dict -/
theorem Inv.tupN {pins : List (Addr × Obj)} {σ : L2.St} {H : Hp} {s : Shared} {xs : List V} {its : List Value} {t' : Nat} (I : Inv X pins σ H s) (hv : Vals xs its) (hz : xs.length ≤ sizeLine) :
    Inv X pins σ (upd H s.heap.objs.size (.frz { cls := .type "tuple", data := .seq its.toArray } (.tup xs))) { s with heap := s.heap.push { cls := .type "tuple", data := .seq its.toArray }, toks := t' } :=
  I.laid (fun _ _ q => Heap.get?_push_of_some _ q) (Nat.le_refl _) ⟨Heap.get?_push_size _ rfl, hz, its, hv, ⟨_, Heap.get?_push_size _ rfl, rfl, _, rfl⟩⟩
def NewT (Q : VK) (H : Hp) (xs : List V) : Prop := ∀ p ob, ob.dict = none → H p = none → Q (.ref p) (upd H p (.frz ob (.tup xs)))
def tTupN (t : TA) : TE := fun σ H Q => t σ H fun xs H1 => xs.length ≤ sizeLine ∧ NewT Q H1 xs
theorem pe_tupN {x1} (h : PA X es tr) : PE X (.Tuple es x1 pos) (tTupN tr) := by
  refine ⟨fun pins s σ H Q I hq => ?_⟩
  refine wpAny_Tuple_spliced (thn (h.run pos pins s σ H _ I hq) fun us s1 ⟨xs, H1, I1, r, z, q⟩ => ⟨by rw [← r.length]; exact z, ?_⟩)
  exact ⟨.ref s1.heap.objs.size, _, Inv.tupN (t' := s1.toks) I1 r z, rfl, q _ _ rfl (I1.hok.fresh (Nat.le_refl _))⟩
theorem NewT.of {Q : VK} {Hs Hs1 H H1 : Hp} {vs : List V} {ds : List PyData} (g1 : Grow Hs H Hs1 H1) (d1 : DdAll K Hs1 vs ds) (q : ∀ v Hs' H', Grow Hs H Hs' H' → Dd K Hs' v (.tuple ds) → Q v H') : NewT Q H1 vs := fun p ob hn hp => by
  have g2 : Grow Hs1 H1 (upd Hs1 p (.frz ob (.tup vs))) (upd H1 p (.frz ob (.tup vs))) := Grow.alloc g1.sub hp
  exact q _ _ _ (g1.trans g2) (.tup hn upd_same (d1.mono g2.exs))
theorem ed_tup {k} (h : AD K X M es tr fr) : ED K X M (.Tuple es k pos) (tTupN tr) (fTup fr) :=
  ⟨pe_tupN h.pa, fun {Hs0 H0 Hs H σ ρ d Q} r hf q => by
    obtain ⟨ds, h1, h2⟩ := bind_some hf
    obtain ⟨hl, rfl⟩ := ite_some h2
    exact h.sm r h1 fun vs Hs1 H1 g1 d1 => ⟨szM (by rw [d1.length]; exact hl), NewT.of g1 d1 q⟩⟩
theorem fd_lst (h : AD K X M es tr fr) : FD K X M (.List es pos) (tLst tr) (fList fr) :=
  ⟨pe_lst h.pa, fun {Hs0 H0 Hs H σ ρ ds Q} r hf q => by
    obtain ⟨ds', h1, h2⟩ := bind_some hf
    obtain ⟨hl, rfl⟩ := ite_some h2
    refine h.sm r h1 fun vs Hs1 H1 g1 d1 => ⟨szM (by rw [d1.length]; exact hl), fun p hp => ?_⟩
    exact q p vs Hs1 _ (g1.trans (Grow.alloc0 g1.sub hp)) (g1.ex.free hp) (g1.sub.free hp) upd_same d1⟩
/-- a fresh list, told as data -/
theorem ed_fr {g : Rho → Option (List PyData)} (h : FD K X M e te g) : ED K X M e te (fFr g) :=
  ⟨h.pe, fun {Hs0 H0 Hs H σ ρ d Q} r hf q => by
    obtain ⟨ds, h1, h2⟩ := bind_some hf
    obtain rfl := Option.some.inj h2
    refine h.sm r h1 fun p xs Hs1 H1 g1 hp hsp hH d1 => ?_
    have e1 : Same Hs1 (upd Hs1 p (.lst xs)) := same_new hsp
    refine q _ (upd Hs1 p (.lst xs)) H1 ⟨g1.ex, g1.exs.trans e1, fun b o z => ?_, fun a z n => ?_⟩ (.lst upd_same (d1.mono e1))
    · by_cases hb : b = p
      · subst hb; rw [upd_same] at z; rw [hH]; exact z
      · rw [upd_ne hb] at z; exact g1.sub _ _ z
    · have : a ≠ p := fun y => n (by rw [y]; exact hp)
      rw [upd_ne this]; exact g1.new a z n⟩

/-! ### operations -/
@[simp] def f2 (g : PyData → PyData → Option PyData) (fa fb : Fn) : Fn := fun ρ => (fa ρ).bind fun x => (fb ρ).bind fun y => g x y
@[simp] def f1 (g : PyData → Option PyData) (fa : Fn) : Fn := fun ρ => (fa ρ).bind g
structure OD (K : PySem.W.Frag) (X : Cx) (op : Value → Value → Sem Value) (r : R2) (g : PyData → PyData → Option PyData) : Prop where
  op : OpR X op r
  sm : ∀ {Hs H : Hp} {x y : V} {dx dy d : PyData} {Q : VK}, Same Hs H → Dd K Hs x dx → Dd K Hs y dy → g dx dy = some d → (∀ v Hs' H', Grow Hs H Hs' H' → Dd K Hs' v d → Q v H') → r x y H Q
theorem two_sm {r : R2} {g : PyData → PyData → Option PyData} (ho : ∀ {Hs H : Hp} {x y : V} {dx dy d : PyData} {Q : VK}, Same Hs H → Dd K Hs x dx → Dd K Hs y dy → g dx dy = some d → (∀ v Hs' H', Grow Hs H Hs' H' → Dd K Hs' v d → Q v H') → r x y H Q)
    (ha : ED K X M a ta fa) (hb : ED K X M b tb fb) {Hs0 H0 Hs H : Hp} {σ : L2.St} {ρ : Rho} {d : PyData} {Q : VK} (R : SR K M Hs0 H0 Hs H σ ρ) (hf : f2 g fa fb ρ = some d) (q : ∀ v Hs' H', Grow Hs H Hs' H' → Dd K Hs' v d → Q v H') : tOp r ta tb σ H Q := by
  obtain ⟨x, h1, h2⟩ := bind_some hf
  obtain ⟨y, h2, h3⟩ := bind_some h2
  refine ha.sm R h1 fun v Hs1 H1 g1 d1 => ?_
  refine hb.sm (R.grow g1) h2 fun u Hs2 H2 g2 d2 => ?_
  exact ho g2.sub (d1.mono g2.exs) d2 h3 fun w Hs3 H3 g3 d3 => q w Hs3 H3 ((g1.trans g2).trans g3) d3
theorem ed_op {op : Operator} {r : R2} {g : PyData → PyData → Option PyData} (ho : OD K X (binaryOp op) r g) (ha : ED K X M a ta fa) (hb : ED K X M b tb fb) : ED K X M (.BinOp a op b pos) (tOp r ta tb) (f2 g fa fb) :=
  ⟨pe_op ho.op ha.pe hb.pe, fun R hf q => two_sm ho.sm ha hb R hf q⟩
theorem ed_cmp {op : CmpOp} {r : R2} {g : PyData → PyData → Option PyData} (ho : OD K X (compareOp op) r g) (ha : ED K X M a ta fa) (hb : ED K X M b tb fb) (hm : behindInMarks op b = false := by first | exact nomark _ | rfl) :
    ED K X M (.Compare a [op] [b] pos) (tOp r ta tb) (f2 g fa fb) :=
  ⟨pe_cmpR ho.op ha.pe hb.pe hm, fun R hf q => two_sm ho.sm ha hb R hf q⟩
/-- a value that is a truth, as a test -/
@[simp] def fB (f : Fn) : Rho → Option Bool := fun ρ => (f ρ).bind fun d => match d with
  | .bool b => some b
  | _ => none
theorem fB_some {ρ : Rho} {b : Bool} (h : fB f ρ = some b) : f ρ = some (.bool b) := by
  obtain ⟨d, h1, h2⟩ := bind_some h
  cases d <;> simp at h2
  subst h2; exact h1
theorem td_cmp {op : CmpOp} {r : R2} {g : PyData → PyData → Option PyData} (ho : OD K X (compareOp op) r g) (ha : ED K X M a ta fa) (hb : ED K X M b tb fb) (hm : behindInMarks op b = false := by first | exact nomark _ | rfl) :
    TD K X M (.Compare a [op] [b] pos) (tTest (tOp r ta tb)) (fB (f2 g fa fb)) :=
  ⟨pt_cmpR ho.op ha.pe hb.pe hm, fun {Hs0 H0 Hs H σ ρ c Q} R hf q => two_sm ho.sm ha hb R (fB_some hf) fun v Hs1 H1 g1 d1 => by
    cases d1
    exact ⟨_, rfl, q H1 g1.ex⟩⟩
theorem td_val (ha : ED K X M e te f) (he : ∀ whole, isTrue e X.env whole = (do let v ← whole; standAt e.pos; holding [v] (truthy v)) := by intro _; rfl) : TD K X M e (tB te) (fB f) :=
  ⟨pt_val ha.pe he, fun {Hs0 H0 Hs H σ ρ c Q} R hf q => ha.sm R (fB_some hf) fun v Hs1 H1 g1 d1 => by
    cases d1
    exact ⟨_, rfl, q H1 g1.ex⟩⟩

/-! ### and, or, not -/
@[simp] def bAnd (f g : Rho → Option Bool) : Rho → Option Bool := fun ρ => (f ρ).bind fun b => if b = true then g ρ else some false
@[simp] def bOr (f g : Rho → Option Bool) : Rho → Option Bool := fun ρ => (f ρ).bind fun b => if b = true then some true else g ρ
@[simp] def bNot (f : Rho → Option Bool) : Rho → Option Bool := fun ρ => (f ρ).bind fun b => some (!b)
variable {ba bb : Rho → Option Bool} {rest : List Expr}
theorem wd_and1 (h : TD K X M a t ba) : WD K X M (.BoolOp .And [a] pos) t ba := ⟨pw_and1 h.pt, h.sm⟩
theorem wd_or1 (h : TD K X M a t ba) : WD K X M (.BoolOp .Or [a] pos) t ba := ⟨pw_or1 h.pt, h.sm⟩
theorem SR.same {Hs0 H0 Hs H H' : Hp} {σ : L2.St} {ρ : Rho} (r : SR K M Hs0 H0 Hs H σ ρ) (e : Same H H') : SR K M Hs0 H0 Hs H' σ ρ := r.grow (Grow.idle r.sub e)
theorem wd_and (ha : TD K X M a t ba) (hb : WD K X M (.BoolOp .And (b :: rest) pos) u bb) : WD K X M (.BoolOp .And (a :: b :: rest) pos) (tAnd t u) (bAnd ba bb) :=
  ⟨pw_and ha.pt hb.pw, fun {Hs0 H0 Hs H σ ρ c Q} R hf q => by
    obtain ⟨x, h1, h2⟩ := bind_some hf
    refine ha.sm R h1 fun H1 e1 => ?_
    cases x with
    | true =>
      rw [if_pos rfl] at h2 ⊢
      exact hb.sm (R.same e1) h2 fun H2 e2 => q H2 (e1.trans e2)
    | false =>
      rw [if_neg Bool.false_ne_true] at h2 ⊢
      cases h2
      exact q H1 e1⟩
theorem wd_or (ha : TD K X M a t ba) (hb : WD K X M (.BoolOp .Or (b :: rest) pos) u bb) : WD K X M (.BoolOp .Or (a :: b :: rest) pos) (tOr t u) (bOr ba bb) :=
  ⟨pw_or ha.pt hb.pw, fun {Hs0 H0 Hs H σ ρ c Q} R hf q => by
    obtain ⟨x, h1, h2⟩ := bind_some hf
    refine ha.sm R h1 fun H1 e1 => ?_
    cases x with
    | false =>
      rw [if_neg Bool.false_ne_true] at h2 ⊢
      exact hb.sm (R.same e1) h2 fun H2 e2 => q H2 (e1.trans e2)
    | true =>
      rw [if_pos rfl] at h2 ⊢
      cases h2
      exact q H1 e1⟩
theorem td_w (h : WD K X M e t ba) : TD K X M e t ba := ⟨h.pw.pt, h.sm⟩
theorem td_not (h : TD K X M a t ba) : TD K X M (.UnaryOp .Not a pos) (tNot t) (bNot ba) :=
  ⟨pt_not h.pt, fun {Hs0 H0 Hs H σ ρ c Q} R hf q => by
    obtain ⟨x, h1, h2⟩ := bind_some hf
    cases h2
    exact h.sm R h1 fun H1 e1 => q H1 e1⟩
/-- as values -/
@[simp] def fAnd (fa fb : Fn) : Fn := fun ρ => (fa ρ).bind fun d => match d with
  | .bool true => fb ρ
  | .bool false => some (.bool false)
  | _ => none
@[simp] def fOr (fa fb : Fn) : Fn := fun ρ => (fa ρ).bind fun d => match d with
  | .bool false => fb ρ
  | .bool true => some (.bool true)
  | _ => none
@[simp] def fNot (fa : Fn) : Fn := fun ρ => (fa ρ).bind fun d => match d with
  | .bool b => some (.bool (!b))
  | _ => none
theorem ed_one {op} (h : ED K X M a ta fa) : ED K X M (.BoolOp op [a] pos) ta fa := ⟨pe_one h.pe, h.sm⟩
theorem ed_and (ha : ED K X M a ta fa) (hb : ED K X M (.BoolOp .And (b :: rest) pos) tb fb) : ED K X M (.BoolOp .And (a :: b :: rest) pos) (tAndV ta tb) (fAnd fa fb) :=
  ⟨pe_and ha.pe hb.pe, fun {Hs0 H0 Hs H σ ρ d Q} R hf q => by
    obtain ⟨x, h1, h2⟩ := bind_some hf
    refine ha.sm R h1 fun v Hs1 H1 g1 d1 => ?_
    cases x with
    | bool k =>
      cases d1
      refine ⟨k, rfl, ?_⟩
      cases k with
      | true => rw [if_pos rfl]; exact hb.sm (R.grow g1) h2 fun w Hs2 H2 g2 d2 => q w Hs2 H2 (g1.trans g2) d2
      | false =>
        rw [if_neg Bool.false_ne_true]
        obtain rfl := Option.some.inj h2
        exact q _ Hs1 H1 g1 (.bl false)
    | _ => cases h2⟩
theorem ed_or (ha : ED K X M a ta fa) (hb : ED K X M (.BoolOp .Or (b :: rest) pos) tb fb) : ED K X M (.BoolOp .Or (a :: b :: rest) pos) (tOrV ta tb) (fOr fa fb) :=
  ⟨pe_or ha.pe hb.pe, fun {Hs0 H0 Hs H σ ρ d Q} R hf q => by
    obtain ⟨x, h1, h2⟩ := bind_some hf
    refine ha.sm R h1 fun v Hs1 H1 g1 d1 => ?_
    cases x with
    | bool k =>
      cases d1
      refine ⟨k, rfl, ?_⟩
      cases k with
      | false => rw [if_neg Bool.false_ne_true]; exact hb.sm (R.grow g1) h2 fun w Hs2 H2 g2 d2 => q w Hs2 H2 (g1.trans g2) d2
      | true =>
        rw [if_pos rfl]
        obtain rfl := Option.some.inj h2
        exact q _ Hs1 H1 g1 (.bl true)
    | _ => cases h2⟩
theorem ed_not (ha : ED K X M a ta fa) : ED K X M (.UnaryOp .Not a pos) (tNotV ta) (fNot fa) :=
  ⟨pe_not ha.pe, fun {Hs0 H0 Hs H σ ρ d Q} R hf q => by
    obtain ⟨x, h1, h2⟩ := bind_some hf
    refine ha.sm R h1 fun v Hs1 H1 g1 d1 => ?_
    cases x with
    | bool k =>
      cases d1
      obtain rfl := Option.some.inj h2
      exact ⟨k, rfl, q _ Hs1 H1 g1 (.bl _)⟩
    | _ => cases h2⟩
/-- a if c else b -/
@[simp] def fIf (c : Rho → Option Bool) (fa fb : Fn) : Fn := fun ρ => (c ρ).bind fun k => if k = true then fa ρ else fb ρ
theorem ed_if {c : Expr} (hc : TD K X M c t ba) (ha : ED K X M a ta fa) (hb : ED K X M b tb fb) : ED K X M (.IfExp c a b pos) (tIf t ta tb) (fIf ba fa fb) :=
  ⟨pe_ifExp hc.pt ha.pe hb.pe, fun {Hs0 H0 Hs H σ ρ d Q} R hf q => by
    obtain ⟨x, h1, h2⟩ := bind_some hf
    refine hc.sm R h1 fun H1 e1 => ?_
    cases x with
    | true => rw [if_pos rfl] at h2 ⊢; exact ha.sm (R.same e1) h2 fun v Hs2 H2 g2 d2 => q v Hs2 H2 ((Grow.idle R.sub e1).trans g2) d2
    | false => rw [if_neg Bool.false_ne_true] at h2 ⊢; exact hb.sm (R.same e1) h2 fun v Hs2 H2 g2 d2 => q v Hs2 H2 ((Grow.idle R.sub e1).trans g2) d2⟩

/-! ### chains of comparisons -/
@[simp] def fChain (g g' : PyData → PyData → Option PyData) (fa fb fc : Fn) : Fn := fun ρ => (fa ρ).bind fun x => (fb ρ).bind fun y => (g x y).bind fun z => match z with
  | .bool true => (fc ρ).bind fun w => g' y w
  | .bool false => some (.bool false)
  | _ => none
theorem chain_sm {op op' : CmpOp} {r r' : R2} {g g' : PyData → PyData → Option PyData} (ho : OD K X (compareOp op) r g) (ho' : OD K X (compareOp op') r' g') (ha : ED K X M a ta fa) (hb : ED K X M b tb fb) (hc : ED K X M c tc fc)
    {Hs0 H0 Hs H : Hp} {σ : L2.St} {ρ : Rho} {d : PyData} {Q : VK} (R : SR K M Hs0 H0 Hs H σ ρ) (hf : fChain g g' fa fb fc ρ = some d) (q : ∀ v Hs' H', Grow Hs H Hs' H' → Dd K Hs' v d → Q v H') : tChain r r' ta tb tc σ H Q := by
  obtain ⟨x, h1, h2⟩ := bind_some hf
  obtain ⟨y, h2, h3⟩ := bind_some h2
  obtain ⟨z, h3, h4⟩ := bind_some h3
  refine ha.sm R h1 fun v Hs1 H1 g1 d1 => ?_
  refine hb.sm (R.grow g1) h2 fun u Hs2 H2 g2 d2 => ?_
  refine ho.sm g2.sub (d1.mono g2.exs) d2 h3 fun w Hs3 H3 g3 d3 => ?_
  cases z with
  | bool k =>
    cases d3
    refine ⟨k, rfl, ?_⟩
    cases k with
    | true =>
      rw [if_pos rfl]
      obtain ⟨w', h5, h6⟩ := bind_some h4
      refine hc.sm (((R.grow g1).grow g2).grow g3) h5 fun w Hs4 H4 g4 d4 => ?_
      exact ho'.sm g4.sub ((d2.mono g3.exs).mono g4.exs) d4 h6 fun o Hs5 H5 g5 d5 => q o Hs5 H5 ((((g1.trans g2).trans g3).trans g4).trans g5) d5
    | false =>
      rw [if_neg Bool.false_ne_true]
      obtain rfl := Option.some.inj h4
      exact q _ Hs3 H3 ((g1.trans g2).trans g3) (.bl false)
  | _ => cases h4
theorem ed_chain {op op' : CmpOp} {r r' : R2} {g g' : PyData → PyData → Option PyData} (ho : OD K X (compareOp op) r g) (ho' : OD K X (compareOp op') r' g') (ha : ED K X M a ta fa) (hb : ED K X M b tb fb) (hc : ED K X M c tc fc)
    (hm : lastMarks [op, op'] [b, c] = false := by with_unfolding_all rfl) : ED K X M (.Compare a [op, op'] [b, c] pos) (tChain r r' ta tb tc) (fChain g g' fa fb fc) :=
  ⟨pe_chain ho.op ho'.op ha.pe hb.pe hc.pe hm, fun R hf q => chain_sm ho ho' ha hb hc R hf q⟩
theorem td_chain {op op' : CmpOp} {r r' : R2} {g g' : PyData → PyData → Option PyData} (ho : OD K X (compareOp op) r g) (ho' : OD K X (compareOp op') r' g') (ha : ED K X M a ta fa) (hb : ED K X M b tb fb) (hc : ED K X M c tc fc)
    (hm : lastMarks [op, op'] [b, c] = false := by with_unfolding_all rfl) : TD K X M (.Compare a [op, op'] [b, c] pos) (tTest (tChain r r' ta tb tc)) (fB (fChain g g' fa fb fc)) :=
  ⟨pt_chain ho.op ho'.op ha.pe hb.pe hc.pe hm, fun {Hs0 H0 Hs H σ ρ k Q} R hf q => chain_sm ho ho' ha hb hc R (fB_some hf) fun v Hs1 H1 g1 d1 => by
    cases d1
    exact ⟨_, rfl, q H1 g1.ex⟩⟩

/-! ### truth of any value -/
@[simp] def gTru : PyData → Option Bool
  | .none => some false
  | .bool b => some b
  | .int i => some (i != 0)
  | .str x => if x.length ≤ 1000000 then some ((x.length : Int) != 0) else none
  | .list ds => some (!ds.isEmpty)
  | .tuple ds => some (!ds.isEmpty)
  | .dict _ => none
@[simp] def fTru (f : Fn) : Rho → Option Bool := fun ρ => (f ρ).bind gTru
theorem isEmpty_dd {H : Hp} {vs : List V} {ds : List PyData} (h : DdAll K H vs ds) : ds.isEmpty = vs.isEmpty := by
  cases h <;> rfl
theorem td_truth (ha : ED K X M e te f) (hK : X.K = K := by rfl) (he : ∀ whole, isTrue e X.env whole = (do let v ← whole; standAt e.pos; holding [v] (truthy v)) := by intro _; rfl) :
    TD K X M e (fun σ H Q => te σ H fun x H' => ∃ k, TruV K x H' k ∧ Q k H') (fTru f) := by
  subst hK
  refine ⟨pt_truth ha.pe he, fun {Hs0 H0 Hs H σ ρ k Q} R hf q => ?_⟩
  obtain ⟨d, h1, h2⟩ := bind_some hf
  refine ha.sm R h1 fun v Hs1 H1 g1 d1 => ⟨k, ?_, q H1 g1.ex⟩
  cases d1 with
  | non => exact (Option.some.inj h2).symm
  | bl b => exact (Option.some.inj h2).symm
  | int i => exact (Option.some.inj h2).symm
  | str x =>
    obtain ⟨a, b⟩ := ite_some h2
    exact ⟨szM a, b.symm⟩
  | lst h t => exact .inl ⟨_, sqL_of (g1.sub _ _ h), by rw [← isEmpty_dd t]; exact (Option.some.inj h2).symm⟩
  | tup n h t => exact .inr (.inl ⟨_, sqT_of (g1.sub _ _ h), by rw [← isEmpty_dd t]; exact (Option.some.inj h2).symm⟩)
  | scr h => cases h2
end
end DL

namespace DL
open PySem PySem.Spec PyProof.Rows L2
section
variable {K : PySem.W.Frag} {X : Cx}

/-! ### operators of ints -/
theorem od_I {op : Value → Value → Sem Value} {C : Int → Int → Prop} [DecidableRel C] {h : Int → Int → V} {g : Int → Int → PyData} (ho : OpR X op (rI C h)) (hd : ∀ (H : Hp) i j, Dd K H (h i j) (g i j)) :
    OD K X op (rI C h) (fun x y => match x, y with
      | .int i, .int j => if C i j then some (g i j) else none
      | _, _ => none) :=
  ⟨ho, fun {Hs H x y dx dy d Q} e a b hf q => by
    cases a <;> cases b <;> first
      | (cases hf; done)
      | (rename_i i j
         obtain ⟨hc, rfl⟩ := ite_some hf
         exact ⟨i, j, rfl, rfl, hc, q _ Hs H (Grow.refl e) (hd _ i j)⟩)⟩
theorem od_I0 {op : Value → Value → Sem Value} {h : Int → Int → V} {g : Int → Int → PyData} (ho : OpR X op (rI0 h)) (hd : ∀ (H : Hp) i j, Dd K H (h i j) (g i j)) :
    OD K X op (rI0 h) (fun x y => match x, y with
      | .int i, .int j => some (g i j)
      | _, _ => none) :=
  ⟨ho, fun {Hs H x y dx dy d Q} e a b hf q => by
    cases a <;> cases b <;> first
      | (cases hf; done)
      | (rename_i i j
         obtain rfl := Option.some.inj hf
         exact ⟨i, j, rfl, rfl, q _ Hs H (Grow.refl e) (hd _ i j)⟩)⟩
@[simp] def gI (g : Int → Int → Int) : PyData → PyData → Option PyData := fun x y => match x, y with
  | .int i, .int j => some (.int (g i j))
  | _, _ => none
@[simp] def gIc (C : Int → Int → Prop) [DecidableRel C] (g : Int → Int → Int) : PyData → PyData → Option PyData := fun x y => match x, y with
  | .int i, .int j => if C i j then some (.int (g i j)) else none
  | _, _ => none
@[simp] def gIb (g : Int → Int → Bool) : PyData → PyData → Option PyData := fun x y => match x, y with
  | .int i, .int j => some (.bool (g i j))
  | _, _ => none
theorem od_sub : OD K X (binaryOp .Sub) (rI0 fun i j => .int (i - j)) (gI fun i j => i - j) := od_I0 (g := fun i j => .int (i - j)) op_sub fun _ _ _ => .int _
/-- conditions are not reckoned but shown -/
noncomputable instance : DecidableRel CDiv := fun _ _ => Classical.propDecidable _
noncomputable instance : DecidableRel CPow := fun _ _ => Classical.propDecidable _
def MulOk (i j : Int) : Prop := CMul i j ∨ CMulX i j
noncomputable instance : DecidableRel MulOk := fun _ _ => Classical.propDecidable _
theorem op_mulO : OpR X (binaryOp .Mult) (rI MulOk fun i j => .int (i * j)) := opI fun _ _ _ _ _ _ _ hc q => mul_int q (hc.elim CMul.ok CMulX.ok)
theorem od_mod : OD K X (binaryOp .Mod) (rI (fun _ j => 0 < j) fun i j => .int (i % j)) (gIc (fun _ j => 0 < j) fun i j => i % j) := od_I (C := fun _ j => 0 < j) (g := fun i j => .int (i % j)) op_mod fun _ _ _ => .int _
theorem od_fdiv : OD K X (binaryOp .FloorDiv) (rI CDiv fun i j => .int (i / j)) (gIc CDiv fun i j => i / j) := od_I (g := fun i j => .int (i / j)) op_fdiv fun _ _ _ => .int _
theorem od_pow : OD K X (binaryOp .Pow) (rI CPow fun i j => .int (i ^ j.toNat)) (gIc CPow fun i j => i ^ j.toNat) := od_I (g := fun i j => .int (i ^ j.toNat)) op_pow fun _ _ _ => .int _
theorem od_shr : OD K X (binaryOp .RShift) (rI (fun _ j => 0 ≤ j) fun i j => .int (i / 2 ^ j.toNat)) (gIc (fun _ j => 0 ≤ j) fun i j => i / 2 ^ j.toNat) := od_I (C := fun _ j => 0 ≤ j) (g := fun i j => .int (i / 2 ^ j.toNat)) op_shr fun _ _ _ => .int _
theorem od_and : OD K X (binaryOp .BitAnd) (rI0 fun i j => .int (Builtin.bitAnd i j)) (gI fun i j => Builtin.bitAnd i j) := od_I0 (g := fun i j => .int (Builtin.bitAnd i j)) op_and fun _ _ _ => .int _
theorem od_lt : OD K X (compareOp .Lt) (rI0 fun i j => .bl (decide (i < j))) (gIb fun i j => decide (i < j)) := od_I0 (g := fun i j => .bool (decide (i < j))) op_lt fun _ _ _ => .bl _
theorem od_le : OD K X (compareOp .LtE) (rI0 fun i j => .bl (decide (i ≤ j))) (gIb fun i j => decide (i ≤ j)) := od_I0 (g := fun i j => .bool (decide (i ≤ j))) op_le fun _ _ _ => .bl _
theorem od_gt : OD K X (compareOp .Gt) (rI0 fun i j => .bl (decide (j < i))) (gIb fun i j => decide (j < i)) := od_I0 (g := fun i j => .bool (decide (j < i))) op_gt fun _ _ _ => .bl _
theorem od_ge : OD K X (compareOp .GtE) (rI0 fun i j => .bl (decide (j ≤ i))) (gIb fun i j => decide (j ≤ i)) := od_I0 (g := fun i j => .bool (decide (j ≤ i))) op_ge fun _ _ _ => .bl _
@[simp] def gNeg : PyData → Option PyData := fun x => match x with
  | .int i => some (.int (-i))
  | _ => none
theorem un_neg' {M : List Nat} {a : Expr} {ta : TE} {fa : Fn} {pos : Pos} (ha : ED K X M a ta fa) : ED K X M (.UnaryOp .USub a pos) (tUn (rU fun i => .int (-i)) ta) (f1 gNeg fa) :=
  ⟨pe_un un_neg ha.pe, fun {Hs0 H0 Hs H σ ρ d Q} R hf q => by
    obtain ⟨x, h1, h2⟩ := bind_some hf
    refine ha.sm R h1 fun v Hs1 H1 g1 d1 => ?_
    cases d1 <;> first
      | (cases h2; done)
      | (obtain rfl := Option.some.inj h2
         exact ⟨_, rfl, q _ Hs1 H1 g1 (.int _)⟩)⟩

/-! ### +, of ints, texts, tuples, lists -/
def rCatN (K : PySem.W.Frag) : R2 := fun x y H Q => ∃ a b xs ys, x = .ref a ∧ y = .ref b ∧ SqT K H a xs ∧ SqT K H b ys ∧ xs.length + ys.length ≤ sizeLine ∧
  (xs = [] → Q (.ref b) H) ∧ (xs ≠ [] → ys = [] → Q (.ref a) H) ∧ (xs ≠ [] → ys ≠ [] → NewT Q H (xs ++ ys))
theorem op_catN : OpR X (binaryOp .Add) (rCatN X.K) := by
  intro pins s σ H x y v u Q I rx ry h
  obtain ⟨a, b, xs, ys, rfl, rfl, ha, hb, hz, q0, q1, q2⟩ := h
  cases rx
  cases ry
  obtain ⟨its, r1, p1, _⟩ := I.tuple ha
  obtain ⟨its2, r2, p2, _⟩ := I.tuple hb
  by_cases hx : xs = []
  · subst hx
    cases r1
    exact cat_tup0 p1 p2 ⟨.ref b, H, I, rfl, q0 rfl⟩
  · refine HT.cat_tup p1 p2 (fun z => hx (r1.nil_iff.mp z)) (fun z => ⟨.ref a, H, I, rfl, q1 hx (r2.nil_iff.mp z)⟩) (fun z => ?_) (by rw [← r1.length, ← r2.length]; exact hz)
    exact ⟨.ref s.heap.objs.size, _, Inv.tupN (t' := s.toks) I (r1.append r2) (by rw [List.length_append]; exact hz), rfl, q2 hx (fun w => z (r2.nil_iff.mpr w)) _ _ rfl (I.hok.fresh (Nat.le_refl _))⟩
def rAddD (K : PySem.W.Frag) : R2 := fun x y H Q => rI0 (fun i j => .int (i + j)) x y H Q ∨ (∃ i j, x = .str i ∧ y = .str j ∧ i.length + j.length ≤ sizeLine ∧ Q (.str (i ++ j)) H) ∨ rCatN K x y H Q ∨ rCat x y H Q
@[simp] def gAdd : PyData → PyData → Option PyData
  | .int a, .int b => some (.int (a + b))
  | .str a, .str b => if a.length + b.length ≤ 1000000 then some (.str (a ++ b)) else none
  | .tuple a, .tuple b => if a.length + b.length ≤ 1000000 then some (.tuple (a ++ b)) else none
  | .list a, .list b => if a.length + b.length ≤ 1000000 then some (.list (a ++ b)) else none
  | _, _ => none
theorem od_add (hK : X.K = K := by rfl) : OD K X (binaryOp .Add) (rAddD K) gAdd := by
  subst hK
  refine ⟨op_add.or (op_add_str.or (op_catN.or op_cat)), fun {Hs H x y dx dy d Q} e a b hf q => ?_⟩
  cases a with
  | int i =>
    cases b with
    | int j =>
      obtain rfl := Option.some.inj hf
      exact .inl ⟨i, j, rfl, rfl, q _ Hs H (Grow.refl e) (.int _)⟩
    | _ => cases hf
  | str i =>
    cases b with
    | str j =>
      obtain ⟨hl, rfl⟩ := ite_some hf
      exact .inr (.inl ⟨i, j, rfl, rfl, szM hl, q _ Hs H (Grow.refl e) (.str _)⟩)
    | _ => cases hf
  | @tup a1 ob1 xs ds n1 h1 t1 =>
    cases b with
    | @tup a2 ob2 ys es n2 h2 t2 =>
      obtain ⟨hl, rfl⟩ := ite_some hf
      refine .inr (.inr (.inl ⟨a1, a2, xs, ys, rfl, rfl, sqT_of (e _ _ h1), sqT_of (e _ _ h2), szM (by rw [t1.length, t2.length]; exact hl), fun z => ?_, fun _ z => ?_, fun _ _ => NewT.of (Grow.refl e) (t1.append t2) q⟩))
      · subst z
        cases t1
        exact q _ Hs H (Grow.refl e) (.tup n2 h2 t2)
      · subst z
        cases t2
        rw [List.append_nil] at q
        exact q _ Hs H (Grow.refl e) (.tup n1 h1 t1)
    | _ => cases hf
  | @lst a1 xs ds h1 t1 =>
    cases b with
    | @lst a2 ys es h2 t2 =>
      obtain ⟨hl, rfl⟩ := ite_some hf
      refine .inr (.inr (.inr ⟨a1, a2, xs, ys, rfl, rfl, e _ _ h1, e _ _ h2, szM (by rw [t1.length, t2.length]; exact hl), fun p hp => ?_⟩))
      have g2 : Grow Hs H (upd Hs p (.lst (xs ++ ys))) (upd H p (.lst (xs ++ ys))) := Grow.alloc e hp
      exact q _ _ _ g2 (.lst upd_same ((t1.append t2).mono g2.exs))
    | _ => cases hf
  | _ => cases hf

/-! ### * -/
/-- a tuple times an int: nothing, itself, or anew -/
theorem flat_rep_nil {α : Type} (n : Nat) : (List.replicate n ([] : List α)).flatten = [] := by
  induction n with
  | zero => rfl
  | succ n ih => rw [List.replicate_succ, List.flatten_cons, ih]; rfl
/-! ### ==, != of data; is; in -/
def gEq (neg : Bool) : PyData → PyData → Option PyData := fun x y => if SeqAt.shaped x = true ∧ SeqAt.shaped y = true then some (.bool (xor neg (PyData.eqv x y))) else none
theorem od_eq {k : Nat} (hr : Room k X.A) (hK : X.K = K := by rfl) : OD K X (compareOp .Eq) (rEqD K) (gEq false) := by
  subst hK
  refine ⟨op_eqD hr.units, fun {Hs H x y dx dy d Q} e a b hf q => ?_⟩
  obtain ⟨⟨c1, c2⟩, rfl⟩ := ite_some hf
  refine ⟨dx, dy, (a.mono e).dp (SeqAt.canLay_of_shaped c1), (b.mono e).dp (SeqAt.canLay_of_shaped c2), c1, c2, ?_⟩
  have := q (.bl (xor false (PyData.eqv dx dy))) Hs H (Grow.refl e) (.bl _)
  rwa [Bool.false_xor] at this
theorem od_ne {k : Nat} (hr : Room k X.A) (hK : X.K = K := by rfl) : OD K X (compareOp .NotEq) (rNeD K) (gEq true) := by
  subst hK
  refine ⟨op_neD hr.units, fun {Hs H x y dx dy d Q} e a b hf q => ?_⟩
  obtain ⟨⟨c1, c2⟩, rfl⟩ := ite_some hf
  refine ⟨dx, dy, (a.mono e).dp (SeqAt.canLay_of_shaped c1), (b.mono e).dp (SeqAt.canLay_of_shaped c2), c1, c2, ?_⟩
  have := q (.bl (xor true (PyData.eqv dx dy))) Hs H (Grow.refl e) (.bl _)
  rwa [Bool.true_xor] at this
/-- is, is not: of truths, or with None on the right -/
@[simp] def gIs (neg : Bool) : PyData → PyData → Option PyData
  | .bool a, .bool b => some (.bool (xor neg (decide (a = b))))
  | .none, .none => some (.bool (xor neg true))
  | .bool _, .none => some (.bool (xor neg false))
  | .int _, .none => some (.bool (xor neg false))
  | .str _, .none => some (.bool (xor neg false))
  | .tuple _, .none => some (.bool (xor neg false))
  | .list _, .none => some (.bool (xor neg false))
  | _, _ => none
def rIsD (neg : Bool) : R2 := fun x y H Q => (∃ a b, x = .bl a ∧ y = .bl b ∧ Q (.bl (xor neg (decide (a = b)))) H) ∨ (y = .non ∧ Q (.bl (xor neg (decide (x = .non)))) H)
theorem is_sm {neg : Bool} {Hs H : Hp} {x y : V} {dx dy d : PyData} {Q : VK} (e : Same Hs H) (a : Dd K Hs x dx) (b : Dd K Hs y dy) (hf : gIs neg dx dy = some d) (q : ∀ v Hs' H', Grow Hs H Hs' H' → Dd K Hs' v d → Q v H') : rIsD neg x y H Q := by
  cases b with
  | bl k =>
    cases a <;> first
      | (cases hf; done)
      | (rename_i j
         obtain rfl := Option.some.inj hf
         exact .inl ⟨j, k, rfl, rfl, q _ Hs H (Grow.refl e) (.bl _)⟩)
  | non =>
    refine .inr ⟨rfl, ?_⟩
    have z : ∀ (u : V), u ≠ .non → decide (u = .non) = false := fun u hu => decide_eq_false hu
    cases a with
    | non =>
      obtain rfl := Option.some.inj hf
      exact q _ Hs H (Grow.refl e) (.bl _)
    | bl j =>
      obtain rfl := Option.some.inj hf
      rw [z (.bl j) (fun w => nomatch w)]
      exact q _ Hs H (Grow.refl e) (.bl _)
    | int j =>
      obtain rfl := Option.some.inj hf
      rw [z (.int j) (fun w => nomatch w)]
      exact q _ Hs H (Grow.refl e) (.bl _)
    | str j =>
      obtain rfl := Option.some.inj hf
      rw [z (.str j) (fun w => nomatch w)]
      exact q _ Hs H (Grow.refl e) (.bl _)
    | lst h t =>
      obtain rfl := Option.some.inj hf
      rw [z (.ref _) (fun w => nomatch w)]
      exact q _ Hs H (Grow.refl e) (.bl _)
    | tup n h t =>
      obtain rfl := Option.some.inj hf
      rw [z (.ref _) (fun w => nomatch w)]
      exact q _ Hs H (Grow.refl e) (.bl _)
    | scr h => cases hf
  | _ => cases a <;> cases hf
theorem od_is : OD K X (compareOp .Is) (rIsD false) (gIs false) :=
  ⟨fun pins s σ H x y v u Q I rx ry h => by
    rcases h with ⟨a, b, rfl, rfl, q⟩ | ⟨rfl, q⟩
    · exact op_isBl pins s σ H _ _ v u Q I rx ry ⟨a, b, rfl, rfl, by rwa [Bool.false_xor] at q⟩
    · exact op_isN pins s σ H _ _ v u Q I rx ry ⟨rfl, by rwa [Bool.false_xor] at q⟩, is_sm⟩
theorem od_isNot : OD K X (compareOp .IsNot) (rIsD true) (gIs true) :=
  ⟨fun pins s σ H x y v u Q I rx ry h => by
    rcases h with ⟨a, b, rfl, rfl, q⟩ | ⟨rfl, q⟩
    · exact op_notBl pins s σ H _ _ v u Q I rx ry ⟨a, b, rfl, rfl, by rwa [Bool.true_xor] at q⟩
    · exact op_notN pins s σ H _ _ v u Q I rx ry ⟨rfl, by rwa [Bool.true_xor] at q⟩, is_sm⟩

@[simp] def flatD : PyData → Bool
  | .none => true
  | .bool _ => true
  | .int _ => true
  | .str _ => true
  | _ => false
theorem flat_dv {H : Hp} {v : V} {d : PyData} (a : Dd K H v d) (f : flatD d = true) : flatV v = true := by
  cases a <;> first | rfl | cases f
theorem flats_dv {H : Hp} : ∀ {vs : List V} {ds : List PyData}, DdAll K H vs ds → ds.all flatD = true → vs.all flatV = true
  | _, _, .nil, _ => rfl
  | _, _, .cons a r, f => by
    rw [List.all_cons, Bool.and_eq_true] at f ⊢
    exact ⟨flat_dv a f.1, flats_dv r f.2⟩
theorem eqV_dv {H : Hp} {v u : V} {d e : PyData} (a : Dd K H v d) (b : Dd K H u e) (fd : flatD d = true) (fe : flatD e = true) : eqV v u = PyData.eqv d e := by
  cases a <;> cases b <;> first | rfl | cases fd | cases fe
theorem inV_dv {H : Hp} {x : V} {d : PyData} (a : Dd K H x d) (fd : flatD d = true) : ∀ {vs : List V} {ds : List PyData}, DdAll K H vs ds → ds.all flatD = true → inV x vs = ds.any fun z => PyData.eqv z d
  | _, _, .nil, _ => rfl
  | _, _, .cons b r, f => by
    rw [List.all_cons, Bool.and_eq_true] at f
    show (eqV _ x || inV x _) = _
    rw [List.any_cons, eqV_dv b a f.1 fd, inV_dv a fd r f.2]
def gIn (neg : Bool) : PyData → PyData → Option PyData := fun x y => match y with
  | .list ds => if (flatD x = true ∧ ds.all flatD = true) ∨ (SeqAt.shaped x = true ∧ SeqAt.shaped (.list ds) = true) then some (.bool (xor neg (ds.any fun z => PyData.eqv z x))) else none
  | .tuple ds => if flatD x = true ∧ ds.all flatD = true then some (.bool (xor neg (ds.any fun z => PyData.eqv z x))) else none
  | _ => none
def rInN (K : PySem.W.Frag) (neg : Bool) : R2 := fun x y H Q => rIn K neg x y H Q ∨ (if neg = true then rNotInD K x y H Q else rInD K x y H Q)
theorem in_sm {neg : Bool} {Hs H : Hp} {x y : V} {dx dy d : PyData} {Q : VK} (e : Same Hs H) (a : Dd K Hs x dx) (b : Dd K Hs y dy) (hf : gIn neg dx dy = some d) (q : ∀ v Hs' H', Grow Hs H Hs' H' → Dd K Hs' v d → Q v H') : rInN K neg x y H Q := by
  cases b with
  | @lst p ys ds h t =>
    obtain ⟨hc, rfl⟩ := ite_some hf
    rcases hc with ⟨c1, c2⟩ | ⟨c1, c2⟩
    · refine .inl ⟨p, ys, rfl, .inl (sqL_of (e _ _ h)), flat_dv a c1, flats_dv t c2, ?_⟩
      rw [inV_dv a c1 t c2]
      cases neg with
      | true => have := q (.bl (xor true (ds.any fun z => PyData.eqv z dx))) Hs H (Grow.refl e) (.bl _); rwa [Bool.true_xor] at this
      | false => have := q (.bl (xor false (ds.any fun z => PyData.eqv z dx))) Hs H (Grow.refl e) (.bl _); rwa [Bool.false_xor] at this
    · refine .inr ?_
      have d1 : Dp K H x dx := (a.mono e).dp (SeqAt.canLay_of_shaped c1)
      have d2 : Dp K H (.ref p) (.list ds) := ((Dd.lst h t : Dd K Hs (.ref p) (.list ds)).mono e).dp (SeqAt.canLay_of_shaped c2)
      cases neg with
      | true => rw [if_pos rfl]; exact ⟨dx, ds, d1, d2, c1, c2, by have := q (.bl (xor true (ds.any fun z => PyData.eqv z dx))) Hs H (Grow.refl e) (.bl _); rwa [Bool.true_xor] at this⟩
      | false => rw [if_neg Bool.false_ne_true]; exact ⟨dx, ds, d1, d2, c1, c2, by have := q (.bl (xor false (ds.any fun z => PyData.eqv z dx))) Hs H (Grow.refl e) (.bl _); rwa [Bool.false_xor] at this⟩
  | @tup p ob ys ds n h t =>
    obtain ⟨⟨c1, c2⟩, rfl⟩ := ite_some hf
    refine .inl ⟨p, ys, rfl, .inr (sqT_of (e _ _ h)), flat_dv a c1, flats_dv t c2, ?_⟩
    rw [inV_dv a c1 t c2]
    cases neg with
    | true => have := q (.bl (xor true (ds.any fun z => PyData.eqv z dx))) Hs H (Grow.refl e) (.bl _); rwa [Bool.true_xor] at this
    | false => have := q (.bl (xor false (ds.any fun z => PyData.eqv z dx))) Hs H (Grow.refl e) (.bl _); rwa [Bool.false_xor] at this
  | _ => cases hf
theorem od_in {k : Nat} (hr : Room k X.A) (hK : X.K = K := by rfl) : OD K X (compareOp .In) (rInN K false) (gIn false) := by
  subst hK
  exact ⟨fun pins s σ H x y v u Q I rx ry h => by
    rcases h with h | h
    · exact op_in_seq pins s σ H x y v u Q I rx ry h
    · rw [if_neg Bool.false_ne_true] at h
      exact op_inD (by have := hr.un; omega) pins s σ H x y v u Q I rx ry h, in_sm⟩
theorem od_notIn {k : Nat} (hr : Room k X.A) (hK : X.K = K := by rfl) : OD K X (compareOp .NotIn) (rInN K true) (gIn true) := by
  subst hK
  exact ⟨fun pins s σ H x y v u Q I rx ry h => by
    rcases h with h | h
    · exact op_notIn_seq pins s σ H x y v u Q I rx ry h
    · rw [if_pos rfl] at h
      exact op_notInD (by have := hr.un; omega) pins s σ H x y v u Q I rx ry h, in_sm⟩
end
end DL

namespace DL
open PySem PySem.Spec PyProof.Rows L2
section
variable {K : PySem.W.Frag} {X : Cx} {M : List Nat} {a b c e : Expr} {es : List Expr} {ta tb tc te : TE} {t u : TT} {fa fb fc f : Fn} {pos p pos' : Pos} {ba : Rho → Option Bool}

/-! ### subscripts, slices -/
def cutA {α : Type} (xs : List α) (lo hi : Option Int) : List α := (xs.drop (HT.sIx xs.length 0 lo)).take (HT.sIx xs.length xs.length hi - HT.sIx xs.length 0 lo)
theorem DdAll.at {H : Hp} {vs : List V} {ds : List PyData} {i : Int} {d : PyData} (t : DdAll K H vs ds) (h : atI ds i = some d) : ∃ v, atI vs i = some v ∧ Dd K H v d := by
  unfold atI at h ⊢
  rw [t.length]
  obtain ⟨j, h1, h2⟩ := bind_some h
  obtain ⟨v, h3, h4⟩ := t.get h2
  exact ⟨v, by rw [h1]; exact h3, h4⟩
theorem DdAll.cut {H : Hp} {vs : List V} {ds : List PyData} (t : DdAll K H vs ds) (lo hi : Option Int) : DdAll K H (cutV vs lo hi) (cutA ds lo hi) := by
  unfold cutV cutA
  rw [t.length]
  exact (t.drop _).take _
theorem scr_fst (ns : List Int) : (scrK ns).map (·.1) = ns.map PyData.int := by
  unfold scrK
  rw [List.map_map]
  rfl
def gIx : PyData → PyData → Option PyData := fun x y => match y with
  | .int i => (match x with
    | .list ds => atI ds i
    | .tuple ds => atI ds i
    | .dict kvs => atI (kvs.map (·.1)) i
    | .str z => if z.length ≤ 1000000 then (atI z.cps.toList i).map fun c => .str ⟨#[c]⟩ else none
    | _ => none)
  | _ => none
@[simp] theorem gIx_list (ds : List PyData) (i : Int) : gIx (.list ds) (.int i) = atI ds i := rfl
@[simp] theorem gIx_tuple (ds : List PyData) (i : Int) : gIx (.tuple ds) (.int i) = atI ds i := rfl
@[simp] theorem gIx_scr (kvs : List (PyData × PyData)) (i : Int) : gIx (.dict kvs) (.int i) = atI (kvs.map (·.1)) i := rfl
theorem ix_sm {Hs H : Hp} {x y : V} {dx dy d : PyData} {Q : VK} (e : Same Hs H) (a : Dd K Hs x dx) (b : Dd K Hs y dy) (hf : gIx dx dy = some d) (q : ∀ v Hs' H', Grow Hs H Hs' H' → Dd K Hs' v d → Q v H') : rIx K x y H Q := by
  cases b with
  | int i =>
    cases a with
    | @lst p xs ds h t =>
      obtain ⟨v, h1, h2⟩ := t.at hf
      exact .inl ⟨p, xs, i, v, rfl, rfl, sqL_of (e _ _ h), h1, q v Hs H (Grow.refl e) h2⟩
    | @tup p ob xs ds n h t =>
      obtain ⟨v, h1, h2⟩ := t.at hf
      exact .inr (.inl ⟨p, xs, i, v, rfl, rfl, sqT_of (e _ _ h), h1, q v Hs H (Grow.refl e) h2⟩)
    | @scr p ns h =>
      have hf : atI ((scrK ns).map (·.1)) i = some d := hf
      rw [scr_fst] at hf
      obtain ⟨v, h1, h2⟩ := (DdAll.ints (K := K) (H := Hs) ns).at hf
      exact .inl ⟨p, _, i, v, rfl, rfl, e.seq h, h1, q v Hs H (Grow.refl e) h2⟩
    | str z =>
      have hf : (if z.length ≤ 1000000 then (atI z.cps.toList i).map fun c => PyData.str ⟨#[c]⟩ else none) = some d := hf
      by_cases hl : z.length ≤ 1000000
      · rw [if_pos hl] at hf
        cases h1 : atI z.cps.toList i with
        | none => rw [h1] at hf; cases hf
        | some c =>
          rw [h1] at hf
          cases hf
          exact .inr (.inr ⟨z, i, c, rfl, rfl, szM hl, h1, q _ Hs H (Grow.refl e) (.str _)⟩)
      · rw [if_neg hl] at hf; cases hf
    | _ => cases hf
  | _ => cases hf
theorem ed_ix (ha : ED K X M a ta fa) (hb : ED K X M b tb fb) (hK : X.K = K := by rfl) (hs : PlainIx b := by exact fun _ _ => rfl) : ED K X M (.Subscript a b pos) (tOp (rIx K) ta tb) (f2 gIx fa fb) := by
  subst hK
  exact ⟨pe_ix ix_seq ha.pe hb.pe hs, fun R hf q => two_sm ix_sm ha hb R hf q⟩

structure PD (K : PySem.W.Frag) (X : Cx) (M : List Nat) (e : Option Expr) (t : TO) (f : Rho → Option (Option Int)) : Prop where
  po : PO X e t
  sm : ∀ {Hs0 H0 Hs H : Hp} {σ : L2.St} {ρ : Rho} {o : Option Int} {Q : Option Int → Hp → Prop}, SR K M Hs0 H0 Hs H σ ρ → f ρ = some o → (∀ Hs' H', Grow Hs H Hs' H' → Q o H') → t σ H Q
@[simp] def pNone : Rho → Option (Option Int) := fun _ => some none
@[simp] def pSome (f : Fn) : Rho → Option (Option Int) := fun ρ => (f ρ).bind fun d => match d with
  | .int i => some (some i)
  | _ => none
theorem pd_none : PD K X M none tNoPart pNone := ⟨po_none, fun {Hs0 H0 Hs H σ ρ o Q} R hf q => by cases hf; exact q Hs H (Grow.refl R.sub)⟩
theorem pd_some (h : ED K X M e te f) : PD K X M (some e) (tPart te) (pSome f) :=
  ⟨po_some h.pe, fun {Hs0 H0 Hs H σ ρ o Q} R hf q => by
    obtain ⟨d, h1, h2⟩ := bind_some hf
    refine h.sm R h1 fun v Hs1 H1 g1 d1 => ?_
    cases d1 <;> first
      | (cases h2; done)
      | (obtain rfl := Option.some.inj h2
         exact ⟨_, rfl, q Hs1 H1 g1⟩)⟩
def rSlN (K : PySem.W.Frag) : V → Option Int → Option Int → Hp → VK → Prop := fun x lo hi H Q => ∃ a xs, x = .ref a ∧ SqT K H a xs ∧
  (HT.sIx xs.length 0 lo = 0 ∧ HT.sIx xs.length xs.length hi = xs.length → Q (.ref a) H) ∧ (¬ (HT.sIx xs.length 0 lo = 0 ∧ HT.sIx xs.length xs.length hi = xs.length) → NewT Q H (cutV xs lo hi))
theorem sl_tupN : SlR X (rSlN X.K) := by
  intro pins s σ H x v vl vu lo hi sl Q I rx hs pl pu h
  obtain ⟨a, xs, rfl, hx, q1, q2⟩ := h
  cases rx
  obtain ⟨its, r, ht, hz⟩ := I.tuple hx
  have hlen : its.toArray.size = xs.length := by rw [List.size_toArray]; exact r.length.symm
  by_cases hw : HT.sIx xs.length 0 lo = 0 ∧ HT.sIx xs.length xs.length hi = xs.length
  · refine ⟨"tuple", _, PyProof.Rows.slot_tuple_getitem.lookup, ht.typeIs, ?_⟩
    exact getItem_tuple_whole ht hs pl pu (by rw [hlen]; exact hw) ⟨.ref a, H, I, rfl, q1 hw⟩
  · refine ⟨"tuple", _, PyProof.Rows.slot_tuple_getitem.lookup, ht.typeIs, ?_⟩
    refine HT.getItem_tuple_cut ht hs pl pu (by rw [hlen]; exact hw) ?_ (by rw [hlen]; exact hz)
    rw [hlen]
    exact ⟨.ref s.heap.objs.size, _, Inv.tupN (t' := s.toks) I ((r.drop (HT.sIx xs.length 0 lo)).take (HT.sIx xs.length xs.length hi - HT.sIx xs.length 0 lo)) (Nat.le_trans (cutV_length xs lo hi) hz), rfl, q2 hw _ _ rfl (I.hok.fresh (Nat.le_refl _))⟩
def rSlD (K : PySem.W.Frag) : V → Option Int → Option Int → Hp → VK → Prop := fun x lo hi H Q => rSlL K x lo hi H Q ∨ rSlN K x lo hi H Q ∨ rSlS x lo hi H Q
@[simp] def gSl (x : PyData) (lo hi : Option Int) : Option PyData := match x with
  | .list ds => some (.list (cutA ds lo hi))
  | .tuple ds => some (.tuple (cutA ds lo hi))
  | .dict kvs => some (.list (cutA (kvs.map (·.1)) lo hi))
  | .str z => if z.length ≤ 1000000 then some (.str (cutS z lo hi)) else none
  | _ => none
@[simp] def fSl (f : Fn) (fl fh : Rho → Option (Option Int)) : Fn := fun ρ => (f ρ).bind fun x => (fl ρ).bind fun lo => (fh ρ).bind fun hi => gSl x lo hi
theorem newL {Q : VK} {Hs Hs1 H H1 : Hp} {vs : List V} {ds : List PyData} (g1 : Grow Hs H Hs1 H1) (d1 : DdAll K Hs1 vs ds) (q : ∀ v Hs' H', Grow Hs H Hs' H' → Dd K Hs' v (.list ds) → Q v H') : ∀ p, H1 p = none → Q (.ref p) (upd H1 p (.lst vs)) := fun p hp => by
  have g2 : Grow Hs1 H1 (upd Hs1 p (.lst vs)) (upd H1 p (.lst vs)) := Grow.alloc g1.sub hp
  exact q _ _ _ (g1.trans g2) (.lst upd_same (d1.mono g2.exs))
theorem cutA_whole {α : Type} {xs : List α} {lo hi : Option Int} (h : HT.sIx xs.length 0 lo = 0 ∧ HT.sIx xs.length xs.length hi = xs.length) : cutA xs lo hi = xs := by
  unfold cutA
  rw [h.1, h.2, List.drop_zero, Nat.sub_zero, List.take_length]
theorem ed_sl {lo hi : Option Expr} {tl th : TO} {fl fh : Rho → Option (Option Int)} {p2 : Pos} (he : ED K X M e te f) (hl : PD K X M lo tl fl) (hh : PD K X M hi th fh) (hK : X.K = K := by rfl) :
    ED K X M (.Subscript e (.Slice lo hi none p2) pos) (tSl (rSlD K) te tl th) (fSl f fl fh) := by
  subst hK
  refine ⟨pe_slice (sl_list.or (sl_tupN.or sl_str)) he.pe hl.po hh.po, fun {Hs0 H0 Hs H σ ρ d Q} R hf q => ?_⟩
  obtain ⟨x, h1, hf⟩ := bind_some hf
  obtain ⟨l, h2, hf⟩ := bind_some hf
  obtain ⟨h, h3, hf⟩ := bind_some hf
  refine he.sm R h1 fun v Hs1 H1 g1 d1 => ?_
  refine hl.sm (R.grow g1) h2 fun Hs2 H2 g2 => ?_
  refine hh.sm ((R.grow g1).grow g2) h3 fun Hs3 H3 g3 => ?_
  have g := (g1.trans g2).trans g3
  have d3 := (d1.mono g2.exs).mono g3.exs
  cases d3 with
  | @lst p xs ds hp t =>
    obtain rfl := Option.some.inj hf
    exact .inl ⟨p, xs, rfl, sqL_of (g3.sub _ _ hp), newL g (t.cut l h) q⟩
  | @scr p ns hp =>
    have hf : some (PyData.list (cutA ((scrK ns).map (·.1)) l h)) = some d := hf
    rw [scr_fst] at hf
    obtain rfl := Option.some.inj hf
    exact .inl ⟨p, _, rfl, g3.sub.seq hp, newL g ((DdAll.ints (K := X.K) (H := Hs3) ns).cut l h) q⟩
  | @tup p ob xs ds n hp t =>
    obtain rfl := Option.some.inj hf
    refine .inr (.inl ⟨p, xs, rfl, sqT_of (g3.sub _ _ hp), fun z => ?_, fun _ => NewT.of g (t.cut l h) q⟩)
    rw [t.length] at z
    rw [cutA_whole z] at q
    exact q _ Hs3 H3 g (.tup n hp t)
  | str z =>
    obtain ⟨hl, rfl⟩ := ite_some hf
    exact .inr (.inr ⟨z, rfl, szM hl, q _ Hs3 H3 g (.str _)⟩)
  | _ => cases hf

/-! ### built-ins -/
structure BD (K : PySem.W.Frag) (X : Cx) (fv : Value) (r : List V → Hp → VK → Prop) (g : List PyData → Option PyData) : Prop where
  cr : CallR X fv r
  sm : ∀ {Hs H : Hp} {xs : List V} {ds : List PyData} {d : PyData} {Q : VK}, Same Hs H → DdAll K Hs xs ds → g ds = some d → (∀ v Hs' H', Grow Hs H Hs' H' → Dd K Hs' v d → Q v H') → r xs H Q
@[simp] def fBi (g : List PyData → Option PyData) (fa : Rho → Option (List PyData)) : Fn := fun ρ => (fa ρ).bind g
variable {tr : TA} {fr : Rho → Option (List PyData)} {x : Str} {r : List V → Hp → VK → Prop} {g : List PyData → Option PyData} {id T : String}
theorem bi_sm {fv : Value} (h : BD K X fv r g) (ha : AD K X M es tr fr) {Hs0 H0 Hs H : Hp} {σ : L2.St} {ρ : Rho} {d : PyData} {Q : VK} (R : SR K M Hs0 H0 Hs H σ ρ) (hf : fBi g fr ρ = some d) (q : ∀ v Hs' H', Grow Hs H Hs' H' → Dd K Hs' v d → Q v H') : tCB r tr σ H Q := by
  obtain ⟨ds, h1, h2⟩ := bind_some hf
  exact ha.sm R h1 fun vs Hs1 H1 g1 d1 => h.sm g1.sub d1 h2 fun v Hs2 H2 g2 d2 => q v Hs2 H2 (g1.trans g2) d2
theorem ed_bi (h : BD K X (.builtin id) r g) (hm : X.mg x = none) (hv : bootBuiltins x = some (.builtin id)) (ha : AD K X M (e :: es) tr fr) (hg : Gl X x := by rfl) (hn : x ≠ "__name__" := by decide) (hdb : (x == ("__debug__" : Str)) = false := by decide)
    (he : starEach (e :: es) X.env = (false, eval e X.env) :: starEach es X.env := by rfl) (hpl : (backTo pos (starEach es X.env)).any (·.1) = false := by rfl) : ED K X M (.Call (.Name x p) (e :: es) [] pos) (tCB r tr) (fBi g fr) :=
  ⟨pe_callB h.cr hg hm hv ha.pa hn hdb he hpl, fun R hf q => bi_sm h ha R hf q⟩
theorem ed_ty (h : BD K X (.type T) r g) (hm : X.mg x = none) (hv : bootBuiltins x = some (.type T)) (ha : AD K X M (e :: es) tr fr) (hg : Gl X x := by rfl) (hn : x ≠ "__name__" := by decide) (hdb : (x == ("__debug__" : Str)) = false := by decide)
    (he : starEach (e :: es) X.env = (false, eval e X.env) :: starEach es X.env := by rfl) (hpl : (backTo pos (starEach es X.env)).any (·.1) = false := by rfl) : ED K X M (.Call (.Name x p) (e :: es) [] pos) (tCB r tr) (fBi g fr) :=
  ⟨pe_callTy h.cr hg hm hv ha.pa hn hdb he hpl, fun R hf q => bi_sm h ha R hf q⟩
theorem all1 {H : Hp} {xs : List V} {d : PyData} (h : DdAll K H xs [d]) : ∃ v, xs = [v] ∧ Dd K H v d := by
  cases h with
  | cons a r => cases r; exact ⟨_, rfl, a⟩
theorem all2 {H : Hp} {xs : List V} {d d' : PyData} (h : DdAll K H xs [d, d']) : ∃ v w, xs = [v, w] ∧ Dd K H v d ∧ Dd K H w d' := by
  cases h with
  | cons a r =>
    obtain ⟨w, rfl, b⟩ := all1 r
    exact ⟨_, _, rfl, a, b⟩
@[simp] def gLen : List PyData → Option PyData := fun xs => match xs with
  | [.str z] => if z.length ≤ 1000000 then some (.int z.length) else none
  | [.list ds] => some (.int ds.length)
  | [.tuple ds] => some (.int ds.length)
  | [.dict kvs] => some (.int kvs.length)
  | _ => none
theorem bd_len (hK : X.K = K := by rfl) : BD K X (.builtin "len") (fun xs H Q => ∃ x n, xs = [x] ∧ LenV K x H n ∧ Q (.int n) H) gLen := by
  subst hK
  refine ⟨call_len, fun {Hs H xs ds d Q} e h hf q => ?_⟩
  unfold gLen at hf
  split at hf
  · obtain ⟨v, rfl, a⟩ := all1 h
    obtain ⟨hl, rfl⟩ := ite_some hf
    cases a
    exact ⟨_, _, rfl, ⟨szM hl, rfl⟩, q _ Hs H (Grow.refl e) (.int _)⟩
  · obtain ⟨v, rfl, a⟩ := all1 h
    obtain rfl := Option.some.inj hf
    cases a with
    | lst hp t => exact ⟨_, _, rfl, .inl ⟨_, sqL_of (e _ _ hp), rfl⟩, by rw [t.length]; exact q _ Hs H (Grow.refl e) (.int _)⟩
  · obtain ⟨v, rfl, a⟩ := all1 h
    obtain rfl := Option.some.inj hf
    cases a with
    | tup n hp t => exact ⟨_, _, rfl, .inr ⟨_, sqT_of (e _ _ hp), rfl⟩, by rw [t.length]; exact q _ Hs H (Grow.refl e) (.int _)⟩
  · obtain ⟨v, rfl, a⟩ := all1 h
    obtain rfl := Option.some.inj hf
    cases a with
    | @scr p ns hp => exact ⟨_, _, rfl, .inl ⟨_, e.seq hp, rfl⟩, by
        have := q (.int ((scrK ns).length : Nat)) Hs H (Grow.refl e) (.int _)
        unfold scrK at this
        rw [List.length_map] at this ⊢
        exact this⟩
  · cases hf
/-- tuple(list), tuple(tuple) -/
theorem call_tupN : CallR X (.type "tuple") (fun xs H Q => ∃ p ys, xs = [.ref p] ∧ ((SqL X.K H p ys ∧ NewT Q H ys) ∨ (SqT X.K H p ys ∧ Q (.ref p) H))) := by
  intro pins s σ H xs us Q I r h
  obtain ⟨p, ys, rfl, h⟩ := h
  obtain ⟨u, rfl, rx⟩ := vals1 r
  cases rx
  rcases h with ⟨hq, q⟩ | ⟨hq, q⟩
  · obtain ⟨its, r', pl, hz⟩ := I.list hq
    have hlen := r'.length
    refine call_tuple_list pl.isList (fun h' kp => ?_) (by simp only [List.size_toArray] <;> omega)
    have I1 : Inv X pins σ H { s with heap := h' } := I.kept (t' := s.toks) kp
    exact ⟨.ref h'.objs.size, _, Inv.tupN (s := { s with heap := h' }) (t' := s.toks) I1 r' hz, rfl, q _ _ rfl (I1.hok.fresh (Nat.le_refl _))⟩
  · obtain ⟨its, r', pl, hz⟩ := I.tuple hq
    exact call_tuple_same pl ⟨.ref p, H, I, rfl, q⟩
@[simp] def gTuple : List PyData → Option PyData := fun xs => match xs with
  | [.list ds] => some (.tuple ds)
  | [.tuple ds] => some (.tuple ds)
  | _ => none
theorem bd_tuple (hK : X.K = K := by rfl) : BD K X (.type "tuple") (fun xs H Q => ∃ p ys, xs = [.ref p] ∧ ((SqL K H p ys ∧ NewT Q H ys) ∨ (SqT K H p ys ∧ Q (.ref p) H))) gTuple := by
  subst hK
  refine ⟨call_tupN, fun {Hs H xs ds d Q} e h hf q => ?_⟩
  unfold gTuple at hf
  split at hf
  · obtain ⟨v, rfl, a⟩ := all1 h
    obtain rfl := Option.some.inj hf
    cases a with
    | lst hp t => exact ⟨_, _, rfl, .inl ⟨sqL_of (e _ _ hp), NewT.of (Grow.refl e) t q⟩⟩
  · obtain ⟨v, rfl, a⟩ := all1 h
    obtain rfl := Option.some.inj hf
    cases a with
    | tup n hp t => exact ⟨_, _, rfl, .inr ⟨sqT_of (e _ _ hp), q _ Hs H (Grow.refl e) (.tup n hp t)⟩⟩
  · cases hf
@[simp] def gListOf : List PyData → Option PyData := fun xs => match xs with
  | [.list ds] => some (.list ds)
  | [.tuple ds] => some (.list ds)
  | _ => none
theorem bd_list (hK : X.K = K := by rfl) : BD K X (.type "list") (fun xs H Q => ∃ p ys, xs = [.ref p] ∧ (SqL K H p ys ∨ SqT K H p ys) ∧ ∀ l, H l = none → Q (.ref l) (upd H l (.lst ys))) gListOf := by
  subst hK
  refine ⟨call_list_of, fun {Hs H xs ds d Q} e h hf q => ?_⟩
  unfold gListOf at hf
  split at hf
  · obtain ⟨v, rfl, a⟩ := all1 h
    obtain rfl := Option.some.inj hf
    cases a with
    | lst hp t => exact ⟨_, _, rfl, .inl (sqL_of (e _ _ hp)), newL (Grow.refl e) t q⟩
  · obtain ⟨v, rfl, a⟩ := all1 h
    obtain rfl := Option.some.inj hf
    cases a with
    | tup n hp t => exact ⟨_, _, rfl, .inr (sqT_of (e _ _ hp)), newL (Grow.refl e) t q⟩
  · cases hf
/-- all of truths -/
@[simp] def bools : List PyData → Option (List Bool)
  | [] => some []
  | .bool b :: r => (bools r).map (b :: ·)
  | _ => none
theorem bools_dv {H : Hp} : ∀ {vs : List V} {ds : List PyData} {bs : List Bool}, DdAll K H vs ds → bools ds = some bs → vs = bs.map V.bl
  | _, _, _, .nil, h => by cases h; rfl
  | _, _, bs, .cons a r, h => by
    cases a <;> first
      | (cases h; done)
      | (rename_i b
         unfold bools at h
         cases h1 : bools _ with
         | none => rw [h1] at h; cases h
         | some cs =>
           rw [h1] at h
           cases h
           rw [bools_dv r h1]
           rfl)
@[simp] def gAll : List PyData → Option PyData := fun xs => match xs with
  | [.list ds] => (bools ds).map fun bs => .bool (bs.all _root_.id)
  | _ => none
theorem bd_all (hc : X.calm = true := by rfl) (hK : X.K = K := by rfl) : BD K X (.builtin "all") (rAll K) gAll := by
  subst hK
  refine ⟨cr_all hc, fun {Hs H xs ds d Q} e h hf q => ?_⟩
  unfold gAll at hf
  split at hf
  · obtain ⟨v, rfl, a⟩ := all1 h
    cases h1 : bools _ with
    | none => rw [h1] at hf; cases hf
    | some bs =>
      rw [h1] at hf
      cases hf
      cases a with
      | lst hp t =>
        have := bools_dv t h1
        subst this
        exact ⟨_, bs, rfl, sqL_of (e _ _ hp), q _ Hs H (Grow.refl e) (.bl _)⟩
  · cases hf
/-- ints of a list -/
@[simp] def intsD : List PyData → Option (List Int)
  | [] => some []
  | .int b :: r => (intsD r).map (b :: ·)
  | _ => none
theorem ints_dv {H : Hp} : ∀ {vs : List V} {ds : List PyData} {bs : List Int}, DdAll K H vs ds → intsD ds = some bs → vs = bs.map V.int
  | _, _, _, .nil, h => by cases h; rfl
  | _, _, bs, .cons a r, h => by
    cases a <;> first
      | (cases h; done)
      | (rename_i b
         unfold intsD at h
         cases h1 : intsD _ with
         | none => rw [h1] at h; cases h
         | some cs =>
           rw [h1] at h
           cases h
           rw [ints_dv r h1]
           rfl)
theorem intsD_map : ∀ ns : List Int, intsD (ns.map PyData.int) = some ns
  | [] => rfl
  | n :: ns => by
    rw [List.map_cons]
    unfold intsD
    rw [intsD_map ns]
    rfl
@[simp] def gMin2 : List PyData → Option PyData := fun xs => match xs with
  | [.int i, .int j] => some (.int (if j < i then j else i))
  | _ => none
@[simp] def gMax2 : List PyData → Option PyData := fun xs => match xs with
  | [.int i, .int j] => some (.int (if j > i then j else i))
  | _ => none
theorem bd_min2 (hc : X.calm = true := by rfl) : BD K X (.builtin "min") (fun xs H Q => ∃ i j, xs = [.int i, .int j] ∧ Q (.int (if j < i then j else i)) H) gMin2 :=
  ⟨call_min2 hc, fun {Hs H xs ds d Q} e h hf q => by
    unfold gMin2 at hf
    split at hf
    · obtain ⟨v, w, rfl, a, b⟩ := all2 h
      cases a; cases b
      obtain rfl := Option.some.inj hf
      exact ⟨_, _, rfl, q _ Hs H (Grow.refl e) (.int _)⟩
    · cases hf⟩
theorem bd_max2 (hc : X.calm = true := by rfl) : BD K X (.builtin "max") (fun xs H Q => ∃ i j, xs = [.int i, .int j] ∧ Q (.int (if j > i then j else i)) H) gMax2 :=
  ⟨call_max2 hc, fun {Hs H xs ds d Q} e h hf q => by
    unfold gMax2 at hf
    split at hf
    · obtain ⟨v, w, rfl, a, b⟩ := all2 h
      cases a; cases b
      obtain rfl := Option.some.inj hf
      exact ⟨_, _, rfl, q _ Hs H (Grow.refl e) (.int _)⟩
    · cases hf⟩
/-- the greatest, the least of a list of ints -/
def maxI : List Int → Int
  | [] => 0
  | [a] => a
  | a :: b :: r => max a (maxI (b :: r))
def minI : List Int → Int
  | [] => 0
  | [a] => a
  | a :: b :: r => min a (minI (b :: r))
theorem maxI_spec : ∀ {l : List Int}, l ≠ [] → maxI l ∈ l ∧ ∀ y ∈ l, y ≤ maxI l
  | [a], _ => by simp [maxI]
  | a :: b :: r, _ => by
    obtain ⟨h1, h2⟩ := maxI_spec (l := b :: r) (by simp)
    unfold maxI
    refine ⟨?_, fun y hy => ?_⟩
    · by_cases h : a ≤ maxI (b :: r)
      · rw [Int.max_eq_right h]; exact List.mem_cons_of_mem _ h1
      · rw [Int.max_eq_left (by omega)]; exact List.mem_cons_self
    · rcases List.mem_cons.mp hy with rfl | hy
      · exact Int.le_max_left _ _
      · exact Int.le_trans (h2 y hy) (Int.le_max_right _ _)
theorem minI_spec : ∀ {l : List Int}, l ≠ [] → minI l ∈ l ∧ ∀ y ∈ l, minI l ≤ y
  | [a], _ => by simp [minI]
  | a :: b :: r, _ => by
    obtain ⟨h1, h2⟩ := minI_spec (l := b :: r) (by simp)
    unfold minI
    refine ⟨?_, fun y hy => ?_⟩
    · by_cases h : minI (b :: r) ≤ a
      · rw [Int.min_eq_right h]; exact List.mem_cons_of_mem _ h1
      · rw [Int.min_eq_left (by omega)]; exact List.mem_cons_self
    · rcases List.mem_cons.mp hy with rfl | hy
      · exact Int.min_le_left _ _
      · exact Int.le_trans (Int.min_le_right _ _) (h2 y hy)
@[simp] def gMaxL : List PyData → Option PyData := fun xs => match xs with
  | [.list ds] => (intsD ds).bind fun ns => if ns ≠ [] then some (.int (maxI ns)) else none
  | _ => none
@[simp] def gMinL : List PyData → Option PyData := fun xs => match xs with
  | [.list ds] => (intsD ds).bind fun ns => if ns ≠ [] then some (.int (minI ns)) else none
  | _ => none
theorem bd_maxL (hc : X.calm = true := by rfl) (hK : X.K = K := by rfl) : BD K X (.builtin "max") (rMax K) gMaxL := by
  subst hK
  refine ⟨cr_max hc, fun {Hs H xs ds d Q} e h hf q => ?_⟩
  unfold gMaxL at hf
  split at hf
  · obtain ⟨v, rfl, a⟩ := all1 h
    obtain ⟨ns, h1, h2⟩ := bind_some hf
    obtain ⟨hne, rfl⟩ := ite_some h2
    cases a with
    | lst hp t =>
      have := ints_dv t h1
      subst this
      refine ⟨_, ns, rfl, sqL_of (e _ _ hp), List.length_pos_iff.mpr hne, fun m hm hle => ?_⟩
      obtain ⟨s1, s2⟩ := maxI_spec hne
      have : m = maxI ns := Int.le_antisymm (s2 m hm) (hle _ s1)
      rw [this]
      exact q _ Hs H (Grow.refl e) (.int _)
  · cases hf
theorem bd_minL (hc : X.calm = true := by rfl) (hK : X.K = K := by rfl) : BD K X (.builtin "min") (rMin K) gMinL := by
  subst hK
  refine ⟨cr_min hc, fun {Hs H xs ds d Q} e h hf q => ?_⟩
  unfold gMinL at hf
  split at hf
  · obtain ⟨v, rfl, a⟩ := all1 h
    obtain ⟨ns, h1, h2⟩ := bind_some hf
    obtain ⟨hne, rfl⟩ := ite_some h2
    cases a with
    | lst hp t =>
      have := ints_dv t h1
      subst this
      refine ⟨_, ns, rfl, sqL_of (e _ _ hp), List.length_pos_iff.mpr hne, fun m hm hle => ?_⟩
      obtain ⟨s1, s2⟩ := minI_spec hne
      have : m = minI ns := Int.le_antisymm (hle _ s1) (s2 m hm)
      rw [this]
      exact q _ Hs H (Grow.refl e) (.int _)
  · cases hf
@[simp] def gSum : List PyData → Option PyData := fun xs => match xs with
  | [.list ds] => (intsD ds).map fun ns => .int ns.sum
  | _ => none
theorem bd_sum (hc : X.calm = true := by rfl) (hK : X.K = K := by rfl) : BD K X (.builtin "sum") (rSum K) gSum := by
  subst hK
  refine ⟨cr_sum hc, fun {Hs H xs ds d Q} e h hf q => ?_⟩
  unfold gSum at hf
  split at hf
  · obtain ⟨v, rfl, a⟩ := all1 h
    cases h1 : intsD _ with
    | none => rw [h1] at hf; cases hf
    | some ns =>
      rw [h1] at hf
      cases hf
      cases a with
      | lst hp t =>
        have := ints_dv t h1
        subst this
        exact ⟨_, ns, rfl, sqL_of (e _ _ hp), q _ Hs H (Grow.refl e) (.int _)⟩
  · cases hf
@[simp] def gStr : List PyData → Option PyData := fun xs => match xs with
  | [.int i] => if i.natAbs.log2 < 1920 then some (.str (toString i)) else none
  | _ => none
theorem bd_str : BD K X (.type "str") (fun xs H Q => ∃ i : Int, xs = [.int i] ∧ i.natAbs.log2 < 1920 ∧ Q (.str (toString i)) H) gStr :=
  ⟨call_str_int, fun {Hs H xs ds d Q} e h hf q => by
    unfold gStr at hf
    split at hf
    · obtain ⟨v, rfl, a⟩ := all1 h
      cases a
      obtain ⟨hl, rfl⟩ := ite_some hf
      exact ⟨_, rfl, hl, q _ Hs H (Grow.refl e) (.str _)⟩
    · cases hf⟩
/-- isinstance(x, T), T one built-in type -/
@[simp] def tyD : PyData → String
  | .none => "NoneType"
  | .bool _ => "bool"
  | .int _ => "int"
  | .str _ => "str"
  | .list _ => "list"
  | .tuple _ => "tuple"
  | .dict _ => "list"
@[simp] def gIsi (T : String) : PyData → Option PyData := fun x => match x with
  | .dict _ => none
  | x => (kitB (tyD x) T).map .bool
theorem ed_isi {T : String} {x : Str} {p1 p2 : Pos} (ha : ED K X M a ta fa) (hm : X.mg "isinstance" = none) (hmT : X.mg x = none) (hvT : bootBuiltins x = some (.type T)) (hg : Gl X "isinstance" := by rfl) (hgT : Gl X x := by rfl) (hK : X.K = K := by rfl)
    (hn : x ≠ "__name__" := by decide) (hdb : (x == ("__debug__" : Str)) = false := by decide)
    (hs1 : starEach [a, .Name x p2] X.env = (false, eval a X.env) :: starEach [.Name x p2] X.env := by rfl) (hs2 : starEach [.Name x p2] X.env = (false, eval (.Name x p2) X.env) :: starEach [] X.env := by rfl) (hpl : (backTo pos (starEach [.Name x p2] X.env)).any (·.1) = false := by rfl) :
    ED K X M (.Call (.Name "isinstance" p1) [a, .Name x p2] [] pos) (tCB (rIsi K) (tCons ta (tCons (tC (.ty T)) tNil))) (f1 (gIsi T) fa) := by
  subst hK
  refine ⟨pe_callB call_isi hg hm boot_isinstance (pa_cons ha.pe (pa_cons (pe_bltn hgT hmT hvT rfl hn hdb) pa_nil hs2) hs1) (by decide) (by decide) hs1 hpl, fun {Hs0 H0 Hs H σ ρ d Q} R hf q => ?_⟩
  obtain ⟨dx, h1, h2⟩ := bind_some hf
  refine ha.sm R h1 fun v Hs1 H1 g1 d1 => ?_
  have key : ∀ {ty : String} {b : Bool}, kitB ty T = some b → TyX X.K H1 v (.type ty) → Q (.bl b) H1 → rIsi X.K [v, .ty T] H1 Q := fun hk ht hq => ⟨v, .ty T, _, _, _, rfl, .ty T, ht, kit_ty hk, hq⟩
  cases d1 with
  | non => cases hk : kitB "NoneType" T with
    | none => simp [gIsi, tyD, hk] at h2
    | some b => simp [gIsi, tyD, hk] at h2; subst h2; exact key hk (.base .non) (q _ Hs1 H1 g1 (.bl _))
  | bl k => cases hk : kitB "bool" T with
    | none => simp [gIsi, tyD, hk] at h2
    | some b => simp [gIsi, tyD, hk] at h2; subst h2; exact key hk (.base (.bl _)) (q _ Hs1 H1 g1 (.bl _))
  | int k => cases hk : kitB "int" T with
    | none => simp [gIsi, tyD, hk] at h2
    | some b => simp [gIsi, tyD, hk] at h2; subst h2; exact key hk (.base (.int _)) (q _ Hs1 H1 g1 (.bl _))
  | str k => cases hk : kitB "str" T with
    | none => simp [gIsi, tyD, hk] at h2
    | some b => simp [gIsi, tyD, hk] at h2; subst h2; exact key hk (.base (.str _)) (q _ Hs1 H1 g1 (.bl _))
  | lst hp t => cases hk : kitB "list" T with
    | none => simp [gIsi, tyD, hk] at h2
    | some b => simp [gIsi, tyD, hk] at h2; subst h2; exact key hk (.base (.lst (g1.sub _ _ hp))) (q _ Hs1 H1 g1 (.bl _))
  | tup n hp t => cases hk : kitB "tuple" T with
    | none => simp [gIsi, tyD, hk] at h2
    | some b => simp [gIsi, tyD, hk] at h2; subst h2; exact key hk (.fTuple (g1.sub _ _ hp)) (q _ Hs1 H1 g1 (.bl _))
  | scr hp => simp [gIsi] at h2

/-! ### calls of own defs -/
def spX (K : PySem.W.Frag) (n : Nat) (xc : Nat → Addr) (φ : List PyData → Option (Except Nat PyData)) : Sp := fun vs H Q E => vs.length = n ∧ ∃ Hs ds r, Same Hs H ∧ DdAll K Hs vs ds ∧ φ ds = some r ∧
  match r with
  | .ok d => ∀ v Hs' H', Grow Hs H Hs' H' → Dd K Hs' v d → Q v H'
  | .error c => ∀ H', Same H H' → E (.ref (xc c)) none H'
@[simp] def fCall (φ : List PyData → Option (Except Nat PyData)) (fa : Rho → Option (List PyData)) : Fn := fun ρ => (fa ρ).bind fun ds => (φ ds).bind fun r => match r with
  | .ok d => some d
  | .error _ => none
theorem AD.len : ∀ {es : List Expr} {tr : TA} {fr : Rho → Option (List PyData)} {ρ : Rho} {ds : List PyData} (n : Nat), fr ρ = some ds → ds.length = n → ds.length = n := fun _ _ h => h
theorem ed_call {k n : Nat} {fA : Addr} {fd : FuncData} {ps : List Str} {xc : Nat → Addr} {φ : List PyData → Option (Except Nat PyData)} (F : FnOk X.prog X.w X.K X.mg X.base (L2.CX X.prog X.w) k fA fd ps (spX K n xc φ)) (hr : Room k X.A) (hm : X.mg x = some (.ref fA))
    (hk : PySem.W.keepIn X.K (.ref fA) = true) (hb : Binds X.K fd ps []) (hn : ∀ ds r, φ ds = some r → ds.length = n) (ha : AD K X M (e :: es) tr fr) (hg : Gl X x := by rfl) (hdb : (x == ("__debug__" : Str)) = false := by decide) (he : starEach (e :: es) X.env = (false, eval e X.env) :: starEach es X.env := by rfl)
    (hpl : (backTo pos (starEach es X.env)).any (·.1) = false := by rfl) : ED K X M (.Call (.Name x p) (e :: es) [] pos) (tCall (spX K n xc φ) [] E0 tr) (fCall φ fr) :=
  ⟨pe_call F hr hg hm hk hb .nil passL ha.pa hdb he hpl, fun {Hs0 H0 Hs H σ ρ d Q} R hf q => by
    obtain ⟨ds, h1, h2⟩ := bind_some hf
    obtain ⟨r, h2, h3⟩ := bind_some h2
    refine ha.sm R h1 fun vs Hs1 H1 g1 d1 => ?_
    show spX K n xc φ (vs ++ []) H1 Q E0
    rw [List.append_nil]
    refine ⟨by rw [d1.length]; exact hn _ _ h2, Hs1, ds, r, g1.sub, d1, h2, ?_⟩
    cases r with
    | error c => cases h3
    | ok d' =>
      obtain rfl := Option.some.inj h3
      exact fun v Hs2 H2 g2 d2 => q v Hs2 H2 (g1.trans g2) d2⟩
end
end DL

namespace DL
open PySem PySem.Spec PyProof.Rows L2
abbrev YR := Hp → V → PyData → Prop
/-- a pair that an iterator makes -/
def Dy (K : PySem.W.Frag) : YR := fun H x d => ∃ a xs ds, x = .ref a ∧ d = .tuple ds ∧ H a = some (.tup xs) ∧ DdAll K H xs ds
section
variable {K : PySem.W.Frag} {X : Cx} {M : List Nat} {a b c e tg : Expr} {es : List Expr} {ta tb tc te : TE} {t u : TT} {fa fb fc f : Fn} {pos p pos' : Pos} {ba : Rho → Option Bool} {Rl : YR}

/-! ### what is walked -/
structure Yields (K : PySem.W.Frag) (Rl : YR) (J : It) (Hs : Hp) (ds : List PyData) : Prop where
  go : ∀ i H, Same Hs H → i < ds.length → J.go i H
  stop : ∀ i H, Same Hs H → ds.length ≤ i → J.stop i H
  yld : ∀ i H x H' Hs2, i < ds.length → Same Hs Hs2 → Same Hs2 H → J.yld i H x H' → ∃ Hs3, Grow Hs2 H Hs3 H' ∧ ∃ d, ds[i]? = some d ∧ Rl Hs3 x d
structure ID (K : PySem.W.Frag) (X : Cx) (M : List Nat) (Rl : YR) (tg iter : Expr) (wi : TI) (h : Rho → Option (List PyData)) : Prop where
  pi : PI X tg iter wi
  sm : ∀ {Hs0 H0 Hs H : Hp} {σ : L2.St} {ρ : Rho} {ds : List PyData} {R : It → Hp → Prop}, SR K M Hs0 H0 Hs H σ ρ → h ρ = some ds → (∀ J Hs' H', Grow Hs H Hs' H' → Yields K Rl J Hs' ds → R J H') → wi σ H R

theorem yields_list {K : PySem.W.Frag} {Hs : Hp} {p : Addr} {xs : List V} {ds : List PyData} (hq : ∀ H, Same Hs H → SqL K H p xs) (t : DdAll K Hs xs ds) : Yields K (Dd K) (Itl K p) Hs ds where
  go := fun i H e hi => by
    obtain ⟨v, h1, _⟩ := t.get (i := i) (d := ds[i]) (List.getElem?_eq_getElem hi)
    exact ⟨xs, v, hq H e, h1⟩
  stop := fun i H e hi => ⟨xs, hq H e, by rw [t.length]; exact hi⟩
  yld := fun i H x H' Hs2 hi e1 e2 h => by
    obtain ⟨rfl, h2⟩ := h
    obtain ⟨d, h3, h4⟩ := t.getv (h2 xs (hq _ (e1.trans e2)))
    exact ⟨Hs2, Grow.refl e2, d, h3, h4.mono e1⟩
theorem yields_tup {K : PySem.W.Frag} {Hs : Hp} {p : Addr} {xs : List V} {ds : List PyData} (hq : ∀ H, Same Hs H → SqT K H p xs) (t : DdAll K Hs xs ds) : Yields K (Dd K) (Itt K p) Hs ds where
  go := fun i H e hi => by
    obtain ⟨v, h1, _⟩ := t.get (i := i) (d := ds[i]) (List.getElem?_eq_getElem hi)
    exact ⟨xs, v, hq H e, h1⟩
  stop := fun i H e hi => ⟨xs, hq H e, by rw [t.length]; exact hi⟩
  yld := fun i H x H' Hs2 hi e1 e2 h => by
    obtain ⟨rfl, h2⟩ := h
    obtain ⟨d, h3, h4⟩ := t.getv (h2 xs (hq _ (e1.trans e2)))
    exact ⟨Hs2, Grow.refl e2, d, h3, h4.mono e1⟩
/-- a list, a tuple, the script -/
def iSeq (K : PySem.W.Frag) (tl : TE) : TI := fun σ H R => tl σ H fun x H1 => ∃ a, x = .ref a ∧ (((∃ xs, SqL K H1 a xs) ∧ R (Itl K a) H1) ∨ ((∃ xs, SqT K H1 a xs) ∧ R (Itt K a) H1))
theorem pi_seq {l : Expr} {tl : TE} (hl : PE X l tl) : PI X tg l (iSeq X.K tl) := by
  refine ⟨fun pins s σ H R I h => ?_⟩
  refine thn (hl.run pins s σ H _ I h) fun v s1 ⟨x, H1, I1, r1, q1⟩ => ?_
  obtain ⟨a, e, h⟩ := q1
  subst e
  cases r1
  rcases h with ⟨⟨xs, hq⟩, q⟩ | ⟨⟨xs, hq⟩, q⟩
  · obtain ⟨its, rv, p, hz⟩ := I1.list hq
    refine wpAny_pyIter_list p.isList ?_
    refine ⟨s1.heap.objs.size, [s1.heap.objs.size], _, _, H1, rfl, I1.kept (t' := s1.toks) fun b o e => Heap.get?_push_of_some _ e, turn_list a _, ⟨_, Heap.get?_push_size _ rfl, rfl, rfl⟩, fun b hb => ?_, q⟩
    have e : b = s1.heap.objs.size := by simpa using hb
    subst e
    exact I1.fpOk (Nat.le_refl _) (I1.hok.fresh (Nat.le_refl _))
  · obtain ⟨its, rv, p, hz⟩ := I1.tuple hq
    refine wpAny_pyIter_tuple (show s1.heap.IsTuple a its.toArray from p) ?_
    refine ⟨s1.heap.objs.size, [s1.heap.objs.size], _, _, H1, rfl, I1.kept (t' := s1.toks) fun b o e => Heap.get?_push_of_some _ e, turn_tuple a _, ⟨_, Heap.get?_push_size _ rfl, rfl, rfl⟩, fun b hb => ?_, q⟩
    have e : b = s1.heap.objs.size := by simpa using hb
    subst e
    exact I1.fpOk (Nat.le_refl _) (I1.hok.fresh (Nat.le_refl _))
@[simp] def seqD : PyData → Option (List PyData)
  | .list ds => some ds
  | .tuple ds => some ds
  | .dict kvs => some (kvs.map (·.1))
  | _ => none
@[simp] def iSq (f : Fn) : Rho → Option (List PyData) := fun ρ => (f ρ).bind seqD
theorem id_seq {l : Expr} (hl : ED K X M l ta f) (hK : X.K = K := by rfl) : ID K X M (Dd K) tg l (iSeq K ta) (iSq f) := by
  subst hK
  refine ⟨pi_seq hl.pe, fun {Hs0 H0 Hs H σ ρ ds R} r hf q => ?_⟩
  obtain ⟨d, h1, h2⟩ := bind_some hf
  refine hl.sm r h1 fun v Hs1 H1 g1 d1 => ?_
  cases d1 with
  | @lst p xs ds' hp t =>
    obtain rfl := Option.some.inj h2
    exact ⟨p, rfl, .inl ⟨⟨xs, sqL_of (g1.sub _ _ hp)⟩, q _ Hs1 H1 g1 (yields_list (fun H e => sqL_of (e _ _ hp)) t)⟩⟩
  | @scr p ns hp =>
    have h2 : some ((scrK ns).map (·.1)) = some ds := h2
    rw [scr_fst] at h2
    obtain rfl := Option.some.inj h2
    exact ⟨p, rfl, .inl ⟨⟨_, g1.sub.seq hp⟩, q _ Hs1 H1 g1 (yields_list (fun H e => e.seq hp) (DdAll.ints ns))⟩⟩
  | @tup p ob xs ds' n hp t =>
    obtain rfl := Option.some.inj h2
    exact ⟨p, rfl, .inr ⟨⟨xs, sqT_of (g1.sub _ _ hp)⟩, q _ Hs1 H1 g1 (yields_tup (fun H e => sqT_of (e _ _ hp)) t)⟩⟩
  | _ => cases h2
/-- range(n), range(m, n) -/
def rgD (lo : Int) (n : Nat) : List PyData := (List.range n).map fun (i : Nat) => PyData.int (lo + i)
theorem rgD_get {lo : Int} {n i : Nat} (h : i < n) : (rgD lo n)[i]? = some (.int (lo + i)) := by
  unfold rgD
  rw [List.getElem?_map, List.getElem?_range h]
  rfl
theorem rgD_len {lo : Int} {n : Nat} : (rgD lo n).length = n := by
  unfold rgD
  rw [List.length_map, List.length_range]
theorem yields_rg {K : PySem.W.Frag} {Hs : Hp} {lo : Int} {n : Nat} : Yields K (Dd K) (Itr lo n) Hs (rgD lo n) where
  go := fun i H e hi => by rw [rgD_len] at hi; exact hi
  stop := fun i H e hi => by rw [rgD_len] at hi; exact hi
  yld := fun i H x H' Hs2 hi e1 e2 h => ⟨Hs2, by
    obtain ⟨rfl, rfl⟩ := h
    rw [rgD_len] at hi
    exact ⟨Grow.refl e2, _, rgD_get hi, .int _⟩⟩
def B62 (i : Int) : Prop := -(2 ^ 62) ≤ i ∧ i < 2 ^ 62
noncomputable instance : DecidablePred B62 := fun _ => Classical.propDecidable _
@[simp] noncomputable def iR1 (f : Fn) : Rho → Option (List PyData) := fun ρ => (f ρ).bind fun d => match d with
  | .int j => if B62 j then some (rgD 0 j.toNat) else none
  | _ => none
theorem id_range1 {p pos : Pos} (ha : ED K X M a ta f) (hm : X.mg "range" = none) (hg : Gl X "range" := by rfl) (hs : starEach [a] X.env = [(false, eval a X.env)] := by rfl) : ID K X M (Dd K) tg (.Call (.Name "range" p) [a] [] pos) (iRng1 (tCons ta tNil)) (iR1 f) :=
  ⟨pi_range1 hg hm (pa_cons ha.pe pa_nil hs) hs, fun {Hs0 H0 Hs H σ ρ ds R} r hf q => by
    obtain ⟨d, h1, h2⟩ := bind_some hf
    refine ha.sm r h1 fun v Hs1 H1 g1 d1 => ?_
    cases d1 with
    | int j =>
      obtain ⟨hb, rfl⟩ := ite_some h2
      exact ⟨j, rfl, hb.1, hb.2, q _ Hs1 H1 g1 yields_rg⟩
    | _ => cases h2⟩
@[simp] noncomputable def iR2 (f f' : Fn) : Rho → Option (List PyData) := fun ρ => (f ρ).bind fun d => (f' ρ).bind fun d' => match d, d' with
  | .int i, .int j => if B62 i ∧ B62 j then some (rgD i (j - i).toNat) else none
  | _, _ => none
theorem id_range2 {p pos : Pos} (ha : ED K X M a ta fa) (hb : ED K X M b tb fb) (hm : X.mg "range" = none) (hg : Gl X "range" := by rfl) (hs : starEach [a, b] X.env = [(false, eval a X.env), (false, eval b X.env)] := by rfl) (hs2 : starEach [b] X.env = [(false, eval b X.env)] := by rfl) :
    ID K X M (Dd K) tg (.Call (.Name "range" p) [a, b] [] pos) (iRng2 (tCons ta (tCons tb tNil))) (iR2 fa fb) :=
  ⟨pi_range2 hg hm (pa_cons ha.pe (pa_cons hb.pe pa_nil hs2) (by rw [hs, hs2])) hs hs2, fun {Hs0 H0 Hs H σ ρ ds R} r hf q => by
    obtain ⟨d, h1, h2⟩ := bind_some hf
    obtain ⟨d', h2, h3⟩ := bind_some h2
    refine ha.sm r h1 fun v Hs1 H1 g1 d1 => ?_
    refine hb.sm (r.grow g1) h2 fun w Hs2 H2 g2 d2 => ?_
    cases d1 with
    | int i =>
      cases d2 with
      | int j =>
        obtain ⟨⟨b1, b2⟩, rfl⟩ := ite_some h3
        exact ⟨i, j, rfl, ⟨b1.1, b1.2, b2.1, b2.2⟩, q _ Hs2 H2 (g1.trans g2) yields_rg⟩
      | _ => cases h3
    | _ => cases h3⟩
/-- tuple(range(n)), list(range(n)), reversed(range(n)) -/
@[simp] def gRg (w : List PyData → PyData) (f : Fn) : Fn := fun ρ => (f ρ).bind fun d => match d with
  | .int j => if 0 ≤ j ∧ j ≤ 1000000 then some (w (rgD 0 j.toNat)) else none
  | _ => none
theorem rgV_rgD {H : Hp} {j : Int} : DdAll K H (rgV 0 j) (rgD 0 j.toNat) := by
  unfold rgV rgD
  rw [Int.sub_zero]
  have : ∀ l : List Nat, DdAll K H (l.map fun i => V.int (0 + (i : Nat))) (l.map fun (i : Nat) => PyData.int (0 + i)) := fun l => by
    induction l with
    | nil => exact .nil
    | cons a r ih => exact .cons (.int _) ih
  exact this _
def tTupRgN (te : L2.St → Hp → (Int → Int → Hp → Prop) → Prop) : TE := fun σ H Q => te σ H fun a b H1 => RgOk a b ∧ NewT Q H1 (rgV a b)
theorem pe_tupRgN {te : L2.St → Hp → (Int → Int → Hp → Prop) → Prop} {p pos : Pos} (hc : X.calm = true) (hg : Gl X "tuple") (hm : X.mg "tuple" = none) (he : PRg X e te) (na : starEach [e] X.env = (false, eval e X.env) :: starEach [] X.env := by rfl) : PE X (.Call (.Name "tuple" p) [e] [] pos) (tTupRgN te) := by
  refine ⟨fun pins s σ H Q I h => ?_⟩
  refine Call_ (ld_blt I hg hm boot_tuple (PyProof.Rows.callWith_type1 (args_cons (thn (he pins s σ H _ I h) fun x s1 ⟨r, a, b, t, u, v, H1, ex, hr, I1, ok, q⟩ => args_nil ?_) na) na))
  subst ex
  obtain ⟨b1, b2, b3, b4, b5⟩ := ok
  refine call_tuple_range (n := (b - a).toNat) (I1.ok.hd hc) hr (small_one b1 b2 b3 b4) (rangeSize_nat a b) b5 fun h' tk acc hk hi => ?_
  have I2 : Inv X pins σ H1 { s1 with heap := h', toks := tk } := I1.kept hk
  have := Inv.tupN (t' := tk) I2 (vals_rg hi) (by rw [rgV_length, sizeLine_eq]; omega)
  rw [Array.toArray_toList] at this
  exact ⟨.ref h'.objs.size, _, this, rfl, q _ _ rfl (I2.hok.fresh (Nat.le_refl _))⟩
theorem ed_tupRg {p1 p2 pos1 : Pos} (ha : ED K X M a ta f) (hmr : X.mg "range" = none) (hm : X.mg "tuple" = none) (hgr : Gl X "range" := by rfl) (hg : Gl X "tuple" := by rfl) (hc : X.calm = true := by rfl)
    (n1 : starEach [a] X.env = (false, eval a X.env) :: starEach [] X.env := by rfl) (na : starEach [.Call (.Name "range" p1) [a] [] pos1] X.env = (false, eval (.Call (.Name "range" p1) [a] [] pos1) X.env) :: starEach [] X.env := by rfl) :
    ED K X M (.Call (.Name "tuple" p2) [.Call (.Name "range" p1) [a] [] pos1] [] pos) (tTupRgN (tRg1 ta)) (gRg .tuple f) :=
  ⟨pe_tupRgN hc hg hm (prg_1 hgr hmr ha.pe n1) na, fun {Hs0 H0 Hs H σ ρ d Q} r hf q => by
    obtain ⟨d, h1, h2⟩ := bind_some hf
    refine ha.sm r h1 fun v Hs1 H1 g1 d1 => ?_
    cases d1 with
    | int j =>
      obtain ⟨⟨b1, b2⟩, rfl⟩ := ite_some h2
      exact ⟨j, rfl, RgOk.of_le (by omega) (by omega) (by omega) b1, NewT.of g1 rgV_rgD q⟩
    | _ => cases h2⟩
@[simp] def gRgL (f : Fn) : Rho → Option (List PyData) := fun ρ => (f ρ).bind fun d => match d with
  | .int j => if 0 ≤ j ∧ j ≤ 1000000 then some (rgD 0 j.toNat) else none
  | _ => none
theorem fd_listRg {p1 p2 pos1 : Pos} (ha : ED K X M a ta f) (hmr : X.mg "range" = none) (hm : X.mg "list" = none) (hgr : Gl X "range" := by rfl) (hg : Gl X "list" := by rfl) (hc : X.calm = true := by rfl)
    (n1 : starEach [a] X.env = (false, eval a X.env) :: starEach [] X.env := by rfl) (na : starEach [.Call (.Name "range" p1) [a] [] pos1] X.env = (false, eval (.Call (.Name "range" p1) [a] [] pos1) X.env) :: starEach [] X.env := by rfl) :
    FD K X M (.Call (.Name "list" p2) [.Call (.Name "range" p1) [a] [] pos1] [] pos) (tLstRg (tRg1 ta)) (gRgL f) :=
  ⟨pe_listRg hc hg hm (prg_1 hgr hmr ha.pe n1) na, fun {Hs0 H0 Hs H σ ρ ds Q} r hf q => by
    obtain ⟨d, h1, h2⟩ := bind_some hf
    refine ha.sm r h1 fun v Hs1 H1 g1 d1 => ?_
    cases d1 with
    | int j =>
      obtain ⟨⟨b1, b2⟩, rfl⟩ := ite_some h2
      refine ⟨j, rfl, RgOk.of_le (by omega) (by omega) (by omega) b1, fun p hp => ?_⟩
      exact q p _ Hs1 _ (g1.trans (Grow.alloc0 g1.sub hp)) (g1.ex.free hp) (g1.sub.free hp) upd_same rgV_rgD
    | _ => cases h2⟩

/-! ### targets -/
structure GD (K : PySem.W.Frag) (X : Cx) (M : List Nat) (Rl : YR) (vs : List Nat) (tg : Expr) (g : TG) (h : PyData → Rho → Option Rho) : Prop where
  pg : PG X tg g
  sm : ∀ {Hs0 H0 Hs H : Hp} {σ : L2.St} {ρ ρ' : Rho} {v : V} {d : PyData} {Q : L2.St → Hp → Prop}, SR K M Hs0 H0 Hs H σ ρ → Rl Hs v d → h d ρ = some ρ' → (∀ σ', SR K M Hs0 H0 Hs H σ' ρ' → (∀ ws, (∀ i ∈ vs, i ∈ ws) → wipe σ' ws = wipe σ ws) → Q σ' H) → g v σ H Q
theorem wipe_set {σ : L2.St} {i : Nat} {x : Option V} : ∀ {ws : List Nat}, i ∈ ws → wipe (σ.set i x) ws = wipe σ ws
  | w :: ws, h => by
    unfold wipe
    by_cases hw : i ∈ ws
    · rw [wipe_set hw]
    · have hi : i = w := by
        rcases List.mem_cons.mp h with z | z
        · exact z
        · exact absurd z hw
      subst hi
      have out : ∀ (vs : List Nat) (τ : L2.St), i ∉ vs → (wipe (τ.set i x) vs).set i none = (wipe τ vs).set i none := fun vs => by
        induction vs with
        | nil => intro τ _; unfold wipe; rw [List.set_set]
        | cons v vs ih =>
          intro τ hv
          unfold wipe
          have hne : v ≠ i := fun z => hv (by rw [z]; exact List.mem_cons_self)
          rw [List.set_comm _ _ hne, ih τ (fun z => hv (List.mem_cons_of_mem _ z)), List.set_comm _ _ hne.symm]
      exact out ws σ hw
theorem SR.set {Hs0 H0 Hs H : Hp} {σ : L2.St} {ρ : Rho} {i : Nat} {v : V} {d : PyData} (r : SR K M Hs0 H0 Hs H σ ρ) (hM : M.contains i = false) (a : Dd K Hs v d) : SR K M Hs0 H0 Hs H (σ.set i (some v)) (ρ.set i (some d)) where
  g := r.g
  len := by rw [List.length_set, List.length_set]; exact r.len
  frz := fun j e h m => by
    by_cases hj : i = j
    · subst hj
      have hi : i < ρ.length := by
        have := (List.getElem?_eq_some_iff.mp h).1
        rwa [List.length_set] at this
      rw [List.getElem?_set_self hi] at h
      cases h
      exact ⟨v, List.getElem?_set_self (by rw [r.len]; exact hi), a⟩
    · rw [List.getElem?_set_ne hj] at h ⊢
      exact r.frz j e h m
  own := fun j e h m => by
    have hj : i ≠ j := fun z => by rw [z, m] at hM; cases hM
    rw [List.getElem?_set_ne hj] at h ⊢
    exact r.own j e h m
  sep := fun j k dj dk p h1 h2 m1 m2 h3 h4 => by
    have hj : i ≠ j := fun z => by rw [z, m1] at hM; cases hM
    have hk : i ≠ k := fun z => by rw [z, m2] at hM; cases hM
    rw [List.getElem?_set_ne hj] at h1 h3
    rw [List.getElem?_set_ne hk] at h2 h4
    exact r.sep j k dj dk p h1 h2 m1 m2 h3 h4
@[simp] def hName (i : Nat) : PyData → Rho → Option Rho := fun d ρ => some (ρ.set i (some d))
theorem gd_name (i : Nat) {x : Str} (hN : X.N.Nodup) (hi : X.N[i]? = some x := by rfl) (hx : Loc X.env.scope x := by first | exact Or.inl rfl | exact Or.inr rfl) (hM : M.contains i = false := by rfl)
    (hf : X.fn x = true ∨ X.env.scope.names.lookup x = some .local := by first | exact .inl rfl | exact .inr rfl) : GD K X M (Dd K) [i] (.Name x pos) (gName i) (hName i) :=
  ⟨pg_name hN hi hx hf, fun {Hs0 H0 Hs H σ ρ ρ' v d Q} r a h q => by
    cases h
    exact q _ (r.set hM a) fun ws hw => wipe_set (hw i (by simp))⟩
/-- several targets -/
structure GsD (K : PySem.W.Frag) (X : Cx) (M : List Nat) (vs : List Nat) (ts : List Expr) (g : TGs) (h : List PyData → Rho → Option Rho) : Prop where
  pg : PGs X ts g
  sm : ∀ {Hs0 H0 Hs H : Hp} {σ : L2.St} {ρ ρ' : Rho} {xs : List V} {ds : List PyData} {Q : L2.St → Hp → Prop}, SR K M Hs0 H0 Hs H σ ρ → DdAll K Hs xs ds → h ds ρ = some ρ' → (∀ σ', SR K M Hs0 H0 Hs H σ' ρ' → (∀ ws, (∀ i ∈ vs, i ∈ ws) → wipe σ' ws = wipe σ ws) → Q σ' H) → g xs σ H Q
@[simp] def hNil : List PyData → Rho → Option Rho := fun ds ρ => match ds with
  | [] => some ρ
  | _ => none
@[simp] def hCons (h : PyData → Rho → Option Rho) (hs : List PyData → Rho → Option Rho) : List PyData → Rho → Option Rho := fun ds ρ => match ds with
  | [] => none
  | d :: r => (h d ρ).bind fun ρ' => hs r ρ'
theorem gsd_nil : GsD K X M [] [] gNil hNil :=
  ⟨pgs_nil, fun {Hs0 H0 Hs H σ ρ ρ' xs ds Q} r a h q => by
    cases a with
    | nil => cases h; exact ⟨rfl, q _ r fun _ _ => rfl⟩
    | cons _ _ => cases h⟩
theorem gsd_cons {vs ws : List Nat} {g : TG} {gs : TGs} {h : PyData → Rho → Option Rho} {hs : List PyData → Rho → Option Rho} {ts : List Expr} (h1 : GD K X M (Dd K) vs e g h) (h2 : GsD K X M ws ts gs hs)
    (hst : (assignEach (e :: ts) X.env).map (·.2) = assign e X.env :: (assignEach ts X.env).map (·.2) := by rfl) : GsD K X M (vs ++ ws) (e :: ts) (gCons g gs) (hCons h hs) :=
  ⟨pgs_cons h1.pg h2.pg hst, fun {Hs0 H0 Hs H σ ρ ρ' xs ds Q} r a hf q => by
    cases a with
    | nil => cases hf
    | cons a1 a2 =>
      obtain ⟨ρ1, e1, e2⟩ := bind_some hf
      refine ⟨_, _, rfl, h1.sm r a1 e1 fun σ1 r1 w1 => h2.sm r1 a2 e2 fun σ2 r2 w2 => q σ2 r2 fun wl hw => ?_⟩
      rw [w2 wl (fun i hi => hw i (List.mem_append_right _ hi)), w1 wl (fun i hi => hw i (List.mem_append_left _ hi))]⟩
/-- a tuple or list of that length, unpacked -/
def gSeq (K : PySem.W.Frag) (n : Nat) (t : TGs) : TG := fun v σ H Q => gTup K n t v σ H Q ∨ gUnl K n t v σ H Q
@[simp] def hSeq (n : Nat) (h : List PyData → Rho → Option Rho) : PyData → Rho → Option Rho := fun d ρ => match d with
  | .tuple ds => if ds.length = n then h ds ρ else none
  | .list ds => if ds.length = n then h ds ρ else none
  | _ => none
theorem ite_get {α : Type} {c : Prop} [Decidable c] {a : Option α} {b : α} (h : (if c then a else none) = some b) : c ∧ a = some b := by
  by_cases hc : c
  · rw [if_pos hc] at h; exact ⟨hc, h⟩
  · rw [if_neg hc] at h; cases h
theorem pg_seq {es : List Expr} {k : Nat} {t : TGs} {n : Nat} (hc : X.calm = true) (h : PGs X es t) (hn : (assignEach es X.env).length = n) (hst : (assignEach es X.env).findIdx? (·.1) = none) : PG X (.Tuple es k pos) (gSeq X.K n t) :=
  ⟨fun pins s σ H v u Q I r hw => by
    rcases hw with hw | hw
    · exact (pg_tup hc h hn hst).run pins s σ H v u Q I r hw
    · exact (pg_unl hc h hn hst).run pins s σ H v u Q I r hw⟩
theorem gd_seq {vs : List Nat} {g : TGs} {h : List PyData → Rho → Option Rho} {k n : Nat} (hs : GsD K X M vs es g h) (hc : X.calm = true := by rfl) (hn : (assignEach es X.env).length = n := by rfl) (hst : (assignEach es X.env).findIdx? (·.1) = none := by rfl) (hK : X.K = K := by rfl) :
    GD K X M (Dd K) vs (.Tuple es k pos) (gSeq K n g) (hSeq n h) := by
  subst hK
  refine ⟨pg_seq hc hs.pg hn hst, fun {Hs0 H0 Hs H σ ρ ρ' v d Q} r a hf q => ?_⟩
  cases a with
  | @tup p ob xs ds nn hp t =>
    obtain ⟨hl, hf⟩ := ite_get hf
    exact .inl ⟨p, xs, rfl, sqT_of (r.sub _ _ hp), by rw [t.length]; exact hl, hs.sm r t hf q⟩
  | @lst p xs ds hp t =>
    obtain ⟨hl, hf⟩ := ite_get hf
    exact .inr ⟨p, xs, rfl, sqL_of (r.sub _ _ hp), by rw [t.length]; exact hl, hs.sm r t hf q⟩
  | _ => cases hf
/-- a pair that an iterator hands out -/
theorem gd_pair {vs : List Nat} {g : TGs} {h : List PyData → Rho → Option Rho} {k n : Nat} (hs : GsD K X M vs es g h) (hc : X.calm = true := by rfl) (hn : (assignEach es X.env).length = n := by rfl) (hst : (assignEach es X.env).findIdx? (·.1) = none := by rfl) (hK : X.K = K := by rfl) :
    GD K X M (Dy K) vs (.Tuple es k pos) (gSeq K n g) (hSeq n h) := by
  subst hK
  refine ⟨pg_seq hc hs.pg hn hst, fun {Hs0 H0 Hs H σ ρ ρ' v d Q} r a hf q => ?_⟩
  obtain ⟨p, xs, ds, rfl, rfl, hp, t⟩ := a
  obtain ⟨hl, hf⟩ := ite_get hf
  exact .inl ⟨p, xs, rfl, .inl (.inl (r.sub _ _ hp)), by rw [t.length]; exact hl, hs.sm r t hf q⟩
end
end DL

namespace DL
open PySem PySem.Spec PyProof.Rows L2

/-! ### comprehensions -/
@[simp] def wipeR (ρ : Rho) : List Nat → Rho
  | [] => ρ
  | v :: vs => (wipeR ρ vs).set v none
theorem wipeR_length (ρ : Rho) : ∀ vs : List Nat, (wipeR ρ vs).length = ρ.length
  | [] => rfl
  | v :: vs => by unfold wipeR; rw [List.length_set, wipeR_length ρ vs]
theorem wipeR_some {ρ : Rho} {i : Nat} {x : PyData} : ∀ {vs : List Nat}, (wipeR ρ vs)[i]? = some (some x) → ρ[i]? = some (some x) ∧ i ∉ vs
  | [], h => ⟨h, by simp⟩
  | v :: vs, h => by
    unfold wipeR at h
    by_cases hi : v = i
    · subst hi
      by_cases hv : v < (wipeR ρ vs).length
      · rw [List.getElem?_set_self hv] at h; cases h
      · rw [List.getElem?_eq_none (by simpa using hv)] at h; cases h
    · rw [List.getElem?_set_ne hi] at h
      obtain ⟨h1, h2⟩ := wipeR_some h
      exact ⟨h1, by simp only [List.mem_cons, not_or]; exact ⟨fun e => hi e.symm, h2⟩⟩
theorem wipe_in {i : Nat} : ∀ {vs : List Nat} (τ : L2.St), i ∈ vs → (L2.wipe τ vs)[i]? = if i < τ.length then some none else none
  | v :: vs, τ, h => by
    unfold L2.wipe
    by_cases hv : v = i
    · subst hv
      by_cases hl : v < τ.length
      · rw [if_pos hl, List.getElem?_set_self (by rw [wipe_length]; exact hl)]
      · rw [if_neg hl, List.getElem?_eq_none (by rw [List.length_set, wipe_length]; omega)]
    · rw [List.getElem?_set_ne hv]
      exact wipe_in τ ((List.mem_cons.mp h).resolve_left fun z => hv z.symm)
theorem wipe_wipe (σ : L2.St) (vs : List Nat) : L2.wipe (L2.wipe σ vs) vs = L2.wipe σ vs := by
  refine List.ext_getElem? fun i => ?_
  by_cases hi : i ∈ vs
  · rw [wipe_in _ hi, wipe_in _ hi, wipe_length]
  · rw [wipe_out hi]
section
variable {K : PySem.W.Frag} {X : Cx} {M : List Nat} {Rl : YR}
theorem SR.wipe {Hs0 H0 Hs H : Hp} {σ : L2.St} {ρ : Rho} (r : SR K M Hs0 H0 Hs H σ ρ) (vs : List Nat) : SR K M Hs0 H0 Hs H (L2.wipe σ vs) (wipeR ρ vs) where
  g := r.g
  len := by rw [wipe_length, wipeR_length]; exact r.len
  frz := fun i d h m => by
    obtain ⟨h1, h2⟩ := wipeR_some h
    rw [wipe_out h2]
    exact r.frz i d h1 m
  own := fun i d h m => by
    obtain ⟨h1, h2⟩ := wipeR_some h
    rw [wipe_out h2]
    exact r.own i d h1 m
  sep := fun i j di dj p h1 h2 m1 m2 h3 h4 => by
    obtain ⟨a1, a2⟩ := wipeR_some h1
    obtain ⟨b1, b2⟩ := wipeR_some h2
    rw [wipe_out a2] at h3
    rw [wipe_out b2] at h4
    exact r.sep i j di dj p a1 b1 m1 m2 h3 h4
structure CTD (K : PySem.W.Frag) (X : Cx) (M : List Nat) (ifs : List Expr) (t : TT) (f : Rho → Option Bool) : Prop where
  pt : PTs X ifs t
  sm : ∀ {Hs0 H0 Hs H : Hp} {σ : L2.St} {ρ : Rho} {b : Bool} {Q : Bool → Hp → Prop}, SR K M Hs0 H0 Hs H σ ρ → f ρ = some b → (∀ H', Same H H' → Q b H') → t σ H Q
@[simp] def cYes : Rho → Option Bool := fun _ => some true
theorem ctd_nil : CTD K X M [] tYes cYes := ⟨pts_nil, fun {Hs0 H0 Hs H σ ρ b Q} r h q => by cases h; exact q H (Same.refl _)⟩
theorem ctd_one {e : Expr} {t : TT} {f : Rho → Option Bool} (h : TD K X M e t f) : CTD K X M [e] t f := ⟨pts_one h.pt, h.sm⟩
/-- what a comprehension makes -/
def compF (tg : PyData → Rho → Option Rho) (c : Rho → Option Bool) (f : Fn) (ρ : Rho) : List PyData → Option (List PyData)
  | [] => some []
  | d :: ds => (tg d ρ).bind fun ρ1 => (c ρ1).bind fun b => if b = true then (f ρ1).bind fun y => (compF tg c f ρ ds).bind fun ys => some (y :: ys) else compF tg c f ρ ds
def fLc (vs : List Nat) (h : Rho → Option (List PyData)) (tg : PyData → Rho → Option Rho) (c : Rho → Option Bool) (f : Fn) : Rho → Option (List PyData) :=
  fun ρ => (h ρ).bind fun ds => if ds.length ≤ 1000000 then compF tg c f (wipeR ρ vs) ds else none
theorem fd_lc {elt tg iter : Expr} {ifs : List Expr} {scope : Scope} {pos : Pos} {wi : TI} {g : TG} {tt : TT} {te : TE} {ws : List Nat} {h : Rho → Option (List PyData)} {hg' : PyData → Rho → Option Rho} {c : Rho → Option Bool} {f : Fn}
    (own : List (Str × Nat)) (hN : X.N.Nodup) (hi : ID K X M Rl tg iter wi h) (ok : BlkOk X.N X.env.scope scope own)
    (hg : ∀ (s : Shared) (H : Hp) (C : Addr) (cl : List (Str × Addr)) (fp : List Addr), GD K (X.blk s H scope (compEnvC scope cl C X.env) fp) M Rl ws tg g hg')
    (ht : ∀ (s : Shared) (H : Hp) (C : Addr) (cl : List (Str × Addr)) (fp : List Addr), CTD K (X.blk s H scope (compEnvC scope cl C X.env) fp) M ifs tt c)
    (he : ∀ (s : Shared) (H : Hp) (C : Addr) (cl : List (Str × Addr)) (fp : List Addr), ED K (X.blk s H scope (compEnvC scope cl C X.env) fp) M elt te f)
    (hws : ws.all (fun i => (own.map (·.2)).contains i) = true := by rfl) (hc : X.calm = true := by rfl) (hs : ∀ x, foldedSetIterable iter X.env x = pure x := by intro _; rfl) :
    FD K X M (.ListComp elt [⟨tg, iter, ifs, 0⟩] scope pos) (tLc wi g tt te (own.map (·.2))) (fLc (own.map (·.2)) h hg' c f) := by
  have hws' : ∀ i ∈ ws, i ∈ own.map (·.2) := fun i hi => by
    have := List.all_eq_true.mp hws i hi
    simpa using this
  refine ⟨pe_lc hc hN hi.pi ok (fun s H C cl fp => (hg s H C cl fp).pg) (fun s H C cl fp => (ht s H C cl fp).pt) (fun s H C cl fp => (he s H C cl fp).pe) hs, fun {Hs0 H0 Hs H σ ρ res Q} R hf q => ?_⟩
  obtain ⟨ds, h1, h2⟩ := bind_some hf
  obtain ⟨hl, h2⟩ := ite_get h2
  refine hi.sm R h1 fun J Hs1 H1 g1 Y D hD => ?_
  have nD : Hs1 D = none := g1.sub.free hD
  refine ⟨fun i m H' => m = ds.length - i ∧ i ≤ ds.length ∧ ∃ Hsi acc accd tail, Grow Hs1 H1 Hsi H' ∧ Hsi D = none ∧ H' D = some (.lst acc) ∧ DdAll K Hsi acc accd ∧ acc.length ≤ i ∧ compF hg' c f (wipeR ρ (own.map (·.2))) (ds.drop i) = some tail ∧ accd ++ tail = res,
    ⟨ds.length, by simp, Nat.zero_le _, Hs1, [], [], res, Grow.alloc0 g1.sub hD, nD, upd_same, .nil, Nat.le_refl _, h2, rfl⟩, ?_⟩
  rintro i m H2 ⟨rfl, hle, Hsi, acc, accd, tail, g2, n2, hD2, d2, hacc, hcf, hres⟩
  by_cases hlt : i < ds.length
  · refine .inr ⟨Y.go i H2 (g2.exs.trans g2.sub) hlt, fun H' => i + 1 ≤ ds.length ∧ ∃ Hsi acc accd tail, Grow Hs1 H1 Hsi H' ∧ Hsi D = none ∧ H' D = some (.lst acc) ∧ DdAll K Hsi acc accd ∧ acc.length ≤ i + 1 ∧ compF hg' c f (wipeR ρ (own.map (·.2))) (ds.drop (i + 1)) = some tail ∧ accd ++ tail = res,
      fun H' ⟨a, b⟩ => ⟨ds.length - (i + 1), by omega, rfl, a, b⟩, fun x H3 hy => ?_⟩
    obtain ⟨Hs3, g3, d, hd, ad⟩ := Y.yld i H2 x H3 Hsi hlt g2.exs g2.sub hy
    have ed : ds.drop i = d :: ds.drop (i + 1) := by
      have e1 := List.drop_eq_getElem_cons hlt
      have e2 : ds[i] = d := (List.getElem?_eq_some_iff.mp hd).2
      rw [e1, e2]
    rw [ed] at hcf
    unfold compF at hcf
    obtain ⟨ρ1, c1, hcf⟩ := bind_some hcf
    obtain ⟨b, c2, hcf⟩ := bind_some hcf
    have R3 : SR K M Hs0 H0 Hs3 H3 (L2.wipe σ (own.map (·.2))) (wipeR ρ (own.map (·.2))) := (((R.grow g1).wipe _).grow g2).grow g3
    refine (hg X.s_0 (fun _ => none) 0 [] []).sm R3 ad c1 fun σ4 R4 w4 => ⟨?_, ?_⟩
    · rw [w4 _ hws']
      exact wipe_wipe σ _
    · refine (ht X.s_0 (fun _ => none) 0 [] []).sm R4 c2 fun H5 e5 => ?_
      have hD5 : H5 D = some (.lst acc) := e5 _ _ (g3.ex _ _ hD2)
      have n3 : Hs3 D = none := g3.new D n2 (by rw [hD2]; simp)
      cases b with
      | false =>
        rw [if_neg Bool.false_ne_true] at hcf ⊢
        exact ⟨hlt, Hs3, acc, accd, tail, (g2.trans g3).trans (Grow.idle g3.sub e5), n3, hD5, d2.mono g3.exs, Nat.le_succ_of_le hacc, hcf, hres⟩
      | true =>
        rw [if_pos rfl] at hcf ⊢
        obtain ⟨y, c3, hcf⟩ := bind_some hcf
        obtain ⟨ys, c4, hcf⟩ := bind_some hcf
        obtain rfl := Option.some.inj hcf
        refine (he X.s_0 (fun _ => none) 0 [] []).sm (R4.same e5) c3 fun v Hs6 H6 g6 d6 => ?_
        have hD6 : H6 D = some (.lst acc) := g6.ex _ _ hD5
        have n6 : Hs6 D = none := g6.new D n3 (by rw [hD5]; simp)
        have gg := ((g2.trans g3).trans (Grow.idle g3.sub e5)).trans g6
        refine ⟨acc, hD6, szL (by omega), hlt, Hs6, acc ++ [v], accd ++ [y], ys, ⟨fun b o e => ?_, gg.exs, fun b o e => ?_, gg.new⟩, n6, upd_same, ((d2.mono g3.exs).mono g6.exs).append (.cons d6 .nil), ?_, c4, ?_⟩
        · have hb : b ≠ D := fun z => by rw [z, hD] at e; cases e
          rw [upd_ne hb]
          exact gg.ex _ _ e
        · have hb : b ≠ D := fun z => by rw [z, n6] at e; cases e
          rw [upd_ne hb]
          exact gg.sub _ _ e
        · rw [List.length_append, List.length_singleton]
          omega
        · rw [List.append_assoc]
          exact hres
  · have ei : i = ds.length := by omega
    subst ei
    rw [List.drop_length] at hcf
    unfold compF at hcf
    cases hcf
    rw [List.append_nil] at hres
    subst hres
    exact .inl ⟨Y.stop _ H2 (g2.exs.trans g2.sub) (Nat.le_refl _), q D acc Hsi H2 (g1.trans g2) (g1.ex.free hD) n2 hD2 d2⟩
end
end DL

namespace DL
open PySem PySem.Spec PyProof.Rows L2
inductive Out where
  | nx (ρ : Rho) | ret (d : PyData) | brk (ρ : Rho) | ct (ρ : Rho) | exc (c : Nat) (ρ : Rho)
abbrev Gn := Rho → Option Out
section
variable {K : PySem.W.Frag} {X : Cx} {M : List Nat} {Rl : YR} {xc : Nat → Addr} {W : WX} {Hs0 H0 Hs H Hs1 : Hp} {D : Ends}
def OutOk (K : PySem.W.Frag) (xc : Nat → Addr) (M : List Nat) (Hs0 H0 Hs : Hp) (W : WX) (D : Ends) : Out → Prop
  | .nx ρ' => ∀ Hs' H' σ', Same Hs Hs' → SR K M Hs0 H0 Hs' H' σ' ρ' → D.nx σ' H'
  | .ret d => ∀ v Hs' H', Grow Hs0 H0 Hs' H' → Dd K Hs' v d → D.rt v H'
  | .brk ρ' => ∀ Hs' H' σ', Same Hs Hs' → SR K M Hs0 H0 Hs' H' σ' ρ' → D.bk σ' H'
  | .ct ρ' => ∀ Hs' H' σ', Same Hs Hs' → SR K M Hs0 H0 Hs' H' σ' ρ' → D.ct σ' H'
  | .exc c ρ' => ∀ Hs' H' σ', Same Hs Hs' → SR K M Hs0 H0 Hs' H' σ' ρ' → W (.ref (xc c)) none σ' H'
theorem OutOk.up {r : Out} (e : Same Hs Hs1) (h : OutOk K xc M Hs0 H0 Hs W D r) : OutOk K xc M Hs0 H0 Hs1 W D r := by
  cases r with
  | nx ρ => exact fun Hs' H' σ' e' => h Hs' H' σ' (e.trans e')
  | ret d => exact h
  | brk ρ => exact fun Hs' H' σ' e' => h Hs' H' σ' (e.trans e')
  | ct ρ => exact fun Hs' H' σ' e' => h Hs' H' σ' (e.trans e')
  | exc c ρ => exact fun Hs' H' σ' e' => h Hs' H' σ' (e.trans e')
structure SD (K : PySem.W.Frag) (xc : Nat → Addr) (X : Cx) (M : List Nat) (W : WX) (st : Stmt) (t : TS) (g : Gn) : Prop where
  ps : PS X st t
  sm : ∀ {Hs0 H0 Hs H : Hp} {σ : L2.St} {ρ : Rho} {r : Out} {D : Ends}, SR K M Hs0 H0 Hs H σ ρ → g ρ = some r → OutOk K xc M Hs0 H0 Hs W D r → t D σ H
structure SS (K : PySem.W.Frag) (xc : Nat → Addr) (X : Cx) (M : List Nat) (W : WX) (st : List Stmt) (t : TS) (g : Gn) : Prop where
  ps : PSs X st t
  sm : ∀ {Hs0 H0 Hs H : Hp} {σ : L2.St} {ρ : Rho} {r : Out} {D : Ends}, SR K M Hs0 H0 Hs H σ ρ → g ρ = some r → OutOk K xc M Hs0 H0 Hs W D r → t D σ H

/-! ### blocks -/
@[simp] def gNx : Gn := fun ρ => some (.nx ρ)
@[simp] def gBlk (g1 g2 : Gn) : Gn := fun ρ => (g1 ρ).bind fun r => match r with
  | .nx ρ' => g2 ρ'
  | r => some r
variable {st : Stmt} {rest : List Stmt} {t u : TS} {g1 g2 : Gn} {e : Expr} {te : TE} {f : Fn} {pos pos' : Pos}
theorem ss_nil : SS K xc X M W [] tNext gNx := ⟨pss_nil, fun {Hs0 H0 Hs H σ ρ r D} R h o => by cases h; exact o Hs H σ (Same.refl _) R⟩
theorem seq_sm {t1 t2 : TS} (h1 : ∀ {Hs0 H0 Hs H : Hp} {σ : L2.St} {ρ : Rho} {r : Out} {D : Ends}, SR K M Hs0 H0 Hs H σ ρ → g1 ρ = some r → OutOk K xc M Hs0 H0 Hs W D r → t1 D σ H)
    (h2 : ∀ {Hs0 H0 Hs H : Hp} {σ : L2.St} {ρ : Rho} {r : Out} {D : Ends}, SR K M Hs0 H0 Hs H σ ρ → g2 ρ = some r → OutOk K xc M Hs0 H0 Hs W D r → t2 D σ H)
    {σ : L2.St} {ρ : Rho} {r : Out} (R : SR K M Hs0 H0 Hs H σ ρ) (h : gBlk g1 g2 ρ = some r) (o : OutOk K xc M Hs0 H0 Hs W D r) : tSeq t1 t2 D σ H := by
  obtain ⟨r1, a, b⟩ := bind_some h
  refine h1 (D := { D with nx := t2 D }) R a ?_
  cases r1 with
  | nx ρ1 => exact fun Hs' H' σ' e' R' => h2 R' b (o.up e')
  | ret d => obtain rfl := Option.some.inj b; exact o
  | brk ρ1 => obtain rfl := Option.some.inj b; exact o
  | ct ρ1 => obtain rfl := Option.some.inj b; exact o
  | exc c ρ1 => obtain rfl := Option.some.inj b; exact o
theorem ss_cons (h1 : SD K xc X M W st t g1) (h2 : SS K xc X M W rest u g2) : SS K xc X M W (st :: rest) (tSeq t u) (gBlk g1 g2) :=
  ⟨pss_cons h1.ps h2.ps, fun R h o => seq_sm h1.sm h2.sm R h o⟩
theorem ss_one (h1 : SD K xc X M W st t g1) : SS K xc X M W [st] t g1 := ⟨pss_one h1.ps, h1.sm⟩

/-! ### small statements -/
@[simp] def gRet (f : Fn) : Gn := fun ρ => (f ρ).bind fun d => some (.ret d)
theorem sd_ret (h : ED K X [] e te f) : SD K xc X M W (.Return (some e) pos) (tRet te) (gRet f) :=
  ⟨ps_ret h.pe, fun {Hs0 H0 Hs H σ ρ r D} R hf o => by
    obtain ⟨d, h1, h2⟩ := bind_some hf
    obtain rfl := Option.some.inj h2
    obtain ⟨Hp', e1, R1, _⟩ := R.thaw
    exact h.sm R1 h1 fun v Hs2 H2 g2 d2 => o v Hs2 H2 (R1.g.trans g2) d2⟩
@[simp] def gAsg (f : Fn) (tg : PyData → Rho → Option Rho) : Gn := fun ρ => (f ρ).bind fun d => (tg d ρ).bind fun ρ' => some (.nx ρ')
theorem asg_sm {g : TG} {vs : List Nat} {tg : Expr} {hg : PyData → Rho → Option Rho} (h : ED K X M e te f) (hG : GD K X M (Dd K) vs tg g hg) {σ : L2.St} {ρ : Rho} {r : Out} (R : SR K M Hs0 H0 Hs H σ ρ) (hf : gAsg f hg ρ = some r) (o : OutOk K xc M Hs0 H0 Hs W D r) : tAsg te g D σ H := by
  obtain ⟨d, h1, h2⟩ := bind_some hf
  obtain ⟨ρ', h4, h3⟩ := bind_some h2
  obtain rfl := Option.some.inj h3
  exact h.sm R h1 fun v Hs1 H1 g1 d1 => hG.sm (R.grow g1) d1 h4 fun σ' R' _ => o Hs1 H1 σ' g1.exs R'
/-- name = e -/
theorem sd_set (i : Nat) {x : Str} (hN : X.N.Nodup) (h : ED K X M e te f) (hi : X.N[i]? = some x := by rfl) (hx : Loc X.env.scope x := by first | exact Or.inl rfl | exact Or.inr rfl) (hM : M.contains i = false := by rfl)
    (hs : swapsWith e (some (.Name x pos')) pos.line X.env = pure false := by rfl) (hf : X.fn x = true ∨ X.env.scope.names.lookup x = some .local := by first | exact .inl rfl | exact .inr rfl) :
    SD K xc X M W (.Assign [.Name x pos'] e pos) (tAsg te (gName i)) (gAsg f (hName i)) :=
  ⟨ps_set hN hi hx h.pe hs hf, fun R hf' o => asg_sm h (gd_name (pos := pos) i hN hi hx hM hf) R hf' o⟩
/-- targets = e -/
theorem sd_tgt {tg : Expr} {g : TG} {vs : List Nat} {hg : PyData → Rho → Option Rho} (h : ED K X M e te f) (hG : GD K X M (Dd K) vs tg g hg) (hs : swapsWithSole [tg] e pos.line X.env = pure false := by rfl) (hw : swappedStores [tg] e X.env = pure none := by rfl)
    (h1 : (assignEach [tg] X.env).map (·.2) = [assign tg X.env] := by rfl) : SD K xc X M W (.Assign [tg] e pos) (tAsg te g) (gAsg f hg) :=
  ⟨ps_asg h.pe hG.pg hs hw h1, fun R hf' o => asg_sm h hG R hf' o⟩
/-- name = [..], on one line -/
theorem sd_setLc {elt tg iter : Expr} {ifs : List Expr} {scope : Scope} {pos1 py : Pos} {wi : TI} {g : TG} {tt : TT} {ws : List Nat} {h : Rho → Option (List PyData)} {hg' : PyData → Rho → Option Rho} {c : Rho → Option Bool} (i : Nat) {y : Str}
    (own : List (Str × Nat)) (hN : X.N.Nodup) (hi : ID K X M Rl tg iter wi h) (ok : BlkOk X.N X.env.scope scope own)
    (hg : ∀ (s : Shared) (H : Hp) (C : Addr) (cl : List (Str × Addr)) (fp : List Addr), GD K (X.blk s H scope (compEnvC scope cl C X.env) fp) M Rl ws tg g hg')
    (ht : ∀ (s : Shared) (H : Hp) (C : Addr) (cl : List (Str × Addr)) (fp : List Addr), CTD K (X.blk s H scope (compEnvC scope cl C X.env) fp) M ifs tt c)
    (he : ∀ (s : Shared) (H : Hp) (C : Addr) (cl : List (Str × Addr)) (fp : List Addr), ED K (X.blk s H scope (compEnvC scope cl C X.env) fp) M elt te f)
    (hsw : swapsWith (.ListComp elt [⟨tg, iter, ifs, 0⟩] scope pos1) (some (.Name y py)) pos.line X.env = pure true)
    (hy : X.N[i]? = some y := by rfl) (hyl : X.env.scope.names.lookup y = some .local := by rfl) (hM : M.contains i = false := by rfl)
    (hws : ws.all (fun i => (own.map (·.2)).contains i) = true := by rfl) (hc : X.calm = true := by rfl) (hs : ∀ x, foldedSetIterable iter X.env x = pure x := by intro _; rfl) :
    SD K xc X M W (.Assign [.Name y py] (.ListComp elt [⟨tg, iter, ifs, 0⟩] scope pos1) pos) (tAsg (tLc wi g tt te (own.map (·.2))) (gName i)) (gAsg (fFr (fLc (own.map (·.2)) h hg' c f)) (hName i)) :=
  ⟨ps_setLc hc hN hy hyl hsw hi.pi ok (fun s H C cl fp => (hg s H C cl fp).pg) (fun s H C cl fp => (ht s H C cl fp).pt) (fun s H C cl fp => (he s H C cl fp).pe) hs,
    fun R hf' o => asg_sm (ed_fr (fd_lc (pos := pos1) own hN hi ok hg ht he hws hc hs)) (gd_name (pos := py) i hN hy (.inl hyl) hM (.inr hyl)) R hf' o⟩
/-- if -/
@[simp] def gIf (c : Rho → Option Bool) (g1 g2 : Gn) : Gn := fun ρ => (c ρ).bind fun b => if b = true then g1 ρ else g2 ρ
theorem sd_if {c : Expr} {a b : List Stmt} {tc : TT} {bc : Rho → Option Bool} (hc : TD K X [] c tc bc) (ha : SS K xc X M W a t g1) (hb : SS K xc X M W b u g2) : SD K xc X M W (.If c a b pos) (tIfS tc t u) (gIf bc g1 g2) :=
  ⟨ps_if hc.pt ha.ps hb.ps, fun {Hs0 H0 Hs H σ ρ r D} R hf o => by
    obtain ⟨k, h1, h2⟩ := bind_some hf
    obtain ⟨Hp', e1, R1, _⟩ := R.thaw
    refine hc.sm R1 h1 fun H1 e2 => ?_
    cases k with
    | true => rw [if_pos rfl] at h2 ⊢; exact ha.sm (R.same e2) h2 o
    | false => rw [if_neg Bool.false_ne_true] at h2 ⊢; exact hb.sm (R.same e2) h2 o⟩
/-- for -/
def forF (tg : PyData → Rho → Option Rho) (body : Gn) : List PyData → Gn
  | [], ρ => some (.nx ρ)
  | d :: ds, ρ => (tg d ρ).bind fun ρ1 => (body ρ1).bind fun r => match r with
    | .nx ρ' => forF tg body ds ρ'
    | .ct ρ' => forF tg body ds ρ'
    | .brk ρ' => some (.nx ρ')
    | .ret d => some (.ret d)
    | .exc c ρ' => some (.exc c ρ')
@[simp] def gFor (h : Rho → Option (List PyData)) (tg : PyData → Rho → Option Rho) (body : Gn) : Gn := fun ρ => (h ρ).bind fun ds => forF tg body ds ρ
theorem sd_for {iter tg : Expr} {body : List Stmt} {wi : TI} {g : TG} {tb : TS} {gb : Gn} {vs : List Nat} {h : Rho → Option (List PyData)} {hg : PyData → Rho → Option Rho} (hp : PassesOwn (model X.prog X.w) X.A X.env X.xe)
    (hi : ID K X M Rl tg iter wi h) (hG : GD K X M Rl vs tg g hg) (hb : SS K xc X M W body tb gb) (hc : X.calm = true := by rfl) (hs : ∀ x, foldedSetIterable iter X.env x = pure x := by intro _; rfl) :
    SD K xc X M W (.For tg iter body [] pos) (tFor wi g tb) (gFor h hg gb) :=
  ⟨ps_for hp hc hi.pi hG.pg hb.ps hs, fun {Hs0 H0 Hs H σ ρ r D} R hf o => by
    obtain ⟨ds, h1, h2⟩ := bind_some hf
    refine hi.sm R h1 fun J Hs1 H1 g1 Y => ?_
    refine ⟨fun i m σ' H' => m = ds.length - i ∧ i ≤ ds.length ∧ ∃ Hsi ρi, Same Hs1 Hsi ∧ SR K M Hs0 H0 Hsi H' σ' ρi ∧ forF hg gb (ds.drop i) ρi = some r, ⟨ds.length, by simp, Nat.zero_le _, Hs1, ρ, Same.refl _, R.grow g1, h2⟩, ?_⟩
    rintro i m σ2 H2 ⟨rfl, hle, Hsi, ρi, e2, R2, hF⟩
    by_cases hlt : i < ds.length
    · refine .inr ⟨Y.go i H2 (e2.trans R2.sub) hlt, fun σ' H' => i + 1 ≤ ds.length ∧ ∃ Hsi ρi, Same Hs1 Hsi ∧ SR K M Hs0 H0 Hsi H' σ' ρi ∧ forF hg gb (ds.drop (i + 1)) ρi = some r,
        fun σ' H' ⟨a, b⟩ => ⟨ds.length - (i + 1), by omega, rfl, a, b⟩, fun x H3 hy => ?_⟩
      obtain ⟨Hs3, g3, d, hd, ad⟩ := Y.yld i H2 x H3 Hsi hlt e2 R2.sub hy
      have ed : ds.drop i = d :: ds.drop (i + 1) := by
        have e1 := List.drop_eq_getElem_cons hlt
        have e2 : ds[i] = d := (List.getElem?_eq_some_iff.mp hd).2
        rw [e1, e2]
      rw [ed] at hF
      unfold forF at hF
      obtain ⟨ρ1, c1, hF⟩ := bind_some hF
      obtain ⟨r1, c2, hF⟩ := bind_some hF
      refine hG.sm (R2.grow g3) ad c1 fun σ4 R4 _ => ?_
      refine hb.sm R4 c2 ?_
      cases r1 with
      | nx ρ' => exact fun Hs' H' σ' e' R' => ⟨hlt, Hs', ρ', (e2.trans g3.exs).trans e', R', hF⟩
      | ct ρ' => exact fun Hs' H' σ' e' R' => ⟨hlt, Hs', ρ', (e2.trans g3.exs).trans e', R', hF⟩
      | brk ρ' =>
        obtain rfl := Option.some.inj hF
        exact fun Hs' H' σ' e' R' => o Hs' H' σ' (((g1.exs.trans e2).trans g3.exs).trans e') R'
      | ret d' =>
        obtain rfl := Option.some.inj hF
        exact o
      | exc c ρ' =>
        obtain rfl := Option.some.inj hF
        exact fun Hs' H' σ' e' R' => o Hs' H' σ' (((g1.exs.trans e2).trans g3.exs).trans e') R'
    · have ei : i = ds.length := by omega
      subst ei
      rw [List.drop_length] at hF
      unfold forF at hF
      obtain rfl := Option.some.inj hF
      exact .inl ⟨Y.stop _ H2 (e2.trans R2.sub) (Nat.le_refl _), o Hsi H2 σ2 (g1.exs.trans e2) R2⟩⟩
/-- while -/
def whileF (c : Rho → Option Bool) (body : Gn) : Nat → Gn
  | 0, _ => none
  | n + 1, ρ => (c ρ).bind fun b => if b = true then (body ρ).bind fun r => match r with
    | .nx ρ' => whileF c body n ρ'
    | .ct ρ' => whileF c body n ρ'
    | .brk ρ' => some (.nx ρ')
    | .ret d => some (.ret d)
    | .exc c ρ' => some (.exc c ρ')
    else some (.nx ρ)
theorem sd_while (n : Nat) {c : Expr} {body : List Stmt} {tc : TT} {bc : Rho → Option Bool} {tb : TS} {gb : Gn} (hp : PassesOwn (model X.prog X.w) X.A X.env X.xe) (hc : TD K X [] c tc bc) (hb : SS K xc X M W body tb gb) :
    SD K xc X M W (.While c body [] pos) (tWhile tc tb) (whileF bc gb n) :=
  ⟨ps_while hp hc.pt hb.ps, fun {Hs0 H0 Hs H σ ρ r D} R hf o => by
    refine ⟨fun m σ' H' => ∃ Hsi ρi, Same Hs Hsi ∧ SR K M Hs0 H0 Hsi H' σ' ρi ∧ whileF bc gb m ρi = some r, ⟨n, Hs, ρ, Same.refl _, R, hf⟩, ?_⟩
    rintro m σ2 H2 ⟨Hsi, ρi, e2, R2, hF⟩
    cases m with
    | zero => cases hF
    | succ m =>
      unfold whileF at hF
      obtain ⟨k, h1, hF⟩ := bind_some hF
      obtain ⟨Hp', e1, R1, _⟩ := R2.thaw
      refine hc.sm R1 h1 fun H3 e3 => ?_
      cases k with
      | false =>
        rw [if_neg Bool.false_ne_true] at hF ⊢
        obtain rfl := Option.some.inj hF
        exact o Hsi H3 σ2 e2 (R2.same e3)
      | true =>
        rw [if_pos rfl] at hF ⊢
        obtain ⟨r1, c2, hF⟩ := bind_some hF
        refine ⟨fun σ' H' => ∃ Hsi ρi, Same Hs Hsi ∧ SR K M Hs0 H0 Hsi H' σ' ρi ∧ whileF bc gb m ρi = some r, fun σ' H' h => ⟨m, Nat.lt_succ_self m, h⟩, ?_⟩
        refine hb.sm (R2.same e3) c2 ?_
        cases r1 with
        | nx ρ' => exact fun Hs' H' σ' e' R' => ⟨Hs', ρ', e2.trans e', R', hF⟩
        | ct ρ' => exact fun Hs' H' σ' e' R' => ⟨Hs', ρ', e2.trans e', R', hF⟩
        | brk ρ' =>
          obtain rfl := Option.some.inj hF
          exact fun Hs' H' σ' e' R' => o Hs' H' σ' (e2.trans e') R'
        | ret d' =>
          obtain rfl := Option.some.inj hF
          exact o
        | exc c ρ' =>
          obtain rfl := Option.some.inj hF
          exact fun Hs' H' σ' e' R' => o Hs' H' σ' (e2.trans e') R'⟩

/-! ### calls that may raise, as statements -/
variable {tr : TA} {fr : Rho → Option (List PyData)} {es : List Expr} {x : Str} {p : Pos}
/-- a call of a def: what it gives or raises -/
structure QD (K : PySem.W.Frag) (xc : Nat → Addr) (X : Cx) (M : List Nat) (W : WX) (e : Expr) (t : TE) (f : Rho → Option (Except Nat PyData)) : Prop where
  pe : PE X e t
  sm : ∀ {Hs0 H0 Hs H : Hp} {σ : L2.St} {ρ : Rho} {r : Except Nat PyData} {Q : VK}, SR K M Hs0 H0 Hs H σ ρ → f ρ = some r →
    (match r with
      | .ok d => ∀ v Hs' H', Grow Hs H Hs' H' → Dd K Hs' v d → Q v H'
      | .error c => ∀ H', Same H H' → W (.ref (xc c)) none σ H') → t σ H Q
@[simp] def qCall (φ : List PyData → Option (Except Nat PyData)) (fa : Rho → Option (List PyData)) : Rho → Option (Except Nat PyData) := fun ρ => (fa ρ).bind φ
theorem qd_call {k n : Nat} {fA : Addr} {fd : FuncData} {ps : List Str} {φ : List PyData → Option (Except Nat PyData)} (F : FnOk X.prog X.w X.K X.mg X.base (L2.CX X.prog X.w) k fA fd ps (spX K n xc φ)) (hr : Room k X.A) (hm : X.mg x = some (.ref fA))
    (hk : PySem.W.keepIn X.K (.ref fA) = true) (hb : Binds X.K fd ps []) (hn : ∀ ds r, φ ds = some r → ds.length = n) (tk : Takes X W) (ha : AD K X M (e :: es) tr fr) (hg : Gl X x := by rfl) (hdb : (x == ("__debug__" : Str)) = false := by decide) (he : starEach (e :: es) X.env = (false, eval e X.env) :: starEach es X.env := by rfl)
    (hpl : (backTo pos (starEach es X.env)).any (·.1) = false := by rfl) : QD K xc X M W (.Call (.Name x p) (e :: es) [] pos) (tCallS (spX K n xc φ) (WE W) tr) (qCall φ fr) :=
  ⟨pe_callS F hr hg hm hk hb (fun σ => passAt tk σ) ha.pa hdb he hpl, fun {Hs0 H0 Hs H σ ρ r Q} R hf q => by
    obtain ⟨ds, h1, h2⟩ := bind_some hf
    refine ha.sm R h1 fun vs Hs1 H1 g1 d1 => ?_
    refine ⟨by rw [d1.length]; exact hn _ _ h2, Hs1, ds, r, g1.sub, d1, h2, ?_⟩
    cases r with
    | error c => exact fun H2 e2 => q H2 (g1.ex.trans e2)
    | ok d => exact fun v Hs2 H2 g2 d2 => q v Hs2 H2 (g1.trans g2) d2⟩
@[simp] def gExprQ (f : Rho → Option (Except Nat PyData)) : Gn := fun ρ => (f ρ).bind fun r => match r with
  | .ok _ => some (.nx ρ)
  | .error c => some (.exc c ρ)
theorem sd_exprQ {f : Rho → Option (Except Nat PyData)} (h : QD K xc X M W e te f) (hs : swapsWith e none pos.line X.env = pure false := by rfl) : SD K xc X M W (.Expr e pos) (tDrop te) (gExprQ f) :=
  ⟨ps_expr h.pe hs, fun {Hs0 H0 Hs H σ ρ r D} R hf o => by
    obtain ⟨q, h1, h2⟩ := bind_some hf
    refine h.sm R h1 ?_
    cases q with
    | ok d =>
      obtain rfl := Option.some.inj h2
      exact fun v Hs1 H1 g1 d1 => o Hs1 H1 σ g1.exs (R.grow g1)
    | error c =>
      obtain rfl := Option.some.inj h2
      exact fun H1 e1 => o Hs H1 σ (Same.refl _) (R.same e1)⟩
@[simp] def gSetQ (i : Nat) (f : Rho → Option (Except Nat PyData)) : Gn := fun ρ => (f ρ).bind fun r => match r with
  | .ok d => some (.nx (ρ.set i (some d)))
  | .error c => some (.exc c ρ)
theorem sd_setQ (i : Nat) {x : Str} {f : Rho → Option (Except Nat PyData)} (hN : X.N.Nodup) (h : QD K xc X M W e te f) (hi : X.N[i]? = some x := by rfl) (hx : Loc X.env.scope x := by first | exact Or.inl rfl | exact Or.inr rfl) (hM : M.contains i = false := by rfl)
    (hs : swapsWith e (some (.Name x pos')) pos.line X.env = pure false := by rfl) (hf : X.fn x = true ∨ X.env.scope.names.lookup x = some .local := by first | exact .inl rfl | exact .inr rfl) :
    SD K xc X M W (.Assign [.Name x pos'] e pos) (tAsg te (gName i)) (gSetQ i f) :=
  ⟨ps_set hN hi hx h.pe hs hf, fun {Hs0 H0 Hs H σ ρ r D} R hf o => by
    obtain ⟨q, h1, h2⟩ := bind_some hf
    refine h.sm R h1 ?_
    cases q with
    | ok d =>
      obtain rfl := Option.some.inj h2
      exact fun v Hs1 H1 g1 d1 => o Hs1 H1 _ g1.exs ((R.grow g1).set hM d1)
    | error c =>
      obtain rfl := Option.some.inj h2
      exact fun H1 e1 => o Hs H1 σ (Same.refl _) (R.same e1)⟩
@[simp] def gRetQ (f : Rho → Option (Except Nat PyData)) : Gn := fun ρ => (f ρ).bind fun r => match r with
  | .ok d => some (.ret d)
  | .error c => some (.exc c ρ)

/-! ### raise of an own class made with a text -/
@[simp] def gRaise (c : Nat) : Gn := fun ρ => some (.exc c ρ)
theorem sd_raise (c : Nat) {m : Str} {j : Nat} {p2 : Pos} (q : PySem.W.excIn X.K (xc c) [.type "ValueError", .type "Exception", .type "BaseException", .type "object"] "ValueError.__new__" = true) (gC : X.mg x = some (.ref (xc c))) (kC : PySem.W.keepIn X.K (.ref (xc c)) = true)
    (r : Raises X (.ref (xc c))) (tk : Takes X W) (hg : Gl X x := by rfl) (hc : X.calm = true := by rfl) (hdb : (x == ("__debug__" : Str)) = false := by decide) : SD K xc X M W (.Raise (some (.Call (.Name x p) [.Constant (.str m) j p2] [] pos')) none pos) (fun _ σ H => W (.ref (xc c)) none σ H) (gRaise c) :=
  ⟨ps_raise hc tk (pmk_own PySem.F.excBase_ValueError q gC kC r hg hdb), fun {Hs0 H0 Hs H σ ρ r D} R hf o => by
    cases hf
    exact o Hs H σ (Same.refl _) R⟩
end

/-! ### a def -/
@[simp] def runDef (N : Nat) (g : Gn) : List PyData → Option (Except Nat PyData) := fun ds => match g (ds.map some ++ List.replicate (N - ds.length) none) with
  | some (.ret d) => some (.ok d)
  | some (.nx _) => some (.ok .none)
  | some (.exc c _) => some (.error c)
  | _ => none
/-- .. of just so many arguments -/
@[simp] def defN (n N : Nat) (g : Gn) : List PyData → Option (Except Nat PyData) := fun ds => if ds.length = n then runDef N g ds else none
theorem defN_len {n N : Nat} {g : Gn} : ∀ ds r, defN n N g ds = some r → ds.length = n := fun ds r h => (ite_get h).1
section
variable {K : PySem.W.Frag} {P : Program} {w : World} {mg : Str → Option Value} {base : Heap} {xc : Nat → Addr}
theorem ok_def {x qual : Str} {st : Stmt} {f : Addr} {fd : FuncData} {N ps : List Str} {k n : Nat} (M : List Nat) {g : Gn} (F : Fun K x qual st f fd) (S : FnScope N ps (defScope st)) (hn : ps.length = n)
    (hb : ∀ (cdv : Value) (A : Around) (outer : List Env) (s : Shared) (H : Hp) (E : XK), Room k (A.deeper (envOfC qual (defScope st) s.heap.objs.size f cdv)) →
      PassesOwn (model P w) (cxOf (L2.CX P w) P w K mg base N qual (defScope st) f cdv A outer s H E).A (cxOf (L2.CX P w) P w K mg base N qual (defScope st) f cdv A outer s H E).env (cxOf (L2.CX P w) P w K mg base N qual (defScope st) f cdv A outer s H E).xe →
      Takes (cxOf (L2.CX P w) P w K mg base N qual (defScope st) f cdv A outer s H E) (fun cls d _ H' => E cls d H') →
      ∃ t, SS K xc (cxOf (L2.CX P w) P w K mg base N qual (defScope st) f cdv A outer s H E) M (fun cls d _ H' => E cls d H') (defBody st) t g)
    (hM : M.all (fun i => decide (n ≤ i)) = true := by rfl) :
    FnOk P w K mg base (L2.CX P w) (k + 1) f fd ps (spX K n xc (defN n N.length g)) := by
  refine F.okX S (fun vs H Q E h => by rw [hn]; exact h.1) (fun cdv A outer s H vs Q E hr h => ?_)
  obtain ⟨hl, Hs, ds, r, e, dd, hφ, hq⟩ := h
  obtain ⟨hds, hφ⟩ := ite_get hφ
  obtain ⟨t, hS⟩ := hb cdv A outer s H E hr (passes_of rfl) (takes_of rfl rfl rfl rfl)
  refine ⟨t, hS.ps, ?_⟩
  have hlen := dd.length
  have R : SR K M Hs H Hs H (L2.start N vs) (ds.map some ++ List.replicate (N.length - ds.length) none) := by
    have get : ∀ {i : Nat} {d : PyData}, (ds.map some ++ List.replicate (N.length - ds.length) none)[i]? = some (some d) → ds[i]? = some d := fun {i d} h => by
      by_cases hi : i < ds.length
      · rw [List.getElem?_append_left (by simpa using hi), List.getElem?_map] at h
        rw [List.getElem?_eq_getElem hi] at h ⊢
        cases h; rfl
      · rw [List.getElem?_append_right (by simpa using hi), List.getElem?_replicate] at h
        split at h <;> cases h
    refine ⟨Grow.refl e, ?_, fun i d h _ => ?_, fun i d h m => ?_, fun i j di dj p h1 h2 m1 m2 h3 h4 => ?_⟩
    · unfold L2.start
      rw [List.length_append, List.length_append, List.length_map, List.length_map, List.length_replicate, List.length_replicate, hlen]
    · obtain ⟨v, h1, h2⟩ := dd.get (get h)
      refine ⟨v, ?_, h2⟩
      unfold L2.start
      have hi : i < vs.length := (List.getElem?_eq_some_iff.mp h1).1
      rw [List.getElem?_append_left (by simpa using hi), List.getElem?_map, h1]
      rfl
    · have := (List.getElem?_eq_some_iff.mp (get h)).1
      have hi : i ∈ M := by simpa using m
      have := of_decide_eq_true (List.all_eq_true.mp hM i hi)
      omega
    · have := (List.getElem?_eq_some_iff.mp (get h1)).1
      have hi : i ∈ M := by simpa using m1
      have := of_decide_eq_true (List.all_eq_true.mp hM i hi)
      omega
  unfold runDef at hφ
  cases hg : g (ds.map some ++ List.replicate (N.length - ds.length) none) with
  | none => rw [hg] at hφ; cases hφ
  | some o =>
    rw [hg] at hφ
    refine hS.sm R hg ?_
    cases o with
    | nx ρ =>
      obtain rfl := Option.some.inj hφ
      exact fun Hs' H' σ' e' R' => hq _ Hs' H' R'.g .non
    | ret d =>
      obtain rfl := Option.some.inj hφ
      exact fun v Hs' H' g' d' => hq v Hs' H' g' d'
    | exc c ρ =>
      obtain rfl := Option.some.inj hφ
      exact fun Hs' H' σ' e' R' => hq H' R'.g.ex
    | brk ρ => cases hφ
    | ct ρ => cases hφ
end
end DL

namespace DL
open PySem PySem.Spec PyProof.Rows L2
/-! ### tuple * int -/
theorem tuple_mul1 (l : Addr) (items : Array Value) (n : Nat) (dd : Option Addr) (sl : Array (Option Value)) (x : Int) (u : Tok) (c0 : (decide (x < -(2 ^ 63)) || decide (x ≥ 2 ^ 63)) = false) (c1 : (items.isEmpty || x == 1) = true) :
    Meets (Builtin.«tuple.__mul__» ⟨[.ref l, .int x u], []⟩) (fun _ R s => s.heap.get? l = some { cls := .type "tuple", dict := dd, data := .seq items n, slots := sl } ∧ R (.ok (.ret (Value.ref l))) s) :=
  .of_wp fun prog w A R s h => by
    obtain ⟨hp, g, d, tk, os⟩ := s
    obtain ⟨hl, h⟩ := h
    have f1 := AutoSeq1.idx_int
    wp_walk using wpAny_loadPart' hl
    repeat (first
      | (refine wpAny_ite_false (decide_eq_false (by rw [c0]; exact Bool.false_ne_true)) ?_; wp_walk using wpAny_loadPart' hl)
      | (refine wpAny_ite_true (decide_eq_true (by rw [c1])) ?_; wp_walk using wpAny_loadPart' hl))
    exact ⟨_, rfl, h⟩
theorem tuple_mul0 (l : Addr) (items : Array Value) (n : Nat) (dd : Option Addr) (sl : Array (Option Value)) (x : Int) (u : Tok) (c0 : (decide (x < -(2 ^ 63)) || decide (x ≥ 2 ^ 63)) = false) (c1 : (items.isEmpty || x == 1) = false) (c2 : (decide (x ≤ 0) || items.isEmpty) = true) :
    Meets (Builtin.«tuple.__mul__» ⟨[.ref l, .int x u], []⟩) (fun _ R s => s.heap.get? l = some { cls := .type "tuple", dict := dd, data := .seq items n, slots := sl } ∧
      R (.ok (.ret (Value.ref s.heap.objs.size))) { s with heap := s.heap.push { cls := Value.type "tuple", data := Data.seq #[] }, toks := s.toks }) :=
  .of_wp fun prog w A R s h => by
    obtain ⟨hp, g, d, tk, os⟩ := s
    obtain ⟨hl, h⟩ := h
    have f1 := AutoSeq1.idx_int
    wp_walk using wpAny_loadPart' hl
    repeat (first
      | (refine wpAny_ite_false (decide_eq_false (by rw [c0]; exact Bool.false_ne_true)) ?_; wp_walk using wpAny_loadPart' hl)
      | (refine wpAny_ite_false (decide_eq_false (by rw [c1]; exact Bool.false_ne_true)) ?_; wp_walk using wpAny_loadPart' hl)
      | (refine wpAny_ite_true (decide_eq_true (by rw [c2])) ?_; wp_walk using wpAny_loadPart' hl))
    exact ⟨_, rfl, h⟩

def rRepN (K : PySem.W.Frag) : R2 := fun x y H Q => ∃ l k xs, x = .ref l ∧ y = .int k ∧ SqT K H l xs ∧ -1000 ≤ k ∧ k ≤ 1000 ∧ xs.length ≤ 1000 ∧ (xs = [] ∨ k = 1 → Q (.ref l) H) ∧ (¬ (xs = [] ∨ k = 1) → NewT Q H (List.replicate k.toNat xs).flatten)
section
variable {X : Cx} {K : PySem.W.Frag}
theorem op_repN : OpR X (binaryOp .Mult) (rRepN X.K) := by
  intro pins s σ H x y v u Q I rx ry h
  obtain ⟨l, k, xs, rfl, rfl, hT, h1, h2, hz, q1, q2⟩ := h
  cases rx
  obtain ⟨t, rfl⟩ := ry
  obtain ⟨its, r, ⟨⟨cls, dd, data, sl⟩, ho, hc, n, hd⟩, hs⟩ := I.tuple hT
  simp only at hc hd
  subst hc hd
  have hle : its.length = xs.length := r.length.symm
  have c0 : (decide (k < -(2 ^ 63)) || decide (k ≥ 2 ^ 63)) = false := by
    rw [decide_eq_false (by omega), decide_eq_false (by omega)] <;> rfl
  have ie : its.toArray.isEmpty = decide (xs = []) := by
    cases xs with
    | nil => cases r; rfl
    | cons a b => cases r; rfl
  by_cases hc1 : xs = [] ∨ k = 1
  · have c1 : (its.toArray.isEmpty || k == 1) = true := by
      rw [ie]
      rcases hc1 with z | z
      · rw [decide_eq_true z, Bool.true_or]
      · rw [z]; simp
    exact wpAny_binaryOp_repeat_ref (T := "tuple") (U := "int") (by decide) ⟨_, ho, rfl⟩ (fun s' => typeIs_int s' k t) noFill_tuple_mul F.fills_int_mul F.slot_int_rmul repeat_tuple F.slot_int_index.lookup
      (call_meets F.slot_int_rmul (typeIs_int s k t) F.entry_int_rmul (F.args_int_rmul_2 _ _) (int_rmul_tuple k t l its.toArray n dd sl)
        ⟨ho, rfl, ⟨_, ho, rfl⟩, call_meets F.slot_tuple_mul ⟨_, ho, rfl⟩ F.entry_tuple_mul (F.args_tuple_mul_2 _ _) (tuple_mul1 l its.toArray n dd sl k t c0 c1) ⟨ho, .ref l, H, I, rfl, q1 hc1⟩⟩)
  · have hx : xs ≠ [] := fun z => hc1 (.inl z)
    have hk : k ≠ 1 := fun z => hc1 (.inr z)
    have hi : its.toArray.isEmpty = false := by rw [ie, decide_eq_false hx]
    have c1 : (its.toArray.isEmpty || k == 1) = false := by
      rw [hi, Bool.false_or]
      exact beq_eq_false_iff_ne.mpr hk
    have q := q2 hc1
    by_cases hk0 : k ≤ 0
    · have c2 : (decide (k ≤ 0) || its.toArray.isEmpty) = true := by rw [decide_eq_true hk0, Bool.true_or]
      have e0 : (List.replicate k.toNat xs).flatten = [] := by
        have : k.toNat = 0 := by omega
        rw [this]
        rfl
      rw [e0] at q
      exact wpAny_binaryOp_repeat_ref (T := "tuple") (U := "int") (by decide) ⟨_, ho, rfl⟩ (fun s' => typeIs_int s' k t) noFill_tuple_mul F.fills_int_mul F.slot_int_rmul repeat_tuple F.slot_int_index.lookup
        (call_meets F.slot_int_rmul (typeIs_int s k t) F.entry_int_rmul (F.args_int_rmul_2 _ _) (int_rmul_tuple k t l its.toArray n dd sl)
          ⟨ho, rfl, ⟨_, ho, rfl⟩, call_meets F.slot_tuple_mul ⟨_, ho, rfl⟩ F.entry_tuple_mul (F.args_tuple_mul_2 _ _) (tuple_mul0 l its.toArray n dd sl k t c0 c1 c2) ⟨ho, .ref s.heap.objs.size, _, Inv.tupN (its := []) (t' := s.toks) I .nil (Nat.zero_le _), rfl, q _ _ rfl (I.hok.fresh (Nat.le_refl _))⟩⟩)
    · have hsz0 : its.toArray.size = xs.length := by rw [List.size_toArray, hle]
      have hm : ((its.toArray.size : Nat) : Int) * k ≤ 1000000 := by
        rw [hsz0]
        have a1 : ((xs.length : Nat) : Int) * k ≤ 1000 * k := Int.mul_le_mul_of_nonneg_right (by omega) (by omega)
        omega
      have flen : (List.replicate k.toNat its).flatten.length ≤ sizeLine := by
        rw [PyProof.Rows.lm_len_rep_flat, hle, sizeLine_eq]
        have a1 : k.toNat * xs.length ≤ 1000 * 1000 := Nat.mul_le_mul (by omega) hz
        omega
      have c2 : (decide (k ≤ 0) || its.toArray.isEmpty) = false := by
        rw [hi, Bool.or_false]
        exact decide_eq_false hk0
      have c4 : Builtin.Tuple.tupleTooMany (((its.toArray.size : Nat) : Int) * k) = false := by
        unfold Builtin.Tuple.tupleTooMany
        rw [sizeLine_eq]
        exact decide_eq_false (by omega)
      refine wpAny_binaryOp_repeat_ref (T := "tuple") (U := "int") (by decide) ⟨_, ho, rfl⟩ (fun s' => typeIs_int s' k t) noFill_tuple_mul F.fills_int_mul F.slot_int_rmul repeat_tuple F.slot_int_index.lookup
        (call_meets F.slot_int_rmul (typeIs_int s k t) F.entry_int_rmul (F.args_int_rmul_2 _ _) (int_rmul_tuple k t l its.toArray n dd sl)
          ⟨ho, rfl, ⟨_, ho, rfl⟩, call_meets F.slot_tuple_mul ⟨_, ho, rfl⟩ F.entry_tuple_mul (F.args_tuple_mul_2 _ _) (tuple_mulW l its.toArray n dd sl k t c0 c1 c2 (by omega) c4 (by rw [size_rep, List.size_toArray]; exact flen)) ⟨ho, ?_⟩⟩)
      rw [size_rep]
      exact ⟨.ref s.heap.objs.size, _, Inv.tupN (t' := s.toks) I (r.rep k.toNat) (by rw [PyProof.Rows.lm_len_rep_flat, sizeLine_eq]; have a1 : k.toNat * xs.length ≤ 1000 * 1000 := Nat.mul_le_mul (by omega) hz; omega), rfl, q _ _ rfl (I.hok.fresh (Nat.le_refl _))⟩
def rMulD (K : PySem.W.Frag) : R2 := fun x y H Q => rI MulOk (fun i j => .int (i * j)) x y H Q ∨ rRepN K x y H Q
@[simp] noncomputable def gMulD : PyData → PyData → Option PyData
  | .int a, .int b => if MulOk a b then some (.int (a * b)) else none
  | .tuple ds, .int k => if -1000 ≤ k ∧ k ≤ 1000 ∧ ds.length ≤ 1000 then some (.tuple (List.replicate k.toNat ds).flatten) else none
  | _, _ => none
theorem DdAll.repl {H : Hp} {vs : List V} {ds : List PyData} (t : DdAll K H vs ds) : ∀ n, DdAll K H (List.replicate n vs).flatten (List.replicate n ds).flatten
  | 0 => .nil
  | n + 1 => by
    rw [List.replicate_succ, List.replicate_succ, List.flatten_cons, List.flatten_cons]
    exact t.append (DdAll.repl t n)
theorem od_mulD (hK : X.K = K := by rfl) : OD K X (binaryOp .Mult) (rMulD K) gMulD := by
  subst hK
  refine ⟨op_mulO.or op_repN, fun {Hs H x y dx dy d Q} e a b hf q => ?_⟩
  cases a with
  | int i =>
    cases b with
    | int j =>
      obtain ⟨hc, rfl⟩ := ite_some hf
      exact .inl ⟨i, j, rfl, rfl, hc, q _ Hs H (Grow.refl e) (.int _)⟩
    | _ => cases hf
  | @tup p ob xs ds n hp t =>
    cases b with
    | int k =>
      obtain ⟨⟨c1, c2, c3⟩, rfl⟩ := ite_some hf
      refine .inr ⟨p, k, xs, rfl, rfl, sqT_of (e _ _ hp), c1, c2, by rw [t.length]; exact c3, fun z => ?_, fun z => NewT.of (Grow.refl e) (t.repl _) q⟩
      have e1 : (List.replicate k.toNat ds).flatten = ds := by
        rcases z with z | z
        · subst z
          cases t
          exact flat_rep_nil _
        · subst z
          show ds ++ [] = ds
          rw [List.append_nil]
      rw [e1] at q
      exact q _ Hs H (Grow.refl e) (.tup n hp t)
    | _ => cases hf
  | _ => cases hf

/-! ### lists that change -/
variable {M : List Nat} {xc : Nat → Addr} {W : WX} {Hs0 H0 Hs H : Hp} {σ : L2.St} {ρ : Rho} {e o : Expr} {te ta : TE} {f : Fn} {pos pos' apos : Pos}
/-- a slot's list is written -/
theorem SR.upd {i : Nat} {p : Addr} {ys : List V} {es : List PyData} (r : SR K M Hs0 H0 Hs H σ ρ) (hM : M.contains i = true) (hs : σ[i]? = some (some (.ref p))) (hd : ∃ d, ρ[i]? = some (some d)) (hn : Hs p = none) (h0 : H0 p = none) (t : DdAll K Hs ys es) :
    SR K M Hs0 H0 Hs (L2.upd H p (.lst ys)) σ (ρ.set i (some (.list es))) where
  g := ⟨fun b o h => by
      have hb : b ≠ p := fun z => by rw [z, h0] at h; cases h
      rw [upd_ne hb]; exact r.g.ex _ _ h, r.g.exs, fun b o h => by
      have hb : b ≠ p := fun z => by rw [z, hn] at h; cases h
      rw [upd_ne hb]; exact r.g.sub _ _ h, r.g.new⟩
  len := by rw [List.length_set]; exact r.len
  frz := fun j d h m => by
    have hj : i ≠ j := fun z => by rw [← z, hM] at m; cases m
    rw [List.getElem?_set_ne hj] at h
    exact r.frz j d h m
  own := fun j d h m => by
    by_cases hj : i = j
    · subst hj
      have hi : i < ρ.length := by
        have := (List.getElem?_eq_some_iff.mp h).1
        rwa [List.length_set] at this
      rw [List.getElem?_set_self hi] at h
      cases h
      exact ⟨p, ys, es, rfl, hs, upd_same, hn, h0, t⟩
    · rw [List.getElem?_set_ne hj] at h
      obtain ⟨p', xs', ds', e1, e2, e3, e4, e5, e6⟩ := r.own j d h m
      have hp : p' ≠ p := fun z => by
        obtain ⟨di, hdi⟩ := hd
        exact hj (r.sep i j di d p hdi h hM m hs (by rw [← z]; exact e2))
      exact ⟨p', xs', ds', e1, e2, by rw [upd_ne hp]; exact e3, e4, e5, e6⟩
  sep := fun j k dj dk q h1 h2 m1 m2 h3 h4 => by
    have old : ∀ {j : Nat} {dj : PyData}, (ρ.set i (some (.list es)))[j]? = some (some dj) → ∃ d, ρ[j]? = some (some d) := fun {j dj} h => by
      by_cases hj : i = j
      · subst hj; exact hd
      · rw [List.getElem?_set_ne hj] at h; exact ⟨_, h⟩
    obtain ⟨a, ha⟩ := old h1
    obtain ⟨b, hb⟩ := old h2
    exact r.sep j k a b q ha hb m1 m2 h3 h4
/-- a slot takes a fresh list -/
theorem SR.take {i : Nat} {p : Addr} {xs : List V} {ds : List PyData} (r : SR K M Hs0 H0 Hs H σ ρ) {Hs1 H1 : Hp} (g : Grow Hs H Hs1 H1) (hM : M.contains i = true) (hf : H p = none) (hn : Hs1 p = none) (hH : H1 p = some (.lst xs)) (t : DdAll K Hs1 xs ds) :
    SR K M Hs0 H0 Hs1 H1 (σ.set i (some (.ref p))) (ρ.set i (some (.list ds))) := by
  have r1 := r.grow g
  have h0 : H0 p = none := r.g.ex.free hf
  have ne : ∀ j d, ρ[j]? = some (some d) → M.contains j = true → σ[j]? ≠ some (some (.ref p)) := fun j d h m z => by
    obtain ⟨p', xs', ds', e1, e2, e3, _⟩ := r.own j d h m
    rw [e2] at z
    cases z
    rw [hf] at e3
    cases e3
  refine ⟨r1.g, by rw [List.length_set, List.length_set]; exact r.len, fun j d h m => ?_, fun j d h m => ?_, fun j k dj dk q h1 h2 m1 m2 h3 h4 => ?_⟩
  · have hj : i ≠ j := fun z => by rw [← z, hM] at m; cases m
    rw [List.getElem?_set_ne hj] at h ⊢
    exact r1.frz j d h m
  · by_cases hj : i = j
    · subst hj
      have hi : i < ρ.length := by
        have := (List.getElem?_eq_some_iff.mp h).1
        rwa [List.length_set] at this
      rw [List.getElem?_set_self hi] at h
      cases h
      exact ⟨p, xs, ds, rfl, List.getElem?_set_self (by rw [r.len]; exact hi), hH, hn, h0, t⟩
    · rw [List.getElem?_set_ne hj] at h ⊢
      exact r1.own j d h m
  · by_cases hj : i = j
    · by_cases hk : i = k
      · exact hj.symm.trans hk
      · subst hj
        have hi : i < σ.length := by
          have := (List.getElem?_eq_some_iff.mp h3).1
          rwa [List.length_set] at this
        rw [List.getElem?_set_self hi] at h3
        cases h3
        rw [List.getElem?_set_ne hk] at h2 h4
        exact absurd h4 (ne k dk h2 m2)
    · by_cases hk : i = k
      · subst hk
        have hi : i < σ.length := by
          have := (List.getElem?_eq_some_iff.mp h4).1
          rwa [List.length_set] at this
        rw [List.getElem?_set_self hi] at h4
        cases h4
        rw [List.getElem?_set_ne hj] at h1 h3
        exact absurd h3 (ne j dj h1 m1)
      · rw [List.getElem?_set_ne hj] at h1 h3
        rw [List.getElem?_set_ne hk] at h2 h4
        exact r.sep j k dj dk q h1 h2 m1 m2 h3 h4
@[simp] def gOwn (i : Nat) (f : Rho → Option (List PyData)) : Gn := fun ρ => (f ρ).bind fun ds => some (.nx (ρ.set i (some (.list ds))))
/-- name = a fresh list, the name one of M -/
theorem sd_own (i : Nat) {x : Str} {f : Rho → Option (List PyData)} (hN : X.N.Nodup) (h : FD K X M e te f) (hi : X.N[i]? = some x := by rfl) (hx : Loc X.env.scope x := by first | exact Or.inl rfl | exact Or.inr rfl) (hM : M.contains i = true := by rfl)
    (hs : swapsWith e (some (.Name x pos')) pos.line X.env = pure false := by rfl) (hf : X.fn x = true ∨ X.env.scope.names.lookup x = some .local := by first | exact .inl rfl | exact .inr rfl) :
    SD K xc X M W (.Assign [.Name x pos'] e pos) (tAsg te (gName i)) (gOwn i f) :=
  ⟨ps_set hN hi hx h.pe hs hf, fun {Hs0 H0 Hs H σ ρ r D} R hf o => by
    obtain ⟨ds, h1, h2⟩ := bind_some hf
    obtain rfl := Option.some.inj h2
    exact h.sm R h1 fun p xs Hs1 H1 g1 hp hn hH t => o Hs1 H1 _ g1.exs (R.take g1 hM hp hn hH t)⟩
/-- .. by a comprehension on one line -/
theorem sd_ownLc {Rl : YR} {elt tg iter : Expr} {ifs : List Expr} {scope : Scope} {pos1 py : Pos} {wi : TI} {g : TG} {tt : TT} {ws : List Nat} {h : Rho → Option (List PyData)} {hg' : PyData → Rho → Option Rho} {c : Rho → Option Bool} (i : Nat) {y : Str}
    (own : List (Str × Nat)) (hN : X.N.Nodup) (hi : ID K X M Rl tg iter wi h) (ok : BlkOk X.N X.env.scope scope own)
    (hg : ∀ (s : Shared) (H : Hp) (C : Addr) (cl : List (Str × Addr)) (fp : List Addr), GD K (X.blk s H scope (compEnvC scope cl C X.env) fp) M Rl ws tg g hg')
    (ht : ∀ (s : Shared) (H : Hp) (C : Addr) (cl : List (Str × Addr)) (fp : List Addr), CTD K (X.blk s H scope (compEnvC scope cl C X.env) fp) M ifs tt c)
    (he : ∀ (s : Shared) (H : Hp) (C : Addr) (cl : List (Str × Addr)) (fp : List Addr), ED K (X.blk s H scope (compEnvC scope cl C X.env) fp) M elt te f)
    (hsw : swapsWith (.ListComp elt [⟨tg, iter, ifs, 0⟩] scope pos1) (some (.Name y py)) pos.line X.env = pure true)
    (hy : X.N[i]? = some y := by rfl) (hyl : X.env.scope.names.lookup y = some .local := by rfl) (hM : M.contains i = true := by rfl)
    (hws : ws.all (fun i => (own.map (·.2)).contains i) = true := by rfl) (hc : X.calm = true := by rfl) (hs : ∀ x, foldedSetIterable iter X.env x = pure x := by intro _; rfl) :
    SD K xc X M W (.Assign [.Name y py] (.ListComp elt [⟨tg, iter, ifs, 0⟩] scope pos1) pos) (tAsg (tLc wi g tt te (own.map (·.2))) (gName i)) (gOwn i (fLc (own.map (·.2)) h hg' c f)) :=
  ⟨ps_setLc hc hN hy hyl hsw hi.pi ok (fun s H C cl fp => (hg s H C cl fp).pg) (fun s H C cl fp => (ht s H C cl fp).pt) (fun s H C cl fp => (he s H C cl fp).pe) hs, fun {Hs0 H0 Hs H σ ρ r D} R hf o => by
    obtain ⟨ds, h1, h2⟩ := bind_some hf
    obtain rfl := Option.some.inj h2
    exact (fd_lc (pos := pos1) own hN hi ok hg ht he hws hc hs).sm R h1 fun p xs Hs1 H1 g1 hp hn hH t => o Hs1 H1 _ g1.exs (R.take g1 hM hp hn hH t)⟩
@[simp] def lstAt (i : Nat) : Rho → Option (List PyData) := fun ρ => match ρ[i]? with
  | some (some (.list ds)) => some ds
  | _ => none
theorem lstAt_some {i : Nat} {ds : List PyData} (h : lstAt i ρ = some ds) : ρ[i]? = some (some (.list ds)) := by
  unfold lstAt at h
  split at h
  · rename_i e; cases h; exact e
  · cases h
/-- x.append(e) -/
@[simp] def gApp (i : Nat) (f : Fn) : Gn := fun ρ => (lstAt i ρ).bind fun ds => (f ρ).bind fun d => if ds.length < 1000000 then some (.nx (ρ.set i (some (.list (ds ++ [d]))))) else none
theorem SR.ownAt {i : Nat} {ds : List PyData} (r : SR K M Hs0 H0 Hs H σ ρ) (h : ρ[i]? = some (some (.list ds))) (hM : M.contains i = true) : ∃ p xs, σ[i]? = some (some (.ref p)) ∧ H p = some (.lst xs) ∧ Hs p = none ∧ H0 p = none ∧ DdAll K Hs xs ds := by
  obtain ⟨p, xs, ds', e1, e2, e3, e4, e5, e6⟩ := r.own i _ h hM
  cases e1
  exact ⟨p, xs, e2, e3, e4, e5, e6⟩
theorem sd_append (i : Nat) {x : Str} (h : ED K X M e te f) (hN : X.N[i]? = some x := by rfl) (hv : Vis X.env.scope x := by first | exact Or.inl rfl | exact Or.inr (Or.inl rfl) | exact Or.inr (Or.inr rfl)) (hM : M.contains i = true := by rfl)
    (hbase : attributeBase (.Name x pos') "append" X.env (eval (.Name x pos') X.env) = eval (.Name x pos') X.env := by rfl)
    (hfew : ((backTo pos (starEach [e] X.env)).all (fun x => !x.1) && (backToKw pos (keywordEach [] X.env)).all (fun x => x.1.isSome)
      && decide ([e].length + ([] : List Keyword).length + (if ([] : List Keyword).isEmpty then 0 else 1) < 30)) = true := by rfl)
    (hline : (apos.endLine == pos.line) = true := by rfl) (hst : starEach [e] X.env = (false, eval e X.env) :: starEach [] X.env := by rfl) {pos2 : Pos} (hs : swapsWith (.Call (.Attribute (.Name x pos') "append" apos) [e] [] pos) none pos2.line X.env = pure false := by rfl) (hd : (x == ("__debug__" : Str)) = false := by decide) (hcd : (x == ("__classdict__" : Str)) = false := by decide) :
    SD K xc X M W (.Expr (.Call (.Attribute (.Name x pos') "append" apos) [e] [] pos) pos2) (tDrop (tBM X.K "list" rAppend (tVar i) (tCons te tNil))) (gApp i f) :=
  ⟨ps_expr (pe_bm PySem.F.plainAttrs_list PySem.F.slot_list_append PySem.F.type_list_append mt_append (pe_var hN hv hd hcd) (pa_cons h.pe pa_nil hst) hbase hfew hline hst rfl) hs, fun {Hs0 H0 Hs H σ ρ r D} R hf o => by
    obtain ⟨ds, h1, h2⟩ := bind_some hf
    obtain ⟨d, h3, h4⟩ := bind_some h2
    obtain ⟨hl, rfl⟩ := ite_some h4
    have hρ := lstAt_some h1
    obtain ⟨p, xs, e1, e2, e3, e4, e5⟩ := R.ownAt hρ hM
    refine ⟨.ref p, e1, .inl ⟨rfl, _, sqL_of e2⟩, h.sm R h3 fun v Hs1 H1 g1 d1 => ?_⟩
    refine ⟨p, xs, v, rfl, rfl, g1.ex _ _ e2, szL (by rw [e5.length]; exact hl), ?_⟩
    exact o Hs1 _ σ g1.exs ((R.grow g1).upd hM e1 ⟨_, hρ⟩ (g1.new p e3 (by rw [e2]; simp)) e4 ((e5.mono g1.exs).append (.cons d1 .nil)))⟩
/-- x[e1] = e2 -/
@[simp] def gSet (i : Nat) (fi f : Fn) : Gn := fun ρ => (f ρ).bind fun d => (lstAt i ρ).bind fun ds => (fi ρ).bind fun k => match k with
  | .int k => (ixN ds.length k).bind fun j => some (.nx (ρ.set i (some (.list (ds.set j d)))))
  | _ => none
theorem sd_setItem (i : Nat) {x : Str} {b : Expr} {tb : TE} {fb : Fn} {ps : Pos} (h : ED K X M e te f) (hb : ED K X M b tb fb) (hN : X.N[i]? = some x := by rfl) (hv : Vis X.env.scope x := by first | exact Or.inl rfl | exact Or.inr (Or.inl rfl) | exact Or.inr (Or.inr rfl)) (hM : M.contains i = true := by rfl)
    (ha : ∀ v, assign (.Subscript (.Name x pos') b ps) X.env v = (do
      let ov ← holding [v] (eval (.Name x pos') X.env)
      let iv ← holding [v, ov] (eval b X.env)
      standAt ps
      holding [v, ov, iv] (setItem ov iv v)
      release [v, ov, iv] []) := by intro _; rfl)
    (hs : swapsWithSole [.Subscript (.Name x pos') b ps] e pos.line X.env = pure false := by rfl) (hw : swappedStores [.Subscript (.Name x pos') b ps] e X.env = pure none := by rfl)
    (h1 : (assignEach [.Subscript (.Name x pos') b ps] X.env).map (·.2) = [assign (.Subscript (.Name x pos') b ps) X.env] := by rfl) (hd : (x == ("__debug__" : Str)) = false := by decide) (hcd : (x == ("__classdict__" : Str)) = false := by decide) :
    SD K xc X M W (.Assign [.Subscript (.Name x pos') b ps] e pos) (tAsg te (gSub (tVar i) tb rSetL)) (gSet i fb f) :=
  ⟨ps_asg h.pe (pg_sub (pe_var hN hv hd hcd) hb.pe set_list ha) hs hw h1, fun {Hs0 H0 Hs H σ ρ r D} R hf o => by
    obtain ⟨d, h1, hf⟩ := bind_some hf
    obtain ⟨ds, h2, hf⟩ := bind_some hf
    obtain ⟨k, h3, hf⟩ := bind_some hf
    have hρ := lstAt_some h2
    obtain ⟨p, xs, e1, e2, e3, e4, e5⟩ := R.ownAt hρ hM
    refine h.sm R h1 fun v Hs1 H1 g1 d1 => ⟨.ref p, e1, hb.sm (R.grow g1) h3 fun w Hs2 H2 g2 d2 => ?_⟩
    cases d2 with
    | int k =>
      obtain ⟨j, h4, h5⟩ := bind_some hf
      obtain rfl := Option.some.inj h5
      have g := g1.trans g2
      refine ⟨p, xs, k, j, rfl, rfl, g.ex _ _ e2, by rw [e5.length]; exact h4, ?_⟩
      exact o Hs2 _ σ g.exs ((R.grow g).upd (ys := xs.set j v) hM e1 ⟨_, hρ⟩ (g.new p e3 (by rw [e2]; simp)) e4 (DdAll.set (d1.mono g2.exs) j (e5.mono g.exs)))
    | _ => cases hf⟩
end
end DL

namespace DL
open PySem PySem.Spec PyProof.Rows L2
/-! ### [x.pop(e) for k in ..]: a comprehension that empties a list of the def -/
def B63 (k : Int) : Prop := -(2 ^ 63) ≤ k ∧ k < 2 ^ 63
noncomputable instance : DecidablePred B63 := fun _ => Classical.propDecidable _
noncomputable def popF (j iL : Nat) (fe : Fn) : List PyData → Rho → Option (List PyData)
  | [], _ => some []
  | d :: ds, ρ => (lstAt iL (ρ.set j (some d))).bind fun L => (fe (ρ.set j (some d))).bind fun k => match k with
    | .int k => if B63 k then (seqIndex? k L.length).bind fun n => (L[n]?).bind fun y => (popF j iL fe ds (ρ.set iL (some (.list (L.eraseIdx n))))).bind fun ys => some (y :: ys) else none
    | _ => none
section
variable {K : PySem.W.Frag} {X : Cx} {M : List Nat} {xc : Nat → Addr} {W : WX} {Hs0 H0 Hs H Hs1 H1 : Hp} {σ : L2.St} {ρ : Rho} {e : Expr} {te : TE} {fe : Fn} {pos pos' apos : Pos}
/-- an object that no slot owns is written -/
theorem SR.other {D : Addr} {o : HO} (r : SR K M Hs0 H0 Hs H σ ρ) (hn : Hs D = none) (h0 : H0 D = none) (ne : ∀ i d p, ρ[i]? = some (some d) → M.contains i = true → σ[i]? = some (some (.ref p)) → p ≠ D) : SR K M Hs0 H0 Hs (L2.upd H D o) σ ρ where
  g := ⟨fun b o h => by
      have hb : b ≠ D := fun z => by rw [z, h0] at h; cases h
      rw [upd_ne hb]; exact r.g.ex _ _ h, r.g.exs, fun b o h => by
      have hb : b ≠ D := fun z => by rw [z, hn] at h; cases h
      rw [upd_ne hb]; exact r.g.sub _ _ h, r.g.new⟩
  len := r.len
  frz := r.frz
  own := fun j d h m => by
    obtain ⟨p', xs', ds', e1, e2, e3, e4, e5, e6⟩ := r.own j d h m
    exact ⟨p', xs', ds', e1, e2, by rw [upd_ne (ne j d p' h m e2)]; exact e3, e4, e5, e6⟩
  sep := r.sep
/-- a slot is forgotten -/
theorem SR.forget {i : Nat} (r : SR K M Hs0 H0 Hs H σ ρ) : SR K M Hs0 H0 Hs H σ (ρ.set i none) := by
  have old : ∀ {j : Nat} {d : PyData}, (ρ.set i none)[j]? = some (some d) → ρ[j]? = some (some d) := fun {j d} h => by
    by_cases hj : i = j
    · subst hj
      by_cases hi : i < ρ.length
      · rw [List.getElem?_set_self hi] at h; cases h
      · rw [List.getElem?_eq_none (by simpa using hi)] at h; cases h
    · rwa [List.getElem?_set_ne hj] at h
  exact ⟨r.g, by rw [List.length_set]; exact r.len, fun j d h => r.frz j d (old h), fun j d h => r.own j d (old h), fun j k dj dk p h1 h2 => r.sep j k dj dk p (old h1) (old h2)⟩
def tPop (K : PySem.W.Frag) (iL : Nat) (te : TE) : TE := tBM K "list" rPopAt (tVar iL) (tCons te tNil)
theorem lcPop {h : Rho → Option (List PyData)} {tg iter : Expr} {wi : TI} {j iL : Nat} {vs : List Nat} {ds res : List PyData} {Q : VK} (hi : ID K X M (Dd K) tg iter wi h) (Y : Cx) (he : ED K Y M e te fe) (hML : M.contains iL = true) (hMj : M.contains j = false) (hj : j ∈ vs) (hvs : vs.all (fun i => !M.contains i) = true)
    (R : SR K M Hs0 H0 Hs H σ ρ) (h1 : h ρ = some ds) (hl : ds.length ≤ 1000000) (hp : popF j iL fe ds (wipeR ρ vs) = some res)
    (q : ∀ D acc Hs' H', Same Hs Hs' → SR K M Hs0 H0 Hs' H' σ (ρ.set iL none) → H D = none → Hs' D = none → H0 D = none → H' D = some (.lst acc) → DdAll K Hs' acc res → (∀ i d p, ρ[i]? = some (some d) → M.contains i = true → σ[i]? = some (some (.ref p)) → p ≠ D) → Q (.ref D) H') :
    tLc wi (gName j) tYes (tPop K iL te) vs σ H Q := by
  have hMv : ∀ i, M.contains i = true → i ∉ vs := fun i m hi => by
    have := List.all_eq_true.mp hvs i hi
    rw [m] at this
    cases this
  refine hi.sm R h1 fun J Hs1 H1 g1 Yl D hD => ?_
  have nD : Hs1 D = none := g1.sub.free hD
  have R1 := R.grow g1
  have h0D : H0 D = none := R1.g.ex.free hD
  have own0 : ∀ i d p, ρ[i]? = some (some d) → M.contains i = true → σ[i]? = some (some (.ref p)) → p ≠ D := fun i d p h m hs z => by
    obtain ⟨p', xs', ds', e1, e2, e3, _⟩ := R1.own i d h m
    rw [hs] at e2
    cases e2
    rw [z, hD] at e3
    cases e3
  refine ⟨fun i m H' => m = ds.length - i ∧ i ≤ ds.length ∧ ∃ Hsi ρi acc accd tail, Same Hs1 Hsi ∧ Hsi D = none ∧ SR K M Hs0 H0 Hsi H' (L2.wipe σ vs) ρi ∧ (∀ i d, ρi[i]? = some (some d) → M.contains i = true → ∃ d', ρ[i]? = some (some d')) ∧ (∀ i, i ≠ iL → ρi[i]? = (wipeR ρ vs)[i]?) ∧ H' D = some (.lst acc) ∧ DdAll K Hsi acc accd ∧ acc.length ≤ i ∧ popF j iL fe (ds.drop i) ρi = some tail ∧ accd ++ tail = res,
    ⟨ds.length, by simp, Nat.zero_le _, Hs1, wipeR ρ vs, [], [], res, Same.refl _, nD, ?_, fun i d h m => ⟨d, (wipeR_some h).1⟩, fun _ _ => rfl, upd_same, .nil, Nat.le_refl _, hp, rfl⟩, ?_⟩
  · refine (R1.wipe vs).other nD h0D fun i d p h m hs => ?_
    obtain ⟨a1, a2⟩ := wipeR_some h
    rw [wipe_out a2] at hs
    exact own0 i d p a1 m hs
  · rintro i m H2 ⟨rfl, hle, Hsi, ρi, acc, accd, tail, e2, n2, R2, hown, hsame, hD2, d2, hacc, hcf, hres⟩
    by_cases hlt : i < ds.length
    · refine .inr ⟨Yl.go i H2 (e2.trans R2.sub) hlt, fun H' => i + 1 ≤ ds.length ∧ ∃ Hsi ρi acc accd tail, Same Hs1 Hsi ∧ Hsi D = none ∧ SR K M Hs0 H0 Hsi H' (L2.wipe σ vs) ρi ∧ (∀ i d, ρi[i]? = some (some d) → M.contains i = true → ∃ d', ρ[i]? = some (some d')) ∧ (∀ i, i ≠ iL → ρi[i]? = (wipeR ρ vs)[i]?) ∧ H' D = some (.lst acc) ∧ DdAll K Hsi acc accd ∧ acc.length ≤ i + 1 ∧ popF j iL fe (ds.drop (i + 1)) ρi = some tail ∧ accd ++ tail = res,
        fun H' ⟨a, b⟩ => ⟨ds.length - (i + 1), by omega, rfl, a, b⟩, fun x H3 hy => ?_⟩
      obtain ⟨Hs3, g3, d, hd, ad⟩ := Yl.yld i H2 x H3 Hsi hlt e2 R2.sub hy
      have ed : ds.drop i = d :: ds.drop (i + 1) := by
        have e1 := List.drop_eq_getElem_cons hlt
        have e2 : ds[i] = d := (List.getElem?_eq_some_iff.mp hd).2
        rw [e1, e2]
      rw [ed] at hcf
      unfold popF at hcf
      obtain ⟨L, c1, hcf⟩ := bind_some hcf
      obtain ⟨k, c2, hcf⟩ := bind_some hcf
      have R3 := R2.grow g3
      have R4 := R3.set (i := j) hMj ad
      have hρL := lstAt_some c1
      refine ⟨?_, ?_⟩
      · show L2.wipe ((L2.wipe σ vs).set j (some x)) vs = L2.wipe σ vs
        rw [wipe_set hj]
        exact wipe_wipe σ vs
      · unfold tYes
        dsimp only
        rw [if_pos rfl]
        obtain ⟨pL, xsL, f1, f2, f3, f4, f5⟩ := R4.ownAt hρL hML
        refine ⟨.ref pL, f1, .inl ⟨rfl, _, sqL_of f2⟩, he.sm R4 c2 fun v Hs5 H5 g5 d5 => ?_⟩
        cases d5 with
        | int k =>
          obtain ⟨hB, hcf⟩ := ite_get hcf
          obtain ⟨n, c3, hcf⟩ := bind_some hcf
          obtain ⟨y, c4, hcf⟩ := bind_some hcf
          obtain ⟨ys, c5, hcf⟩ := bind_some hcf
          obtain rfl := Option.some.inj hcf
          obtain ⟨yv, c6, c7⟩ := f5.get c4
          have hD5 : H5 D = some (.lst acc) := g5.ex _ _ (g3.ex _ _ hD2)
          have hpD : pL ≠ D := by
            have hneJ : j ≠ iL := fun z => by rw [z, hML] at hMj; cases hMj
            rw [List.getElem?_set_ne hneJ] at hρL f1
            obtain ⟨d', hd'⟩ := hown _ _ hρL hML
            rw [wipe_out (hMv _ hML)] at f1
            exact own0 _ _ _ hd' hML f1
          refine ⟨pL, xsL, k, n, yv, rfl, rfl, g5.ex _ _ f2, hB.1, hB.2, by rw [f5.length]; exact c3, c6, ?_⟩
          have n5 : Hs5 D = none := g5.new D (g3.new D n2 (by rw [hD2]; simp)) (by rw [g3.ex _ _ hD2]; simp)
          have R5 : SR K M Hs0 H0 Hs5 (L2.upd H5 pL (.lst (xsL.eraseIdx n))) (L2.wipe σ vs) (ρi.set iL (some (.list (L.eraseIdx n)))) := by
            have hneJ : j ≠ iL := fun z => by rw [z, hML] at hMj; cases hMj
            rw [List.getElem?_set_ne hneJ] at hρL f1
            exact (R3.grow g5).upd hML f1 ⟨_, hρL⟩ (g5.new pL f3 (by rw [f2]; simp)) f4 ((f5.mono g5.exs).erase n)
          have own5 : ∀ i d, (ρi.set iL (some (.list (L.eraseIdx n))))[i]? = some (some d) → M.contains i = true → ∃ d', ρ[i]? = some (some d') := fun i d h m => by
            by_cases hiL : iL = i
            · subst hiL
              have hneJ : j ≠ iL := fun z => by rw [z, hML] at hMj; cases hMj
              rw [List.getElem?_set_ne hneJ] at hρL
              exact hown _ _ hρL hML
            · rw [List.getElem?_set_ne hiL] at h
              exact hown i d h m
          refine ⟨acc, by rw [upd_ne hpD.symm]; exact hD5, szL (by omega), hlt, Hs5, ρi.set iL (some (.list (L.eraseIdx n))), acc ++ [yv], accd ++ [y], ys, (e2.trans g3.exs).trans g5.exs, n5, R5.other n5 h0D ?_, own5, fun i hi => ?_, upd_same, ((d2.mono g3.exs).mono g5.exs).append (.cons (c7.mono g5.exs) .nil), ?_, c5, ?_⟩
          · intro i d p h m hs
            obtain ⟨d', hd'⟩ := own5 i d h m
            rw [wipe_out (hMv _ m)] at hs
            exact own0 _ _ _ hd' m hs
          · rw [List.getElem?_set_ne (fun z => hi z.symm)]
            exact hsame i hi
          · rw [List.length_append, List.length_singleton]
            omega
          · rw [List.append_assoc]
            exact hres
        | _ => cases hcf
    · have ei : i = ds.length := by omega
      subst ei
      rw [List.drop_length] at hcf
      unfold popF at hcf
      cases hcf
      rw [List.append_nil] at hres
      subst hres
      refine .inl ⟨Yl.stop _ H2 (e2.trans R2.sub) (Nat.le_refl _), q D acc Hsi H2 (g1.exs.trans e2) ?_ (g1.ex.free hD) n2 h0D hD2 d2 own0⟩
      have setNone : ∀ {i : Nat} {d : PyData}, (ρ.set iL none)[i]? = some (some d) → i ≠ iL ∧ ρ[i]? = some (some d) := fun {i d} h => by
        by_cases hj : iL = i
        · subst hj
          by_cases hi : iL < ρ.length
          · rw [List.getElem?_set_self hi] at h; cases h
          · rw [List.getElem?_eq_none (by simpa using hi)] at h; cases h
        · rw [List.getElem?_set_ne hj] at h
          exact ⟨fun z => hj z.symm, h⟩
      have wr : ∀ i, i ∉ vs → (wipeR ρ vs)[i]? = ρ[i]? := fun i => by
        have : ∀ (ws : List Nat), i ∉ ws → (wipeR ρ ws)[i]? = ρ[i]? := fun ws => by
          induction ws with
          | nil => intro _; rfl
          | cons w ws ih =>
            intro hw
            unfold wipeR
            rw [List.getElem?_set_ne (fun z => hw (by rw [z]; exact List.mem_cons_self)), ih (fun z => hw (List.mem_cons_of_mem _ z))]
        exact this vs
      refine ⟨R2.g, by rw [List.length_set]; exact R.len, fun i d h m => ?_, fun i d h m => ?_, fun i k di dk p h1 h2 m1 m2 h3 h4 => ?_⟩
      · obtain ⟨hne, h⟩ := setNone h
        obtain ⟨v, a, b⟩ := R.frz i d h m
        exact ⟨v, a, (b.mono g1.exs).mono e2⟩
      · obtain ⟨hne, h⟩ := setNone h
        have hi2 : ρi[i]? = some (some d) := by rw [hsame i hne, wr i (hMv i m)]; exact h
        obtain ⟨p', xs', ds', a1, a2, a3⟩ := R2.own i d hi2 m
        rw [wipe_out (hMv i m)] at a2
        exact ⟨p', xs', ds', a1, a2, a3⟩
      · exact R.sep i k di dk p (setNone h1).2 (setNone h2).2 m1 m2 h3 h4
/-- the fresh list at D, forgotten as such: it stands with the data -/
theorem SR.show {D : Addr} {acc : List V} {ds : List PyData} (r : SR K M Hs0 H0 Hs H σ ρ) (hn : Hs D = none) (h0 : H0 D = none) (hD : H D = some (.lst acc)) (t : DdAll K Hs acc ds) (ne : ∀ i d p, ρ[i]? = some (some d) → M.contains i = true → σ[i]? = some (some (.ref p)) → p ≠ D) :
    ∃ Hs', Same Hs Hs' ∧ SR K M Hs0 H0 Hs' H σ ρ ∧ Dd K Hs' (.ref D) (.list ds) := by
  have e1 : Same Hs (L2.upd Hs D (.lst acc)) := same_new hn
  refine ⟨L2.upd Hs D (.lst acc), e1, ⟨⟨r.g.ex, r.g.exs.trans e1, fun b o z => ?_, fun a z n => ?_⟩, r.len, fun i d h m => ?_, fun i d h m => ?_, r.sep⟩, .lst upd_same (t.mono e1)⟩
  · by_cases hb : b = D
    · subst hb; rw [upd_same] at z; rw [hD]; exact z
    · rw [upd_ne hb] at z; exact r.g.sub _ _ z
  · have : a ≠ D := fun y => n (by rw [y]; exact h0)
    rw [upd_ne this]; exact r.g.new a z n
  · obtain ⟨v, a, b⟩ := r.frz i d h m
    exact ⟨v, a, b.mono e1⟩
  · obtain ⟨p', xs', ds', a1, a2, a3, a4, a5, a6⟩ := r.own i d h m
    exact ⟨p', xs', ds', a1, a2, a3, by rw [upd_ne (ne i d p' h m a2)]; exact a4, a5, a6.mono e1⟩
@[simp] noncomputable def gSetPop (i j iL : Nat) (vs : List Nat) (h : Rho → Option (List PyData)) (fe : Fn) : Gn := fun ρ => (h ρ).bind fun ds => if ds.length ≤ 1000000 then (popF j iL fe ds (wipeR ρ vs)).bind fun ys => some (.nx ((ρ.set iL none).set i (some (.list ys)))) else none
/-- y = [x.pop(e) for k in ..] -/
theorem sd_setPop {tg iter : Expr} {scope : Scope} {pos1 py px cpos : Pos} {wi : TI} {h : Rho → Option (List PyData)} (i iL : Nat) {j : Nat} {y x : Str}
    (own : List (Str × Nat)) (hN : X.N.Nodup) (hi : ID K X M (Dd K) tg iter wi h) (ok : BlkOk X.N X.env.scope scope own)
    (hg : ∀ (s : Shared) (H : Hp) (C : Addr) (cl : List (Str × Addr)) (fp : List Addr), GD K (X.blk s H scope (compEnvC scope cl C X.env) fp) M (Dd K) [j] tg (gName j) (hName j))
    (hx : ∀ (s : Shared) (H : Hp) (C : Addr) (cl : List (Str × Addr)) (fp : List Addr), PE (X.blk s H scope (compEnvC scope cl C X.env) fp) (.Name x px) (tVar iL))
    (he : ∀ (s : Shared) (H : Hp) (C : Addr) (cl : List (Str × Addr)) (fp : List Addr), ED K (X.blk s H scope (compEnvC scope cl C X.env) fp) M e te fe)
    (hsw : swapsWith (.ListComp (.Call (.Attribute (.Name x px) "pop" apos) [e] [] cpos) [⟨tg, iter, [], 0⟩] scope pos1) (some (.Name y py)) pos.line X.env = pure true)
    (hy : X.N[i]? = some y := by rfl) (hyl : X.env.scope.names.lookup y = some .local := by rfl) (hM : M.contains i = false := by rfl) (hML : M.contains iL = true := by rfl) (hMj : M.contains j = false := by rfl) (hj : j ∈ own.map (·.2) := by decide) (hvs : (own.map (·.2)).all (fun i => !M.contains i) = true := by rfl)
    (hc : X.calm = true := by rfl) (hs : ∀ x, foldedSetIterable iter X.env x = pure x := by intro _; rfl)
    (hbase : ∀ (s : Shared) (H : Hp) (C : Addr) (cl : List (Str × Addr)) (fp : List Addr), attributeBase (.Name x px) "pop" (compEnvC scope cl C X.env) (eval (.Name x px) (compEnvC scope cl C X.env)) = eval (.Name x px) (compEnvC scope cl C X.env) := by intros; rfl)
    (hfew : ∀ (s : Shared) (H : Hp) (C : Addr) (cl : List (Str × Addr)) (fp : List Addr), ((backTo cpos (starEach [e] (compEnvC scope cl C X.env))).all (fun x => !x.1) && (backToKw cpos (keywordEach [] (compEnvC scope cl C X.env))).all (fun x => x.1.isSome)
      && decide ([e].length + ([] : List Keyword).length + (if ([] : List Keyword).isEmpty then 0 else 1) < 30)) = true := by intros; rfl)
    (hline : (apos.endLine == cpos.line) = true := by rfl) (hst : ∀ (s : Shared) (H : Hp) (C : Addr) (cl : List (Str × Addr)) (fp : List Addr), starEach [e] (compEnvC scope cl C X.env) = (false, eval e (compEnvC scope cl C X.env)) :: starEach [] (compEnvC scope cl C X.env) := by intros; rfl) (hK : X.K = K := by rfl) :
    SD K xc X M W (.Assign [.Name y py] (.ListComp (.Call (.Attribute (.Name x px) "pop" apos) [e] [] cpos) [⟨tg, iter, [], 0⟩] scope pos1) pos) (tAsg (tLc wi (gName j) tYes (tPop K iL te) (own.map (·.2))) (gName i)) (gSetPop i j iL (own.map (·.2)) h fe) := by
  subst hK
  refine ⟨ps_setLc hc hN hy hyl hsw hi.pi ok (fun s H C cl fp => (hg s H C cl fp).pg) (fun s H C cl fp => pts_nil)
    (fun s H C cl fp => pe_bm PySem.F.plainAttrs_list PySem.F.slot_list_pop PySem.F.type_list_pop mt_popAt (hx s H C cl fp) (pa_cons (he s H C cl fp).pe pa_nil (hst s H C cl fp)) (hbase s H C cl fp) (hfew s H C cl fp) hline (hst s H C cl fp) rfl) hs, fun {Hs0 H0 Hs H σ ρ r D} R hf o => ?_⟩
  obtain ⟨ds, h1, hf⟩ := bind_some hf
  obtain ⟨hl, hf⟩ := ite_get hf
  obtain ⟨ys, h2, hf⟩ := bind_some hf
  obtain rfl := Option.some.inj hf
  refine lcPop hi _ (he X.s_0 (fun _ => none) 0 [] []) hML hMj hj hvs R h1 hl h2 fun Da acc Hs' H' e1 R' hD hn h0 hD' t ne => ?_
  obtain ⟨Hs2, e2, R2, d2⟩ := R'.show hn h0 hD' t fun i d p h m hs => by
    by_cases hiL : iL = i
    · subst hiL
      by_cases hi : iL < ρ.length
      · rw [List.getElem?_set_self hi] at h; cases h
      · rw [List.getElem?_eq_none (by simpa using hi)] at h; cases h
    · rw [List.getElem?_set_ne hiL] at h
      exact ne i d p h m hs
  exact o Hs2 H' _ (e1.trans e2) (R2.set hM d2)
/-- return tuple([x.pop(e) for k in ..]) -/
@[simp] noncomputable def gRetPop (j iL : Nat) (vs : List Nat) (h : Rho → Option (List PyData)) (fe : Fn) : Gn := fun ρ => (h ρ).bind fun ds => if ds.length ≤ 1000000 then (popF j iL fe ds (wipeR ρ vs)).bind fun ys => some (.ret (.tuple ys)) else none
theorem sd_retPop {tg iter : Expr} {scope : Scope} {pos1 px cpos tp p2 : Pos} {wi : TI} {h : Rho → Option (List PyData)} (iL : Nat) {j : Nat} {x : Str}
    (own : List (Str × Nat)) (hN : X.N.Nodup) (hi : ID K X M (Dd K) tg iter wi h) (ok : BlkOk X.N X.env.scope scope own)
    (hg : ∀ (s : Shared) (H : Hp) (C : Addr) (cl : List (Str × Addr)) (fp : List Addr), GD K (X.blk s H scope (compEnvC scope cl C X.env) fp) M (Dd K) [j] tg (gName j) (hName j))
    (hx : ∀ (s : Shared) (H : Hp) (C : Addr) (cl : List (Str × Addr)) (fp : List Addr), PE (X.blk s H scope (compEnvC scope cl C X.env) fp) (.Name x px) (tVar iL))
    (he : ∀ (s : Shared) (H : Hp) (C : Addr) (cl : List (Str × Addr)) (fp : List Addr), ED K (X.blk s H scope (compEnvC scope cl C X.env) fp) M e te fe)
    (hm : X.mg "tuple" = none) (hgl : Gl X "tuple" := by rfl)
    (hML : M.contains iL = true := by rfl) (hMj : M.contains j = false := by rfl) (hj : j ∈ own.map (·.2) := by decide) (hvs : (own.map (·.2)).all (fun i => !M.contains i) = true := by rfl)
    (hc : X.calm = true := by rfl) (hs : ∀ x, foldedSetIterable iter X.env x = pure x := by intro _; rfl)
    (hbase : ∀ (s : Shared) (H : Hp) (C : Addr) (cl : List (Str × Addr)) (fp : List Addr), attributeBase (.Name x px) "pop" (compEnvC scope cl C X.env) (eval (.Name x px) (compEnvC scope cl C X.env)) = eval (.Name x px) (compEnvC scope cl C X.env) := by intros; rfl)
    (hfew : ∀ (s : Shared) (H : Hp) (C : Addr) (cl : List (Str × Addr)) (fp : List Addr), ((backTo cpos (starEach [e] (compEnvC scope cl C X.env))).all (fun x => !x.1) && (backToKw cpos (keywordEach [] (compEnvC scope cl C X.env))).all (fun x => x.1.isSome)
      && decide ([e].length + ([] : List Keyword).length + (if ([] : List Keyword).isEmpty then 0 else 1) < 30)) = true := by intros; rfl)
    (hline : (apos.endLine == cpos.line) = true := by rfl) (hst : ∀ (s : Shared) (H : Hp) (C : Addr) (cl : List (Str × Addr)) (fp : List Addr), starEach [e] (compEnvC scope cl C X.env) = (false, eval e (compEnvC scope cl C X.env)) :: starEach [] (compEnvC scope cl C X.env) := by intros; rfl) (hK : X.K = K := by rfl)
    (hes : starEach [.ListComp (.Call (.Attribute (.Name x px) "pop" apos) [e] [] cpos) [⟨tg, iter, [], 0⟩] scope pos1] X.env = (false, eval (.ListComp (.Call (.Attribute (.Name x px) "pop" apos) [e] [] cpos) [⟨tg, iter, [], 0⟩] scope pos1) X.env) :: starEach [] X.env := by rfl) :
    SD K xc X M W (.Return (some (.Call (.Name "tuple" tp) [.ListComp (.Call (.Attribute (.Name x px) "pop" apos) [e] [] cpos) [⟨tg, iter, [], 0⟩] scope pos1] [] p2)) pos)
      (tRet (tCB (fun xs H Q => ∃ p ys, xs = [.ref p] ∧ ((SqL K H p ys ∧ NewT Q H ys) ∨ (SqT K H p ys ∧ Q (.ref p) H))) (tCons (tLc wi (gName j) tYes (tPop K iL te) (own.map (·.2))) tNil))) (gRetPop j iL (own.map (·.2)) h fe) := by
  subst hK
  refine ⟨ps_ret (pe_callTy call_tupN hgl hm boot_tuple (pa_cons (pe_lc hc hN hi.pi ok (fun s H C cl fp => (hg s H C cl fp).pg) (fun s H C cl fp => pts_nil)
    (fun s H C cl fp => pe_bm PySem.F.plainAttrs_list PySem.F.slot_list_pop PySem.F.type_list_pop mt_popAt (hx s H C cl fp) (pa_cons (he s H C cl fp).pe pa_nil (hst s H C cl fp)) (hbase s H C cl fp) (hfew s H C cl fp) hline (hst s H C cl fp) rfl) hs) pa_nil hes) (by decide) (by decide) hes rfl), fun {Hs0 H0 Hs H σ ρ r D} R hf o => ?_⟩
  obtain ⟨ds, h1, hf⟩ := bind_some hf
  obtain ⟨hl, hf⟩ := ite_get hf
  obtain ⟨ys, h2, hf⟩ := bind_some hf
  obtain rfl := Option.some.inj hf
  show tLc wi (gName j) tYes (tPop X.K iL te) (own.map (·.2)) σ H (fun x H1 => ∃ p ys, [x] = [V.ref p] ∧ ((SqL X.K H1 p ys ∧ NewT D.rt H1 ys) ∨ (SqT X.K H1 p ys ∧ D.rt (.ref p) H1)))
  refine lcPop hi _ (he X.s_0 (fun _ => none) 0 [] []) hML hMj hj hvs R h1 hl h2 fun Da acc Hs' H' e1 R' hD hn h0 hD' t ne => ?_
  exact ⟨Da, acc, rfl, .inl ⟨sqL_of hD', NewT.of (Hs := Hs0) (H := H0) R'.g t fun v Hs3 H3 g3 d3 => o v Hs3 H3 g3 d3⟩⟩
end
end DL

namespace DL
open PySem PySem.Spec PyProof.Rows L2
/-! ### the law's end -/
def spLaw (K : PySem.W.Frag) : Sp := fun vs H Q _ => ∃ (a : Addr) (ns : List Int), vs = [.ref a] ∧ SqL K H a (ns.map V.int) ∧ ns.length ≤ 63 ∧ ∀ H', Q (.bl true) H'
theorem spLaw_of {K : PySem.W.Frag} {xc : Nat → Addr} {φ : List PyData → Option (Except Nat PyData)} (h : ∀ ns : List Int, ns.length ≤ 63 → φ [.dict (scrK ns)] = some (.ok (.bool true))) : ∀ vs H Q E, spLaw K vs H Q E → spX K 1 xc φ vs H Q E := fun vs H Q E hs => by
  obtain ⟨a, ns, rfl, hS, hl, q⟩ := hs
  refine ⟨rfl, H, _, _, Same.refl _, .cons (.scr hS) .nil, h ns hl, fun v Hs' H' g d => ?_⟩
  cases d
  exact q H'
theorem no_cx {P : Program} {w : World} {H : Hp} {s : Shared} {e : Value} {s' : Shared} (h : L2.CX P w [] H s (fun _ _ _ => False) e s') : False := by
  obtain ⟨_, _, _, _, _, _, _, _, _, _, _, _, z⟩ := h
  exact z

/-! ### what the combinators reckon -/
def mapD (to : Int) (row : List Int) : PyData := .tuple [.int to, .tuple (row.map .int)]
theorem compF_map {tg : PyData → Rho → Option Rho} {c : Rho → Option Bool} {f : Fn} {ρ : Rho} {g : PyData → PyData} : ∀ {ds : List PyData}, (∀ d ∈ ds, ∃ ρ1, tg d ρ = some ρ1 ∧ c ρ1 = some true ∧ f ρ1 = some (g d)) → compF tg c f ρ ds = some (ds.map g)
  | [], _ => rfl
  | d :: ds, h => by
    obtain ⟨ρ1, h1, h2, h3⟩ := h d List.mem_cons_self
    unfold compF
    rw [h1, Option.bind_some, h2, Option.bind_some, if_pos rfl, h3, Option.bind_some, compF_map (fun x hx => h x (List.mem_cons_of_mem _ hx)), Option.bind_some]
    rfl
theorem compF_filter {tg : PyData → Rho → Option Rho} {c : Rho → Option Bool} {f : Fn} {ρ : Rho} {g : PyData → PyData} {p : PyData → Bool} : ∀ {ds : List PyData}, (∀ d ∈ ds, ∃ ρ1, tg d ρ = some ρ1 ∧ c ρ1 = some (p d) ∧ (p d = true → f ρ1 = some (g d))) → compF tg c f ρ ds = some ((ds.filter p).map g)
  | [], _ => rfl
  | d :: ds, h => by
    obtain ⟨ρ1, h1, h2, h3⟩ := h d List.mem_cons_self
    have ih := compF_filter (f := f) (c := c) (tg := tg) (ρ := ρ) (g := g) (p := p) (fun x hx => h x (List.mem_cons_of_mem _ hx))
    unfold compF
    rw [h1, Option.bind_some, h2, Option.bind_some]
    cases hp : p d with
    | true =>
      rw [if_pos rfl, h3 hp, Option.bind_some, ih, Option.bind_some, List.filter_cons_of_pos hp]
      rfl
    | false =>
      rw [if_neg Bool.false_ne_true, ih, List.filter_cons_of_neg (by rw [hp]; exact Bool.false_ne_true)]
/-- a loop whose turns all go on -/
theorem forF_nx {tg : PyData → Rho → Option Rho} {b : Gn} (P : Rho → Prop) : ∀ {ds : List PyData} {ρ : Rho}, (∀ d ∈ ds, ∀ ρ, P ρ → ∃ ρ1 ρ', tg d ρ = some ρ1 ∧ b ρ1 = some (.nx ρ') ∧ P ρ') → P ρ → ∃ ρ', forF tg b ds ρ = some (.nx ρ') ∧ P ρ'
  | [], ρ, _, h => ⟨ρ, rfl, h⟩
  | d :: ds, ρ, h, hp => by
    obtain ⟨ρ1, ρ2, h1, h2, h3⟩ := h d List.mem_cons_self ρ hp
    obtain ⟨ρ', h4, h5⟩ := forF_nx P (fun x hx => h x (List.mem_cons_of_mem _ hx)) h3
    refine ⟨ρ', ?_, h5⟩
    unfold forF
    rw [h1, Option.bind_some, h2, Option.bind_some]
    exact h4
theorem scr_get (ns : List Int) (k : Nat) : (scrK ns)[k]? = (ns[k]?).map fun n => (PyData.int n, PyData.none) := by
  unfold scrK
  rw [List.getElem?_map]
theorem blk_nx {g1 g2 : Gn} {ρ ρ' : Rho} (h : g1 ρ = some (.nx ρ')) : gBlk g1 g2 ρ = g2 ρ' := by
  unfold gBlk
  rw [h]
  rfl
theorem blk_ret {g1 g2 : Gn} {ρ : Rho} {d : PyData} (h : g1 ρ = some (.ret d)) : gBlk g1 g2 ρ = some (.ret d) := by
  unfold gBlk
  rw [h]
  rfl
theorem blk_exc {g1 g2 : Gn} {ρ ρ' : Rho} {c : Nat} (h : g1 ρ = some (.exc c ρ')) : gBlk g1 g2 ρ = some (.exc c ρ') := by
  unfold gBlk
  rw [h]
  rfl
theorem if_t {c : Rho → Option Bool} {g1 g2 : Gn} {ρ : Rho} (h : c ρ = some true) : gIf c g1 g2 ρ = g1 ρ := by
  unfold gIf
  rw [h]
  rfl
theorem if_f {c : Rho → Option Bool} {g1 g2 : Gn} {ρ : Rho} (h : c ρ = some false) : gIf c g1 g2 ρ = g2 ρ := by
  unfold gIf
  rw [h]
  rfl
theorem rgD_zero (n : Nat) : rgD 0 n = (List.range n).map fun (i : Nat) => PyData.int i := by
  unfold rgD
  refine List.map_congr_left fun i _ => ?_
  rw [Int.zero_add]
theorem rgD_mem {lo : Int} {n : Nat} {d : PyData} (h : d ∈ rgD lo n) : ∃ i : Nat, i < n ∧ d = .int (lo + i) := by
  unfold rgD at h
  obtain ⟨i, h1, h2⟩ := List.mem_map.mp h
  exact ⟨i, List.mem_range.mp h1, h2.symm⟩
theorem compF_list {tg : PyData → Rho → Option Rho} {f : Fn} {ρ : Rho} {α : Type} {w : α → PyData} {g : α → PyData} : ∀ {l : List α}, (∀ a ∈ l, ∃ ρ1, tg (w a) ρ = some ρ1 ∧ f ρ1 = some (g a)) → compF tg cYes f ρ (l.map w) = some (l.map g)
  | [], _ => rfl
  | a :: l, h => by
    obtain ⟨ρ1, h1, h2⟩ := h a List.mem_cons_self
    rw [List.map_cons, List.map_cons]
    unfold compF
    rw [h1, Option.bind_some]
    unfold cYes
    rw [Option.bind_some, if_pos rfl, h2, Option.bind_some]
    have ih := compF_list (tg := tg) (f := f) (ρ := ρ) (w := w) (g := g) (fun x hx => h x (List.mem_cons_of_mem _ hx))
    unfold cYes at ih
    rw [ih, Option.bind_some]
theorem compF_listF {tg : PyData → Rho → Option Rho} {c : Rho → Option Bool} {f : Fn} {ρ : Rho} {α : Type} {w : α → PyData} {g : α → PyData} {p : α → Bool} : ∀ {l : List α}, (∀ a ∈ l, ∃ ρ1, tg (w a) ρ = some ρ1 ∧ c ρ1 = some (p a) ∧ (p a = true → f ρ1 = some (g a))) → compF tg c f ρ (l.map w) = some ((l.filter p).map g)
  | [], _ => rfl
  | a :: l, h => by
    obtain ⟨ρ1, h1, h2, h3⟩ := h a List.mem_cons_self
    have ih := compF_listF (tg := tg) (c := c) (f := f) (ρ := ρ) (w := w) (g := g) (p := p) (fun x hx => h x (List.mem_cons_of_mem _ hx))
    rw [List.map_cons]
    unfold compF
    rw [h1, Option.bind_some, h2, Option.bind_some]
    cases hp : p a with
    | true => rw [if_pos rfl, h3 hp, Option.bind_some, ih, Option.bind_some, List.filter_cons_of_pos hp]; rfl
    | false => rw [if_neg Bool.false_ne_true, ih, List.filter_cons_of_neg (by rw [hp]; exact Bool.false_ne_true)]
/-- [.. for x in range(n)] -/
theorem lc_rg {vs : List Nat} {j : Nat} {fn f : Fn} {ρ : Rho} {n : Int} {g : Nat → PyData} (h1 : fn ρ = some (.int n)) (hn : -1000000 ≤ n ∧ n ≤ 1000000) (h : ∀ i : Nat, (i : Int) < n → f ((wipeR ρ vs).set j (some (.int i))) = some (g i)) :
    fLc vs (iR1 fn) (hName j) cYes f ρ = some ((List.range n.toNat).map g) := by
  have hb : B62 n := ⟨by omega, by omega⟩
  unfold fLc iR1
  rw [h1, Option.bind_some]
  show (if B62 n then some (rgD 0 n.toNat) else none).bind _ = _
  rw [if_pos hb, Option.bind_some, if_pos (by rw [rgD_len]; omega), rgD_zero]
  refine compF_list fun i hi => ⟨_, rfl, h i ?_⟩
  have := List.mem_range.mp hi
  omega
theorem lc_rgF {vs : List Nat} {j : Nat} {fn f : Fn} {c : Rho → Option Bool} {ρ : Rho} {n : Int} {g : Nat → PyData} {p : Nat → Bool} (h1 : fn ρ = some (.int n)) (hn : -1000000 ≤ n ∧ n ≤ 1000000) (h : ∀ i : Nat, (i : Int) < n → c ((wipeR ρ vs).set j (some (.int i))) = some (p i) ∧ (p i = true → f ((wipeR ρ vs).set j (some (.int i))) = some (g i))) :
    fLc vs (iR1 fn) (hName j) c f ρ = some (((List.range n.toNat).filter p).map g) := by
  have hb : B62 n := ⟨by omega, by omega⟩
  unfold fLc iR1
  rw [h1, Option.bind_some]
  show (if B62 n then some (rgD 0 n.toNat) else none).bind _ = _
  rw [if_pos hb, Option.bind_some, if_pos (by rw [rgD_len]; omega), rgD_zero]
  refine compF_listF fun i hi => ⟨_, rfl, h i ?_⟩
  have := List.mem_range.mp hi
  omega
/-- [.. for x in a tuple or list of things] -/
theorem lc_sq {vs : List Nat} {j : Nat} {fs f : Fn} {ρ : Rho} {α : Type} {w : α → PyData} {l : List α} {g : α → PyData} {d : PyData} (h1 : fs ρ = some d) (hd : seqD d = some (l.map w)) (hl : l.length ≤ 1000000) (h : ∀ a ∈ l, f ((wipeR ρ vs).set j (some (w a))) = some (g a)) :
    fLc vs (iSq fs) (hName j) cYes f ρ = some (l.map g) := by
  unfold fLc iSq
  rw [h1, Option.bind_some, hd, Option.bind_some, if_pos (by rw [List.length_map]; exact hl)]
  exact compF_list fun a ha => ⟨_, rfl, h a ha⟩
theorem lc_sqF {vs : List Nat} {j : Nat} {fs f : Fn} {c : Rho → Option Bool} {ρ : Rho} {α : Type} {w : α → PyData} {l : List α} {g : α → PyData} {p : α → Bool} {d : PyData} (h1 : fs ρ = some d) (hd : seqD d = some (l.map w)) (hl : l.length ≤ 1000000) (h : ∀ a ∈ l, c ((wipeR ρ vs).set j (some (w a))) = some (p a) ∧ (p a = true → f ((wipeR ρ vs).set j (some (w a))) = some (g a))) :
    fLc vs (iSq fs) (hName j) c f ρ = some ((l.filter p).map g) := by
  unfold fLc iSq
  rw [h1, Option.bind_some, hd, Option.bind_some, if_pos (by rw [List.length_map]; exact hl)]
  exact compF_listF fun a ha => ⟨_, rfl, h a ha⟩
theorem erase_map {α β : Type} (f : α → β) : ∀ (L : List α) (k : Nat), (L.map f).eraseIdx k = (L.eraseIdx k).map f
  | [], _ => rfl
  | _ :: _, 0 => rfl
  | a :: L, k + 1 => by
    show f a :: (L.map f).eraseIdx k = f a :: (L.eraseIdx k).map f
    rw [erase_map f L k]
/-- what popping leaves and gives -/
theorem popF_ok {j iL : Nat} {fe : Fn} (hne : j ≠ iL) : ∀ {ds : List PyData} {ρ : Rho} {L : List Int}, ρ[iL]? = some (some (.list (L.map PyData.int))) → ds.length ≤ L.length → L.length ≤ 1000000 →
    (∀ (i : Nat) d, ds[i]? = some d → ∀ L' : List Int, L'.length = L.length - i → ∃ k : Int, fe ((ρ.set iL (some (.list (L'.map PyData.int)))).set j (some d)) = some (.int k) ∧ 0 ≤ k ∧ k < L'.length) →
    ∃ ys rest : List Int, popF j iL fe ds ρ = some (ys.map PyData.int) ∧ ys.length = ds.length ∧ (ys ++ rest).Perm L
  | [], ρ, L, _, _, _, _ => ⟨[], L, rfl, rfl, List.Perm.refl _⟩
  | d :: ds, ρ, L, hL, hlen, hz, h => by
    have hi : iL < ρ.length := (List.getElem?_eq_some_iff.mp hL).1
    have e0 : ρ.set iL (some (.list (L.map PyData.int))) = ρ := by
      refine List.ext_getElem? fun i => ?_
      by_cases hii : iL = i
      · subst hii
        rw [List.getElem?_set_self hi, hL]
      · rw [List.getElem?_set_ne hii]
    obtain ⟨k, hk, k0, k1⟩ := h 0 d rfl L (by omega)
    rw [e0] at hk
    have hB : B63 k := ⟨by omega, by omega⟩
    have hget : lstAt iL (ρ.set j (some d)) = some (L.map PyData.int) := by
      unfold lstAt
      rw [List.getElem?_set_ne hne, hL]
    have hix : seqIndex? k (L.map PyData.int).length = some k.toNat := PySem.StrLaws.seqIndex_nonneg k0 (by rw [List.length_map]; exact k1)
    have hkl : k.toNat < L.length := by omega
    have hat : (L.map PyData.int)[k.toNat]? = some (.int L[k.toNat]) := by
      rw [List.getElem?_map, List.getElem?_eq_getElem hkl]
      rfl
    have hlen' : ds.length + 1 ≤ L.length := hlen
    have el : (L.eraseIdx k.toNat).length = L.length - 1 := List.length_eraseIdx_of_lt hkl
    obtain ⟨ys, rest, h1, h2, h3⟩ := popF_ok hne (ds := ds) (ρ := ρ.set iL (some (.list ((L.eraseIdx k.toNat).map PyData.int)))) (L := L.eraseIdx k.toNat) (List.getElem?_set_self hi) (by omega) (by omega) (fun i d' hd' L' hL' => by
      rw [List.set_set]
      exact h (i + 1) d' hd' L' (by omega))
    refine ⟨L[k.toNat] :: ys, rest, ?_, by rw [List.length_cons, List.length_cons, h2], ?_⟩
    · unfold popF
      rw [hget, Option.bind_some, hk, Option.bind_some]
      show (if B63 k then (seqIndex? k (L.map PyData.int).length).bind _ else none) = _
      rw [if_pos hB, hix, Option.bind_some, hat, Option.bind_some]
      have em : (L.map PyData.int).eraseIdx k.toNat = (L.eraseIdx k.toNat).map PyData.int := by
        rw [erase_map]
      rw [em, h1, Option.bind_some]
      rfl
    · rw [List.cons_append]
      refine (List.Perm.cons _ h3).trans ?_
      have : (L[k.toNat] :: L.eraseIdx k.toNat).Perm L := by
        have e1 : L = L.take k.toNat ++ L[k.toNat] :: L.drop (k.toNat + 1) := by
          rw [← List.drop_eq_getElem_cons hkl, List.take_append_drop]
        have e2 : L.eraseIdx k.toNat = L.take k.toNat ++ L.drop (k.toNat + 1) := List.eraseIdx_eq_take_drop_succ L k.toNat
        rw [e2]
        refine List.Perm.trans ?_ (List.Perm.of_eq e1.symm)
        exact List.perm_middle.symm
      exact this
theorem def_ret {n N : Nat} {g : Gn} {ds : List PyData} {d : PyData} (hl : ds.length = n) (h : g (ds.map some ++ List.replicate (N - ds.length) none) = some (.ret d)) : defN n N g ds = some (.ok d) := by
  unfold defN runDef
  rw [if_pos hl, h]
theorem def_nx {n N : Nat} {g : Gn} {ds : List PyData} {ρ : Rho} (hl : ds.length = n) (h : g (ds.map some ++ List.replicate (N - ds.length) none) = some (.nx ρ)) : defN n N g ds = some (.ok .none) := by
  unfold defN runDef
  rw [if_pos hl, h]
theorem def_exc {n N : Nat} {g : Gn} {ds : List PyData} {ρ : Rho} {c : Nat} (hl : ds.length = n) (h : g (ds.map some ++ List.replicate (N - ds.length) none) = some (.exc c ρ)) : defN n N g ds = some (.error c) := by
  unfold defN runDef
  rw [if_pos hl, h]
theorem bi1 {g : List PyData → Option PyData} {f : Fn} {ρ : Rho} {d : PyData} (h : f ρ = some d) : fBi g (fCons f fNil) ρ = g [d] := by
  unfold fBi fCons fNil
  rw [h]
  rfl
theorem fFr_of {fl : Rho → Option (List PyData)} {ρ : Rho} {l : List PyData} (h : fl ρ = some l) : fFr fl ρ = some (.list l) := by
  unfold fFr
  rw [h]
  rfl
end DL

namespace DL
open PySem PySem.Spec PyProof.Rows L2
section
variable {K : PySem.W.Frag} {X : Cx} {M : List Nat} {xc : Nat → Addr} {W W' : WX} {Hs0 H0 Hs H Hs1 : Hp} {D : Ends}
/-! ### try, one clause without a name -/
theorem outOk_w {r : Out} (hne : ∀ c ρ, r ≠ .exc c ρ) (o : OutOk K xc M Hs0 H0 Hs W D r) : OutOk K xc M Hs0 H0 Hs W' D r := by
  cases r with
  | exc c ρ => exact absurd rfl (hne c ρ)
  | nx ρ => exact o
  | ret d => exact o
  | brk ρ => exact o
  | ct ρ => exact o
@[simp] def noExc : Out → Option Out
  | .exc _ _ => none
  | r => some r
theorem noExc_some {r r' : Out} (h : noExc r = some r') : r' = r ∧ ∀ c ρ, r ≠ .exc c ρ := by
  cases r with
  | exc c ρ => cases h
  | _ => cases h; exact ⟨rfl, fun _ _ z => by cases z⟩
@[simp] def gTry (c : Nat) (gb gs : Gn) : Gn := fun ρ => (gb ρ).bind fun r => match r with
  | .exc c' ρ' => if c' = c then (gs ρ').bind noExc else none
  | r => some r
variable {body suite : List Stmt} {b₀ : Stmt} {np pos pos' : Pos} {x : Str} {C : Value} {tb : WX → TS} {ts : TS} {gb gs : Gn}
theorem sd_tryOnly (c : Nat) (hc : Names X x C) (tk : Takes X W) (hxm : PySem.W.exmOne X.K (.ref (xc c)) C = some true)
    (hb : ∀ (W : WX) (pn : List (Addr × Obj)) (xe : Value → Shared → Prop), Takes (X.tr pn xe) W → SS K xc (X.tr pn xe) M W body (tb W) gb)
    (hsu : ∀ (a : Addr) (oe : Obj) (pn : List (Addr × Obj)), SS K xc (X.suite a ((a, oe) :: pn)) M (fun _ _ _ _ => False) (b₀ :: suite) ts gs)
    (hs : X.stack = X.env :: X.outer := by rfl) (hf : X.env.frame = some X.env.locals := by rfl) :
    SD K xc X M W (.Try body [.ExceptHandler (some (.Name x np)) none (b₀ :: suite) pos'] [] [] pos) (fun D σ H => tb (wOnly X.K C (fun _ _ _ => ts) W D) D σ H) (gTry c gb gs) :=
  ⟨ps_try_only (ts := fun _ _ _ => ts) hs hf hc tk (fun W pn xe t _ => (hb W pn xe t).ps) (fun a oe cls d pn _ _ => (hsu a oe pn).ps), fun {Hs0 H0 Hs H σ ρ r D} R hf' o => by
    obtain ⟨r1, h1, h2⟩ := bind_some hf'
    refine (hb (wOnly X.K C (fun _ _ _ => ts) W D) [] (fun _ _ => True) (fun _ _ _ => trivial)).sm R h1 ?_
    cases r1 with
    | exc c' ρ' =>
      obtain ⟨hcc, h5⟩ := ite_get h2
      subst hcc
      obtain ⟨r2, h3, h4⟩ := bind_some h5
      obtain ⟨rfl, hne⟩ := noExc_some h4
      exact fun Hs' H' σ' e' R' => ⟨true, hxm, fun _ a _ => (hsu 0 ⟨.none, none, .fields #[], #[]⟩ []).sm R' h3 (outOk_w hne (o.up e')), fun z => by cases z⟩
    | nx ρ => obtain rfl := Option.some.inj h2; exact o
    | ret d => obtain rfl := Option.some.inj h2; exact o
    | brk ρ => obtain rfl := Option.some.inj h2; exact o
    | ct ρ => obtain rfl := Option.some.inj h2; exact o⟩

/-! ### try, one clause with a name: the suite asks isinstance of it -/
structure SX (K : PySem.W.Frag) (xc : Nat → Addr) (X : Cx) (M : List Nat) (i c : Nat) (st : List Stmt) (t : Addr → Value → Option Addr → TS) (g : Gn) : Prop where
  ps : ∀ (a : Addr) (oe : Obj) (cls : Value) (d : Option Addr) (pn : List (Addr × Obj)), Zc cls d oe → (∃ vs, oe.data = .fields vs) → PSs (X.suite a ((a, oe) :: pn)) st (t a cls d)
  sm : ∀ {Hs0 H0 Hs H : Hp} {σ : L2.St} {ρ : Rho} {r : Out} {D : Ends} (a : Addr), SR K M Hs0 H0 Hs H σ ρ → ρ[i]? = some none → σ[i]? = some (some (.ref a)) → g ρ = some r → OutOk K xc M Hs0 H0 Hs (fun _ _ _ _ => False) D r → t a (.ref (xc c)) none D σ H
@[simp] def isN : Option (Option PyData) → Bool
  | some none => true
  | _ => false
theorem isN_some {o : Option (Option PyData)} (h : isN o = true) : o = some none := by
  cases o with
  | none => cases h
  | some a =>
    cases a with
    | none => rfl
    | some b => cases h
@[simp] def keepN (i : Nat) : Out → Option Out
  | .nx ρ => if isN ρ[i]? = true then some (.nx ρ) else none
  | _ => none
@[simp] def gTryAs (c i : Nat) (gb gs : Gn) : Gn := fun ρ => (gb ρ).bind fun r => match r with
  | .exc c' ρ' => if c' = c then (if isN ρ'[i]? = true then (gs ρ').bind (keepN i) else none) else none
  | r => some r
theorem SR.none {σ : L2.St} {ρ : Rho} {i : Nat} (R : SR K M Hs0 H0 Hs H σ ρ) (h : ρ[i]? = some none) (y : Option V) : SR K M Hs0 H0 Hs H (σ.set i y) ρ := by
  have ne : ∀ {j : Nat} {d : PyData}, ρ[j]? = some (some d) → i ≠ j := fun {j d} e z => by subst z; rw [h] at e; cases e
  refine ⟨R.g, by rw [List.length_set]; exact R.len, fun j d e m => ?_, fun j d e m => ?_, fun j k dj dk p e1 e2 m1 m2 s1 s2 => ?_⟩
  · obtain ⟨v, a, b⟩ := R.frz j d e m
    exact ⟨v, by rw [List.getElem?_set_ne (ne e)]; exact a, b⟩
  · obtain ⟨p, xs, ds, a, b, c⟩ := R.own j d e m
    exact ⟨p, xs, ds, a, by rw [List.getElem?_set_ne (ne e)]; exact b, c⟩
  · rw [List.getElem?_set_ne (ne e1)] at s1
    rw [List.getElem?_set_ne (ne e2)] at s2
    exact R.sep j k dj dk p e1 e2 m1 m2 s1 s2
theorem sd_tryAs (c i : Nat) {n : Str} {tx : Addr → Value → Option Addr → TS} (hN : X.N.Nodup) (hc : Names X x C) (tk : Takes X W) (hxm : PySem.W.exmOne X.K (.ref (xc c)) C = some true)
    (hb : ∀ (W : WX) (pn : List (Addr × Obj)) (xe : Value → Shared → Prop), Takes (X.tr pn xe) W → SS K xc (X.tr pn xe) M W body (tb W) gb)
    (hsu : SX K xc X M i c (b₀ :: suite) tx gs)
    (hi : X.N[i]? = some n := by rfl) (hln : X.env.kindOf n = some .local := by rfl) (hs : X.stack = X.env :: X.outer := by rfl) (hf : X.env.frame = some X.env.locals := by rfl) :
    SD K xc X M W (.Try body [.ExceptHandler (some (.Name x np)) (some n) (b₀ :: suite) pos'] [] [] pos) (fun D σ H => tb (wAs X.K C i tx W D) D σ H) (gTryAs c i gb gs) :=
  ⟨ps_try_as (ts := tx) hs hf hN hi hln hc tk (fun W pn xe t _ => (hb W pn xe t).ps) hsu.ps, fun {Hs0 H0 Hs H σ ρ r D} R hf' o => by
    obtain ⟨r1, h1, h2⟩ := bind_some hf'
    refine (hb (wAs X.K C i tx W D) [] (fun _ _ => True) (fun _ _ _ => trivial)).sm R h1 ?_
    cases r1 with
    | exc c' ρ' =>
      obtain ⟨hcc, h5⟩ := ite_get h2
      subst hcc
      obtain ⟨hn, h6⟩ := ite_get h5
      replace hn := isN_some hn
      obtain ⟨r2, h3, h4⟩ := bind_some h6
      refine fun Hs' H' σ' e' R' => ⟨true, hxm, fun _ a _ => ?_, fun z => by cases z⟩
      have hlt : i < σ'.length := by rw [R'.len]; exact (List.getElem?_eq_some_iff.mp hn).1
      refine hsu.sm a (R'.none hn (some (.ref a))) hn (List.getElem?_set_self hlt) h3 ?_
      cases r2 with
      | nx ρ2 =>
        obtain ⟨hn2, h7⟩ := ite_get h4
        replace hn2 := isN_some hn2
        obtain rfl := Option.some.inj h7
        exact fun Hs2 H2 σ2 e2 R2 => o Hs2 H2 _ (e'.trans e2) (R2.none hn2 none)
      | _ => cases h4
    | nx ρ => obtain rfl := Option.some.inj h2; exact o
    | ret d => obtain rfl := Option.some.inj h2; exact o
    | brk ρ => obtain rfl := Option.some.inj h2; exact o
    | ct ρ => obtain rfl := Option.some.inj h2; exact o⟩
/-- isinstance of the caught one, one class or a tuple of such -/
def rE1 (K : PySem.W.Frag) (cls : Value) (d : Option Addr) (a : Addr) : List V → Hp → VK → Prop := fun xs H Q => ∃ E, cls = .ref E ∧ d = none ∧ ExcC K E ∧ rIsE K E a xs H Q
def rE2 (K : PySem.W.Frag) (cls : Value) (d : Option Addr) (a : Addr) : List V → Hp → VK → Prop := fun xs H Q => ∃ (E tp : Addr) (cs : List V) (us : List Value) (b : Bool), cls = .ref E ∧ d = none ∧ ExcC K E ∧ xs = [.ref a, .ref tp] ∧ H tp = some (.tup cs) ∧ Paired ClsV cs us ∧ PySem.W.kitAny K (.ref E) us = some b ∧ Q (.bl b) H
theorem inst_of {a E : Addr} {oe : Obj} {h : Heap} (hz : Zc (.ref E) none oe) (hf : ∃ vs, oe.data = .fields vs) (hget : h.get? a = some oe) : PySem.W.InstAt h a oe E none := by
  obtain ⟨vs, hv⟩ := hf
  obtain ⟨oc, od, oda, osl⟩ := oe
  obtain ⟨h1, h2⟩ := hz
  dsimp only at h1 h2 hv
  subst h1 h2 hv
  exact ⟨hget, rfl, rfl, trivial⟩
theorem call_e1 {a : Addr} {oe : Obj} {cls : Value} {d : Option Addr} {pn : List (Addr × Obj)} (hz : Zc cls d oe) (hf : ∃ vs, oe.data = .fields vs) : CallR (X.suite a ((a, oe) :: pn)) (.builtin "isinstance") (rE1 X.K cls d a) := by
  intro pins s σ H xs us Q I r h
  obtain ⟨E, rfl, rfl, hE, h⟩ := h
  exact call_isE hE hz hf pins s σ H xs us Q I r h
theorem call_e2 {a : Addr} {oe : Obj} {cls : Value} {d : Option Addr} {pn : List (Addr × Obj)} (hz : Zc cls d oe) (hf : ∃ vs, oe.data = .fields vs) : CallR (X.suite a ((a, oe) :: pn)) (.builtin "isinstance") (rE2 X.K cls d a) := by
  intro pins s σ H xs us Q I r h
  obtain ⟨E, tp, cs, ws, b, rfl, rfl, hE, rfl, hT, k, e, q⟩ := h
  obtain ⟨u1, u2, rfl, r1, r2⟩ := vals2 r
  cases (show u2 = Value.ref tp from r2)
  cases (show u1 = Value.ref a from r1)
  obtain ⟨_, its, rv, o, h1, h2, n, h3⟩ := (show ObjOk X.prog X.w H s.heap tp (.tup cs) from I.hok tp _ hT)
  have e3 := ClsV.all k rv
  subst e3
  obtain ⟨oc, od, dt, sl⟩ := o
  simp only at h2 h3
  subst h2 h3
  obtain ⟨hget, _⟩ := I.pin (a, oe) (List.mem_append.mpr (.inl List.mem_cons_self))
  exact PySem.W.kia_tup (PySem.W.handS_kitx_exc hE.hg hE.hk hE.hs hE.hd hE.ha hE.hn hE.ht hE.hm) I.kIn (inst_of hz hf hget) h1 e (fun z => nomatch z) fun tk => ⟨.bl b, H, I.tok tk, rfl, q⟩
def t1E (K : PySem.W.Frag) (cls : Value) (d : Option Addr) (a : Addr) (i : Nat) (v : V) : TE := tCB (rE1 K cls d a) (tCons (tVar i) (tCons (tC v) tNil))
def t2E (K : PySem.W.Frag) (cls : Value) (d : Option Addr) (a : Addr) (i : Nat) (v1 v2 : V) : TE := tCB (rE2 K cls d a) (tCons (tVar i) (tCons (tTup (tCons (tC v1) (tCons (tC v2) tNil))) tNil))
/-- what the class raised, cr, must say to the three questions: cA, c1, c2 -/
structure AskOk (K : PySem.W.Frag) (xc : Nat → Addr) (cr cA c1 c2 : Nat) : Prop where
  ex : ExcC K (xc cr)
  yA : PySem.W.kitOne K (.ref (xc cr)) (.ref (xc cA)) = some true
  no : PySem.W.kitAny K (.ref (xc cr)) [.ref (xc c1), .ref (xc c2)] = some false
  yZ : PySem.W.kitOne K (.ref (xc cr)) (.type "ValueError") = some true
theorem t1E_sm {cr i : Nat} {a : Addr} {v : V} {u : Value} {b : Bool} {σ : L2.St} {Q : VK} (hE : ExcC K (xc cr)) (hσ : σ[i]? = some (some (.ref a))) (hv : ∀ w, RelV v w → w = u) (hk : PySem.W.kitOne K (.ref (xc cr)) u = some b) (q : Q (.bl b) H) : t1E K (.ref (xc cr)) none a i v σ H Q :=
  ⟨_, hσ, xc cr, rfl, rfl, hE, v, u, b, rfl, fun w r => (hv w r), hk, q⟩
theorem t2E_sm {cr i c1 c2 : Nat} {a : Addr} {b : Bool} {σ : L2.St} {Q : VK} (hE : ExcC K (xc cr)) (hσ : σ[i]? = some (some (.ref a))) (hk : PySem.W.kitAny K (.ref (xc cr)) [.ref (xc c1), .ref (xc c2)] = some b) (q : ∀ H', Same H H' → Q (.bl b) H') : t2E K (.ref (xc cr)) none a i (.ref (xc c1)) (.ref (xc c2)) σ H Q :=
  ⟨_, hσ, szM (n := 2) (by decide), fun p hp => ⟨xc cr, p, _, _, b, rfl, rfl, hE, rfl, upd_same, .cons (.own _) (.cons (.own _) .nil), hk, q _ (same_new hp)⟩⟩
theorem askV_sm {cr cA c1 c2 i : Nat} {a : Addr} {σ : L2.St} {Q : VK} (A : AskOk K xc cr cA c1 c2) (hσ : σ[i]? = some (some (.ref a))) (q : ∀ H', Same H H' → Q (.bl true) H') :
    tAndV (t1E K (.ref (xc cr)) none a i (.ref (xc cA))) (tAndV (tNotV (t2E K (.ref (xc cr)) none a i (.ref (xc c1)) (.ref (xc c2)))) (t1E K (.ref (xc cr)) none a i (.ty "ValueError"))) σ H Q :=
  t1E_sm A.ex hσ (u := .ref (xc cA)) (fun w r => r) A.yA ⟨true, rfl, by
    rw [if_pos rfl]
    exact t2E_sm A.ex hσ A.no fun H1 e1 => ⟨false, rfl, true, rfl, by
      rw [if_pos rfl]
      exact t1E_sm A.ex hσ (u := .type "ValueError") (fun w r => r) A.yZ (q H1 e1)⟩⟩
theorem pe_e1 {cls : Value} {d : Option Addr} {a : Addr} {oe : Obj} {pn : List (Addr × Obj)} {i cA : Nat} {n A : Str} {p1 p2 p3 : Pos} (hz : Zc cls d oe) (hf : ∃ vs, oe.data = .fields vs) (hm : X.mg "isinstance" = none) (hA : X.mg A = some (.ref (xc cA)))
    (hN : X.N[i]? = some n := by rfl) (hv : Vis X.env.scope n := by first | exact Or.inl rfl | exact Or.inr (Or.inl rfl) | exact Or.inr (Or.inr rfl)) (hg : Gl X "isinstance" := by rfl) (hgA : Gl X A := by rfl)
    (hd : (n == ("__debug__" : Str)) = false := by decide) (hcd : (n == ("__classdict__" : Str)) = false := by decide) (hdA : (A == ("__debug__" : Str)) = false := by decide)
    (hs1 : starEach [.Name n p2, .Name A p3] X.env = (false, eval (.Name n p2) X.env) :: starEach [.Name A p3] X.env := by rfl) (hs2 : starEach [.Name A p3] X.env = (false, eval (.Name A p3) X.env) :: starEach [] X.env := by rfl) (hpl : (backTo pos (starEach [.Name A p3] X.env)).any (·.1) = false := by rfl) :
    PE (X.suite a ((a, oe) :: pn)) (.Call (.Name "isinstance" p1) [.Name n p2, .Name A p3] [] pos) (t1E X.K cls d a i (.ref (xc cA))) :=
  pe_callB (X := X.suite a ((a, oe) :: pn)) (call_e1 hz hf) hg hm boot_isinstance (pa_cons (pe_var hN hv hd hcd) (pa_cons (pe_glob hgA hA rfl hdA) pa_nil hs2) hs1) (by decide) (by decide) hs1 hpl
theorem pe_eZ {cls : Value} {d : Option Addr} {a : Addr} {oe : Obj} {pn : List (Addr × Obj)} {i : Nat} {n : Str} {p1 p2 p3 : Pos} (hz : Zc cls d oe) (hf : ∃ vs, oe.data = .fields vs) (hm : X.mg "isinstance" = none) (hZ : X.mg "ValueError" = none)
    (hN : X.N[i]? = some n := by rfl) (hv : Vis X.env.scope n := by first | exact Or.inl rfl | exact Or.inr (Or.inl rfl) | exact Or.inr (Or.inr rfl)) (hg : Gl X "isinstance" := by rfl) (hgA : Gl X "ValueError" := by rfl)
    (hd : (n == ("__debug__" : Str)) = false := by decide) (hcd : (n == ("__classdict__" : Str)) = false := by decide)
    (hs1 : starEach [.Name n p2, .Name "ValueError" p3] X.env = (false, eval (.Name n p2) X.env) :: starEach [.Name "ValueError" p3] X.env := by rfl) (hs2 : starEach [.Name "ValueError" p3] X.env = (false, eval (.Name "ValueError" p3) X.env) :: starEach [] X.env := by rfl) (hpl : (backTo pos (starEach [.Name "ValueError" p3] X.env)).any (·.1) = false := by rfl) :
    PE (X.suite a ((a, oe) :: pn)) (.Call (.Name "isinstance" p1) [.Name n p2, .Name "ValueError" p3] [] pos) (t1E X.K cls d a i (.ty "ValueError")) :=
  pe_callB (X := X.suite a ((a, oe) :: pn)) (call_e1 hz hf) hg hm boot_isinstance (pa_cons (pe_var hN hv hd hcd) (pa_cons (pe_bltn (u := .type "ValueError") hgA hZ rfl rfl (by decide) (by decide)) pa_nil hs2) hs1) (by decide) (by decide) hs1 hpl
theorem pe_e2 {cls : Value} {d : Option Addr} {a : Addr} {oe : Obj} {pn : List (Addr × Obj)} {i c1 c2 k : Nat} {n B1 B2 : Str} {p1 p2 p3 p4 p5 : Pos} (hz : Zc cls d oe) (hf : ∃ vs, oe.data = .fields vs) (hm : X.mg "isinstance" = none) (hA : X.mg B1 = some (.ref (xc c1))) (hB : X.mg B2 = some (.ref (xc c2)))
    (hN : X.N[i]? = some n := by rfl) (hv : Vis X.env.scope n := by first | exact Or.inl rfl | exact Or.inr (Or.inl rfl) | exact Or.inr (Or.inr rfl)) (hg : Gl X "isinstance" := by rfl) (hgA : Gl X B1 := by rfl) (hgB : Gl X B2 := by rfl)
    (hd : (n == ("__debug__" : Str)) = false := by decide) (hcd : (n == ("__classdict__" : Str)) = false := by decide) (hdA : (B1 == ("__debug__" : Str)) = false := by decide) (hdB : (B2 == ("__debug__" : Str)) = false := by decide)
    (hs1 : starEach [.Name n p2, .Tuple [.Name B1 p3, .Name B2 p4] k p5] X.env = (false, eval (.Name n p2) X.env) :: starEach [.Tuple [.Name B1 p3, .Name B2 p4] k p5] X.env := by rfl) (hs2 : starEach [.Tuple [.Name B1 p3, .Name B2 p4] k p5] X.env = (false, eval (.Tuple [.Name B1 p3, .Name B2 p4] k p5) X.env) :: starEach [] X.env := by rfl) (hpl : (backTo pos (starEach [.Tuple [.Name B1 p3, .Name B2 p4] k p5] X.env)).any (·.1) = false := by rfl)
    (hs3 : starEach [.Name B1 p3, .Name B2 p4] X.env = (false, eval (.Name B1 p3) X.env) :: starEach [.Name B2 p4] X.env := by rfl) (hs4 : starEach [.Name B2 p4] X.env = (false, eval (.Name B2 p4) X.env) :: starEach [] X.env := by rfl) :
    PE (X.suite a ((a, oe) :: pn)) (.Call (.Name "isinstance" p1) [.Name n p2, .Tuple [.Name B1 p3, .Name B2 p4] k p5] [] pos) (t2E X.K cls d a i (.ref (xc c1)) (.ref (xc c2))) :=
  pe_callB (X := X.suite a ((a, oe) :: pn)) (call_e2 hz hf) hg hm boot_isinstance (pa_cons (pe_var hN hv hd hcd) (pa_cons (pe_tup (pa_cons (pe_glob hgA hA rfl hdA) (pa_cons (pe_glob hgB hB rfl hdB) pa_nil hs4) hs3)) pa_nil hs2) hs1) (by decide) (by decide) hs1 hpl
/-- told = the three questions -/
abbrev tAsk (K : PySem.W.Frag) (xc : Nat → Addr) (i cA c1 c2 : Nat) (cls : Value) (d : Option Addr) (a : Addr) : TE := tAndV (t1E K cls d a i (.ref (xc cA))) (tAndV (tNotV (t2E K cls d a i (.ref (xc c1)) (.ref (xc c2)))) (t1E K cls d a i (.ty "ValueError")))
theorem sx_set {i cr cA c1 c2 : Nat} (j : Nat) {y : Str} {B : Expr} (A : AskOk K xc cr cA c1 c2) (hN : X.N.Nodup) (hB : ∀ (a : Addr) (oe : Obj) (cls : Value) (d : Option Addr) (pn : List (Addr × Obj)), Zc cls d oe → (∃ vs, oe.data = .fields vs) → PE (X.suite a ((a, oe) :: pn)) B (tAsk X.K xc i cA c1 c2 cls d a))
    (hj : X.N[j]? = some y := by rfl) (hx : Loc X.env.scope y := by first | exact Or.inl rfl | exact Or.inr rfl) (hM : M.contains j = false := by rfl) (hK : X.K = K := by rfl)
    (hs : swapsWith B (some (.Name y pos')) pos.line X.env = pure false := by rfl) (hf : X.fn y = true ∨ X.env.scope.names.lookup y = some .local := by first | exact .inl rfl | exact .inr rfl) :
    SX K xc X M i cr [.Assign [.Name y pos'] B pos] (fun a cls d => tAsg (tAsk K xc i cA c1 c2 cls d a) (gName j)) (gAsg (fC (.bool true)) (hName j)) := by
  subst hK
  refine ⟨fun a oe cls d pn hz hv => pss_one (ps_set (X := X.suite a ((a, oe) :: pn)) hN hj hx (hB a oe cls d pn hz hv) hs hf), fun {Hs0 H0 Hs H σ ρ r D} a R hn hσ hg o => ?_⟩
  cases hg
  refine askV_sm A hσ fun H1 e1 => ?_
  exact (gd_name (X := X) (pos := pos) j hN hj hx hM hf).sm (R.same e1) (.bl true) rfl fun σ' R' _ => o Hs H1 σ' (Same.refl _) R'
/-- if the three questions: y = None -/
theorem ask_t {i cr cA c1 c2 : Nat} {a : Addr} {σ : L2.St} {Q : Bool → Hp → Prop} (A : AskOk K xc cr cA c1 c2) (hσ : σ[i]? = some (some (.ref a))) (q : ∀ H', Same H H' → Q true H') :
    tAnd (fun σ H Q => t1E K (.ref (xc cr)) none a i (.ref (xc cA)) σ H fun x H' => ∃ k, TruV K x H' k ∧ Q k H') (tAnd (tNot (fun σ H Q => t2E K (.ref (xc cr)) none a i (.ref (xc c1)) (.ref (xc c2)) σ H fun x H' => ∃ k, TruV K x H' k ∧ Q k H')) (fun σ H Q => t1E K (.ref (xc cr)) none a i (.ty "ValueError") σ H fun x H' => ∃ k, TruV K x H' k ∧ Q k H')) σ H Q :=
  t1E_sm A.ex hσ (u := .ref (xc cA)) (fun w r => r) A.yA ⟨true, rfl, by
    show (if true = true then _ else _)
    rw [if_pos rfl]
    exact t2E_sm A.ex hσ A.no fun H1 e1 => ⟨false, rfl, by
      show (if true = true then _ else _)
      rw [if_pos rfl]
      exact t1E_sm A.ex hσ (u := .type "ValueError") (fun w r => r) A.yZ ⟨true, rfl, q H1 e1⟩⟩⟩
abbrev tAskT (K : PySem.W.Frag) (xc : Nat → Addr) (i cA c1 c2 : Nat) (cls : Value) (d : Option Addr) (a : Addr) : TT := tAnd (fun σ H Q => t1E K cls d a i (.ref (xc cA)) σ H fun x H' => ∃ k, TruV K x H' k ∧ Q k H') (tAnd (tNot (fun σ H Q => t2E K cls d a i (.ref (xc c1)) (.ref (xc c2)) σ H fun x H' => ∃ k, TruV K x H' k ∧ Q k H')) (fun σ H Q => t1E K cls d a i (.ty "ValueError") σ H fun x H' => ∃ k, TruV K x H' k ∧ Q k H'))
theorem sx_if {i cr cA c1 c2 : Nat} {B : Expr} {ss : List Stmt} {t2 : TS} {gs : Gn} (A : AskOk K xc cr cA c1 c2) (hB : ∀ (a : Addr) (oe : Obj) (cls : Value) (d : Option Addr) (pn : List (Addr × Obj)), Zc cls d oe → (∃ vs, oe.data = .fields vs) → PT (X.suite a ((a, oe) :: pn)) B (tAskT X.K xc i cA c1 c2 cls d a))
    (hsu : ∀ (a : Addr) (oe : Obj) (pn : List (Addr × Obj)), SS K xc (X.suite a ((a, oe) :: pn)) M (fun _ _ _ _ => False) ss t2 gs) (hK : X.K = K := by rfl) :
    SX K xc X M i cr [.If B ss [] pos] (fun a cls d => tIfS (tAskT K xc i cA c1 c2 cls d a) t2 tNext) gs := by
  subst hK
  refine ⟨fun a oe cls d pn hz hv => pss_one (ps_if (X := X.suite a ((a, oe) :: pn)) (hB a oe cls d pn hz hv) (hsu a oe pn).ps pss_nil), fun {Hs0 H0 Hs H σ ρ r D} a R hn hσ hg o => ?_⟩
  refine ask_t A hσ fun H1 e1 => ?_
  rw [if_pos rfl]
  exact (hsu 0 ⟨.none, none, .fields #[], #[]⟩ []).sm (R.same e1) hg o
end
theorem ref_ne {a b : Addr} (h : a ≠ b) : (Value.ref a == Value.ref b) = false := beq_eq_false_iff_ne.mpr fun z => h (Value.ref.inj z)
theorem kit_cls_own {K : PySem.W.Frag} {C : Addr} {t : Value} {b : Bool} (hd : PySem.W.hasDictIn K C = true) (ht : PySem.W.typeIn K (.ref C) = some (.type "type")) (hs : PySem.W.subIn K t (.ref C) = some b) (hne : (t == .ref C) = false) : PySem.W.kitOne K t (.ref C) = some b := by
  obtain ⟨cd, hc, _⟩ := PySem.W.any_some hd
  have e : ((PySem.W.clsIn K C).isSome && PySem.W.typeIn K (.ref C) == some (.type "type")) = true := by rw [hc, ht] <;> rfl
  unfold PySem.W.kitOne
  rw [if_neg (by rw [hne]; exact Bool.false_ne_true)]
  show (if ((PySem.W.clsIn K C).isSome && PySem.W.typeIn K (.ref C) == some (.type "type")) = true then PySem.W.subIn K t (.ref C) else none) = some b
  rw [if_pos e]
  exact hs
theorem kit_cls_ty {K : PySem.W.Frag} {E : Addr} {T : String} {b : Bool} (hm : PySem.W.kitMeta T = true) (hs : PySem.W.subIn K (.ref E) (.type T) = some b) : PySem.W.kitOne K (.ref E) (.type T) = some b := by
  unfold PySem.W.kitOne
  have hne : (Value.ref E == Value.type T) = false := beq_eq_false_iff_ne.mpr fun z => nomatch z
  rw [if_neg (by rw [hne]; exact Bool.false_ne_true)]
  show (if PySem.W.kitMeta T = true then PySem.W.subIn K (.ref E) (.type T) else none) = some b
  rw [if_pos hm]
  exact hs
theorem kit_two_no {K : PySem.W.Frag} {t a b : Value} (h1 : PySem.W.kitOne K t a = some false) (h2 : PySem.W.kitOne K t b = some false) : PySem.W.kitAny K t [a, b] = some false := by
  unfold PySem.W.kitAny
  rw [h1]
  show PySem.W.kitAny K t [b] = some false
  unfold PySem.W.kitAny
  rw [h2]
  rfl
end DL

namespace DL
open PySem PySem.Spec PyProof.Rows L2
/-! ### the members of a list of ints, each once, rising -/
def insS (k : Int) : List Int → List Int
  | [] => [k]
  | a :: r => if k < a then k :: a :: r else if k = a then a :: r else a :: insS k r
def sset (ns : List Int) : List Int := ns.foldr insS []
theorem insS_mem {k x : Int} : ∀ {l : List Int}, x ∈ insS k l ↔ x = k ∨ x ∈ l
  | [] => by simp [insS]
  | a :: r => by
    unfold insS
    by_cases h1 : k < a
    · rw [if_pos h1]; simp
    · rw [if_neg h1]
      by_cases h2 : k = a
      · rw [if_pos h2]; subst h2; simp
      · rw [if_neg h2, List.mem_cons, List.mem_cons, insS_mem (l := r)]
        constructor
        · rintro (h | h | h)
          · exact .inr (.inl h)
          · exact .inl h
          · exact .inr (.inr h)
        · rintro (h | h | h)
          · exact .inr (.inl h)
          · exact .inl h
          · exact .inr (.inr h)
theorem insS_lt {k : Int} : ∀ {l : List Int}, l.Pairwise (· < ·) → (insS k l).Pairwise (· < ·)
  | [], _ => by simp [insS]
  | a :: r, h => by
    obtain ⟨h1, h2⟩ := List.pairwise_cons.mp h
    unfold insS
    by_cases c1 : k < a
    · rw [if_pos c1]
      refine List.pairwise_cons.mpr ⟨fun x hx => ?_, h⟩
      rcases List.mem_cons.mp hx with rfl | hx
      · exact c1
      · exact Int.lt_trans c1 (h1 x hx)
    · rw [if_neg c1]
      by_cases c2 : k = a
      · rw [if_pos c2]; exact h
      · rw [if_neg c2]
        refine List.pairwise_cons.mpr ⟨fun x hx => ?_, insS_lt h2⟩
        rcases insS_mem.mp hx with rfl | hx
        · omega
        · exact h1 x hx
theorem sset_mem {x : Int} : ∀ {ns : List Int}, x ∈ sset ns ↔ x ∈ ns
  | [] => by simp [sset]
  | a :: r => by
    show x ∈ insS a (sset r) ↔ _
    rw [insS_mem, sset_mem (ns := r), List.mem_cons]
theorem sset_lt : ∀ (ns : List Int), (sset ns).Pairwise (· < ·)
  | [] => List.Pairwise.nil
  | a :: r => insS_lt (sset_lt r)
theorem rise_eq : ∀ {l m : List Int}, l.Pairwise (· < ·) → m.Pairwise (· < ·) → (∀ x, x ∈ l ↔ x ∈ m) → l = m
  | [], [], _, _, _ => rfl
  | [], b :: m, _, _, h => by have := (h b).mpr List.mem_cons_self; cases this
  | a :: l, [], _, _, h => by have := (h a).mp List.mem_cons_self; cases this
  | a :: l, b :: m, h1, h2, h => by
    obtain ⟨a1, a2⟩ := List.pairwise_cons.mp h1
    obtain ⟨b1, b2⟩ := List.pairwise_cons.mp h2
    have e : a = b := by
      rcases List.mem_cons.mp ((h a).mp List.mem_cons_self) with e | e
      · exact e
      · rcases List.mem_cons.mp ((h b).mpr List.mem_cons_self) with e2 | e2
        · exact e2.symm
        · have := b1 a e; have := a1 b e2; omega
    subst e
    have := rise_eq a2 b2 (fun x => ⟨fun hx => by
      rcases List.mem_cons.mp ((h x).mp (List.mem_cons_of_mem _ hx)) with e | e
      · have := a1 x hx; omega
      · exact e, fun hx => by
      rcases List.mem_cons.mp ((h x).mpr (List.mem_cons_of_mem _ hx)) with e | e
      · have := b1 x hx; omega
      · exact e⟩)
    rw [this]
theorem rise_nodup {l : List Int} (h : l.Pairwise (· < ·)) : l.Nodup := h.imp fun h => by omega
theorem nodup_len : ∀ {l m : List Int}, l.Nodup → m.Nodup → (∀ x, x ∈ l → x ∈ m) → l.length ≤ m.length
  | [], _, _, _, _ => Nat.zero_le _
  | a :: l, m, h1, h2, h => by
    obtain ⟨a1, a2⟩ := List.nodup_cons.mp h1
    have hm := h a List.mem_cons_self
    have := nodup_len (m := m.erase a) a2 (h2.erase a) fun x hx => (List.mem_erase_of_ne (fun e => a1 (by rw [← e]; exact hx))).mpr (h x (List.mem_cons_of_mem _ hx))
    rw [List.length_erase_of_mem hm] at this
    have : 0 < m.length := List.length_pos_of_mem hm
    rw [List.length_cons]
    omega
theorem sset_len {l ns : List Int} (h1 : l.Nodup) (h2 : ∀ x, x ∈ l ↔ x ∈ ns) : l.length = (sset ns).length :=
  Nat.le_antisymm (nodup_len h1 (rise_nodup (sset_lt ns)) fun x hx => sset_mem.mpr ((h2 x).mp hx)) (nodup_len (rise_nodup (sset_lt ns)) h1 fun x hx => (h2 x).mpr (sset_mem.mp hx))
/-! ### set(a tuple of ints), its number, its members in order -/
section
variable {K : PySem.W.Frag} {X : Cx} {M : List Nat} {a : Expr} {ta : TE} {f : Fn} {pos p p2 q : Pos}
def rSetI (K : PySem.W.Frag) (w : World) : List V → Hp → VK → Prop := fun xs H Q => ∃ (p : Addr) (ns : List Int), xs = [.ref p] ∧ SqT K H p (ns.map V.int) ∧ ns.length ≤ 1000 ∧ ∀ a, H a = none → Q (.ref a) (upd H a (SetO w a (fun j => decide (j ∈ ns)) (sset ns).length))
theorem cr_setI (hc : X.calm = true) : CallR X (.type "set") (rSetI X.K X.w) := by
  intro pins s σ H xs us Q I r h
  obtain ⟨p0, ns, rfl, hq, hl, q⟩ := h
  obtain ⟨u, rfl, rx⟩ := vals1 r
  cases rx
  obtain ⟨its, rv, pt, hz⟩ := I.tuple hq
  have hi : IntsAre its.toArray.toList ns := ints_of_vals rv
  refine call_set_tupI ns (I.ok.hd hc) (show s.heap.IsTuple p0 its.toArray from pt) hi (by unfold scanBound; omega) fun h' tk c R1 hcn k => ?_
  have hlt := R1.lt
  have en : c = (sset ns).length := by
    obtain ⟨o, es, ep, t, ho, hex, hdt, g, nd, hm2, hb, hf, hn, hr, hl2⟩ := id R1
    have := sset_len (ns := ns) nd fun x => by rw [← hm2 x, decide_eq_true_eq]
    rw [List.length_map, Array.length_toList] at this
    exact hn.symm.trans this
  subst en
  have hn : H s.heap.objs.size = none := I.hok.fresh (Nat.le_refl _)
  exact ⟨.ref _, upd H s.heap.objs.size (SetO X.w s.heap.objs.size _ _), I.laid (t' := tk) k (Nat.le_refl _) (setO_new R1), rfl, q _ hn⟩
def rLenS (w : World) : List V → Hp → VK → Prop := fun xs H Q => ∃ (a : Addr) (S : Int → Bool) (n : Nat), xs = [.ref a] ∧ H a = some (SetO w a S n) ∧ Q (.int n) H
theorem cr_lenS : CallR X (.builtin "len") (rLenS X.w) := by
  intro pins s σ H xs us Q I r h
  obtain ⟨a, S, n, rfl, ha, q⟩ := h
  obtain ⟨u, rfl, rx⟩ := vals1 r
  cases rx
  obtain ⟨o, es, ep, t, ho, hex, hdt, g, nd, hm2, hb, hf, hn, hr, hl2⟩ := setO_get I ha
  refine call_len_set ho hex hdt hf (by unfold scanBound at hb; omega) ⟨.int n, H, I.tok _, ⟨_, by rw [hn]⟩, q⟩
def gLenSet : PyData → Option PyData
  | .tuple ds => (intsD ds).bind fun ns => if ns.length ≤ 1000 then some (.int (sset ns).length) else none
  | _ => none
theorem ed_lenSet (ha : ED K X M a ta f) (hm : X.mg "len" = none) (hm2 : X.mg "set" = none) (hg : Gl X "len" := by rfl) (hg2 : Gl X "set" := by rfl) (hc : X.calm = true := by rfl) (hK : X.K = K := by rfl)
    (na : starEach [a] X.env = (false, eval a X.env) :: starEach [] X.env := by rfl) (nb : starEach [.Call (.Name "set" p2) [a] [] q] X.env = (false, eval (.Call (.Name "set" p2) [a] [] q) X.env) :: starEach [] X.env := by rfl)
    (pa : (backTo q (starEach [] X.env)).any (·.1) = false := by rfl) (pb : (backTo pos (starEach [] X.env)).any (·.1) = false := by rfl) :
    ED K X M (.Call (.Name "len" p) [.Call (.Name "set" p2) [a] [] q] [] pos) (tCB (rLenS X.w) (tCons (tCB (rSetI K X.w) (tCons ta tNil)) tNil)) (f1 gLenSet f) := by
  subst hK
  refine ⟨pe_callB cr_lenS hg hm boot_len (pa_cons (pe_callTy (cr_setI hc) hg2 hm2 boot_set (pa_cons ha.pe pa_nil na) (by decide) (by decide) na pa) pa_nil nb) (by decide) (by decide) nb pb, fun {Hs0 H0 Hs H σ ρ d Q} R hf qq => ?_⟩
  obtain ⟨dx, h1, h2⟩ := bind_some hf
  refine ha.sm R h1 fun v Hs1 H1 g1 d1 => ?_
  cases d1 with
  | @tup l ob xs ds hn hp t =>
    obtain ⟨ns, h3, h4⟩ := bind_some h2
    obtain ⟨hl, rfl⟩ := ite_some h4
    have e := ints_dv t h3
    subst e
    exact ⟨l, ns, rfl, sqT_of (g1.sub _ _ hp), hl, fun p0 hp0 => ⟨p0, _, _, rfl, upd_same, qq _ Hs1 _ (g1.trans (Grow.alloc0 g1.sub hp0)) (.int _)⟩⟩
  | _ => cases h2
def gSortSet : PyData → Option (List PyData)
  | .tuple ds => (intsD ds).bind fun ns => if ns.length < 64 then some ((sset ns).map .int) else none
  | _ => none
theorem insS_le {k : Int} : ∀ l : List Int, (insS k l).length ≤ l.length + 1
  | [] => Nat.le_refl _
  | a :: r => by
    unfold insS
    split
    · exact Nat.le_refl _
    · split
      · exact Nat.le_succ _
      · have := insS_le (k := k) r
        rw [List.length_cons, List.length_cons]
        omega
theorem sset_le : ∀ ns : List Int, (sset ns).length ≤ ns.length
  | [] => Nat.le_refl _
  | a :: r => by
    have := sset_le r
    have := insS_le (k := a) (sset r)
    show (insS a (sset r)).length ≤ _
    rw [List.length_cons]
    omega
theorem fd_sortSet (ha : ED K X M a ta f) (hm : X.mg "sorted" = none) (hm2 : X.mg "set" = none) (hg : Gl X "sorted" := by rfl) (hg2 : Gl X "set" := by rfl) (hc : X.calm = true := by rfl) (hK : X.K = K := by rfl)
    (na : starEach [a] X.env = (false, eval a X.env) :: starEach [] X.env := by rfl) (nb : starEach [.Call (.Name "set" p2) [a] [] q] X.env = (false, eval (.Call (.Name "set" p2) [a] [] q) X.env) :: starEach [] X.env := by rfl)
    (pa : (backTo q (starEach [] X.env)).any (·.1) = false := by rfl) (pb : (backTo pos (starEach [] X.env)).any (·.1) = false := by rfl) :
    FD K X M (.Call (.Name "sorted" p) [.Call (.Name "set" p2) [a] [] q] [] pos) (tCB (rSortedSet X.w) (tCons (tCB (rSetI K X.w) (tCons ta tNil)) tNil)) (fun ρ => (f ρ).bind gSortSet) := by
  subst hK
  refine ⟨pe_callB (cr_sortedSet hc) hg hm boot_sorted (pa_cons (pe_callTy (cr_setI hc) hg2 hm2 boot_set (pa_cons ha.pe pa_nil na) (by decide) (by decide) na pa) pa_nil nb) (by decide) (by decide) nb pb, fun {Hs0 H0 Hs H σ ρ d Q} R hf qq => ?_⟩
  obtain ⟨dx, h1, h2⟩ := bind_some hf
  refine ha.sm R h1 fun v Hs1 H1 g1 d1 => ?_
  cases d1 with
  | @tup l ob xs ds hn hp t =>
    obtain ⟨ns, h3, h4⟩ := bind_some h2
    obtain ⟨hl, rfl⟩ := ite_some h4
    have e := ints_dv t h3
    subst e
    have hle := sset_le ns
    refine ⟨l, ns, rfl, sqT_of (g1.sub _ _ hp), by omega, fun p0 hp0 => ⟨p0, _, _, rfl, upd_same, by omega, fun ns' p1 hs hmm hlen hp1 => ?_⟩⟩
    have e : ns' = sset ns := rise_eq hs (sset_lt ns) fun x => by rw [hmm, decide_eq_true_eq, sset_mem]
    subst e
    have g2 : Grow Hs1 H1 Hs1 (upd H1 p0 (SetO X.w p0 (fun j => decide (j ∈ ns)) (sset ns).length)) := Grow.alloc0 g1.sub hp0
    have g3 := Grow.alloc0 (o := .lst ((sset ns).map V.int)) g2.sub hp1
    have g := (g1.trans g2).trans g3
    exact qq p1 _ Hs1 _ g (g1.ex.free (g2.ex.free hp1)) (g2.sub.free hp1) upd_same (DdAll.ints _)
  | _ => cases h2
end
end DL

namespace DL
open PySem PySem.Spec PyProof.Rows L2
/-! ### enumerate(a tuple): made, and its turns -/
theorem enumT_new {v : Value} {o : Obj} {Hv : Heap → Prop} (B : Begins v o Hv) :
    Meets (Builtin.«enumerate.__new__» ⟨[.type "enumerate", v], []⟩) (fun _ R s => Hv s.heap ∧
      R (.ok (.ret (.ref (s.heap.push o).objs.size))) { s with heap := (s.heap.push o).push { cls := .type "enumerate", data := .fields #[.none, .bool false, .ref s.heap.objs.size, rawInt 0, .none, .none] } }) :=
  .of_wp fun prog w A R s h => by
    obtain ⟨hp, g, d, tk, os⟩ := s
    obtain ⟨hv, hr⟩ := h
    have sub := sub_enumerate
    have it : ∀ {A' : Around} {E Q : Value → Shared → Prop}, Q (.ref hp.objs.size) ⟨hp.push o, g, d, tk, os⟩ → wpAny (model prog w) A' (pyIter v) Q E ⟨hp, g, d, tk, os⟩ := fun q => B.iter prog w _ _ ⟨hp, g, d, tk, os⟩ _ hv q
    wp_walk using it
    refine wpAny_stack_any fun st => wpAny_pure ?_
    split
    · rename_i c _ _ _ _ _
      cases (c == Value.type "enumerate") <;> (wp_walk using it; exact ⟨_, rfl, hr⟩)
    · wp_walk using it
      exact ⟨_, rfl, hr⟩
theorem enumT_call {prog : Program} {w : World} {A : Around} {E : Value → Shared → Prop} {s : Shared} {v : Value} {o : Obj} {Hv : Heap → Prop} {Q : Value → Shared → Prop} (B : Begins v o Hv) (hv : Hv s.heap)
    (q : ∀ h', IsEnum h' (s.heap.objs.size + 1) s.heap.objs.size 0 .none → h'.get? s.heap.objs.size = some o → (∀ b u, s.heap.get? b = some u → h'.get? b = some u) → Q (.ref (s.heap.objs.size + 1)) { s with heap := h' }) :
    wpAny (model prog w) A (call (.type "enumerate") [v]) Q E s := by
  refine callType_new F.called_enumerate (by decide) (F.typeCall_enumerate_1 _) (F.newCall_enumerate_1 _) (fun obj => F.args_object_init_2 obj _) F.entry_enumerate_new (enumT_new B) ⟨hv, ?_⟩
  have z : (s.heap.push o).objs.size = s.heap.objs.size + 1 := Heap.size_push ..
  rw [z]
  have ie : IsEnum ((s.heap.push o).push { cls := .type "enumerate", data := .fields #[.none, .bool false, .ref s.heap.objs.size, rawInt 0, .none, .none] }) (s.heap.objs.size + 1) s.heap.objs.size 0 .none := by
    have y := Heap.get?_push_size (s.heap.push o) (o := { cls := .type "enumerate", data := .fields #[.none, .bool false, .ref s.heap.objs.size, rawInt 0, .none, .none] }) rfl
    rw [z] at y
    exact y
  exact ⟨⟨_, ie, rfl⟩, q _ ie (Heap.get?_push_of_some _ (Heap.get?_push_size _ B.free)) fun b u e => Heap.get?_push_of_some _ (Heap.get?_push_of_some _ e)⟩
/-- the tuple at a, each item in a new pair with its place -/
def IteT (K : PySem.W.Frag) (a : Addr) : It :=
  ⟨fun i H => ∃ xs x, SqT K H a xs ∧ xs[i]? = some x, fun i H v H' => ∃ T x, v = .ref T ∧ H T = none ∧ H' = upd H T (.tup [.int (i : Nat), x]) ∧ ∀ xs, SqT K H a xs → xs[i]? = some x, fun i H => ∃ xs, SqT K H a xs ∧ xs.length ≤ i⟩
theorem turn_enumT {P : Program} {w : World} {K : PySem.W.Frag} {elts : List Expr} {kk : Nat} {tpos : Pos} (a e it : Addr) (hei : e ≠ it) (hea : e ≠ a) (hai : a ≠ it) :
    Turn P w K (.Tuple elts kk tpos) (IteT K a) [e, it] e (fun i h => (∃ old, IsEnum h e it ((i : Nat) : Int) old) ∧ h.IsTupleIter it a i) where
  mem := List.mem_cons_self
  obj := fun i h st b hb => by
    obtain ⟨⟨old, he⟩, o, ho, hc, hd⟩ := st
    rcases List.mem_cons.mp hb with rfl | hb
    · exact ⟨_, he, fun v z => nomatch z⟩
    · rw [List.mem_singleton.mp hb]; exact ⟨o, ho, fun v z => by rw [hd] at z; cases z⟩
  keep := fun i h h' st k => by
    obtain ⟨⟨old, he⟩, hi⟩ := st
    exact ⟨⟨old, k e (by simp) _ he⟩, hi.at fun o q => k it (by simp) o q⟩
  item := by
    intro X hP hw hK hc i pins s σ H E I hf st hg
    subst hP hw hK
    obtain ⟨⟨old, he⟩, hit⟩ := st
    obtain ⟨xs, x, hq, hx⟩ := hg
    obtain ⟨its, rv, p, hz⟩ := I.tuple hq
    obtain ⟨u, hu, ru⟩ := rv.get hx
    have hlt : i < its.toArray.size := by
      have := (List.getElem?_eq_some_iff.mp hu).1
      simpa using this
    have eL : e < s.heap.objs.size := Heap.lt_size he
    have iL : it < s.heap.objs.size := by obtain ⟨_, q, _⟩ := hit; exact Heap.lt_size q
    have DT := Draws.tuple (prog := X.prog) (w := X.w) (A := X.A.in1) (by rw [show X.A.in1.handled = X.A.handled from rfl]; exact I.ok.hd hc) it a hai its.toArray
    refine wpAny_pyNext_enum_itemD DT he (show s.heap.IsTupleIter it a i ∧ s.heap.IsTuple a its.toArray from ⟨hit, p⟩) hlt hei (by simp [hei, hea]) fun y h' tk hy ho st' hT hsz hk => ?_
    have ey : y = u := by
      have hu' : its.toArray[i]? = some u := by simpa using hu
      rw [hy] at hu'
      exact Option.some.inj hu'
    subst ey
    refine ⟨_, rfl, wpAny_letOwnedTupleGo_enum (s := { s with heap := h', toks := tk + 1 }) ho fun h2 he2 sb => ?_⟩
    have hT2 : h2.get? s.heap.objs.size = some { cls := .type "tuple", data := .seq #[.int i tk, y] } := (sb.2 _ (Nat.ne_of_gt eL)).trans hT
    have nw : ObjOk X.prog X.w (upd H s.heap.objs.size (.tup [.int (i : Nat), x])) h2 s.heap.objs.size (.tup [.int (i : Nat), x]) :=
      ⟨by show 2 ≤ sizeLine; decide, [.int i tk, y], .cons ⟨_, rfl⟩ (.cons ru .nil), ⟨_, hT2, rfl, _, rfl⟩⟩
    have I1 : Inv X pins σ (upd H s.heap.objs.size (.tup [.int (i : Nat), x])) { s with heap := h2, toks := tk + 1 } :=
      I.turnedNew (ch := [e, it]) (fun b ob hb q => (sb.2 b (fun z => hb (by simp [z]))).trans (hk b ob (fun z => hb (by simp [z])) (fun z => hb (by simp [z])) q)) hf (Nat.le_refl _) nw
    refine ⟨.ref s.heap.objs.size, _, I1, rfl, ⟨_, x, rfl, I.hok.fresh (Nat.le_refl _), rfl, fun ys hy2 => by rw [I.tuple_inj hy2 hq]; exact hx⟩, ⟨⟨y, ?_⟩, st'.1.at fun o q => (sb.2 it (Ne.symm hei)).trans q⟩, fun b hb => ?_⟩
    · have e1 : ((i + 1 : Nat) : Int) = (i : Int) + 1 := by omega
      rw [e1]
      exact he2
    · have hb' : b < s.heap.objs.size := by
        rcases List.mem_cons.mp hb with rfl | hb
        · exact eL
        · rw [List.mem_singleton.mp hb]; exact iL
      rw [upd_ne (Nat.ne_of_lt hb')]
      exact (hf b hb).1
  done := by
    intro X hP hw hK hc i pins s σ H E I hf st hg
    subst hP hw hK
    obtain ⟨⟨old, he⟩, hit⟩ := st
    obtain ⟨xs, hq, hx⟩ := hg
    obtain ⟨its, rv, p, hz⟩ := I.tuple hq
    obtain ⟨f0, f1, f2, f3, f4, f5⟩ := hf it (by simp)
    have hl := rv.length
    have hout : its.toArray[i]? = none := by simp; omega
    have DE : Draws X.prog X.w X.A.in1 it [it, a] i (fun _ _ => True) (fun j h => j = i ∧ h.IsTupleIter it a i ∧ h.IsTuple a its.toArray) :=
      { live := fun j h st => by obtain ⟨_, ⟨o, ho, _⟩, _⟩ := st; exact ⟨o, ho⟩
        frame := fun j h h' st k => ⟨st.1, st.2.1.at fun o q => k it (by simp) o q, st.2.2.at fun o q => k a (by simp) o q⟩
        item := fun j s' Q' E' hj st _ => absurd st.1 (Nat.ne_of_lt hj)
        done := fun s' Q' E' st hE => wpAny_nextOf_tuple_end (by rw [show X.A.in1.handled = X.A.handled from rfl]; exact I.ok.hd hc) st.2.1 st.2.2 hout hE }
    exact wpAny_pyNext_enum_endD DE he ⟨rfl, hit, p⟩ fun h' eb => ⟨rfl, I.turned (t' := s.toks) (fun b o hb q => eb b o hb q) f0 f1 f3 f4 f5⟩
  self := fun A i s Q E st h => by
    obtain ⟨⟨_, he⟩, _⟩ := st
    exact wpAny_pyIter_enum he h
def iEnumT (K : PySem.W.Frag) (ta : TA) : TI := fun σ H R => ta σ H fun vs H1 => ∃ a, vs = [.ref a] ∧ ((∃ xs, SqL K H1 a xs) ∧ R (Ite K a) H1 ∨ (∃ xs, SqT K H1 a xs) ∧ R (IteT K a) H1)
theorem pi_enumT {X : Cx} {e : Expr} {ta : TA} {p pos tpos : Pos} {elts : List Expr} {kk : Nat} (hg : Gl X "enumerate") (hm : X.mg "enumerate" = none) (ha : PA X [e] ta) (hs : starEach [e] X.env = [(false, eval e X.env)] := by rfl) :
    PI X (.Tuple elts kk tpos) (.Call (.Name "enumerate" p) [e] [] pos) (iEnumT X.K ta) := by
  refine ⟨fun pins s σ H R I h => ?_⟩
  refine Call_ (ld_blt I hg hm PyProof.Rows.boot_enumerate (PyProof.Rows.callWith_type1 (thn (ha.run pos pins s σ H _ I h) fun us s1 ⟨vs, H1, I1, r1, q1⟩ => ?_) hs rfl))
  obtain ⟨a, ex, q1⟩ := q1
  subst ex
  obtain ⟨v0, ev0, rv0⟩ := vals1 r1
  cases rv0
  subst ev0
  have fresh : ∀ b, b ∈ [s1.heap.objs.size + 1, s1.heap.objs.size] → FpOk X pins H1 b := fun b hb => by
    have hle : s1.heap.objs.size ≤ b := by
      rcases List.mem_cons.mp hb with z | z
      · rw [z]; exact Nat.le_add_right _ _
      · rw [List.mem_singleton.mp z]; exact Nat.le_refl _
    exact I1.fpOk hle (I1.hok.fresh hle)
  rcases q1 with ⟨⟨xs, hq⟩, q⟩ | ⟨⟨xs, hq⟩, q⟩
  · obtain ⟨its, rv, p', hz⟩ := I1.list hq
    refine enumT_call (begins_list a its.toArray) p'.isList fun h' he hit hk => wpAny_pyIter_enum he ?_
    exact ⟨s1.heap.objs.size + 1, [s1.heap.objs.size + 1, s1.heap.objs.size], _, _, H1, rfl, I1.kept (t' := s1.toks) hk, turn_enum a (s1.heap.objs.size + 1) s1.heap.objs.size, ⟨⟨.none, he⟩, ⟨_, hit, rfl, rfl⟩, Nat.succ_ne_self _⟩, fresh, q⟩
  · obtain ⟨its, rv, p', hz⟩ := I1.tuple hq
    have hT : s1.heap.IsTuple a its.toArray := p'
    refine enumT_call (begins_tuple a its.toArray) hT fun h' he hit hk => wpAny_pyIter_enum he ?_
    have hal : a < s1.heap.objs.size := by obtain ⟨o, ho, _⟩ := hT; exact Heap.lt_size ho
    exact ⟨s1.heap.objs.size + 1, [s1.heap.objs.size + 1, s1.heap.objs.size], _, _, H1, rfl, I1.kept (t' := s1.toks) hk, turn_enumT a (s1.heap.objs.size + 1) s1.heap.objs.size (Nat.succ_ne_self _) (fun z => Nat.lt_irrefl _ (Nat.lt_trans (Nat.lt_succ_self s1.heap.objs.size) (show s1.heap.objs.size.succ < s1.heap.objs.size by rw [show s1.heap.objs.size.succ = a from z]; exact hal))) (Nat.ne_of_lt hal), ⟨⟨.none, he⟩, ⟨_, hit, rfl, rfl⟩⟩, fresh, q⟩
/-! ### their readings -/
def enD (ds : List PyData) : List PyData := ds.zipIdx.map fun p => .tuple [.int (p.2 : Nat), p.1]
theorem enD_len (ds : List PyData) : (enD ds).length = ds.length := by unfold enD; rw [List.length_map, List.length_zipIdx]
theorem enD_get {ds : List PyData} {i : Nat} {d : PyData} (h : ds[i]? = some d) : (enD ds)[i]? = some (.tuple [.int (i : Nat), d]) := by
  unfold enD
  rw [List.getElem?_map, List.getElem?_zipIdx, h]
  simp
theorem yields_enumT {K : PySem.W.Frag} {Hs : Hp} {p : Addr} {xs : List V} {ds : List PyData} (hq : ∀ H, Same Hs H → SqT K H p xs) (t : DdAll K Hs xs ds) : Yields K (Dy K) (IteT K p) Hs (enD ds) where
  go := fun i H e hi => by
    rw [enD_len] at hi
    obtain ⟨v, h1, _⟩ := t.get (i := i) (d := ds[i]) (List.getElem?_eq_getElem hi)
    exact ⟨xs, v, hq H e, h1⟩
  stop := fun i H e hi => ⟨xs, hq H e, by rw [enD_len] at hi; rw [t.length]; exact hi⟩
  yld := fun i H x H' Hs2 hi e1 e2 h => by
    obtain ⟨T, y, rfl, hT, rfl, h2⟩ := h
    obtain ⟨d, h3, h4⟩ := t.getv (h2 xs (hq _ (e1.trans e2)))
    exact ⟨upd Hs2 T (.tup [.int (i : Nat), y]), Grow.alloc e2 hT, _, enD_get h3, T, _, _, rfl, rfl, upd_same, .cons (.int _) (.cons ((h4.mono e1).mono (same_new (e2.free hT))) .nil)⟩
theorem yields_enumL {K : PySem.W.Frag} {Hs : Hp} {p : Addr} {xs : List V} {ds : List PyData} (hq : ∀ H, Same Hs H → SqL K H p xs) (t : DdAll K Hs xs ds) : Yields K (Dy K) (Ite K p) Hs (enD ds) where
  go := fun i H e hi => by
    rw [enD_len] at hi
    obtain ⟨v, h1, _⟩ := t.get (i := i) (d := ds[i]) (List.getElem?_eq_getElem hi)
    exact ⟨xs, v, hq H e, h1⟩
  stop := fun i H e hi => ⟨xs, hq H e, by rw [enD_len] at hi; rw [t.length]; exact hi⟩
  yld := fun i H x H' Hs2 hi e1 e2 h => by
    obtain ⟨T, y, rfl, hT, rfl, h2⟩ := h
    obtain ⟨d, h3, h4⟩ := t.getv (h2 xs (hq _ (e1.trans e2)))
    exact ⟨upd Hs2 T (.tup [.int (i : Nat), y]), Grow.alloc e2 hT, _, enD_get h3, T, _, _, rfl, rfl, upd_same, .cons (.int _) (.cons ((h4.mono e1).mono (same_new (e2.free hT))) .nil)⟩
@[simp] def iEn (f : Fn) : Rho → Option (List PyData) := fun ρ => (f ρ).bind fun d => match d with
  | .list ds => some (enD ds)
  | .tuple ds => some (enD ds)
  | _ => none
section
variable {K : PySem.W.Frag} {X : Cx} {M : List Nat} {a b : Expr} {ta tb : TE} {fa fb : Fn} {pos p tpos : Pos} {elts : List Expr} {kk : Nat}
theorem id_enum (ha : ED K X M a ta fa) (hm : X.mg "enumerate" = none) (hg : Gl X "enumerate" := by rfl) (hs : starEach [a] X.env = [(false, eval a X.env)] := by rfl) (hK : X.K = K := by rfl) :
    ID K X M (Dy K) (.Tuple elts kk tpos) (.Call (.Name "enumerate" p) [a] [] pos) (iEnumT K (tCons ta tNil)) (iEn fa) := by
  subst hK
  refine ⟨pi_enumT hg hm (pa_cons ha.pe pa_nil hs) hs, fun {Hs0 H0 Hs H σ ρ ds R} r hf q => ?_⟩
  obtain ⟨d, h1, h2⟩ := bind_some hf
  refine ha.sm r h1 fun v Hs1 H1 g1 d1 => ?_
  cases d1 with
  | @lst p0 xs ds' hp t =>
    obtain rfl := Option.some.inj h2
    exact ⟨p0, rfl, .inl ⟨⟨xs, sqL_of (g1.sub _ _ hp)⟩, q _ Hs1 H1 g1 (yields_enumL (fun H e => sqL_of (e _ _ hp)) t)⟩⟩
  | @tup p0 ob xs ds' n hp t =>
    obtain rfl := Option.some.inj h2
    exact ⟨p0, rfl, .inr ⟨⟨xs, sqT_of (g1.sub _ _ hp)⟩, q _ Hs1 H1 g1 (yields_enumT (fun H e => sqT_of (e _ _ hp)) t)⟩⟩
  | _ => cases h2
/-- zip of two -/
def zpD (xs ys : List PyData) : List PyData := (xs.zip ys).map fun p => .tuple [p.1, p.2]
theorem zpD_len (xs ys : List PyData) : (zpD xs ys).length = min xs.length ys.length := by unfold zpD; rw [List.length_map, List.length_zip]
theorem zpD_get {xs ys : List PyData} {i : Nat} {x y : PyData} (h1 : xs[i]? = some x) (h2 : ys[i]? = some y) : (zpD xs ys)[i]? = some (.tuple [x, y]) := by
  unfold zpD
  have e : (xs.zip ys)[i]? = some (x, y) := List.getElem?_zip_eq_some.mpr ⟨h1, h2⟩
  rw [List.getElem?_map, e]
  rfl
theorem yields_zipT {Hs : Hp} {p1 p2 : Addr} {xs ys : List V} {ds es : List PyData} (hq : ∀ H, Same Hs H → SqT K H p1 xs) (hq2 : ∀ H, Same Hs H → SqT K H p2 ys) (t : DdAll K Hs xs ds) (t2 : DdAll K Hs ys es) : Yields K (Dy K) (RZ.ItzT K p1 p2) Hs (zpD ds es) where
  go := fun i H e hi => by
    rw [zpD_len] at hi
    obtain ⟨v, h1, _⟩ := t.get (i := i) (d := ds[i]) (List.getElem?_eq_getElem (by omega))
    obtain ⟨v2, h2, _⟩ := t2.get (i := i) (d := es[i]) (List.getElem?_eq_getElem (by omega))
    exact ⟨xs, ys, v, v2, hq H e, hq2 H e, h1, h2⟩
  stop := fun i H e hi => ⟨xs, ys, hq H e, hq2 H e, by rw [zpD_len] at hi; rw [t.length, t2.length]; omega⟩
  yld := fun i H x H' Hs2 hi e1 e2 h => by
    obtain ⟨T, y, z, rfl, hT, rfl, h2, h3⟩ := h
    obtain ⟨d, h4, h5⟩ := t.getv (h2 xs (hq _ (e1.trans e2)))
    obtain ⟨d2, h6, h7⟩ := t2.getv (h3 ys (hq2 _ (e1.trans e2)))
    have nw := same_new (o := .tup [y, z]) (e2.free hT)
    exact ⟨upd Hs2 T (.tup [y, z]), Grow.alloc e2 hT, _, zpD_get h4 h6, T, _, _, rfl, rfl, upd_same, .cons ((h5.mono e1).mono nw) (.cons ((h7.mono e1).mono nw) .nil)⟩
theorem yields_zipL {Hs : Hp} {p1 p2 : Addr} {xs ys : List V} {ds es : List PyData} (hq : ∀ H, Same Hs H → SqL K H p1 xs) (hq2 : ∀ H, Same Hs H → SqL K H p2 ys) (t : DdAll K Hs xs ds) (t2 : DdAll K Hs ys es) : Yields K (Dy K) (Itz K p1 p2) Hs (zpD ds es) where
  go := fun i H e hi => by
    rw [zpD_len] at hi
    obtain ⟨v, h1, _⟩ := t.get (i := i) (d := ds[i]) (List.getElem?_eq_getElem (by omega))
    obtain ⟨v2, h2, _⟩ := t2.get (i := i) (d := es[i]) (List.getElem?_eq_getElem (by omega))
    exact ⟨xs, ys, v, v2, hq H e, hq2 H e, h1, h2⟩
  stop := fun i H e hi => ⟨xs, ys, hq H e, hq2 H e, by rw [zpD_len] at hi; rw [t.length, t2.length]; omega⟩
  yld := fun i H x H' Hs2 hi e1 e2 h => by
    obtain ⟨T, y, z, rfl, hT, rfl, h2, h3⟩ := h
    obtain ⟨d, h4, h5⟩ := t.getv (h2 xs (hq _ (e1.trans e2)))
    obtain ⟨d2, h6, h7⟩ := t2.getv (h3 ys (hq2 _ (e1.trans e2)))
    have nw := same_new (o := .tup [y, z]) (e2.free hT)
    exact ⟨upd Hs2 T (.tup [y, z]), Grow.alloc e2 hT, _, zpD_get h4 h6, T, _, _, rfl, rfl, upd_same, .cons ((h5.mono e1).mono nw) (.cons ((h7.mono e1).mono nw) .nil)⟩
@[simp] def iZp (f g : Fn) : Rho → Option (List PyData) := fun ρ => (f ρ).bind fun d => (g ρ).bind fun d2 => match d, d2 with
  | .list ds, .list es => some (zpD ds es)
  | .tuple ds, .tuple es => some (zpD ds es)
  | _, _ => none
theorem id_zip (ha : ED K X M a ta fa) (hb : ED K X M b tb fb) (hm : X.mg "zip" = none) (hg : Gl X "zip" := by rfl) (hs : starEach [a, b] X.env = (false, eval a X.env) :: starEach [b] X.env := by rfl) (hs2 : starEach [b] X.env = (false, eval b X.env) :: starEach [] X.env := by rfl)
    (hpl : (backTo pos (starEach [b] X.env)).any (·.1) = false := by rfl) (hK : X.K = K := by rfl) :
    ID K X M (Dy K) (.Tuple elts kk tpos) (.Call (.Name "zip" p) [a, b] [] pos) (RZ.iZipA K (tCons ta (tCons tb tNil))) (iZp fa fb) := by
  subst hK
  refine ⟨RZ.pi_zipA hg hm (pa_cons ha.pe (pa_cons hb.pe pa_nil hs2) hs) hs hpl, fun {Hs0 H0 Hs H σ ρ ds R} r hf q => ?_⟩
  obtain ⟨d, h1, h2⟩ := bind_some hf
  obtain ⟨d2, h3, h4⟩ := bind_some h2
  refine ha.sm r h1 fun v Hs1 H1 g1 d1 => ?_
  refine hb.sm (r.grow g1) h3 fun v2 Hs2 H2 g2 e1 => ?_
  cases d1 with
  | @lst p0 xs ds' hp t =>
    cases e1 with
    | @lst p1 ys es' hp2 t2 =>
      obtain rfl := Option.some.inj h4
      have hp' := g2.exs _ _ hp
      exact ⟨p0, p1, xs, ys, rfl, .inl ⟨sqL_of (g2.sub _ _ hp'), sqL_of (g2.sub _ _ hp2), q _ Hs2 H2 (g1.trans g2) (yields_zipL (fun H e => sqL_of (e _ _ hp')) (fun H e => sqL_of (e _ _ hp2)) (t.mono g2.exs) t2)⟩⟩
    | _ => cases h4
  | @tup p0 ob xs ds' n hp t =>
    cases e1 with
    | @tup p1 ob2 ys es' n2 hp2 t2 =>
      obtain rfl := Option.some.inj h4
      have hp' := g2.exs _ _ hp
      exact ⟨p0, p1, xs, ys, rfl, .inr ⟨sqT_of (g2.sub _ _ hp'), sqT_of (g2.sub _ _ hp2), q _ Hs2 H2 (g1.trans g2) (yields_zipT (fun H e => sqT_of (e _ _ hp')) (fun H e => sqT_of (e _ _ hp2)) (t.mono g2.exs) t2)⟩⟩
    | _ => cases h4
  | _ => cases h4
end
end DL

namespace DL
open PySem PySem.Spec PyProof.Rows L2
/-! ### what == says of data -/
def shK (k : Nat) (d : PyData) : Prop := d.canLay0 = true ∧ d.depth ≤ k
theorem shK_int {k : Nat} (hk : 1 ≤ k) (i : Int) : shK k (.int i) := ⟨by simp [PyData.canLay0], by simp [PyData.depth] <;> omega⟩
theorem shK_bool {k : Nat} (hk : 1 ≤ k) (i : Bool) : shK k (.bool i) := ⟨by simp [PyData.canLay0], by simp [PyData.depth] <;> omega⟩
theorem shK_none {k : Nat} (hk : 1 ≤ k) : shK k .none := ⟨by simp [PyData.canLay0], by simp [PyData.depth] <;> omega⟩
theorem shK_all {k : Nat} : ∀ {xs : List PyData}, (∀ x ∈ xs, shK k x) → PyData.canLayAll0 xs = true ∧ PyData.depthAll xs ≤ k
  | [], _ => ⟨by simp [PyData.canLayAll0], by simp [PyData.depthAll]⟩
  | x :: xs, h => by
    obtain ⟨h1, h2⟩ := h x List.mem_cons_self
    obtain ⟨h3, h4⟩ := shK_all (xs := xs) fun y hy => h y (List.mem_cons_of_mem _ hy)
    exact ⟨by simp [PyData.canLayAll0, h1, h3], by simp only [PyData.depthAll]; omega⟩
theorem shK_tup {k : Nat} {xs : List PyData} (h : ∀ x ∈ xs, shK k x) : shK (k + 1) (.tuple xs) := by
  obtain ⟨h1, h2⟩ := shK_all h
  exact ⟨by simp [PyData.canLay0, h1], by simp only [PyData.depth]; omega⟩
theorem shK_lst {k : Nat} {xs : List PyData} (h : ∀ x ∈ xs, shK k x) : shK (k + 1) (.list xs) := by
  obtain ⟨h1, h2⟩ := shK_all h
  exact ⟨by simp [PyData.canLay0, h1], by simp only [PyData.depth]; omega⟩
theorem shaped_of {k : Nat} {d : PyData} (h : shK k d) (hk : k ≤ 64 := by decide) : SeqAt.shaped d = true := by
  unfold SeqAt.shaped
  rw [h.1, Bool.true_and, decide_eq_true_eq]
  exact Nat.le_trans h.2 hk
/-- data told by things that == tells apart -/
def Emb {α : Type} [DecidableEq α] (w : α → PyData) : Prop := ∀ a b, PyData.eqv (w a) (w b) = decide (a = b)
theorem emb_int : Emb PyData.int := fun i j => by
  show (i == j) = _
  rw [Bool.beq_eq_decide_eq]
theorem emb_bool : Emb PyData.bool := fun i j => by
  show (i == j) = _
  rw [Bool.beq_eq_decide_eq]
theorem emb_all {α : Type} [DecidableEq α] {w : α → PyData} (h : Emb w) : ∀ l m : List α, PyData.eqvAll (l.map w) (m.map w) = decide (l = m)
  | [], [] => by simp [PyData.eqvAll]
  | [], b :: m => by simp [PyData.eqvAll]
  | a :: l, [] => by simp [PyData.eqvAll]
  | a :: l, b :: m => by
    simp only [List.map_cons, PyData.eqvAll]
    rw [h a b, emb_all h l m]
    by_cases e : a = b <;> by_cases e2 : l = m <;> simp [e, e2]
theorem emb_tup {α : Type} [DecidableEq α] {w : α → PyData} (h : Emb w) : Emb fun l : List α => PyData.tuple (l.map w) := fun l m => by
  rw [PyData.eqv]
  exact emb_all h l m
theorem emb_lst {α : Type} [DecidableEq α] {w : α → PyData} (h : Emb w) : Emb fun l : List α => PyData.list (l.map w) := fun l m => by
  rw [PyData.eqv]
  exact emb_all h l m
theorem emb_pair {α β : Type} [DecidableEq α] [DecidableEq β] {w : α → PyData} {v : β → PyData} (h : Emb w) (h2 : Emb v) : Emb fun p : α × β => PyData.tuple [w p.1, v p.2] := fun p q => by
  obtain ⟨a, b⟩ := p
  obtain ⟨c, d⟩ := q
  simp only [PyData.eqv, PyData.eqvAll]
  rw [h a c, h2 b d]
  by_cases e : a = c <;> by_cases e2 : b = d <;> simp [e, e2]
/-- a map, told -/
abbrev Mp := Int × List Int
def mpD (m : Mp) : PyData := mapD m.1 m.2
theorem emb_map : Emb mpD := emb_pair emb_int (emb_tup emb_int)
theorem shK_ints {r : List Int} : shK 2 (.tuple (r.map PyData.int)) := shK_tup fun x hx => by
  obtain ⟨i, _, rfl⟩ := List.mem_map.mp hx
  exact shK_int (by decide) i
theorem shK_intsL {r : List Int} : shK 2 (.list (r.map PyData.int)) := shK_lst fun x hx => by
  obtain ⟨i, _, rfl⟩ := List.mem_map.mp hx
  exact shK_int (by decide) i
theorem shK.up {k m : Nat} {d : PyData} (h : shK k d) (hm : k ≤ m) : shK m d := ⟨h.1, Nat.le_trans h.2 hm⟩
theorem shK_map (m : Mp) : shK 3 (mpD m) := shK_tup fun x hx => by
  rcases List.mem_cons.mp hx with rfl | hx
  · exact shK_int (by decide) _
  · rcases List.mem_cons.mp hx with rfl | hx
    · exact shK_ints
    · cases hx
theorem gEq_of {α : Type} [DecidableEq α] {w : α → PyData} (h : Emb w) {k : Nat} (hs : ∀ a, shK k (w a)) (hk : k ≤ 64) (neg : Bool) (a b : α) : gEq neg (w a) (w b) = some (.bool (xor neg (decide (a = b)))) := by
  unfold gEq
  rw [if_pos ⟨shaped_of (hs a) hk, shaped_of (hs b) hk⟩, h a b]
@[simp] theorem gEq_map (neg : Bool) (a b : Mp) : gEq neg (mpD a) (mpD b) = some (.bool (xor neg (decide (a = b)))) := gEq_of emb_map shK_map (by decide) neg a b
@[simp] theorem gEq_int (neg : Bool) (a b : Int) : gEq neg (.int a) (.int b) = some (.bool (xor neg (decide (a = b)))) := gEq_of (w := PyData.int) (k := 1) emb_int (shK_int (by decide)) (by decide) neg a b
@[simp] theorem gEq_intsT (neg : Bool) (a b : List Int) : gEq neg (.tuple (a.map .int)) (.tuple (b.map .int)) = some (.bool (xor neg (decide (a = b)))) := gEq_of (w := fun l : List Int => PyData.tuple (l.map .int)) (k := 2) (emb_tup emb_int) (fun _ => shK_ints) (by decide) neg a b
@[simp] theorem gEq_intsL (neg : Bool) (a b : List Int) : gEq neg (.list (a.map .int)) (.list (b.map .int)) = some (.bool (xor neg (decide (a = b)))) := gEq_of (w := fun l : List Int => PyData.list (l.map .int)) (k := 2) (emb_lst emb_int) (fun _ => shK_intsL) (by decide) neg a b
theorem flat_ints (r : List Int) : (r.map PyData.int).all flatD = true := by
  rw [List.all_eq_true]
  intro x hx
  obtain ⟨i, _, rfl⟩ := List.mem_map.mp hx
  rfl
theorem any_ints (r : List Int) (k : Int) : ((r.map PyData.int).any fun z => PyData.eqv z (.int k)) = decide (k ∈ r) := by
  induction r with
  | nil => rfl
  | cons a r ih =>
    rw [List.map_cons, List.any_cons, ih, emb_int a k]
    by_cases e : a = k
    · subst e; simp
    · have e' : k ≠ a := fun z => e z.symm
      simp [e, e', List.mem_cons]
@[simp] theorem gIn_ints (neg : Bool) (r : List Int) (k : Int) : gIn neg (.int k) (.tuple (r.map .int)) = some (.bool (xor neg (decide (k ∈ r)))) := by
  unfold gIn
  simp only
  rw [if_pos ⟨rfl, flat_ints r⟩, any_ints]
@[simp] theorem gIn_intsL (neg : Bool) (r : List Int) (k : Int) : gIn neg (.int k) (.list (r.map .int)) = some (.bool (xor neg (decide (k ∈ r)))) := by
  unfold gIn
  simp only
  rw [if_pos (.inl ⟨rfl, flat_ints r⟩), any_ints]
theorem gLenSet_ints {r : List Int} (h : r.length ≤ 1000) : gLenSet (.tuple (r.map .int)) = some (.int (sset r).length) := by
  unfold gLenSet
  simp only [intsD_map, Option.bind_some]
  rw [if_pos h]
/-- subscripts -/
theorem gIx_tup {xs : List PyData} {i : Nat} {d : PyData} (h : xs[i]? = some d) : gIx (.tuple xs) (.int i) = some d := by
  unfold gIx
  simp only
  exact atI_nat h
@[simp] theorem at0 {a b : PyData} : atI [a, b] 0 = some a := rfl
@[simp] theorem at1 {a b : PyData} : atI [a, b] 1 = some b := rfl
structure Wf (m : Mp) : Prop where
  len : m.2.length ≤ 1000
  rng : 0 ≤ m.1 ∧ m.1 ≤ 1000
  lt : ∀ x ∈ m.2, 0 ≤ x ∧ x < m.1
/-- one, and then other, by hand -/
def thn (a b : Mp) : Mp := (b.1, a.2.map fun x => b.2.getD x.toNat 0)
theorem thn_len (a b : Mp) : (thn a b).2.length = a.2.length := List.length_map _
theorem getD_mem {l : List Int} {k : Nat} (h : k < l.length) : l.getD k 0 ∈ l := by
  rw [List.getD_eq_getElem?_getD, List.getElem?_eq_getElem h]
  exact List.getElem_mem h
theorem Wf.thn {a b : Mp} (ha : Wf a) (hb : Wf b) (h : a.1 = b.2.length) : Wf (thn a b) where
  len := by rw [thn_len]; exact ha.len
  rng := hb.rng
  lt := fun x hx => by
    obtain ⟨i, hi, rfl⟩ := List.mem_map.mp hx
    have := ha.lt i hi
    exact hb.lt _ (getD_mem (by omega))
theorem atI_ints {r : List Int} {x : Int} (h : 0 ≤ x ∧ x < r.length) : atI (r.map PyData.int) x = some (.int (r.getD x.toNat 0)) := by
  have e : x = ((x.toNat : Nat) : Int) := by omega
  have hl : x.toNat < r.length := by omega
  have g : (r.map PyData.int)[x.toNat]? = some (.int (r.getD x.toNat 0)) := by
    rw [List.getElem?_map, List.getElem?_eq_getElem hl, List.getD_eq_getElem?_getD, List.getElem?_eq_getElem hl]
    rfl
  have := atI_nat g
  rwa [← e] at this
@[simp] theorem gIx_m0 (a : Mp) : gIx (mpD a) (.int 0) = some (.int a.1) := rfl
@[simp] theorem gIx_m1 (a : Mp) : gIx (mpD a) (.int 1) = some (.tuple (a.2.map .int)) := rfl
@[simp] theorem gIs_map (neg : Bool) (a : Mp) : gIs neg (mpD a) .none = some (.bool (xor neg false)) := rfl
@[simp] theorem gIs_mapD (neg : Bool) (t : Int) (r : List Int) : gIs neg (mapD t r) .none = some (.bool (xor neg false)) := rfl
/-- a number for each: 0, 1, .. -/
def idr (n : Nat) : List Int := (List.range n).map fun (i : Nat) => (i : Int)
theorem idr_len (n : Nat) : (idr n).length = n := by unfold idr; rw [List.length_map, List.length_range]
theorem idr_get {n i : Nat} (h : i < n) : (idr n)[i]? = some (i : Int) := by
  unfold idr
  rw [List.getElem?_map, List.getElem?_range h]
  rfl
theorem idr_mem {n : Nat} {x : Int} (h : x ∈ idr n) : 0 ≤ x ∧ x < n := by
  unfold idr at h
  obtain ⟨i, hi, rfl⟩ := List.mem_map.mp h
  have := List.mem_range.mp hi
  omega
theorem Wf.same {n : Int} (h : 0 ≤ n ∧ n ≤ 1000) : Wf (n, idr n.toNat) where
  len := by rw [idr_len]; omega
  rng := h
  lt := fun x hx => by have := idr_mem hx; show 0 ≤ x ∧ x < n; omega
theorem thn_same_r {a : Mp} (ha : Wf a) : thn a (a.1, idr a.1.toNat) = a := by
  unfold thn
  refine Prod.ext rfl ?_
  show a.2.map _ = a.2
  refine (List.map_congr_left fun x hx => ?_).trans (List.map_id _)
  have := ha.lt x hx
  rw [List.getD_eq_getElem?_getD, idr_get (by omega)]
  show ((x.toNat : Nat) : Int) = x
  omega
theorem thn_same_l (a : Mp) : thn ((a.2.length : Nat), idr a.2.length) a = a := by
  unfold thn
  refine Prod.ext rfl ?_
  show (idr a.2.length).map _ = a.2
  refine List.ext_getElem? fun i => ?_
  by_cases h : i < a.2.length
  · rw [List.getElem?_map, idr_get h]
    show some (a.2.getD ((i : Int)).toNat 0) = _
    rw [List.getD_eq_getElem?_getD, show ((i : Int)).toNat = i by omega, List.getElem?_eq_getElem h]
    rfl
  · rw [List.getElem?_eq_none (by rw [List.length_map, idr_len]; omega), List.getElem?_eq_none (by omega)]
theorem thn_assoc {a b c : Mp} (ha : Wf a) (h : a.1 = b.2.length) : thn (thn a b) c = thn a (thn b c) := by
  unfold thn
  refine Prod.ext rfl ?_
  show (a.2.map _).map _ = a.2.map _
  rw [List.map_map]
  refine List.map_congr_left fun x hx => ?_
  have := ha.lt x hx
  have hl : x.toNat < b.2.length := by omega
  show c.2.getD (b.2.getD x.toNat 0).toNat 0 = (b.2.map fun y => c.2.getD y.toNat 0).getD x.toNat 0
  rw [List.getD_eq_getElem?_getD (l := b.2.map _), List.getElem?_map, List.getElem?_eq_getElem hl, List.getD_eq_getElem?_getD (l := b.2), List.getElem?_eq_getElem hl]
  rfl
theorem rgD_idr (n : Nat) : rgD 0 n = (idr n).map PyData.int := by
  rw [rgD_zero]
  unfold idr
  rw [List.map_map]
  rfl
theorem enD_ints (r : List Int) : enD (r.map PyData.int) = (List.range r.length).map fun (i : Nat) => PyData.tuple [.int i, .int (r.getD i 0)] := by
  refine List.ext_getElem? fun i => ?_
  by_cases h : i < r.length
  · have e : (r.map PyData.int)[i]? = some (.int (r.getD i 0)) := by
      rw [List.getElem?_map, List.getElem?_eq_getElem h, List.getD_eq_getElem?_getD, List.getElem?_eq_getElem h]
      rfl
    rw [enD_get e, List.getElem?_map, List.getElem?_range h]
    rfl
  · rw [List.getElem?_eq_none (by rw [enD_len, List.length_map]; omega), List.getElem?_eq_none (by rw [List.length_map, List.length_range]; omega)]
/-- [.. for i, x in enumerate(row) if ..] -/
theorem lc_enF {vs : List Nat} {j1 j2 : Nat} {fs f : Fn} {c : Rho → Option Bool} {ρ : Rho} {r : List Int} {g : Nat → PyData} {p : Nat → Bool} {d : PyData} (h1 : fs ρ = some d) (hd : d = .tuple (r.map .int) ∨ d = .list (r.map .int)) (hl : r.length ≤ 1000000)
    (h : ∀ i, i < r.length → c (((wipeR ρ vs).set j1 (some (.int i))).set j2 (some (.int (r.getD i 0)))) = some (p i) ∧ (p i = true → f (((wipeR ρ vs).set j1 (some (.int i))).set j2 (some (.int (r.getD i 0)))) = some (g i))) :
    fLc vs (iEn fs) (hSeq 2 (hCons (hName j1) (hCons (hName j2) hNil))) c f ρ = some (((List.range r.length).filter p).map g) := by
  have e : iEn fs ρ = some ((List.range r.length).map fun (i : Nat) => PyData.tuple [.int i, .int (r.getD i 0)]) := by
    unfold iEn
    rw [h1, Option.bind_some]
    rcases hd with rfl | rfl <;> simp only [enD_ints]
  unfold fLc
  rw [e, Option.bind_some, if_pos (by rw [List.length_map, List.length_range]; exact hl)]
  refine compF_listF fun i hi => ⟨_, rfl, ?_, ?_⟩
  · exact (h i (List.mem_range.mp hi)).1
  · exact (h i (List.mem_range.mp hi)).2
theorem insS_len {k : Int} : ∀ {l : List Int}, l.Pairwise (· < ·) → (insS k l).length = if k ∈ l then l.length else l.length + 1
  | [], _ => by simp [insS]
  | a :: r, h => by
    obtain ⟨h1, h2⟩ := List.pairwise_cons.mp h
    unfold insS
    by_cases c1 : k < a
    · have : ¬ k ∈ a :: r := fun hm => by
        rcases List.mem_cons.mp hm with e | e
        · omega
        · have := h1 k e; omega
      rw [if_pos c1, if_neg this]
      rfl
    · rw [if_neg c1]
      by_cases c2 : k = a
      · rw [if_pos c2, if_pos (by rw [c2]; exact List.mem_cons_self)]
      · rw [if_neg c2, List.length_cons, insS_len h2, List.length_cons]
        by_cases c3 : k ∈ r
        · rw [if_pos c3, if_pos (List.mem_cons_of_mem _ c3)]
        · rw [if_neg c3, if_neg (fun hm => by rcases List.mem_cons.mp hm with e | e; exact c2 e; exact c3 e)]
theorem sset_nodup : ∀ {r : List Int}, (sset r).length = r.length ↔ r.Nodup
  | [] => by simp [sset]
  | a :: r => by
    have e : sset (a :: r) = insS a (sset r) := rfl
    rw [e, insS_len (sset_lt r), List.nodup_cons, List.length_cons, ← sset_nodup (r := r)]
    have hle := sset_le r
    by_cases c : a ∈ r
    · rw [if_pos (sset_mem.mpr c)]
      constructor
      · intro z; omega
      · rintro ⟨z, _⟩; exact absurd c z
    · rw [if_neg (fun z => c (sset_mem.mp z))]
      constructor
      · intro z; exact ⟨c, by omega⟩
      · rintro ⟨_, z⟩; omega
theorem met_nodup {r : List Int} : ((List.range r.length).filter fun i => decide (r.getD i 0 ∈ r.take i)).length = 0 ↔ r.Nodup := by
  rw [List.length_eq_zero_iff, List.filter_eq_nil_iff]
  constructor
  · intro h
    refine List.pairwise_iff_getElem.mpr fun i j hi hj hij => ?_
    have := h j (List.mem_range.mpr hj)
    rw [decide_eq_true_eq] at this
    intro e
    refine this ?_
    rw [List.getD_eq_getElem?_getD, List.getElem?_eq_getElem hj]
    show r[j] ∈ _
    rw [← e]
    refine List.mem_iff_getElem?.mpr ⟨i, ?_⟩
    rw [List.getElem?_take, if_pos hij, List.getElem?_eq_getElem hi]
  · intro h i hi
    have hi := List.mem_range.mp hi
    rw [decide_eq_true_eq, List.getD_eq_getElem?_getD, List.getElem?_eq_getElem hi]
    intro hm
    obtain ⟨j, hj⟩ := List.mem_iff_getElem?.mp hm
    rw [List.getElem?_take] at hj
    by_cases hji : j < i
    · rw [if_pos hji] at hj
      obtain ⟨hjl, ej⟩ := List.getElem?_eq_some_iff.mp hj
      exact List.pairwise_iff_getElem.mp h j i hjl hi hji ej
    · rw [if_neg hji] at hj
      cases hj
theorem idr_lt (n : Nat) : (idr n).Pairwise (· < ·) := by
  unfold idr
  rw [List.pairwise_map]
  exact List.pairwise_lt_range.imp fun h => by omega
theorem mem_idr {n : Nat} {x : Int} : x ∈ idr n ↔ 0 ≤ x ∧ x < n := by
  refine ⟨idr_mem, fun h => ?_⟩
  refine List.mem_iff_getElem?.mpr ⟨x.toNat, ?_⟩
  rw [idr_get (by omega)]
  congr 1
  omega
theorem left_all {n : Nat} {r : List Int} (hr : ∀ x ∈ r, 0 ≤ x ∧ x < n) : ((List.range n).filter fun (i : Nat) => decide ((i : Int) ∉ r)).length = 0 ↔ (sset r).length = n := by
  rw [List.length_eq_zero_iff, List.filter_eq_nil_iff]
  have hle : (sset r).length ≤ (idr n).length := nodup_len (rise_nodup (sset_lt r)) (rise_nodup (idr_lt n)) fun x hx => mem_idr.mpr (hr x (sset_mem.mp hx))
  rw [idr_len] at hle
  constructor
  · intro h
    refine Nat.le_antisymm hle ?_
    have := nodup_len (rise_nodup (idr_lt n)) (rise_nodup (sset_lt r)) fun x hx => by
      have := mem_idr.mp hx
      have h2 := h x.toNat (List.mem_range.mpr (by omega))
      rw [decide_eq_true_eq, Classical.not_not] at h2
      rw [show ((x.toNat : Nat) : Int) = x by omega] at h2
      exact sset_mem.mpr h2
    rwa [idr_len] at this
  · intro h i hi
    have hi := List.mem_range.mp hi
    rw [decide_eq_true_eq, Classical.not_not]
    refine Classical.byContradiction fun hn => ?_
    have := nodup_len (l := (i : Int) :: sset r) (m := idr n) (List.nodup_cons.mpr ⟨fun z => hn (sset_mem.mp z), rise_nodup (sset_lt r)⟩) (rise_nodup (idr_lt n)) fun x hx => by
      rcases List.mem_cons.mp hx with rfl | hx
      · exact mem_idr.mpr (by omega)
      · exact mem_idr.mpr (hr x (sset_mem.mp hx))
    rw [List.length_cons, idr_len] at this
    omega
def Parts (a : Mp) : Prop := (sset a.2).length = a.2.length
def Comes (a : Mp) : Prop := ((sset a.2).length : Int) = a.1
instance (a : Mp) : Decidable (Parts a) := inferInstanceAs (Decidable (_ = _))
instance (a : Mp) : Decidable (Comes a) := inferInstanceAs (Decidable (_ = _))
theorem parts_nodup {a : Mp} : Parts a ↔ a.2.Nodup := sset_nodup
theorem getD_inj {l : List Int} (h : l.Nodup) {i j : Nat} (hi : i < l.length) (hj : j < l.length) (e : l.getD i 0 = l.getD j 0) : i = j := by
  rw [List.getD_eq_getElem?_getD, List.getD_eq_getElem?_getD, List.getElem?_eq_getElem hi, List.getElem?_eq_getElem hj] at e
  have e : l[i] = l[j] := e
  rcases Nat.lt_trichotomy i j with z | z | z
  · exact absurd e (List.pairwise_iff_getElem.mp h i j hi hj z)
  · exact z
  · exact absurd e.symm (List.pairwise_iff_getElem.mp h j i hj hi z)
theorem nodup_map {f : Int → Int} : ∀ {l : List Int}, l.Nodup → (∀ x ∈ l, ∀ y ∈ l, f x = f y → x = y) → (l.map f).Nodup
  | [], _, _ => List.Pairwise.nil
  | a :: l, h, hf => by
    obtain ⟨h1, h2⟩ := List.nodup_cons.mp h
    rw [List.map_cons, List.nodup_cons]
    refine ⟨fun hm => ?_, nodup_map h2 fun x hx y hy => hf x (List.mem_cons_of_mem _ hx) y (List.mem_cons_of_mem _ hy)⟩
    obtain ⟨y, hy, e⟩ := List.mem_map.mp hm
    have := hf a List.mem_cons_self y (List.mem_cons_of_mem _ hy) e.symm
    exact h1 (by rw [this]; exact hy)
theorem thn_parts {a b : Mp} (ha : Wf a) (h : a.1 = b.2.length) (pa : Parts a) (pb : Parts b) : Parts (thn a b) := by
  rw [parts_nodup] at *
  refine nodup_map pa fun x hx y hy e => ?_
  have h1 := ha.lt x hx
  have h2 := ha.lt y hy
  have := getD_inj pb (by omega) (by omega) e
  omega
/-- all below to are come to -/
theorem comes_mem {a : Mp} (ha : Wf a) (ca : Comes a) {x : Int} (h : 0 ≤ x ∧ x < a.1) : x ∈ a.2 := by
  have hr := ha.rng
  have := (left_all (n := a.1.toNat) (r := a.2) fun y hy => by have := ha.lt y hy; omega).mpr (by unfold Comes at ca; omega)
  rw [List.length_eq_zero_iff, List.filter_eq_nil_iff] at this
  have := this x.toNat (List.mem_range.mpr (by omega))
  rw [decide_eq_true_eq, Classical.not_not, show ((x.toNat : Nat) : Int) = x by omega] at this
  exact this
theorem comes_of {a : Mp} (ha : Wf a) (h : ∀ x, 0 ≤ x ∧ x < a.1 → x ∈ a.2) : Comes a := by
  have hr := ha.rng
  have := (left_all (n := a.1.toNat) (r := a.2) fun y hy => by have := ha.lt y hy; omega).mp (by
    rw [List.length_eq_zero_iff, List.filter_eq_nil_iff]
    intro i hi
    have := List.mem_range.mp hi
    rw [decide_eq_true_eq, Classical.not_not]
    exact h _ (by omega))
  unfold Comes
  omega
theorem thn_comes {a b : Mp} (ha : Wf a) (hb : Wf b) (h : a.1 = b.2.length) (ca : Comes a) (cb : Comes b) : Comes (thn a b) := by
  refine comes_of (ha.thn hb h) fun x hx => ?_
  have hm := comes_mem hb cb (x := x) hx
  obtain ⟨i, hi⟩ := List.mem_iff_getElem?.mp hm
  obtain ⟨hil, ei⟩ := List.getElem?_eq_some_iff.mp hi
  have hm2 := comes_mem ha ca (x := (i : Int)) (by omega)
  refine List.mem_map.mpr ⟨(i : Int), hm2, ?_⟩
  rw [show ((i : Int)).toNat = i by omega, List.getD_eq_getElem?_getD, hi]
  rfl
end DL

namespace DL
open PySem PySem.Spec PyProof.Rows L2
/-! ### comprehensions of ints -/
theorem map_int {α : Type} (l : List α) (g : α → Int) : l.map (fun a => PyData.int (g a)) = (l.map g).map PyData.int := by
  rw [List.map_map]
  rfl
variable {vs : List Nat} {j j1 j2 : Nat} {fn fs fs2 f : Fn} {c : Rho → Option Bool} {ρ : Rho} {n : Int}
theorem lc_rgI {g : Nat → Int} (h1 : fn ρ = some (.int n)) (hn : -1000000 ≤ n ∧ n ≤ 1000000) (h : ∀ i : Nat, (i : Int) < n → f ((wipeR ρ vs).set j (some (.int i))) = some (.int (g i))) :
    fLc vs (iR1 fn) (hName j) cYes f ρ = some (((List.range n.toNat).map g).map .int) := by
  rw [lc_rg (g := fun i => .int (g i)) h1 hn h, map_int]
theorem lc_rgIF {g : Nat → Int} {p : Nat → Bool} (h1 : fn ρ = some (.int n)) (hn : -1000000 ≤ n ∧ n ≤ 1000000) (h : ∀ i : Nat, (i : Int) < n → c ((wipeR ρ vs).set j (some (.int i))) = some (p i) ∧ (p i = true → f ((wipeR ρ vs).set j (some (.int i))) = some (.int (g i)))) :
    fLc vs (iR1 fn) (hName j) c f ρ = some ((((List.range n.toNat).filter p).map g).map .int) := by
  rw [lc_rgF (g := fun i => .int (g i)) h1 hn h, map_int]
theorem lc_sqI {l : List Int} {g : Int → Int} {d : PyData} (h1 : fs ρ = some d) (hd : seqD d = some (l.map .int)) (hl : l.length ≤ 1000000) (h : ∀ x ∈ l, f ((wipeR ρ vs).set j (some (.int x))) = some (.int (g x))) :
    fLc vs (iSq fs) (hName j) cYes f ρ = some ((l.map g).map .int) := by
  rw [lc_sq (w := PyData.int) (g := fun i => .int (g i)) h1 hd hl h, map_int]
theorem lc_sqIF {l : List Int} {g : Int → Int} {p : Int → Bool} {d : PyData} (h1 : fs ρ = some d) (hd : seqD d = some (l.map .int)) (hl : l.length ≤ 1000000) (h : ∀ x ∈ l, c ((wipeR ρ vs).set j (some (.int x))) = some (p x) ∧ (p x = true → f ((wipeR ρ vs).set j (some (.int x))) = some (.int (g x)))) :
    fLc vs (iSq fs) (hName j) c f ρ = some (((l.filter p).map g).map .int) := by
  rw [lc_sqF (w := PyData.int) (g := fun i => .int (g i)) h1 hd hl h, map_int]
theorem lc_enIF {r : List Int} {g : Nat → Int} {p : Nat → Bool} {d : PyData} (h1 : fs ρ = some d) (hd : d = .tuple (r.map .int) ∨ d = .list (r.map .int)) (hl : r.length ≤ 1000000)
    (h : ∀ i, i < r.length → c (((wipeR ρ vs).set j1 (some (.int i))).set j2 (some (.int (r.getD i 0)))) = some (p i) ∧ (p i = true → f (((wipeR ρ vs).set j1 (some (.int i))).set j2 (some (.int (r.getD i 0)))) = some (.int (g i)))) :
    fLc vs (iEn fs) (hSeq 2 (hCons (hName j1) (hCons (hName j2) hNil))) c f ρ = some ((((List.range r.length).filter p).map g).map .int) := by
  rw [lc_enF (g := fun i => .int (g i)) h1 hd hl h, map_int]
theorem zpD_ints (l m : List Int) : zpD (l.map PyData.int) (m.map PyData.int) = (l.zip m).map fun p => PyData.tuple [.int p.1, .int p.2] := by
  unfold zpD
  rw [List.zip_map, List.map_map]
  rfl
theorem lc_zpI {l m : List Int} {g : Int → Int → Int} (h1 : fs ρ = some (.tuple (l.map .int))) (h2 : fs2 ρ = some (.tuple (m.map .int))) (hl : l.length ≤ 1000000)
    (h : ∀ x y, (x, y) ∈ l.zip m → f (((wipeR ρ vs).set j1 (some (.int x))).set j2 (some (.int y))) = some (.int (g x y))) :
    fLc vs (iZp fs fs2) (hSeq 2 (hCons (hName j1) (hCons (hName j2) hNil))) cYes f ρ = some (((l.zip m).map fun p => g p.1 p.2).map .int) := by
  have e : iZp fs fs2 ρ = some ((l.zip m).map fun p => PyData.tuple [.int p.1, .int p.2]) := by
    unfold iZp
    rw [h1, h2]
    simp only [Option.bind_some, zpD_ints]
  unfold fLc
  rw [e, Option.bind_some, if_pos (by rw [List.length_map, List.length_zip]; omega), ← map_int]
  exact compF_list (α := Int × Int) (w := fun p => PyData.tuple [.int p.1, .int p.2]) (g := fun p => .int (g p.1 p.2)) fun p hp => ⟨_, rfl, h p.1 p.2 hp⟩
/-! ### maps told by their parts -/
theorem mp_fold (x : Int) (l : List Int) : PyData.tuple [.int x, .tuple (l.map .int)] = mpD (x, l) := rfl
@[simp] theorem gEq_mapL (neg : Bool) (a : Mp) (x : Int) (l : List Int) : gEq neg (mpD a) (.tuple [.int x, .tuple (l.map .int)]) = some (.bool (xor neg (decide (a = (x, l))))) := gEq_map neg a (x, l)
@[simp] theorem gEq_mapA (neg : Bool) (a : Mp) (x : Int) (l m : List Int) : gEq neg (mpD a) (.tuple [.int x, .tuple (l.map .int ++ m.map .int)]) = some (.bool (xor neg (decide (a = (x, l ++ m))))) := by
  rw [← List.map_append]
  exact gEq_map neg a (x, l ++ m)
theorem mulOk {x y : Int} (hx : -1000000 ≤ x ∧ x ≤ 1000000) (hy : -1000000 ≤ y ∧ y ≤ 1000000) : MulOk x y := .inl (.inl ⟨by omega, by omega⟩)
theorem zip_range (l m : List Int) (h : l.length = m.length) (g : Int → Int → Int) : (l.zip m).map (fun p => g p.1 p.2) = (List.range l.length).map fun i => g (l.getD i 0) (m.getD i 0) := by
  refine List.ext_getElem? fun i => ?_
  by_cases hi : i < l.length
  · have e : (l.zip m)[i]? = some (l.getD i 0, m.getD i 0) := List.getElem?_zip_eq_some.mpr ⟨by show l[i]? = some (l.getD i 0); rw [List.getD_eq_getElem?_getD, List.getElem?_eq_getElem hi]; rfl, by show m[i]? = some (m.getD i 0); rw [List.getD_eq_getElem?_getD, List.getElem?_eq_getElem (show i < m.length by omega)]; rfl⟩
    rw [List.getElem?_map, e, List.getElem?_map, List.getElem?_range hi]
    rfl
  · rw [List.getElem?_eq_none (by rw [List.length_map, List.length_zip]; omega), List.getElem?_eq_none (by rw [List.length_map, List.length_range]; omega)]
theorem map_range_getD (l : List Int) : (List.range l.length).map (fun i => l.getD i 0) = l := by
  refine List.ext_getElem? fun i => ?_
  by_cases hi : i < l.length
  · rw [List.getElem?_map, List.getElem?_range hi]
    show some (l.getD i 0) = _
    rw [List.getD_eq_getElem?_getD, List.getElem?_eq_getElem hi]
    rfl
  · rw [List.getElem?_eq_none (by rw [List.length_map, List.length_range]; omega), List.getElem?_eq_none (by omega)]
theorem getD_range {g : Nat → Int} {n i : Nat} (h : i < n) : ((List.range n).map g).getD i 0 = g i := by
  rw [List.getD_eq_getElem?_getD, List.getElem?_map, List.getElem?_range h]
  rfl
/-- a good step: goes on, P holds -/
def Good (P : Rho → Prop) (g : Gn) (ρ : Rho) : Prop := ∃ ρ', g ρ = some (.nx ρ') ∧ P ρ'
theorem Good.step {P : Rho → Prop} {g1 g2 : Gn} {ρ ρ1 : Rho} (h1 : g1 ρ = some (.nx ρ1)) (h2 : Good P g2 ρ1) : Good P (gBlk g1 g2) ρ := by
  obtain ⟨ρ', h, hp⟩ := h2
  exact ⟨ρ', by rw [blk_nx h1]; exact h, hp⟩
theorem Good.last {P : Rho → Prop} {g : Gn} {ρ ρ1 : Rho} (h1 : g ρ = some (.nx ρ1)) (h2 : P ρ1) : Good P g ρ := ⟨ρ1, h1, h2⟩
/-- a loop of good turns -/
theorem Good.loop {P : Rho → Prop} {tg : PyData → Rho → Option Rho} {b : Gn} {h : Rho → Option (List PyData)} {ds : List PyData} {ρ : Rho} (he : h ρ = some ds) (hb : ∀ d ∈ ds, ∀ ρ, P ρ → ∃ ρ1, tg d ρ = some ρ1 ∧ Good P b ρ1) (h0 : P ρ) : Good P (gFor h tg b) ρ := by
  unfold Good gFor
  rw [he, Option.bind_some]
  refine forF_nx P (fun d hd ρ hp => ?_) h0
  obtain ⟨ρ1, h1, ρ', h2, h3⟩ := hb d hd ρ hp
  exact ⟨ρ1, ρ', h1, h2, h3⟩
theorem getD_app_l {l m : List Int} {i : Nat} (h : i < l.length) : (l ++ m).getD i 0 = l.getD i 0 := by
  rw [List.getD_eq_getElem?_getD, List.getD_eq_getElem?_getD, List.getElem?_append_left h]
theorem getD_app_r {l m : List Int} {i : Nat} : (l ++ m).getD (l.length + i) 0 = m.getD i 0 := by
  rw [List.getD_eq_getElem?_getD, List.getD_eq_getElem?_getD, List.getElem?_append_right (by omega), Nat.add_sub_cancel_left]
theorem row_wf {to : Int} {n : Nat} {g : Nat → Int} (ht : 0 ≤ to ∧ to ≤ 1000) (hn : n ≤ 1000) (h : ∀ i, i < n → 0 ≤ g i ∧ g i < to) : Wf (to, (List.range n).map g) where
  len := by show ((List.range n).map g).length ≤ 1000; rw [List.length_map, List.length_range]; exact hn
  rng := ht
  lt := fun x hx => by
    obtain ⟨i, hi, rfl⟩ := List.mem_map.mp hx
    exact h i (List.mem_range.mp hi)
theorem thn_row {to : Int} {n : Nat} {g : Nat → Int} {b : Mp} : thn (to, (List.range n).map g) b = (b.1, (List.range n).map fun i => b.2.getD (g i).toNat 0) := by
  unfold thn
  rw [List.map_map]
  rfl
theorem row_eq {n : Nat} {l : List Int} {g : Nat → Int} (hn : n = l.length) (h : ∀ i, i < n → g i = l.getD i 0) : (List.range n).map g = l := by
  subst hn
  exact (List.map_congr_left fun i hi => h i (List.mem_range.mp hi)).trans (map_range_getD l)
theorem getD_lt {a : Mp} (ha : Wf a) {i : Nat} (h : i < a.2.length) : 0 ≤ a.2.getD i 0 ∧ a.2.getD i 0 < a.1 := ha.lt _ (getD_mem h)
end DL

namespace DL
open PySem PySem.Spec PyProof.Rows L2
section
variable {K : PySem.W.Frag} {X : Cx} {M : List Nat} {xc : Nat → Addr} {W : WX} {a b c d e o : Expr} {ta tb tc td te to : TE} {fa fb fc fd f fo : Fn} {pos pos' apos cpos : Pos}
/-! ### a op b op c op d, as a test -/
def tChain3 (r r' r'' : R2) (ta tb tc td : TE) : TT := fun σ H Q => ta σ H fun x H1 => tb σ H1 fun y H2 => r x y H2 fun z H3 => ∃ k, z = .bl k ∧
  (if k = true then tc σ H3 fun y' H4 => r' y y' H4 fun z' H5 => ∃ k, z' = .bl k ∧ (if k = true then td σ H5 fun y2 H6 => r'' y' y2 H6 fun z2 H7 => ∃ k, z2 = .bl k ∧ Q k H7 else Q false H5) else Q false H3)
theorem pt_chain3 {op op' op'' : CmpOp} {r r' r'' : R2} (ho : OpR X (compareOp op) r) (ho' : OpR X (compareOp op') r') (ho'' : OpR X (compareOp op'') r'') (ha : PE X a ta) (hb : PE X b tb) (hc : PE X c tc) (hd : PE X d td)
    (hm : lastMarks [op, op', op''] [b, c, d] = false := by with_unfolding_all rfl) : PT X (.Compare a [op, op', op''] [b, c, d] pos) (tChain3 r r' r'' ta tb tc td) := by
  refine ⟨fun pins s σ H Q I h => ?_⟩
  refine isTrue_chain (L2.thn (ha.run pins s σ H _ I h) fun v s1 ⟨x, H1, I1, r1, q1⟩ => test_link (L2.thn (hb.run pins s1 σ H1 _ I1 q1) fun u s2 ⟨y, H2, I2, r2, q2⟩ =>
    L2.thn (ho pins s2 σ H2 x y v u _ I2 r1 r2 q2) fun d1 s3 ⟨z, H3, I3, r3, k, ez, q3⟩ => ?_)) hm
  subst ez
  cases r3
  refine wpAny_truthy_bool ?_
  cases k with
  | false => exact ite_ff ⟨H3, I3, q3⟩
  | true =>
    refine ite_tt (test_link (L2.thn (hc.run pins s3 σ H3 _ I3 q3) fun u2 s4 ⟨y2, H4, I4, r4, q4⟩ => L2.thn (ho' pins s4 σ H4 y y2 u u2 _ I4 r2 r4 q4) fun d2 s5 ⟨z2, H5, I5, r5, k2, ez2, q5⟩ => ?_))
    subst ez2
    cases r5
    refine wpAny_truthy_bool ?_
    cases k2 with
    | false => exact ite_ff ⟨H5, I5, q5⟩
    | true =>
      refine ite_tt (test_last (L2.thn (hd.run pins s5 σ H5 _ I5 q5) fun u3 s6 ⟨y3, H6, I6, r6, q6⟩ => L2.thn (ho'' pins s6 σ H6 y2 y3 u2 u3 _ I6 r4 r6 q6) fun d3 s7 ⟨z3, H7, I7, r7, k3, ez3, q7⟩ => ?_))
      subst ez3
      cases r7
      exact wpAny_truthy_bool ⟨H7, I7, q7⟩
@[simp] def bChain3 (g g' g'' : PyData → PyData → Option PyData) (fa fb fc fd : Fn) : Rho → Option Bool := fun ρ => (fa ρ).bind fun x => (fb ρ).bind fun y => (g x y).bind fun z => match z with
  | .bool true => (fc ρ).bind fun y2 => (g' y y2).bind fun z2 => match z2 with
    | .bool true => (fd ρ).bind fun y3 => (g'' y2 y3).bind fun z3 => match z3 with
      | .bool k => some k
      | _ => none
    | .bool false => some false
    | _ => none
  | .bool false => some false
  | _ => none
theorem td_chain3 {op op' op'' : CmpOp} {r r' r'' : R2} {g g' g'' : PyData → PyData → Option PyData} (ho : OD K X (compareOp op) r g) (ho' : OD K X (compareOp op') r' g') (ho'' : OD K X (compareOp op'') r'' g'') (ha : ED K X M a ta fa) (hb : ED K X M b tb fb) (hc : ED K X M c tc fc) (hd : ED K X M d td fd)
    (hm : lastMarks [op, op', op''] [b, c, d] = false := by with_unfolding_all rfl) : TD K X M (.Compare a [op, op', op''] [b, c, d] pos) (tChain3 r r' r'' ta tb tc td) (bChain3 g g' g'' fa fb fc fd) :=
  ⟨pt_chain3 ho.op ho'.op ho''.op ha.pe hb.pe hc.pe hd.pe hm, fun {Hs0 H0 Hs H σ ρ k Q} R hf q => by
    obtain ⟨x, h1, hf⟩ := bind_some hf
    obtain ⟨y, h2, hf⟩ := bind_some hf
    obtain ⟨z, h3, hf⟩ := bind_some hf
    refine ha.sm R h1 fun v Hs1 H1 g1 d1 => ?_
    refine hb.sm (R.grow g1) h2 fun u Hs2 H2 g2 d2 => ?_
    refine ho.sm g2.sub (d1.mono g2.exs) d2 h3 fun w Hs3 H3 g3 d3 => ?_
    cases z with
    | bool k1 =>
      cases d3
      refine ⟨k1, rfl, ?_⟩
      cases k1 with
      | false =>
        rw [if_neg Bool.false_ne_true]
        obtain rfl := Option.some.inj hf
        exact q H3 (g1.ex.trans (g2.ex.trans g3.ex))
      | true =>
        rw [if_pos rfl]
        obtain ⟨y2, h4, hf⟩ := bind_some hf
        obtain ⟨z2, h5, hf⟩ := bind_some hf
        refine hc.sm (((R.grow g1).grow g2).grow g3) h4 fun u2 Hs4 H4 g4 d4 => ?_
        refine ho'.sm g4.sub ((d2.mono g3.exs).mono g4.exs) d4 h5 fun w2 Hs5 H5 g5 d5 => ?_
        cases z2 with
        | bool k2 =>
          cases d5
          refine ⟨k2, rfl, ?_⟩
          cases k2 with
          | false =>
            rw [if_neg Bool.false_ne_true]
            obtain rfl := Option.some.inj hf
            exact q H5 (g1.ex.trans (g2.ex.trans (g3.ex.trans (g4.ex.trans g5.ex))))
          | true =>
            rw [if_pos rfl]
            obtain ⟨y3, h6, hf⟩ := bind_some hf
            obtain ⟨z3, h7, hf⟩ := bind_some hf
            refine hd.sm (((((R.grow g1).grow g2).grow g3).grow g4).grow g5) h6 fun u3 Hs6 H6 g6 d6 => ?_
            refine ho''.sm g6.sub ((d4.mono g5.exs).mono g6.exs) d6 h7 fun w3 Hs7 H7 g7 d7 => ?_
            cases z3 with
            | bool k3 =>
              cases d7
              obtain rfl := Option.some.inj hf
              exact ⟨_, rfl, q H7 (g1.ex.trans (g2.ex.trans (g3.ex.trans (g4.ex.trans (g5.ex.trans (g6.ex.trans g7.ex))))))⟩
            | _ => cases hf
        | _ => cases hf
    | _ => cases hf⟩

/-! ### s.index(x), s a list or a tuple of plain things -/
def rIdxT (K : PySem.W.Frag) : V → List V → Hp → VK → Prop := fun x xs H Q => ∃ (p : Addr) (ys : List V) (y : V) (j : Nat) (z : V), x = V.ref p ∧ xs = [y] ∧ SqT K H p ys ∧ flatV y = true ∧ ys.all flatV = true ∧ ys[j]? = some z ∧ eqV z y = true ∧
  (∀ (m : Nat) (z' : V), m < j → ys[m]? = some z' → eqV z' y = false) ∧ Q (.int (j : Nat)) H
theorem mt_idxT : MtR X "tuple.index" (rIdxT X.K) := by
  intro pins s σ H x xs v us Q I rx rs h
  obtain ⟨p, ys, y, j, z, rfl, rfl, hq, fy, fys, hz, hzj, hno, q⟩ := h
  cases rx
  obtain ⟨uy, rfl, ry⟩ := vals1 rs
  obtain ⟨its, rv, pl, hlen⟩ := I.tuple hq
  obtain ⟨⟨cls, dd, dt, sl⟩, ho, hc, n, hd⟩ := pl
  simp only at hc hd
  subst hc hd
  obtain ⟨u, hu, ru⟩ := rv.get hz
  obtain ⟨hjl, hje⟩ := List.getElem?_eq_some_iff.mp hu
  have hvl := rv.length
  have hj : j < its.toArray.size := by simpa using hjl
  refine call_meets PySem.F.slot_tuple_index ⟨_, ho, rfl⟩ PySem.F.entry_tuple_index (PySem.F.args_tuple_index_2 _ _) (TI.tuple_indexAt p its.toArray n dd sl uy (eqU y) j hj ?_ ?_)
    ⟨ho, fun w hw => mem_eqAt ry fy rv fys w (by simpa using hw), ⟨.int (j : Nat), H, I.tok _, ⟨_, rfl⟩, q⟩⟩
  · have e1 : its.toArray[j] = u := by simpa using hje
    rw [e1, eqU_of ru (flat_at fys hz)]
    exact hzj
  · intro m hm hmj
    have hml : m < its.length := by simpa using hm
    have hmy : m < ys.length := by omega
    have hy' : ys[m]? = some ys[m] := List.getElem?_eq_getElem hmy
    obtain ⟨u2, hu2, ru2⟩ := rv.get hy'
    obtain ⟨_, hme⟩ := List.getElem?_eq_some_iff.mp hu2
    have e1 : its.toArray[m] = u2 := by simpa using hme
    rw [e1, eqU_of ru2 (flat_at fys hy')]
    exact hno m _ hmj hy'
def tIdx (K : PySem.W.Frag) (to : TE) (t : TA) : TE := fun σ H Q => to σ H fun x H1 => ∃ p, x = .ref p ∧ (((∃ ys, SqL K H1 p ys) ∧ t σ H1 fun vs H2 => rIndex K x vs H2 Q) ∨ ((∃ ob ys, ob.dict = none ∧ H1 p = some (.frz ob (.tup ys))) ∧ t σ H1 fun vs H2 => rIdxT K x vs H2 Q))
theorem pe_idx {es : List Expr} {t : TA} (ho : PE X o to) (ha : PA X (e :: es) t)
    (hbase : attributeBase o "index" X.env (eval o X.env) = eval o X.env := by rfl)
    (hfew : ((backTo cpos (starEach (e :: es) X.env)).all (fun x => !x.1) && (backToKw cpos (keywordEach [] X.env)).all (fun x => x.1.isSome)
      && decide ((e :: es).length + ([] : List Keyword).length + (if ([] : List Keyword).isEmpty then 0 else 1) < 30)) = true := by rfl)
    (hline : (apos.endLine == cpos.line) = true := by rfl) (hs : starEach (e :: es) X.env = (false, eval e X.env) :: starEach es X.env := by rfl) (hplain : (backTo cpos (starEach es X.env)).any (·.1) = false := by rfl) :
    PE X (.Call (.Attribute o "index" apos) (e :: es) [] cpos) (tIdx X.K to t) := by
  refine ⟨fun pins s σ H Q I h => ?_⟩
  refine wpAny_Call_method_late hbase hfew hline rfl (L2.thn (ho.run pins s σ H _ I h) fun v s1 ⟨x, H1, I1, r1, p, ex, q1⟩ => ?_)
  subst ex
  rcases q1 with ⟨⟨ys, hq⟩, q1⟩ | ⟨⟨ob, ys, hn, hq⟩, q1⟩
  · obtain ⟨h1, h2⟩ := tyV_is (T := "list") I1 r1 (.inl ⟨rfl, ys, hq⟩)
    refine ⟨"list", "list.index", PySem.F.plainAttrs_list, PySem.F.slot_list_index, PySem.F.type_list_index, h1, h2, ?_⟩
    have hA := ha.run cpos pins s1 σ H1 _ I1 q1
    rw [hs] at hA ⊢
    refine Calls.callWith_builtin (by show (false || (backTo cpos (starEach es X.env)).any (·.1)) = false; rw [hplain] <;> rfl) (Calls.evalArgs_plain ?_)
    exact L2.thn hA fun us s2 ⟨vs, H2, I2, r2, q2⟩ => mt_index pins s2 σ H2 (.ref p) vs v us Q I2 r1 r2 q2
  · cases r1
    obtain ⟨_, _, _, _, o', h1, h2, _⟩ := (show ObjOk X.prog X.w H1 s1.heap p (.frz ob (.tup ys)) from I1.hok p _ hq)
    have hob : s1.heap.get? p = some ob := by
      have := I1.hok p _ hq
      exact this.1
    refine ⟨"tuple", "tuple.index", PySem.F.plainAttrs_tuple, PySem.F.slot_tuple_index, PySem.F.type_tuple_index, ⟨o', h1, h2⟩, fun a e => by cases e; exact ⟨ob, hob, hn⟩, ?_⟩
    have hA := ha.run cpos pins s1 σ H1 _ I1 q1
    rw [hs] at hA ⊢
    refine Calls.callWith_builtin (by show (false || (backTo cpos (starEach es X.env)).any (·.1)) = false; rw [hplain] <;> rfl) (Calls.evalArgs_plain ?_)
    exact L2.thn hA fun us s2 ⟨vs, H2, I2, r2, q2⟩ => mt_idxT pins s2 σ H2 (.ref p) vs (.ref p) us Q I2 rfl r2 q2
def idxF (ds : List PyData) (d : PyData) : Option PyData := if flatD d = true ∧ ds.all flatD = true then (ds.findIdx? fun z => PyData.eqv z d).map fun j => .int (j : Nat) else none
def gIdx : PyData → PyData → Option PyData
  | .list ds, d => idxF ds d
  | .tuple ds, d => idxF ds d
  | _, _ => none
theorem idxF_some {ds : List PyData} {d x : PyData} (h : idxF ds d = some x) : flatD d = true ∧ ds.all flatD = true ∧ ∃ (j : Nat) (z : PyData), x = .int (j : Nat) ∧ ds[j]? = some z ∧ PyData.eqv z d = true ∧ ∀ (m : Nat) (z' : PyData), m < j → ds[m]? = some z' → PyData.eqv z' d = false := by
  unfold idxF at h
  obtain ⟨⟨c1, c2⟩, h⟩ := ite_get h
  refine ⟨c1, c2, ?_⟩
  cases hf : ds.findIdx? (fun z => PyData.eqv z d) with
  | none => rw [hf] at h; cases h
  | some j =>
    rw [hf] at h
    cases h
    obtain ⟨hl, h1, h2⟩ := List.findIdx?_eq_some_iff_getElem.mp hf
    refine ⟨j, ds[j], rfl, List.getElem?_eq_getElem hl, h1, fun m z' hm hz => ?_⟩
    obtain ⟨hml, ez⟩ := List.getElem?_eq_some_iff.mp hz
    have := h2 m hm
    rw [← ez]
    exact Bool.eq_false_iff.mpr (by simpa using this)
theorem ed_index (ho : ED K X M o to fo) (ha : ED K X M a ta fa)
    (hs1 : starEach [a] X.env = (false, eval a X.env) :: starEach [] X.env := by rfl)
    (hbase : attributeBase o "index" X.env (eval o X.env) = eval o X.env := by rfl)
    (hfew : ((backTo cpos (starEach [a] X.env)).all (fun x => !x.1) && (backToKw cpos (keywordEach [] X.env)).all (fun x => x.1.isSome)
      && decide ([a].length + ([] : List Keyword).length + (if ([] : List Keyword).isEmpty then 0 else 1) < 30)) = true := by rfl)
    (hline : (apos.endLine == cpos.line) = true := by rfl) (hplain : (backTo cpos (starEach [] X.env)).any (·.1) = false := by rfl) (hK : X.K = K := by rfl) :
    ED K X M (.Call (.Attribute o "index" apos) [a] [] cpos) (tIdx K to (tCons ta tNil)) (f2 gIdx fo fa) := by
  subst hK
  refine ⟨pe_idx ho.pe (pa_cons ha.pe pa_nil hs1) hbase hfew hline hs1 hplain, fun {Hs0 H0 Hs H σ ρ d Q} R hf q => ?_⟩
  obtain ⟨x, h1, hf⟩ := bind_some hf
  obtain ⟨y, h2, hf⟩ := bind_some hf
  refine ho.sm R h1 fun v Hs1 H1 g1 d1 => ?_
  cases d1 with
  | @lst p xs ds hp t =>
    obtain ⟨c1, c2, j, z, rfl, hj, hz, hm⟩ := idxF_some hf
    refine ⟨p, rfl, .inl ⟨⟨xs, sqL_of (g1.sub _ _ hp)⟩, ha.sm (R.grow g1) h2 fun u Hs2 H2 g2 d2 => ?_⟩⟩
    have t2 := t.mono g2.exs
    obtain ⟨zv, hzv, dz⟩ := t2.get hj
    refine ⟨p, xs, u, j, zv, rfl, rfl, sqL_of (g2.sub _ _ (g2.exs _ _ hp)), flat_dv d2 c1, flats_dv t2 c2, hzv, ?_, fun m z' hmj hz' => ?_, q _ Hs2 H2 (g1.trans g2) (.int _)⟩
    · rw [eqV_dv dz d2 (List.all_eq_true.mp c2 z (List.mem_of_getElem? hj)) c1]; exact hz
    · obtain ⟨dm, h3, h4⟩ := t2.getv hz'
      rw [eqV_dv h4 d2 (List.all_eq_true.mp c2 dm (List.mem_of_getElem? h3)) c1]
      exact hm m dm hmj h3
  | @tup p ob xs ds hn hp t =>
    obtain ⟨c1, c2, j, z, rfl, hj, hz, hm⟩ := idxF_some hf
    refine ⟨p, rfl, .inr ⟨⟨ob, xs, hn, g1.sub _ _ hp⟩, ha.sm (R.grow g1) h2 fun u Hs2 H2 g2 d2 => ?_⟩⟩
    have t2 := t.mono g2.exs
    obtain ⟨zv, hzv, dz⟩ := t2.get hj
    refine ⟨p, xs, u, j, zv, rfl, rfl, sqT_of (g2.sub _ _ (g2.exs _ _ hp)), flat_dv d2 c1, flats_dv t2 c2, hzv, ?_, fun m z' hmj hz' => ?_, q _ Hs2 H2 (g1.trans g2) (.int _)⟩
    · rw [eqV_dv dz d2 (List.all_eq_true.mp c2 z (List.mem_of_getElem? hj)) c1]; exact hz
    · obtain ⟨dm, h3, h4⟩ := t2.getv hz'
      rw [eqV_dv h4 d2 (List.all_eq_true.mp c2 dm (List.mem_of_getElem? h3)) c1]
      exact hm m dm hmj h3
  | _ => cases hf

/-! ### own lists: extend, an item of one, and the rest that only reads -/
@[simp] def gExt (i : Nat) (f : Rho → Option (List PyData)) : Gn := fun ρ => (lstAt i ρ).bind fun ds => (f ρ).bind fun es => if ds.length + es.length ≤ 1000000 then some (.nx (ρ.set i (some (.list (ds ++ es))))) else none
theorem sd_extend (i : Nat) {x : Str} {f : Rho → Option (List PyData)} (h : FD K X M e te f) (hN : X.N[i]? = some x := by rfl) (hv : Vis X.env.scope x := by first | exact Or.inl rfl | exact Or.inr (Or.inl rfl) | exact Or.inr (Or.inr rfl)) (hM : M.contains i = true := by rfl)
    (hbase : attributeBase (.Name x pos') "extend" X.env (eval (.Name x pos') X.env) = eval (.Name x pos') X.env := by rfl)
    (hfew : ((backTo pos (starEach [e] X.env)).all (fun x => !x.1) && (backToKw pos (keywordEach [] X.env)).all (fun x => x.1.isSome)
      && decide ([e].length + ([] : List Keyword).length + (if ([] : List Keyword).isEmpty then 0 else 1) < 30)) = true := by rfl)
    (hline : (apos.endLine == pos.line) = true := by rfl) (hst : starEach [e] X.env = (false, eval e X.env) :: starEach [] X.env := by rfl) {pos2 : Pos} (hs : swapsWith (.Call (.Attribute (.Name x pos') "extend" apos) [e] [] pos) none pos2.line X.env = pure false := by rfl) (hd : (x == ("__debug__" : Str)) = false := by decide) (hcd : (x == ("__classdict__" : Str)) = false := by decide) :
    SD K xc X M W (.Expr (.Call (.Attribute (.Name x pos') "extend" apos) [e] [] pos) pos2) (tDrop (tBM X.K "list" rExtend (tVar i) (tCons te tNil))) (gExt i f) :=
  ⟨ps_expr (pe_bm PySem.F.plainAttrs_list PySem.F.slot_list_extend PySem.F.type_list_extend mt_extend (pe_var hN hv hd hcd) (pa_cons h.pe pa_nil hst) hbase hfew hline hst rfl) hs, fun {Hs0 H0 Hs H σ ρ r D} R hf o => by
    obtain ⟨ds, h1, h2⟩ := bind_some hf
    obtain ⟨es, h3, h4⟩ := bind_some h2
    obtain ⟨hl, rfl⟩ := ite_some h4
    have hρ := lstAt_some h1
    obtain ⟨p, xs, e1, e2, e3, e4, e5⟩ := R.ownAt hρ hM
    refine ⟨.ref p, e1, .inl ⟨rfl, _, sqL_of e2⟩, h.sm R h3 fun q zs Hs1 H1 g1 hq hsq hH d1 => ?_⟩
    refine ⟨p, q, xs, zs, rfl, rfl, g1.ex _ _ e2, hH, szM (by rw [e5.length, d1.length]; exact hl), ?_⟩
    exact o Hs1 _ σ g1.exs ((R.grow g1).upd hM e1 ⟨_, hρ⟩ (g1.new p e3 (by rw [e2]; simp)) e4 ((e5.mono g1.exs).append d1))⟩
/-- an item of an own list -/
@[simp] def fOwnIx (i : Nat) (fb : Fn) : Fn := fun ρ => (lstAt i ρ).bind fun ds => (fb ρ).bind fun k => match k with
  | .int k => atI ds k
  | _ => none
@[simp] def gRets (g : Gn) : Gn := fun ρ => (g ρ).bind fun r => match r with
  | .ret d => some (.ret d)
  | _ => none
theorem ss_rets {rest : List Stmt} {t : TS} {g : Gn} (h : SS K xc X [] W rest t g) : SS K xc X M W rest t (gRets g) :=
  ⟨h.ps, fun {Hs0 H0 Hs H σ ρ r D} R hf o => by
    obtain ⟨r1, h1, h2⟩ := bind_some hf
    cases r1 with
    | ret d =>
      obtain rfl := Option.some.inj h2
      obtain ⟨Hp', e1, R1, _⟩ := R.thaw
      exact h.sm R1 h1 o
    | _ => cases h2⟩
end
end DL

namespace DL
open PySem PySem.Spec PyProof.Rows L2
/-! ### the first place of a number -/
def ixI : List Int → Int → Nat
  | [], _ => 0
  | a :: l, x => if a = x then 0 else ixI l x + 1
theorem findIdx_ints (x : Int) : ∀ l : List Int, x ∈ l → (l.map PyData.int).findIdx? (fun z => PyData.eqv z (.int x)) = some (ixI l x)
  | [], h => by cases h
  | a :: l, h => by
    rw [List.map_cons, List.findIdx?_cons, emb_int a x]
    unfold ixI
    by_cases e : a = x
    · rw [if_pos e]; simp [e]
    · have h' : x ∈ l := by
        rcases List.mem_cons.mp h with z | z
        · exact absurd z.symm e
        · exact z
      rw [if_neg e, findIdx_ints x l h']
      simp [e]
theorem ixI_get {x : Int} : ∀ {l : List Int}, x ∈ l → l[ixI l x]? = some x
  | [], h => by cases h
  | a :: l, h => by
    unfold ixI
    by_cases e : a = x
    · rw [if_pos e]; simp [e]
    · have h' : x ∈ l := by
        rcases List.mem_cons.mp h with z | z
        · exact absurd z.symm e
        · exact z
      rw [if_neg e, List.getElem?_cons_succ]
      exact ixI_get h'
theorem ixI_lt {x : Int} {l : List Int} (h : x ∈ l) : ixI l x < l.length := (List.getElem?_eq_some_iff.mp (ixI_get h)).1
theorem ixI_getD {x : Int} {l : List Int} (h : x ∈ l) : l.getD (ixI l x) 0 = x := by
  rw [List.getD_eq_getElem?_getD, ixI_get h]
  rfl
theorem ixI_of {l : List Int} (h : l.Nodup) {i : Nat} (hi : i < l.length) : ixI l (l.getD i 0) = i :=
  getD_inj h (ixI_lt (getD_mem hi)) hi (ixI_getD (getD_mem hi))
theorem gIdx_list {l : List Int} {x : Int} (h : x ∈ l) : gIdx (.list (l.map .int)) (.int x) = some (.int (ixI l x)) := by
  show idxF _ _ = _
  unfold idxF
  rw [if_pos ⟨rfl, flat_ints l⟩, findIdx_ints x l h]
  rfl
theorem gIdx_tup {l : List Int} {x : Int} (h : x ∈ l) : gIdx (.tuple (l.map .int)) (.int x) = some (.int (ixI l x)) := by
  show idxF _ _ = _
  unfold idxF
  rw [if_pos ⟨rfl, flat_ints l⟩, findIdx_ints x l h]
  rfl
/-- the numbers below to that are met, in order -/
theorem met_sset {a : Mp} (h : Wf a) : ((List.range a.1.toNat).filter (fun (i : Nat) => decide ((i : Int) ∈ a.2))).map (fun (i : Nat) => (i : Int)) = sset a.2 := by
  refine rise_eq ?_ (sset_lt a.2) fun x => ?_
  · rw [List.pairwise_map]
    exact (List.pairwise_lt_range.filter _).imp fun h => by omega
  · rw [sset_mem, List.mem_map]
    constructor
    · rintro ⟨i, hi, rfl⟩
      exact of_decide_eq_true (List.mem_filter.mp hi).2
    · intro hx
      have := h.lt x hx
      have hr := h.rng
      refine ⟨x.toNat, List.mem_filter.mpr ⟨List.mem_range.mpr (by omega), ?_⟩, by omega⟩
      rw [decide_eq_true_eq, show ((x.toNat : Nat) : Int) = x by omega]
      exact hx
theorem sset_le_to {a : Mp} (h : Wf a) : ((sset a.2).length : Int) ≤ a.1 := by
  have hr := h.rng
  have := nodup_len (rise_nodup (sset_lt a.2)) (rise_nodup (idr_lt a.1.toNat)) fun x hx => mem_idr.mpr (by have := h.lt x (sset_mem.mp hx); omega)
  rw [idr_len] at this
  omega
end DL

namespace DL
open PySem PySem.Spec PyProof.Rows L2
/-- a loop that goes on or returns -/
theorem forF_ix {tg : PyData → Rho → Option Rho} {b : Gn} (P : Nat → Rho → Prop) (R : PyData → Prop) : ∀ (ds : List PyData) (n : Nat) (ρ : Rho), (∀ i d, ds[i]? = some d → ∀ ρ, P (n + i) ρ → ∃ ρ1, tg d ρ = some ρ1 ∧ ((∃ ρ', b ρ1 = some (.nx ρ') ∧ P (n + i + 1) ρ') ∨ ∃ r, b ρ1 = some (.ret r) ∧ R r)) → P n ρ →
    (∃ ρ', forF tg b ds ρ = some (.nx ρ') ∧ P (n + ds.length) ρ') ∨ ∃ r, forF tg b ds ρ = some (.ret r) ∧ R r
  | [], n, ρ, _, h => .inl ⟨ρ, rfl, h⟩
  | d :: ds, n, ρ, h, hp => by
    obtain ⟨ρ1, h1, h2⟩ := h 0 d rfl ρ hp
    rcases h2 with ⟨ρ2, h2, h3⟩ | ⟨r, h2, h3⟩
    · have ih := forF_ix P R ds (n + 1) ρ2 (fun i d' hd ρ hp => by
        have := h (i + 1) d' hd ρ (by rw [show n + (i + 1) = n + 1 + i by omega]; exact hp)
        rwa [show n + (i + 1) = n + 1 + i by omega] at this) h3
      unfold forF
      rw [h1, Option.bind_some, h2, Option.bind_some]
      rw [show n + 1 + ds.length = n + (d :: ds).length by rw [List.length_cons]; omega] at ih
      exact ih
    · refine .inr ⟨r, ?_, h3⟩
      unfold forF
      rw [h1, Option.bind_some, h2]
      rfl
/-- .. over the ints of a row with their places -/
theorem for_en {fs : Fn} {j1 j2 : Nat} {b : Gn} {ρ : Rho} {r : List Int} {d : PyData} (P : Nat → Rho → Prop) (R : PyData → Prop) (h1 : fs ρ = some d) (hd : d = .tuple (r.map .int) ∨ d = .list (r.map .int))
    (h : ∀ i, i < r.length → ∀ ρ, P i ρ → (∃ ρ', b ((ρ.set j1 (some (.int i))).set j2 (some (.int (r.getD i 0)))) = some (.nx ρ') ∧ P (i + 1) ρ') ∨ ∃ x, b ((ρ.set j1 (some (.int i))).set j2 (some (.int (r.getD i 0)))) = some (.ret x) ∧ R x) (h0 : P 0 ρ) :
    (∃ ρ', gFor (iEn fs) (hSeq 2 (hCons (hName j1) (hCons (hName j2) hNil))) b ρ = some (.nx ρ') ∧ P r.length ρ') ∨ ∃ x, gFor (iEn fs) (hSeq 2 (hCons (hName j1) (hCons (hName j2) hNil))) b ρ = some (.ret x) ∧ R x := by
  have e : iEn fs ρ = some ((List.range r.length).map fun (i : Nat) => PyData.tuple [.int i, .int (r.getD i 0)]) := by
    unfold iEn
    rw [h1, Option.bind_some]
    rcases hd with rfl | rfl <;> simp only [enD_ints]
  have := forF_ix (tg := hSeq 2 (hCons (hName j1) (hCons (hName j2) hNil))) (b := b) P R ((List.range r.length).map fun (i : Nat) => PyData.tuple [.int i, .int (r.getD i 0)]) 0 ρ (fun i d hd ρ hp => by
    have hi : i < r.length := by
      have := (List.getElem?_eq_some_iff.mp hd).1
      rwa [List.length_map, List.length_range] at this
    rw [List.getElem?_map, List.getElem?_range hi] at hd
    cases hd
    rw [Nat.zero_add] at hp ⊢
    exact ⟨_, rfl, h i hi ρ hp⟩) h0
  rw [List.length_map, List.length_range, Nat.zero_add] at this
  unfold gFor
  rw [e, Option.bind_some]
  exact this
/-- .. over a range -/
theorem for_rg {h' : Rho → Option (List PyData)} {j : Nat} {b : Gn} {ρ : Rho} {lo : Int} {n : Nat} (P : Nat → Rho → Prop) (R : PyData → Prop) (h1 : h' ρ = some (rgD lo n))
    (h : ∀ i, i < n → ∀ ρ, P i ρ → (∃ ρ', b (ρ.set j (some (.int (lo + i)))) = some (.nx ρ') ∧ P (i + 1) ρ') ∨ ∃ x, b (ρ.set j (some (.int (lo + i)))) = some (.ret x) ∧ R x) (h0 : P 0 ρ) :
    (∃ ρ', gFor h' (hName j) b ρ = some (.nx ρ') ∧ P n ρ') ∨ ∃ x, gFor h' (hName j) b ρ = some (.ret x) ∧ R x := by
  have := forF_ix (tg := hName j) (b := b) P R (rgD lo n) 0 ρ (fun i d hd ρ hp => by
    have hi : i < n := by
      have := (List.getElem?_eq_some_iff.mp hd).1
      rwa [rgD_len] at this
    rw [rgD_get hi] at hd
    cases hd
    rw [Nat.zero_add] at hp ⊢
    exact ⟨_, rfl, h i hi ρ hp⟩) h0
  rw [rgD_len, Nat.zero_add] at this
  unfold gFor
  rw [h1, Option.bind_some]
  exact this
theorem shK_str {k : Nat} (hk : 1 ≤ k) {x : Str} (h : PyData.canLay0 (.str x) = true) : shK k (.str x) := ⟨h, by simp [PyData.depth] <;> omega⟩
theorem gEq_str (neg : Bool) {x y : Str} (hx : PyData.canLay0 (.str x) = true) (hy : PyData.canLay0 (.str y) = true) : gEq neg (.str x) (.str y) = some (.bool (xor neg (x == y))) := by
  unfold gEq
  rw [if_pos ⟨shaped_of (shK_str (k := 1) (by decide) hx), shaped_of (shK_str (k := 1) (by decide) hy)⟩]
  rfl
theorem ixN_of {n : Nat} {x : Int} (h : 0 ≤ x ∧ x < n) : ixN n x = some x.toNat := by
  unfold ixN
  rw [if_pos h.1, if_pos h.2]
theorem ix_row {m : Mp} {i : Nat} (h : i < m.2.length) : gIx (.tuple (m.2.map .int)) (.int i) = some (.int (m.2.getD i 0)) := by
  rw [gIx_tuple, atI_ints (by omega), show ((i : Int)).toNat = i by omega]
end DL

namespace DL
open PySem PySem.Spec PyProof.Rows L2
section
variable {K : PySem.W.Frag} {X : Cx} {M : List Nat} {xc : Nat → Addr} {W : WX} {a b e o tg : Expr} {ta tb te to : TE} {fa fb f fo : Fn} {pos p p2 pos' apos cpos : Pos}
/-! ### x.bit_length() -/
@[simp] def gBits : PyData → Option PyData
  | .int i => some (.int (Builtin.Int.intBits i : Nat))
  | _ => none
theorem ed_bits (ho : ED K X M o to fo) (hbase : attributeBase o "bit_length" X.env (eval o X.env) = eval o X.env := by rfl) (hline : (apos.endLine == pos.line) = true := by rfl) : ED K X M (.Call (.Attribute o "bit_length" apos) [] [] pos) (tBits to) (f1 gBits fo) :=
  ⟨pe_bits ho.pe hbase hline, fun {Hs0 H0 Hs H σ ρ d Q} R hf q => by
    obtain ⟨x, h1, h2⟩ := bind_some hf
    refine ho.sm R h1 fun v Hs1 H1 g1 d1 => ?_
    cases d1 with
    | int i =>
      obtain rfl := Option.some.inj h2
      exact ⟨i, rfl, q _ Hs1 H1 g1 (.int _)⟩
    | _ => cases h2⟩
/-! ### for x in reversed(range(n)) -/
def rvD (n : Nat) : List PyData := (List.range n).map fun (i : Nat) => PyData.int ((n : Int) - 1 - i)
theorem rvD_len (n : Nat) : (rvD n).length = n := by unfold rvD; rw [List.length_map, List.length_range]
theorem rvD_get {n i : Nat} (h : i < n) : (rvD n)[i]? = some (.int ((n : Int) - 1 - i)) := by
  unfold rvD
  rw [List.getElem?_map, List.getElem?_range h]
  rfl
theorem yields_rv {Hs : Hp} {n : Nat} {lo : Int} (hlo : lo = (n : Int) - 1) : Yields K (Dd K) (Itc lo (-1) n) Hs (rvD n) where
  go := fun i H e hi => by rw [rvD_len] at hi; exact hi
  stop := fun i H e hi => by rw [rvD_len] at hi; exact hi
  yld := fun i H x H' Hs2 hi e1 e2 h => by
    obtain ⟨rfl, rfl⟩ := h
    rw [rvD_len] at hi
    refine ⟨Hs2, Grow.refl e2, _, rvD_get hi, ?_⟩
    rw [show lo + (i : Nat) * (-1) = (n : Int) - 1 - i by omega]
    exact .int _
@[simp] noncomputable def iRv (f : Fn) : Rho → Option (List PyData) := fun ρ => (f ρ).bind fun d => match d with
  | .int j => if B62 j then some (rvD j.toNat) else none
  | _ => none
theorem id_revR {pos2 : Pos} (ha : ED K X M a ta f) (hm : X.mg "range" = none) (hm2 : X.mg "reversed" = none) (hg : Gl X "range" := by rfl) (hg2 : Gl X "reversed" := by rfl) (na : starEach [a] X.env = (false, eval a X.env) :: starEach [] X.env := by rfl)
    (hs : starEach [.Call (.Name "range" p) [a] [] pos] X.env = (false, eval (.Call (.Name "range" p) [a] [] pos) X.env) :: starEach [] X.env := by rfl) :
    ID K X M (Dd K) tg (.Call (.Name "reversed" p2) [.Call (.Name "range" p) [a] [] pos] [] pos2) (iRevR (tRg1 ta)) (iRv f) :=
  ⟨pi_revR hg2 hm2 (prg_1 hg hm ha.pe na) hs, fun {Hs0 H0 Hs H σ ρ ds R} r hf q => by
    obtain ⟨d, h1, h2⟩ := bind_some hf
    refine ha.sm r h1 fun v Hs1 H1 g1 d1 => ?_
    cases d1 with
    | int j =>
      obtain ⟨hb, rfl⟩ := ite_some h2
      refine ⟨j, rfl, by decide, by decide, hb.1, hb.2, q _ Hs1 H1 g1 ?_⟩
      rw [show (j - 0).toNat = j.toNat by omega]
      exact yields_rv (by omega)
    | _ => cases h2⟩
/-! ### x, y = a, b -/
@[simp] def gPar (i j : Nat) (fa fb : Fn) : Gn := fun ρ => (fa ρ).bind fun d => (fb ρ).bind fun d' => some (.nx ((ρ.set i (some d)).set j (some d')))
theorem sd_par (i j : Nat) {x y : Str} {px py pt pt2 : Pos} {kt k2 : Nat} (hN : X.N.Nodup) (ha : ED K X M a ta fa) (hb : ED K X M b tb fb)
    (hi : X.N[i]? = some x := by rfl) (hj : X.N[j]? = some y := by rfl) (hij : i ≠ j := by decide) (hMi : M.contains i = false := by rfl) (hMj : M.contains j = false := by rfl)
    (hx : X.env.scope.names.lookup x = some .local := by rfl) (hy : X.env.scope.names.lookup y = some .local := by rfl) (hc : X.calm = true := by rfl)
    (hw : swappedStores [.Tuple [.Name x px, .Name y py] kt pt] (.Tuple [a, b] k2 pt2) X.env = pure (some [x, y]) := by rfl)
    (hs : swapsWithSole [.Tuple [.Name x px, .Name y py] kt pt] (.Tuple [a, b] k2 pt2) pos.line X.env = pure false := by rfl)
    (n1 : starEach [a, b] X.env = (false, eval a X.env) :: starEach [b] X.env := by rfl) (n2 : starEach [b] X.env = (false, eval b X.env) :: starEach [] X.env := by rfl) :
    SD K xc X M W (.Assign [.Tuple [.Name x px, .Name y py] kt pt] (.Tuple [a, b] k2 pt2) pos) (tPar i j (tCons ta (tCons tb tNil))) (gPar i j fa fb) :=
  ⟨ps_par hc hN hi hj hij hx hy (pa_cons ha.pe (pa_cons hb.pe pa_nil n2) n1) hw hs, fun {Hs0 H0 Hs H σ ρ r D} R hf o => by
    obtain ⟨d, h1, hf⟩ := bind_some hf
    obtain ⟨d', h2, hf⟩ := bind_some hf
    obtain rfl := Option.some.inj hf
    refine ha.sm R h1 fun v Hs1 H1 g1 d1 => ?_
    refine hb.sm (R.grow g1) h2 fun u Hs2 H2 g2 d2 => ?_
    exact ⟨v, u, rfl, o Hs2 H2 _ (g1.exs.trans g2.exs) ((((R.grow g1).grow g2).set hMi (d1.mono g2.exs)).set hMj d2)⟩⟩
/-! ### an item of an own list -/
theorem ed_ownIx (i : Nat) {x : Str} (hb : ED K X M b tb fb) (hN : X.N[i]? = some x := by rfl) (hv : Vis X.env.scope x := by first | exact Or.inl rfl | exact Or.inr (Or.inl rfl) | exact Or.inr (Or.inr rfl)) (hM : M.contains i = true := by rfl)
    (hd : (x == ("__debug__" : Str)) = false := by decide) (hcd : (x == ("__classdict__" : Str)) = false := by decide) (hs : PlainIx b := by exact fun _ _ => rfl) (hK : X.K = K := by rfl) :
    ED K X M (.Subscript (.Name x pos') b pos) (tOp (rIx K) (tVar i) tb) (fOwnIx i fb) := by
  subst hK
  refine ⟨pe_ix ix_seq (pe_var hN hv hd hcd) hb.pe hs, fun {Hs0 H0 Hs H σ ρ d Q} R hf q => ?_⟩
  obtain ⟨ds, h1, hf⟩ := bind_some hf
  obtain ⟨k, h2, hf⟩ := bind_some hf
  have hρ := lstAt_some h1
  obtain ⟨p0, xs, e1, e2, e3, e4, e5⟩ := R.ownAt hρ hM
  refine ⟨.ref p0, e1, hb.sm R h2 fun u Hs1 H1 g1 d1 => ?_⟩
  cases d1 with
  | int j =>
    obtain ⟨v, h3, h4⟩ := (e5.mono g1.exs).at hf
    exact .inl ⟨p0, xs, j, v, rfl, rfl, sqL_of (g1.ex _ _ e2), h3, q v Hs1 H1 g1 h4⟩
  | _ => cases hf
/-! ### a plain thing, read off with the own lists held still -/
@[simp] def fFlat (f : Fn) : Fn := fun ρ => (f ρ).bind fun d => if flatD d = true then some d else none
theorem dd_flat {Hs Hs' : Hp} {v : V} {d : PyData} (h : Dd K Hs v d) (hf : flatD d = true) : Dd K Hs' v d := by
  cases h <;> first | exact absurd hf Bool.false_ne_true | constructor
theorem ed_flat (h : ED K X [] e te f) : ED K X M e te (fFlat f) :=
  ⟨h.pe, fun {Hs0 H0 Hs H σ ρ d Q} R hf q => by
    obtain ⟨d', h1, h2⟩ := bind_some hf
    obtain ⟨hfl, rfl⟩ := ite_some h2
    obtain ⟨Hp', e1, _, R1⟩ := R.thaw
    exact h.sm R1 h1 fun v Hs1 H1 g1 d1 => q v Hs H1 (Grow.idle R.sub g1.ex) (dd_flat d1 hfl)⟩
theorem dds_flat {Hs Hs' : Hp} : ∀ {vs : List V} {ds : List PyData}, DdAll K Hs vs ds → ds.all flatD = true → DdAll K Hs' vs ds
  | _, _, .nil, _ => .nil
  | _, _, .cons a r, f => by
    rw [List.all_cons, Bool.and_eq_true] at f
    exact .cons (dd_flat a f.1) (dds_flat r f.2)
@[simp] def lFlat (f : Rho → Option (List PyData)) : Rho → Option (List PyData) := fun ρ => (f ρ).bind fun ds => if ds.all flatD = true then some ds else none
theorem fd_flat {f : Rho → Option (List PyData)} (h : FD K X [] e te f) : FD K X M e te (lFlat f) :=
  ⟨h.pe, fun {Hs0 H0 Hs H σ ρ d Q} R hf q => by
    obtain ⟨d', h1, h2⟩ := bind_some hf
    obtain ⟨hfl, rfl⟩ := ite_some h2
    obtain ⟨Hp', e1, _, R1⟩ := R.thaw
    exact h.sm R1 h1 fun p0 xs Hs1 H1 g1 hp hsp hH d1 => q p0 xs Hs H1 (Grow.idle R.sub g1.ex) hp (R.sub.free hp) hH (dds_flat d1 hfl)⟩
/-! ### x = y, y an own list that is not used after -/
@[simp] def gGive (j i : Nat) : Gn := fun ρ => (lstAt i ρ).bind fun ds => some (.nx ((ρ.set j (some (.list ds))).set i none))
/-! ### x = y.pop() -/
@[simp] def gPop (j i : Nat) : Gn := fun ρ => (lstAt i ρ).bind fun ds => (ds[ds.length - 1]?).bind fun d => some (.nx ((ρ.set i (some (.list ds.dropLast))).set j (some d)))
end
end DL

namespace DL
open PySem PySem.Spec PyProof.Rows L2
/-! ### set(a list of ints), with its table in view -/
abbrev setOb (w : World) : Obj := { cls := .type "set", dict := none, data := .set #[] 0 (.fresh 0 0 (!w.params.followText "set-order")) }
theorem call_setL {P : Program} {w : World} {A : Around} {E : Value → Shared → Prop} {s : Shared} {q : Addr} {vs : Array Value} (ns : List Int) {Q : Value → Shared → Prop} (calm : A.handled = none) (isL : s.heap.IsList q vs) (hin : IntsAre vs.toList ns) (few : ns.length + 1 < scanBound)
    (done : ∀ (hp : Heap) (t n : Nat), SetR w hp s.heap.objs.size (fun j => decide (j ∈ ns)) n → n ≤ ns.length → (∀ b u, s.heap.get? b = some u → hp.get? b = some u) → Q (.ref s.heap.objs.size) { s with heap := hp, toks := t }) :
    wpAny (model P w) A (call (.type "set") [.ref q]) Q E s := by
  have nv : vs.size = ns.length := by
    have z := IntsAre.length hin
    rwa [Array.length_toList] at z
  obtain ⟨_, _, mro⟩ := F.called_set.mro
  have mk := F.called_set.made
  have sb := F.called_set.sub
  have nt := F.called_set.notType
  have cc := F.called_set.canCreate
  have tc := F.typeCall_set_1 (.ref q)
  refine wpAny_call (codeAny_of_tree ?_)
  show wpAny _ _ (callAny (.type "set") _) _ _ _
  refine wpAny_pure ⟨Code.quiet_builtin _ (by decide +kernel), codeAny_builtin F.entry_type_call ?_⟩
  rw [Around.under_plain (weight_type_call_type "set" [.ref q] []) rfl]
  repeat (any_goals (first | assumption | wp_step))
  refine codeAny_mono (code_set_led1 (.ref q) (E := E) (Q₁ := fun v s1 => v = .ref s.heap.objs.size ∧ s1 = { s with heap := s.heap.push (setOb w) }) ⟨rfl, rfl⟩) fun r s1 hr => ?_
  cases r with
  | error e => exact hr
  | ok fl =>
    cases fl with
    | ret v =>
      obtain ⟨rfl, rfl⟩ := hr
      have at0 : (s.heap.push (setOb w)).get? s.heap.objs.size = some (setOb w) := Heap.get?_push_size _ rfl
      have ty0 : Shared.TypeIs { s with heap := s.heap.push (setOb w) } (.ref s.heap.objs.size) "set" := ⟨_, at0, rfl⟩
      have lk := F.called_set.init.lookup
      have bd := F.called_set.init.bind (.ref s.heap.objs.size)
      repeat (any_goals (first | assumption | wp_step))
      refine codeAny_mono (codeAny_call_builtin (R := wants (fun r s2 => r = .none ∧ ∃ hp t n, s2 = { s with heap := hp, toks := t } ∧ SetR w hp s.heap.objs.size (fun j => decide (j ∈ ns)) n ∧ n ≤ ns.length ∧ (∀ b u, s.heap.get? b = some u → hp.get? b = some u)) E)
        F.called_set.init.plain F.entry_set_init (check_set_init_1 ty0 ?_)) fun r2 s2 hr2 => ?_
      · obtain ⟨⟨oc, od, odt, osl⟩, ho, e1, n0, e2⟩ := isL
        simp only at e1 e2
        subst e1 e2
        have ho1 : (s.heap.push (setOb w)).get? q = some { cls := .type "list", dict := od, data := .seq vs n0, slots := osl } := Heap.get?_push_of_some _ ho
        have ls := F.sub_list_set
        have lf := F.sub_list_frozenset
        have nd : (Value.type "list" == Value.type "dict") = false := by decide
        have isL1 : (s.heap.push (setOb w)).IsList q vs := ⟨_, ho1, rfl, n0, rfl⟩
        unfold Builtin.«set.__init__» noKeywords Builtin.Frozenset.updateFrom
        generalize gi : pyIter = it
        wp_walk
        subst gi
        refine wpAny_pyIter_list isL1 (wpAny_bind (wpAny_runValue ?_))
        have ql : q < s.heap.objs.size := Heap.lt_size ho
        have zz : (s.heap.push (setOb w)).objs.size = s.heap.objs.size + 1 := Heap.size_push ..
        have q1 : q ≠ (s.heap.push (setOb w)).objs.size := by rw [zz]; exact Nat.ne_of_lt (Nat.lt_succ_of_lt ql)
        have calm3 : A.in1.in1.in1.handled = none := by simp [calm]
        have out : s.heap.objs.size ∉ [(s.heap.push (setOb w)).objs.size, q] := by
          rw [zz]
          intro hm
          rcases List.mem_cons.mp hm with z | z
          · exact Nat.ne_of_lt (Nat.lt_succ_self _) z
          · exact Nat.ne_of_gt ql (List.mem_singleton.mp z)
        have val : ∀ (i : Nat) (v : Value), vs[i]? = some v → ∃ k t, ns[i]? = some k ∧ v = .int k t := fun i v hv => by
          have il : i < ns.length := by rw [← nv]; exact (Array.getElem?_eq_some_iff.mp hv).1
          obtain ⟨t, e⟩ := IntsAre.int_at hin i v (by rw [Array.getElem?_toList]; exact hv)
          exact ⟨ns[i], t, List.getElem?_eq_getElem il, by rw [e, List.getD_eq_getElem?_getD, List.getElem?_eq_getElem il] <;> rfl⟩
        refine set_update_ints ((Walks.list calm3 _ q q1 vs).toS) s.heap.objs.size out ns nv few val (vs.size - 0) 0 _ (by omega) (Nat.zero_le _) ⟨⟨_, Heap.get?_push_size _ rfl, rfl, rfl⟩, isL1.push _⟩ ?start ?fin
        case start =>
          exact ⟨0, Nat.le_refl 0, setR_new_at (Heap.get?_push_of_some _ at0)⟩
        case fin =>
          intro s' n mv hn hS
          obtain ⟨hp, g, d, t, os⟩ := s'
          have eg : g = s.gens := mv.gens
          have ed : d = s.drawn := mv.drawn
          have eo : os = s.os := mv.os
          subst eg ed eo
          show wpAny _ _ _ _ _ _
          refine wpAny_pure ?_
          show wpAny _ _ (ret Value.none) _ _ _
          rw [nv] at hn
          refine wpAny_pure ⟨rfl, hp, t, n, rfl, hS, hn, fun b u e => ?_⟩
          have bl := Heap.lt_size e
          refine mv.heap b u (fun hm => ?_) (Heap.get?_push_of_some _ (Heap.get?_push_of_some _ e))
          rcases List.mem_cons.mp hm with z | z
          · exact Nat.ne_of_lt bl z
          · have z := List.mem_singleton.mp z
            rw [zz] at z
            exact Nat.ne_of_lt (Nat.lt_succ_of_lt bl) z
      · cases r2 with
        | error e => exact hr2
        | ok fl2 =>
          cases fl2 with
          | ret r =>
            obtain ⟨rfl, hp, t, n, rfl, hS, hn, hk⟩ := hr2
            repeat (any_goals (first | assumption | wp_step))
            exact done _ _ _ hS hn hk
          | _ => exact hr2.elim
    | _ => exact hr.elim
section
variable {K : PySem.W.Frag} {X : Cx} {M : List Nat} {a : Expr} {ta : TE} {f : Fn} {pos p p2 q : Pos}
/-- set(a list or a tuple of ints) -/
def rSetA (K : PySem.W.Frag) (w : World) : List V → Hp → VK → Prop := fun xs H Q => ∃ (p : Addr) (ns : List Int), xs = [.ref p] ∧ (SqL K H p (ns.map V.int) ∨ SqT K H p (ns.map V.int)) ∧ ns.length ≤ 1000 ∧ ∀ a, H a = none → Q (.ref a) (upd H a (SetO w a (fun j => decide (j ∈ ns)) (sset ns).length))
theorem cr_setA (hc : X.calm = true) : CallR X (.type "set") (rSetA X.K X.w) := by
  intro pins s σ H xs us Q I r h
  obtain ⟨p0, ns, rfl, hq, hl, q⟩ := h
  rcases hq with hq | hq
  · obtain ⟨u, rfl, rx⟩ := vals1 r
    cases rx
    obtain ⟨its, rv, pt, hz⟩ := I.list hq
    have hi : IntsAre its.toArray.toList ns := ints_of_vals rv
    refine call_setL ns (I.ok.hd hc) pt.isList hi (by unfold scanBound; omega) fun h' tk c R1 hcn k => ?_
    have en : c = (sset ns).length := by
      obtain ⟨o, es, ep, t, ho, hex, hdt, g, nd, hm2, hb, hf, hn, hr, hl2⟩ := id R1
      have := sset_len (ns := ns) nd fun x => by rw [← hm2 x, decide_eq_true_eq]
      rw [List.length_map, Array.length_toList] at this
      exact hn.symm.trans this
    subst en
    exact ⟨.ref _, upd H s.heap.objs.size (SetO X.w s.heap.objs.size _ _), I.laid (t' := tk) k (Nat.le_refl _) (setO_new R1), rfl, q _ (I.hok.fresh (Nat.le_refl _))⟩
  · exact cr_setI hc pins s σ H _ us Q I r ⟨p0, ns, rfl, hq, hl, q⟩
def gSortSetA : PyData → Option (List PyData)
  | .tuple ds => (intsD ds).bind fun ns => if ns.length < 64 then some ((sset ns).map .int) else none
  | .list ds => (intsD ds).bind fun ns => if ns.length < 64 then some ((sset ns).map .int) else none
  | _ => none
theorem fd_sortSetA (ha : ED K X M a ta f) (hm : X.mg "sorted" = none) (hm2 : X.mg "set" = none) (hg : Gl X "sorted" := by rfl) (hg2 : Gl X "set" := by rfl) (hc : X.calm = true := by rfl) (hK : X.K = K := by rfl)
    (na : starEach [a] X.env = (false, eval a X.env) :: starEach [] X.env := by rfl) (nb : starEach [.Call (.Name "set" p2) [a] [] q] X.env = (false, eval (.Call (.Name "set" p2) [a] [] q) X.env) :: starEach [] X.env := by rfl)
    (pa : (backTo q (starEach [] X.env)).any (·.1) = false := by rfl) (pb : (backTo pos (starEach [] X.env)).any (·.1) = false := by rfl) :
    FD K X M (.Call (.Name "sorted" p) [.Call (.Name "set" p2) [a] [] q] [] pos) (tCB (rSortedSet X.w) (tCons (tCB (rSetA K X.w) (tCons ta tNil)) tNil)) (fun ρ => (f ρ).bind gSortSetA) := by
  subst hK
  refine ⟨pe_callB (cr_sortedSet hc) hg hm boot_sorted (pa_cons (pe_callTy (cr_setA hc) hg2 hm2 boot_set (pa_cons ha.pe pa_nil na) (by decide) (by decide) na pa) pa_nil nb) (by decide) (by decide) nb pb, fun {Hs0 H0 Hs H σ ρ d Q} R hf qq => ?_⟩
  obtain ⟨dx, h1, h2⟩ := bind_some hf
  refine ha.sm R h1 fun v Hs1 H1 g1 d1 => ?_
  have key : ∀ {l : Addr} {ns : List Int}, (SqL X.K H1 l (ns.map V.int) ∨ SqT X.K H1 l (ns.map V.int)) → ns.length < 64 → (sset ns).map PyData.int = d → rSetA X.K X.w [.ref l] H1 fun v2 H2 => rSortedSet X.w [v2] H2 Q := fun {l ns} hq hl hd => by
    subst hd
    have hle := sset_le ns
    refine ⟨l, ns, rfl, hq, by omega, fun p0 hp0 => ⟨p0, _, _, rfl, upd_same, by omega, fun ns' p1 hs hmm hlen hp1 => ?_⟩⟩
    have e : ns' = sset ns := rise_eq hs (sset_lt ns) fun x => by rw [hmm, decide_eq_true_eq, sset_mem]
    subst e
    have g2 : Grow Hs1 H1 Hs1 (upd H1 p0 (SetO X.w p0 (fun j => decide (j ∈ ns)) (sset ns).length)) := Grow.alloc0 g1.sub hp0
    have g3 := Grow.alloc0 (o := .lst ((sset ns).map V.int)) g2.sub hp1
    have g := (g1.trans g2).trans g3
    exact qq p1 _ Hs1 _ g (g1.ex.free (g2.ex.free hp1)) (g2.sub.free hp1) upd_same (DdAll.ints _)
  cases d1 with
  | @tup l ob xs ds hn hp t =>
    obtain ⟨ns, h3, h4⟩ := bind_some h2
    obtain ⟨hl, hd⟩ := ite_some h4
    have e := ints_dv t h3
    subst e
    exact key (.inr (sqT_of (g1.sub _ _ hp))) hl hd
  | @lst l xs ds hp t =>
    obtain ⟨ns, h3, h4⟩ := bind_some h2
    obtain ⟨hl, hd⟩ := ite_some h4
    have e := ints_dv t h3
    subst e
    exact key (.inl (sqL_of (g1.sub _ _ hp))) hl hd
  | _ => cases h2
end
end DL

namespace DL
open PySem PySem.Spec PyProof.Rows L2
section
variable {K : PySem.W.Frag} {X : Cx} {M : List Nat} {xc : Nat → Addr} {W : WX} {a b e o tg : Expr} {ta tb te to : TE} {fa fb f fo : Fn} {pos p p2 pos' apos cpos : Pos}
/-! ### x = y, y an own list that is let go -/
theorem giveSR {Hs0 H0 Hs H : Hp} {σ : L2.St} {ρ : Rho} {i j : Nat} {ds : List PyData} (r : SR K M Hs0 H0 Hs H σ ρ) (hMi : M.contains i = true) (hMj : M.contains j = false) (hρ : ρ[i]? = some (some (.list ds))) :
    ∃ p Hs', σ[i]? = some (some (.ref p)) ∧ Same Hs Hs' ∧ SR K M Hs0 H0 Hs' H (σ.set j (some (.ref p))) ((ρ.set j (some (.list ds))).set i none) := by
  obtain ⟨p, xs, e1, e2, e3, e4, e5⟩ := r.ownAt hρ hMi
  have sHs : Same Hs (L2.upd Hs p (.lst xs)) := same_new e3
  have hij : i ≠ j := fun z => by rw [z, hMj] at hMi; cases hMi
  have hj : ∀ {k : Nat} {d : PyData}, ((ρ.set j (some (.list ds))).set i none)[k]? = some (some d) → i ≠ k ∧ (if j = k then d = .list ds ∧ k < ρ.length else ρ[k]? = some (some d)) := fun {k d} h => by
    have hik : i ≠ k := fun z => by
      subst z
      have hl := (List.getElem?_eq_some_iff.mp h).1
      rw [List.length_set] at hl
      rw [List.getElem?_set_self hl] at h
      cases h
    rw [List.getElem?_set_ne hik] at h
    refine ⟨hik, ?_⟩
    by_cases hjk : j = k
    · subst hjk
      have hl := (List.getElem?_eq_some_iff.mp h).1
      rw [List.length_set] at hl
      rw [List.getElem?_set_self hl] at h
      rw [if_pos rfl]
      cases h
      exact ⟨rfl, hl⟩
    · rw [if_neg hjk]
      rwa [List.getElem?_set_ne hjk] at h
  refine ⟨p, L2.upd Hs p (.lst xs), e1, sHs, ⟨⟨r.g.ex, r.g.exs.trans sHs, fun c o z => ?_, fun c z n => ?_⟩, by rw [List.length_set, List.length_set, List.length_set]; exact r.len, fun k d h m => ?_, fun k d h m => ?_, fun k l dk dl q h1 h2 m1 m2 h3 h4 => ?_⟩⟩
  · by_cases hc : c = p
    · subst hc; rw [upd_same] at z; rw [e2]; exact z
    · rw [upd_ne hc] at z; exact r.sub c o z
  · have hc : c ≠ p := fun y => n (by rw [y]; exact e4)
    rw [upd_ne hc]
    exact r.g.new c z n
  · obtain ⟨hik, h⟩ := hj h
    by_cases hjk : j = k
    · subst hjk
      rw [if_pos rfl] at h
      obtain ⟨rfl, hl⟩ := h
      exact ⟨.ref p, List.getElem?_set_self (by rw [r.len]; exact hl), .lst upd_same (e5.mono sHs)⟩
    · rw [if_neg hjk] at h
      obtain ⟨v, h1, h2⟩ := r.frz k d h m
      exact ⟨v, by rw [List.getElem?_set_ne hjk]; exact h1, h2.mono sHs⟩
  · obtain ⟨hik, h⟩ := hj h
    have hjk : j ≠ k := fun z => by rw [z, m] at hMj; cases hMj
    rw [if_neg hjk] at h
    obtain ⟨q, ys, es, h1, h2, h3, h4, h5, h6⟩ := r.own k d h m
    have hqp : q ≠ p := fun z => hik (r.sep i k _ _ p hρ h hMi m e1 (by rw [← z]; exact h2))
    exact ⟨q, ys, es, h1, by rw [List.getElem?_set_ne hjk]; exact h2, h3, by rw [upd_ne hqp]; exact h4, h5, h6.mono sHs⟩
  · obtain ⟨_, h1⟩ := hj h1
    obtain ⟨_, h2⟩ := hj h2
    have hjk : j ≠ k := fun z => by rw [z, m1] at hMj; cases hMj
    have hjl : j ≠ l := fun z => by rw [z, m2] at hMj; cases hMj
    rw [if_neg hjk] at h1
    rw [if_neg hjl] at h2
    rw [List.getElem?_set_ne hjk] at h3
    rw [List.getElem?_set_ne hjl] at h4
    exact r.sep k l dk dl q h1 h2 m1 m2 h3 h4
theorem sd_give (j i : Nat) {x y : Str} (hN : X.N.Nodup) (hi : X.N[i]? = some y := by rfl) (hj : X.N[j]? = some x := by rfl) (hv : Vis X.env.scope y := by first | exact Or.inl rfl | exact Or.inr (Or.inl rfl) | exact Or.inr (Or.inr rfl)) (hx : Loc X.env.scope x := by first | exact Or.inl rfl | exact Or.inr rfl)
    (hMi : M.contains i = true := by rfl) (hMj : M.contains j = false := by rfl) (hd : (y == ("__debug__" : Str)) = false := by decide) (hcd : (y == ("__classdict__" : Str)) = false := by decide)
    (hs : swapsWith (.Name y p) (some (.Name x pos')) pos.line X.env = pure false := by rfl) (hf : X.fn x = true ∨ X.env.scope.names.lookup x = some .local := by first | exact .inl rfl | exact .inr rfl) :
    SD K xc X M W (.Assign [.Name x pos'] (.Name y p) pos) (tAsg (tVar i) (gName j)) (gGive j i) :=
  ⟨ps_set hN hj hx (pe_var hi hv hd hcd) hs hf, fun {Hs0 H0 Hs H σ ρ r D} R hf o => by
    obtain ⟨ds, h1, h2⟩ := bind_some hf
    obtain rfl := Option.some.inj h2
    obtain ⟨q, Hs', e1, e2, R'⟩ := giveSR R hMi hMj (lstAt_some h1)
    exact ⟨.ref q, e1, o Hs' H _ e2 R'⟩⟩
/-! ### a new list from two -/
@[simp] def lCat (fa fb : Fn) : Rho → Option (List PyData) := fun ρ => (fa ρ).bind fun x => (fb ρ).bind fun y => match x, y with
  | .list xs, .list ys => if xs.length + ys.length ≤ 1000000 then some (xs ++ ys) else none
  | _, _ => none
theorem fd_cat (ha : ED K X M a ta fa) (hb : ED K X M b tb fb) : FD K X M (.BinOp a .Add b pos) (tOp rCat ta tb) (lCat fa fb) :=
  ⟨pe_op op_cat ha.pe hb.pe, fun {Hs0 H0 Hs H σ ρ d Q} R hf q => by
    obtain ⟨x, h1, hf⟩ := bind_some hf
    obtain ⟨y, h2, hf⟩ := bind_some hf
    refine ha.sm R h1 fun v Hs1 H1 g1 d1 => ?_
    refine hb.sm (R.grow g1) h2 fun u Hs2 H2 g2 d2 => ?_
    cases d1 with
    | @lst p1 xs ds hp t =>
      cases d2 with
      | @lst p2 ys es hp2 t2 =>
        obtain ⟨hl, rfl⟩ := ite_some hf
        have t1 := t.mono g2.exs
        refine ⟨p1, p2, xs, ys, rfl, rfl, g2.sub _ _ (g2.exs _ _ hp), g2.sub _ _ hp2, szM (by rw [t1.length, t2.length]; exact hl), fun p0 hp0 => ?_⟩
        have g3 : Grow Hs2 H2 Hs2 (L2.upd H2 p0 (.lst (xs ++ ys))) := Grow.alloc0 g2.sub hp0
        exact q p0 _ Hs2 _ ((g1.trans g2).trans g3) (g1.ex.free (g2.ex.free hp0)) (g2.sub.free hp0) upd_same (t1.append t2)
      | _ => cases hf
    | _ => cases hf⟩
/-! ### x = y.pop() -/
theorem DdAll.init {Hs : Hp} : ∀ {vs : List V} {ds : List PyData}, DdAll K Hs vs ds → DdAll K Hs vs.dropLast ds.dropLast
  | _, _, .nil => .nil
  | _, _, .cons a .nil => .nil
  | _, _, .cons a (.cons b r) => .cons a (DdAll.init (.cons b r))
theorem sd_popS (j i : Nat) {x y : Str} (hN : X.N.Nodup) (hi : X.N[i]? = some y := by rfl) (hj : X.N[j]? = some x := by rfl) (hv : Vis X.env.scope y := by first | exact Or.inl rfl | exact Or.inr (Or.inl rfl) | exact Or.inr (Or.inr rfl)) (hx : Loc X.env.scope x := by first | exact Or.inl rfl | exact Or.inr rfl)
    (hMi : M.contains i = true := by rfl) (hMj : M.contains j = false := by rfl) (hd : (y == ("__debug__" : Str)) = false := by decide) (hcd : (y == ("__classdict__" : Str)) = false := by decide)
    (hbase : attributeBase (.Name y p) "pop" X.env (eval (.Name y p) X.env) = eval (.Name y p) X.env := by rfl) (hline : (apos.endLine == cpos.line) = true := by rfl)
    (hs : swapsWith (.Call (.Attribute (.Name y p) "pop" apos) [] [] cpos) (some (.Name x pos')) pos.line X.env = pure false := by rfl) (hf : X.fn x = true ∨ X.env.scope.names.lookup x = some .local := by first | exact .inl rfl | exact .inr rfl) :
    SD K xc X M W (.Assign [.Name x pos'] (.Call (.Attribute (.Name y p) "pop" apos) [] [] cpos) pos) (tAsg (tBM0 X.K "list" rPop (tVar i)) (gName j)) (gPop j i) :=
  ⟨ps_set hN hj hx (pe_bm0 PySem.F.plainAttrs_list PySem.F.slot_list_pop PySem.F.type_list_pop mt_pop (pe_var hi hv hd hcd) hbase hline) hs hf, fun {Hs0 H0 Hs H σ ρ r D} R hf o => by
    obtain ⟨ds, h1, h2⟩ := bind_some hf
    obtain ⟨d, h3, h4⟩ := bind_some h2
    obtain rfl := Option.some.inj h4
    have hρ := lstAt_some h1
    obtain ⟨q, xs, e1, e2, e3, e4, e5⟩ := R.ownAt hρ hMi
    obtain ⟨v, h5, h6⟩ := e5.get h3
    rw [← e5.length] at h5
    refine ⟨.ref q, e1, .inl ⟨rfl, _, sqL_of e2⟩, q, xs, v, rfl, rfl, e2, h5, ?_⟩
    have R' := R.upd hMi e1 ⟨_, hρ⟩ e3 e4 e5.init
    exact o Hs _ _ (Same.refl _) (R'.set hMj h6)⟩
/-! ### s.index(x), s a list of any data -/
def idxD (ds : List PyData) (d : PyData) : Option PyData := if SeqAt.shaped (.list ds) = true ∧ SeqAt.shaped d = true then (ds.findIdx? fun z => PyData.eqv z d).map fun j => .int (j : Nat) else none
def gIdxD : PyData → PyData → Option PyData
  | .list ds, d => idxD ds d
  | _, _ => none
theorem idxD_some {ds : List PyData} {d x : PyData} (h : idxD ds d = some x) : SeqAt.shaped (.list ds) = true ∧ SeqAt.shaped d = true ∧ ∃ (j : Nat) (z : PyData), x = .int (j : Nat) ∧ ds[j]? = some z ∧ PyData.eqv z d = true ∧ ∀ (m : Nat) (z' : PyData), m < j → ds[m]? = some z' → PyData.eqv z' d = false := by
  unfold idxD at h
  obtain ⟨⟨c1, c2⟩, h⟩ := ite_get h
  refine ⟨c1, c2, ?_⟩
  cases hf : ds.findIdx? (fun z => PyData.eqv z d) with
  | none => rw [hf] at h; cases h
  | some j =>
    rw [hf] at h
    cases h
    obtain ⟨hl, h1, h2⟩ := List.findIdx?_eq_some_iff_getElem.mp hf
    refine ⟨j, ds[j], rfl, List.getElem?_eq_getElem hl, h1, fun m z' hm hz => ?_⟩
    obtain ⟨hml, ez⟩ := List.getElem?_eq_some_iff.mp hz
    have := h2 m hm
    rw [← ez]
    exact Bool.eq_false_iff.mpr (by simpa using this)
theorem ed_indexD {k : Nat} (hr : Room k X.A) (ho : ED K X M o to fo) (ha : ED K X M a ta fa)
    (hs1 : starEach [a] X.env = (false, eval a X.env) :: starEach [] X.env := by rfl)
    (hbase : attributeBase o "index" X.env (eval o X.env) = eval o X.env := by rfl)
    (hfew : ((backTo cpos (starEach [a] X.env)).all (fun x => !x.1) && (backToKw cpos (keywordEach [] X.env)).all (fun x => x.1.isSome)
      && decide ([a].length + ([] : List Keyword).length + (if ([] : List Keyword).isEmpty then 0 else 1) < 30)) = true := by rfl)
    (hline : (apos.endLine == cpos.line) = true := by rfl) (hplain : (backTo cpos (starEach [] X.env)).any (·.1) = false := by rfl) (hK : X.K = K := by rfl) :
    ED K X M (.Call (.Attribute o "index" apos) [a] [] cpos) (tBM K "list" (rIndexD K) to (tCons ta tNil)) (f2 gIdxD fo fa) := by
  subst hK
  refine ⟨pe_bm PySem.F.plainAttrs_list PySem.F.slot_list_index PySem.F.type_list_index (mt_indexD (by have := hr.un; omega)) ho.pe (pa_cons ha.pe pa_nil hs1) hbase hfew hline hs1 hplain, fun {Hs0 H0 Hs H σ ρ d Q} R hf q => ?_⟩
  obtain ⟨x, h1, hf⟩ := bind_some hf
  obtain ⟨y, h2, hf⟩ := bind_some hf
  refine ho.sm R h1 fun v Hs1 H1 g1 d1 => ?_
  cases d1 with
  | @lst p1 xs ds hp t =>
    obtain ⟨c1, c2, j, z, rfl, hj, hz, hm⟩ := idxD_some hf
    refine ⟨.inl ⟨rfl, xs, sqL_of (g1.sub _ _ hp)⟩, ha.sm (R.grow g1) h2 fun u Hs2 H2 g2 d2 => ?_⟩
    have dl : Dp X.K H2 (.ref p1) (.list ds) := (((Dd.lst hp t : Dd X.K Hs1 (.ref p1) (.list ds)).mono g2.exs).mono g2.sub).dp (SeqAt.canLay_of_shaped c1)
    exact ⟨p1, u, y, ds, j, z, rfl, rfl, dl, (d2.mono g2.sub).dp (SeqAt.canLay_of_shaped c2), c1, c2, hj, hz, hm, q _ Hs2 H2 (g1.trans g2) (.int _)⟩
  | _ => cases hf
end
end DL

/-! list(zip(a, b)) of two tuples -/
namespace LZ
open PySem RZ
open PySem.Sem (wp)
theorem zip_no_len : typeLookup (.type "zip") "__len__" = pure none := by rw [typeLookup_type, builtinLookup_eq_fast]; kernel_rfl
theorem zip_no_hint : typeLookup (.type "zip") "__length_hint__" = pure none := by rw [typeLookup_type, builtinLookup_eq_fast]; kernel_rfl
section
variable {prog : Program} {w : World} {A : Around} {E : Value → Shared → Prop} {s : Shared} {z TI TO T i1 i2 l1 l2 : Addr} {k1 k2 : Nat} {xs ys : Array Value} {x y a b : Value} {f : Bool} {oT : Obj}
theorem next_item_held {Q : Value → Shared → Prop} (D : ZipApart z TI TO i1 i2 l1 l2)
    (hz : IsZipHeld s.heap z TI TO T f) (hT : s.heap.get? T = some oT) (hTI : IsPair s.heap TI (.ref i1) (.ref i2))
    (h1 : s.heap.IsTupleIter i1 l1 k1) (h2 : s.heap.IsTupleIter i2 l2 k2) (hl1 : s.heap.IsTuple l1 xs) (hl2 : s.heap.IsTuple l2 ys) (hx : xs[k1]? = some x) (hy : ys[k2]? = some y)
    (hQ : ∀ h', IsZipHeld h' z TI TO T true → h'.IsTupleIter i1 l1 (k1 + 1) → h'.IsTupleIter i2 l2 (k2 + 1) → IsPair h' s.heap.objs.size x y → h'.objs.size = s.heap.objs.size + 1 →
      (∀ c o, c ≠ z → c ≠ i1 → c ≠ i2 → s.heap.get? c = some o → h'.get? c = some o) → Q (.ref s.heap.objs.size) { s with heap := h' }) :
    wpAny (model prog w) A (Builtin.«zip.__next__» ⟨[.ref z], []⟩) (fun fin s' => ∃ v, fin = .done (.ret v) ∧ Q v s') E s := by
  show wpAny _ _ (field (.ref z) 2 >>= _) _ _ _
  refine wpAny_bind (wpAny_field hz rfl (x := .bool false) rfl ?_)
  show wpAny _ _ (field (.ref z) 3 >>= _) _ _ _
  refine wpAny_bind (wpAny_field hz rfl (x := .ref TI) rfl ?_)
  refine wpAny_bind (wpAny_seqItems hTI rfl ?_)
  show wpAny _ _ (Builtin.SmallTypes.ownedTupleIsFree (.ref z) >>= _) _ _ _
  refine wpAny_bind (wpAny_tupleHeld_zip hz hT fun h₁ hz₁ hs₁ => ?_)
  simp only [Bool.false_eq_true, if_false]
  refine wpAny_bind ?_
  rw [← Array.forIn_toList]
  simp only [List.forIn_cons, List.forIn_nil]
  refine wpAny_bind (wpAny_bind (wpAny_holding ?_))
  show wpAny _ _ (Builtin.SmallTypes.nextOf (.ref i1) >>= _) _ _ _
  refine wpAny_bind (nextOf_tuple_item (s := { s with heap := h₁ }) (h1.extBut hs₁.extBut D.i1z) (hl1.extBut hs₁.extBut D.l1z) hx fun h₂ h1₂ hs₂ => wpAny_pure ?_)
  refine wpAny_pure ?_
  refine wpAny_bind (wpAny_bind (wpAny_holding ?_))
  show wpAny _ _ (Builtin.SmallTypes.nextOf (.ref i2) >>= _) _ _ _
  refine wpAny_bind (nextOf_tuple_item (s := { s with heap := h₂ }) ((h2.extBut hs₁.extBut D.i2z).extBut hs₂.extBut D.i12.symm) ((hl2.extBut hs₁.extBut D.l2z).extBut hs₂.extBut D.l2i1) hy fun h₃ h2₃ hs₃ => wpAny_pure ?_)
  refine wpAny_pure (wpAny_pure ?_)
  show wpAny _ _ (newTuple [x, y] >>= _) _ _ _
  refine wpAny_bind (wpAny_newTuple ?_)
  have hsz : h₃.objs.size = s.heap.objs.size := by rw [hs₃.1, hs₂.1, hs₁.1]
  have hz₃ : IsZipHeld h₃ z TI TO T true := hs₃.extBut _ _ D.i2z.symm (hs₂.extBut _ _ D.i1z.symm hz₁)
  have hk : ∀ c o, c ≠ z → c ≠ i1 → c ≠ i2 → s.heap.get? c = some o → h₃.get? c = some o := fun c o c1 c2 c3 e => hs₃.extBut _ _ c3 (hs₂.extBut _ _ c2 (hs₁.extBut _ _ c1 e))
  have h1₃ : h₃.IsTupleIter i1 l1 (k1 + 1) := h1₂.extBut hs₃.extBut D.i12
  refine wpAny_pure ⟨_, rfl, ?_⟩
  show Q (.ref h₃.objs.size) _
  have hp : IsPair (h₃.push { cls := .type "tuple", data := .seq #[x, y] }) h₃.objs.size x y := Heap.get?_push_size _ rfl
  have hz4 : (h₃.push { cls := .type "tuple", data := .seq #[x, y] }).objs.size = h₃.objs.size + 1 := Heap.size_push ..
  rw [hsz] at hp hz4 ⊢
  exact hQ _ (Heap.get?_push_of_some _ hz₃) (h1₃.at fun o e => Heap.get?_push_of_some _ e) (h2₃.at fun o e => Heap.get?_push_of_some _ e) hp hz4 fun c o c1 c2 c3 e => Heap.get?_push_of_some _ (hk c o c1 c2 c3 e)
theorem next_end_held {Q : Fin → Shared → Prop} (hh : A.handled = none) (D : ZipApart z TI TO i1 i2 l1 l2)
    (hz : IsZipHeld s.heap z TI TO T f) (hT : s.heap.get? T = some oT) (hTI : IsPair s.heap TI (.ref i1) (.ref i2))
    (h1 : s.heap.IsTupleIter i1 l1 k1) (h2 : s.heap.IsTupleIter i2 l2 k2) (hl1 : s.heap.IsTuple l1 xs) (hl2 : s.heap.IsTuple l2 ys) (hend : xs[k1]? = none ∨ ys[k2]? = none)
    (hE : ∀ h' e, (∀ c o, c ≠ z → c ≠ i1 → c ≠ i2 → s.heap.get? c = some o → h'.get? c = some o) → (∃ o, h'.get? e = some o ∧ o.cls = .type "StopIteration") → E (.ref e) { s with heap := h' }) :
    wpAny (model prog w) A (Builtin.«zip.__next__» ⟨[.ref z], []⟩) Q E s := by
  show wpAny _ _ (field (.ref z) 2 >>= _) _ _ _
  refine wpAny_bind (wpAny_field hz rfl (x := .bool false) rfl ?_)
  show wpAny _ _ (field (.ref z) 3 >>= _) _ _ _
  refine wpAny_bind (wpAny_field hz rfl (x := .ref TI) rfl ?_)
  refine wpAny_bind (wpAny_seqItems hTI rfl ?_)
  show wpAny _ _ (Builtin.SmallTypes.ownedTupleIsFree (.ref z) >>= _) _ _ _
  refine wpAny_bind (wpAny_tupleHeld_zip hz hT fun h₁ hz₁ hs₁ => ?_)
  simp only [Bool.false_eq_true, if_false]
  refine wpAny_bind ?_
  rw [← Array.forIn_toList]
  simp only [List.forIn_cons, List.forIn_nil]
  refine wpAny_bind (wpAny_bind (wpAny_holding ?_))
  show wpAny _ _ (Builtin.SmallTypes.nextOf (.ref i1) >>= _) _ _ _
  cases hx : xs[k1]? with
  | none =>
    refine wpAny_bind (nextOf_tuple_end (s := { s with heap := h₁ }) hh (h1.extBut hs₁.extBut D.i1z) (hl1.extBut hs₁.extBut D.l1z) hx fun h₂ e hs₂ he => ?_)
    exact hE h₂ e (fun c o c1 c2 _ x => hs₂ _ _ c2 (hs₁.extBut _ _ c1 x)) he
  | some x =>
    have hy : ys[k2]? = none := by rcases hend with h | h; rw [hx] at h; cases h; exact h
    refine wpAny_bind (nextOf_tuple_item (s := { s with heap := h₁ }) (h1.extBut hs₁.extBut D.i1z) (hl1.extBut hs₁.extBut D.l1z) hx fun h₂ h1₂ hs₂ => wpAny_pure ?_)
    refine wpAny_pure ?_
    refine wpAny_bind (wpAny_bind (wpAny_holding ?_))
    show wpAny _ _ (Builtin.SmallTypes.nextOf (.ref i2) >>= _) _ _ _
    refine wpAny_bind (nextOf_tuple_end (s := { s with heap := h₂ }) hh ((h2.extBut hs₁.extBut D.i2z).extBut hs₂.extBut D.i12.symm) ((hl2.extBut hs₁.extBut D.l2z).extBut hs₂.extBut D.l2i1) hy fun h₃ e hs₃ he => ?_)
    exact hE h₃ e (fun c o c1 c2 c3 x => hs₃ _ _ c3 (hs₂.extBut _ _ c2 (hs₁.extBut _ _ c1 x))) he
theorem pyNext_item_held {Q : Option Value → Shared → Prop} (D : ZipApart z TI TO i1 i2 l1 l2)
    (hz : IsZipHeld s.heap z TI TO T f) (hT : s.heap.get? T = some oT) (hTI : IsPair s.heap TI (.ref i1) (.ref i2))
    (h1 : s.heap.IsTupleIter i1 l1 k1) (h2 : s.heap.IsTupleIter i2 l2 k2) (hl1 : s.heap.IsTuple l1 xs) (hl2 : s.heap.IsTuple l2 ys) (hx : xs[k1]? = some x) (hy : ys[k2]? = some y)
    (hQ : ∀ h', IsZipHeld h' z TI TO T true → h'.IsTupleIter i1 l1 (k1 + 1) → h'.IsTupleIter i2 l2 (k2 + 1) → IsPair h' s.heap.objs.size x y → h'.objs.size = s.heap.objs.size + 1 →
      (∀ c o, c ≠ z → c ≠ i1 → c ≠ i2 → s.heap.get? c = some o → h'.get? c = some o) → Q (some (.ref s.heap.objs.size)) { s with heap := h' }) :
    wpAny (model prog w) A (pyNext (.ref z)) Q E s := by
  have hTy : s.TypeIs (.ref z) "zip" := ⟨_, hz, rfl⟩
  unfold pyNext
  exact wpAny_bind (wpAny_attempt (wpAny_callSpecial?_slot (name := Str.ofString "__next__") hTy F.slot_zip_next
    (wpAny_call_entry F.slot_zip_next hTy F.entry_zip_next
      (next_item_held D hz hT hTI h1 h2 hl1 hl2 hx hy fun h' a1 a3 a4 a5 a6 a7 => wpAny_pure (hQ h' a1 a3 a4 a5 a6 a7)) (F.args_zip_next_1 _))))
theorem pyNext_end_held {Q : Option Value → Shared → Prop} (hh : A.handled = none) (D : ZipApart z TI TO i1 i2 l1 l2)
    (hz : IsZipHeld s.heap z TI TO T f) (hT : s.heap.get? T = some oT) (hTI : IsPair s.heap TI (.ref i1) (.ref i2))
    (h1 : s.heap.IsTupleIter i1 l1 k1) (h2 : s.heap.IsTupleIter i2 l2 k2) (hl1 : s.heap.IsTuple l1 xs) (hl2 : s.heap.IsTuple l2 ys) (hend : xs[k1]? = none ∨ ys[k2]? = none)
    (hQ : ∀ h', (∀ c o, c ≠ z → c ≠ i1 → c ≠ i2 → s.heap.get? c = some o → h'.get? c = some o) → Q none { s with heap := h' }) : wpAny (model prog w) A (pyNext (.ref z)) Q E s := by
  have hTy : s.TypeIs (.ref z) "zip" := ⟨_, hz, rfl⟩
  unfold pyNext
  refine wpAny_bind (wpAny_attempt (wpAny_callSpecial?_slot (name := Str.ofString "__next__") hTy F.slot_zip_next
    (wpAny_call_entry F.slot_zip_next hTy F.entry_zip_next (next_end_held hh D hz hT hTI h1 h2 hl1 hl2 hend fun h' e hk he => ?_) (F.args_zip_next_1 _))))
  obtain ⟨o, ho, hc⟩ := he
  refine wpAny_bind (wpAny_isInstance (T := "StopIteration") (b := true) ⟨o, ho, hc⟩ isSubtype_stop ?_)
  exact wpAny_pure (hQ _ hk)
/-- a zip that has given out i tuples, all of them held -/
def St (h : Heap) (z TI TO i1 i2 l1 l2 S : Addr) (i : Nat) : Prop :=
  IsPair h TI (.ref i1) (.ref i2) ∧ h.IsTupleIter i1 l1 i ∧ h.IsTupleIter i2 l2 i ∧ ((IsZip h z TI TO .none ∧ ∃ a b, IsPair h TO a b) ∨ ∃ T f oT, IsZipHeld h z TI TO T f ∧ h.get? T = some oT ∧ S < T)
structure Below (z TI TO i1 i2 l1 l2 S : Addr) : Prop where
  z : z < S
  TI : TI < S
  TO : TO < S
  i1 : i1 < S
  i2 : i2 < S
  l1 : l1 < S
  l2 : l2 < S
variable {S : Addr} {i : Nat}
theorem St.isZip {h : Heap} (x : St h z TI TO i1 i2 l1 l2 S i) : ∃ f0 f1, h.get? z = some { cls := .type "zip", dict := none, data := .fields #[f0, f1, .bool false, .ref TI, .ref TO], slots := #[] } := by
  obtain ⟨_, _, _, h1 | ⟨_, _, _, h1, _⟩⟩ := x
  · exact ⟨_, _, h1.1⟩
  · exact ⟨_, _, h1⟩
theorem St.keep {h h' : Heap} (x : St h z TI TO i1 i2 l1 l2 S i) (B : Below z TI TO i1 i2 l1 l2 S) (hk : ∀ b o, b ≠ S → h.get? b = some o → h'.get? b = some o) : St h' z TI TO i1 i2 l1 l2 S i := by
  obtain ⟨a1, a2, a3, a4⟩ := x
  refine ⟨hk _ _ (Nat.ne_of_lt B.TI) a1, a2.at fun o e => hk _ o (Nat.ne_of_lt B.i1) e, a3.at fun o e => hk _ o (Nat.ne_of_lt B.i2) e, ?_⟩
  rcases a4 with ⟨h1, a, b, h2⟩ | ⟨T, f, oT, h1, h2, h3⟩
  · exact .inl ⟨hk _ _ (Nat.ne_of_lt B.z) h1, a, b, hk _ _ (Nat.ne_of_lt B.TO) h2⟩
  · exact .inr ⟨T, f, oT, hk _ _ (Nat.ne_of_lt B.z) h1, hk _ _ (Nat.ne_of_gt h3) h2, h3⟩
theorem item (D : ZipApart z TI TO i1 i2 l1 l2) (B : Below z TI TO i1 i2 l1 l2 S) (x : St s.heap z TI TO i1 i2 l1 l2 S i) (hS : S < s.heap.objs.size) (hl1 : s.heap.IsTuple l1 xs) (hl2 : s.heap.IsTuple l2 ys) {u v : Value} (hx : xs[i]? = some u) (hy : ys[i]? = some v) {Q : Option Value → Shared → Prop}
    (hQ : ∀ h', St h' z TI TO i1 i2 l1 l2 S (i + 1) → IsPair h' s.heap.objs.size u v → h'.objs.size = s.heap.objs.size + 1 → (∀ c o, c ≠ z → c ≠ TO → c ≠ i1 → c ≠ i2 → s.heap.get? c = some o → h'.get? c = some o) → Q (some (.ref s.heap.objs.size)) { s with heap := h' }) :
    wpAny (model prog w) A (pyNext (.ref z)) Q E s := by
  obtain ⟨a1, a2, a3, a4⟩ := x
  rcases a4 with ⟨h1, a, b, h2⟩ | ⟨T, f, oT, h1, h2, h3⟩
  · refine pyNext_zipT_item D h1 a1 h2 a2 a3 hl1 hl2 hx hy fun h' b1 b2 b3 b4 b5 b6 b7 => hQ h' ⟨b7 _ _ D.TIz D.TITO D.TIi1 D.TIi2 a1, b3, b4, .inr ⟨s.heap.objs.size, false, _, b1, b5, hS⟩⟩ b5 b6 b7
  · refine pyNext_item_held D h1 h2 a1 a2 a3 hl1 hl2 hx hy fun h' b1 b3 b4 b5 b6 b7 => hQ h' ⟨b7 _ _ D.TIz D.TIi1 D.TIi2 a1, b3, b4, .inr ⟨T, true, oT, b1, b7 _ _ (Nat.ne_of_gt (Nat.lt_trans B.z h3)) (Nat.ne_of_gt (Nat.lt_trans B.i1 h3)) (Nat.ne_of_gt (Nat.lt_trans B.i2 h3)) h2, h3⟩⟩ b5 b6 fun c o c1 _ c3 c4 => b7 c o c1 c3 c4
theorem ends (hh : A.handled = none) (D : ZipApart z TI TO i1 i2 l1 l2) (x : St s.heap z TI TO i1 i2 l1 l2 S i) (hl1 : s.heap.IsTuple l1 xs) (hl2 : s.heap.IsTuple l2 ys) (hend : xs[i]? = none ∨ ys[i]? = none) {Q : Option Value → Shared → Prop}
    (hQ : ∀ h', (∀ c o, c ≠ z → c ≠ TO → c ≠ i1 → c ≠ i2 → s.heap.get? c = some o → h'.get? c = some o) → Q none { s with heap := h' }) : wpAny (model prog w) A (pyNext (.ref z)) Q E s := by
  obtain ⟨a1, a2, a3, a4⟩ := x
  rcases a4 with ⟨h1, a, b, h2⟩ | ⟨T, f, oT, h1, h2, h3⟩
  · exact pyNext_zipT_end hh D h1 a1 h2 a2 a3 hl1 hl2 hend hQ
  · exact pyNext_end_held hh D h1 h2 a1 a2 a3 hl1 hl2 hend fun h' hk => hQ h' fun c o c1 _ c3 c4 => hk c o c1 c3 c4
/-- the tuples given out -/
structure G (xs ys : Array Value) (lo : Addr) (h : Heap) (as : List Addr) : Prop where
  rise : as.Pairwise (· < ·)
  above : ∀ a ∈ as, lo < a
  pairs : ∀ (j : Nat) (a : Addr), as[j]? = some a → ∃ x y, xs[j]? = some x ∧ ys[j]? = some y ∧ h.get? a = some { cls := .type "tuple", data := .seq #[x, y] }
theorem G.there {lo : Addr} {h : Heap} {as : List Addr} (g : G xs ys lo h as) {a : Addr} (ha : a ∈ as) : a < h.objs.size := by
  obtain ⟨j, hj⟩ := List.mem_iff_getElem?.mp ha
  obtain ⟨_, _, _, _, e⟩ := g.pairs j a hj
  exact Heap.lt_size e
end
section
variable {prog : Program} {w : World} {A : Around} {s : Shared} {R : Result → Shared → Prop} {z TI TO i1 i2 l1 l2 S : Addr} {xs ys : Array Value}
theorem loop (hh : A.handled = none) (D : ZipApart z TI TO i1 i2 l1 l2) (B : Below z TI TO i1 i2 l1 l2 S) {n : Nat} (hnx : n = min xs.size ys.size) (hn : n ≤ sizeLine) (res : Value) {h₁ : Heap} (hl1 : h₁.IsTuple l1 xs) (hl2 : h₁.IsTuple l2 ys)
    (hR : ∀ h' tk acc c as, (∀ b o, b ≠ S → b ≠ z → b ≠ TO → b ≠ i1 → b ≠ i2 → h₁.get? b = some o → h'.get? b = some o) → h'.get? S = some { cls := .type "list", dict := none, data := .seq acc c, slots := #[] } → as.length = n → G xs ys S h' as →
      acc.toList = as.map Value.ref → R (.ok (.ret res)) { s with heap := h', toks := tk }) :
    ∀ (k i : Nat) (h : Heap) (tk c : Nat) (acc : Array Value) (as : List Addr), n - i = k → i ≤ n → St h z TI TO i1 i2 l1 l2 S i → (∀ b o, b ≠ S → b ≠ z → b ≠ TO → b ≠ i1 → b ≠ i2 → h₁.get? b = some o → h.get? b = some o) →
      h.get? S = some { cls := .type "list", dict := none, data := .seq acc c, slots := #[] } → acc.toList = as.map Value.ref → as.length = i → G xs ys S h as →
      codeAny (model prog w) A (.builtin "list.extend.loop" ⟨[.ref S, .ref z, res], []⟩) R { s with heap := h, toks := tk } := by
  have nS : ∀ {c : Addr}, c < S → S ≠ c := fun h => Nat.ne_of_gt h
  have tup : ∀ {h : Heap} {l : Addr} {vs : Array Value}, l < S → l ≠ z → l ≠ TO → l ≠ i1 → l ≠ i2 → h₁.IsTuple l vs → (∀ b o, b ≠ S → b ≠ z → b ≠ TO → b ≠ i1 → b ≠ i2 → h₁.get? b = some o → h.get? b = some o) → h.IsTuple l vs :=
    fun c0 c1 c2 c3 c4 hv hk => hv.at fun o e => hk _ o (Nat.ne_of_lt c0) c1 c2 c3 c4 e
  intro k
  induction k with
  | zero =>
    intro i h tk c acc as hk hi hst hkeep hS hacc hal hG
    have hin : i = n := by omega
    refine codeAny_builtin PySem.F.entry_extend_loop ?_
    rw [Around.under_plainId PySem.F.plain_extend_loop _]
    show wpAny _ A.in1 (pyNext (.ref z) >>= _) _ _ _
    refine wpAny_bind (ends (s := { s with heap := h, toks := tk }) (A := A.in1) hh D hst (tup B.l1 D.l1z D.l1TO D.l1i1 D.l1i2 hl1 hkeep) (tup B.l2 D.l2z D.l2TO D.l2i1 D.l2i2 hl2 hkeep) ?_ fun h' he => ?_)
    · rcases Nat.le_total xs.size ys.size with z | z
      · exact .inl (by simp; omega)
      · exact .inr (by simp; omega)
    refine wpAny_pure (hR h' tk acc c as (fun b o c0 c1 c2 c3 c4 e => he b o c1 c2 c3 c4 (hkeep b o c0 c1 c2 c3 c4 e)) (he S _ (nS B.z) (nS B.TO) (nS B.i1) (nS B.i2) hS) (by omega) ⟨hG.rise, hG.above, fun j a hj => ?_⟩ hacc)
    obtain ⟨x, y, e1, e2, e3⟩ := hG.pairs j a hj
    have ha := hG.above a (List.mem_of_getElem? hj)
    exact ⟨x, y, e1, e2, he a _ (Nat.ne_of_gt (Nat.lt_trans B.z ha)) (Nat.ne_of_gt (Nat.lt_trans B.TO ha)) (Nat.ne_of_gt (Nat.lt_trans B.i1 ha)) (Nat.ne_of_gt (Nat.lt_trans B.i2 ha)) e3⟩
  | succ k ih =>
    intro i h tk c acc as hk hi hst hkeep hS hacc hal hG
    have hlt : i < n := by omega
    have hx : xs[i]? = some xs[i] := Array.getElem?_eq_getElem (by omega)
    have hy : ys[i]? = some ys[i] := Array.getElem?_eq_getElem (by omega)
    have hsz : acc.size = i := by rw [← Array.length_toList, hacc, List.length_map, hal]
    refine codeAny_builtin PySem.F.entry_extend_loop ?_
    rw [Around.under_plainId PySem.F.plain_extend_loop _]
    show wpAny _ A.in1 (pyNext (.ref z) >>= _) _ _ _
    have hSl : S < h.objs.size := Heap.lt_size hS
    refine wpAny_bind (item (s := { s with heap := h, toks := tk }) D B hst hSl (tup B.l1 D.l1z D.l1TO D.l1i1 D.l1i2 hl1 hkeep) (tup B.l2 D.l2z D.l2TO D.l2i1 D.l2i2 hl2 hkeep) hx hy fun h' hst' ht hz hkp => ?_)
    dsimp only at ht hz hkp ⊢
    have hS' := hkp S _ (nS B.z) (nS B.TO) (nS B.i1) (nS B.i2) hS
    have up : ∀ b o, b ≠ S → h'.get? b = some o → (h'.update S (Obj.mapSeq (·.push (Value.ref h.objs.size)))).get? b = some o := fun b o hb e => (Heap.get?_update_other _ _ (Ne.symm hb)).trans e
    show wpAny _ A.in1 (updateSeq S (·.push (Value.ref h.objs.size)) >>= _) _ _ _
    refine wpAny_bind ?_
    refine wpAny_updateSeq hS' rfl (wpAny_pure ⟨plainId_quiet PySem.F.plain_extend_loop _, ih (i + 1) _ tk _ (acc.push (Value.ref h.objs.size)) (as ++ [h.objs.size]) (by omega) hlt (hst'.keep B up)
      (fun b o c0 c1 c2 c3 c4 e => up b o c0 (hkp b o c1 c2 c3 c4 (hkeep b o c0 c1 c2 c3 c4 e))) (Heap.get?_update_self _ hS' rfl) (by rw [Array.toList_push, hacc, List.map_append]; rfl) (by rw [List.length_append, hal]; rfl) ⟨?_, ?_, ?_⟩⟩) (by rw [hsz]; omega) (by show (acc.push (Value.ref h.objs.size)).size ≤ sizeLine + 1; rw [Array.size_push, hsz]; omega)
    · refine List.pairwise_append.mpr ⟨hG.rise, List.pairwise_singleton _ _, fun a ha b hb => ?_⟩
      rw [List.mem_singleton.mp hb]
      exact hG.there ha
    · intro a ha
      rcases List.mem_append.mp ha with ha | ha
      · exact hG.above a ha
      · rw [List.mem_singleton.mp ha]; exact hSl
    · intro j b hj
      rcases Nat.lt_trichotomy j as.length with h1 | h1 | h1
      · rw [List.getElem?_append_left h1] at hj
        obtain ⟨x', y', e1, e2, e3⟩ := hG.pairs j b hj
        have hb := hG.above b (List.mem_of_getElem? hj)
        exact ⟨x', y', e1, e2, up b _ (Nat.ne_of_gt hb) (hkp b _ (Nat.ne_of_gt (Nat.lt_trans B.z hb)) (Nat.ne_of_gt (Nat.lt_trans B.TO hb)) (Nat.ne_of_gt (Nat.lt_trans B.i1 hb)) (Nat.ne_of_gt (Nat.lt_trans B.i2 hb)) e3)⟩
      · subst h1
        have hb : h.objs.size = b := by simpa using hj
        subst hb
        exact ⟨xs[i], ys[i], by rw [hal]; exact hx, by rw [hal]; exact hy, up _ _ (Nat.ne_of_gt hSl) ht⟩
      · have hnone : (as ++ [h.objs.size])[j]? = none := List.getElem?_eq_none (by rw [List.length_append, List.length_singleton]; omega)
        rw [hnone] at hj; cases hj
theorem extend (hh : A.handled = none) (D : ZipApart z TI TO i1 i2 l1 l2) (B : Below z TI TO i1 i2 l1 l2 S) {n : Nat} (hnx : n = min xs.size ys.size) (hn : n ≤ sizeLine) (res : Value) (c₀ : Nat) (hl1 : s.heap.IsTuple l1 xs) (hl2 : s.heap.IsTuple l2 ys) (hz : IsZip s.heap z TI TO .none) (hst : St s.heap z TI TO i1 i2 l1 l2 S 0)
    (hS : s.heap.get? S = some { cls := .type "list", data := .seq #[] c₀ })
    (hR : ∀ h' tk acc c as, (∀ b o, b ≠ S → b ≠ z → b ≠ TO → b ≠ i1 → b ≠ i2 → s.heap.get? b = some o → h'.get? b = some o) → h'.get? S = some { cls := .type "list", dict := none, data := .seq acc c, slots := #[] } → as.length = n → G xs ys S h' as →
      acc.toList = as.map Value.ref → R (.ok (.ret res)) { s with heap := h', toks := tk }) :
    wpAny (model prog w) A.in1 (Builtin.List.listExtendWith (.ref S) (.ref z) res)
      (fun fin s' => match fin with | .done f => R (.ok f) s' | .again c' => c'.quiet = true ∧ codeAny (model prog w) A c' R s') (fun e s' => R (.error e) s') s := by
  have hSz : S ≠ z := Nat.ne_of_gt B.z
  have hT : s.TypeIs (.ref z) "zip" := ⟨_, hz, rfl⟩
  unfold Builtin.List.listExtendWith
  refine wpAny_bind (wpAny_typeOf hT ?_)
  have h1 : Builtin.List.listSameRef (.ref S) (.ref z) = false := by simp [Builtin.List.listSameRef, hSz]
  have h2 : (Value.type "zip" == Value.type "list") = false := by decide
  have h3 : (Value.type "zip" == Value.type "tuple") = false := by decide
  simp only [h1, h2, h3, Bool.or_false, Bool.false_eq_true, if_false]
  refine wpAny_bind (wpAny_pyIter_zip hz ?_)
  refine wpAny_bind (wpAny_holding ?_)
  unfold Builtin.List.listLengthHint
  refine wpAny_bind (wpAny_specialOf hT zip_no_len ?_)
  show wpAny _ A.in1 (specialOf (Value.ref z) (Str.ofString "__length_hint__") >>= _) _ _ _
  refine wpAny_bind (wpAny_specialOf hT zip_no_hint ?_)
  refine wpAny_pure ?_
  show wpAny _ A.in1 (rule "list.extend.makes-room" >>= fun _ => Builtin.List.listTouch (.ref S) >>= fun _ =>
    again (.builtin "list.extend.loop" ⟨[.ref S, .ref z, res], []⟩)) _ _ _
  refine wpAny_bind (wpAny_rule ?_)
  refine wpAny_bind ?_
  show wpAny _ A.in1 (updateSeq S (·.push .none) >>= fun _ => updateSeq S (·.pop)) _ _ _
  refine wpAny_bind (wpAny_updateSeq hS rfl ?_)
  have hS₂ := Heap.get?_update_self (Obj.mapSeq (·.push Value.none)) hS rfl
  refine wpAny_updateSeq (hz := by seq_fits) hS₂ rfl ?_
  have hS₃ := Heap.get?_update_self (Obj.mapSeq (·.pop)) hS₂ rfl
  have oth : ∀ b o, b ≠ S → s.heap.get? b = some o → ((s.heap.update S (Obj.mapSeq (·.push Value.none))).update S (Obj.mapSeq (·.pop))).get? b = some o :=
    fun b o hb e => (Heap.get?_update_other _ _ (Ne.symm hb)).trans ((Heap.get?_update_other _ _ (Ne.symm hb)).trans e)
  refine wpAny_pure ⟨plainId_quiet F.plain_extend_loop _, loop (s := s) (h₁ := s.heap) hh D B hnx hn res hl1 hl2 hR n 0 _ s.toks _ #[] [] (Nat.sub_zero _) (Nat.zero_le _) (hst.keep B oth) (fun b o c0 _ _ _ _ e => oth b o c0 e) hS₃ rfl rfl ⟨List.Pairwise.nil, (fun _ ha => nomatch ha), (fun j a hj => by simp at hj)⟩⟩
theorem init (hh : A.handled = none) (D : ZipApart z TI TO i1 i2 l1 l2) (B : Below z TI TO i1 i2 l1 l2 S) {n : Nat} (hnx : n = min xs.size ys.size) (hn : n ≤ sizeLine) (hl1 : s.heap.IsTuple l1 xs) (hl2 : s.heap.IsTuple l2 ys) (hz : IsZip s.heap z TI TO .none) (hst : St s.heap z TI TO i1 i2 l1 l2 S 0)
    (hS : s.heap.get? S = some { cls := .type "list", data := .seq #[] })
    (hR : ∀ h' tk acc c as, (∀ b o, b ≠ S → b ≠ z → b ≠ TO → b ≠ i1 → b ≠ i2 → s.heap.get? b = some o → h'.get? b = some o) → h'.get? S = some { cls := .type "list", dict := none, data := .seq acc c, slots := #[] } → as.length = n → G xs ys S h' as →
      acc.toList = as.map Value.ref → R (.ok (.ret .none)) { s with heap := h', toks := tk }) :
    wpAny (model prog w) A.in1 (Builtin.«list.__init__» ⟨[.ref S, .ref z], []⟩)
      (fun fin s' => match fin with | .done f => R (.ok f) s' | .again c' => c'.quiet = true ∧ codeAny (model prog w) A c' R s') (fun e s' => R (.error e) s') s := by
  show wpAny _ A.in1 (do let old ← Builtin.List.listItems (.ref S); Builtin.List.listUpdate (.ref S) (fun _ => #[]); letGo old.toList.reverse; Builtin.List.listExtendWith (.ref S) (.ref z) .none) _ _ s
  refine wpAny_bind ?_
  unfold Builtin.List.listItems
  refine wpAny_bind (wpAny_seqItems hS rfl (wpAny_pure ?_))
  show wpAny _ A.in1 (updateSeq S (fun _ => #[]) >>= fun _ => letGo (#[] : Array Value).toList.reverse >>= fun _ => Builtin.List.listExtendWith (.ref S) (.ref z) .none) _ _ s
  refine wpAny_bind (wpAny_updateSeq hS rfl ?_)
  have hS₂ := Heap.get?_update_self (Obj.mapSeq (fun _ => (#[] : Array Value))) hS rfl
  have oth : ∀ b o, b ≠ S → s.heap.get? b = some o → (s.heap.update S (Obj.mapSeq (fun _ => (#[] : Array Value)))).get? b = some o :=
    fun b o hb e => (Heap.get?_update_other _ _ (Ne.symm hb)).trans e
  refine wpAny_bind (wpAny_letGo ?_)
  refine extend (s := { s with heap := s.heap.update S (Obj.mapSeq (fun _ => (#[] : Array Value))) }) hh D B hnx hn .none _ (hl1.at fun o e => oth _ o (Nat.ne_of_lt B.l1) e) (hl2.at fun o e => oth _ o (Nat.ne_of_lt B.l2) e) (oth _ _ (Nat.ne_of_lt B.z) hz) (hst.keep B oth) hS₂ fun h' tk acc c as hk hS' hl hG hacc => ?_
  exact hR h' tk acc c as (fun b o c0 c1 c2 c3 c4 e => hk b o c0 c1 c2 c3 c4 (oth b o c0 e)) hS' hl hG hacc
end
section
variable {prog : Program} {w : World} {A : Around} {E : Value → Shared → Prop} {s : Shared} {z TI TO i1 i2 l1 l2 : Addr} {xs ys : Array Value}
theorem call_list {Q : Value → Shared → Prop} (hh : A.handled = none) (D : ZipApart z TI TO i1 i2 l1 l2) (B : Below z TI TO i1 i2 l1 l2 s.heap.objs.size) {n : Nat} (hnx : n = min xs.size ys.size) (hn : n ≤ sizeLine) (hl1 : s.heap.IsTuple l1 xs) (hl2 : s.heap.IsTuple l2 ys) (hz : IsZip s.heap z TI TO .none) (hst : St s.heap z TI TO i1 i2 l1 l2 s.heap.objs.size 0)
    (hQ : ∀ h' tk acc c as, (∀ b o, b ≠ z → b ≠ TO → b ≠ i1 → b ≠ i2 → s.heap.get? b = some o → h'.get? b = some o) → h'.get? s.heap.objs.size = some { cls := .type "list", dict := none, data := .seq acc c, slots := #[] } → as.length = n → G xs ys s.heap.objs.size h' as →
      acc.toList = as.map Value.ref → Q (.ref s.heap.objs.size) { s with heap := h', toks := tk }) :
    wpAny (model prog w) A (call (.type "list") [.ref z]) Q E s := by
  refine callType_codes (Q₁ := fun obj s₁ => obj = .ref s.heap.objs.size ∧ s₁ = { s with heap := s.heap.push { cls := .type "list", data := .seq #[] } }) PySem.F.called_list (PySem.F.typeCall_list_1 _) PySem.F.entry_list_init
    (code_list_new _ ⟨rfl, rfl⟩) fun obj s₁ h₁ => ?_
  obtain ⟨rfl, rfl⟩ := h₁
  have up : ∀ b o, s.heap.get? b = some o → (s.heap.push { cls := .type "list", data := .seq #[] }).get? b = some o := fun b o e => Heap.get?_push_of_some _ e
  have hS : (s.heap.push { cls := .type "list", data := .seq #[] }).get? s.heap.objs.size = some { cls := .type "list", data := .seq #[] } := Heap.get?_push_size _ rfl
  refine ⟨⟨_, hS, rfl⟩, PySem.F.args_list_init_2 _ _, init (A := A.in1) (s := { s with heap := s.heap.push { cls := .type "list", data := .seq #[] } }) hh D B hnx hn (hl1.at fun o e => up _ o e) (hl2.at fun o e => up _ o e) (up _ _ hz) (hst.keep B fun b o _ e => up b o e) hS fun h' tk acc c as hk hS' hl hG hacc => ?_⟩
  exact ⟨rfl, hQ h' tk acc c as (fun b o c1 c2 c3 c4 e => hk b o (Nat.ne_of_lt (Heap.lt_size e)) c1 c2 c3 c4 (up b o e)) hS' hl hG hacc⟩
end
end LZ
namespace DL
open PySem PySem.Spec PyProof.Rows L2
/-! ### new objects laid at their addresses -/
def putO : Hp → List Addr → List HO → Hp
  | H, a :: as, o :: os => putO (L2.upd H a o) as os
  | H, _, _ => H
theorem putO_off {b : Addr} : ∀ (as : List Addr) (os : List HO) (H : Hp), b ∉ as → putO H as os b = H b
  | [], _, _, _ => rfl
  | _ :: _, [], _, _ => rfl
  | a :: as, o :: os, H, h => by
    show putO (L2.upd H a o) as os b = H b
    rw [putO_off as os _ (fun z => h (List.mem_cons_of_mem _ z)), upd_ne (fun z => h (by rw [z]; exact List.mem_cons_self))]
theorem putO_at : ∀ (as : List Addr) (os : List HO) (H : Hp), as.length = os.length → as.Nodup → ∀ (j : Nat) (a : Addr) (o : HO), as[j]? = some a → os[j]? = some o → putO H as os a = some o
  | [], _, _, _, _, j, a, o, h, _ => by simp at h
  | _ :: _, [], _, h, _, _, _, _, _, _ => by cases h
  | b :: as, q :: os, H, hl, hn, 0, a, o, h1, h2 => by
    simp at h1 h2
    subst h1 h2
    show putO (L2.upd H b q) as os b = some q
    rw [putO_off as os _ (List.nodup_cons.mp hn).1, upd_same]
  | b :: as, q :: os, H, hl, hn, j + 1, a, o, h1, h2 => putO_at as os (L2.upd H b q) (Nat.succ.inj hl) (List.nodup_cons.mp hn).2 j a o (by simpa using h1) (by simpa using h2)
def pairO (xs ys : List V) (us vs : List Value) (j : Nat) : HO := .frz { cls := .type "tuple", data := .seq #[us.getD j .none, vs.getD j .none] } (.tup [xs.getD j .non, ys.getD j .non])
section
variable {X : Cx} {pins : List (Addr × Obj)} {σ : L2.St} {H : Hp} {s : Shared} {h' : Heap} {tk : Nat} {xs ys : List V} {us vs : List Value} {acc : Array Value} {c : Nat} {as : List Addr} {S : Addr}
theorem vals_refs' : ∀ as : List Addr, Vals (as.map V.ref) (as.map Value.ref)
  | [] => .nil
  | _ :: as => .cons rfl (vals_refs' as)
theorem zip_laid (I : Inv X pins σ H s) (hz : as.length ≤ sizeLine) (rx : Vals xs us) (ry : Vals ys vs) (hSs : s.heap.objs.size ≤ S)
    (hk : ∀ b o, s.heap.get? b = some o → h'.get? b = some o) (hS : h'.get? S = some { cls := .type "list", dict := none, data := .seq acc c, slots := #[] }) (hl : as.length = min us.length vs.length) (hG : LZ.G us.toArray vs.toArray S h' as) (hacc : acc.toList = as.map Value.ref) :
    ∃ H' : Hp, Same H H' ∧ H S = none ∧ (∀ t ∈ as, H t = none) ∧ S ∉ as ∧ H' S = some (.lst (as.map V.ref)) ∧ (∀ (j : Nat) (t : Addr), as[j]? = some t → ∃ ob x y, ob.dict = none ∧ xs[j]? = some x ∧ ys[j]? = some y ∧ H' t = some (.frz ob (.tup [x, y]))) ∧ Inv X pins σ H' { s with heap := h', toks := tk } := by
  have hSn : S ∉ as := fun z => Nat.lt_irrefl _ (hG.above _ z)
  have nd : as.Nodup := List.Pairwise.imp (fun {a b} (h : a < b) => Nat.ne_of_lt h) hG.rise
  have new : ∀ t ∈ as, H t = none := fun t ht => I.hok.fresh (Nat.le_trans hSs (Nat.le_of_lt (hG.above t ht)))
  have newS : H S = none := I.hok.fresh hSs
  have lx := rx.length
  have ly := ry.length
  have oget : ∀ (j : Nat) (t : Addr), as[j]? = some t → ((List.range as.length).map (pairO xs ys us vs))[j]? = some (pairO xs ys us vs j) := fun j t e => by
    have := (List.getElem?_eq_some_iff.mp e).1
    rw [List.getElem?_map, List.getElem?_range this]
    rfl
  have atP : ∀ (j : Nat) (t : Addr), as[j]? = some t → putO (L2.upd H S (.lst (as.map V.ref))) as ((List.range as.length).map (pairO xs ys us vs)) t = some (pairO xs ys us vs j) := fun j t e =>
    putO_at as _ _ (by rw [List.length_map, List.length_range]) nd j t _ e (oget j t e)
  generalize hos : (List.range as.length).map (pairO xs ys us vs) = os at atP oget
  have off : ∀ b, b ∉ as → b ≠ S → putO (L2.upd H S (.lst (as.map V.ref))) as os b = H b := fun b h1 h2 => by rw [putO_off as os _ h1, upd_ne h2]
  have low : ∀ b o, s.heap.get? b = some o → b ∉ as ∧ b ≠ S := fun b o e => ⟨fun z => absurd (Heap.lt_size e) (Nat.not_lt.mpr (Nat.le_trans hSs (Nat.le_of_lt (hG.above b z)))), fun z => absurd (Heap.lt_size e) (Nat.not_lt.mpr (by rw [z]; exact hSs))⟩
  have kp : ∀ b u, H b = some u → (putO (L2.upd H S (.lst (as.map V.ref))) as os) b = some u := fun b u e => by
    rw [off b (fun z => by rw [new b z] at e; cases e) (fun z => by rw [z, newS] at e; cases e)]
    exact e
  have eS : putO (L2.upd H S (.lst (as.map V.ref))) as os S = some (.lst (as.map V.ref)) := by rw [putO_off as os _ hSn, upd_same]
  have items : ∀ (j : Nat) (t : Addr), as[j]? = some t → ∃ x y u v, xs[j]? = some x ∧ ys[j]? = some y ∧ us[j]? = some u ∧ vs[j]? = some v ∧ RelV x u ∧ RelV y v ∧ pairO xs ys us vs j = .frz { cls := .type "tuple", data := .seq #[u, v] } (.tup [x, y]) ∧ h'.get? t = some { cls := .type "tuple", data := .seq #[u, v] } := fun j t e => by
    obtain ⟨u, v, e1, e2, e3⟩ := hG.pairs j t e
    have e1 : us[j]? = some u := by simpa using e1
    have e2 : vs[j]? = some v := by simpa using e2
    have hj1 := (List.getElem?_eq_some_iff.mp e1).1
    have hj2 := (List.getElem?_eq_some_iff.mp e2).1
    have x1 : xs[j]? = some xs[j] := List.getElem?_eq_getElem (by omega)
    have y1 : ys[j]? = some ys[j] := List.getElem?_eq_getElem (by omega)
    obtain ⟨u', f1, f2⟩ := rx.get x1
    obtain ⟨v', g1, g2⟩ := ry.get y1
    rw [e1] at f1
    rw [e2] at g1
    cases f1
    cases g1
    refine ⟨_, _, u, v, x1, y1, e1, e2, f2, g2, ?_, e3⟩
    unfold pairO
    rw [List.getD_eq_getElem?_getD, e1, List.getD_eq_getElem?_getD, e2, List.getD_eq_getElem?_getD, x1, List.getD_eq_getElem?_getD, y1]
    rfl
  refine ⟨putO (L2.upd H S (.lst (as.map V.ref))) as os, kp, newS, new, hSn, eS, fun j t e => ?_, ?_⟩
  · obtain ⟨x, y, u, v, e1, e2, _, _, _, _, e3, _⟩ := items j t e
    exact ⟨_, x, y, rfl, e1, e2, by rw [atP j t e, e3]⟩
  · refine I.call' (ch := []) rfl ⟨fun b o q _ _ _ => hk b o q, fun b o q _ _ _ => ⟨o.slots, hk b o q⟩, fun b o q n _ => ?_, fun b o q _ => ⟨o, hk b o q⟩, fun b xs q => kp b _ q, fun b o u q => kp b _ q, fun b ps q => ⟨#[], by rw [kp b _ q]; simp⟩⟩ (fun b u q => ?_) I.bare fun b z => by simp at z
    · obtain ⟨z1, z2⟩ := low b o q
      rw [off b z1 z2]
      exact n
    · by_cases hb : b ∈ as
      · obtain ⟨j, hj⟩ := List.mem_iff_getElem?.mp hb
        rw [atP j b hj] at q
        obtain ⟨x, y, u', v', _, _, _, _, r1, r2, e3, e4⟩ := items j b hj
        rw [e3] at q
        cases q
        exact ⟨e4, by show 2 ≤ sizeLine; decide, [u', v'], .cons r1 (.cons r2 .nil), ⟨_, e4, rfl, _, rfl⟩⟩
      · by_cases hb2 : b = S
        · rw [hb2] at q ⊢
          rw [eS] at q
          cases q
          refine ⟨by rw [List.length_map]; omega, acc.toList, c, by rw [hacc]; exact vals_refs' as, ?_⟩
          rw [Array.toArray_toList]
          exact hS
        · rw [off b hb hb2] at q
          exact (I.hok b u q).stay (fun d v _ y => hk d v y) (fun d y => kp d _ y) fun d xs y => kp d _ y
end
def tListZip (K : PySem.W.Frag) (ta : TA) : TE := fun σ H Q => ta σ H fun ws H1 => ∃ a b xs ys, ws = [.ref a, .ref b] ∧ SqT K H1 a xs ∧ SqT K H1 b ys ∧ xs.length ≤ 1000 ∧
  ∀ (H' : Hp) (S : Addr) (ts : List Addr), Same H1 H' → H1 S = none → (∀ t ∈ ts, H1 t = none) → S ∉ ts → H' S = some (.lst (ts.map V.ref)) → ts.length = min xs.length ys.length →
    (∀ (j : Nat) (t : Addr), ts[j]? = some t → ∃ ob x y, ob.dict = none ∧ xs[j]? = some x ∧ ys[j]? = some y ∧ H' t = some (.frz ob (.tup [x, y]))) → Q (.ref S) H'
section
variable {X : Cx} {K : PySem.W.Frag} {M : List Nat} {a b : Expr} {ta tb : TE} {tr : TA} {fa fb : Fn} {pos p p2 q : Pos}
theorem below_nat {n a b S : Nat} (ha : a < n) (hb : b < n) (hS : S = n + 5) : LZ.Below (n + 4) (n + 2) (n + 3) n (n + 1) a b S := by
  subst hS
  exact ⟨Nat.lt_succ_self (n + 4), Nat.lt_add_of_pos_right (n := n + 2) (k := 3) (by decide), Nat.lt_add_of_pos_right (n := n + 3) (k := 2) (by decide), Nat.lt_add_of_pos_right (n := n) (k := 5) (by decide), Nat.lt_add_of_pos_right (n := n + 1) (k := 4) (by decide), Nat.lt_of_lt_of_le ha (Nat.le_add_right n 5), Nat.lt_of_lt_of_le hb (Nat.le_add_right n 5)⟩
theorem off_nat {c n : Nat} (h : c < n) : c ≠ n + 4 ∧ c ≠ n + 3 ∧ c ≠ n ∧ c ≠ n + 1 := ⟨by omega, by omega, by omega, by omega⟩
theorem pe_listZip (hc : X.calm = true) (hg : Gl X "list") (hm : X.mg "list" = none) (hgz : Gl X "zip") (hmz : X.mg "zip" = none) (ha : PA X [a, b] tr)
    (hs : starEach [a, b] X.env = (false, eval a X.env) :: starEach [b] X.env := by rfl) (hpl : (backTo q (starEach [b] X.env)).any (·.1) = false := by rfl)
    (hs2 : starEach [.Call (.Name "zip" p2) [a, b] [] q] X.env = (false, eval (.Call (.Name "zip" p2) [a, b] [] q) X.env) :: starEach [] X.env := by rfl) :
    PE X (.Call (.Name "list" p) [.Call (.Name "zip" p2) [a, b] [] q] [] pos) (tListZip X.K tr) := by
  refine ⟨fun pins s σ H Q I h => ?_⟩
  refine Call_ (ld_blt I hg hm boot_list (PyProof.Rows.callWith_type1 (args_cons ?_ hs2) hs2))
  refine Call_ (ld_blt I hgz hmz PyProof.Rows.boot_zip (PyProof.Rows.callWith_type1 (L2.thn (ha.run q pins s σ H _ I h) fun us s1 ⟨vs, H1, I1, r1, q1⟩ => ?_) hs hpl))
  obtain ⟨a, b, xs, ys, ex, hqx, hqy, hxl, qq⟩ := q1
  subst ex
  cases r1 with
  | cons r rr =>
    cases rr with
    | cons r' rr =>
      cases rr
      cases r
      cases r'
      obtain ⟨its, rv, p1, _⟩ := I1.tuple hqx
      obtain ⟨its2, rv2, p2, _⟩ := I1.tuple hqy
      obtain ⟨o1, ho1, _⟩ := id p1
      obtain ⟨o2, ho2, _⟩ := id p2
      have la := Heap.lt_size ho1
      have lb := Heap.lt_size ho2
      have D := PySem.W.ktu_apart s1.heap.objs.size a b la lb
      refine RZ.call_zipT (show s1.heap.IsTuple a its.toArray from p1) (show s1.heap.IsTuple b its2.toArray from p2) fun h' hz hTI hTO h1 h2 hsz hk => args_nil ?_
      have B : LZ.Below (s1.heap.objs.size + 4) (s1.heap.objs.size + 2) (s1.heap.objs.size + 3) s1.heap.objs.size (s1.heap.objs.size + 1) a b h'.objs.size := below_nat la lb hsz
      refine LZ.call_list (s := { s1 with heap := h' }) (I.ok.hd hc) D B (n := min its.length its2.length) (by simp) (by have := rv.length; rw [sizeLine_eq]; omega) (Heap.IsTuple.at p1 fun o e => hk _ o e) (Heap.IsTuple.at p2 fun o e => hk _ o e) hz ⟨hTI, h1, h2, .inl ⟨hz, _, _, hTO⟩⟩ fun h2 tk acc c as hk2 hS hl hG hacc => ?_
      have lx := rv.length
      have ly := rv2.length
      have keep : ∀ b o, s1.heap.get? b = some o → h2.get? b = some o := fun c o e => by
        obtain ⟨n1, n2, n3, n4⟩ := off_nat (Heap.lt_size e)
        exact hk2 c o n1 n2 n3 n4 (hk c o e)
      obtain ⟨H', k1, k2, k3, k4, k5, k6, J⟩ := zip_laid (tk := tk) I1 (by rw [sizeLine_eq]; omega) rv rv2 (by show s1.heap.objs.size ≤ h'.objs.size; rw [hsz]; exact Nat.le_add_right _ 5) keep hS hl hG hacc
      exact ⟨.ref _, H', J, rfl, qq H' _ as k1 k2 k3 k4 k5 (by rw [hl]; omega) k6⟩
@[simp] def gListZip : PyData → PyData → Option PyData
  | .tuple xs, .tuple ys => if xs.length ≤ 1000 then some (.list (zpD xs ys)) else none
  | _, _ => none
open Classical in
theorem listZip_grow {Hs H H' : Hp} {S : Addr} {ts : List Addr} {xs ys : List V} {ds es : List PyData} (e : Same Hs H) (k1 : Same H H') (k2 : H S = none) (k3 : ∀ t ∈ ts, H t = none) (k4 : S ∉ ts) (k5 : H' S = some (.lst (ts.map V.ref))) (hl : ts.length = min xs.length ys.length)
    (k6 : ∀ (j : Nat) (t : Addr), ts[j]? = some t → ∃ ob x y, ob.dict = none ∧ xs[j]? = some x ∧ ys[j]? = some y ∧ H' t = some (.frz ob (.tup [x, y]))) (dx : DdAll K Hs xs ds) (dy : DdAll K Hs ys es) :
    ∃ Hs', Grow Hs H Hs' H' ∧ Dd K Hs' (.ref S) (.list (zpD ds es)) := by
  have ex : Same Hs (fun c => if c = S ∨ c ∈ ts then H' c else Hs c) := fun c o z => by
    show (if c = S ∨ c ∈ ts then H' c else Hs c) = some o
    rw [if_neg]
    · exact z
    · rintro (h | h)
      · have := e c o z; rw [h, k2] at this; cases this
      · have := e c o z; rw [k3 c h] at this; cases this
  have aS : (if S = S ∨ S ∈ ts then H' S else Hs S) = some (.lst (ts.map V.ref)) := by rw [if_pos (.inl rfl)]; exact k5
  refine ⟨fun c => if c = S ∨ c ∈ ts then H' c else Hs c, ⟨k1, ex, fun c o z => ?_, fun c z n => ?_⟩, .lst aS ?_⟩
  · have z : (if c = S ∨ c ∈ ts then H' c else Hs c) = some o := z
    by_cases h : c = S ∨ c ∈ ts
    · rw [if_pos h] at z; exact z
    · rw [if_neg h] at z; exact k1 c o (e c o z)
  · show (if c = S ∨ c ∈ ts then H' c else Hs c) = none
    rw [if_neg]
    · exact z
    · rintro (h | h)
      · rw [h] at n; exact n k2
      · exact n (k3 c h)
  · have lx := dx.length
    have ly := dy.length
    have key : ∀ (n : Nat), n ≤ ts.length → DdAll K (fun c => if c = S ∨ c ∈ ts then H' c else Hs c) ((ts.take n).map V.ref) ((zpD ds es).take n) := fun n => by
      induction n with
      | zero => intro _; exact .nil
      | succ n ih =>
        intro hn
        have hlt : n < ts.length := by omega
        have ht : ts[n]? = some ts[n] := List.getElem?_eq_getElem hlt
        obtain ⟨ob, x, y, o1, o2, o3, o4⟩ := k6 n ts[n] ht
        obtain ⟨d, h1, h2⟩ := dx.getv o2
        obtain ⟨d2, h3, h4⟩ := dy.getv o3
        have hz := zpD_get h1 h3
        rw [List.take_succ, ht, List.take_succ, hz, List.map_append]
        refine (ih (by omega)).append (.cons (.tup o1 ?_ (.cons (h2.mono ex) (.cons (h4.mono ex) .nil))) .nil)
        show (if ts[n] = S ∨ ts[n] ∈ ts then H' ts[n] else Hs ts[n]) = _
        rw [if_pos (.inr (List.getElem_mem hlt))]
        exact o4
    have := key ts.length (Nat.le_refl _)
    rw [List.take_length, List.take_of_length_le (by rw [zpD_len]; omega)] at this
    exact this
theorem ed_listZip (ha : ED K X M a ta fa) (hb : ED K X M b tb fb) (hmz : X.mg "zip" = none) (hm : X.mg "list" = none) (hg : Gl X "list" := by rfl) (hgz : Gl X "zip" := by rfl) (hc : X.calm = true := by rfl) (hK : X.K = K := by rfl)
    (hs : starEach [a, b] X.env = (false, eval a X.env) :: starEach [b] X.env := by rfl) (hsb : starEach [b] X.env = (false, eval b X.env) :: starEach [] X.env := by rfl) (hpl : (backTo q (starEach [b] X.env)).any (·.1) = false := by rfl)
    (hs2 : starEach [.Call (.Name "zip" p2) [a, b] [] q] X.env = (false, eval (.Call (.Name "zip" p2) [a, b] [] q) X.env) :: starEach [] X.env := by rfl) :
    ED K X M (.Call (.Name "list" p) [.Call (.Name "zip" p2) [a, b] [] q] [] pos) (tListZip K (tCons ta (tCons tb tNil))) (f2 gListZip fa fb) := by
  subst hK
  refine ⟨pe_listZip hc hg hm hgz hmz (pa_cons ha.pe (pa_cons hb.pe pa_nil hsb) hs) hs hpl hs2, fun {Hs0 H0 Hs H σ ρ d Q} R hf q => ?_⟩
  obtain ⟨x, h1, hf⟩ := bind_some hf
  obtain ⟨y, h2, hf⟩ := bind_some hf
  refine ha.sm R h1 fun v Hs1 H1 g1 d1 => ?_
  refine hb.sm (R.grow g1) h2 fun u Hs2 H2 g2 d2 => ?_
  cases d1 with
  | @tup p1 ob xs ds hn hp t =>
    cases d2 with
    | @tup p3 ob2 ys es hn2 hp2 t2 =>
      obtain ⟨hl, rfl⟩ := ite_some hf
      have t1 := t.mono g2.exs
      refine ⟨p1, p3, xs, ys, rfl, sqT_of (g2.sub _ _ (g2.exs _ _ hp)), sqT_of (g2.sub _ _ hp2), by rw [t.length]; exact hl, fun H' S ts k1 k2 k3 k4 k5 hl' k6 => ?_⟩
      obtain ⟨Hs', g3, dd⟩ := listZip_grow g2.sub k1 k2 k3 k4 k5 hl' k6 t1 t2
      exact q _ Hs' H' ((g1.trans g2).trans g3) dd
    | _ => cases hf
  | _ => cases hf
end
end DL

namespace Lw
open PySem PySem.Spec PyProof.Rows L2 DL
def topS (i : Nat) : Stmt := PySem.Challenge.pw_mapweave_k07_whole_maps_that_join.main.body.getD i (.Pass ⟨0, 0, 0, 0⟩)
abbrev s_must : Stmt := topS 4
abbrev N_must : List Str := ["fits"]
theorem nd_must : (N_must).Nodup := by decide +kernel
theorem sc_must : FnScope N_must ["fits"] (defScope s_must) := ⟨rfl, rfl, rfl, by decide +kernel, rfl, by decide +kernel, by decide +kernel⟩
abbrev s_then : Stmt := topS 5
abbrev N_then : List Str := ["one", "other", "number"]
theorem nd_then : (N_then).Nodup := by decide +kernel
theorem sc_then : FnScope N_then ["one", "other"] (defScope s_then) := ⟨rfl, rfl, rfl, by decide +kernel, rfl, by decide +kernel, by decide +kernel⟩
abbrev s_comes_to_all : Stmt := topS 6
abbrev N_comes_to_all : List Str := ["one"]
theorem nd_comes_to_all : (N_comes_to_all).Nodup := by decide +kernel
theorem sc_comes_to_all : FnScope N_comes_to_all ["one"] (defScope s_comes_to_all) := ⟨rfl, rfl, rfl, by decide +kernel, rfl, by decide +kernel, by decide +kernel⟩
abbrev s_homes_of : Stmt := topS 8
abbrev N_homes_of : List Str := ["many", "pairs", "homes", "kinds", "one", "other", "mine", "yours", "home"]
theorem nd_homes_of : (N_homes_of).Nodup := by decide +kernel
theorem sc_homes_of : FnScope N_homes_of ["many", "pairs"] (defScope s_homes_of) := ⟨rfl, rfl, rfl, by decide +kernel, rfl, by decide +kernel, by decide +kernel⟩
abbrev s_joined : Stmt := topS 9
abbrev N_joined : List Str := ["one", "other", "pairs", "many", "homes", "k"]
theorem nd_joined : (N_joined).Nodup := by decide +kernel
theorem sc_joined : FnScope N_joined ["one", "other"] (defScope s_joined) := ⟨rfl, rfl, rfl, by decide +kernel, rfl, by decide +kernel, by decide +kernel⟩
abbrev s_alike_made : Stmt := topS 10
abbrev N_alike_made : List Str := ["one", "other", "many", "homes"]
theorem nd_alike_made : (N_alike_made).Nodup := by decide +kernel
theorem sc_alike_made : FnScope N_alike_made ["one", "other"] (defScope s_alike_made) := ⟨rfl, rfl, rfl, by decide +kernel, rfl, by decide +kernel, by decide +kernel⟩
abbrev s_stacked : Stmt := topS 11
abbrev N_stacked : List Str := ["first", "second"]
theorem nd_stacked : (N_stacked).Nodup := by decide +kernel
theorem sc_stacked : FnScope N_stacked ["first", "second"] (defScope s_stacked) := ⟨rfl, rfl, rfl, by decide +kernel, rfl, by decide +kernel, by decide +kernel⟩
abbrev s_behind : Stmt := topS 13
abbrev N_behind : List Str := ["one", "other", "k", "row", "n", "number"]
theorem nd_behind : (N_behind).Nodup := by decide +kernel
theorem sc_behind : FnScope N_behind ["one", "other"] (defScope s_behind) := ⟨rfl, rfl, rfl, by decide +kernel, rfl, by decide +kernel, by decide +kernel⟩
abbrev s__law_cell : Stmt := topS 15
abbrev N__law_cell : List Str := ["_law_script", "_law_k"]
theorem nd__law_cell : (N__law_cell).Nodup := by decide +kernel
theorem sc__law_cell : FnScope N__law_cell ["_law_script", "_law_k"] (defScope s__law_cell) := ⟨rfl, rfl, rfl, by decide +kernel, rfl, by decide +kernel, by decide +kernel⟩
abbrev s__law_mix : Stmt := topS 16
abbrev N__law_mix : List Str := ["_law_cell_here", "_law_prime", "_law_many"]
theorem nd__law_mix : (N__law_mix).Nodup := by decide +kernel
theorem sc__law_mix : FnScope N__law_mix ["_law_cell_here", "_law_prime", "_law_many"] (defScope s__law_mix) := ⟨rfl, rfl, rfl, by decide +kernel, rfl, by decide +kernel, by decide +kernel⟩
abbrev s__law_map : Stmt := topS 17
abbrev N__law_map : List Str := ["_law_cell_here", "_law_many", "_law_to", "_law_row", "_law_left", "_law_k"]
theorem nd__law_map : (N__law_map).Nodup := by decide +kernel
theorem sc__law_map : FnScope N__law_map ["_law_cell_here", "_law_many", "_law_to"] (defScope s__law_map) := ⟨rfl, rfl, rfl, by decide +kernel, rfl, by decide +kernel, by decide +kernel⟩
abbrev s__law_sizes : Stmt := topS 18
abbrev N__law_sizes : List Str := ["_law_script", "_law_k", "_law_seed"]
theorem nd__law_sizes : (N__law_sizes).Nodup := by decide +kernel
theorem sc__law_sizes : FnScope N__law_sizes ["_law_script", "_law_k"] (defScope s__law_sizes) := ⟨rfl, rfl, rfl, by decide +kernel, rfl, by decide +kernel, by decide +kernel⟩
abbrev s__law_then : Stmt := topS 19
abbrev N__law_then : List Str := ["_law_one", "_law_other", "_law_number"]
theorem nd__law_then : (N__law_then).Nodup := by decide +kernel
theorem sc__law_then : FnScope N__law_then ["_law_one", "_law_other"] (defScope s__law_then) := ⟨rfl, rfl, rfl, by decide +kernel, rfl, by decide +kernel, by decide +kernel⟩
abbrev s__law_refused : Stmt := topS 20
abbrev N__law_refused : List Str := ["_law_way", "_law_one", "_law_other", "_law_told"]
theorem nd__law_refused : (N__law_refused).Nodup := by decide +kernel
theorem sc__law_refused : FnScope N__law_refused ["_law_way", "_law_one", "_law_other"] (defScope s__law_refused) := ⟨rfl, rfl, rfl, by decide +kernel, rfl, by decide +kernel, by decide +kernel⟩
abbrev s__law_homes : Stmt := topS 21
abbrev N__law_homes : List Str := ["_law_many", "_law_pairs", "_law_homes_here", "_law_size", "_law_k", "_law_left", "_law_here", "_law_a", "_law_b"]
theorem nd__law_homes : (N__law_homes).Nodup := by decide +kernel
theorem sc__law_homes : FnScope N__law_homes ["_law_many", "_law_pairs"] (defScope s__law_homes) := ⟨rfl, rfl, rfl, by decide +kernel, rfl, by decide +kernel, by decide +kernel⟩
abbrev s__law_through_right : Stmt := topS 22
abbrev N__law_through_right : List Str := ["_law_first", "_law_second", "_law_cell_here", "_law_last", "_law_mine", "_law_yours", "_law_told"]
theorem nd__law_through_right : (N__law_through_right).Nodup := by decide +kernel
theorem sc__law_through_right : FnScope N__law_through_right ["_law_first", "_law_second", "_law_cell_here"] (defScope s__law_through_right) := ⟨rfl, rfl, rfl, by decide +kernel, rfl, by decide +kernel, by decide +kernel⟩
abbrev s_law : Stmt := topS 23
abbrev N_law : List Str := ["_law_script", "_law_k", "_law_one", "_law_other", "_law_two", "_law_found", "_law_a", "_law_b", "_law_c", "_law_d", "_law_pairs", "_law_many", "_law_homes_here", "_law_size", "_law_first", "_law_second", "_law_n"]
theorem nd_law : (N_law).Nodup := by decide +kernel
theorem sc_law : FnScope N_law ["_law_script"] (defScope s_law) := ⟨rfl, rfl, rfl, by decide +kernel, rfl, by decide +kernel, by decide +kernel⟩
noncomputable def g_must_0t0 : Gn := (gRaise 2)
noncomputable def g_must_0 : Gn := (gIf (bNot (fTru (fVar 0)))
      g_must_0t0 gNx)
noncomputable def g_must : Gn := g_must_0
noncomputable def phi_must := defN 1 1 g_must
noncomputable def g_then_0 : Gn := (gExprQ (qCall phi_must (fCons (f2 (gEq false) (f2 gIx (fVar 0) (fC (.int 0))) (fBi gLen (fCons (f2 gIx (fVar 1) (fC (.int 1))) fNil))) fNil)))
noncomputable def g_then_1 : Gn := (gRet (fTup (fCons (f2 gIx (fVar 1) (fC (.int 0))) (fCons (fBi gTuple (fCons (fFr (fLc [2] (iSq (f2 gIx (fVar 0) (fC (.int 1)))) (hName 2) cYes (f2 gIx (f2 gIx (fVar 1) (fC (.int 1))) (fVar 2)))) fNil)) fNil))))
noncomputable def g_then : Gn := (gBlk g_then_0 g_then_1)
noncomputable def phi_then := defN 2 3 g_then
noncomputable def g_comes_to_all_0 : Gn := (gRet (f2 (gEq false) (f1 gLenSet (f2 gIx (fVar 0) (fC (.int 1)))) (f2 gIx (fVar 0) (fC (.int 0)))))
noncomputable def g_comes_to_all : Gn := g_comes_to_all_0
noncomputable def phi_comes_to_all := defN 1 1 g_comes_to_all
noncomputable def g_homes_of_0 : Gn := (gAsg (fFr (gRgL (fVar 0))) (hName 2))
noncomputable def g_homes_of_1b0 : Gn := (gAsg (fBi gMin2 (fCons (f2 gIx (fVar 2) (fVar 4)) (fCons (f2 gIx (fVar 2) (fVar 5)) fNil))) (hName 6))
noncomputable def g_homes_of_1b1 : Gn := (gAsg (fBi gMax2 (fCons (f2 gIx (fVar 2) (fVar 4)) (fCons (f2 gIx (fVar 2) (fVar 5)) fNil))) (hName 7))
noncomputable def g_homes_of_1b2 : Gn := (gAsg (fFr (fLc [8] (iSq (fVar 2)) (hName 8) cYes (fIf (fB (f2 (gEq false) (fVar 8) (fVar 7))) (fVar 6) (fVar 8)))) (hName 2))
noncomputable def g_homes_of_1b : Gn := (gBlk g_homes_of_1b0 (gBlk g_homes_of_1b1 g_homes_of_1b2))
noncomputable def g_homes_of_1 : Gn := (gFor (iSq (fVar 1)) (hSeq 2 (hCons (hName 4) (hCons (hName 5) hNil)))
      g_homes_of_1b)
noncomputable def g_homes_of_2 : Gn := (gAsg (fFr (fun ρ => ((fVar 2) ρ).bind gSortSetA)) (hName 3))
noncomputable def g_homes_of_3 : Gn := (gRet (fTup (fCons (fBi gLen (fCons (fVar 3) fNil)) (fCons (fFr (fLc [8] (iSq (fVar 2)) (hName 8) cYes (f2 gIdx (fVar 3) (fVar 8)))) fNil))))
noncomputable def g_homes_of : Gn := (gBlk g_homes_of_0 (gBlk g_homes_of_1 (gBlk g_homes_of_2 g_homes_of_3)))
noncomputable def phi_homes_of := defN 2 9 g_homes_of
noncomputable def g_joined_0 : Gn := (gExprQ (qCall phi_must (fCons (f2 (gEq false) (fBi gLen (fCons (f2 gIx (fVar 0) (fC (.int 1))) fNil)) (fBi gLen (fCons (f2 gIx (fVar 1) (fC (.int 1))) fNil))) fNil)))
noncomputable def g_joined_1 : Gn := (gAsg (fFr (fLc [5] (iR1 (fBi gLen (fCons (f2 gIx (fVar 0) (fC (.int 1))) fNil))) (hName 5) cYes (fTup (fCons (f2 gIx (f2 gIx (fVar 0) (fC (.int 1))) (fVar 5)) (fCons (f2 gAdd (f2 gIx (fVar 0) (fC (.int 0))) (f2 gIx (f2 gIx (fVar 1) (fC (.int 1))) (fVar 5))) fNil))))) (hName 2))
noncomputable def g_joined_2 : Gn := (gAsg (fCall phi_homes_of (fCons (f2 gAdd (f2 gIx (fVar 0) (fC (.int 0))) (f2 gIx (fVar 1) (fC (.int 0)))) (fCons (fVar 2) fNil))) (hSeq 2 (hCons (hName 3) (hCons (hName 4) hNil))))
noncomputable def g_joined_3 : Gn := (gRet (fTup (fCons (fTup (fCons (fVar 3) (fCons (fBi gTuple (fCons (fSl (fVar 4) pNone (pSome (f2 gIx (fVar 0) (fC (.int 0))))) fNil)) fNil))) (fCons (fTup (fCons (fVar 3) (fCons (fBi gTuple (fCons (fSl (fVar 4) (pSome (f2 gIx (fVar 0) (fC (.int 0)))) pNone) fNil)) fNil))) fNil))))
noncomputable def g_joined : Gn := (gBlk g_joined_0 (gBlk g_joined_1 (gBlk g_joined_2 g_joined_3)))
noncomputable def phi_joined := defN 2 6 g_joined
noncomputable def g_alike_made_0 : Gn := (gExprQ (qCall phi_must (fCons (fAnd (f2 (gEq false) (f2 gIx (fVar 0) (fC (.int 0))) (f2 gIx (fVar 1) (fC (.int 0)))) (f2 (gEq false) (fBi gLen (fCons (f2 gIx (fVar 0) (fC (.int 1))) fNil)) (fBi gLen (fCons (f2 gIx (fVar 1) (fC (.int 1))) fNil)))) fNil)))
noncomputable def g_alike_made_1 : Gn := (gAsg (fCall phi_homes_of (fCons (f2 gIx (fVar 0) (fC (.int 0))) (fCons (f2 gListZip (f2 gIx (fVar 0) (fC (.int 1))) (f2 gIx (fVar 1) (fC (.int 1)))) fNil))) (hSeq 2 (hCons (hName 2) (hCons (hName 3) hNil))))
noncomputable def g_alike_made_2 : Gn := (gRet (fTup (fCons (fVar 2) (fCons (fBi gTuple (fCons (fVar 3) fNil)) fNil))))
noncomputable def g_alike_made : Gn := (gBlk g_alike_made_0 (gBlk g_alike_made_1 g_alike_made_2))
noncomputable def phi_alike_made := defN 2 4 g_alike_made
noncomputable def g_stacked_0 : Gn := (gExprQ (qCall phi_must (fCons (f2 (gEq false) (f2 gIx (fVar 0) (fC (.int 0))) (f2 gIx (fVar 1) (fC (.int 0)))) fNil)))
noncomputable def g_stacked_1 : Gn := (gRet (fTup (fCons (f2 gIx (fVar 0) (fC (.int 0))) (fCons (f2 gAdd (f2 gIx (fVar 0) (fC (.int 1))) (f2 gIx (fVar 1) (fC (.int 1)))) fNil))))
noncomputable def g_stacked : Gn := (gBlk g_stacked_0 g_stacked_1)
noncomputable def phi_stacked := defN 2 2 g_stacked
noncomputable def g_behind_0 : Gn := (gExprQ (qCall phi_must (fCons (f2 (gEq false) (fBi gLen (fCons (f2 gIx (fVar 0) (fC (.int 1))) fNil)) (fBi gLen (fCons (f2 gIx (fVar 1) (fC (.int 1))) fNil))) fNil)))
noncomputable def g_behind_1b0b0t0 : Gn := (gRet (fTup (fCons (fC (.str (PySem.Str.ofString "things"))) (fCons (fVar 2) (fCons (fVar 4) fNil)))))
noncomputable def g_behind_1b0b0 : Gn := (gIf (bAnd (fB (f2 (gEq false) (f2 gIx (f2 gIx (fVar 1) (fC (.int 1))) (fVar 2)) (f2 gIx (f2 gIx (fVar 1) (fC (.int 1))) (fVar 4)))) (fB (f2 (gEq true) (f2 gIx (f2 gIx (fVar 0) (fC (.int 1))) (fVar 2)) (f2 gIx (f2 gIx (fVar 0) (fC (.int 1))) (fVar 4)))))
      g_behind_1b0b0t0 gNx)
noncomputable def g_behind_1b0 : Gn := (gFor (iR2 (f2 gAdd (fVar 2) (fC (.int 1))) (fBi gLen (fCons (f2 gIx (fVar 0) (fC (.int 1))) fNil))) (hName 4)
      g_behind_1b0b0)
noncomputable def g_behind_1 : Gn := (gFor (iR1 (fBi gLen (fCons (f2 gIx (fVar 0) (fC (.int 1))) fNil))) (hName 2)
      g_behind_1b0)
noncomputable def g_behind_2t0 : Gn := (gRet (fTup (fCons (fC (.str (PySem.Str.ofString "nowhere"))) fNil)))
noncomputable def g_behind_2 : Gn := (gIf (bAnd (fB (f2 (gEq false) (f2 gIx (fVar 0) (fC (.int 0))) (fC (.int 0)))) (fB (f2 (gIb fun i j => decide (j < i)) (f2 gIx (fVar 1) (fC (.int 0))) (fC (.int 0)))))
      g_behind_2t0 gNx)
noncomputable def g_behind_3 : Gn := (gOwn 3 (fLc [2] (iR1 (f2 gIx (fVar 1) (fC (.int 0)))) (hName 2) cYes (fC (.int 0))))
noncomputable def g_behind_4b0 : Gn := (gSet 3 (fVar 5) (f2 gIx (f2 gIx (fVar 0) (fC (.int 1))) (fVar 2)))
noncomputable def g_behind_4 : Gn := (gFor (iEn (f2 gIx (fVar 1) (fC (.int 1)))) (hSeq 2 (hCons (hName 2) (hCons (hName 5) hNil)))
      g_behind_4b0)
noncomputable def g_behind_5 : Gn := (gRet (fTup (fCons (fC (.str (PySem.Str.ofString "map"))) (fCons (fTup (fCons (f2 gIx (fVar 0) (fC (.int 0))) (fCons (fBi gTuple (fCons (fVar 3) fNil)) fNil))) fNil))))
noncomputable def g_behind : Gn := (gBlk g_behind_0 (gBlk g_behind_1 (gBlk g_behind_2 (gBlk g_behind_3 (gBlk g_behind_4 g_behind_5)))))
noncomputable def phi_behind := defN 2 6 g_behind
noncomputable def g__law_cell_0t0 : Gn := (gRet (f2 gIx (fVar 0) (fVar 1)))
noncomputable def g__law_cell_0 : Gn := (gIf (fB (f2 (gIb fun i j => decide (i < j)) (fVar 1) (fBi gLen (fCons (fVar 0) fNil))))
      g__law_cell_0t0 gNx)
noncomputable def g__law_cell_1 : Gn := (gRet (fC (.int 0)))
noncomputable def g__law_cell : Gn := (gBlk g__law_cell_0 g__law_cell_1)
noncomputable def phi__law_cell := defN 2 2 g__law_cell
noncomputable def g__law_mix_0 : Gn := (gRet (f2 (gIc (fun _ j => 0 < j) fun i j => i % j) (f2 (gIc (fun _ j => 0 < j) fun i j => i % j) (f2 gMulD (fVar 0) (fC (.int 48271))) (fVar 1)) (fVar 2)))
noncomputable def g__law_mix : Gn := g__law_mix_0
noncomputable def phi__law_mix := defN 3 3 g__law_mix
noncomputable def g__law_map_0 : Gn := (gAsg (fFr (fList fNil)) (hName 3))
noncomputable def g__law_map_1t0 : Gn := (gAsg (fFr (fLc [5] (iR1 (fVar 1)) (hName 5) cYes (fCall phi__law_mix (fCons (f2 gAdd (fVar 0) (f2 gMulD (fC (.int 31)) (fVar 5))) (fCons (fC (.int 9973)) (fCons (fVar 2) fNil)))))) (hName 3))
noncomputable def g__law_map_1 : Gn := (gIf (fB (f2 (gIb fun i j => decide (j < i)) (fVar 2) (fC (.int 0))))
      g__law_map_1t0 gNx)
noncomputable def g__law_map_2t0 : Gn := (gAsg (fFr (fLc [5] (iR1 (fVar 1)) (hName 5) cYes (f2 (gIc (fun _ j => 0 < j) fun i j => i % j) (fVar 5) (fVar 2)))) (hName 3))
noncomputable def g__law_map_2t1 : Gn := (gAsg (f2 gAdd (fSl (fVar 3) (pSome (f2 (gIc (fun _ j => 0 < j) fun i j => i % j) (f2 (gIc CDiv fun i j => i / j) (fVar 0) (fC (.int 4))) (fVar 1))) pNone) (fSl (fVar 3) pNone (pSome (f2 (gIc (fun _ j => 0 < j) fun i j => i % j) (f2 (gIc CDiv fun i j => i / j) (fVar 0) (fC (.int 4))) (fVar 1))))) (hName 3))
noncomputable def g__law_map_2t : Gn := (gBlk g__law_map_2t0 g__law_map_2t1)
noncomputable def g__law_map_2 : Gn := (gIf (bAnd (fB (f2 (gEq false) (f2 (gIc (fun _ j => 0 < j) fun i j => i % j) (fVar 0) (fC (.int 4))) (fC (.int 0)))) (fB (fChain (gIb fun i j => decide (i < j)) (gIb fun i j => decide (i ≤ j)) (fC (.int 0)) (fVar 2) (fVar 1))))
      g__law_map_2t gNx)
noncomputable def g__law_map_3t0 : Gn := (gOwn 4 (gRgL (fVar 2)))
noncomputable def g__law_map_3t1 : Gn := (gSetPop 3 5 4 [5] (iR1 (fVar 1)) (fCall phi__law_mix (fCons (f2 gAdd (fVar 0) (f2 gMulD (fC (.int 7)) (fVar 5))) (fCons (fC (.int 9967)) (fCons (f2 (gI fun i j => i - j) (fVar 2) (fVar 5)) fNil)))))
noncomputable def g__law_map_3t : Gn := (gBlk g__law_map_3t0 g__law_map_3t1)
noncomputable def g__law_map_3 : Gn := (gIf (bAnd (fB (f2 (gEq false) (f2 (gIc (fun _ j => 0 < j) fun i j => i % j) (fVar 0) (fC (.int 4))) (fC (.int 1)))) (fB (fChain (gIb fun i j => decide (i < j)) (gIb fun i j => decide (i ≤ j)) (fC (.int 0)) (fVar 1) (fVar 2))))
      g__law_map_3t gNx)
noncomputable def g__law_map_4 : Gn := (gRet (fTup (fCons (fVar 2) (fCons (fBi gTuple (fCons (fVar 3) fNil)) fNil))))
noncomputable def g__law_map : Gn := (gBlk g__law_map_0 (gBlk g__law_map_1 (gBlk g__law_map_2 (gBlk g__law_map_3 g__law_map_4))))
noncomputable def phi__law_map := defN 3 6 g__law_map
noncomputable def g__law_sizes_0 : Gn := (gAsg (fCall phi__law_cell (fCons (fVar 0) (fCons (fVar 1) fNil))) (hName 2))
noncomputable def g__law_sizes_1 : Gn := (gRet (fFr (fList (fCons (fCall phi__law_mix (fCons (fVar 2) (fCons (fC (.int 9949)) (fCons (fC (.int 7)) fNil)))) (fCons (fCall phi__law_mix (fCons (fVar 2) (fCons (fC (.int 9941)) (fCons (fC (.int 7)) fNil)))) (fCons (fCall phi__law_mix (fCons (fVar 2) (fCons (fC (.int 9931)) (fCons (fC (.int 7)) fNil)))) (fCons (fCall phi__law_mix (fCons (fVar 2) (fCons (fC (.int 9929)) (fCons (fC (.int 7)) fNil)))) fNil)))))))
noncomputable def g__law_sizes : Gn := (gBlk g__law_sizes_0 g__law_sizes_1)
noncomputable def phi__law_sizes := defN 2 3 g__law_sizes
noncomputable def g__law_then_0 : Gn := (gRet (fTup (fCons (f2 gIx (fVar 1) (fC (.int 0))) (fCons (fBi gTuple (fCons (fFr (fLc [2] (iSq (f2 gIx (fVar 0) (fC (.int 1)))) (hName 2) cYes (f2 gIx (f2 gIx (fVar 1) (fC (.int 1))) (fVar 2)))) fNil)) fNil))))
noncomputable def g__law_then : Gn := g__law_then_0
noncomputable def phi__law_then := defN 2 3 g__law_then
noncomputable def g__law_refused_0 : Gn := (gAsg (fC (.bool false)) (hName 3))
noncomputable def g__law_refused_1y0t0 : Gn := (gExprQ (qCall phi_joined (fCons (fVar 1) (fCons (fVar 2) fNil))))
noncomputable def g__law_refused_1y0e0 : Gn := (gExprQ (qCall phi_alike_made (fCons (fVar 1) (fCons (fVar 2) fNil))))
noncomputable def g__law_refused_1y0 : Gn := (gIf (fB (f2 (gEq false) (fVar 0) (fC (.int 0))))
      g__law_refused_1y0t0 g__law_refused_1y0e0)
noncomputable def g__law_refused_1x0 : Gn := (gAsg (fC (.bool true)) (hName 3))
noncomputable def g__law_refused_1 : Gn := (gTry 2 g__law_refused_1y0 g__law_refused_1x0)
noncomputable def g__law_refused_2 : Gn := (gRet (fVar 3))
noncomputable def g__law_refused : Gn := (gBlk g__law_refused_0 (gBlk g__law_refused_1 g__law_refused_2))
noncomputable def phi__law_refused := defN 3 4 g__law_refused
noncomputable def g__law_homes_0 : Gn := (gOwn 2 (fLc [4] (iR1 (fVar 0)) (hName 4) cYes (fC .none)))
noncomputable def g__law_homes_1 : Gn := (gAsg (fC (.int 0)) (hName 3))
noncomputable def g__law_homes_2b0t0 : Gn := (gOwn 5 (fList (fCons (fVar 4) fNil)))
noncomputable def g__law_homes_2b0t1b0 : Gn := (gPop 6 5)
noncomputable def g__law_homes_2b0t1b1t0 : Gn := (gSet 2 (fVar 6) (fVar 3))
noncomputable def g__law_homes_2b0t1b1t1 : Gn := (gOwn 5 (lFlat (lCat (f2 gAdd (fVar 5) (fFr (fLc [7, 8] (iSq (fVar 1)) (hSeq 2 (hCons (hName 7) (hCons (hName 8) hNil))) (fB (f2 (gEq false) (fVar 7) (fVar 6))) (fVar 8)))) (fFr (fLc [7, 8] (iSq (fVar 1)) (hSeq 2 (hCons (hName 7) (hCons (hName 8) hNil))) (fB (f2 (gEq false) (fVar 8) (fVar 6))) (fVar 7))))))
noncomputable def g__law_homes_2b0t1b1t : Gn := (gBlk g__law_homes_2b0t1b1t0 g__law_homes_2b0t1b1t1)
noncomputable def g__law_homes_2b0t1b1 : Gn := (gIf (fB (f2 (gIs false) (f2 gIx (fVar 2) (fVar 6)) (fC .none)))
      g__law_homes_2b0t1b1t gNx)
noncomputable def g__law_homes_2b0t1b : Gn := (gBlk g__law_homes_2b0t1b0 g__law_homes_2b0t1b1)
noncomputable def g__law_homes_2b0t1 : Gn := (whileF (fTru (fVar 5)) g__law_homes_2b0t1b 1000000)
noncomputable def g__law_homes_2b0t2 : Gn := (gAsg (f2 gAdd (fVar 3) (fC (.int 1))) (hName 3))
noncomputable def g__law_homes_2b0t : Gn := (gBlk g__law_homes_2b0t0 (gBlk g__law_homes_2b0t1 g__law_homes_2b0t2))
noncomputable def g__law_homes_2b0 : Gn := (gIf (fB (f2 (gIs false) (f2 gIx (fVar 2) (fVar 4)) (fC .none)))
      g__law_homes_2b0t gNx)
noncomputable def g__law_homes_2 : Gn := (gFor (iR1 (fVar 0)) (hName 4)
      g__law_homes_2b0)
noncomputable def g__law_homes_3 : Gn := (gRet (fTup (fCons (fVar 3) (fCons (fVar 2) fNil))))
noncomputable def g__law_homes : Gn := (gBlk g__law_homes_0 (gBlk g__law_homes_1 (gBlk g__law_homes_2 g__law_homes_3)))
noncomputable def phi__law_homes := defN 2 9 g__law_homes
noncomputable def g__law_through_right_0 : Gn := (gAsg (fCall phi__law_map (fCons (fVar 2) (fCons (f2 gIx (fVar 0) (fC (.int 0))) (fCons (f2 gAdd (fC (.int 1)) (fCall phi__law_mix (fCons (fVar 2) (fCons (fC (.int 9883)) (fCons (fC (.int 5)) fNil))))) fNil)))) (hName 3))
noncomputable def g__law_through_right_1 : Gn := (gAsg (fCall phi__law_then (fCons (fVar 0) (fCons (fVar 3) fNil))) (hName 4))
noncomputable def g__law_through_right_2 : Gn := (gAsg (fCall phi__law_then (fCons (fVar 1) (fCons (fVar 3) fNil))) (hName 5))
noncomputable def g__law_through_right_3 : Gn := (gSetQ 6 (qCall phi_behind (fCons (fCall phi_stacked (fCons (fVar 4) (fCons (fVar 5) fNil))) (fCons (fCall phi_stacked (fCons (fVar 0) (fCons (fVar 1) fNil))) fNil))))
noncomputable def g__law_through_right_4t0 : Gn := (gRet (fC (.bool false)))
noncomputable def g__law_through_right_4 : Gn := (gIf (bOr (fB (f2 (gEq true) (f2 gIx (fVar 6) (fC (.int 0))) (fC (.str (PySem.Str.ofString "map"))))) (bNot (fTru (fCall phi_comes_to_all (fCons (fCall phi_stacked (fCons (fVar 0) (fCons (fVar 1) fNil))) fNil)))))
      g__law_through_right_4t0 gNx)
noncomputable def g__law_through_right_5 : Gn := (gRet (f2 (gEq false) (f2 gIx (fVar 6) (fC (.int 1))) (fVar 3)))
noncomputable def g__law_through_right : Gn := (gBlk g__law_through_right_0 (gBlk g__law_through_right_1 (gBlk g__law_through_right_2 (gBlk g__law_through_right_3 (gBlk g__law_through_right_4 g__law_through_right_5)))))
noncomputable def phi__law_through_right := defN 3 7 g__law_through_right
noncomputable def g_law_0b0 : Gn := (gAsg (fFr (fLc [13] (iSq (fCall phi__law_sizes (fCons (fVar 0) (fCons (fVar 1) fNil)))) (hName 13) cYes (fBi gMin2 (fCons (fC (.int 5)) (fCons (fVar 13) fNil))))) (hSeq 4 (hCons (hName 6) (hCons (hName 7) (hCons (hName 8) (hCons (hName 9) hNil))))))
noncomputable def g_law_0b1 : Gn := (gAsg (fCall phi__law_map (fCons (fCall phi__law_cell (fCons (fVar 0) (fCons (f2 gAdd (fC (.int 4)) (fVar 1)) fNil))) (fCons (fVar 6) (fCons (fVar 7) fNil)))) (hName 2))
noncomputable def g_law_0b2 : Gn := (gAsg (fCall phi__law_map (fCons (fCall phi__law_cell (fCons (fVar 0) (fCons (f2 gAdd (fC (.int 8)) (fVar 1)) fNil))) (fCons (fBi gLen (fCons (f2 gIx (fVar 2) (fC (.int 1))) fNil)) (fCons (fVar 8) fNil)))) (hName 3))
noncomputable def g_law_0b3t0 : Gn := (gAsg (fFr (fLc [16] (iR1 (fBi gLen (fCons (f2 gIx (fVar 2) (fC (.int 1))) fNil))) (hName 16) cYes (fTup (fCons (f2 gIx (f2 gIx (fVar 2) (fC (.int 1))) (fVar 16)) (fCons (f2 gAdd (f2 gIx (fVar 2) (fC (.int 0))) (f2 gIx (f2 gIx (fVar 3) (fC (.int 1))) (fVar 16))) fNil))))) (hName 10))
noncomputable def g_law_0b3t1 : Gn := (gAsg (fCall phi__law_homes (fCons (f2 gAdd (f2 gIx (fVar 2) (fC (.int 0))) (f2 gIx (fVar 3) (fC (.int 0)))) (fCons (fVar 10) fNil))) (hSeq 2 (hCons (hName 11) (hCons (hName 12) hNil))))
noncomputable def g_law_0b3t2 : Gn := (gAsg (fCall phi_joined (fCons (fVar 2) (fCons (fVar 3) fNil))) (hSeq 2 (hCons (hName 14) (hCons (hName 15) hNil))))
noncomputable def g_law_0b3t3t0 : Gn := (gRet (fC (.bool false)))
noncomputable def g_law_0b3t3 : Gn := (gIf (bOr (fB (f2 (gEq true) (fVar 14) (fTup (fCons (fVar 11) (fCons (fBi gTuple (fCons (fSl (fVar 12) pNone (pSome (f2 gIx (fVar 2) (fC (.int 0))))) fNil)) fNil))))) (fB (f2 (gEq true) (fVar 15) (fTup (fCons (fVar 11) (fCons (fBi gTuple (fCons (fSl (fVar 12) (pSome (f2 gIx (fVar 2) (fC (.int 0)))) pNone) fNil)) fNil))))))
      g_law_0b3t3t0 gNx)
noncomputable def g_law_0b3t4t0 : Gn := (gRet (fC (.bool false)))
noncomputable def g_law_0b3t4 : Gn := (gIf (fB (f2 (gEq true) (fCall phi_then (fCons (fVar 2) (fCons (fVar 14) fNil))) (fCall phi_then (fCons (fVar 3) (fCons (fVar 15) fNil)))))
      g_law_0b3t4t0 gNx)
noncomputable def g_law_0b3t5t0 : Gn := (gRet (fC (.bool false)))
noncomputable def g_law_0b3t5 : Gn := (gIf (bNot (fTru (fCall phi__law_through_right (fCons (fVar 14) (fCons (fVar 15) (fCons (fCall phi__law_cell (fCons (fVar 0) (fCons (f2 gAdd (fC (.int 12)) (fVar 1)) fNil))) fNil))))))
      g_law_0b3t5t0 gNx)
noncomputable def g_law_0b3t : Gn := (gBlk g_law_0b3t0 (gBlk g_law_0b3t1 (gBlk g_law_0b3t2 (gBlk g_law_0b3t3 (gBlk g_law_0b3t4 g_law_0b3t5)))))
noncomputable def g_law_0b3 : Gn := (gIf (fB (f2 (gEq false) (fBi gLen (fCons (f2 gIx (fVar 3) (fC (.int 1))) fNil)) (fBi gLen (fCons (f2 gIx (fVar 2) (fC (.int 1))) fNil))))
      g_law_0b3t gNx)
noncomputable def g_law_0b4 : Gn := (gAsg (fCall phi__law_map (fCons (fCall phi__law_cell (fCons (fVar 0) (fCons (f2 gAdd (fC (.int 16)) (fVar 1)) fNil))) (fCons (fBi gLen (fCons (f2 gIx (fVar 2) (fC (.int 1))) fNil)) (fCons (f2 gIx (fVar 2) (fC (.int 0))) fNil)))) (hName 4))
noncomputable def g_law_0b5 : Gn := (gAsg (fCall phi__law_homes (fCons (f2 gIx (fVar 2) (fC (.int 0))) (fCons (fFr (fLc [16] (iR1 (fBi gLen (fCons (f2 gIx (fVar 2) (fC (.int 1))) fNil))) (hName 16) cYes (fTup (fCons (f2 gIx (f2 gIx (fVar 2) (fC (.int 1))) (fVar 16)) (fCons (f2 gIx (f2 gIx (fVar 4) (fC (.int 1))) (fVar 16)) fNil))))) fNil))) (hSeq 2 (hCons (hName 11) (hCons (hName 12) hNil))))
noncomputable def g_law_0b6 : Gn := (gSetQ 5 (qCall phi_alike_made (fCons (fVar 2) (fCons (fVar 4) fNil))))
noncomputable def g_law_0b7t0 : Gn := (gRet (fC (.bool false)))
noncomputable def g_law_0b7 : Gn := (gIf (bOr (fB (f2 (gEq true) (fVar 5) (fTup (fCons (fVar 11) (fCons (fBi gTuple (fCons (fVar 12) fNil)) fNil))))) (fB (f2 (gEq true) (fCall phi_then (fCons (fVar 2) (fCons (fVar 5) fNil))) (fCall phi_then (fCons (fVar 4) (fCons (fVar 5) fNil))))))
      g_law_0b7t0 gNx)
noncomputable def g_law_0b8t0 : Gn := (gRet (fC (.bool false)))
noncomputable def g_law_0b8 : Gn := (gIf (bNot (fTru (fCall phi__law_refused (fCons (fC (.int 0)) (fCons (fVar 2) (fCons (fTup (fCons (fC (.int 1)) (fCons (f2 gMulD (fTup (fCons (fC (.int 0)) fNil)) (f2 gAdd (fBi gLen (fCons (f2 gIx (fVar 2) (fC (.int 1))) fNil)) (fC (.int 1)))) fNil))) fNil))))))
      g_law_0b8t0 gNx)
noncomputable def g_law_0b9t0 : Gn := (gRet (fC (.bool false)))
noncomputable def g_law_0b9 : Gn := (gIf (bNot (fTru (fCall phi__law_refused (fCons (fC (.int 1)) (fCons (fVar 2) (fCons (fTup (fCons (f2 gAdd (f2 gIx (fVar 2) (fC (.int 0))) (fC (.int 1))) (fCons (f2 gMulD (fTup (fCons (fC (.int 0)) fNil)) (fBi gLen (fCons (f2 gIx (fVar 2) (fC (.int 1))) fNil))) fNil))) fNil))))))
      g_law_0b9t0 gNx)
noncomputable def g_law_0b : Gn := (gBlk g_law_0b0 (gBlk g_law_0b1 (gBlk g_law_0b2 (gBlk g_law_0b3 (gBlk g_law_0b4 (gBlk g_law_0b5 (gBlk g_law_0b6 (gBlk g_law_0b7 (gBlk g_law_0b8 g_law_0b9)))))))))
noncomputable def g_law_0 : Gn := (gFor (iR1 (fC (.int 3))) (hName 1)
      g_law_0b)
noncomputable def g_law_1 : Gn := (gRet (fC (.bool true)))
noncomputable def g_law : Gn := (gBlk g_law_0 g_law_1)
noncomputable def phi_law := defN 1 17 g_law
structure Cs where
  a : Nat → Addr
  d : Nat → FuncData
  c : Nat → Addr
structure Txt (K : PySem.W.Frag) (mg : Str → Option Value) (A : Cs) : Prop where
  F0 : Fun K "must" "must" s_must (A.a 0) (A.d 0)
  g0 : mg "must" = some (.ref (A.a 0))
  b0 : Binds K (A.d 0) ["fits"] []
  F1 : Fun K "then" "then" s_then (A.a 1) (A.d 1)
  g1 : mg "then" = some (.ref (A.a 1))
  b1 : Binds K (A.d 1) ["one", "other"] []
  F2 : Fun K "comes_to_all" "comes_to_all" s_comes_to_all (A.a 2) (A.d 2)
  g2 : mg "comes_to_all" = some (.ref (A.a 2))
  b2 : Binds K (A.d 2) ["one"] []
  F3 : Fun K "homes_of" "homes_of" s_homes_of (A.a 3) (A.d 3)
  g3 : mg "homes_of" = some (.ref (A.a 3))
  b3 : Binds K (A.d 3) ["many", "pairs"] []
  F4 : Fun K "joined" "joined" s_joined (A.a 4) (A.d 4)
  g4 : mg "joined" = some (.ref (A.a 4))
  b4 : Binds K (A.d 4) ["one", "other"] []
  F5 : Fun K "alike_made" "alike_made" s_alike_made (A.a 5) (A.d 5)
  g5 : mg "alike_made" = some (.ref (A.a 5))
  b5 : Binds K (A.d 5) ["one", "other"] []
  F6 : Fun K "stacked" "stacked" s_stacked (A.a 6) (A.d 6)
  g6 : mg "stacked" = some (.ref (A.a 6))
  b6 : Binds K (A.d 6) ["first", "second"] []
  F7 : Fun K "behind" "behind" s_behind (A.a 7) (A.d 7)
  g7 : mg "behind" = some (.ref (A.a 7))
  b7 : Binds K (A.d 7) ["one", "other"] []
  F8 : Fun K "_law_cell" "_law_cell" s__law_cell (A.a 8) (A.d 8)
  g8 : mg "_law_cell" = some (.ref (A.a 8))
  b8 : Binds K (A.d 8) ["_law_script", "_law_k"] []
  F9 : Fun K "_law_mix" "_law_mix" s__law_mix (A.a 9) (A.d 9)
  g9 : mg "_law_mix" = some (.ref (A.a 9))
  b9 : Binds K (A.d 9) ["_law_cell_here", "_law_prime", "_law_many"] []
  F10 : Fun K "_law_map" "_law_map" s__law_map (A.a 10) (A.d 10)
  g10 : mg "_law_map" = some (.ref (A.a 10))
  b10 : Binds K (A.d 10) ["_law_cell_here", "_law_many", "_law_to"] []
  F11 : Fun K "_law_sizes" "_law_sizes" s__law_sizes (A.a 11) (A.d 11)
  g11 : mg "_law_sizes" = some (.ref (A.a 11))
  b11 : Binds K (A.d 11) ["_law_script", "_law_k"] []
  F12 : Fun K "_law_then" "_law_then" s__law_then (A.a 12) (A.d 12)
  g12 : mg "_law_then" = some (.ref (A.a 12))
  b12 : Binds K (A.d 12) ["_law_one", "_law_other"] []
  F13 : Fun K "_law_refused" "_law_refused" s__law_refused (A.a 13) (A.d 13)
  g13 : mg "_law_refused" = some (.ref (A.a 13))
  b13 : Binds K (A.d 13) ["_law_way", "_law_one", "_law_other"] []
  F14 : Fun K "_law_homes" "_law_homes" s__law_homes (A.a 14) (A.d 14)
  g14 : mg "_law_homes" = some (.ref (A.a 14))
  b14 : Binds K (A.d 14) ["_law_many", "_law_pairs"] []
  F15 : Fun K "_law_through_right" "_law_through_right" s__law_through_right (A.a 15) (A.d 15)
  g15 : mg "_law_through_right" = some (.ref (A.a 15))
  b15 : Binds K (A.d 15) ["_law_first", "_law_second", "_law_cell_here"] []
  F16 : Fun K "law" "law" s_law (A.a 16) (A.d 16)
  g16 : mg "law" = some (.ref (A.a 16))
  b16 : Binds K (A.d 16) ["_law_script"] []
  m_enumerate : mg "enumerate" = none
  m_len : mg "len" = none
  m_list : mg "list" = none
  m_max : mg "max" = none
  m_min : mg "min" = none
  m_range : mg "range" = none
  m_set : mg "set" = none
  m_sorted : mg "sorted" = none
  m_tuple : mg "tuple" = none
  m_zip : mg "zip" = none
  gC0 : mg "MapError" = some (.ref (A.c 0))
  x0 : PySem.W.excIn K (A.c 0) [.type "ValueError", .type "Exception", .type "BaseException", .type "object"] "ValueError.__new__" = true
  kC0 : PySem.W.keepIn K (.ref (A.c 0)) = true
  bC0 : PySem.W.subIn K (.ref (A.c 0)) (.type "BaseException") = some true
  tC0 : PySem.W.typeIn K (.ref (A.c 0)) = some (.type "type")
  gC2 : mg "NoFit" = some (.ref (A.c 2))
  x2 : PySem.W.excIn K (A.c 2) [.type "ValueError", .type "Exception", .type "BaseException", .type "object"] "ValueError.__new__" = true
  kC2 : PySem.W.keepIn K (.ref (A.c 2)) = true
  bC2 : PySem.W.subIn K (.ref (A.c 2)) (.type "BaseException") = some true
  tC2 : PySem.W.typeIn K (.ref (A.c 2)) = some (.type "type")
  exm22 : PySem.W.exmOne K (.ref (A.c 2)) (.ref (A.c 2)) = some true
section
variable {P : Program} {w : World} {K : PySem.W.Frag} {mg : Str → Option Value} {base : Heap} {A : Cs}
theorem ok_must (T : Txt K mg A) : FnOk P w K mg base (L2.CX P w) 1 (A.a 0) (A.d 0) ["fits"] (spX K 1 A.c phi_must) := by
  exact ok_def [] T.F0 sc_must rfl (fun cdv Ar outer s H E hr hp tk => ⟨_, (ss_one (sd_if (td_not (td_truth (ed_var 0)))
      (ss_one (sd_raise 2 T.x2 T.gC2 T.kC2 (raises_own T.bC2 T.tC2) tk)) ss_nil))⟩)
theorem ok_then (T : Txt K mg A) : FnOk P w K mg base (L2.CX P w) 2 (A.a 1) (A.d 1) ["one", "other"] (spX K 2 A.c phi_then) := by
  exact ok_def [] T.F1 sc_then rfl (fun cdv Ar outer s H E hr hp tk => ⟨_, (ss_cons (sd_exprQ (qd_call (ok_must T) (hr.mono (by decide)) T.g0 T.F0.kp T.b0 defN_len tk (ad_cons (ed_cmp (od_eq hr) (ed_ix (ed_var 0) ed_int) (ed_bi bd_len T.m_len PySem.boot_len (ad_cons (ed_ix (ed_var 1) ed_int) ad_nil))) ad_nil)))
    (ss_one (sd_ret (ed_tup (ad_cons (ed_ix (ed_var 1) ed_int) (ad_cons (ed_ty bd_tuple T.m_tuple PyProof.Rows.boot_tuple (ad_cons (ed_fr (fd_lc [(("number" : Str), 2)] nd_then (id_seq (ed_ix (ed_var 0) ed_int)) (blkOk_by (N := N_then) (sc := (defScope s_then)) (by decide +kernel)) (fun _ _ _ _ _ => (gd_name 2 nd_then)) (fun _ _ _ _ _ => ctd_nil) (fun _ _ _ _ _ => (ed_ix (ed_ix (ed_var 1) ed_int) (ed_var 2))))) ad_nil)) ad_nil))))))⟩)
theorem ok_comes_to_all (T : Txt K mg A) : FnOk P w K mg base (L2.CX P w) 1 (A.a 2) (A.d 2) ["one"] (spX K 1 A.c phi_comes_to_all) := by
  exact ok_def [] T.F2 sc_comes_to_all rfl (fun cdv Ar outer s H E hr hp tk => ⟨_, (ss_one (sd_ret (ed_cmp (od_eq hr) (ed_lenSet (ed_ix (ed_var 0) ed_int) T.m_len T.m_set) (ed_ix (ed_var 0) ed_int))))⟩)
theorem ok_homes_of (T : Txt K mg A) : FnOk P w K mg base (L2.CX P w) 1 (A.a 3) (A.d 3) ["many", "pairs"] (spX K 2 A.c phi_homes_of) := by
  exact ok_def [] T.F3 sc_homes_of rfl (fun cdv Ar outer s H E hr hp tk => ⟨_, (ss_cons (sd_set 2 nd_homes_of (ed_fr (fd_listRg (ed_var 0) T.m_range T.m_list)))
    (ss_cons (sd_for hp (id_seq (ed_var 1)) (gd_seq (gsd_cons (gd_name 4 nd_homes_of) (gsd_cons (gd_name 5 nd_homes_of) gsd_nil)))
      (ss_cons (sd_set 6 nd_homes_of (ed_bi bd_min2 T.m_min PyProof.Rows.boot_min (ad_cons (ed_ix (ed_var 2) (ed_var 4)) (ad_cons (ed_ix (ed_var 2) (ed_var 5)) ad_nil))))
    (ss_cons (sd_set 7 nd_homes_of (ed_bi bd_max2 T.m_max PyProof.Rows.boot_max (ad_cons (ed_ix (ed_var 2) (ed_var 4)) (ad_cons (ed_ix (ed_var 2) (ed_var 5)) ad_nil))))
    (ss_one (sd_setLc 2 [(("home" : Str), 8)] nd_homes_of (id_seq (ed_var 2)) (blkOk_by (N := N_homes_of) (sc := (defScope s_homes_of)) (by decide +kernel)) (fun _ _ _ _ _ => (gd_name 8 nd_homes_of)) (fun _ _ _ _ _ => ctd_nil) (fun _ _ _ _ _ => (ed_if (td_cmp (od_eq hr) (ed_var 8) (ed_var 7)) (ed_var 6) (ed_var 8))) (sw_true rfl rfl rfl (by decide +kernel)))))))
    (ss_cons (sd_set 3 nd_homes_of (ed_fr (fd_sortSetA (ed_var 2) T.m_sorted T.m_set)))
    (ss_one (sd_ret (ed_tup (ad_cons (ed_bi bd_len T.m_len PySem.boot_len (ad_cons (ed_var 3) ad_nil)) (ad_cons (ed_fr (fd_lc [(("home" : Str), 8)] nd_homes_of (id_seq (ed_var 2)) (blkOk_by (N := N_homes_of) (sc := (defScope s_homes_of)) (by decide +kernel)) (fun _ _ _ _ _ => (gd_name 8 nd_homes_of)) (fun _ _ _ _ _ => ctd_nil) (fun _ _ _ _ _ => (ed_index (ed_var 3) (ed_var 8))))) ad_nil))))))))⟩)
theorem ok_joined (T : Txt K mg A) : FnOk P w K mg base (L2.CX P w) 2 (A.a 4) (A.d 4) ["one", "other"] (spX K 2 A.c phi_joined) := by
  exact ok_def [] T.F4 sc_joined rfl (fun cdv Ar outer s H E hr hp tk => ⟨_, (ss_cons (sd_exprQ (qd_call (ok_must T) (hr.mono (by decide)) T.g0 T.F0.kp T.b0 defN_len tk (ad_cons (ed_cmp (od_eq hr) (ed_bi bd_len T.m_len PySem.boot_len (ad_cons (ed_ix (ed_var 0) ed_int) ad_nil)) (ed_bi bd_len T.m_len PySem.boot_len (ad_cons (ed_ix (ed_var 1) ed_int) ad_nil))) ad_nil)))
    (ss_cons (sd_setLc 2 [(("k" : Str), 5)] nd_joined (id_range1 (ed_bi bd_len T.m_len PySem.boot_len (ad_cons (ed_ix (ed_var 0) ed_int) ad_nil)) T.m_range) (blkOk_by (N := N_joined) (sc := (defScope s_joined)) (by decide +kernel)) (fun _ _ _ _ _ => (gd_name 5 nd_joined)) (fun _ _ _ _ _ => ctd_nil) (fun _ _ _ _ _ => (ed_tup (ad_cons (ed_ix (ed_ix (ed_var 0) ed_int) (ed_var 5)) (ad_cons (ed_op od_add (ed_ix (ed_var 0) ed_int) (ed_ix (ed_ix (ed_var 1) ed_int) (ed_var 5))) ad_nil)))) (sw_true rfl rfl rfl (by decide +kernel)))
    (ss_cons (sd_tgt (ed_call (ok_homes_of T) (hr.mono (by decide)) T.g3 T.F3.kp T.b3 defN_len (ad_cons (ed_op od_add (ed_ix (ed_var 0) ed_int) (ed_ix (ed_var 1) ed_int)) (ad_cons (ed_var 2) ad_nil))) (gd_seq (gsd_cons (gd_name 3 nd_joined) (gsd_cons (gd_name 4 nd_joined) gsd_nil))))
    (ss_one (sd_ret (ed_tup (ad_cons (ed_tup (ad_cons (ed_var 3) (ad_cons (ed_ty bd_tuple T.m_tuple PyProof.Rows.boot_tuple (ad_cons (ed_sl (ed_var 4) pd_none (pd_some (ed_ix (ed_var 0) ed_int))) ad_nil)) ad_nil))) (ad_cons (ed_tup (ad_cons (ed_var 3) (ad_cons (ed_ty bd_tuple T.m_tuple PyProof.Rows.boot_tuple (ad_cons (ed_sl (ed_var 4) (pd_some (ed_ix (ed_var 0) ed_int)) pd_none) ad_nil)) ad_nil))) ad_nil))))))))⟩)
theorem ok_alike_made (T : Txt K mg A) : FnOk P w K mg base (L2.CX P w) 2 (A.a 5) (A.d 5) ["one", "other"] (spX K 2 A.c phi_alike_made) := by
  exact ok_def [] T.F5 sc_alike_made rfl (fun cdv Ar outer s H E hr hp tk => ⟨_, (ss_cons (sd_exprQ (qd_call (ok_must T) (hr.mono (by decide)) T.g0 T.F0.kp T.b0 defN_len tk (ad_cons (ed_and (ed_cmp (od_eq hr) (ed_ix (ed_var 0) ed_int) (ed_ix (ed_var 1) ed_int)) (ed_one (ed_cmp (od_eq hr) (ed_bi bd_len T.m_len PySem.boot_len (ad_cons (ed_ix (ed_var 0) ed_int) ad_nil)) (ed_bi bd_len T.m_len PySem.boot_len (ad_cons (ed_ix (ed_var 1) ed_int) ad_nil))))) ad_nil)))
    (ss_cons (sd_tgt (ed_call (ok_homes_of T) (hr.mono (by decide)) T.g3 T.F3.kp T.b3 defN_len (ad_cons (ed_ix (ed_var 0) ed_int) (ad_cons (ed_listZip (ed_ix (ed_var 0) ed_int) (ed_ix (ed_var 1) ed_int) T.m_zip T.m_list) ad_nil))) (gd_seq (gsd_cons (gd_name 2 nd_alike_made) (gsd_cons (gd_name 3 nd_alike_made) gsd_nil))))
    (ss_one (sd_ret (ed_tup (ad_cons (ed_var 2) (ad_cons (ed_ty bd_tuple T.m_tuple PyProof.Rows.boot_tuple (ad_cons (ed_var 3) ad_nil)) ad_nil)))))))⟩)
theorem ok_stacked (T : Txt K mg A) : FnOk P w K mg base (L2.CX P w) 2 (A.a 6) (A.d 6) ["first", "second"] (spX K 2 A.c phi_stacked) := by
  exact ok_def [] T.F6 sc_stacked rfl (fun cdv Ar outer s H E hr hp tk => ⟨_, (ss_cons (sd_exprQ (qd_call (ok_must T) (hr.mono (by decide)) T.g0 T.F0.kp T.b0 defN_len tk (ad_cons (ed_cmp (od_eq hr) (ed_ix (ed_var 0) ed_int) (ed_ix (ed_var 1) ed_int)) ad_nil)))
    (ss_one (sd_ret (ed_tup (ad_cons (ed_ix (ed_var 0) ed_int) (ad_cons (ed_op od_add (ed_ix (ed_var 0) ed_int) (ed_ix (ed_var 1) ed_int)) ad_nil))))))⟩)
theorem ok_behind (T : Txt K mg A) : FnOk P w K mg base (L2.CX P w) 2 (A.a 7) (A.d 7) ["one", "other"] (spX K 2 A.c phi_behind) := by
  exact ok_def [3] T.F7 sc_behind rfl (fun cdv Ar outer s H E hr hp tk => ⟨_, (ss_cons (sd_exprQ (qd_call (ok_must T) (hr.mono (by decide)) T.g0 T.F0.kp T.b0 defN_len tk (ad_cons (ed_cmp (od_eq hr) (ed_bi bd_len T.m_len PySem.boot_len (ad_cons (ed_ix (ed_var 0) ed_int) ad_nil)) (ed_bi bd_len T.m_len PySem.boot_len (ad_cons (ed_ix (ed_var 1) ed_int) ad_nil))) ad_nil)))
    (ss_cons (sd_for hp (id_range1 (ed_bi bd_len T.m_len PySem.boot_len (ad_cons (ed_ix (ed_var 0) ed_int) ad_nil)) T.m_range) (gd_name 2 nd_behind)
      (ss_one (sd_for hp (id_range2 (ed_op od_add (ed_var 2) ed_int) (ed_bi bd_len T.m_len PySem.boot_len (ad_cons (ed_ix (ed_var 0) ed_int) ad_nil)) T.m_range) (gd_name 4 nd_behind)
      (ss_one (sd_if (td_w (wd_and (td_cmp (od_eq hr) (ed_ix (ed_ix (ed_var 1) ed_int) (ed_var 2)) (ed_ix (ed_ix (ed_var 1) ed_int) (ed_var 4))) (wd_and1 (td_cmp (od_ne hr) (ed_ix (ed_ix (ed_var 0) ed_int) (ed_var 2)) (ed_ix (ed_ix (ed_var 0) ed_int) (ed_var 4))))))
      (ss_one (sd_ret (ed_tup (ad_cons ed_str (ad_cons (ed_var 2) (ad_cons (ed_var 4) ad_nil)))))) ss_nil)))))
    (ss_cons (sd_if (td_w (wd_and (td_cmp (od_eq hr) (ed_ix (ed_var 0) ed_int) ed_int) (wd_and1 (td_cmp od_gt (ed_ix (ed_var 1) ed_int) ed_int))))
      (ss_one (sd_ret (ed_tup (ad_cons ed_str ad_nil)))) ss_nil)
    (ss_cons (sd_ownLc 3 [(("k" : Str), 2)] nd_behind (id_range1 (ed_ix (ed_var 1) ed_int) T.m_range) (blkOk_by (N := N_behind) (sc := (defScope s_behind)) (by decide +kernel)) (fun _ _ _ _ _ => (gd_name 2 nd_behind)) (fun _ _ _ _ _ => ctd_nil) (fun _ _ _ _ _ => ed_int) (sw_true rfl rfl rfl (by decide +kernel)))
    (ss_cons (sd_for hp (id_enum (ed_ix (ed_var 1) ed_int) T.m_enumerate) (gd_pair (gsd_cons (gd_name 2 nd_behind) (gsd_cons (gd_name 5 nd_behind) gsd_nil)))
      (ss_one (sd_setItem 3 (ed_ix (ed_ix (ed_var 0) ed_int) (ed_var 2)) (ed_var 5))))
    (ss_one (sd_ret (ed_tup (ad_cons ed_str (ad_cons (ed_tup (ad_cons (ed_ix (ed_var 0) ed_int) (ad_cons (ed_ty bd_tuple T.m_tuple PyProof.Rows.boot_tuple (ad_cons (ed_var 3) ad_nil)) ad_nil))) ad_nil))))))))))⟩)
theorem ok__law_cell (T : Txt K mg A) : FnOk P w K mg base (L2.CX P w) 1 (A.a 8) (A.d 8) ["_law_script", "_law_k"] (spX K 2 A.c phi__law_cell) := by
  exact ok_def [] T.F8 sc__law_cell rfl (fun cdv Ar outer s H E hr hp tk => ⟨_, (ss_cons (sd_if (td_cmp od_lt (ed_var 1) (ed_bi bd_len T.m_len PySem.boot_len (ad_cons (ed_var 0) ad_nil)))
      (ss_one (sd_ret (ed_ix (ed_var 0) (ed_var 1)))) ss_nil)
    (ss_one (sd_ret ed_int)))⟩)
theorem ok__law_mix (T : Txt K mg A) : FnOk P w K mg base (L2.CX P w) 1 (A.a 9) (A.d 9) ["_law_cell_here", "_law_prime", "_law_many"] (spX K 3 A.c phi__law_mix) := by
  exact ok_def [] T.F9 sc__law_mix rfl (fun cdv Ar outer s H E hr hp tk => ⟨_, (ss_one (sd_ret (ed_op od_mod (ed_op od_mod (ed_op od_mulD (ed_var 0) ed_int) (ed_var 1)) (ed_var 2))))⟩)
theorem ok__law_map (T : Txt K mg A) : FnOk P w K mg base (L2.CX P w) 2 (A.a 10) (A.d 10) ["_law_cell_here", "_law_many", "_law_to"] (spX K 3 A.c phi__law_map) := by
  exact ok_def [4] T.F10 sc__law_map rfl (fun cdv Ar outer s H E hr hp tk => ⟨_, (ss_cons (sd_set 3 nd__law_map (ed_fr (fd_lst ad_nil)))
    (ss_cons (sd_if (td_cmp od_gt (ed_var 2) ed_int)
      (ss_one (sd_setLc 3 [(("_law_k" : Str), 5)] nd__law_map (id_range1 (ed_var 1) T.m_range) (blkOk_by (N := N__law_map) (sc := (defScope s__law_map)) (by decide +kernel)) (fun _ _ _ _ _ => (gd_name 5 nd__law_map)) (fun _ _ _ _ _ => ctd_nil) (fun _ _ _ _ _ => (ed_call (ok__law_mix T) (hr.mono (by decide)) T.g9 T.F9.kp T.b9 defN_len (ad_cons (ed_op od_add (ed_var 0) (ed_op od_mulD ed_int (ed_var 5))) (ad_cons ed_int (ad_cons (ed_var 2) ad_nil))))) (sw_true rfl rfl rfl (by decide +kernel)))) ss_nil)
    (ss_cons (sd_if (td_w (wd_and (td_cmp (od_eq hr) (ed_op od_mod (ed_var 0) ed_int) ed_int) (wd_and1 (td_chain od_lt od_le ed_int (ed_var 2) (ed_var 1)))))
      (ss_cons (sd_setLc 3 [(("_law_k" : Str), 5)] nd__law_map (id_range1 (ed_var 1) T.m_range) (blkOk_by (N := N__law_map) (sc := (defScope s__law_map)) (by decide +kernel)) (fun _ _ _ _ _ => (gd_name 5 nd__law_map)) (fun _ _ _ _ _ => ctd_nil) (fun _ _ _ _ _ => (ed_op od_mod (ed_var 5) (ed_var 2))) (sw_true rfl rfl rfl (by decide +kernel)))
    (ss_one (sd_set 3 nd__law_map (ed_op od_add (ed_sl (ed_var 3) (pd_some (ed_op od_mod (ed_op od_fdiv (ed_var 0) ed_int) (ed_var 1))) pd_none) (ed_sl (ed_var 3) pd_none (pd_some (ed_op od_mod (ed_op od_fdiv (ed_var 0) ed_int) (ed_var 1)))))))) ss_nil)
    (ss_cons (sd_if (td_w (wd_and (td_cmp (od_eq hr) (ed_op od_mod (ed_var 0) ed_int) ed_int) (wd_and1 (td_chain od_lt od_le ed_int (ed_var 1) (ed_var 2)))))
      (ss_cons (sd_own 4 nd__law_map (fd_listRg (ed_var 2) T.m_range T.m_list))
    (ss_one (sd_setPop 3 4 [(("_law_k" : Str), 5)] nd__law_map (id_range1 (ed_var 1) T.m_range) (blkOk_by (N := N__law_map) (sc := (defScope s__law_map)) (by decide +kernel)) (fun _ _ _ _ _ => (gd_name 5 nd__law_map)) (fun _ _ _ _ _ => (pv 4)) (fun _ _ _ _ _ => (ed_call (ok__law_mix T) (hr.mono (by decide)) T.g9 T.F9.kp T.b9 defN_len (ad_cons (ed_op od_add (ed_var 0) (ed_op od_mulD ed_int (ed_var 5))) (ad_cons ed_int (ad_cons (ed_op od_sub (ed_var 2) (ed_var 5)) ad_nil))))) (sw_true rfl rfl rfl (by decide +kernel))))) ss_nil)
    (ss_one (sd_ret (ed_tup (ad_cons (ed_var 2) (ad_cons (ed_ty bd_tuple T.m_tuple PyProof.Rows.boot_tuple (ad_cons (ed_var 3) ad_nil)) ad_nil)))))))))⟩)
theorem ok__law_sizes (T : Txt K mg A) : FnOk P w K mg base (L2.CX P w) 2 (A.a 11) (A.d 11) ["_law_script", "_law_k"] (spX K 2 A.c phi__law_sizes) := by
  exact ok_def [] T.F11 sc__law_sizes rfl (fun cdv Ar outer s H E hr hp tk => ⟨_, (ss_cons (sd_set 2 nd__law_sizes (ed_call (ok__law_cell T) (hr.mono (by decide)) T.g8 T.F8.kp T.b8 defN_len (ad_cons (ed_var 0) (ad_cons (ed_var 1) ad_nil))))
    (ss_one (sd_ret (ed_fr (fd_lst (ad_cons (ed_call (ok__law_mix T) (hr.mono (by decide)) T.g9 T.F9.kp T.b9 defN_len (ad_cons (ed_var 2) (ad_cons ed_int (ad_cons ed_int ad_nil)))) (ad_cons (ed_call (ok__law_mix T) (hr.mono (by decide)) T.g9 T.F9.kp T.b9 defN_len (ad_cons (ed_var 2) (ad_cons ed_int (ad_cons ed_int ad_nil)))) (ad_cons (ed_call (ok__law_mix T) (hr.mono (by decide)) T.g9 T.F9.kp T.b9 defN_len (ad_cons (ed_var 2) (ad_cons ed_int (ad_cons ed_int ad_nil)))) (ad_cons (ed_call (ok__law_mix T) (hr.mono (by decide)) T.g9 T.F9.kp T.b9 defN_len (ad_cons (ed_var 2) (ad_cons ed_int (ad_cons ed_int ad_nil)))) ad_nil)))))))))⟩)
theorem ok__law_then (T : Txt K mg A) : FnOk P w K mg base (L2.CX P w) 1 (A.a 12) (A.d 12) ["_law_one", "_law_other"] (spX K 2 A.c phi__law_then) := by
  exact ok_def [] T.F12 sc__law_then rfl (fun cdv Ar outer s H E hr hp tk => ⟨_, (ss_one (sd_ret (ed_tup (ad_cons (ed_ix (ed_var 1) ed_int) (ad_cons (ed_ty bd_tuple T.m_tuple PyProof.Rows.boot_tuple (ad_cons (ed_fr (fd_lc [(("_law_number" : Str), 2)] nd__law_then (id_seq (ed_ix (ed_var 0) ed_int)) (blkOk_by (N := N__law_then) (sc := (defScope s__law_then)) (by decide +kernel)) (fun _ _ _ _ _ => (gd_name 2 nd__law_then)) (fun _ _ _ _ _ => ctd_nil) (fun _ _ _ _ _ => (ed_ix (ed_ix (ed_var 1) ed_int) (ed_var 2))))) ad_nil)) ad_nil)))))⟩)
theorem ok__law_refused (T : Txt K mg A) : FnOk P w K mg base (L2.CX P w) 3 (A.a 13) (A.d 13) ["_law_way", "_law_one", "_law_other"] (spX K 3 A.c phi__law_refused) := by
  exact ok_def [] T.F13 sc__law_refused rfl (fun cdv Ar outer s H E hr hp tk => ⟨_, (ss_cons (sd_set 3 nd__law_refused ed_bl)
    (ss_cons (sd_tryOnly 2 ⟨rfl, by decide, .inl T.gC2⟩ tk T.exm22 (fun W pn xe tk => (ss_one (sd_if (td_cmp (od_eq hr) (ed_var 0) ed_int)
      (ss_one (sd_exprQ (qd_call (ok_joined T) (hr.mono (by decide)) T.g4 T.F4.kp T.b4 defN_len tk (ad_cons (ed_var 1) (ad_cons (ed_var 2) ad_nil))))) (ss_one (sd_exprQ (qd_call (ok_alike_made T) (hr.mono (by decide)) T.g5 T.F5.kp T.b5 defN_len tk (ad_cons (ed_var 1) (ad_cons (ed_var 2) ad_nil)))))))) (fun a oe pn => (ss_one (sd_set 3 nd__law_refused ed_bl))))
    (ss_one (sd_ret (ed_var 3)))))⟩)
theorem ok__law_homes (T : Txt K mg A) : FnOk P w K mg base (L2.CX P w) 1 (A.a 14) (A.d 14) ["_law_many", "_law_pairs"] (spX K 2 A.c phi__law_homes) := by
  exact ok_def [2, 5] T.F14 sc__law_homes rfl (fun cdv Ar outer s H E hr hp tk => ⟨_, (ss_cons (sd_ownLc 2 [(("_law_k" : Str), 4)] nd__law_homes (id_range1 (ed_var 0) T.m_range) (blkOk_by (N := N__law_homes) (sc := (defScope s__law_homes)) (by decide +kernel)) (fun _ _ _ _ _ => (gd_name 4 nd__law_homes)) (fun _ _ _ _ _ => ctd_nil) (fun _ _ _ _ _ => ed_non) (sw_true rfl rfl rfl (by decide +kernel)))
    (ss_cons (sd_set 3 nd__law_homes ed_int)
    (ss_cons (sd_for hp (id_range1 (ed_var 0) T.m_range) (gd_name 4 nd__law_homes)
      (ss_one (sd_if (td_cmp od_is (ed_ix (ed_var 2) (ed_var 4)) ed_non)
      (ss_cons (sd_own 5 nd__law_homes (fd_lst (ad_cons (ed_var 4) ad_nil)))
    (ss_cons (sd_while 1000000 hp (td_truth (ed_var 5)) (ss_cons (sd_popS 6 5 nd__law_homes)
    (ss_one (sd_if (td_cmp od_is (ed_ix (ed_var 2) (ed_var 6)) ed_non)
      (ss_cons (sd_setItem 2 (ed_var 3) (ed_var 6))
    (ss_one (sd_own 5 nd__law_homes (fd_flat (fd_cat (ed_op od_add (ed_var 5) (ed_fr (fd_lc [(("_law_a" : Str), 7), (("_law_b" : Str), 8)] nd__law_homes (id_seq (ed_var 1)) (blkOk_by (N := N__law_homes) (sc := (defScope s__law_homes)) (by decide +kernel)) (fun _ _ _ _ _ => (gd_seq (gsd_cons (gd_name 7 nd__law_homes) (gsd_cons (gd_name 8 nd__law_homes) gsd_nil)))) (fun _ _ _ _ _ => (ctd_one (td_cmp (od_eq hr) (ed_var 7) (ed_var 6)))) (fun _ _ _ _ _ => (ed_var 8))))) (ed_fr (fd_lc [(("_law_a" : Str), 7), (("_law_b" : Str), 8)] nd__law_homes (id_seq (ed_var 1)) (blkOk_by (N := N__law_homes) (sc := (defScope s__law_homes)) (by decide +kernel)) (fun _ _ _ _ _ => (gd_seq (gsd_cons (gd_name 7 nd__law_homes) (gsd_cons (gd_name 8 nd__law_homes) gsd_nil)))) (fun _ _ _ _ _ => (ctd_one (td_cmp (od_eq hr) (ed_var 8) (ed_var 6)))) (fun _ _ _ _ _ => (ed_var 7))))))))) ss_nil))))
    (ss_one (sd_set 3 nd__law_homes (ed_op od_add (ed_var 3) ed_int))))) ss_nil)))
    (ss_one (sd_ret (ed_tup (ad_cons (ed_var 3) (ad_cons (ed_var 2) ad_nil))))))))⟩)
theorem ok__law_through_right (T : Txt K mg A) : FnOk P w K mg base (L2.CX P w) 3 (A.a 15) (A.d 15) ["_law_first", "_law_second", "_law_cell_here"] (spX K 3 A.c phi__law_through_right) := by
  exact ok_def [] T.F15 sc__law_through_right rfl (fun cdv Ar outer s H E hr hp tk => ⟨_, (ss_cons (sd_set 3 nd__law_through_right (ed_call (ok__law_map T) (hr.mono (by decide)) T.g10 T.F10.kp T.b10 defN_len (ad_cons (ed_var 2) (ad_cons (ed_ix (ed_var 0) ed_int) (ad_cons (ed_op od_add ed_int (ed_call (ok__law_mix T) (hr.mono (by decide)) T.g9 T.F9.kp T.b9 defN_len (ad_cons (ed_var 2) (ad_cons ed_int (ad_cons ed_int ad_nil))))) ad_nil)))))
    (ss_cons (sd_set 4 nd__law_through_right (ed_call (ok__law_then T) (hr.mono (by decide)) T.g12 T.F12.kp T.b12 defN_len (ad_cons (ed_var 0) (ad_cons (ed_var 3) ad_nil))))
    (ss_cons (sd_set 5 nd__law_through_right (ed_call (ok__law_then T) (hr.mono (by decide)) T.g12 T.F12.kp T.b12 defN_len (ad_cons (ed_var 1) (ad_cons (ed_var 3) ad_nil))))
    (ss_cons (sd_setQ 6 nd__law_through_right (qd_call (ok_behind T) (hr.mono (by decide)) T.g7 T.F7.kp T.b7 defN_len tk (ad_cons (ed_call (ok_stacked T) (hr.mono (by decide)) T.g6 T.F6.kp T.b6 defN_len (ad_cons (ed_var 4) (ad_cons (ed_var 5) ad_nil))) (ad_cons (ed_call (ok_stacked T) (hr.mono (by decide)) T.g6 T.F6.kp T.b6 defN_len (ad_cons (ed_var 0) (ad_cons (ed_var 1) ad_nil))) ad_nil))))
    (ss_cons (sd_if (td_w (wd_or (td_cmp (od_ne hr) (ed_ix (ed_var 6) ed_int) ed_str) (wd_or1 (td_not (td_truth (ed_call (ok_comes_to_all T) (hr.mono (by decide)) T.g2 T.F2.kp T.b2 defN_len (ad_cons (ed_call (ok_stacked T) (hr.mono (by decide)) T.g6 T.F6.kp T.b6 defN_len (ad_cons (ed_var 0) (ad_cons (ed_var 1) ad_nil))) ad_nil)))))))
      (ss_one (sd_ret ed_bl)) ss_nil)
    (ss_one (sd_ret (ed_cmp (od_eq hr) (ed_ix (ed_var 6) ed_int) (ed_var 3)))))))))⟩)
theorem ok_law (T : Txt K mg A) : FnOk P w K mg base (L2.CX P w) 4 (A.a 16) (A.d 16) ["_law_script"] (spX K 1 A.c phi_law) := by
  exact ok_def [] T.F16 sc_law rfl (fun cdv Ar outer s H E hr hp tk => ⟨_, (ss_cons (sd_for hp (id_range1 ed_int T.m_range) (gd_name 1 nd_law)
      (ss_cons (sd_tgt (ed_fr (fd_lc [(("_law_size" : Str), 13)] nd_law (id_seq (ed_call (ok__law_sizes T) (hr.mono (by decide)) T.g11 T.F11.kp T.b11 defN_len (ad_cons (ed_var 0) (ad_cons (ed_var 1) ad_nil)))) (blkOk_by (N := N_law) (sc := (defScope s_law)) (by decide +kernel)) (fun _ _ _ _ _ => (gd_name 13 nd_law)) (fun _ _ _ _ _ => ctd_nil) (fun _ _ _ _ _ => (ed_bi bd_min2 T.m_min PyProof.Rows.boot_min (ad_cons ed_int (ad_cons (ed_var 13) ad_nil)))))) (gd_seq (gsd_cons (gd_name 6 nd_law) (gsd_cons (gd_name 7 nd_law) (gsd_cons (gd_name 8 nd_law) (gsd_cons (gd_name 9 nd_law) gsd_nil))))))
    (ss_cons (sd_set 2 nd_law (ed_call (ok__law_map T) (hr.mono (by decide)) T.g10 T.F10.kp T.b10 defN_len (ad_cons (ed_call (ok__law_cell T) (hr.mono (by decide)) T.g8 T.F8.kp T.b8 defN_len (ad_cons (ed_var 0) (ad_cons (ed_op od_add ed_int (ed_var 1)) ad_nil))) (ad_cons (ed_var 6) (ad_cons (ed_var 7) ad_nil)))))
    (ss_cons (sd_set 3 nd_law (ed_call (ok__law_map T) (hr.mono (by decide)) T.g10 T.F10.kp T.b10 defN_len (ad_cons (ed_call (ok__law_cell T) (hr.mono (by decide)) T.g8 T.F8.kp T.b8 defN_len (ad_cons (ed_var 0) (ad_cons (ed_op od_add ed_int (ed_var 1)) ad_nil))) (ad_cons (ed_bi bd_len T.m_len PySem.boot_len (ad_cons (ed_ix (ed_var 2) ed_int) ad_nil)) (ad_cons (ed_var 8) ad_nil)))))
    (ss_cons (sd_if (td_cmp (od_eq hr) (ed_bi bd_len T.m_len PySem.boot_len (ad_cons (ed_ix (ed_var 3) ed_int) ad_nil)) (ed_bi bd_len T.m_len PySem.boot_len (ad_cons (ed_ix (ed_var 2) ed_int) ad_nil)))
      (ss_cons (sd_setLc 10 [(("_law_n" : Str), 16)] nd_law (id_range1 (ed_bi bd_len T.m_len PySem.boot_len (ad_cons (ed_ix (ed_var 2) ed_int) ad_nil)) T.m_range) (blkOk_by (N := N_law) (sc := (defScope s_law)) (by decide +kernel)) (fun _ _ _ _ _ => (gd_name 16 nd_law)) (fun _ _ _ _ _ => ctd_nil) (fun _ _ _ _ _ => (ed_tup (ad_cons (ed_ix (ed_ix (ed_var 2) ed_int) (ed_var 16)) (ad_cons (ed_op od_add (ed_ix (ed_var 2) ed_int) (ed_ix (ed_ix (ed_var 3) ed_int) (ed_var 16))) ad_nil)))) (sw_true rfl rfl rfl (by decide +kernel)))
    (ss_cons (sd_tgt (ed_call (ok__law_homes T) (hr.mono (by decide)) T.g14 T.F14.kp T.b14 defN_len (ad_cons (ed_op od_add (ed_ix (ed_var 2) ed_int) (ed_ix (ed_var 3) ed_int)) (ad_cons (ed_var 10) ad_nil))) (gd_seq (gsd_cons (gd_name 11 nd_law) (gsd_cons (gd_name 12 nd_law) gsd_nil))))
    (ss_cons (sd_tgt (ed_call (ok_joined T) (hr.mono (by decide)) T.g4 T.F4.kp T.b4 defN_len (ad_cons (ed_var 2) (ad_cons (ed_var 3) ad_nil))) (gd_seq (gsd_cons (gd_name 14 nd_law) (gsd_cons (gd_name 15 nd_law) gsd_nil))))
    (ss_cons (sd_if (td_w (wd_or (td_cmp (od_ne hr) (ed_var 14) (ed_tup (ad_cons (ed_var 11) (ad_cons (ed_ty bd_tuple T.m_tuple PyProof.Rows.boot_tuple (ad_cons (ed_sl (ed_var 12) pd_none (pd_some (ed_ix (ed_var 2) ed_int))) ad_nil)) ad_nil)))) (wd_or1 (td_cmp (od_ne hr) (ed_var 15) (ed_tup (ad_cons (ed_var 11) (ad_cons (ed_ty bd_tuple T.m_tuple PyProof.Rows.boot_tuple (ad_cons (ed_sl (ed_var 12) (pd_some (ed_ix (ed_var 2) ed_int)) pd_none) ad_nil)) ad_nil)))))))
      (ss_one (sd_ret ed_bl)) ss_nil)
    (ss_cons (sd_if (td_cmp (od_ne hr) (ed_call (ok_then T) (hr.mono (by decide)) T.g1 T.F1.kp T.b1 defN_len (ad_cons (ed_var 2) (ad_cons (ed_var 14) ad_nil))) (ed_call (ok_then T) (hr.mono (by decide)) T.g1 T.F1.kp T.b1 defN_len (ad_cons (ed_var 3) (ad_cons (ed_var 15) ad_nil))))
      (ss_one (sd_ret ed_bl)) ss_nil)
    (ss_one (sd_if (td_not (td_truth (ed_call (ok__law_through_right T) (hr.mono (by decide)) T.g15 T.F15.kp T.b15 defN_len (ad_cons (ed_var 14) (ad_cons (ed_var 15) (ad_cons (ed_call (ok__law_cell T) (hr.mono (by decide)) T.g8 T.F8.kp T.b8 defN_len (ad_cons (ed_var 0) (ad_cons (ed_op od_add ed_int (ed_var 1)) ad_nil))) ad_nil))))))
      (ss_one (sd_ret ed_bl)) ss_nil))))))) ss_nil)
    (ss_cons (sd_set 4 nd_law (ed_call (ok__law_map T) (hr.mono (by decide)) T.g10 T.F10.kp T.b10 defN_len (ad_cons (ed_call (ok__law_cell T) (hr.mono (by decide)) T.g8 T.F8.kp T.b8 defN_len (ad_cons (ed_var 0) (ad_cons (ed_op od_add ed_int (ed_var 1)) ad_nil))) (ad_cons (ed_bi bd_len T.m_len PySem.boot_len (ad_cons (ed_ix (ed_var 2) ed_int) ad_nil)) (ad_cons (ed_ix (ed_var 2) ed_int) ad_nil)))))
    (ss_cons (sd_tgt (ed_call (ok__law_homes T) (hr.mono (by decide)) T.g14 T.F14.kp T.b14 defN_len (ad_cons (ed_ix (ed_var 2) ed_int) (ad_cons (ed_fr (fd_lc [(("_law_n" : Str), 16)] nd_law (id_range1 (ed_bi bd_len T.m_len PySem.boot_len (ad_cons (ed_ix (ed_var 2) ed_int) ad_nil)) T.m_range) (blkOk_by (N := N_law) (sc := (defScope s_law)) (by decide +kernel)) (fun _ _ _ _ _ => (gd_name 16 nd_law)) (fun _ _ _ _ _ => ctd_nil) (fun _ _ _ _ _ => (ed_tup (ad_cons (ed_ix (ed_ix (ed_var 2) ed_int) (ed_var 16)) (ad_cons (ed_ix (ed_ix (ed_var 4) ed_int) (ed_var 16)) ad_nil)))))) ad_nil))) (gd_seq (gsd_cons (gd_name 11 nd_law) (gsd_cons (gd_name 12 nd_law) gsd_nil))))
    (ss_cons (sd_setQ 5 nd_law (qd_call (ok_alike_made T) (hr.mono (by decide)) T.g5 T.F5.kp T.b5 defN_len tk (ad_cons (ed_var 2) (ad_cons (ed_var 4) ad_nil))))
    (ss_cons (sd_if (td_w (wd_or (td_cmp (od_ne hr) (ed_var 5) (ed_tup (ad_cons (ed_var 11) (ad_cons (ed_ty bd_tuple T.m_tuple PyProof.Rows.boot_tuple (ad_cons (ed_var 12) ad_nil)) ad_nil)))) (wd_or1 (td_cmp (od_ne hr) (ed_call (ok_then T) (hr.mono (by decide)) T.g1 T.F1.kp T.b1 defN_len (ad_cons (ed_var 2) (ad_cons (ed_var 5) ad_nil))) (ed_call (ok_then T) (hr.mono (by decide)) T.g1 T.F1.kp T.b1 defN_len (ad_cons (ed_var 4) (ad_cons (ed_var 5) ad_nil)))))))
      (ss_one (sd_ret ed_bl)) ss_nil)
    (ss_cons (sd_if (td_not (td_truth (ed_call (ok__law_refused T) (hr.mono (by decide)) T.g13 T.F13.kp T.b13 defN_len (ad_cons ed_int (ad_cons (ed_var 2) (ad_cons (ed_tup (ad_cons ed_int (ad_cons (ed_op od_mulD (ed_tup (ad_cons ed_int ad_nil)) (ed_op od_add (ed_bi bd_len T.m_len PySem.boot_len (ad_cons (ed_ix (ed_var 2) ed_int) ad_nil)) ed_int)) ad_nil))) ad_nil))))))
      (ss_one (sd_ret ed_bl)) ss_nil)
    (ss_one (sd_if (td_not (td_truth (ed_call (ok__law_refused T) (hr.mono (by decide)) T.g13 T.F13.kp T.b13 defN_len (ad_cons ed_int (ad_cons (ed_var 2) (ad_cons (ed_tup (ad_cons (ed_op od_add (ed_ix (ed_var 2) ed_int) ed_int) (ad_cons (ed_op od_mulD (ed_tup (ad_cons ed_int ad_nil)) (ed_bi bd_len T.m_len PySem.boot_len (ad_cons (ed_ix (ed_var 2) ed_int) ad_nil))) ad_nil))) ad_nil))))))
      (ss_one (sd_ret ed_bl)) ss_nil))))))))))))
    (ss_one (sd_ret ed_bl)))⟩)
end
end Lw


namespace DL
/-! ### things counted as one, each told by the least of its kind -/
/-- m tells of each thing below n the least one of its kind, pairs counted as one -/
structure Ho (n : Nat) (ps : List (Nat × Nat)) (m : Nat → Nat) : Prop where
  le : ∀ x, x < n → m x ≤ x
  idem : ∀ x, x < n → m (m x) = m x
  eq : ∀ p ∈ ps, m p.1 = m p.2
  cl : ∀ S : Nat → Prop, (∀ p ∈ ps, S p.1 ↔ S p.2) → ∀ x, x < n → (S x ↔ S (m x))
theorem Ho.zero (n : Nat) : Ho n [] id := ⟨fun _ _ => Nat.le_refl _, fun _ _ => rfl, (fun _ h => nomatch h), fun _ _ _ _ => Iff.rfl⟩
def joinM (m : Nat → Nat) (a b : Nat) : Nat → Nat := fun x => if m x = max (m a) (m b) then min (m a) (m b) else m x
theorem Ho.step {n : Nat} {ps : List (Nat × Nat)} {m : Nat → Nat} (h : Ho n ps m) {a b : Nat} (ha : a < n) (hb : b < n) : Ho n (ps ++ [(a, b)]) (joinM m a b) := by
  have ia := h.idem a ha
  have ib := h.idem b hb
  have cases2 : (max (m a) (m b) = m a ∧ min (m a) (m b) = m b) ∨ (max (m a) (m b) = m b ∧ min (m a) (m b) = m a) := by omega
  have hmin : m (min (m a) (m b)) = min (m a) (m b) := by
    rcases cases2 with ⟨_, e⟩ | ⟨_, e⟩ <;> rw [e] <;> assumption
  refine ⟨fun x hx => ?_, fun x hx => ?_, fun p hp => ?_, fun S hS x hx => ?_⟩
  · have := h.le x hx
    unfold joinM
    split <;> omega
  · have ix := h.idem x hx
    by_cases c : m x = max (m a) (m b)
    · have e : joinM m a b x = min (m a) (m b) := if_pos c
      rw [e]
      unfold joinM
      rw [hmin]
      split <;> rfl
    · have e : joinM m a b x = m x := if_neg c
      rw [e]
      unfold joinM
      rw [ix, if_neg c]
  · rcases List.mem_append.mp hp with hp | hp
    · have := h.eq p hp
      unfold joinM
      rw [this]
    · rcases List.mem_cons.mp hp with rfl | hp
      · show joinM m a b a = joinM m a b b
        unfold joinM
        split <;> split <;> omega
      · cases hp
  · have old := h.cl S (fun p hp => hS p (List.mem_append_left _ hp))
    have hab := hS (a, b) (List.mem_append_right _ List.mem_cons_self)
    have hab : S a ↔ S b := hab
    by_cases c : m x = max (m a) (m b)
    · have e : joinM m a b x = min (m a) (m b) := if_pos c
      rw [e, old x hx, c]
      rcases cases2 with ⟨e1, e2⟩ | ⟨e1, e2⟩ <;> rw [e1, e2, ← old a ha, ← old b hb]
      · exact hab
      · exact hab.symm
    · have e : joinM m a b x = m x := if_neg c
      rw [e]
      exact old x hx
/-- how many kinds have their least thing below r -/
def rank (m : Nat → Nat) (r : Nat) : Nat := ((List.range r).filter fun k => decide (m k = k)).length
theorem rank_succ (m : Nat → Nat) (r : Nat) : rank m (r + 1) = rank m r + if m r = r then 1 else 0 := by
  unfold rank
  rw [List.range_succ, List.filter_append, List.length_append]
  by_cases h : m r = r
  · simp [h]
  · simp [h]
theorem rank_mono (m : Nat → Nat) {r s : Nat} (h : r ≤ s) : rank m r ≤ rank m s := by
  induction s with
  | zero => rw [Nat.le_zero.mp h]; exact Nat.le_refl _
  | succ s ih =>
    by_cases e : r = s + 1
    · rw [e]; exact Nat.le_refl _
    · have := ih (by omega)
      rw [rank_succ]
      omega
theorem rank_le (m : Nat → Nat) (r : Nat) : rank m r ≤ r := by
  unfold rank
  refine Nat.le_trans (List.length_filter_le _ _) ?_
  rw [List.length_range]
  exact Nat.le_refl _
def lab (m : Nat → Nat) (x : Nat) : Nat := rank m (m x)
theorem Ho.lab_lt {n : Nat} {ps : List (Nat × Nat)} {m : Nat → Nat} (h : Ho n ps m) {x : Nat} (hx : x < n) : lab m x < rank m n := by
  have h1 := h.le x hx
  have h2 := rank_succ m (m x)
  rw [if_pos (h.idem x hx)] at h2
  have h3 := rank_mono m (r := m x + 1) (s := n) (by omega)
  unfold lab
  omega
/-- the sorted least things -/
theorem kinds_eq {n : Nat} {ps : List (Nat × Nat)} {m : Nat → Nat} (h : Ho n ps m) : sset ((List.range n).map fun k => ((m k : Nat) : Int)) = ((List.range n).filter fun k => decide (m k = k)).map fun (k : Nat) => (k : Int) := by
  refine (rise_eq ?_ (sset_lt _) fun x => ?_).symm
  · rw [List.pairwise_map]
    exact (List.pairwise_lt_range.filter _).imp fun h => by omega
  · rw [sset_mem, List.mem_map, List.mem_map]
    constructor
    · rintro ⟨k, hk, rfl⟩
      obtain ⟨h1, h2⟩ := List.mem_filter.mp hk
      exact ⟨k, h1, by rw [of_decide_eq_true h2]⟩
    · rintro ⟨k, hk, rfl⟩
      have hk' := List.mem_range.mp hk
      have := h.le k hk'
      exact ⟨m k, List.mem_filter.mpr ⟨List.mem_range.mpr (by omega), decide_eq_true (h.idem k hk')⟩, rfl⟩
theorem range_split {r n : Nat} (h : r < n) : ∃ l, List.range n = List.range r ++ r :: l := by
  induction n with
  | zero => omega
  | succ n ih =>
    by_cases e : r = n
    · subst e
      exact ⟨[], by rw [List.range_succ]⟩
    · obtain ⟨l, hl⟩ := ih (by omega)
      exact ⟨l ++ [n], by rw [List.range_succ, hl, List.append_assoc, List.cons_append]⟩
theorem kinds_ix {m : Nat → Nat} {r n : Nat} (h : r < n) (hr : m r = r) : ixI (((List.range n).filter fun k => decide (m k = k)).map fun (k : Nat) => (k : Int)) (r : Int) = rank m r := by
  obtain ⟨l, hl⟩ := range_split h
  have e : ((List.range n).filter fun k => decide (m k = k)) = ((List.range r).filter fun k => decide (m k = k)) ++ r :: (l.filter fun k => decide (m k = k)) := by
    rw [hl, List.filter_append, List.filter_cons_of_pos (by simp [hr])]
  have nd : (((List.range n).filter fun k => decide (m k = k)).map fun (k : Nat) => (k : Int)).Nodup := by
    refine rise_nodup ?_
    rw [List.pairwise_map]
    exact (List.pairwise_lt_range.filter _).imp fun h => by omega
  have hlen : rank m r < (((List.range n).filter fun k => decide (m k = k)).map fun (k : Nat) => (k : Int)).length := by
    rw [List.length_map, e, List.length_append, List.length_cons]
    unfold rank
    omega
  have := ixI_of nd hlen
  have hg : (((List.range r).filter fun k => decide (m k = k)) ++ r :: (l.filter fun k => decide (m k = k)))[rank m r]? = some r := by
    have h0 : rank m r - ((List.range r).filter fun k => decide (m k = k)).length = 0 := Nat.sub_self _
    rw [List.getElem?_append_right (Nat.le_refl (rank m r)), h0, List.getElem?_cons_zero]
  rw [List.getD_eq_getElem?_getD, List.getElem?_map, e, hg] at this
  simp only [Option.map_some, Option.getD_some] at this
  rw [e]
  exact this
theorem filter_lt {α : Type} {p q : α → Bool} : ∀ {l : List α}, (∀ x ∈ l, q x = true → p x = true) → (∃ x ∈ l, p x = true ∧ q x = false) → (l.filter q).length < (l.filter p).length
  | [], _, ⟨x, h, _⟩ => by cases h
  | a :: l, h1, h2 => by
    have le : ∀ {l : List α}, (∀ x ∈ l, q x = true → p x = true) → (l.filter q).length ≤ (l.filter p).length := fun {l} h => by
      induction l with
      | nil => exact Nat.le_refl _
      | cons b r ih =>
        have ih := ih fun x hx => h x (List.mem_cons_of_mem _ hx)
        cases hq : q b with
        | true =>
          rw [List.filter_cons_of_pos hq, List.filter_cons_of_pos (h b List.mem_cons_self hq), List.length_cons, List.length_cons]
          omega
        | false =>
          rw [List.filter_cons_of_neg (by rw [hq]; exact Bool.false_ne_true)]
          cases hp : p b with
          | true => rw [List.filter_cons_of_pos hp, List.length_cons]; omega
          | false => rw [List.filter_cons_of_neg (by rw [hp]; exact Bool.false_ne_true)]; exact ih
    have hl : ∀ x ∈ l, q x = true → p x = true := fun x hx => h1 x (List.mem_cons_of_mem _ hx)
    by_cases ha : p a = true ∧ q a = false
    · rw [List.filter_cons_of_pos ha.1, List.filter_cons_of_neg (by rw [ha.2]; exact Bool.false_ne_true), List.length_cons]
      have := le hl
      omega
    · obtain ⟨x, hx, hp, hq⟩ := h2
      have hx' : x ∈ l := by
        rcases List.mem_cons.mp hx with rfl | z
        · exact absurd ⟨hp, hq⟩ ha
        · exact z
      have ih := filter_lt hl ⟨x, hx', hp, hq⟩
      cases hqa : q a with
      | true =>
        rw [List.filter_cons_of_pos hqa, List.filter_cons_of_pos (h1 a List.mem_cons_self hqa), List.length_cons, List.length_cons]
        omega
      | false =>
        have : ¬ p a = true := fun z => ha ⟨z, hqa⟩
        rw [List.filter_cons_of_neg (by rw [hqa]; exact Bool.false_ne_true), List.filter_cons_of_neg this]
        exact ih
end DL

namespace Lw
open PySem PySem.Spec PyProof.Rows L2 DL
/-! ### what the law's own helpers reckon (the same in every law) -/
theorem mix_eq {c p m : Int} (hp : 0 < p) (hm : 0 < m) : phi__law_mix [.int c, .int p, .int m] = some (.ok (.int (c * 48271 % p % m))) := by
  have h1 : MulOk c 48271 := .inl (.inr ⟨by omega, by omega⟩)
  simp [phi__law_mix, g__law_mix, g__law_mix_0, hp, hm, h1]
theorem mix_lt {c p m : Int} (hm : 0 < m) : 0 ≤ c * 48271 % p % m ∧ c * 48271 % p % m < m := ⟨Int.emod_nonneg _ (by omega), Int.emod_lt_of_pos _ hm⟩
/-- a row of many numbers below to -/
structure Vr (many to : Int) (r : List Int) : Prop where
  len : 0 < to → (r.length : Int) = many
  nil : to ≤ 0 → r = []
  lt : ∀ x ∈ r, 0 ≤ x ∧ x < to
theorem eqv_int (i j : Int) : PyData.eqv (.int i) (.int j) = decide (i = j) := by
  show (i == j) = _
  rw [Bool.beq_eq_decide_eq]
theorem shaped_int (i : Int) : SeqAt.shaped (.int i) = true := by
  simp [SeqAt.shaped, PyData.canLay0, PyData.depth]
abbrev mapRho (c many to : Int) (r : List Int) (x y : Option PyData) : Rho := [some (.int c), some (.int many), some (.int to), some (.list (r.map .int)), x, y]
theorem map_stage1 {c many to : Int} (hm : 0 ≤ many ∧ many ≤ 1000) (ht : 0 ≤ to ∧ to ≤ 1000) : ∃ r, Vr many to r ∧ g__law_map_1 (mapRho c many to [] none none) = some (.nx (mapRho c many to r none none)) := by
  unfold g__law_map_1
  by_cases h : 0 < to
  · rw [if_t (by simp [h])]
    unfold g__law_map_1t0 gAsg fFr
    rw [lc_rg (n := many) (g := fun i => .int ((c + 31 * i) * 48271 % 9973 % to)) rfl (by omega) fun i hi => ?_]
    · refine ⟨(List.range many.toNat).map fun (i : Nat) => (c + 31 * i) * 48271 % 9973 % to, ⟨fun _ => ?_, fun z => absurd h (by omega), fun x hx => ?_⟩, ?_⟩
      · rw [List.length_map, List.length_range]; omega
      · obtain ⟨i, _, rfl⟩ := List.mem_map.mp hx
        exact mix_lt h
      · simp [Function.comp_def]
    · have h1 : MulOk 31 (i : Int) := .inl (.inl ⟨by omega, by omega⟩)
      simp [h1, mix_eq (p := 9973) (by omega) h]
  · rw [if_f (by simp [h])]
    exact ⟨[], ⟨fun z => absurd z h, fun _ => rfl, fun x hx => by cases hx⟩, rfl⟩
theorem cond_eq {c z a b : Int} {ρ : Rho} {i j k : Nat} (hi : ρ[i]? = some (some (.int c))) (hj : ρ[j]? = some (some (.int a))) (hk : ρ[k]? = some (some (.int b))) :
    bAnd (fB (f2 (gEq false) (f2 (gIc (fun _ j => 0 < j) fun i j => i % j) (fVar i) (fC (.int 4))) (fC (.int z)))) (fB (fChain (gIb fun i j => decide (i < j)) (gIb fun i j => decide (i ≤ j)) (fC (.int 0)) (fVar j) (fVar k))) ρ = some (decide (c % 4 = z) && (decide (0 < a) && decide (a ≤ b))) := by
  have e : fVar i ρ = some (.int c) := by unfold fVar; rw [hi]
  have e1 : fVar j ρ = some (.int a) := by unfold fVar; rw [hj]
  have e2 : fVar k ρ = some (.int b) := by unfold fVar; rw [hk]
  unfold bAnd fB f2 fChain
  rw [e, e1, e2]
  simp only [fC, gIc, gEq, gIb, Option.bind_some, shaped_int, and_self, if_true, Bool.false_xor, eqv_int, show (0 : Int) < 4 from by decide]
  cases h1 : decide (c % 4 = z) with
  | false => simp
  | true =>
    cases h2 : decide (0 < a) with
    | false => simp
    | true => simp
theorem cutA_mem {α : Type} {xs : List α} {lo hi : Option Int} {x : α} (h : x ∈ cutA xs lo hi) : x ∈ xs := List.mem_of_mem_drop (List.mem_of_mem_take h)
theorem sIx_of {n d : Nat} {k : Int} (h : 0 ≤ k) : HT.sIx n d (some k) = min k.toNat n := by
  have e : k = ((k.toNat : Nat) : Int) := by omega
  rw [e, HT.sIx_nat]
  rfl
theorem cutA_map {α β : Type} (f : α → β) (xs : List α) (lo hi : Option Int) : cutA (xs.map f) lo hi = (cutA xs lo hi).map f := by
  unfold cutA
  rw [List.length_map, List.map_take, List.map_drop]
theorem cutA_to {α : Type} (xs : List α) {k : Int} (h : 0 ≤ k) : cutA xs none (some k) = xs.take k.toNat := by
  unfold cutA
  rw [HT.sIx_none, List.drop_zero, sIx_of h, Nat.sub_zero]
  by_cases hk : k.toNat ≤ xs.length
  · rw [Nat.min_eq_left hk]
  · rw [Nat.min_eq_right (by omega), List.take_of_length_le (Nat.le_refl _), List.take_of_length_le (by omega)]
theorem cutA_from {α : Type} (xs : List α) {k : Int} (h : 0 ≤ k) : cutA xs (some k) none = xs.drop k.toNat := by
  unfold cutA
  rw [HT.sIx_none, sIx_of h]
  by_cases hk : k.toNat ≤ xs.length
  · rw [Nat.min_eq_left hk, List.take_of_length_le (by rw [List.length_drop]; omega)]
  · rw [Nat.min_eq_right (by omega), List.drop_length, List.take_nil, List.drop_of_length_le (by omega)]
theorem map_stage2 {c many to : Int} {r : List Int} (hm : 0 ≤ many ∧ many ≤ 1000) (ht : 0 ≤ to ∧ to ≤ 1000) (hv : Vr many to r) : ∃ r', Vr many to r' ∧ g__law_map_2 (mapRho c many to r none none) = some (.nx (mapRho c many to r' none none)) := by
  unfold g__law_map_2
  have hc := cond_eq (c := c) (z := 0) (a := to) (b := many) (ρ := mapRho c many to r none none) (i := 0) (j := 2) (k := 1) rfl rfl rfl
  cases h : (decide (c % 4 = 0) && (decide (0 < to) && decide (to ≤ many))) with
  | false => exact ⟨r, hv, by rw [if_f (by rw [hc, h])]; rfl⟩
  | true =>
    rw [if_t (by rw [hc, h])]
    simp only [Bool.and_eq_true, decide_eq_true_eq] at h
    obtain ⟨_, h2, h3⟩ := h
    have h5 : 0 < many := by omega
    have e1 : g__law_map_2t0 (mapRho c many to r none none) = some (.nx (mapRho c many to ((List.range many.toNat).map fun (i : Nat) => (i : Int) % to) none none)) := by
      unfold g__law_map_2t0 gAsg fFr
      rw [lc_rg (n := many) (g := fun i => .int ((i : Int) % to)) rfl (by omega) fun i hi => ?_]
      · simp [Function.comp_def]
      · simp [h2]
    generalize hr1 : (List.range many.toNat).map (fun (i : Nat) => (i : Int) % to) = r1 at e1
    have hl1 : (r1.length : Int) = many := by rw [← hr1, List.length_map, List.length_range]; omega
    have hlt1 : ∀ x ∈ r1, 0 ≤ x ∧ x < to := fun x hx => by
      rw [← hr1] at hx
      obtain ⟨i, _, rfl⟩ := List.mem_map.mp hx
      exact ⟨Int.emod_nonneg _ (by omega), Int.emod_lt_of_pos _ h2⟩
    unfold g__law_map_2t
    rw [blk_nx e1]
    have hk : 0 ≤ c / 4 % many := Int.emod_nonneg _ (by omega)
    have hd : CDiv c 4 := ⟨by decide, by decide⟩
    have e2 : g__law_map_2t1 (mapRho c many to r1 none none) = some (.nx (mapRho c many to (r1.drop (c / 4 % many).toNat ++ r1.take (c / 4 % many).toNat) none none)) := by
      have hsz : r1.length - (c / 4 % many).toNat + min (c / 4 % many).toNat r1.length ≤ 1000000 := by omega
      simp [g__law_map_2t1, hd, h5, cutA_map, cutA_to r1 hk, cutA_from r1 hk, hsz]
    refine ⟨_, ⟨fun _ => ?_, fun z => absurd h2 (by omega), fun x hx => ?_⟩, e2⟩
    · rw [List.length_append, List.length_drop, List.length_take]; omega
    · rcases List.mem_append.mp hx with hx | hx
      · exact hlt1 x (List.mem_of_mem_drop hx)
      · exact hlt1 x (List.mem_of_mem_take hx)
theorem rg_ints (n : Nat) : rgD 0 n = ((List.range n).map fun (i : Nat) => (i : Int)).map PyData.int := by
  rw [rgD_zero, List.map_map]
  rfl
theorem map_stage3 {c many to : Int} {r : List Int} (hm : 0 ≤ many ∧ many ≤ 1000) (ht : 0 ≤ to ∧ to ≤ 1000) (hv : Vr many to r) : ∃ r' y, Vr many to r' ∧ g__law_map_3 (mapRho c many to r none none) = some (.nx (mapRho c many to r' y none)) := by
  unfold g__law_map_3
  have hc := cond_eq (c := c) (z := 1) (a := many) (b := to) (ρ := mapRho c many to r none none) (i := 0) (j := 1) (k := 2) rfl rfl rfl
  cases h : (decide (c % 4 = 1) && (decide (0 < many) && decide (many ≤ to))) with
  | false => exact ⟨r, none, hv, by rw [if_f (by rw [hc, h])]; rfl⟩
  | true =>
    rw [if_t (by rw [hc, h])]
    simp only [Bool.and_eq_true, decide_eq_true_eq] at h
    obtain ⟨_, h2, h3⟩ := h
    have hp : 0 < to := by omega
    have hrg := rg_ints to.toNat
    generalize hL : ((List.range to.toNat).map fun (i : Nat) => (i : Int)) = L at hrg
    have lL : L.length = to.toNat := by rw [← hL, List.length_map, List.length_range]
    have e1 : g__law_map_3t0 (mapRho c many to r none none) = some (.nx (mapRho c many to r (some (.list (L.map .int))) none)) := by
      have hz : 0 ≤ to ∧ to ≤ 1000000 := ⟨by omega, by omega⟩
      simp [g__law_map_3t0, hz, hrg]
    unfold g__law_map_3t
    rw [blk_nx e1]
    have hB : B62 many := ⟨by omega, by omega⟩
    obtain ⟨ys, rest, p1, p2, p3⟩ := popF_ok (j := 5) (iL := 4) (fe := fCall phi__law_mix (fCons (f2 gAdd (fVar 0) (f2 gMulD (fC (.int 7)) (fVar 5))) (fCons (fC (.int 9967)) (fCons (f2 (gI fun i j => i - j) (fVar 2) (fVar 5)) fNil)))) (by decide)
      (ds := rgD 0 many.toNat) (ρ := mapRho c many to r (some (.list (L.map .int))) none) (L := L) rfl (by rw [rgD_len, lL]; omega) (by rw [lL]; omega) (fun i d hd L' hL' => by
        have hi : i < many.toNat := by
          have := (List.getElem?_eq_some_iff.mp hd).1
          rwa [rgD_len] at this
        rw [rgD_get hi] at hd
        cases hd
        have hto : 0 < to - i := by omega
        have h1 : MulOk 7 ((0 : Int) + i) := .inl (.inl ⟨by omega, by omega⟩)
        refine ⟨(c + 7 * (0 + i)) * 48271 % 9967 % (to - (0 + i)), ?_, (mix_lt (by omega)).1, Int.lt_of_lt_of_le (mix_lt (by omega)).2 (by omega)⟩
        simp only [fCall, fCons, f2, fVar, fC, fNil, List.set_cons_succ, List.set_cons_zero, List.getElem?_cons_zero, List.getElem?_cons_succ, Option.bind_some, gAdd, gMulD, gI, if_pos h1]
        rw [mix_eq (by omega) (by omega)]
        rfl)
    refine ⟨ys, none, ⟨fun _ => by rw [p2, rgD_len]; omega, fun z => absurd hp (by omega), fun x hx => ?_⟩, ?_⟩
    · have : x ∈ L := p3.subset (List.mem_append_left _ hx)
      rw [← hL] at this
      obtain ⟨i, hi, rfl⟩ := List.mem_map.mp this
      have := List.mem_range.mp hi
      omega
    · unfold g__law_map_3t1 gSetPop
      have hw : wipeR (mapRho c many to r (some (.list (L.map .int))) none) [5] = mapRho c many to r (some (.list (L.map .int))) none := rfl
      have hi : iR1 (fVar 1) (mapRho c many to r (some (.list (L.map .int))) none) = some (rgD 0 many.toNat) := by simp [hB]
      rw [hi, Option.bind_some, if_pos (by rw [rgD_len]; omega), hw, p1]
      rfl
/-- the law's map: many numbers below to -/
theorem map_eq {c many to : Int} (hm : 0 ≤ many ∧ many ≤ 1000) (ht : 0 ≤ to ∧ to ≤ 1000) : ∃ r, Vr many to r ∧ phi__law_map [.int c, .int many, .int to] = some (.ok (mapD to r)) := by
  obtain ⟨r1, v1, e1⟩ := map_stage1 (c := c) hm ht
  obtain ⟨r2, v2, e2⟩ := map_stage2 (c := c) hm ht v1
  obtain ⟨r3, y, v3, e3⟩ := map_stage3 (c := c) hm ht v2
  refine ⟨r3, v3, ?_⟩
  have e0 : g__law_map_0 [some (.int c), some (.int many), some (.int to), none, none, none] = some (.nx (mapRho c many to [] none none)) := by simp [g__law_map_0]
  have e4 : g__law_map_4 (mapRho c many to r3 y none) = some (.ret (mapD to r3)) := by simp [g__law_map_4, mapD]
  have e : g__law_map [some (.int c), some (.int many), some (.int to), none, none, none] = some (.ret (mapD to r3)) := by
    unfold g__law_map
    rw [blk_nx e0, blk_nx e1, blk_nx e2, blk_nx e3, e4]
  exact def_ret rfl e
theorem cell_eq (ns : List Int) (k : Nat) (hl : ns.length ≤ 63) : phi__law_cell [.dict (scrK ns), .int k] = some (.ok (.int (ns.getD k 0))) := by
  have hlen : (scrK ns).length = ns.length := by unfold scrK; rw [List.length_map]
  by_cases h : k < ns.length
  · have h1 : (k : Int) < (ns.length : Int) := by omega
    have ha : atI (ns.map PyData.int) (k : Int) = some (.int ns[k]) := atI_nat (by rw [List.getElem?_map, List.getElem?_eq_getElem h]; rfl)
    have ha' : atI ((scrK ns).map (·.1)) (k : Int) = some (.int ns[k]) := by rw [scr_fst]; exact ha
    simp [phi__law_cell, g__law_cell, g__law_cell_0, g__law_cell_0t0, g__law_cell_1, hlen, h, ha']
  · simp [phi__law_cell, g__law_cell, g__law_cell_0, g__law_cell_0t0, g__law_cell_1, hlen, h, List.getElem?_eq_none (Nat.le_of_not_lt h)]
theorem sizes_eq (ns : List Int) (k : Nat) (hl : ns.length ≤ 63) : ∃ a b c d : Int, (0 ≤ a ∧ a < 7) ∧ (0 ≤ b ∧ b < 7) ∧ (0 ≤ c ∧ c < 7) ∧ (0 ≤ d ∧ d < 7) ∧ phi__law_sizes [.dict (scrK ns), .int k] = some (.ok (.list [.int a, .int b, .int c, .int d])) := by
  refine ⟨_, _, _, _, mix_lt (c := ns.getD k 0) (p := 9949) (by omega), mix_lt (c := ns.getD k 0) (p := 9941) (by omega), mix_lt (c := ns.getD k 0) (p := 9931) (by omega), mix_lt (c := ns.getD k 0) (p := 9929) (by omega), ?_⟩
  simp [phi__law_sizes, g__law_sizes, g__law_sizes_0, g__law_sizes_1, cell_eq ns k hl, mix_eq]
end Lw

namespace Lw
open PySem PySem.Spec PyProof.Rows L2 DL
theorem Vr.wf {many to : Int} {r : List Int} (h : Vr many to r) (hm : 0 ≤ many ∧ many ≤ 1000) (ht : 0 ≤ to ∧ to ≤ 1000) : Wf (to, r) where
  len := by
    by_cases z : 0 < to
    · have := h.len z; show r.length ≤ 1000; omega
    · rw [h.nil (by omega)]; exact Nat.zero_le _
  rng := ht
  lt := h.lt
theorem mp_eq {c many to : Int} (hm : 0 ≤ many ∧ many ≤ 1000) (ht : 0 ≤ to ∧ to ≤ 1000) : ∃ a : Mp, Wf a ∧ a.1 = to ∧ (a.2.length : Int) ≤ many ∧ (0 < to → (a.2.length : Int) = many) ∧ phi__law_map [.int c, .int many, .int to] = some (.ok (mpD a)) := by
  obtain ⟨r, hv, e⟩ := map_eq (c := c) hm ht
  refine ⟨(to, r), hv.wf hm ht, rfl, ?_, hv.len, e⟩
  by_cases z : 0 < to
  · have := hv.len z; show (r.length : Int) ≤ _; omega
  · rw [hv.nil (by omega)]; exact hm.1
theorem cell_at (ns : List Int) (k : Nat) (hl : ns.length ≤ 63) {i : Int} (h : i = k) : phi__law_cell [.dict (scrK ns), .int i] = some (.ok (.int (ns.getD k 0))) := by
  subst h
  exact cell_eq ns k hl
end Lw

namespace Lw
open PySem PySem.Spec PyProof.Rows L2 DL
theorem must_t : phi_must [.bool true] = some (.ok .none) := by simp [phi_must, g_must, g_must_0, g_must_0t0]
theorem must_f : phi_must [.bool false] = some (.error 2) := by simp [phi_must, g_must, g_must_0, g_must_0t0]
end Lw

namespace Lw
open PySem PySem.Spec PyProof.Rows L2 DL
theorem then_ok {a b : Mp} (ha : Wf a) (hb : Wf b) (h : a.1 = b.2.length) : phi_then [mpD a, mpD b] = some (.ok (mpD (thn a b))) := by
  obtain ⟨ta, ra⟩ := a
  obtain ⟨tb, rb⟩ := b
  have hl := ha.len
  have hlt := ha.lt
  have hbl := hb.len
  simp only at h hl hlt hbl
  refine def_ret rfl ?_
  show g_then [some (mapD ta ra), some (mapD tb rb), none] = some (.ret (mapD tb (ra.map fun x => rb.getD x.toNat 0)))
  have e0 : g_then_0 [some (mapD ta ra), some (mapD tb rb), none] = some (.nx [some (mapD ta ra), some (mapD tb rb), none]) := by
    have c : (gEq false) (.int ta) (.int (rb.length : Nat)) = some (.bool true) := by rw [gEq_int, h]; simp
    simp [g_then_0, mapD, c, must_t]
  unfold g_then
  rw [blk_nx e0]
  have e1 : fLc [2] (iSq (f2 gIx (fVar 0) (fC (.int 1)))) (hName 2) cYes (f2 gIx (f2 gIx (fVar 1) (fC (.int 1))) (fVar 2)) [some (mapD ta ra), some (mapD tb rb), none] = some (ra.map fun x => .int (rb.getD x.toNat 0)) := by
    refine lc_sq (w := PyData.int) (l := ra) (d := .tuple (ra.map .int)) (by simp [mapD]) rfl (by omega) fun x hx => ?_
    have := hlt x hx
    have e := atI_ints (r := rb) (x := x) ⟨this.1, by omega⟩
    simp [mapD, e]
  unfold g_then_1 gRet fTup
  have e2 := fFr_of e1
  simp only [fCons, fNil, fBi, e2, Option.bind_some]
  have hz : ra.length ≤ 1000000 := by omega
  simp [mapD, hz, Function.comp_def]
theorem then_no {a b : Mp} (hb : b.2.length ≤ 1000) (h : a.1 ≠ b.2.length) : phi_then [mpD a, mpD b] = some (.error 2) := by
  obtain ⟨ta, ra⟩ := a
  obtain ⟨tb, rb⟩ := b
  simp only at h hb
  have e0 : g_then_0 [some (mapD ta ra), some (mapD tb rb), none] = some (.exc 2 [some (mapD ta ra), some (mapD tb rb), none]) := by
    have c : (gEq false) (.int ta) (.int (rb.length : Nat)) = some (.bool false) := by rw [gEq_int]; simp [h]
    simp [g_then_0, mapD, c, must_f]
  have e : g_then [some (mapD ta ra), some (mapD tb rb), none] = some (.exc 2 [some (mapD ta ra), some (mapD tb rb), none]) := by
    unfold g_then
    rw [blk_exc e0]
  exact def_exc rfl e
end Lw

namespace Lw
open PySem PySem.Spec PyProof.Rows L2 DL
theorem lthen_ok {a b : Mp} (ha : Wf a) (hb : Wf b) (h : a.1 = b.2.length) : phi__law_then [mpD a, mpD b] = some (.ok (mpD (thn a b))) := by
  obtain ⟨ta, ra⟩ := a
  obtain ⟨tb, rb⟩ := b
  have hl := ha.len
  have hlt := ha.lt
  have hbl := hb.len
  simp only at h hl hlt hbl
  refine def_ret rfl ?_
  show g__law_then [some (mapD ta ra), some (mapD tb rb), none] = some (.ret (mapD tb (ra.map fun x => rb.getD x.toNat 0)))
  have e1 : fLc [2] (iSq (f2 gIx (fVar 0) (fC (.int 1)))) (hName 2) cYes (f2 gIx (f2 gIx (fVar 1) (fC (.int 1))) (fVar 2)) [some (mapD ta ra), some (mapD tb rb), none] = some (ra.map fun x => .int (rb.getD x.toNat 0)) := by
    refine lc_sq (w := PyData.int) (l := ra) (d := .tuple (ra.map .int)) (by simp [mapD]) rfl (by omega) fun x hx => ?_
    have := hlt x hx
    have e := atI_ints (r := rb) (x := x) ⟨this.1, by omega⟩
    simp [mapD, e]
  unfold g__law_then g__law_then_0 gRet fTup
  have e2 := fFr_of e1
  simp only [fCons, fNil, fBi, e2, Option.bind_some]
  have hz : ra.length ≤ 1000000 := by omega
  simp [mapD, hz, Function.comp_def]
end Lw

namespace Lw
open PySem PySem.Spec PyProof.Rows L2 DL
theorem comes_eq {a : Mp} (h : a.2.length ≤ 1000) : phi_comes_to_all [mpD a] = some (.ok (.bool (decide (((sset a.2).length : Int) = a.1)))) := by
  obtain ⟨ta, ra⟩ := a
  have h' : ra.length ≤ 1000 := h
  have e := gLenSet_ints h'
  have c : gEq false (.int ((sset ra).length : Nat)) (.int ta) = some (.bool (decide (((sset ra).length : Int) = ta))) := by
    rw [gEq_int, Bool.false_xor]
  simp [phi_comes_to_all, g_comes_to_all, g_comes_to_all_0, mpD, mapD, e, c]
end Lw

namespace Lw
open PySem PySem.Spec PyProof.Rows L2 DL
def stk (a b : Mp) : Mp := (a.1, a.2 ++ b.2)
theorem stacked_ok {a b : Mp} (ha : Wf a) (hb : Wf b) (h : a.1 = b.1) : phi_stacked [mpD a, mpD b] = some (.ok (mpD (stk a b))) := by
  have hal := ha.len
  have hbl := hb.len
  have hz : a.2.length + b.2.length ≤ 1000000 := by omega
  have e1 : g_stacked [some (mpD a), some (mpD b)] = some (.ret (.tuple [.int a.1, .tuple ((a.2 ++ b.2).map .int)])) := by
    simp [g_stacked, g_stacked_0, g_stacked_1, h, must_t, hz]
  exact def_ret rfl e1
theorem stacked_no {a b : Mp} (h : a.1 ≠ b.1) : phi_stacked [mpD a, mpD b] = some (.error 2) := by
  have e1 : g_stacked [some (mpD a), some (mpD b)] = some (.exc 2 [some (mpD a), some (mpD b)]) := by
    simp [g_stacked, g_stacked_0, h, must_f]
  exact def_exc rfl e1
theorem stk_wf {a b : Mp} (ha : Wf a) (hb : Wf b) (h : a.1 = b.1) (hl : a.2.length + b.2.length ≤ 1000) : Wf (stk a b) where
  len := by show (a.2 ++ b.2).length ≤ 1000; rw [List.length_append]; exact hl
  rng := ha.rng
  lt := fun x hx => by
    rcases List.mem_append.mp hx with hx | hx
    · exact ha.lt x hx
    · have := hb.lt x hx; show 0 ≤ x ∧ x < a.1; omega
end Lw

namespace Lw
open PySem PySem.Spec PyProof.Rows L2 DL
abbrev sThings : PyData := .str (PySem.Str.ofString "things")
abbrev sNowhere : PyData := .str (PySem.Str.ofString "nowhere")
theorem behind_no {a b : Mp} (h : a.2.length ≠ b.2.length) : phi_behind [mpD a, mpD b] = some (.error 2) := by
  have h' : ¬ (a.2.length : Int) = b.2.length := by omega
  have e : g_behind [some (mpD a), some (mpD b), none, none, none, none] = some (.exc 2 [some (mpD a), some (mpD b), none, none, none, none]) := by
    simp [g_behind, g_behind_0, h', must_f]
  exact def_exc rfl e
/-- b's alike are a's alike -/
def Thru (a b : Mp) : Prop := ∀ k n, k < n → n < a.2.length → b.2.getD k 0 = b.2.getD n 0 → a.2.getD k 0 = a.2.getD n 0
theorem at_row {m : Mp} {i : Nat} (h : i < m.2.length) : gIx (.tuple (m.2.map .int)) (.int i) = some (.int (m.2.getD i 0)) := by
  rw [gIx_tuple, atI_ints (by omega), show ((i : Int)).toNat = i by omega]
theorem behind_loops {a b : Mp} (ha : Wf a) (h : a.2.length = b.2.length) :
    (Thru a b ∧ ∃ o2 o4, g_behind_1 [some (mpD a), some (mpD b), none, none, none, none] = some (.nx [some (mpD a), some (mpD b), o2, none, o4, none])) ∨
      ∃ k n : Nat, k < n ∧ n < a.2.length ∧ b.2.getD k 0 = b.2.getD n 0 ∧ a.2.getD k 0 ≠ a.2.getD n 0 ∧ g_behind_1 [some (mpD a), some (mpD b), none, none, none, none] = some (.ret (.tuple [sThings, .int k, .int n])) := by
  have hal := ha.len
  have := for_rg (h' := iR1 (fBi gLen (fCons (f2 gIx (fVar 0) (fC (.int 1))) fNil))) (j := 2) (b := g_behind_1b0) (ρ := [some (mpD a), some (mpD b), none, none, none, none]) (lo := 0) (n := a.2.length)
    (fun i ρ => (∀ k n, k < i → k < n → n < a.2.length → b.2.getD k 0 = b.2.getD n 0 → a.2.getD k 0 = a.2.getD n 0) ∧ ∃ o2 o4, ρ = [some (mpD a), some (mpD b), o2, none, o4, none])
    (fun r => ∃ k n : Nat, k < n ∧ n < a.2.length ∧ b.2.getD k 0 = b.2.getD n 0 ∧ a.2.getD k 0 ≠ a.2.getD n 0 ∧ r = .tuple [sThings, .int k, .int n])
    (by
      have hB : B62 (a.2.length : Nat) := ⟨by omega, by omega⟩
      simp [hB])
    (fun i hi ρ hP => by
      obtain ⟨hc, o2, o4, rfl⟩ := hP
      rw [Int.zero_add]
      have inner := for_rg (h' := iR2 (f2 gAdd (fVar 2) (fC (.int 1))) (fBi gLen (fCons (f2 gIx (fVar 0) (fC (.int 1))) fNil))) (j := 4) (b := g_behind_1b0b0) (ρ := [some (mpD a), some (mpD b), some (.int i), none, o4, none]) (lo := (i : Int) + 1) (n := a.2.length - (i + 1))
        (fun m ρ => (∀ n, i < n → n < i + 1 + m → n < a.2.length → b.2.getD i 0 = b.2.getD n 0 → a.2.getD i 0 = a.2.getD n 0) ∧ ∃ o4, ρ = [some (mpD a), some (mpD b), some (.int i), none, o4, none])
        (fun r => ∃ n : Nat, i < n ∧ n < a.2.length ∧ b.2.getD i 0 = b.2.getD n 0 ∧ a.2.getD i 0 ≠ a.2.getD n 0 ∧ r = .tuple [sThings, .int i, .int n])
        (by
          have hB : B62 ((i : Int) + 1) := ⟨by omega, by omega⟩
          have hB2 : B62 (a.2.length : Nat) := ⟨by omega, by omega⟩
          have hn : ((a.2.length : Int) - ((i : Int) + 1)).toNat = a.2.length - (i + 1) := by omega
          simp [hB, hB2, hn])
        (fun m hm ρ hP => by
          obtain ⟨hd, o4, rfl⟩ := hP
          have hn : i + 1 + m < a.2.length := by omega
          have en : (i : Int) + 1 + (m : Int) = ((i + 1 + m : Nat) : Int) := by omega
          rw [en]
          have a1 := at_row (m := b) (i := i) (by omega)
          have a2 := at_row (m := b) (i := i + 1 + m) (by omega)
          have a3 := at_row (m := a) (i := i) hi
          have a4 := at_row (m := a) (i := i + 1 + m) hn
          generalize hN : i + 1 + m = N at *
          have hiN : i < N := by omega
          generalize hbi : b.2.getD i 0 = bi at *
          generalize hbN : b.2.getD N 0 = bN at *
          generalize hai : a.2.getD i 0 = ai at *
          generalize haN : a.2.getD N 0 = aN at *
          by_cases q1 : bi = bN
          · by_cases q2 : ai = aN
            · left
              refine ⟨[some (mpD a), some (mpD b), some (.int i), none, some (.int (N : Nat)), none], by simp [g_behind_1b0b0, a1, a2, a3, a4, q1, q2, -gIx_tuple], fun n h1 h2 h3 h4 => ?_, _, rfl⟩
              by_cases hnN : n = N
              · subst hnN; rw [haN]; exact q2
              · exact hd n h1 (by omega) h3 h4
            · right
              exact ⟨_, by simp [g_behind_1b0b0, g_behind_1b0b0t0, a1, a2, a3, a4, q1, q2, -gIx_tuple], N, hiN, hn, by rw [hbN]; exact q1, by rw [haN]; exact q2, rfl⟩
          · left
            refine ⟨[some (mpD a), some (mpD b), some (.int i), none, some (.int (N : Nat)), none], by simp [g_behind_1b0b0, a1, a2, q1, -gIx_tuple], fun n h1 h2 h3 h4 => ?_, _, rfl⟩
            by_cases hnN : n = N
            · subst hnN; rw [hbN] at h4; exact absurd h4 q1
            · exact hd n h1 (by omega) h3 h4)
        ⟨fun n h1 h2 => by omega, _, rfl⟩
      rcases inner with ⟨ρ', e, hd, o4', rfl⟩ | ⟨r, e, n, h1, h2, h3, h4, rfl⟩
      · left
        refine ⟨_, e, fun k n hk hkn hn hb => ?_, _, _, rfl⟩
        by_cases hki : k = i
        · subst hki; exact hd n hkn (by omega) hn hb
        · exact hc k n (by omega) hkn hn hb
      · right
        exact ⟨_, e, i, n, h1, h2, h3, h4, rfl⟩)
    ⟨fun k n hk => by omega, none, none, rfl⟩
  rcases this with ⟨ρ', e, hc, o2, o4, rfl⟩ | ⟨r, e, k, n, h1, h2, h3, h4, rfl⟩
  · exact .inl ⟨fun k n h1 h2 => hc k n (by omega) h1 h2, o2, o4, e⟩
  · exact .inr ⟨k, n, h1, h2, h3, h4, e⟩
/-- the row by which a goes through b: any R of b's things with R[b[k]] = a[k] -/
theorem behind_map {a b : Mp} (ha : Wf a) (hb : Wf b) (h : a.2.length = b.2.length) (ht : Thru a b) (hn : ¬ (a.1 = 0 ∧ 0 < b.1)) (o2 o4 : Option PyData) :
    ∃ r : List Int, r.length = b.1.toNat ∧ (∀ x ∈ r, x = 0 ∨ x ∈ a.2) ∧ (∀ k, k < a.2.length → r.getD (b.2.getD k 0).toNat 0 = a.2.getD k 0) ∧
      gBlk g_behind_2 (gBlk g_behind_3 (gBlk g_behind_4 g_behind_5)) [some (mpD a), some (mpD b), o2, none, o4, none] = some (.ret (.tuple [.str (PySem.Str.ofString "map"), mpD (a.1, r)])) := by
  have hbr := hb.rng
  have har := ha.rng
  have hal := ha.len
  have e2 : g_behind_2 [some (mpD a), some (mpD b), o2, none, o4, none] = some (.nx [some (mpD a), some (mpD b), o2, none, o4, none]) := by
    by_cases h0 : a.1 = 0
    · have h1 : ¬ 0 < b.1 := fun z => hn ⟨h0, z⟩
      simp [g_behind_2, h0, h1]
    · simp [g_behind_2, h0]
  have q3 := lc_rgI (vs := [2]) (j := 2) (fn := f2 gIx (fVar 1) (fC (.int 0))) (f := fC (.int 0)) (ρ := [some (mpD a), some (mpD b), o2, none, o4, none]) (n := b.1) (g := fun _ => 0) (by simp) (by omega) (fun i hi => by simp)
  have e3 : g_behind_3 [some (mpD a), some (mpD b), o2, none, o4, none] = some (.nx [some (mpD a), some (mpD b), o2, some (.list (((List.range b.1.toNat).map fun _ => (0 : Int)).map .int)), o4, none]) := by
    simp [g_behind_3, q3, -List.map_map, -List.map_const']
  have e4 := for_en (fs := f2 gIx (fVar 1) (fC (.int 1))) (j1 := 2) (j2 := 5) (b := g_behind_4b0) (ρ := [some (mpD a), some (mpD b), o2, some (.list (((List.range b.1.toNat).map fun _ => (0 : Int)).map .int)), o4, none]) (r := b.2) (d := .tuple (b.2.map .int))
    (fun i ρ => ∃ r : List Int, r.length = b.1.toNat ∧ (∀ x ∈ r, x = 0 ∨ x ∈ a.2) ∧ (∀ k, k < i → r.getD (b.2.getD k 0).toNat 0 = a.2.getD k 0) ∧ ∃ o2 o5, ρ = [some (mpD a), some (mpD b), o2, some (.list (r.map .int)), o4, o5])
    (fun r => False) (by simp) (.inl rfl)
    (fun i hi ρ hP => by
      obtain ⟨r, hr1, hr2, hr3, o2, o5, rfl⟩ := hP
      left
      have hbi := getD_lt hb hi
      have a3 := at_row (m := a) (i := i) (by omega)
      have hix : ixN r.length (b.2.getD i 0) = some (b.2.getD i 0).toNat := ixN_of (by omega)
      refine ⟨[some (mpD a), some (mpD b), some (.int i), some (.list ((r.set (b.2.getD i 0).toNat (a.2.getD i 0)).map .int)), o4, some (.int (b.2.getD i 0))], ?_, r.set (b.2.getD i 0).toNat (a.2.getD i 0), by rw [List.length_set]; exact hr1, fun x hx => ?_, fun k hk => ?_, _, _, rfl⟩
      · generalize b.2.getD i 0 = bi at *
        generalize a.2.getD i 0 = ai at *
        simp [g_behind_4b0, a3, hix, List.map_set, -gIx_tuple]
      · rcases List.mem_or_eq_of_mem_set hx with hx | rfl
        · exact hr2 x hx
        · exact .inr (DL.getD_mem (by omega))
      · have hbk := getD_lt hb (i := k) (by omega)
        rw [List.getD_eq_getElem?_getD]
        by_cases he : (b.2.getD i 0).toNat = (b.2.getD k 0).toNat
        · rw [he, List.getElem?_set_self (by omega)]
          show a.2.getD i 0 = a.2.getD k 0
          by_cases hki : k = i
          · rw [hki]
          · exact (ht k i (by omega) (by omega) (by omega)).symm
        · rw [List.getElem?_set_ne he, ← List.getD_eq_getElem?_getD]
          have hki : k ≠ i := fun z => he (by rw [z])
          exact hr3 k (by omega))
    ⟨(List.range b.1.toNat).map fun _ => (0 : Int), by rw [List.length_map, List.length_range], fun x hx => by obtain ⟨i, _, rfl⟩ := List.mem_map.mp hx; exact .inl rfl, fun k hk => by omega, _, _, rfl⟩
  rcases e4 with ⟨ρ', e4, r, hr1, hr2, hr3, o2', o5', rfl⟩ | ⟨r, _, z⟩
  · refine ⟨r, hr1, hr2, fun k hk => hr3 k (by omega), ?_⟩
    have hz : r.length ≤ 1000000 := by omega
    rw [blk_nx e2, blk_nx e3, show g_behind_4 = gFor (iEn (f2 gIx (fVar 1) (fC (.int 1)))) (hSeq 2 (hCons (hName 2) (hCons (hName 5) hNil))) g_behind_4b0 from rfl, blk_nx e4]
    simp [g_behind_5, hz, mp_fold]
  · exact z.elim
theorem behind_eq {a b : Mp} (ha : Wf a) (hb : Wf b) (h : a.2.length = b.2.length) :
    (Thru a b ∧ ¬ (a.1 = 0 ∧ 0 < b.1) ∧ ∃ r : List Int, r.length = b.1.toNat ∧ (∀ x ∈ r, x = 0 ∨ x ∈ a.2) ∧ (∀ k, k < a.2.length → r.getD (b.2.getD k 0).toNat 0 = a.2.getD k 0) ∧ phi_behind [mpD a, mpD b] = some (.ok (.tuple [.str (PySem.Str.ofString "map"), mpD (a.1, r)]))) ∨
    (Thru a b ∧ (a.1 = 0 ∧ 0 < b.1) ∧ phi_behind [mpD a, mpD b] = some (.ok (.tuple [sNowhere]))) ∨
    ∃ k n : Nat, k < n ∧ n < a.2.length ∧ b.2.getD k 0 = b.2.getD n 0 ∧ a.2.getD k 0 ≠ a.2.getD n 0 ∧ phi_behind [mpD a, mpD b] = some (.ok (.tuple [sThings, .int k, .int n])) := by
  have h' : (a.2.length : Int) = b.2.length := by omega
  have e0 : g_behind_0 [some (mpD a), some (mpD b), none, none, none, none] = some (.nx [some (mpD a), some (mpD b), none, none, none, none]) := by simp [g_behind_0, h', must_t]
  rcases behind_loops ha h with ⟨ht, o2, o4, e1⟩ | ⟨k, n, h1, h2, h3, h4, e1⟩
  · by_cases hn : a.1 = 0 ∧ 0 < b.1
    · right; left
      refine ⟨ht, hn, ?_⟩
      have e2 : g_behind_2 [some (mpD a), some (mpD b), o2, none, o4, none] = some (.ret (.tuple [sNowhere])) := by simp [g_behind_2, g_behind_2t0, hn.1, hn.2]
      have e : g_behind [some (mpD a), some (mpD b), none, none, none, none] = some (.ret (.tuple [sNowhere])) := by
        unfold g_behind
        rw [blk_nx e0, blk_nx e1, blk_ret e2]
      exact def_ret rfl e
    · left
      obtain ⟨r, hr1, hr2, hr3, e2⟩ := behind_map ha hb h ht hn o2 o4
      refine ⟨ht, hn, r, hr1, hr2, hr3, ?_⟩
      have e : g_behind [some (mpD a), some (mpD b), none, none, none, none] = some (.ret (.tuple [.str (PySem.Str.ofString "map"), mpD (a.1, r)])) := by
        unfold g_behind
        rw [blk_nx e0, blk_nx e1, e2]
      exact def_ret rfl e
  · right; right
    refine ⟨k, n, h1, h2, h3, h4, ?_⟩
    have e : g_behind [some (mpD a), some (mpD b), none, none, none, none] = some (.ret (.tuple [sThings, .int k, .int n])) := by
      unfold g_behind
      rw [blk_nx e0, blk_ret e1]
    exact def_ret rfl e
end Lw

namespace Lw
open PySem PySem.Spec PyProof.Rows L2 DL
def prD (p : Nat × Nat) : PyData := .tuple [.int (p.1 : Nat), .int (p.2 : Nat)]
def mrow (m : Nat → Nat) (n : Nat) : List Int := (List.range n).map fun k => ((m k : Nat) : Int)
def labs (m : Nat → Nat) (n : Nat) : List Int := (List.range n).map fun k => ((lab m k : Nat) : Int)
theorem mrow_len (m : Nat → Nat) (n : Nat) : (mrow m n).length = n := by unfold mrow; rw [List.length_map, List.length_range]
theorem labs_len (m : Nat → Nat) (n : Nat) : (labs m n).length = n := by unfold labs; rw [List.length_map, List.length_range]
theorem mrow_at {m : Nat → Nat} {n x : Nat} (h : x < n) : gIx (.list ((mrow m n).map .int)) (.int (x : Nat)) = some (.int ((m x : Nat) : Int)) := by
  rw [gIx_list, atI_ints (by rw [mrow_len]; omega), show ((x : Nat) : Int).toNat = x by omega]
  unfold mrow
  rw [getD_range h]
theorem homes_turn {n : Nat} (hn : n ≤ 63) {m : Nat → Nat} {a b : Nat} (ha : a < n) (hb : b < n) (N P : PyData) (o3 o6 o7 o8 : Option PyData) :
    ∃ o6' o7', g_homes_of_1b [some N, some P, some (.list ((mrow m n).map .int)), o3, some (.int (a : Nat)), some (.int (b : Nat)), o6, o7, o8] = some (.nx [some N, some P, some (.list ((mrow (joinM m a b) n).map .int)), o3, some (.int (a : Nat)), some (.int (b : Nat)), o6', o7', o8]) := by
  have ga := mrow_at (m := m) ha
  have gb := mrow_at (m := m) hb
  have hl := mrow_len m n
  have hrow : (mrow m n).map (fun x => if x = max ((m a : Nat) : Int) ((m b : Nat) : Int) then min ((m a : Nat) : Int) ((m b : Nat) : Int) else x) = mrow (joinM m a b) n := by
    unfold mrow
    rw [List.map_map]
    refine List.map_congr_left fun x _ => ?_
    show (if ((m x : Nat) : Int) = _ then _ else _) = ((joinM m a b x : Nat) : Int)
    unfold joinM
    by_cases c : m x = max (m a) (m b)
    · rw [if_pos c, if_pos (by omega)]; omega
    · rw [if_neg c, if_neg (by omega)]
  have e0 : g_homes_of_1b0 [some N, some P, some (.list ((mrow m n).map .int)), o3, some (.int (a : Nat)), some (.int (b : Nat)), o6, o7, o8] = some (.nx [some N, some P, some (.list ((mrow m n).map .int)), o3, some (.int (a : Nat)), some (.int (b : Nat)), some (.int (min ((m a : Nat) : Int) ((m b : Nat) : Int))), o7, o8]) := by
    generalize mrow m n = W at *
    simp [g_homes_of_1b0, ga, gb, -gIx_list]
    split <;> omega
  have e1 : g_homes_of_1b1 [some N, some P, some (.list ((mrow m n).map .int)), o3, some (.int (a : Nat)), some (.int (b : Nat)), some (.int (min ((m a : Nat) : Int) ((m b : Nat) : Int))), o7, o8] = some (.nx [some N, some P, some (.list ((mrow m n).map .int)), o3, some (.int (a : Nat)), some (.int (b : Nat)), some (.int (min ((m a : Nat) : Int) ((m b : Nat) : Int))), some (.int (max ((m a : Nat) : Int) ((m b : Nat) : Int))), o8]) := by
    generalize mrow m n = W at *
    simp [g_homes_of_1b1, ga, gb, -gIx_list]
    split <;> omega
  have q := lc_sqI (vs := [8]) (j := 8) (fs := fVar 2) (f := fIf (fB (f2 (gEq false) (fVar 8) (fVar 7))) (fVar 6) (fVar 8)) (ρ := [some N, some P, some (.list ((mrow m n).map .int)), o3, some (.int (a : Nat)), some (.int (b : Nat)), some (.int (min ((m a : Nat) : Int) ((m b : Nat) : Int))), some (.int (max ((m a : Nat) : Int) ((m b : Nat) : Int))), o8])
    (l := mrow m n) (g := fun x => if x = max ((m a : Nat) : Int) ((m b : Nat) : Int) then min ((m a : Nat) : Int) ((m b : Nat) : Int) else x) (d := .list ((mrow m n).map .int)) rfl rfl (by omega) (fun x _ => by
      by_cases c : x = max ((m a : Nat) : Int) ((m b : Nat) : Int)
      · simp [c]
      · simp [c])
  rw [hrow] at q
  refine ⟨some (.int (min ((m a : Nat) : Int) ((m b : Nat) : Int))), some (.int (max ((m a : Nat) : Int) ((m b : Nat) : Int))), ?_⟩
  have e2 : g_homes_of_1b2 [some N, some P, some (.list ((mrow m n).map .int)), o3, some (.int (a : Nat)), some (.int (b : Nat)), some (.int (min ((m a : Nat) : Int) ((m b : Nat) : Int))), some (.int (max ((m a : Nat) : Int) ((m b : Nat) : Int))), o8] = some (.nx [some N, some P, some (.list ((mrow (joinM m a b) n).map .int)), o3, some (.int (a : Nat)), some (.int (b : Nat)), some (.int (min ((m a : Nat) : Int) ((m b : Nat) : Int))), some (.int (max ((m a : Nat) : Int) ((m b : Nat) : Int))), o8]) := by
    unfold g_homes_of_1b2 gAsg fFr
    rw [q]
    rfl
  unfold g_homes_of_1b
  rw [blk_nx e0, blk_nx e1, e2]
theorem homes_of_eq {n : Nat} (hn : n ≤ 60) {ps : List (Nat × Nat)} (hps : ∀ p ∈ ps, p.1 < n ∧ p.2 < n) : ∃ m, Ho n ps m ∧ phi_homes_of [.int (n : Nat), .list (ps.map prD)] = some (.ok (.tuple [.int (rank m n : Nat), .list ((labs m n).map .int)])) := by
  have hz : (0 : Int) ≤ (n : Nat) ∧ ((n : Nat) : Int) ≤ 1000000 := ⟨by omega, by omega⟩
  have e0 : g_homes_of_0 [some (.int (n : Nat)), some (.list (ps.map prD)), none, none, none, none, none, none, none] = some (.nx [some (.int (n : Nat)), some (.list (ps.map prD)), some (.list ((mrow id n).map .int)), none, none, none, none, none, none]) := by
    have : rgD 0 n = (mrow id n).map .int := rgD_idr n
    simp only [g_homes_of_0, gAsg, fFr, gRgL, fVar, List.getElem?_cons_zero, Option.bind_some, if_pos hz, Int.toNat_natCast, this]
    rfl
  have loop := forF_ix (tg := hSeq 2 (hCons (hName 4) (hCons (hName 5) hNil))) (b := g_homes_of_1b) (fun i ρ => ∃ m, Ho n (ps.take i) m ∧ ∃ o4 o5 o6 o7, ρ = [some (.int (n : Nat)), some (.list (ps.map prD)), some (.list ((mrow m n).map .int)), none, o4, o5, o6, o7, none]) (fun _ => False) (ps.map prD) 0
    [some (.int (n : Nat)), some (.list (ps.map prD)), some (.list ((mrow id n).map .int)), none, none, none, none, none, none] (fun i d hd ρ hρ => by
      obtain ⟨m, hm, o4, o5, o6, o7, rfl⟩ := hρ
      rw [List.getElem?_map] at hd
      cases hp : ps[i]? with
      | none => rw [hp] at hd; cases hd
      | some p =>
        rw [hp] at hd
        cases hd
        obtain ⟨ha, hb⟩ := hps p (List.mem_of_getElem? hp)
        obtain ⟨o6', o7', e⟩ := homes_turn (by omega) (m := m) ha hb (.int (n : Nat)) (.list (ps.map prD)) none o6 o7 none
        refine ⟨_, rfl, .inl ⟨_, e, joinM m p.1 p.2, ?_, _, _, _, _, rfl⟩⟩
        rw [Nat.zero_add] at hm ⊢
        rw [List.take_succ, hp]
        exact hm.step ha hb) ⟨id, Ho.zero n, none, none, none, none, rfl⟩
  rcases loop with ⟨ρ', e1, m, hm, o4, o5, o6, o7, rfl⟩ | ⟨_, _, z⟩
  · rw [List.length_map, Nat.zero_add, List.take_length] at hm
    refine ⟨m, hm, ?_⟩
    have hl := mrow_len m n
    have hk := kinds_eq hm
    have hk : sset (mrow m n) = ((List.range n).filter fun k => decide (m k = k)).map fun (k : Nat) => (k : Int) := hk
    generalize hK : ((List.range n).filter fun k => decide (m k = k)).map (fun (k : Nat) => (k : Int)) = Ks at hk
    have hkl : Ks.length = rank m n := by rw [← hK, List.length_map]; rfl
    have hr := rank_le m n
    have hs : gSortSetA (.list ((mrow m n).map .int)) = some (Ks.map .int) := by
      unfold gSortSetA
      simp only [intsD_map, Option.bind_some]
      rw [if_pos (by omega), hk]
    have hmem : ∀ x, x < n → ((m x : Nat) : Int) ∈ Ks := fun x hx => by
      rw [← hk, sset_mem]
      exact List.mem_map.mpr ⟨x, List.mem_range.mpr hx, rfl⟩
    have hix : ∀ x, x < n → gIdx (.list (Ks.map .int)) (.int ((m x : Nat) : Int)) = some (.int ((lab m x : Nat) : Int)) := fun x hx => by
      rw [gIdx_list (hmem x hx), ← hK, kinds_ix (by have := hm.le x hx; omega) (hm.idem x hx)]
      rfl
    have e2 : g_homes_of_2 [some (.int (n : Nat)), some (.list (ps.map prD)), some (.list ((mrow m n).map .int)), none, o4, o5, o6, o7, none] = some (.nx [some (.int (n : Nat)), some (.list (ps.map prD)), some (.list ((mrow m n).map .int)), some (.list (Ks.map .int)), o4, o5, o6, o7, none]) := by
      generalize mrow m n = W at *
      simp [g_homes_of_2, hs]
    have q : fLc [8] (iSq (fVar 2)) (hName 8) cYes (f2 gIdx (fVar 3) (fVar 8)) [some (.int (n : Nat)), some (.list (ps.map prD)), some (.list ((mrow m n).map .int)), some (.list (Ks.map .int)), o4, o5, o6, o7, none] = some ((labs m n).map .int) := by
      have := lc_sq (vs := [8]) (j := 8) (fs := fVar 2) (f := f2 gIdx (fVar 3) (fVar 8)) (ρ := [some (.int (n : Nat)), some (.list (ps.map prD)), some (.list ((mrow m n).map .int)), some (.list (Ks.map .int)), o4, o5, o6, o7, none])
        (w := fun (k : Nat) => PyData.int ((m k : Nat) : Int)) (l := List.range n) (g := fun (k : Nat) => PyData.int ((lab m k : Nat) : Int)) (d := .list ((mrow m n).map .int)) rfl (by unfold mrow; rw [List.map_map]; rfl) (by rw [List.length_range]; omega) (fun x hx => by
          have := hix x (List.mem_range.mp hx)
          simp [this])
      rw [this]
      unfold labs
      rw [List.map_map]
      rfl
    have e3 : g_homes_of_3 [some (.int (n : Nat)), some (.list (ps.map prD)), some (.list ((mrow m n).map .int)), some (.list (Ks.map .int)), o4, o5, o6, o7, none] = some (.ret (.tuple [.int (rank m n : Nat), .list ((labs m n).map .int)])) := by
      unfold g_homes_of_3 gRet fTup
      have e2 := fFr_of q
      simp only [fCons, fNil, fBi, e2, Option.bind_some, fVar, List.getElem?_cons_zero, List.getElem?_cons_succ, gLen, List.length_map, hkl]
      rfl
    have e : g_homes_of [some (.int (n : Nat)), some (.list (ps.map prD)), none, none, none, none, none, none, none] = some (.ret (.tuple [.int (rank m n : Nat), .list ((labs m n).map .int)])) := by
      unfold g_homes_of
      have e1' : g_homes_of_1 [some (.int (n : Nat)), some (.list (ps.map prD)), some (.list ((mrow id n).map .int)), none, none, none, none, none, none] = some (.nx [some (.int (n : Nat)), some (.list (ps.map prD)), some (.list ((mrow m n).map .int)), none, o4, o5, o6, o7, none]) := e1
      rw [blk_nx e0, blk_nx e1', blk_nx e2, e3]
    exact def_ret rfl e
  · exact z.elim
end Lw

namespace Lw
open PySem PySem.Spec PyProof.Rows L2 DL
theorem while_t {c : Rho → Option Bool} {b : Gn} {n : Nat} {ρ ρ' : Rho} (h1 : c ρ = some true) (h2 : b ρ = some (.nx ρ')) : whileF c b (n + 1) ρ = whileF c b n ρ' := by
  show (c ρ).bind _ = _
  rw [h1, Option.bind_some, if_pos rfl, h2, Option.bind_some]
theorem while_f {c : Rho → Option Bool} {b : Gn} {n : Nat} {ρ : Rho} (h1 : c ρ = some false) : whileF c b (n + 1) ρ = some (.nx ρ) := by
  show (c ρ).bind _ = _
  rw [h1, Option.bind_some, if_neg Bool.false_ne_true]
end Lw

namespace Lw
open PySem PySem.Spec PyProof.Rows L2 DL
def optD : Option Nat → PyData
  | none => .none
  | some v => .int (v : Nat)
def homesD (n : Nat) (f : Nat → Option Nat) : List PyData := (List.range n).map fun x => optD (f x)
theorem homesD_len (n : Nat) (f : Nat → Option Nat) : (homesD n f).length = n := by unfold homesD; rw [List.length_map, List.length_range]
theorem homesD_get {n x : Nat} {f : Nat → Option Nat} (h : x < n) : (homesD n f)[x]? = some (optD (f x)) := by
  unfold homesD
  rw [List.getElem?_map, List.getElem?_range h]
  rfl
theorem homesD_at {n x : Nat} {f : Nat → Option Nat} (h : x < n) : gIx (.list (homesD n f)) (.int (x : Nat)) = some (optD (f x)) := by
  rw [gIx_list]
  exact atI_nat (homesD_get h)
theorem homesD_ext {n : Nat} {f g : Nat → Option Nat} (h : ∀ x, x < n → f x = g x) : homesD n f = homesD n g := by
  unfold homesD
  exact List.map_congr_left fun x hx => by rw [h x (List.mem_range.mp hx)]
theorem homesD_set {n x : Nat} {f : Nat → Option Nat} (h : x < n) (v : Nat) : (homesD n f).set x (.int (v : Nat)) = homesD n (fun y => if y = x then some v else f y) := by
  refine List.ext_getElem? fun i => ?_
  by_cases hi : i < n
  · rw [homesD_get hi]
    by_cases e : x = i
    · subst e
      rw [List.getElem?_set_self (by rw [homesD_len]; exact h), if_pos rfl]
      rfl
    · rw [List.getElem?_set_ne e, homesD_get hi, if_neg (fun z => e z.symm)]
  · rw [List.getElem?_eq_none (by rw [List.length_set, homesD_len]; omega), List.getElem?_eq_none (by rw [homesD_len]; omega)]
theorem isNone_opt (o : Option Nat) : gIs false (optD o) .none = some (.bool (decide (o = none))) := by
  cases o <;> rfl
def natsD (l : List Nat) : List PyData := l.map fun (x : Nat) => .int (x : Nat)
/-- what the pairs lead on to -/
def nbrs (ps : List (Nat × Nat)) (h : Nat) : List Nat := (ps.filter fun p => decide (p.1 = h)).map (·.2) ++ (ps.filter fun p => decide (p.2 = h)).map (·.1)
/-- labelled: those of lesser kinds, and T -/
def fT (m : Nat → Nat) (k : Nat) (T : Nat → Bool) (x : Nat) : Option Nat := if T x = true then some (rank m k) else if m x < k then some (lab m x) else none
structure In (n : Nat) (ps : List (Nat × Nat)) (m : Nat → Nat) (k : Nat) (T : Nat → Bool) (left : List Nat) : Prop where
  same : ∀ x, x < n → T x = true → m x = k
  here : ∀ y ∈ left, y < n ∧ m y = k
  begin : T k = true ∨ k ∈ left
  fwd : ∀ p ∈ ps, T p.1 = true → T p.2 = true ∨ p.2 ∈ left
  bwd : ∀ p ∈ ps, T p.2 = true → T p.1 = true ∨ p.1 ∈ left
variable {n : Nat} {ps : List (Nat × Nat)} {m : Nat → Nat} {k : Nat} {T : Nat → Bool}
theorem In.pop {ls : List Nat} {h : Nat} (I : In n ps m k T (ls ++ [h])) (hT : T h = true) : In n ps m k T ls where
  same := I.same
  here := fun y hy => I.here y (List.mem_append_left _ hy)
  begin := by
    rcases I.begin with z | z
    · exact .inl z
    · rcases List.mem_append.mp z with z | z
      · exact .inr z
      · rw [List.mem_singleton.mp z]; exact .inl hT
  fwd := fun p hp hp1 => by
    rcases I.fwd p hp hp1 with z | z
    · exact .inl z
    · rcases List.mem_append.mp z with z | z
      · exact .inr z
      · rw [List.mem_singleton.mp z]; exact .inl hT
  bwd := fun p hp hp1 => by
    rcases I.bwd p hp hp1 with z | z
    · exact .inl z
    · rcases List.mem_append.mp z with z | z
      · exact .inr z
      · rw [List.mem_singleton.mp z]; exact .inl hT
theorem In.push {ls : List Nat} {h : Nat} (hm : Ho n ps m) (hps : ∀ p ∈ ps, p.1 < n ∧ p.2 < n) (I : In n ps m k T (ls ++ [h])) : In n ps m k (fun x => decide (x = h) || T x) (ls ++ nbrs ps h) where
  same := fun x hx hT => by
    rw [Bool.or_eq_true, decide_eq_true_eq] at hT
    rcases hT with rfl | hT
    · exact (I.here x (List.mem_append_right _ (List.mem_singleton.mpr rfl))).2
    · exact I.same x hx hT
  here := fun y hy => by
    have hh := (I.here h (List.mem_append_right _ (List.mem_singleton.mpr rfl))).2
    rcases List.mem_append.mp hy with hy | hy
    · exact I.here y (List.mem_append_left _ hy)
    · rcases List.mem_append.mp hy with hy | hy
      · obtain ⟨p, hp, rfl⟩ := List.mem_map.mp hy
        obtain ⟨hp, e⟩ := List.mem_filter.mp hp
        have e := of_decide_eq_true e
        refine ⟨(hps p hp).2, ?_⟩
        rw [← hm.eq p hp, e]
        exact hh
      · obtain ⟨p, hp, rfl⟩ := List.mem_map.mp hy
        obtain ⟨hp, e⟩ := List.mem_filter.mp hp
        have e := of_decide_eq_true e
        refine ⟨(hps p hp).1, ?_⟩
        rw [hm.eq p hp, e]
        exact hh
  begin := by
    rcases I.begin with z | z
    · exact .inl (by rw [z, Bool.or_true])
    · rcases List.mem_append.mp z with z | z
      · exact .inr (List.mem_append_left _ z)
      · exact .inl (by rw [List.mem_singleton.mp z]; simp)
  fwd := fun p hp hp1 => by
    rw [Bool.or_eq_true, decide_eq_true_eq] at hp1
    rcases hp1 with e | hp1
    · exact .inr (List.mem_append_right _ (List.mem_append_left _ (List.mem_map.mpr ⟨p, List.mem_filter.mpr ⟨hp, decide_eq_true e⟩, rfl⟩)))
    · rcases I.fwd p hp hp1 with z | z
      · exact .inl (by rw [z, Bool.or_true])
      · rcases List.mem_append.mp z with z | z
        · exact .inr (List.mem_append_left _ z)
        · exact .inl (by rw [List.mem_singleton.mp z]; simp)
  bwd := fun p hp hp1 => by
    rw [Bool.or_eq_true, decide_eq_true_eq] at hp1
    rcases hp1 with e | hp1
    · exact .inr (List.mem_append_right _ (List.mem_append_right _ (List.mem_map.mpr ⟨p, List.mem_filter.mpr ⟨hp, decide_eq_true e⟩, rfl⟩)))
    · rcases I.bwd p hp hp1 with z | z
      · exact .inl (by rw [z, Bool.or_true])
      · rcases List.mem_append.mp z with z | z
        · exact .inr (List.mem_append_left _ z)
        · exact .inl (by rw [List.mem_singleton.mp z]; simp)
theorem In.done (hm : Ho n ps m) (I : In n ps m k T []) {x : Nat} (hx : x < n) : T x = true ↔ m x = k := by
  refine ⟨I.same x hx, fun e => ?_⟩
  have hk : T k = true := by
    rcases I.begin with z | z
    · exact z
    · cases z
  have f1 : ∀ p ∈ ps, T p.1 = true → T p.2 = true := fun p hp z => by
    rcases I.fwd p hp z with z | z
    · exact z
    · cases z
  have f2 : ∀ p ∈ ps, T p.2 = true → T p.1 = true := fun p hp z => by
    rcases I.bwd p hp z with z | z
    · exact z
    · cases z
  have := hm.cl (fun y => T y = true) (fun p hp => ⟨f1 p hp, f2 p hp⟩) x hx
  rw [e] at this
  exact this.mpr hk
theorem nbrs_len (ps : List (Nat × Nat)) (h : Nat) : (nbrs ps h).length ≤ 2 * ps.length := by
  unfold nbrs
  rw [List.length_append, List.length_map, List.length_map]
  have h1 := List.length_filter_le (fun p : Nat × Nat => decide (p.1 = h)) ps
  have h2 := List.length_filter_le (fun p : Nat × Nat => decide (p.2 = h)) ps
  omega
def todo (n : Nat) (T : Nat → Bool) : Nat := ((List.range n).filter fun x => !T x).length
theorem todo_lt {h : Nat} (hn : h < n) (hT : T h = false) : todo n (fun x => decide (x = h) || T x) < todo n T := by
  unfold todo
  refine filter_lt (fun x _ hq => ?_) ⟨h, List.mem_range.mpr hn, by rw [hT]; rfl, by simp⟩
  rw [Bool.not_or, Bool.and_eq_true] at hq
  exact hq.2
theorem todo_le (n : Nat) (T : Nat → Bool) : todo n T ≤ n := by
  unfold todo
  refine Nat.le_trans (List.length_filter_le _ _) ?_
  rw [List.length_range]
  exact Nat.le_refl _
/-- a comprehension over the pairs -/
theorem lc_prs {vs : List Nat} {j1 j2 : Nat} {fs f : Fn} {c : Rho → Option Bool} {ρ : Rho} {ps : List (Nat × Nat)} {g : Nat × Nat → PyData} {p : Nat × Nat → Bool} (h1 : fs ρ = some (.list (ps.map prD))) (hl : ps.length ≤ 1000000)
    (h : ∀ q ∈ ps, c (((wipeR ρ vs).set j1 (some (.int (q.1 : Nat)))).set j2 (some (.int (q.2 : Nat)))) = some (p q) ∧ (p q = true → f (((wipeR ρ vs).set j1 (some (.int (q.1 : Nat)))).set j2 (some (.int (q.2 : Nat)))) = some (g q))) :
    fLc vs (iSq fs) (hSeq 2 (hCons (hName j1) (hCons (hName j2) hNil))) c f ρ = some ((ps.filter p).map g) := by
  unfold fLc iSq
  rw [h1, Option.bind_some]
  simp only [seqD, Option.bind_some]
  rw [if_pos (by rw [List.length_map]; exact hl)]
  exact compF_listF (α := Nat × Nat) fun q hq => ⟨_, rfl, (h q hq).1, (h q hq).2⟩
abbrev hRho (n : Nat) (ps : List (Nat × Nat)) (H : List PyData) (s k : Nat) (o5 o6 o7 o8 : Option PyData) : Rho := [some (.int (n : Nat)), some (.list (ps.map prD)), some (.list H), some (.int (s : Nat)), some (.int (k : Nat)), o5, o6, o7, o8]
theorem natsD_app (l r : List Nat) : natsD (l ++ r) = natsD l ++ natsD r := List.map_append
theorem natsD_len (l : List Nat) : (natsD l).length = l.length := List.length_map _
theorem pop_left (H : List PyData) (s : Nat) (ls : List Nat) (h : Nat) (o6 o7 o8 : Option PyData) : g__law_homes_2b0t1b0 (hRho n ps H s k (some (.list (natsD (ls ++ [h])))) o6 o7 o8) = some (.nx (hRho n ps H s k (some (.list (natsD ls))) (some (.int (h : Nat))) o7 o8)) := by
  have hn : (natsD (ls ++ [h])).length = ls.length + 1 := by rw [natsD_len, List.length_append]; rfl
  have hg : (natsD (ls ++ [h]))[(natsD (ls ++ [h])).length - 1]? = some (.int (h : Nat)) := by
    rw [hn, Nat.add_sub_cancel, natsD_app, List.getElem?_append_right (by rw [natsD_len]; exact Nat.le_refl _), natsD_len, Nat.sub_self]
    rfl
  have hd : (natsD (ls ++ [h])).dropLast = natsD ls := by
    rw [natsD_app]
    exact List.dropLast_concat
  simp only [g__law_homes_2b0t1b0, gPop, lstAt, List.getElem?_cons_zero, List.getElem?_cons_succ, Option.bind_some, hg, hd]
  rfl
theorem tru_left (H : List PyData) (s : Nat) (l : List Nat) (o6 o7 o8 : Option PyData) : fTru (fVar 5) (hRho n ps H s k (some (.list (natsD l))) o6 o7 o8) = some (!l.isEmpty) := by
  cases l <;> rfl
theorem flat_nats (l : List Nat) : (natsD l).all flatD = true := by
  rw [List.all_eq_true]
  intro x hx
  obtain ⟨i, _, rfl⟩ := List.mem_map.mp hx
  rfl
theorem inner_turn (hm : Ho n ps m) (hn : n ≤ 60) (hps : ∀ p ∈ ps, p.1 < n ∧ p.2 < n) (hpl : ps.length ≤ 100) {ls : List Nat} {h : Nat} (I : In n ps m k T (ls ++ [h])) (hl : ls.length ≤ 100000) (o6 o7 o8 : Option PyData) :
    ∃ T' left' o6' o7' o8', In n ps m k T' left' ∧ todo n T' * 300 + left'.length < todo n T * 300 + (ls ++ [h]).length ∧
      g__law_homes_2b0t1b (hRho n ps (homesD n (fT m k T)) (rank m k) k (some (.list (natsD (ls ++ [h])))) o6 o7 o8) = some (.nx (hRho n ps (homesD n (fT m k T')) (rank m k) k (some (.list (natsD left'))) o6' o7' o8')) := by
  obtain ⟨hh, hmh⟩ := I.here h (List.mem_append_right _ (List.mem_singleton.mpr rfl))
  have e0 := pop_left (n := n) (ps := ps) (k := k) (homesD n (fT m k T)) (rank m k) ls h o6 o7 o8
  have hat := homesD_at (f := fT m k T) hh
  have hnone := isNone_opt (fT m k T h)
  cases hT : T h with
  | true =>
    have hf : fT m k T h = some (rank m k) := if_pos hT
    rw [hf] at hat hnone
    refine ⟨T, ls, some (.int (h : Nat)), o7, o8, I.pop hT, by rw [List.length_append, List.length_singleton]; omega, ?_⟩
    unfold g__law_homes_2b0t1b
    rw [blk_nx e0]
    unfold g__law_homes_2b0t1b1
    rw [if_f]
    · rfl
    · generalize homesD n (fT m k T) = HD at *
      simp only [fB, f2, fVar, fC, List.getElem?_cons_zero, List.getElem?_cons_succ, Option.bind_some, hat, hnone]
      rfl
  | false =>
    have hf : fT m k T h = none := by
      unfold fT
      rw [hT, if_neg Bool.false_ne_true, if_neg (by omega)]
    rw [hf] at hat hnone
    have hset := homesD_set (f := fT m k T) hh (rank m k)
    have hT' : homesD n (fun y => if y = h then some (rank m k) else fT m k T y) = homesD n (fT m k fun x => decide (x = h) || T x) := homesD_ext fun x hx => by
      unfold fT
      by_cases e : x = h
      · simp [e]
      · simp [e]
    rw [hT'] at hset
    have hnl := nbrs_len ps h
    have htl := todo_lt hh hT
    refine ⟨fun x => decide (x = h) || T x, ls ++ nbrs ps h, some (.int (h : Nat)), o7, o8, I.push hm hps, by rw [List.length_append, List.length_append, List.length_singleton]; omega, ?_⟩
    unfold g__law_homes_2b0t1b
    rw [blk_nx e0]
    have hlen := homesD_len n (fT m k T)
    generalize homesD n (fT m k fun x => decide (x = h) || T x) = HD' at *
    generalize homesD n (fT m k T) = HD at *
    generalize rank m k = r at *
    unfold g__law_homes_2b0t1b1
    rw [if_t (by
      simp only [fB, f2, fVar, fC, List.getElem?_cons_zero, List.getElem?_cons_succ, Option.bind_some, hat, hnone]
      rfl)]
    have hix : ixN HD.length ((h : Nat) : Int) = some h := by rw [hlen]; exact ixN_of ⟨by omega, by omega⟩
    have e1 : g__law_homes_2b0t1b1t0 (hRho n ps HD r k (some (.list (natsD ls))) (some (.int (h : Nat))) o7 o8) = some (.nx (hRho n ps HD' r k (some (.list (natsD ls))) (some (.int (h : Nat))) o7 o8)) := by
      simp only [g__law_homes_2b0t1b1t0, gSet, lstAt, fVar, List.getElem?_cons_zero, List.getElem?_cons_succ, Option.bind_some, hix, hset]
      rfl
    have q1 := lc_prs (vs := [7, 8]) (j1 := 7) (j2 := 8) (fs := fVar 1) (f := fVar 8) (c := fB (f2 (gEq false) (fVar 7) (fVar 6))) (ρ := hRho n ps HD' r k (some (.list (natsD ls))) (some (.int (h : Nat))) o7 o8) (ps := ps) (g := fun p => .int (p.2 : Nat)) (p := fun p => decide (p.1 = h)) rfl (by omega) (fun q _ => by
      simp
      omega)
    have q2 := lc_prs (vs := [7, 8]) (j1 := 7) (j2 := 8) (fs := fVar 1) (f := fVar 7) (c := fB (f2 (gEq false) (fVar 8) (fVar 6))) (ρ := hRho n ps HD' r k (some (.list (natsD ls))) (some (.int (h : Nat))) o7 o8) (ps := ps) (g := fun p => .int (p.1 : Nat)) (p := fun p => decide (p.2 = h)) rfl (by omega) (fun q _ => by
      simp
      omega)
    have w1 : (ps.filter fun p => decide (p.1 = h)).map (fun p => PyData.int ((p.2 : Nat) : Int)) = natsD ((ps.filter fun p => decide (p.1 = h)).map (·.2)) := by
      unfold natsD
      rw [List.map_map]
      rfl
    have w2 : (ps.filter fun p => decide (p.2 = h)).map (fun p => PyData.int ((p.1 : Nat) : Int)) = natsD ((ps.filter fun p => decide (p.2 = h)).map (·.1)) := by
      unfold natsD
      rw [List.map_map]
      rfl
    rw [w1] at q1
    rw [w2] at q2
    have hnb : natsD (ls ++ nbrs ps h) = (natsD ls ++ natsD ((ps.filter fun p => decide (p.1 = h)).map (·.2))) ++ natsD ((ps.filter fun p => decide (p.2 = h)).map (·.1)) := by
      unfold nbrs
      rw [natsD_app, natsD_app, List.append_assoc]
    have hfl := flat_nats (ls ++ nbrs ps h)
    rw [hnb] at hfl ⊢
    have l1 := List.length_filter_le (fun p : Nat × Nat => decide (p.1 = h)) ps
    have l2 := List.length_filter_le (fun p : Nat × Nat => decide (p.2 = h)) ps
    have z1 : (natsD ((ps.filter fun p => decide (p.1 = h)).map (·.2))).length ≤ 100 := by rw [natsD_len, List.length_map]; omega
    have z2 : (natsD ((ps.filter fun p => decide (p.2 = h)).map (·.1))).length ≤ 100 := by rw [natsD_len, List.length_map]; omega
    have z0 : (natsD ls).length ≤ 100000 := by rw [natsD_len]; exact hl
    generalize natsD ((ps.filter fun p => decide (p.1 = h)).map (·.2)) = A1 at *
    generalize natsD ((ps.filter fun p => decide (p.2 = h)).map (·.1)) = A2 at *
    generalize natsD ls = L0 at *
    have e2 : g__law_homes_2b0t1b1t1 (hRho n ps HD' r k (some (.list L0)) (some (.int (h : Nat))) o7 o8) = some (.nx (hRho n ps HD' r k (some (.list (L0 ++ A1 ++ A2))) (some (.int (h : Nat))) o7 o8)) := by
      have s1 : L0.length + A1.length ≤ 1000000 := by omega
      have s2 : (L0 ++ A1).length + A2.length ≤ 1000000 := by rw [List.length_append]; omega
      have w1 := fFr_of q1
      have w2 := fFr_of q2
      simp only [g__law_homes_2b0t1b1t1, gOwn, lFlat, lCat, f2, w1, w2, fVar, List.getElem?_cons_zero, List.getElem?_cons_succ, Option.bind_some, gAdd, if_pos s1, if_pos s2, if_pos hfl]
      rfl
    unfold g__law_homes_2b0t1b1t
    rw [blk_nx e1, e2]
theorem inner_loop (hm : Ho n ps m) (hn : n ≤ 60) (hps : ∀ p ∈ ps, p.1 < n ∧ p.2 < n) (hpl : ps.length ≤ 100) : ∀ (fuel : Nat) (T : Nat → Bool) (left : List Nat) (o6 o7 o8 : Option PyData), In n ps m k T left → todo n T * 300 + left.length < fuel → todo n T * 300 + left.length ≤ 20000 →
    ∃ o6' o7' o8', whileF (fTru (fVar 5)) g__law_homes_2b0t1b fuel (hRho n ps (homesD n (fT m k T)) (rank m k) k (some (.list (natsD left))) o6 o7 o8) = some (.nx (hRho n ps (homesD n (fun x => if m x < k + 1 then some (lab m x) else none)) (rank m k) k (some (.list [])) o6' o7' o8'))
  | 0, T, left, o6, o7, o8, I, hf, hb => by omega
  | fuel + 1, T, left, o6, o7, o8, I, hf, hb => by
    rcases List.eq_nil_or_concat left with rfl | ⟨ls, h, rfl⟩
    · refine ⟨o6, o7, o8, ?_⟩
      have e : homesD n (fT m k T) = homesD n (fun x => if m x < k + 1 then some (lab m x) else none) := homesD_ext fun x hx => by
        have hd := I.done hm hx
        unfold fT
        by_cases hT : T x = true
        · have hk := hd.mp hT
          rw [if_pos hT, if_pos (by omega)]
          unfold lab
          rw [hk]
        · have hk : m x ≠ k := fun z => hT (hd.mpr z)
          rw [if_neg hT]
          by_cases c : m x < k
          · rw [if_pos c, if_pos (by omega)]
          · rw [if_neg c, if_neg (by omega)]
      rw [e]
      exact while_f rfl
    · rw [List.concat_eq_append] at I hf hb ⊢
      have hlen : (ls ++ [h]).length = ls.length + 1 := by rw [List.length_append]; rfl
      obtain ⟨T', left', p6, p7, p8, I', hd, e⟩ := inner_turn hm hn hps hpl I (by omega) o6 o7 o8
      obtain ⟨q6, q7, q8, ih⟩ := inner_loop hm hn hps hpl fuel T' left' p6 p7 p8 I' (by omega) (by omega)
      refine ⟨q6, q7, q8, ?_⟩
      rw [while_t (by rw [tru_left]; simp) e]
      exact ih
theorem lhomes_turn (hm : Ho n ps m) (hn : n ≤ 60) (hps : ∀ p ∈ ps, p.1 < n ∧ p.2 < n) (hpl : ps.length ≤ 100) (hk : k < n) (o5 o6 o7 o8 : Option PyData) :
    ∃ o5' o6' o7' o8', g__law_homes_2b0 (hRho n ps (homesD n (fun x => if m x < k then some (lab m x) else none)) (rank m k) k o5 o6 o7 o8) = some (.nx (hRho n ps (homesD n (fun x => if m x < k + 1 then some (lab m x) else none)) (rank m (k + 1)) k o5' o6' o7' o8')) := by
  have hle := hm.le k hk
  have hat := homesD_at (n := n) (f := fun x => if m x < k then some (lab m x) else none) hk
  have hnone := isNone_opt (if m k < k then some (lab m k) else none)
  have hr := rank_succ m k
  by_cases c : m k = k
  · rw [if_pos c] at hr
    rw [if_neg (by omega)] at hat hnone
    have e0 : g__law_homes_2b0 (hRho n ps (homesD n (fun x => if m x < k then some (lab m x) else none)) (rank m k) k o5 o6 o7 o8) = g__law_homes_2b0t (hRho n ps (homesD n (fun x => if m x < k then some (lab m x) else none)) (rank m k) k o5 o6 o7 o8) := by
      unfold g__law_homes_2b0
      refine if_t ?_
      generalize homesD n (fun x => if m x < k then some (lab m x) else none) = HD at *
      simp only [fB, f2, fVar, fC, List.getElem?_cons_zero, List.getElem?_cons_succ, Option.bind_some, hat, hnone]
      rfl
    have hT : homesD n (fun x => if m x < k then some (lab m x) else none) = homesD n (fT m k fun _ => false) := homesD_ext fun x _ => by
      unfold fT
      rw [if_neg Bool.false_ne_true]
    have I : In n ps m k (fun _ => false) [k] := ⟨(fun _ _ h => nomatch h), (fun y hy => by rw [List.mem_singleton.mp hy]; exact ⟨hk, c⟩), .inr (List.mem_singleton.mpr rfl), (fun _ _ h => nomatch h), (fun _ _ h => nomatch h)⟩
    have ht := todo_le n fun _ => false
    obtain ⟨p6, p7, p8, e2⟩ := inner_loop hm hn hps hpl 1000000 (fun _ => false) [k] o6 o7 o8 I (by rw [List.length_singleton]; omega) (by rw [List.length_singleton]; omega)
    rw [e0, hT]
    have e1 : g__law_homes_2b0t0 (hRho n ps (homesD n (fT m k fun _ => false)) (rank m k) k o5 o6 o7 o8) = some (.nx (hRho n ps (homesD n (fT m k fun _ => false)) (rank m k) k (some (.list (natsD [k]))) o6 o7 o8)) := by
      simp [g__law_homes_2b0t0, natsD]
    have e3 : g__law_homes_2b0t2 (hRho n ps (homesD n (fun x => if m x < k + 1 then some (lab m x) else none)) (rank m k) k (some (.list [])) p6 p7 p8) = some (.nx (hRho n ps (homesD n (fun x => if m x < k + 1 then some (lab m x) else none)) (rank m (k + 1)) k (some (.list [])) p6 p7 p8)) := by
      rw [hr]
      simp [g__law_homes_2b0t2]
    refine ⟨some (.list []), p6, p7, p8, ?_⟩
    · unfold g__law_homes_2b0t
      rw [blk_nx e1, show g__law_homes_2b0t1 = whileF (fTru (fVar 5)) g__law_homes_2b0t1b 1000000 from rfl, blk_nx e2, e3]
  · rw [if_neg c] at hr
    rw [if_pos (by omega)] at hat hnone
    refine ⟨o5, o6, o7, o8, ?_⟩
    have e : homesD n (fun x => if m x < k + 1 then some (lab m x) else none) = homesD n (fun x => if m x < k then some (lab m x) else none) := homesD_ext fun x hx => by
      have : m x ≠ k := fun z => c (by rw [← z]; exact hm.idem x hx)
      by_cases d : m x < k
      · rw [if_pos d, if_pos (by omega)]
      · rw [if_neg d, if_neg (by omega)]
    rw [e, hr, Nat.add_zero]
    unfold g__law_homes_2b0
    rw [if_f]
    · rfl
    · generalize homesD n (fun x => if m x < k then some (lab m x) else none) = HD at *
      simp only [fB, f2, fVar, fC, List.getElem?_cons_zero, List.getElem?_cons_succ, Option.bind_some, hat, hnone]
      rfl
theorem lhomes_eq (hm : Ho n ps m) (hn : n ≤ 60) (hps : ∀ p ∈ ps, p.1 < n ∧ p.2 < n) (hpl : ps.length ≤ 100) : phi__law_homes [.int (n : Nat), .list (ps.map prD)] = some (.ok (.tuple [.int (rank m n : Nat), .list ((labs m n).map .int)])) := by
  have hB : B62 ((n : Nat) : Int) := ⟨by omega, by omega⟩
  have q0 := lc_rg (vs := [4]) (j := 4) (fn := fVar 0) (f := fC .none) (ρ := [some (.int (n : Nat)), some (.list (ps.map prD)), none, none, none, none, none, none, none]) (n := (n : Nat)) (g := fun _ => .none) rfl (by omega) (fun i _ => rfl)
  have e0 : g__law_homes_0 [some (.int (n : Nat)), some (.list (ps.map prD)), none, none, none, none, none, none, none] = some (.nx [some (.int (n : Nat)), some (.list (ps.map prD)), some (.list (homesD n (fun x => if m x < 0 then some (lab m x) else none))), none, none, none, none, none, none]) := by
    unfold g__law_homes_0 gOwn
    rw [q0]
    rfl
  have e1 : g__law_homes_1 [some (.int (n : Nat)), some (.list (ps.map prD)), some (.list (homesD n (fun x => if m x < 0 then some (lab m x) else none))), none, none, none, none, none, none] = some (.nx [some (.int (n : Nat)), some (.list (ps.map prD)), some (.list (homesD n (fun x => if m x < 0 then some (lab m x) else none))), some (.int (rank m 0 : Nat)), none, none, none, none, none]) := rfl
  have e2 := for_rg (h' := iR1 (fVar 0)) (j := 4) (b := g__law_homes_2b0) (ρ := [some (.int (n : Nat)), some (.list (ps.map prD)), some (.list (homesD n (fun x => if m x < 0 then some (lab m x) else none))), some (.int (rank m 0 : Nat)), none, none, none, none, none]) (lo := 0) (n := n)
    (fun i ρ => ∃ o4 o5 o6 o7 o8, ρ = [some (.int (n : Nat)), some (.list (ps.map prD)), some (.list (homesD n (fun x => if m x < i then some (lab m x) else none))), some (.int (rank m i : Nat)), o4, o5, o6, o7, o8]) (fun _ => False) (by simp [hB])
    (fun i hi ρ hρ => by
      obtain ⟨o4, o5, o6, o7, o8, rfl⟩ := hρ
      obtain ⟨p5, p6, p7, p8, e⟩ := lhomes_turn hm hn hps hpl hi o5 o6 o7 o8
      rw [Int.zero_add]
      exact .inl ⟨_, e, _, _, _, _, _, rfl⟩) ⟨_, _, _, _, _, rfl⟩
  rcases e2 with ⟨ρ', e2, o4, o5, o6, o7, o8, rfl⟩ | ⟨_, _, z⟩
  · have hfin : homesD n (fun x => if m x < n then some (lab m x) else none) = (labs m n).map .int := by
      unfold homesD labs
      rw [List.map_map]
      refine List.map_congr_left fun x hx => ?_
      have hx := List.mem_range.mp hx
      have := hm.le x hx
      show optD (if m x < n then some (lab m x) else none) = _
      rw [if_pos (by omega)]
      rfl
    rw [hfin] at e2
    have e : g__law_homes [some (.int (n : Nat)), some (.list (ps.map prD)), none, none, none, none, none, none, none] = some (.ret (.tuple [.int (rank m n : Nat), .list ((labs m n).map .int)])) := by
      unfold g__law_homes
      rw [blk_nx e0, blk_nx e1, show g__law_homes_2 = gFor (iR1 (fVar 0)) (hName 4) g__law_homes_2b0 from rfl, blk_nx e2]
      simp [g__law_homes_3]
    exact def_ret rfl e
  · exact z.elim
end Lw

namespace Lw
open PySem PySem.Spec PyProof.Rows L2 DL
/-- the pairs of two rows, the second's shifted -/
def prs (a b : Mp) (A : Nat) : List (Nat × Nat) := (List.range a.2.length).map fun i => ((a.2.getD i 0).toNat, A + (b.2.getD i 0).toNat)
theorem prs_lt {a b : Mp} (ha : Wf a) (hb : Wf b) (h : b.2.length = a.2.length) (A : Nat) {n : Nat} (h1 : a.1.toNat ≤ n) (h2 : A + b.1.toNat ≤ n) : ∀ p ∈ prs a b A, p.1 < n ∧ p.2 < n := fun p hp => by
  obtain ⟨i, hi, rfl⟩ := List.mem_map.mp hp
  have hi := List.mem_range.mp hi
  have g1 := getD_lt ha hi
  have g2 := getD_lt hb (i := i) (by omega)
  exact ⟨by show (a.2.getD i 0).toNat < n; omega, by show A + (b.2.getD i 0).toNat < n; omega⟩
theorem prs_len (a b : Mp) (A : Nat) : (prs a b A).length = a.2.length := by unfold prs; rw [List.length_map, List.length_range]
theorem prs_eq {a b : Mp} {A n : Nat} {m : Nat → Nat} (hm : Ho n (prs a b A) m) {i : Nat} (hi : i < a.2.length) : m (a.2.getD i 0).toNat = m (A + (b.2.getD i 0).toNat) := hm.eq ((a.2.getD i 0).toNat, A + (b.2.getD i 0).toNat) (List.mem_map.mpr ⟨i, List.mem_range.mpr hi, rfl⟩)
theorem labs_get {m : Nat → Nat} {n x : Nat} (h : x < n) : (labs m n).getD x 0 = ((lab m x : Nat) : Int) := by
  unfold labs
  exact getD_range h
theorem labs_lt {n : Nat} {ps : List (Nat × Nat)} {m : Nat → Nat} (hm : Ho n ps m) : ∀ x ∈ labs m n, 0 ≤ x ∧ x < ((rank m n : Nat) : Int) := fun x hx => by
  obtain ⟨k, hk, rfl⟩ := List.mem_map.mp hx
  have := hm.lab_lt (List.mem_range.mp hk)
  omega
theorem rank_sur {n : Nat} {ps : List (Nat × Nat)} {m : Nat → Nat} : ∀ (s : Nat) {v : Nat}, v < rank m s → ∃ r, r < s ∧ m r = r ∧ rank m r = v
  | 0, v, h => absurd h (Nat.not_lt_zero _)
  | s + 1, v, h => by
    have hr := rank_succ m s
    by_cases c : v < rank m s
    · obtain ⟨r, h1, h2, h3⟩ := rank_sur (n := n) (ps := ps) s c
      exact ⟨r, by omega, h2, h3⟩
    · by_cases e : m s = s
      · rw [if_pos e] at hr
        exact ⟨s, by omega, e, by omega⟩
      · rw [if_neg e] at hr
        omega
theorem labs_sset {n : Nat} {ps : List (Nat × Nat)} {m : Nat → Nat} (hm : Ho n ps m) : sset (labs m n) = idr (rank m n) := by
  refine rise_eq (sset_lt _) (idr_lt _) fun x => ?_
  rw [sset_mem, mem_idr]
  constructor
  · exact labs_lt hm x
  · intro hx
    obtain ⟨r, h1, h2, h3⟩ := rank_sur (n := n) (ps := ps) (m := m) n (v := x.toNat) (by omega)
    refine List.mem_map.mpr ⟨r, List.mem_range.mpr h1, ?_⟩
    show ((rank m (m r) : Nat) : Int) = x
    rw [h2, h3]
    omega
/-- the two maps that join -/
def J1 (m : Nat → Nat) (n A : Nat) : Mp := ((rank m n : Nat), (labs m n).take A)
def J2 (m : Nat → Nat) (n A : Nat) : Mp := ((rank m n : Nat), (labs m n).drop A)
section
variable {n A : Nat} {ps : List (Nat × Nat)} {m : Nat → Nat}
theorem J1_wf (hm : Ho n ps m) (hn : n ≤ 60) : Wf (J1 m n A) where
  len := by show ((labs m n).take A).length ≤ 1000; rw [List.length_take, labs_len]; omega
  rng := by have := rank_le m n; show (0 : Int) ≤ (rank m n : Nat) ∧ ((rank m n : Nat) : Int) ≤ 1000; omega
  lt := fun x hx => labs_lt hm x (List.mem_of_mem_take hx)
theorem J2_wf (hm : Ho n ps m) (hn : n ≤ 60) : Wf (J2 m n A) where
  len := by show ((labs m n).drop A).length ≤ 1000; rw [List.length_drop, labs_len]; omega
  rng := by have := rank_le m n; show (0 : Int) ≤ (rank m n : Nat) ∧ ((rank m n : Nat) : Int) ≤ 1000; omega
  lt := fun x hx => labs_lt hm x (List.mem_of_mem_drop hx)
theorem J1_len (h : A ≤ n) : (J1 m n A).2.length = A := by show ((labs m n).take A).length = A; rw [List.length_take, labs_len]; omega
theorem J2_len : (J2 m n A).2.length = n - A := by show ((labs m n).drop A).length = n - A; rw [List.length_drop, labs_len]
theorem J1_get {x : Nat} (hx : x < A) (h : A ≤ n) : (J1 m n A).2.getD x 0 = ((lab m x : Nat) : Int) := by
  show ((labs m n).take A).getD x 0 = _
  rw [List.getD_eq_getElem?_getD, List.getElem?_take, if_pos hx, ← List.getD_eq_getElem?_getD, labs_get (by omega)]
theorem J2_get {x : Nat} (hx : A + x < n) : (J2 m n A).2.getD x 0 = ((lab m (A + x) : Nat) : Int) := by
  show ((labs m n).drop A).getD x 0 = _
  rw [List.getD_eq_getElem?_getD, List.getElem?_drop, ← List.getD_eq_getElem?_getD, labs_get hx]
theorem stk_J (m : Nat → Nat) (n A : Nat) : stk (J1 m n A) (J2 m n A) = (((rank m n : Nat) : Int), labs m n) := by
  unfold stk J1 J2
  rw [List.take_append_drop]
end
theorem row_ext {a b : Mp} (h1 : a.1 = b.1) (h2 : a.2.length = b.2.length) (h : ∀ i, i < a.2.length → a.2.getD i 0 = b.2.getD i 0) : a = b := by
  refine Prod.ext h1 (List.ext_getElem? fun i => ?_)
  by_cases hi : i < a.2.length
  · have := h i hi
    rw [List.getD_eq_getElem?_getD, List.getD_eq_getElem?_getD, List.getElem?_eq_getElem hi, List.getElem?_eq_getElem (show i < b.2.length by omega)] at this
    rw [List.getElem?_eq_getElem hi, List.getElem?_eq_getElem (show i < b.2.length by omega)]
    exact congrArg some this
  · rw [List.getElem?_eq_none (by omega), List.getElem?_eq_none (by omega)]
theorem thn_get {a b : Mp} {i : Nat} (hi : i < a.2.length) : (thn a b).2.getD i 0 = b.2.getD (a.2.getD i 0).toNat 0 := by
  show (a.2.map _).getD i 0 = _
  rw [List.getD_eq_getElem?_getD, List.getElem?_map, List.getD_eq_getElem?_getD (l := a.2), List.getElem?_eq_getElem hi]
  rfl
theorem join_same {a b : Mp} (ha : Wf a) (hb : Wf b) (h : b.2.length = a.2.length) {m : Nat → Nat} (hm : Ho (a.1.toNat + b.1.toNat) (prs a b a.1.toNat) m) : thn a (J1 m (a.1.toNat + b.1.toNat) a.1.toNat) = thn b (J2 m (a.1.toNat + b.1.toNat) a.1.toNat) := by
  refine row_ext rfl (by rw [thn_len, thn_len]; exact h.symm) fun i hi => ?_
  rw [thn_len] at hi
  have g1 := getD_lt ha hi
  have g2 := getD_lt hb (i := i) (by omega)
  rw [thn_get hi, thn_get (by omega), J1_get (by omega) (by omega), J2_get (by omega)]
  unfold lab
  rw [prs_eq hm hi]
theorem prs_row {a b : Mp} (ha : Wf a) (hb : Wf b) (h : b.2.length = a.2.length) {ρ : Rho} {j i1 i2 : Nat} {vs : List Nat} (e1 : (wipeR ρ vs)[i1]? = some (some (mpD a))) (e2 : (wipeR ρ vs)[i2]? = some (some (mpD b))) (hj1 : j ≠ i1) (hj2 : j ≠ i2) (hjl : j < (wipeR ρ vs).length) (e0 : fBi gLen (fCons (f2 gIx (fVar i1) (fC (.int 1))) fNil) ρ = some (.int (a.2.length : Nat))) :
    fLc vs (iR1 (fBi gLen (fCons (f2 gIx (fVar i1) (fC (.int 1))) fNil))) (hName j) cYes (fTup (fCons (f2 gIx (f2 gIx (fVar i1) (fC (.int 1))) (fVar j)) (fCons (f2 gAdd (f2 gIx (fVar i1) (fC (.int 0))) (f2 gIx (f2 gIx (fVar i2) (fC (.int 1))) (fVar j))) fNil))) ρ = some ((prs a b a.1.toNat).map prD) := by
  have hal := ha.len
  rw [lc_rg (n := (a.2.length : Nat)) (g := fun i => prD ((a.2.getD i 0).toNat, a.1.toNat + (b.2.getD i 0).toNat)) e0 (by omega) (fun i hi => by
    have hi : i < a.2.length := by omega
    have g1 := getD_lt ha hi
    have g2 := getD_lt hb (i := i) (by omega)
    have hr := ha.rng
    have a1 := ix_row (m := a) hi
    have b1 := ix_row (m := b) (i := i) (by omega)
    have v1 : fVar i1 ((wipeR ρ vs).set j (some (.int (i : Nat)))) = some (mpD a) := by
      unfold fVar
      rw [List.getElem?_set_ne hj1, e1]
    have v2 : fVar i2 ((wipeR ρ vs).set j (some (.int (i : Nat)))) = some (mpD b) := by
      unfold fVar
      rw [List.getElem?_set_ne hj2, e2]
    have v3 : fVar j ((wipeR ρ vs).set j (some (.int (i : Nat)))) = some (.int (i : Nat)) := by
      unfold fVar
      rw [List.getElem?_set_self hjl]
    simp only [fTup, fCons, fNil, f2, v1, v2, v3, fC, Option.bind_some, gIx_m1, gIx_m0, a1, b1, gAdd]
    rw [if_pos (by show 2 ≤ 1000000; decide)]
    unfold prD
    congr 3
    · congr 1; show a.2.getD i 0 = (((a.2.getD i 0).toNat : Nat) : Int); omega
    · congr 2; show a.1 + b.2.getD i 0 = ((a.1.toNat + (b.2.getD i 0).toNat : Nat) : Int); omega)]
  unfold prs
  rw [List.map_map, Int.toNat_natCast]
  rfl
theorem joined_ok {a b : Mp} (ha : Wf a) (hb : Wf b) (h : b.2.length = a.2.length) {m : Nat → Nat} (hn : a.1.toNat + b.1.toNat ≤ 60) (hm : phi_homes_of [.int ((a.1.toNat + b.1.toNat : Nat) : Int), .list ((prs a b a.1.toNat).map prD)] = some (.ok (.tuple [.int (rank m (a.1.toNat + b.1.toNat) : Nat), .list ((labs m (a.1.toNat + b.1.toNat)).map .int)]))) :
    phi_joined [mpD a, mpD b] = some (.ok (.tuple [mpD (J1 m (a.1.toNat + b.1.toNat) a.1.toNat), mpD (J2 m (a.1.toNat + b.1.toNat) a.1.toNat)])) := by
  have h' : (a.2.length : Int) = b.2.length := by omega
  have ra := ha.rng
  have rb := hb.rng
  have e0 : g_joined_0 [some (mpD a), some (mpD b), none, none, none, none] = some (.nx [some (mpD a), some (mpD b), none, none, none, none]) := by simp [g_joined_0, h', must_t]
  have q := prs_row ha hb h (ρ := [some (mpD a), some (mpD b), none, none, none, none]) (j := 5) (i1 := 0) (i2 := 1) (vs := [5]) rfl rfl (by decide) (by decide) (by simp) (by simp)
  have hsum : gAdd (.int a.1) (.int b.1) = some (.int ((a.1.toNat + b.1.toNat : Nat) : Int)) := by
    show some (PyData.int (a.1 + b.1)) = _
    congr 2
    omega
  have e1 : g_joined_1 [some (mpD a), some (mpD b), none, none, none, none] = some (.nx [some (mpD a), some (mpD b), some (.list ((prs a b a.1.toNat).map prD)), none, none, none]) := by
    unfold g_joined_1 gAsg
    rw [fFr_of q]
    rfl
  generalize hN : a.1.toNat + b.1.toNat = N at *
  have c1 := cutA_to ((labs m N).map PyData.int) (k := a.1) ra.1
  have c2 := cutA_from ((labs m N).map PyData.int) (k := a.1) ra.1
  have hll := labs_len m N
  have e2 : g_joined_2 [some (mpD a), some (mpD b), some (.list ((prs a b a.1.toNat).map prD)), none, none, none] = some (.nx [some (mpD a), some (mpD b), some (.list ((prs a b a.1.toNat).map prD)), some (.int (rank m N : Nat)), some (.list ((labs m N).map .int)), none]) := by
    simp only [g_joined_2, gAsg, fCall, fCons, fNil, f2, fVar, fC, List.getElem?_cons_zero, List.getElem?_cons_succ, Option.bind_some, gIx_m0, hsum, hm]
    rfl
  have e3 : g_joined_3 [some (mpD a), some (mpD b), some (.list ((prs a b a.1.toNat).map prD)), some (.int (rank m N : Nat)), some (.list ((labs m N).map .int)), none] = some (.ret (.tuple [mpD (J1 m N a.1.toNat), mpD (J2 m N a.1.toNat)])) := by
    have s1 : ((labs m N).map PyData.int).length ≤ 1000000 := by rw [List.length_map]; omega
    have hJ1 : mpD (J1 m N a.1.toNat) = .tuple [.int (rank m N : Nat), .tuple (((labs m N).map .int).take a.1.toNat)] := by
      unfold J1 mpD mapD
      rw [List.map_take]
    have hJ2 : mpD (J2 m N a.1.toNat) = .tuple [.int (rank m N : Nat), .tuple (((labs m N).map .int).drop a.1.toNat)] := by
      unfold J2 mpD mapD
      rw [List.map_drop]
    rw [hJ1, hJ2]
    have s2 : (((labs m N).map PyData.int).take a.1.toNat).length ≤ 1000000 := by rw [List.length_take]; omega
    have s3 : (((labs m N).map PyData.int).drop a.1.toNat).length ≤ 1000000 := by rw [List.length_drop]; omega
    generalize (labs m N).map PyData.int = W at *
    simp only [g_joined_3, gRet, fTup, fCons, fNil, fBi, fSl, pNone, pSome, f2, fVar, fC, List.getElem?_cons_zero, List.getElem?_cons_succ, Option.bind_some, gIx_m0, gSl, c1, c2, gTuple, if_pos s2, if_pos s3]
    rfl
  have e : g_joined [some (mpD a), some (mpD b), none, none, none, none] = some (.ret (.tuple [mpD (J1 m N a.1.toNat), mpD (J2 m N a.1.toNat)])) := by
    unfold g_joined
    rw [blk_nx e0, blk_nx e1, blk_nx e2, e3]
  exact def_ret rfl e
theorem joined_no {a b : Mp} (h : a.2.length ≠ b.2.length) : phi_joined [mpD a, mpD b] = some (.error 2) := by
  have h' : ¬ (a.2.length : Int) = b.2.length := by omega
  have e : g_joined [some (mpD a), some (mpD b), none, none, none, none] = some (.exc 2 [some (mpD a), some (mpD b), none, none, none, none]) := by
    unfold g_joined
    exact blk_exc (by simp [g_joined_0, h', must_f])
  exact def_exc rfl e
theorem alike_no {a b : Mp} (h : a.1 ≠ b.1) : phi_alike_made [mpD a, mpD b] = some (.error 2) := by
  have e : g_alike_made [some (mpD a), some (mpD b), none, none] = some (.exc 2 [some (mpD a), some (mpD b), none, none]) := by
    unfold g_alike_made
    exact blk_exc (by simp [g_alike_made_0, h, must_f])
  exact def_exc rfl e
theorem zpD_prs {a b : Mp} (ha : Wf a) (hb : Wf b) (h : b.2.length = a.2.length) : zpD (a.2.map .int) (b.2.map .int) = (prs a b 0).map prD := by
  refine List.ext_getElem? fun i => ?_
  by_cases hi : i < a.2.length
  · have g1 := getD_lt ha hi
    have g2 := getD_lt hb (i := i) (by omega)
    have e1 : (a.2.map PyData.int)[i]? = some (.int (a.2.getD i 0)) := by
      rw [List.getElem?_map, List.getD_eq_getElem?_getD, List.getElem?_eq_getElem hi]; rfl
    have e2 : (b.2.map PyData.int)[i]? = some (.int (b.2.getD i 0)) := by
      rw [List.getElem?_map, List.getD_eq_getElem?_getD, List.getElem?_eq_getElem (show i < b.2.length by omega)]; rfl
    rw [zpD_get e1 e2]
    unfold prs
    rw [List.getElem?_map, List.getElem?_map, List.getElem?_range hi]
    show some _ = some (prD ((a.2.getD i 0).toNat, 0 + (b.2.getD i 0).toNat))
    unfold prD
    congr 3
    · congr 1; show a.2.getD i 0 = (((a.2.getD i 0).toNat : Nat) : Int); omega
    · congr 2; show b.2.getD i 0 = ((0 + (b.2.getD i 0).toNat : Nat) : Int); omega
  · rw [List.getElem?_eq_none (by rw [zpD_len, List.length_map, List.length_map]; omega), List.getElem?_eq_none (by rw [List.length_map, prs_len]; omega)]
theorem alike_ok {a b : Mp} (ha : Wf a) (hb : Wf b) (h1 : a.1 = b.1) (h : b.2.length = a.2.length) {m : Nat → Nat} (hn : a.1.toNat ≤ 60) (hm : phi_homes_of [.int ((a.1.toNat : Nat) : Int), .list ((prs a b 0).map prD)] = some (.ok (.tuple [.int (rank m a.1.toNat : Nat), .list ((labs m a.1.toNat).map .int)]))) :
    phi_alike_made [mpD a, mpD b] = some (.ok (mpD ((rank m a.1.toNat : Nat), labs m a.1.toNat))) := by
  have h' : (a.2.length : Int) = b.2.length := by omega
  have hal := ha.len
  have e0 : g_alike_made_0 [some (mpD a), some (mpD b), none, none] = some (.nx [some (mpD a), some (mpD b), none, none]) := by simp [g_alike_made_0, h', h1, must_t]
  have hz : gListZip (.tuple (a.2.map .int)) (.tuple (b.2.map .int)) = some (.list ((prs a b 0).map prD)) := by
    unfold gListZip
    simp only
    rw [if_pos (by rw [List.length_map]; exact hal), zpD_prs ha hb h]
  have hc : ((a.1.toNat : Nat) : Int) = a.1 := Int.toNat_of_nonneg ha.rng.1
  have hll := labs_len m a.1.toNat
  generalize labs m a.1.toNat = L at *
  generalize rank m a.1.toNat = R at *
  rw [hc] at hm
  have e1 : g_alike_made_1 [some (mpD a), some (mpD b), none, none] = some (.nx [some (mpD a), some (mpD b), some (.int (R : Nat)), some (.list (L.map .int))]) := by
    simp only [g_alike_made_1, gAsg, fCall, fCons, fNil, f2, fVar, fC, List.getElem?_cons_zero, List.getElem?_cons_succ, Option.bind_some, gIx_m0, gIx_m1, hz, hm]
    rfl
  have e2 : g_alike_made_2 [some (mpD a), some (mpD b), some (.int (R : Nat)), some (.list (L.map .int))] = some (.ret (mpD ((R : Nat), L))) := by
    have s1 : L.length ≤ 1000000 := by omega
    simp [g_alike_made_2, mpD, mapD, s1]
  have e : g_alike_made [some (mpD a), some (mpD b), none, none] = some (.ret (mpD ((R : Nat), L))) := by
    unfold g_alike_made
    rw [blk_nx e0, blk_nx e1, e2]
  exact def_ret rfl e
theorem alike_same {a b : Mp} (ha : Wf a) (hb : Wf b) (h1 : a.1 = b.1) (h : b.2.length = a.2.length) {m : Nat → Nat} (hm : Ho a.1.toNat (prs a b 0) m) : thn a ((rank m a.1.toNat : Nat), labs m a.1.toNat) = thn b ((rank m a.1.toNat : Nat), labs m a.1.toNat) := by
  refine row_ext rfl (by rw [thn_len, thn_len]; exact h.symm) fun i hi => ?_
  rw [thn_len] at hi
  have g1 := getD_lt ha hi
  have g2 := getD_lt hb (i := i) (by omega)
  rw [thn_get hi, thn_get (by omega)]
  show (labs m a.1.toNat).getD _ 0 = (labs m a.1.toNat).getD _ 0
  rw [labs_get (by omega), labs_get (by omega)]
  unfold lab
  rw [prs_eq hm hi, Nat.zero_add]
abbrev sMap : PyData := .str (PySem.Str.ofString "map")
theorem ne_mm : gEq true sMap sMap = some (.bool false) := by
  have h : PyData.canLay0 sMap = true := by decide +kernel
  rw [gEq_str true h h]
  rfl
theorem through_ok {n A : Nat} {ps : List (Nat × Nat)} {m : Nat → Nat} (hm : Ho n ps m) (hn : n ≤ 60) (hA : A ≤ n) (c : Int) : phi__law_through_right [mpD (J1 m n A), mpD (J2 m n A), .int c] = some (.ok (.bool true)) := by
  have hx := mix_lt (c := c) (p := 9883) (m := 5) (by omega)
  have ex := mix_eq (c := c) (p := 9883) (m := 5) (by omega) (by omega)
  generalize c * 48271 % 9883 % 5 = x at hx ex
  have hr := rank_le m n
  obtain ⟨a, wa, t1, l1, f1, e1⟩ := mp_eq (c := c) (many := (rank m n : Nat)) (to := 1 + x) ⟨by omega, by omega⟩ ⟨by omega, by omega⟩
  have hal : a.2.length = rank m n := by have := f1 (by omega); omega
  have w1 := J1_wf (A := A) hm hn
  have w2 := J2_wf (A := A) hm hn
  have f1' : (J1 m n A).1 = (a.2.length : Nat) := by show ((rank m n : Nat) : Int) = _; omega
  have f2' : (J2 m n A).1 = (a.2.length : Nat) := by show ((rank m n : Nat) : Int) = _; omega
  have t1' := lthen_ok w1 wa f1'
  have t2' := lthen_ok w2 wa f2'
  have v1 := w1.thn wa f1'
  have v2 := w2.thn wa f2'
  have n1 : (J1 m n A).2.length = A := J1_len hA
  have n2 : (J2 m n A).2.length = n - A := J2_len
  have s1 := stacked_ok v1 v2 rfl
  have s2 := stacked_ok w1 w2 rfl
  have u1 : Wf (stk (thn (J1 m n A) a) (thn (J2 m n A) a)) := stk_wf v1 v2 rfl (by rw [thn_len, thn_len]; omega)
  have u2 : Wf (stk (J1 m n A) (J2 m n A)) := stk_wf w1 w2 rfl (by omega)
  have hrow : stk (thn (J1 m n A) a) (thn (J2 m n A) a) = thn (stk (J1 m n A) (J2 m n A)) a := by
    unfold stk DL.thn
    rw [List.map_append]
  rw [hrow] at s1 u1
  have hJ := stk_J m n A
  have hcm := comes_eq (a := stk (J1 m n A) (J2 m n A)) (by have := u2.len; exact this)
  have hcd : decide (((sset (stk (J1 m n A) (J2 m n A)).2).length : Int) = (stk (J1 m n A) (J2 m n A)).1) = true := by
    rw [hJ]
    show decide (((sset (labs m n)).length : Int) = ((rank m n : Nat) : Int)) = true
    rw [labs_sset hm, idr_len]
    exact decide_eq_true rfl
  rw [hcd] at hcm
  have hbe := behind_eq u1 u2 (thn_len _ _)
  have hsl : (stk (J1 m n A) (J2 m n A)).2.length = n := by rw [hJ]; exact labs_len m n
  have hget : ∀ i, i < n → (stk (J1 m n A) (J2 m n A)).2.getD i 0 = ((lab m i : Nat) : Int) := fun i hi => by
    rw [hJ]
    exact labs_get hi
  have hto : (stk (J1 m n A) (J2 m n A)).1 = ((rank m n : Nat) : Int) := rfl
  have hthn : ∀ i, i < n → (thn (stk (J1 m n A) (J2 m n A)) a).2.getD i 0 = a.2.getD (lab m i) 0 := fun i hi => by
    rw [thn_get (by omega), hget i hi, Int.toNat_natCast]
  have hres : phi_behind [mpD (thn (stk (J1 m n A) (J2 m n A)) a), mpD (stk (J1 m n A) (J2 m n A))] = some (.ok (.tuple [sMap, mpD a])) := by
    rcases hbe with ⟨_, _, r, hr1, _, hr3, e⟩ | ⟨_, ⟨z, _⟩, _⟩ | ⟨k, l, h1, h2, h3, h4, _⟩
    · have : ((thn (stk (J1 m n A) (J2 m n A)) a).1, r) = a := by
        refine row_ext rfl (by show r.length = _; rw [hr1, hto, Int.toNat_natCast, hal]) fun v hv => ?_
        have hv : v < rank m n := by rw [hr1, hto, Int.toNat_natCast] at hv; exact hv
        obtain ⟨k, k1, k2, k3⟩ := rank_sur (n := n) (ps := ps) (m := m) n hv
        have hk := hr3 k (by rw [thn_len]; omega)
        have hlab : lab m k = v := by unfold lab; rw [k2, k3]
        rw [hget k k1, hthn k k1, hlab, Int.toNat_natCast] at hk
        exact hk
      rw [this] at e
      exact e
    · have z : a.1 = 0 := z
      omega
    · rw [thn_len] at h2
      rw [hsl] at h2
      rw [hget k (by omega), hget l h2] at h3
      rw [hthn k (by omega), hthn l h2] at h4
      exact absurd (by rw [show lab m k = lab m l by omega]) h4
  generalize hP : J1 m n A = P at *
  generalize hQ : J2 m n A = Q at *
  have hp1 : P.1 = ((rank m n : Nat) : Int) := by rw [← hP]; rfl
  generalize rank m n = R at *
  generalize thn P a = Pa at *
  generalize thn Q a = Qa at *
  generalize hS : stk P Q = S at *
  generalize stk Pa Qa = Sa at *
  generalize thn S a = SA at *
  have q : g__law_through_right [some (mpD P), some (mpD Q), some (.int c), none, none, none, none] = some (.ret (.bool true)) := by
    have a0 : g__law_through_right_0 [some (mpD P), some (mpD Q), some (.int c), none, none, none, none] = some (.nx [some (mpD P), some (mpD Q), some (.int c), some (mpD a), none, none, none]) := by
      simp [g__law_through_right_0, ex, hp1, e1]
    have a1 : g__law_through_right_1 [some (mpD P), some (mpD Q), some (.int c), some (mpD a), none, none, none] = some (.nx [some (mpD P), some (mpD Q), some (.int c), some (mpD a), some (mpD Pa), none, none]) := by
      simp [g__law_through_right_1, t1']
    have a2 : g__law_through_right_2 [some (mpD P), some (mpD Q), some (.int c), some (mpD a), some (mpD Pa), none, none] = some (.nx [some (mpD P), some (mpD Q), some (.int c), some (mpD a), some (mpD Pa), some (mpD Qa), none]) := by
      simp [g__law_through_right_2, t2']
    have a3 : g__law_through_right_3 [some (mpD P), some (mpD Q), some (.int c), some (mpD a), some (mpD Pa), some (mpD Qa), none] = some (.nx [some (mpD P), some (mpD Q), some (.int c), some (mpD a), some (mpD Pa), some (mpD Qa), some (.tuple [sMap, mpD a])]) := by
      simp [g__law_through_right_3, s1, s2, hres]
    have a4 : g__law_through_right_4 [some (mpD P), some (mpD Q), some (.int c), some (mpD a), some (mpD Pa), some (mpD Qa), some (.tuple [sMap, mpD a])] = some (.nx [some (mpD P), some (mpD Q), some (.int c), some (mpD a), some (mpD Pa), some (mpD Qa), some (.tuple [sMap, mpD a])]) := by
      simp [g__law_through_right_4, ne_mm, s2, hcm]
    unfold g__law_through_right
    rw [blk_nx a0, blk_nx a1, blk_nx a2, blk_nx a3, blk_nx a4]
    simp [g__law_through_right_5]
  exact def_ret rfl q
theorem refused0 {a b : Mp} (h : a.2.length ≠ b.2.length) : phi__law_refused [.int 0, mpD a, mpD b] = some (.ok (.bool true)) := by
  simp [phi__law_refused, g__law_refused, g__law_refused_0, g__law_refused_1, g__law_refused_1y0, g__law_refused_1y0t0, g__law_refused_1x0, g__law_refused_2, joined_no h]
theorem refused1 {a b : Mp} (h : a.1 ≠ b.1) : phi__law_refused [.int 1, mpD a, mpD b] = some (.ok (.bool true)) := by
  simp [phi__law_refused, g__law_refused, g__law_refused_0, g__law_refused_1, g__law_refused_1y0, g__law_refused_1y0e0, g__law_refused_1x0, g__law_refused_2, alike_no h]
abbrev lawRho (S : PyData) (o1 o2 o3 o4 o5 o6 o7 o8 o9 o10 o11 o12 o13 o14 o15 o16 : Option PyData) : Rho := [some S, o1, o2, o3, o4, o5, o6, o7, o8, o9, o10, o11, o12, o13, o14, o15, o16]
def Pl (S : PyData) (ρ : Rho) : Prop := ∃ o1 o2 o3 o4 o5 o6 o7 o8 o9 o10 o11 o12 o13 o14 o15 o16, ρ = lawRho S o1 o2 o3 o4 o5 o6 o7 o8 o9 o10 o11 o12 o13 o14 o15 o16
def m5 (x : Int) : Int := if x < 5 then x else 5
theorem m5_le {x : Int} (h : 0 ≤ x ∧ x < 7) : 0 ≤ m5 x ∧ m5 x ≤ 5 := by
  unfold m5
  split <;> omega
theorem body_ok (ns : List Int) (hl : ns.length ≤ 63) (k : Nat) (hk : k < 3) (o2 o3 o4 o5 o6 o7 o8 o9 o10 o11 o12 o13 o14 o15 o16 : Option PyData) :
    Good (Pl (.dict (scrK ns))) g_law_0b (lawRho (.dict (scrK ns)) (some (.int k)) o2 o3 o4 o5 o6 o7 o8 o9 o10 o11 o12 o13 o14 o15 o16) := by
  obtain ⟨a, b, c, d, ha, hb, hc, hd, hs⟩ := sizes_eq ns k hl
  have ha := m5_le ha
  have hb := m5_le hb
  have hc := m5_le hc
  have c1 := cell_at ns (4 + k) hl (i := 4 + k) (by omega)
  have c2 := cell_at ns (8 + k) hl (i := 8 + k) (by omega)
  have c3 := cell_at ns (12 + k) hl (i := 12 + k) (by omega)
  have c4 := cell_at ns (16 + k) hl (i := 16 + k) (by omega)
  obtain ⟨m1, w1, t1, l1, f1, e1⟩ := mp_eq (c := ns.getD (4 + k) 0) (many := m5 a) (to := m5 b) ⟨ha.1, by omega⟩ ⟨hb.1, by omega⟩
  obtain ⟨m2, w2, t2, l2, f2, e2⟩ := mp_eq (c := ns.getD (8 + k) 0) (many := (m1.2.length : Nat)) (to := m5 c) ⟨by omega, by omega⟩ ⟨hc.1, by omega⟩
  obtain ⟨m4, w4, t4, l4, f4, e4⟩ := mp_eq (c := ns.getD (16 + k) 0) (many := (m1.2.length : Nat)) (to := m1.1) ⟨by omega, by omega⟩ ⟨by omega, by omega⟩
  have hlen4 : m4.2.length = m1.2.length := by
    by_cases z : 0 < m1.1
    · have := f4 z; omega
    · have : m1.2.length = 0 := by
        by_cases h0 : m1.2.length = 0
        · exact h0
        · have := getD_lt w1 (i := 0) (by omega)
          omega
      omega
  generalize ns.getD (4 + k) 0 = n1 at c1 e1
  generalize ns.getD (8 + k) 0 = n2 at c2 e2
  generalize ns.getD (12 + k) 0 = n3 at c3
  generalize ns.getD (16 + k) 0 = n4 at c4 e4
  generalize hS : PyData.dict (scrK ns) = S at hs c1 c2 c3 c4
  unfold g_law_0b
  have q0 := lc_sqI (vs := [13]) (j := 13) (fs := fCall phi__law_sizes (fCons (fVar 0) (fCons (fVar 1) fNil))) (f := fBi gMin2 (fCons (fC (.int 5)) (fCons (fVar 13) fNil))) (ρ := lawRho S (some (.int k)) o2 o3 o4 o5 o6 o7 o8 o9 o10 o11 o12 o13 o14 o15 o16) (l := [a, b, c, d]) (g := m5) (d := .list [.int a, .int b, .int c, .int d]) (by simp [hs]) rfl (by show 4 ≤ 1000000; decide) (fun x _ => by simp [m5])
  refine Good.step (ρ1 := lawRho S (some (.int k)) o2 o3 o4 o5 (some (.int (m5 a))) (some (.int (m5 b))) (some (.int (m5 c))) (some (.int (m5 d))) o10 o11 o12 o13 o14 o15 o16) (by
    unfold g_law_0b0 gAsg
    rw [fFr_of q0]
    rfl) ?_
  refine Good.step (ρ1 := lawRho S (some (.int k)) (some (mpD m1)) o3 o4 o5 (some (.int (m5 a))) (some (.int (m5 b))) (some (.int (m5 c))) (some (.int (m5 d))) o10 o11 o12 o13 o14 o15 o16) (by simp [g_law_0b1, c1, e1]) ?_
  refine Good.step (ρ1 := lawRho S (some (.int k)) (some (mpD m1)) (some (mpD m2)) o4 o5 (some (.int (m5 a))) (some (.int (m5 b))) (some (.int (m5 c))) (some (.int (m5 d))) o10 o11 o12 o13 o14 o15 o16) (by simp [g_law_0b2, c2, e2]) ?_
  generalize some (PyData.int (m5 a)) = p6
  generalize some (PyData.int (m5 b)) = p7
  generalize some (PyData.int (m5 c)) = p8
  generalize some (PyData.int (m5 d)) = p9
  have E3 : ∃ q10 q11 q12 q14 q15, g_law_0b3 (lawRho S (some (.int k)) (some (mpD m1)) (some (mpD m2)) o4 o5 p6 p7 p8 p9 o10 o11 o12 o13 o14 o15 o16) = some (.nx (lawRho S (some (.int k)) (some (mpD m1)) (some (mpD m2)) o4 o5 p6 p7 p8 p9 q10 q11 q12 o13 q14 q15 o16)) := by
    by_cases hq : m2.2.length = m1.2.length
    · have hq' : (m2.2.length : Int) = m1.2.length := by omega
      have hr1 := w1.rng
      have hr2 := w2.rng
      obtain ⟨M, hM, hme⟩ := homes_of_eq (n := m1.1.toNat + m2.1.toNat) (by omega) (prs_lt w1 w2 hq m1.1.toNat (n := m1.1.toNat + m2.1.toNat) (by omega) (by omega))
      have lhm := lhomes_eq hM (by omega) (prs_lt w1 w2 hq m1.1.toNat (n := m1.1.toNat + m2.1.toNat) (by omega) (by omega)) (by rw [prs_len]; omega)
      have jo := joined_ok w1 w2 hq (by omega) hme
      have js := join_same w1 w2 hq hM
      have th := through_ok hM (by omega) (A := m1.1.toNat) (by omega) n3
      have wj1 := J1_wf (A := m1.1.toNat) hM (by omega)
      have wj2 := J2_wf (A := m1.1.toNat) hM (by omega)
      have tj1 := then_ok w1 wj1 (by rw [J1_len (by omega)]; omega)
      have tj2 := then_ok w2 wj2 (by rw [J2_len]; omega)
      rw [js] at tj1
      have q := prs_row w1 w2 hq (ρ := lawRho S (some (.int k)) (some (mpD m1)) (some (mpD m2)) o4 o5 p6 p7 p8 p9 o10 o11 o12 o13 o14 o15 o16) (j := 16) (i1 := 2) (i2 := 3) (vs := [16]) rfl rfl (by decide) (by decide) (by simp) (by simp)
      have hsum : gAdd (.int m1.1) (.int m2.1) = some (.int ((m1.1.toNat + m2.1.toNat : Nat) : Int)) := by
        show some (PyData.int (m1.1 + m2.1)) = _
        congr 2
        omega
      have hJ1 : mpD (J1 M (m1.1.toNat + m2.1.toNat) m1.1.toNat) = .tuple [.int (rank M (m1.1.toNat + m2.1.toNat) : Nat), .tuple (((labs M (m1.1.toNat + m2.1.toNat)).map .int).take m1.1.toNat)] := by
        unfold J1 mpD mapD
        rw [List.map_take]
      have hJ2 : mpD (J2 M (m1.1.toNat + m2.1.toNat) m1.1.toNat) = .tuple [.int (rank M (m1.1.toNat + m2.1.toNat) : Nat), .tuple (((labs M (m1.1.toNat + m2.1.toNat)).map .int).drop m1.1.toNat)] := by
        unfold J2 mpD mapD
        rw [List.map_drop]
      have g1 := gEq_map true (J1 M (m1.1.toNat + m2.1.toNat) m1.1.toNat) (J1 M (m1.1.toNat + m2.1.toNat) m1.1.toNat)
      have g2 := gEq_map true (J2 M (m1.1.toNat + m2.1.toNat) m1.1.toNat) (J2 M (m1.1.toNat + m2.1.toNat) m1.1.toNat)
      rw [decide_eq_true rfl] at g1 g2
      have cc1 := cutA_to ((labs M (m1.1.toNat + m2.1.toNat)).map PyData.int) (k := m1.1) hr1.1
      have cc2 := cutA_from ((labs M (m1.1.toNat + m2.1.toNat)).map PyData.int) (k := m1.1) hr1.1
      have hll := labs_len M (m1.1.toNat + m2.1.toNat)
      have s2 : (((labs M (m1.1.toNat + m2.1.toNat)).map PyData.int).take m1.1.toNat).length ≤ 1000000 := by rw [List.length_take, List.length_map]; omega
      have s3 : (((labs M (m1.1.toNat + m2.1.toNat)).map PyData.int).drop m1.1.toNat).length ≤ 1000000 := by rw [List.length_drop, List.length_map]; omega
      generalize J1 M (m1.1.toNat + m2.1.toNat) m1.1.toNat = A1 at *
      generalize J2 M (m1.1.toNat + m2.1.toNat) m1.1.toNat = A2 at *
      generalize (labs M (m1.1.toNat + m2.1.toNat)).map PyData.int = L at *
      generalize rank M (m1.1.toNat + m2.1.toNat) = R at *
      generalize ((m1.1.toNat + m2.1.toNat : Nat) : Int) = N at *
      generalize (prs m1 m2 m1.1.toNat).map prD = PR at *
      generalize DL.thn m2 A2 = Y at *
      refine ⟨some (.list PR), some (.int (R : Nat)), some (.list L), some (mpD A1), some (mpD A2), ?_⟩
      have b0 : g_law_0b3 (lawRho S (some (.int k)) (some (mpD m1)) (some (mpD m2)) o4 o5 p6 p7 p8 p9 o10 o11 o12 o13 o14 o15 o16) = g_law_0b3t (lawRho S (some (.int k)) (some (mpD m1)) (some (mpD m2)) o4 o5 p6 p7 p8 p9 o10 o11 o12 o13 o14 o15 o16) := by
        unfold g_law_0b3
        exact if_t (by simp [hq'])
      have b1 : g_law_0b3t0 (lawRho S (some (.int k)) (some (mpD m1)) (some (mpD m2)) o4 o5 p6 p7 p8 p9 o10 o11 o12 o13 o14 o15 o16) = some (.nx (lawRho S (some (.int k)) (some (mpD m1)) (some (mpD m2)) o4 o5 p6 p7 p8 p9 (some (.list PR)) o11 o12 o13 o14 o15 o16)) := by
        unfold g_law_0b3t0 gAsg
        rw [fFr_of q]
        rfl
      have b2 : g_law_0b3t1 (lawRho S (some (.int k)) (some (mpD m1)) (some (mpD m2)) o4 o5 p6 p7 p8 p9 (some (.list PR)) o11 o12 o13 o14 o15 o16) = some (.nx (lawRho S (some (.int k)) (some (mpD m1)) (some (mpD m2)) o4 o5 p6 p7 p8 p9 (some (.list PR)) (some (.int (R : Nat))) (some (.list L)) o13 o14 o15 o16)) := by
        simp only [g_law_0b3t1, gAsg, fCall, fCons, fNil, DL.f2, fVar, fC, List.getElem?_cons_zero, List.getElem?_cons_succ, Option.bind_some, gIx_m0, hsum, lhm]
        rfl
      have b3 : g_law_0b3t2 (lawRho S (some (.int k)) (some (mpD m1)) (some (mpD m2)) o4 o5 p6 p7 p8 p9 (some (.list PR)) (some (.int (R : Nat))) (some (.list L)) o13 o14 o15 o16) = some (.nx (lawRho S (some (.int k)) (some (mpD m1)) (some (mpD m2)) o4 o5 p6 p7 p8 p9 (some (.list PR)) (some (.int (R : Nat))) (some (.list L)) o13 (some (mpD A1)) (some (mpD A2)) o16)) := by
        simp only [g_law_0b3t2, gAsg, fCall, fCons, fNil, fVar, List.getElem?_cons_zero, List.getElem?_cons_succ, Option.bind_some, jo]
        rfl
      have b4 : g_law_0b3t3 (lawRho S (some (.int k)) (some (mpD m1)) (some (mpD m2)) o4 o5 p6 p7 p8 p9 (some (.list PR)) (some (.int (R : Nat))) (some (.list L)) o13 (some (mpD A1)) (some (mpD A2)) o16) = some (.nx (lawRho S (some (.int k)) (some (mpD m1)) (some (mpD m2)) o4 o5 p6 p7 p8 p9 (some (.list PR)) (some (.int (R : Nat))) (some (.list L)) o13 (some (mpD A1)) (some (mpD A2)) o16)) := by
        unfold g_law_0b3t3
        refine if_f ?_
        rw [hJ1] at g1
        rw [hJ2] at g2
        rw [hJ1, hJ2]
        simp only [bOr, fB, DL.f2, fTup, fCons, fNil, fBi, fSl, pNone, pSome, fVar, fC, List.getElem?_cons_zero, List.getElem?_cons_succ, Option.bind_some, gIx_m0, gSl, cc1, cc2, gTuple, if_pos s2, if_pos s3]
        rw [if_pos (by show 2 ≤ 1000000; decide), if_pos (by show 2 ≤ 1000000; decide)]
        simp only [Option.bind_some, g1, g2]
        rfl
      have b5 : g_law_0b3t4 (lawRho S (some (.int k)) (some (mpD m1)) (some (mpD m2)) o4 o5 p6 p7 p8 p9 (some (.list PR)) (some (.int (R : Nat))) (some (.list L)) o13 (some (mpD A1)) (some (mpD A2)) o16) = some (.nx (lawRho S (some (.int k)) (some (mpD m1)) (some (mpD m2)) o4 o5 p6 p7 p8 p9 (some (.list PR)) (some (.int (R : Nat))) (some (.list L)) o13 (some (mpD A1)) (some (mpD A2)) o16)) := by
        unfold g_law_0b3t4
        refine if_f ?_
        simp only [fB, DL.f2, fCall, fCons, fNil, fVar, List.getElem?_cons_zero, List.getElem?_cons_succ, Option.bind_some, tj1, tj2, gEq_map, decide_true]
        rfl
      have b6 : g_law_0b3t5 (lawRho S (some (.int k)) (some (mpD m1)) (some (mpD m2)) o4 o5 p6 p7 p8 p9 (some (.list PR)) (some (.int (R : Nat))) (some (.list L)) o13 (some (mpD A1)) (some (mpD A2)) o16) = some (.nx (lawRho S (some (.int k)) (some (mpD m1)) (some (mpD m2)) o4 o5 p6 p7 p8 p9 (some (.list PR)) (some (.int (R : Nat))) (some (.list L)) o13 (some (mpD A1)) (some (mpD A2)) o16)) := by
        unfold g_law_0b3t5
        refine if_f ?_
        simp [c3, th]
      rw [b0]
      unfold g_law_0b3t
      rw [blk_nx b1, blk_nx b2, blk_nx b3, blk_nx b4, blk_nx b5, b6]
    · have hq' : ¬ (m2.2.length : Int) = m1.2.length := by omega
      refine ⟨o10, o11, o12, o14, o15, ?_⟩
      unfold g_law_0b3
      rw [if_f (by simp [hq'])]
      rfl
  obtain ⟨q10, q11, q12, q14, q15, E3⟩ := E3
  refine Good.step E3 ?_
  refine Good.step (ρ1 := lawRho S (some (.int k)) (some (mpD m1)) (some (mpD m2)) (some (mpD m4)) o5 p6 p7 p8 p9 q10 q11 q12 o13 q14 q15 o16) (by simp [g_law_0b4, c4, e4]) ?_
  have hr1 := w1.rng
  obtain ⟨M, hM, hme⟩ := homes_of_eq (n := m1.1.toNat) (by omega) (prs_lt w1 w4 hlen4 0 (n := m1.1.toNat) (by omega) (by omega))
  have lhm := lhomes_eq hM (by omega) (prs_lt w1 w4 hlen4 0 (n := m1.1.toNat) (by omega) (by omega)) (by rw [prs_len]; omega)
  have al := alike_ok w1 w4 t4.symm hlen4 (by omega) hme
  have as := alike_same w1 w4 t4.symm hlen4 hM
  have wal : Wf (((rank M m1.1.toNat : Nat) : Int), labs M m1.1.toNat) := ⟨by show (labs M m1.1.toNat).length ≤ 1000; rw [labs_len]; omega, by have := rank_le M m1.1.toNat; show (0 : Int) ≤ (rank M m1.1.toNat : Nat) ∧ ((rank M m1.1.toNat : Nat) : Int) ≤ 1000; omega, labs_lt hM⟩
  have ta1 := then_ok w1 wal (by show m1.1 = ((labs M m1.1.toNat).length : Nat); rw [labs_len]; omega)
  have ta2 := then_ok w4 wal (by show m4.1 = ((labs M m1.1.toNat).length : Nat); rw [labs_len]; omega)
  rw [as] at ta1
  have hll := labs_len M m1.1.toNat
  have hto : ((m1.1.toNat : Nat) : Int) = m1.1 := Int.toNat_of_nonneg hr1.1
  rw [hto] at lhm
  have hD : mpD (((rank M m1.1.toNat : Nat) : Int), labs M m1.1.toNat) = .tuple [.int (rank M m1.1.toNat : Nat), .tuple ((labs M m1.1.toNat).map .int)] := rfl
  have gq := gEq_map true (((rank M m1.1.toNat : Nat) : Int), labs M m1.1.toNat) (((rank M m1.1.toNat : Nat) : Int), labs M m1.1.toNat)
  rw [decide_eq_true rfl] at gq
  have s2 : ((labs M m1.1.toNat).map PyData.int).length ≤ 1000000 := by rw [List.length_map]; omega
  have hwl := w1.len
  have q5 := lc_rg (vs := [16]) (j := 16) (fn := fBi gLen (fCons (DL.f2 gIx (fVar 2) (fC (.int 1))) fNil)) (f := fTup (fCons (DL.f2 gIx (DL.f2 gIx (fVar 2) (fC (.int 1))) (fVar 16)) (fCons (DL.f2 gIx (DL.f2 gIx (fVar 4) (fC (.int 1))) (fVar 16)) fNil))) (ρ := lawRho S (some (.int k)) (some (mpD m1)) (some (mpD m2)) (some (mpD m4)) o5 p6 p7 p8 p9 q10 q11 q12 o13 q14 q15 o16)
    (n := (m1.2.length : Nat)) (g := fun i => prD ((m1.2.getD i 0).toNat, 0 + (m4.2.getD i 0).toNat)) (by simp) (by omega) (fun i hi => by
      have hi : i < m1.2.length := by omega
      have g1 := getD_lt w1 hi
      have g2 := getD_lt w4 (i := i) (by omega)
      have a1 := ix_row (m := m1) hi
      have b1 := ix_row (m := m4) (i := i) (by omega)
      have x1 : (((m1.2.getD i 0).toNat : Nat) : Int) = m1.2.getD i 0 := Int.toNat_of_nonneg g1.1
      have x2 : (((0 + (m4.2.getD i 0).toNat : Nat)) : Int) = m4.2.getD i 0 := by omega
      unfold prD
      rw [x1, x2]
      simp [a1, b1, -gIx_tuple, -List.getD_eq_getElem?_getD])
  have hpr : (List.range (((m1.2.length : Nat) : Int)).toNat).map (fun i => prD ((m1.2.getD i 0).toNat, 0 + (m4.2.getD i 0).toNat)) = (prs m1 m4 0).map prD := by
    unfold prs
    rw [List.map_map, Int.toNat_natCast]
    rfl
  rw [hpr] at q5
  generalize (prs m1 m4 0).map prD = PR at *
  generalize labs M m1.1.toNat = L at *
  generalize rank M m1.1.toNat = R at *
  generalize DL.thn m4 (((R : Nat) : Int), L) = Y at *
  refine Good.step (ρ1 := lawRho S (some (.int k)) (some (mpD m1)) (some (mpD m2)) (some (mpD m4)) o5 p6 p7 p8 p9 q10 (some (.int (R : Nat))) (some (.list (L.map .int))) o13 q14 q15 o16) (by
    have w := fFr_of q5
    simp only [g_law_0b5, gAsg, fCall, fCons, fNil, w, Option.bind_some]
    simp only [DL.f2, fVar, fC, List.getElem?_cons_zero, List.getElem?_cons_succ, Option.bind_some, gIx_m0, lhm]
    rfl) ?_
  refine Good.step (ρ1 := lawRho S (some (.int k)) (some (mpD m1)) (some (mpD m2)) (some (mpD m4)) (some (mpD (((R : Nat) : Int), L))) p6 p7 p8 p9 q10 (some (.int (R : Nat))) (some (.list (L.map .int))) o13 q14 q15 o16) (by simp [g_law_0b6, al]) ?_
  refine Good.step (ρ1 := lawRho S (some (.int k)) (some (mpD m1)) (some (mpD m2)) (some (mpD m4)) (some (mpD (((R : Nat) : Int), L))) p6 p7 p8 p9 q10 (some (.int (R : Nat))) (some (.list (L.map .int))) o13 q14 q15 o16) (by
    unfold g_law_0b7
    refine if_f ?_
    simp only [bOr, fB, DL.f2, fTup, fCons, fNil, fBi, fCall, fVar, List.getElem?_cons_zero, List.getElem?_cons_succ, Option.bind_some, gTuple, if_pos s2, ta1, ta2]
    rw [if_pos (by show 2 ≤ 1000000; decide), Option.bind_some, ← hD, gq]
    simp) ?_
  generalize some (mpD (((R : Nat) : Int), L)) = p5
  generalize some (PyData.int (R : Nat)) = p11
  generalize some (PyData.list (L.map .int)) = p12
  have x0 := refused0 (a := m1) (b := (1, List.replicate (m1.2.length + 1) 0)) (by simp)
  have x1 := refused1 (a := m1) (b := (m1.1 + 1, List.replicate m1.2.length 0)) (by show m1.1 ≠ m1.1 + 1; omega)
  have hrep : -1000 ≤ (m1.2.length : Int) + 1 ∧ (m1.2.length : Int) + 1 ≤ 1000 := by omega
  have hrep2 : -1000 ≤ (m1.2.length : Int) ∧ (m1.2.length : Int) ≤ 1000 := by omega
  have hto2 : ((m1.2.length : Int) + 1).toNat = m1.2.length + 1 := by omega
  have hD0 : mpD (1, List.replicate (m1.2.length + 1) 0) = .tuple [.int 1, .tuple (List.replicate (m1.2.length + 1) (.int 0))] := by simp [mpD, mapD]
  have hD1 : mpD (m1.1 + 1, List.replicate m1.2.length 0) = .tuple [.int (m1.1 + 1), .tuple (List.replicate m1.2.length (.int 0))] := by simp [mpD, mapD]
  rw [hD0] at x0
  rw [hD1] at x1
  have hz2 : m1.2.length + 1 ≤ 1000000 := by omega
  have hz3 : m1.2.length ≤ 1000 := by omega
  refine Good.step (ρ1 := lawRho S (some (.int k)) (some (mpD m1)) (some (mpD m2)) (some (mpD m4)) p5 p6 p7 p8 p9 q10 p11 p12 o13 q14 q15 o16) (by simp [g_law_0b8, hrep, hto2, x0, hz2]) ?_
  refine Good.last (ρ1 := lawRho S (some (.int k)) (some (mpD m1)) (some (mpD m2)) (some (mpD m4)) p5 p6 p7 p8 p9 q10 p11 p12 o13 q14 q15 o16) (by simp [g_law_0b9, hrep2, hz3, x1]) ⟨_, _, _, _, _, _, _, _, _, _, _, _, _, _, _, _, rfl⟩
theorem law_plain (ns : List Int) (hl : ns.length ≤ 63) : phi_law [.dict (scrK ns)] = some (.ok (.bool true)) := by
  have e : Good (Pl (.dict (scrK ns))) g_law_0 (lawRho (.dict (scrK ns)) none none none none none none none none none none none none none none none none) := by
    unfold g_law_0
    refine Good.loop (ds := rgD 0 3) (by have hB : B62 3 := ⟨by decide, by decide⟩; simp [hB]) (fun x hx ρ hP => ?_) ⟨_, _, _, _, _, _, _, _, _, _, _, _, _, _, _, _, rfl⟩
    obtain ⟨o1, o2, o3, o4, o5, o6, o7, o8, o9, o10, o11, o12, o13, o14, o15, o16, rfl⟩ := hP
    obtain ⟨i, hi, rfl⟩ := rgD_mem hx
    rw [Int.zero_add]
    exact ⟨_, rfl, body_ok ns hl i hi o2 o3 o4 o5 o6 o7 o8 o9 o10 o11 o12 o13 o14 o15 o16⟩
  obtain ⟨ρ', h1, _⟩ := e
  refine def_ret rfl (?_ : g_law (lawRho (.dict (scrK ns)) none none none none none none none none none none none none none none none none) = _)
  unfold g_law
  rw [blk_nx h1]
  rfl
end Lw

namespace Lw
open PySem PySem.Spec PyProof.Rows L2 DL
theorem all_mk {l : PySem.W.OpenLaw} {w : World} {K : PySem.W.Frag} {h : Heap} {mg : Str → Option Value} {fa f0 f1 f2 f3 f4 f5 f6 f7 f8 f9 f10 f11 f12 f13 f14 f15 f16 e0 e2 : Addr} (X : K.In h) (G : h.Ns mainGlobals mg) (hfa : mg "law" = some (.ref fa))
    {od0 an0 od1 an1 od2 an2 od3 an3 od4 an4 od5 an5 od6 an6 od7 an7 od8 an8 od9 an9 od10 an10 od11 an11 od12 an12 od13 an13 od14 an14 od15 an15 od16 an16 : Option Addr} {sl0 sl1 sl2 sl3 sl4 sl5 sl6 sl7 sl8 sl9 sl10 sl11 sl12 sl13 sl14 sl15 sl16 : Array (Option Value)} {oc0 kV0 dc0 pm0 cd0 ct0 oc1 kV1 dc1 pm1 cd1 ct1 oc2 kV2 dc2 pm2 cd2 ct2 oc3 kV3 dc3 pm3 cd3 ct3 oc4 kV4 dc4 pm4 cd4 ct4 oc5 kV5 dc5 pm5 cd5 ct5 oc6 kV6 dc6 pm6 cd6 ct6 oc7 kV7 dc7 pm7 cd7 ct7 oc8 kV8 dc8 pm8 cd8 ct8 oc9 kV9 dc9 pm9 cd9 ct9 oc10 kV10 dc10 pm10 cd10 ct10 oc11 kV11 dc11 pm11 cd11 ct11 oc12 kV12 dc12 pm12 cd12 ct12 oc13 kV13 dc13 pm13 cd13 ct13 oc14 kV14 dc14 pm14 cd14 ct14 oc15 kV15 dc15 pm15 cd15 ct15 oc16 kV16 dc16 pm16 cd16 ct16 : Value}
    (a0 : PySem.W.nsIn K mainGlobals "must" = some (some (.ref f0))) (l0 : K.lookup f0 = some ⟨oc0, od0, .func (PySem.W.fnOf "must" "must" (defArgs s_must) (defBody s_must) (defScope s_must) .none kV0 dc0 pm0 an0 cd0 ct0), sl0⟩) (c0 : PySem.W.codeIn K cd0 "must" = true) (k0 : PySem.W.keepIn K (.ref f0) = true)
    (a1 : PySem.W.nsIn K mainGlobals "then" = some (some (.ref f1))) (l1 : K.lookup f1 = some ⟨oc1, od1, .func (PySem.W.fnOf "then" "then" (defArgs s_then) (defBody s_then) (defScope s_then) .none kV1 dc1 pm1 an1 cd1 ct1), sl1⟩) (c1 : PySem.W.codeIn K cd1 "then" = true) (k1 : PySem.W.keepIn K (.ref f1) = true)
    (a2 : PySem.W.nsIn K mainGlobals "comes_to_all" = some (some (.ref f2))) (l2 : K.lookup f2 = some ⟨oc2, od2, .func (PySem.W.fnOf "comes_to_all" "comes_to_all" (defArgs s_comes_to_all) (defBody s_comes_to_all) (defScope s_comes_to_all) .none kV2 dc2 pm2 an2 cd2 ct2), sl2⟩) (c2 : PySem.W.codeIn K cd2 "comes_to_all" = true) (k2 : PySem.W.keepIn K (.ref f2) = true)
    (a3 : PySem.W.nsIn K mainGlobals "homes_of" = some (some (.ref f3))) (l3 : K.lookup f3 = some ⟨oc3, od3, .func (PySem.W.fnOf "homes_of" "homes_of" (defArgs s_homes_of) (defBody s_homes_of) (defScope s_homes_of) .none kV3 dc3 pm3 an3 cd3 ct3), sl3⟩) (c3 : PySem.W.codeIn K cd3 "homes_of" = true) (k3 : PySem.W.keepIn K (.ref f3) = true)
    (a4 : PySem.W.nsIn K mainGlobals "joined" = some (some (.ref f4))) (l4 : K.lookup f4 = some ⟨oc4, od4, .func (PySem.W.fnOf "joined" "joined" (defArgs s_joined) (defBody s_joined) (defScope s_joined) .none kV4 dc4 pm4 an4 cd4 ct4), sl4⟩) (c4 : PySem.W.codeIn K cd4 "joined" = true) (k4 : PySem.W.keepIn K (.ref f4) = true)
    (a5 : PySem.W.nsIn K mainGlobals "alike_made" = some (some (.ref f5))) (l5 : K.lookup f5 = some ⟨oc5, od5, .func (PySem.W.fnOf "alike_made" "alike_made" (defArgs s_alike_made) (defBody s_alike_made) (defScope s_alike_made) .none kV5 dc5 pm5 an5 cd5 ct5), sl5⟩) (c5 : PySem.W.codeIn K cd5 "alike_made" = true) (k5 : PySem.W.keepIn K (.ref f5) = true)
    (a6 : PySem.W.nsIn K mainGlobals "stacked" = some (some (.ref f6))) (l6 : K.lookup f6 = some ⟨oc6, od6, .func (PySem.W.fnOf "stacked" "stacked" (defArgs s_stacked) (defBody s_stacked) (defScope s_stacked) .none kV6 dc6 pm6 an6 cd6 ct6), sl6⟩) (c6 : PySem.W.codeIn K cd6 "stacked" = true) (k6 : PySem.W.keepIn K (.ref f6) = true)
    (a7 : PySem.W.nsIn K mainGlobals "behind" = some (some (.ref f7))) (l7 : K.lookup f7 = some ⟨oc7, od7, .func (PySem.W.fnOf "behind" "behind" (defArgs s_behind) (defBody s_behind) (defScope s_behind) .none kV7 dc7 pm7 an7 cd7 ct7), sl7⟩) (c7 : PySem.W.codeIn K cd7 "behind" = true) (k7 : PySem.W.keepIn K (.ref f7) = true)
    (a8 : PySem.W.nsIn K mainGlobals "_law_cell" = some (some (.ref f8))) (l8 : K.lookup f8 = some ⟨oc8, od8, .func (PySem.W.fnOf "_law_cell" "_law_cell" (defArgs s__law_cell) (defBody s__law_cell) (defScope s__law_cell) .none kV8 dc8 pm8 an8 cd8 ct8), sl8⟩) (c8 : PySem.W.codeIn K cd8 "_law_cell" = true) (k8 : PySem.W.keepIn K (.ref f8) = true)
    (a9 : PySem.W.nsIn K mainGlobals "_law_mix" = some (some (.ref f9))) (l9 : K.lookup f9 = some ⟨oc9, od9, .func (PySem.W.fnOf "_law_mix" "_law_mix" (defArgs s__law_mix) (defBody s__law_mix) (defScope s__law_mix) .none kV9 dc9 pm9 an9 cd9 ct9), sl9⟩) (c9 : PySem.W.codeIn K cd9 "_law_mix" = true) (k9 : PySem.W.keepIn K (.ref f9) = true)
    (a10 : PySem.W.nsIn K mainGlobals "_law_map" = some (some (.ref f10))) (l10 : K.lookup f10 = some ⟨oc10, od10, .func (PySem.W.fnOf "_law_map" "_law_map" (defArgs s__law_map) (defBody s__law_map) (defScope s__law_map) .none kV10 dc10 pm10 an10 cd10 ct10), sl10⟩) (c10 : PySem.W.codeIn K cd10 "_law_map" = true) (k10 : PySem.W.keepIn K (.ref f10) = true)
    (a11 : PySem.W.nsIn K mainGlobals "_law_sizes" = some (some (.ref f11))) (l11 : K.lookup f11 = some ⟨oc11, od11, .func (PySem.W.fnOf "_law_sizes" "_law_sizes" (defArgs s__law_sizes) (defBody s__law_sizes) (defScope s__law_sizes) .none kV11 dc11 pm11 an11 cd11 ct11), sl11⟩) (c11 : PySem.W.codeIn K cd11 "_law_sizes" = true) (k11 : PySem.W.keepIn K (.ref f11) = true)
    (a12 : PySem.W.nsIn K mainGlobals "_law_then" = some (some (.ref f12))) (l12 : K.lookup f12 = some ⟨oc12, od12, .func (PySem.W.fnOf "_law_then" "_law_then" (defArgs s__law_then) (defBody s__law_then) (defScope s__law_then) .none kV12 dc12 pm12 an12 cd12 ct12), sl12⟩) (c12 : PySem.W.codeIn K cd12 "_law_then" = true) (k12 : PySem.W.keepIn K (.ref f12) = true)
    (a13 : PySem.W.nsIn K mainGlobals "_law_refused" = some (some (.ref f13))) (l13 : K.lookup f13 = some ⟨oc13, od13, .func (PySem.W.fnOf "_law_refused" "_law_refused" (defArgs s__law_refused) (defBody s__law_refused) (defScope s__law_refused) .none kV13 dc13 pm13 an13 cd13 ct13), sl13⟩) (c13 : PySem.W.codeIn K cd13 "_law_refused" = true) (k13 : PySem.W.keepIn K (.ref f13) = true)
    (a14 : PySem.W.nsIn K mainGlobals "_law_homes" = some (some (.ref f14))) (l14 : K.lookup f14 = some ⟨oc14, od14, .func (PySem.W.fnOf "_law_homes" "_law_homes" (defArgs s__law_homes) (defBody s__law_homes) (defScope s__law_homes) .none kV14 dc14 pm14 an14 cd14 ct14), sl14⟩) (c14 : PySem.W.codeIn K cd14 "_law_homes" = true) (k14 : PySem.W.keepIn K (.ref f14) = true)
    (a15 : PySem.W.nsIn K mainGlobals "_law_through_right" = some (some (.ref f15))) (l15 : K.lookup f15 = some ⟨oc15, od15, .func (PySem.W.fnOf "_law_through_right" "_law_through_right" (defArgs s__law_through_right) (defBody s__law_through_right) (defScope s__law_through_right) .none kV15 dc15 pm15 an15 cd15 ct15), sl15⟩) (c15 : PySem.W.codeIn K cd15 "_law_through_right" = true) (k15 : PySem.W.keepIn K (.ref f15) = true)
    (a16 : PySem.W.nsIn K mainGlobals "law" = some (some (.ref f16))) (l16 : K.lookup f16 = some ⟨oc16, od16, .func (PySem.W.fnOf "law" "law" (defArgs s_law) (defBody s_law) (defScope s_law) .none kV16 dc16 pm16 an16 cd16 ct16), sl16⟩) (c16 : PySem.W.codeIn K cd16 "law" = true) (k16 : PySem.W.keepIn K (.ref f16) = true)
    (z_enumerate : PySem.W.nsIn K mainGlobals "enumerate" = some none)
    (z_len : PySem.W.nsIn K mainGlobals "len" = some none)
    (z_list : PySem.W.nsIn K mainGlobals "list" = some none)
    (z_max : PySem.W.nsIn K mainGlobals "max" = some none)
    (z_min : PySem.W.nsIn K mainGlobals "min" = some none)
    (z_range : PySem.W.nsIn K mainGlobals "range" = some none)
    (z_set : PySem.W.nsIn K mainGlobals "set" = some none)
    (z_sorted : PySem.W.nsIn K mainGlobals "sorted" = some none)
    (z_tuple : PySem.W.nsIn K mainGlobals "tuple" = some none)
    (z_zip : PySem.W.nsIn K mainGlobals "zip" = some none)
    (zgC0_0 : PySem.W.nsIn K mainGlobals "MapError" = some (some (.ref e0)))
    (zx0_0 : PySem.W.excIn K (e0) [.type "ValueError", .type "Exception", .type "BaseException", .type "object"] "ValueError.__new__" = true)
    (zkC0_0 : PySem.W.keepIn K (.ref (e0)) = true)
    (zbC0_0 : PySem.W.subIn K (.ref (e0)) (.type "BaseException") = some true)
    (ztC0_0 : PySem.W.typeIn K (.ref (e0)) = some (.type "type"))
    (zgC2_0 : PySem.W.nsIn K mainGlobals "NoFit" = some (some (.ref e2)))
    (zx2_0 : PySem.W.excIn K (e2) [.type "ValueError", .type "Exception", .type "BaseException", .type "object"] "ValueError.__new__" = true)
    (zkC2_0 : PySem.W.keepIn K (.ref (e2)) = true)
    (zbC2_0 : PySem.W.subIn K (.ref (e2)) (.type "BaseException") = some true)
    (ztC2_0 : PySem.W.typeIn K (.ref (e2)) = some (.type "type"))
    (zexm22_0 : PySem.W.hasDictIn K e2 = true)
    (zexm22_1 : PySem.W.subIn K (.ref e2) (.ref e2) = some true)
    (hpl : ∀ ns : List Int, ns.length ≤ 63 → phi_law [.dict (scrK ns)] = some (.ok (.bool true))) :
    ∃ fd : FuncData, (∀ (s : Shared) (v : Value), BindsTo s fd ⟨[v], []⟩ [("_law_script", v)]) ∧ ∀ base : Heap, K.In base → base.Ns mainGlobals mg → FnOk l.prog w K mg base (L2.CX l.prog w) 4 fa fd ["_law_script"] (spLaw K) := by
  have e := hfa.symm.trans (PySem.W.mg_of X G a16)
  cases e
  have F0 := fun_mk (st := s_must) l0 c0 k0
  have F1 := fun_mk (st := s_then) l1 c1 k1
  have F2 := fun_mk (st := s_comes_to_all) l2 c2 k2
  have F3 := fun_mk (st := s_homes_of) l3 c3 k3
  have F4 := fun_mk (st := s_joined) l4 c4 k4
  have F5 := fun_mk (st := s_alike_made) l5 c5 k5
  have F6 := fun_mk (st := s_stacked) l6 c6 k6
  have F7 := fun_mk (st := s_behind) l7 c7 k7
  have F8 := fun_mk (st := s__law_cell) l8 c8 k8
  have F9 := fun_mk (st := s__law_mix) l9 c9 k9
  have F10 := fun_mk (st := s__law_map) l10 c10 k10
  have F11 := fun_mk (st := s__law_sizes) l11 c11 k11
  have F12 := fun_mk (st := s__law_then) l12 c12 k12
  have F13 := fun_mk (st := s__law_refused) l13 c13 k13
  have F14 := fun_mk (st := s__law_homes) l14 c14 k14
  have F15 := fun_mk (st := s__law_through_right) l15 c15 k15
  have F16 := fun_mk (st := s_law) l16 c16 k16
  have T : Txt K mg ⟨fun i => match i with | 0 => f0 | 1 => f1 | 2 => f2 | 3 => f3 | 4 => f4 | 5 => f5 | 6 => f6 | 7 => f7 | 8 => f8 | 9 => f9 | 10 => f10 | 11 => f11 | 12 => f12 | 13 => f13 | 14 => f14 | 15 => f15 | 16 => fa | _ => 0, fun i => match i with | 0 => PySem.W.fnOf "must" "must" (defArgs s_must) (defBody s_must) (defScope s_must) .none kV0 dc0 pm0 an0 cd0 ct0 | 1 => PySem.W.fnOf "then" "then" (defArgs s_then) (defBody s_then) (defScope s_then) .none kV1 dc1 pm1 an1 cd1 ct1 | 2 => PySem.W.fnOf "comes_to_all" "comes_to_all" (defArgs s_comes_to_all) (defBody s_comes_to_all) (defScope s_comes_to_all) .none kV2 dc2 pm2 an2 cd2 ct2 | 3 => PySem.W.fnOf "homes_of" "homes_of" (defArgs s_homes_of) (defBody s_homes_of) (defScope s_homes_of) .none kV3 dc3 pm3 an3 cd3 ct3 | 4 => PySem.W.fnOf "joined" "joined" (defArgs s_joined) (defBody s_joined) (defScope s_joined) .none kV4 dc4 pm4 an4 cd4 ct4 | 5 => PySem.W.fnOf "alike_made" "alike_made" (defArgs s_alike_made) (defBody s_alike_made) (defScope s_alike_made) .none kV5 dc5 pm5 an5 cd5 ct5 | 6 => PySem.W.fnOf "stacked" "stacked" (defArgs s_stacked) (defBody s_stacked) (defScope s_stacked) .none kV6 dc6 pm6 an6 cd6 ct6 | 7 => PySem.W.fnOf "behind" "behind" (defArgs s_behind) (defBody s_behind) (defScope s_behind) .none kV7 dc7 pm7 an7 cd7 ct7 | 8 => PySem.W.fnOf "_law_cell" "_law_cell" (defArgs s__law_cell) (defBody s__law_cell) (defScope s__law_cell) .none kV8 dc8 pm8 an8 cd8 ct8 | 9 => PySem.W.fnOf "_law_mix" "_law_mix" (defArgs s__law_mix) (defBody s__law_mix) (defScope s__law_mix) .none kV9 dc9 pm9 an9 cd9 ct9 | 10 => PySem.W.fnOf "_law_map" "_law_map" (defArgs s__law_map) (defBody s__law_map) (defScope s__law_map) .none kV10 dc10 pm10 an10 cd10 ct10 | 11 => PySem.W.fnOf "_law_sizes" "_law_sizes" (defArgs s__law_sizes) (defBody s__law_sizes) (defScope s__law_sizes) .none kV11 dc11 pm11 an11 cd11 ct11 | 12 => PySem.W.fnOf "_law_then" "_law_then" (defArgs s__law_then) (defBody s__law_then) (defScope s__law_then) .none kV12 dc12 pm12 an12 cd12 ct12 | 13 => PySem.W.fnOf "_law_refused" "_law_refused" (defArgs s__law_refused) (defBody s__law_refused) (defScope s__law_refused) .none kV13 dc13 pm13 an13 cd13 ct13 | 14 => PySem.W.fnOf "_law_homes" "_law_homes" (defArgs s__law_homes) (defBody s__law_homes) (defScope s__law_homes) .none kV14 dc14 pm14 an14 cd14 ct14 | 15 => PySem.W.fnOf "_law_through_right" "_law_through_right" (defArgs s__law_through_right) (defBody s__law_through_right) (defScope s__law_through_right) .none kV15 dc15 pm15 an15 cd15 ct15 | 16 => PySem.W.fnOf "law" "law" (defArgs s_law) (defBody s_law) (defScope s_law) .none kV16 dc16 pm16 an16 cd16 ct16 | _ => PySem.W.fnOf "law" "law" (defArgs s_law) (defBody s_law) (defScope s_law) .none kV16 dc16 pm16 an16 cd16 ct16, fun i => match i with | 0 => e0 | 2 => e2 | _ => 0⟩ := {
    F0 := F0, g0 := PySem.W.mg_of X G a0, b0 := F0.binds (ps := ["fits"]) fun _ _ _ _ _ _ us hl => match us, hl with | [_], _ => rfl,
    F1 := F1, g1 := PySem.W.mg_of X G a1, b1 := F1.binds (ps := ["one", "other"]) fun _ _ _ _ _ _ us hl => match us, hl with | [_, _], _ => rfl,
    F2 := F2, g2 := PySem.W.mg_of X G a2, b2 := F2.binds (ps := ["one"]) fun _ _ _ _ _ _ us hl => match us, hl with | [_], _ => rfl,
    F3 := F3, g3 := PySem.W.mg_of X G a3, b3 := F3.binds (ps := ["many", "pairs"]) fun _ _ _ _ _ _ us hl => match us, hl with | [_, _], _ => rfl,
    F4 := F4, g4 := PySem.W.mg_of X G a4, b4 := F4.binds (ps := ["one", "other"]) fun _ _ _ _ _ _ us hl => match us, hl with | [_, _], _ => rfl,
    F5 := F5, g5 := PySem.W.mg_of X G a5, b5 := F5.binds (ps := ["one", "other"]) fun _ _ _ _ _ _ us hl => match us, hl with | [_, _], _ => rfl,
    F6 := F6, g6 := PySem.W.mg_of X G a6, b6 := F6.binds (ps := ["first", "second"]) fun _ _ _ _ _ _ us hl => match us, hl with | [_, _], _ => rfl,
    F7 := F7, g7 := PySem.W.mg_of X G a7, b7 := F7.binds (ps := ["one", "other"]) fun _ _ _ _ _ _ us hl => match us, hl with | [_, _], _ => rfl,
    F8 := F8, g8 := PySem.W.mg_of X G a8, b8 := F8.binds (ps := ["_law_script", "_law_k"]) fun _ _ _ _ _ _ us hl => match us, hl with | [_, _], _ => rfl,
    F9 := F9, g9 := PySem.W.mg_of X G a9, b9 := F9.binds (ps := ["_law_cell_here", "_law_prime", "_law_many"]) fun _ _ _ _ _ _ us hl => match us, hl with | [_, _, _], _ => rfl,
    F10 := F10, g10 := PySem.W.mg_of X G a10, b10 := F10.binds (ps := ["_law_cell_here", "_law_many", "_law_to"]) fun _ _ _ _ _ _ us hl => match us, hl with | [_, _, _], _ => rfl,
    F11 := F11, g11 := PySem.W.mg_of X G a11, b11 := F11.binds (ps := ["_law_script", "_law_k"]) fun _ _ _ _ _ _ us hl => match us, hl with | [_, _], _ => rfl,
    F12 := F12, g12 := PySem.W.mg_of X G a12, b12 := F12.binds (ps := ["_law_one", "_law_other"]) fun _ _ _ _ _ _ us hl => match us, hl with | [_, _], _ => rfl,
    F13 := F13, g13 := PySem.W.mg_of X G a13, b13 := F13.binds (ps := ["_law_way", "_law_one", "_law_other"]) fun _ _ _ _ _ _ us hl => match us, hl with | [_, _, _], _ => rfl,
    F14 := F14, g14 := PySem.W.mg_of X G a14, b14 := F14.binds (ps := ["_law_many", "_law_pairs"]) fun _ _ _ _ _ _ us hl => match us, hl with | [_, _], _ => rfl,
    F15 := F15, g15 := PySem.W.mg_of X G a15, b15 := F15.binds (ps := ["_law_first", "_law_second", "_law_cell_here"]) fun _ _ _ _ _ _ us hl => match us, hl with | [_, _, _], _ => rfl,
    F16 := F16, g16 := PySem.W.mg_of X G a16, b16 := F16.binds (ps := ["_law_script"]) fun _ _ _ _ _ _ us hl => match us, hl with | [_], _ => rfl,
    m_enumerate := PySem.W.mg_none_of X G z_enumerate,
    m_len := PySem.W.mg_none_of X G z_len,
    m_list := PySem.W.mg_none_of X G z_list,
    m_max := PySem.W.mg_none_of X G z_max,
    m_min := PySem.W.mg_none_of X G z_min,
    m_range := PySem.W.mg_none_of X G z_range,
    m_set := PySem.W.mg_none_of X G z_set,
    m_sorted := PySem.W.mg_none_of X G z_sorted,
    m_tuple := PySem.W.mg_none_of X G z_tuple,
    m_zip := PySem.W.mg_none_of X G z_zip,
    gC0 := PySem.W.mg_of X G zgC0_0,
    x0 := zx0_0,
    kC0 := zkC0_0,
    bC0 := zbC0_0,
    tC0 := ztC0_0,
    gC2 := PySem.W.mg_of X G zgC2_0,
    x2 := zx2_0,
    kC2 := zkC2_0,
    bC2 := zbC2_0,
    tC2 := ztC2_0,
    exm22 := PySem.W.exm_ref zbC2_0 zexm22_0 ztC2_0 zexm22_1 }
  exact ⟨_, fun s v => .of_eq rfl, fun base _ _ => (ok_law T).imp (spLaw_of hpl)⟩
end Lw
open PySem PySem.W PyProof.Rows
set_option maxHeartbeats 0 in
theorem PySem.Challenge.cw_mapweave_k07_whole_maps_that_join_holds : PySem.Challenge.rw_mapweave_k07_whole_maps_that_join.Holds := by
  w_on; o_law; k_head; (case hw => w_witness2)
  k_fill
  refine L2.walk_of (l := PySem.Challenge.rw_mapweave_k07_whole_maps_that_join) (n := 63) (k := 4) (x := "_law_script") (CX := fun w => L2.CX PySem.Challenge.rw_mapweave_k07_whole_maps_that_join.prog w) (sp := fun w => DL.spLaw _) rfl (by decide) rfl ⟨rfl, by decide, by decide⟩ (fun w h Y => PySem.W.kIn_of Y) ?F (fun _ _ a ns hl _ hS => ⟨a, ns, rfl, hS, hl, fun _ => rfl⟩) (fun _ _ _ _ _ h => DL.no_cx h)
  case F =>
    intro w mg fa h KX G hmg
    refine' Lw.all_mk KX G hmg ?a0 ?l0 ?c0 ?k0 ?a1 ?l1 ?c1 ?k1 ?a2 ?l2 ?c2 ?k2 ?a3 ?l3 ?c3 ?k3 ?a4 ?l4 ?c4 ?k4 ?a5 ?l5 ?c5 ?k5 ?a6 ?l6 ?c6 ?k6 ?a7 ?l7 ?c7 ?k7 ?a8 ?l8 ?c8 ?k8 ?a9 ?l9 ?c9 ?k9 ?a10 ?l10 ?c10 ?k10 ?a11 ?l11 ?c11 ?k11 ?a12 ?l12 ?c12 ?k12 ?a13 ?l13 ?c13 ?k13 ?a14 ?l14 ?c14 ?k14 ?a15 ?l15 ?c15 ?k15 ?a16 ?l16 ?c16 ?k16 ?z_enumerate ?z_len ?z_list ?z_max ?z_min ?z_range ?z_set ?z_sorted ?z_tuple ?z_zip ?zgC0_0 ?zx0_0 ?zkC0_0 ?zbC0_0 ?ztC0_0 ?zgC2_0 ?zx2_0 ?zkC2_0 ?zbC2_0 ?ztC2_0 ?zexm22_0 ?zexm22_1 Lw.law_plain
    (case a0 => k_is); (case l0 => k_is); (case c0 => k_is); (case k0 => k_is); (case a1 => k_is); (case l1 => k_is)
    (case c1 => k_is); (case k1 => k_is); (case a2 => k_is); (case l2 => k_is); (case c2 => k_is); (case k2 => k_is)
    (case a3 => k_is); (case l3 => k_is); (case c3 => k_is); (case k3 => k_is); (case a4 => k_is); (case l4 => k_is)
    (case c4 => k_is); (case k4 => k_is); (case a5 => k_is); (case l5 => k_is); (case c5 => k_is); (case k5 => k_is)
    (case a6 => k_is); (case l6 => k_is); (case c6 => k_is); (case k6 => k_is); (case a7 => k_is); (case l7 => k_is)
    (case c7 => k_is); (case k7 => k_is); (case a8 => k_is); (case l8 => k_is); (case c8 => k_is); (case k8 => k_is)
    (case a9 => k_is); (case l9 => k_is); (case c9 => k_is); (case k9 => k_is); (case a10 => k_is); (case l10 => k_is)
    (case c10 => k_is); (case k10 => k_is); (case a11 => k_is); (case l11 => k_is); (case c11 => k_is); (case k11 => k_is)
    (case a12 => k_is); (case l12 => k_is); (case c12 => k_is); (case k12 => k_is); (case a13 => k_is); (case l13 => k_is)
    (case c13 => k_is); (case k13 => k_is); (case a14 => k_is); (case l14 => k_is); (case c14 => k_is); (case k14 => k_is)
    (case a15 => k_is); (case l15 => k_is); (case c15 => k_is); (case k15 => k_is); (case a16 => k_is); (case l16 => k_is)
    (case c16 => k_is); (case k16 => k_is); (case z_enumerate => k_is); (case z_len => k_is); (case z_list => k_is); (case z_max => k_is)
    (case z_min => k_is); (case z_range => k_is); (case z_set => k_is); (case z_sorted => k_is); (case z_tuple => k_is); (case z_zip => k_is)
    (case zgC0_0 => k_is); (case zx0_0 => k_exc); (case zkC0_0 => k_is); (case zbC0_0 => k_is); (case ztC0_0 => k_is); (case zgC2_0 => k_is)
    (case zx2_0 => k_exc); (case zkC2_0 => k_is); (case zbC2_0 => k_is); (case ztC2_0 => k_is); (case zexm22_0 => k_is); (case zexm22_1 => first | rfl | k_is)

