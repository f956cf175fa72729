import PyProof.Rows.All
import Wide.All
import OpenK.AllK
import Wide.FinOn
import PyProof.EqAt
import PyProof.EqKinds
import PyProof.TupleCall
import HandS.ForMost
import HandS.ForExc
import HandS.CallSlots
import HandS.IsInst
import HandS.ExcIs
import HandS.Style
import HandS.TupAny
import HandS.TupMul
import HandS.Zip
import HandS.Conv
import HandS.Deep
import HandS.Wide
import HandS.WideBits
import HandS.RevRange
import HandS.NoneIn
import HandS.SetFor
import HandS.Strs
import KE.GoesEnum
import PySem.Challenge.RW_mapweave_k09_whole_done_often
set_option Elab.async false
set_option linter.all false
set_option maxRecDepth 100000
set_option maxHeartbeats 4000000
/-! A data layer over HandS: each derivation also says, as a plain function of the slots' data, what the code computes. -/
namespace DL
open PySem PySem.Spec PyProof.Rows L2

/-- the data of the slots -/
abbrev Rho := List (Option PyData)
abbrev Fn := Rho → Option PyData
/-- the script, told as a thing of its own -/
def scrK (ns : List Int) : List (PyData × PyData) := ns.map fun n => (PyData.int n, PyData.none)

mutual
inductive Dd (K : PySem.W.Frag) (H : Hp) : V → PyData → Prop
  | non : Dd K H .non .none
  | bl (b : Bool) : Dd K H (.bl b) (.bool b)
  | int (i : Int) : Dd K H (.int i) (.int i)
  | str (x : Str) : Dd K H (.str x) (.str x)
  | lst {a : Addr} {xs : List V} {ds : List PyData} : H a = some (.lst xs) → DdAll K H xs ds → Dd K H (.ref a) (.list ds)
  | tup {a : Addr} {ob : Obj} {xs : List V} {ds : List PyData} : ob.dict = none → H a = some (.frz ob (.tup xs)) → DdAll K H xs ds → Dd K H (.ref a) (.tuple ds)
  | scr {a : Addr} {ns : List Int} : SqL K H a (ns.map V.int) → Dd K H (.ref a) (.dict (scrK ns))
inductive DdAll (K : PySem.W.Frag) (H : Hp) : List V → List PyData → Prop
  | nil : DdAll K H [] []
  | cons {v : V} {vs : List V} {d : PyData} {ds : List PyData} : Dd K H v d → DdAll K H vs ds → DdAll K H (v :: vs) (d :: ds)
end

section
variable {K : PySem.W.Frag} {H H' H1 H2 H3 : Hp}
mutual
theorem Dd.mono {v : V} {d : PyData} (e : Same H H') : Dd K H v d → Dd K H' v d
  | .non => .non
  | .bl b => .bl b
  | .int i => .int i
  | .str x => .str x
  | .lst h t => .lst (e _ _ h) (DdAll.mono e t)
  | .tup n h t => .tup n (e _ _ h) (DdAll.mono e t)
  | .scr h => .scr (e.seq h)
theorem DdAll.mono {vs : List V} {ds : List PyData} (e : Same H H') : DdAll K H vs ds → DdAll K H' vs ds
  | .nil => .nil
  | .cons a r => .cons (Dd.mono e a) (DdAll.mono e r)
end
theorem DdAll.length : ∀ {vs : List V} {ds : List PyData}, DdAll K H vs ds → vs.length = ds.length
  | _, _, .nil => rfl
  | _, _, .cons _ r => congrArg Nat.succ r.length
theorem DdAll.get : ∀ {vs : List V} {ds : List PyData} {i : Nat} {d : PyData}, DdAll K H vs ds → ds[i]? = some d → ∃ v, vs[i]? = some v ∧ Dd K H v d
  | _, _, _, _, .nil, h => by simp at h
  | _, _, 0, d, .cons a _, h => by simp at h; subst h; exact ⟨_, rfl, a⟩
  | _, _, i + 1, d, .cons _ r, h => by
    obtain ⟨v, h1, h2⟩ := DdAll.get (i := i) (d := d) r (by simpa using h)
    exact ⟨v, by simpa using h1, h2⟩
theorem DdAll.getv : ∀ {vs : List V} {ds : List PyData} {i : Nat} {v : V}, DdAll K H vs ds → vs[i]? = some v → ∃ d, ds[i]? = some d ∧ Dd K H v d
  | _, _, _, _, .nil, h => by simp at h
  | _, _, 0, d, .cons a _, h => by simp at h; subst h; exact ⟨_, rfl, a⟩
  | _, _, i + 1, d, .cons _ r, h => by
    obtain ⟨v, h1, h2⟩ := DdAll.getv (i := i) (v := d) r (by simpa using h)
    exact ⟨v, by simpa using h1, h2⟩
theorem DdAll.append : ∀ {vs ws : List V} {ds es : List PyData}, DdAll K H vs ds → DdAll K H ws es → DdAll K H (vs ++ ws) (ds ++ es)
  | _, _, _, _, .nil, s => s
  | _, _, _, _, .cons a r, s => .cons a (r.append s)
theorem DdAll.take : ∀ {vs : List V} {ds : List PyData} (n : Nat), DdAll K H vs ds → DdAll K H (vs.take n) (ds.take n)
  | _, _, 0, _ => .nil
  | _, _, _ + 1, .nil => .nil
  | _, _, n + 1, .cons a r => .cons a (DdAll.take n r)
theorem DdAll.drop : ∀ {vs : List V} {ds : List PyData} (n : Nat), DdAll K H vs ds → DdAll K H (vs.drop n) (ds.drop n)
  | _, _, 0, r => r
  | _, _, _ + 1, .nil => .nil
  | _, _, n + 1, .cons _ r => DdAll.drop n r
theorem DdAll.set {x : V} {d : PyData} (a : Dd K H x d) : ∀ {vs : List V} {ds : List PyData} (i : Nat), DdAll K H vs ds → DdAll K H (vs.set i x) (ds.set i d)
  | _, _, _, .nil => .nil
  | _, _, 0, .cons _ r => .cons a r
  | _, _, i + 1, .cons b r => .cons b (DdAll.set a i r)
theorem DdAll.erase : ∀ {vs : List V} {ds : List PyData} (i : Nat), DdAll K H vs ds → DdAll K H (vs.eraseIdx i) (ds.eraseIdx i)
  | _, _, _, .nil => .nil
  | _, _, 0, .cons _ r => r
  | _, _, i + 1, .cons b r => .cons b (DdAll.erase i r)
theorem DdAll.dropLast : ∀ {vs : List V} {ds : List PyData}, DdAll K H vs ds → DdAll K H vs.dropLast ds.dropLast
  | _, _, .nil => .nil
  | _, _, .cons a .nil => .nil
  | _, _, .cons a (.cons b r) => .cons a (DdAll.dropLast (.cons b r))
theorem DdAll.ints : ∀ (ns : List Int), DdAll K H (ns.map V.int) (ns.map PyData.int)
  | [] => .nil
  | n :: ns => .cons (.int n) (DdAll.ints ns)
theorem DdAll.rep {x : V} {d : PyData} (a : Dd K H x d) : ∀ n, DdAll K H (List.replicate n x) (List.replicate n d)
  | 0 => .nil
  | n + 1 => .cons a (DdAll.rep a n)

/-! ### from data of ours to Dp (for ==) -/
theorem sqL_of {a : Addr} {xs : List V} (h : H a = some (.lst xs)) : SqL K H a xs := .inl (.inl h)
theorem sqT_of {a : Addr} {ob : Obj} {xs : List V} (h : H a = some (.frz ob (.tup xs))) : SqT K H a xs := .inl (.inr ⟨ob, h⟩)
mutual
theorem Dd.dp {v : V} : ∀ {d : PyData}, Dd K H v d → d.canLay0 = true → Dp K H v d
  | _, .non, _ => .non
  | _, .bl b, _ => .bl b
  | _, .int i, _ => .int i
  | _, .str x, _ => .str x
  | _, .lst h t, c => .lst (sqL_of h) (DdAll.dp t (by simpa [PyData.canLay0] using c))
  | _, .tup _ h t, c => .tup (sqT_of h) (DdAll.dp t (by simpa [PyData.canLay0] using c))
  | _, .scr h, c => by simp [PyData.canLay0] at c
theorem DdAll.dp {vs : List V} : ∀ {ds : List PyData}, DdAll K H vs ds → PyData.canLayAll0 ds = true → DpAll K H vs ds
  | _, .nil, _ => .nil
  | _, .cons a r, c => by
    simp only [PyData.canLayAll0, Bool.and_eq_true] at c
    exact .cons (Dd.dp a c.1) (DdAll.dp r c.2)
end

/-! ### heaps -/
structure Grow (Hs H Hs' H' : Hp) : Prop where
  ex : Same H H'
  exs : Same Hs Hs'
  sub : Same Hs' H'
  new : ∀ a, Hs a = none → H a ≠ none → Hs' a = none
variable {Hs Hs' Hs1 Hs2 Hs0 H0 : Hp}
theorem Grow.refl (h : Same Hs H) : Grow Hs H Hs H := ⟨Same.refl _, Same.refl _, h, fun _ e _ => e⟩
theorem Grow.trans (a : Grow Hs H Hs1 H1) (b : Grow Hs1 H1 Hs2 H2) : Grow Hs H Hs2 H2 where
  ex := a.ex.trans b.ex
  exs := a.exs.trans b.exs
  sub := b.sub
  new := fun c e n => b.new c (a.new c e n) (fun z => n (a.ex.free z))
theorem Grow.idle (h : Same Hs H) (e : Same H H') : Grow Hs H Hs H' := ⟨e, Same.refl _, h.trans e, fun _ e _ => e⟩
theorem same_new {p : Addr} {o : HO} (h : H p = none) : Same H (upd H p o) := fun b x e => by
  rw [upd_ne (ne_of_none e h)]
  exact e
theorem Grow.alloc {p : Addr} {o : HO} (h : Same Hs H) (hp : H p = none) : Grow Hs H (upd Hs p o) (upd H p o) where
  ex := same_new hp
  exs := same_new (h.free hp)
  sub := fun b x e => by
    by_cases hb : b = p
    · subst hb; rw [upd_same] at e ⊢; exact e
    · rw [upd_ne hb] at e ⊢; exact h b x e
  new := fun a e n => by
    have : a ≠ p := fun z => n (by rw [z]; exact hp)
    rw [upd_ne this]; exact e
/-- a fresh object that is not shown to the data -/
theorem Grow.alloc0 {p : Addr} {o : HO} (h : Same Hs H) (hp : H p = none) : Grow Hs H Hs (upd H p o) := Grow.idle h (same_new hp)

/-- how slots and heap bear the data; M: the slots of lists that may change; Hs: what the data lean on; Hs0, H0: the entry -/
structure SR (K : PySem.W.Frag) (M : List Nat) (Hs0 H0 Hs H : Hp) (σ : L2.St) (ρ : Rho) : Prop where
  g : Grow Hs0 H0 Hs H
  len : σ.length = ρ.length
  frz : ∀ i d, ρ[i]? = some (some d) → M.contains i = false → ∃ v, σ[i]? = some (some v) ∧ Dd K Hs v d
  own : ∀ i d, ρ[i]? = some (some d) → M.contains i = true → ∃ p xs ds, d = .list ds ∧ σ[i]? = some (some (.ref p)) ∧ H p = some (.lst xs) ∧ Hs p = none ∧ H0 p = none ∧ DdAll K Hs xs ds
  sep : ∀ i j di dj p, ρ[i]? = some (some di) → ρ[j]? = some (some dj) → M.contains i = true → M.contains j = true → σ[i]? = some (some (.ref p)) → σ[j]? = some (some (.ref p)) → i = j
variable {M : List Nat} {σ : L2.St} {ρ : Rho}
theorem SR.sub (r : SR K M Hs0 H0 Hs H σ ρ) : Same Hs H := r.g.sub
theorem SR.grow (r : SR K M Hs0 H0 Hs H σ ρ) (e : Grow Hs H Hs' H') : SR K M Hs0 H0 Hs' H' σ ρ where
  g := r.g.trans e
  len := r.len
  frz := fun i d h m => let ⟨v, a, b⟩ := r.frz i d h m; ⟨v, a, b.mono e.exs⟩
  own := fun i d h m => let ⟨p, xs, ds, a, b, c, n, n0, k⟩ := r.own i d h m; ⟨p, xs, ds, a, b, e.ex _ _ c, e.new p n (by rw [c]; simp), n0, k.mono e.exs⟩
  sep := r.sep
/-- what has been new since the entry stands still -/
def thawH (H0 Hs H : Hp) : Hp := fun a => if H0 a = none then H a else Hs a
open Classical in
theorem SR.thaw (r : SR K M Hs0 H0 Hs H σ ρ) : ∃ Hp', Same Hs Hp' ∧ SR K [] Hs0 H0 Hp' H σ ρ ∧ SR K [] Hp' H Hp' H σ ρ := by
  refine ⟨fun a => if H0 a = none then H a else Hs a, ?_⟩
  have e1 : Same Hs (fun a => if H0 a = none then H a else Hs a) := fun b o e => by
    show (if H0 b = none then H b else Hs b) = some o
    by_cases z : H0 b = none
    · rw [if_pos z]; exact r.sub b o e
    · rw [if_neg z]; exact e
  have e2 : Same (fun a => if H0 a = none then H a else Hs a) H := fun b o e => by
    have e : (if H0 b = none then H b else Hs b) = some o := e
    by_cases z : H0 b = none
    · rw [if_pos z] at e; exact e
    · rw [if_neg z] at e; exact r.sub b o e
  have g : Grow Hs0 H0 (fun a => if H0 a = none then H a else Hs a) H := ⟨r.g.ex, r.g.exs.trans e1, e2, fun a e n => by
    show (if H0 a = none then H a else Hs a) = none
    rw [if_neg n]; exact r.g.new a e n⟩
  have fz : ∀ i d, ρ[i]? = some (some d) → ∃ v, σ[i]? = some (some v) ∧ Dd K (fun a => if H0 a = none then H a else Hs a) v d := fun i d h => by
    cases m : M.contains i with
    | false =>
      obtain ⟨v, a, b⟩ := r.frz i d h m
      exact ⟨v, a, b.mono e1⟩
    | true =>
      obtain ⟨p, xs, ds, rfl, b, c, n, n0, k⟩ := r.own i d h m
      exact ⟨_, b, .lst (by show (if H0 p = none then H p else Hs p) = _; rw [if_pos n0]; exact c) (k.mono e1)⟩
  exact ⟨e1, ⟨g, r.len, fun i d h _ => fz i d h, fun _ _ _ m => by simp at m, fun _ _ _ _ _ _ _ m => by simp at m⟩,
    ⟨Grow.refl e2, r.len, fun i d h _ => fz i d h, fun _ _ _ m => by simp at m, fun _ _ _ _ _ _ _ m => by simp at m⟩⟩
end
end DL

namespace DL
open PySem PySem.Spec PyProof.Rows L2

/-! ### judgements: a derivation, its reading, and the function of the data -/
structure ED (K : PySem.W.Frag) (X : Cx) (M : List Nat) (e : Expr) (t : TE) (f : Fn) : Prop where
  pe : PE X e t
  sm : ∀ {Hs0 H0 Hs H : Hp} {σ : L2.St} {ρ : Rho} {d : PyData} {Q : VK}, SR K M Hs0 H0 Hs H σ ρ → f ρ = some d → (∀ v Hs' H', Grow Hs H Hs' H' → Dd K Hs' v d → Q v H') → t σ H Q
structure AD (K : PySem.W.Frag) (X : Cx) (M : List Nat) (es : List Expr) (t : TA) (f : Rho → Option (List PyData)) : Prop where
  pa : PA X es t
  sm : ∀ {Hs0 H0 Hs H : Hp} {σ : L2.St} {ρ : Rho} {ds : List PyData} {Q : List V → Hp → Prop}, SR K M Hs0 H0 Hs H σ ρ → f ρ = some ds → (∀ vs Hs' H', Grow Hs H Hs' H' → DdAll K Hs' vs ds → Q vs H') → t σ H Q
structure TD (K : PySem.W.Frag) (X : Cx) (M : List Nat) (e : Expr) (t : TT) (f : Rho → Option Bool) : Prop where
  pt : PT X e t
  sm : ∀ {Hs0 H0 Hs H : Hp} {σ : L2.St} {ρ : Rho} {b : Bool} {Q : Bool → Hp → Prop}, SR K M Hs0 H0 Hs H σ ρ → f ρ = some b → (∀ H', Same H H' → Q b H') → t σ H Q
structure WD (K : PySem.W.Frag) (X : Cx) (M : List Nat) (e : Expr) (t : TT) (f : Rho → Option Bool) : Prop where
  pw : PW X e t
  sm : ∀ {Hs0 H0 Hs H : Hp} {σ : L2.St} {ρ : Rho} {b : Bool} {Q : Bool → Hp → Prop}, SR K M Hs0 H0 Hs H σ ρ → f ρ = some b → (∀ H', Same H H' → Q b H') → t σ H Q
/-- a fresh list, its items below Hs' -/
structure FD (K : PySem.W.Frag) (X : Cx) (M : List Nat) (e : Expr) (t : TE) (f : Rho → Option (List PyData)) : Prop where
  pe : PE X e t
  sm : ∀ {Hs0 H0 Hs H : Hp} {σ : L2.St} {ρ : Rho} {ds : List PyData} {Q : VK}, SR K M Hs0 H0 Hs H σ ρ → f ρ = some ds →
    (∀ p xs Hs' H', Grow Hs H Hs' H' → H p = none → Hs' p = none → H' p = some (.lst xs) → DdAll K Hs' xs ds → Q (.ref p) H') → t σ H Q

section
variable {K : PySem.W.Frag} {X : Cx} {M : List Nat} {a b c e : Expr} {es : List Expr} {ta tb tc te : TE} {t u : TT} {fa fb fc f : Fn} {pos p pos' : Pos}

/-! ### names, constants -/
@[simp] def fVar (i : Nat) : Fn := fun ρ => match ρ[i]? with
  | some o => o
  | none => none
@[simp] def fC (d : PyData) : Fn := fun _ => some d
theorem fVar_some {i : Nat} {ρ : Rho} {d : PyData} (h : fVar i ρ = some d) : ρ[i]? = some (some d) := by
  unfold fVar at h
  split at h
  · rename_i o e; rw [e, h]
  · cases h
theorem ed_var (i : Nat) {x : Str} (hN : X.N[i]? = some x := by rfl) (hv : Vis X.env.scope x := by first | exact Or.inl rfl | exact Or.inr (Or.inl rfl) | exact Or.inr (Or.inr rfl)) (hM : M.contains i = false := by rfl)
    (hd : (x == ("__debug__" : Str)) = false := by decide) (hcd : (x == ("__classdict__" : Str)) = false := by decide) : ED K X M (.Name x pos) (tVar i) (fVar i) :=
  ⟨pe_var hN hv hd hcd, fun {Hs0 H0 Hs H σ ρ d Q} r h q => by
    obtain ⟨v, a, b⟩ := r.frz i d (fVar_some h) hM
    exact ⟨v, a, q v Hs H (Grow.refl r.sub) b⟩⟩
theorem ed_int {i j} : ED K X M (.Constant (.int i) j pos) (tC (.int i)) (fC (.int i)) :=
  ⟨pe_int, fun {Hs0 H0 Hs H σ ρ d Q} r h q => by cases h; exact q _ Hs H (Grow.refl r.sub) (.int i)⟩
theorem ed_bl {i j} : ED K X M (.Constant (.bool i) j pos) (tC (.bl i)) (fC (.bool i)) :=
  ⟨pe_bl, fun {Hs0 H0 Hs H σ ρ d Q} r h q => by cases h; exact q _ Hs H (Grow.refl r.sub) (.bl i)⟩
theorem ed_non {j} : ED K X M (.Constant .none j pos) (tC .non) (fC .none) :=
  ⟨pe_non, fun {Hs0 H0 Hs H σ ρ d Q} r h q => by cases h; exact q _ Hs H (Grow.refl r.sub) .non⟩
theorem ed_str {x j} : ED K X M (.Constant (.str x) j pos) (tC (.str x)) (fC (.str x)) :=
  ⟨pe_str, fun {Hs0 H0 Hs H σ ρ d Q} r h q => by cases h; exact q _ Hs H (Grow.refl r.sub) (.str x)⟩

/-! ### argument lists, displays -/
@[simp] def fNil : Rho → Option (List PyData) := fun _ => some []
@[simp] def fCons (f : Fn) (g : Rho → Option (List PyData)) : Rho → Option (List PyData) := fun ρ => (f ρ).bind fun d => (g ρ).bind fun ds => some (d :: ds)
variable {tr : TA} {fr : Rho → Option (List PyData)}
theorem ad_nil : AD K X M [] tNil fNil := ⟨pa_nil, fun {Hs0 H0 Hs H σ ρ ds Q} r h q => by cases h; exact q [] Hs H (Grow.refl r.sub) .nil⟩
theorem ad_cons (ha : ED K X M e te f) (hr : AD K X M es tr fr) (hs : starEach (e :: es) X.env = (false, eval e X.env) :: starEach es X.env := by rfl) : AD K X M (e :: es) (tCons te tr) (fCons f fr) :=
  ⟨pa_cons ha.pe hr.pa hs, fun {Hs0 H0 Hs H σ ρ ds Q} r h q => by
    unfold fCons at h
    cases h1 : f ρ with
    | none => rw [h1] at h; cases h
    | some d =>
      rw [h1] at h
      cases h2 : fr ρ with
      | none => simp [h2] at h
      | some ds' =>
        simp [h2] at h
        subst h
        refine ha.sm r h1 fun v Hs1 H1 g1 d1 => ?_
        exact hr.sm (r.grow g1) h2 fun vs Hs2 H2 g2 d2 => q _ Hs2 H2 (g1.trans g2) (.cons (d1.mono g2.exs) d2)⟩
theorem szM {n : Nat} (h : n ≤ 1000000) : n ≤ sizeLine := Nat.le_trans h (by decide)
theorem szL {n : Nat} (h : n < 1000000) : n < sizeLine := Nat.lt_of_lt_of_le h (by decide)
@[simp] def fTup (g : Rho → Option (List PyData)) : Fn := fun ρ => (g ρ).bind fun ds => if ds.length ≤ 1000000 then some (.tuple ds) else none
@[simp] def fList (g : Rho → Option (List PyData)) : Rho → Option (List PyData) := fun ρ => (g ρ).bind fun ds => if ds.length ≤ 1000000 then some ds else none
@[simp] def fFr (g : Rho → Option (List PyData)) : Fn := fun ρ => (g ρ).bind fun ds => some (.list ds)
theorem bind_some {α β : Type} {o : Option α} {k : α → Option β} {b : β} (h : o.bind k = some b) : ∃ a, o = some a ∧ k a = some b := by
  cases o with
  | none => cases h
  | some a => exact ⟨a, rfl, h⟩
theorem ite_some {α : Type} {c : Prop} [Decidable c] {a b : α} (h : (if c then some a else none) = some b) : c ∧ a = b := by
  by_cases hc : c
  · rw [if_pos hc] at h; exact ⟨hc, Option.some.inj h⟩
  · rw [if_neg hc] at h; cases h
/-- a new tuple, told with its own object: it has no dict -/
theorem Inv.tupN {pins : List (Addr × Obj)} {σ : L2.St} {H : Hp} {s : Shared} {xs : List V} {its : List Value} {t' : Nat} (I : Inv X pins σ H s) (hv : Vals xs its) (hz : xs.length ≤ sizeLine) :
    Inv X pins σ (upd H s.heap.objs.size (.frz { cls := .type "tuple", data := .seq its.toArray } (.tup xs))) { s with heap := s.heap.push { cls := .type "tuple", data := .seq its.toArray }, toks := t' } :=
  I.laid (fun _ _ q => Heap.get?_push_of_some _ q) (Nat.le_refl _) ⟨Heap.get?_push_size _ rfl, hz, its, hv, ⟨_, Heap.get?_push_size _ rfl, rfl, _, rfl⟩⟩
def NewT (Q : VK) (H : Hp) (xs : List V) : Prop := ∀ p ob, ob.dict = none → H p = none → Q (.ref p) (upd H p (.frz ob (.tup xs)))
def tTupN (t : TA) : TE := fun σ H Q => t σ H fun xs H1 => xs.length ≤ sizeLine ∧ NewT Q H1 xs
theorem pe_tupN {x1} (h : PA X es tr) : PE X (.Tuple es x1 pos) (tTupN tr) := by
  refine ⟨fun pins s σ H Q I hq => ?_⟩
  refine wpAny_Tuple_spliced (thn (h.run pos pins s σ H _ I hq) fun us s1 ⟨xs, H1, I1, r, z, q⟩ => ⟨by rw [← r.length]; exact z, ?_⟩)
  exact ⟨.ref s1.heap.objs.size, _, Inv.tupN (t' := s1.toks) I1 r z, rfl, q _ _ rfl (I1.hok.fresh (Nat.le_refl _))⟩
theorem NewT.of {Q : VK} {Hs Hs1 H H1 : Hp} {vs : List V} {ds : List PyData} (g1 : Grow Hs H Hs1 H1) (d1 : DdAll K Hs1 vs ds) (q : ∀ v Hs' H', Grow Hs H Hs' H' → Dd K Hs' v (.tuple ds) → Q v H') : NewT Q H1 vs := fun p ob hn hp => by
  have g2 : Grow Hs1 H1 (upd Hs1 p (.frz ob (.tup vs))) (upd H1 p (.frz ob (.tup vs))) := Grow.alloc g1.sub hp
  exact q _ _ _ (g1.trans g2) (.tup hn upd_same (d1.mono g2.exs))
theorem ed_tup {k} (h : AD K X M es tr fr) : ED K X M (.Tuple es k pos) (tTupN tr) (fTup fr) :=
  ⟨pe_tupN h.pa, fun {Hs0 H0 Hs H σ ρ d Q} r hf q => by
    obtain ⟨ds, h1, h2⟩ := bind_some hf
    obtain ⟨hl, rfl⟩ := ite_some h2
    exact h.sm r h1 fun vs Hs1 H1 g1 d1 => ⟨szM (by rw [d1.length]; exact hl), NewT.of g1 d1 q⟩⟩
theorem fd_lst (h : AD K X M es tr fr) : FD K X M (.List es pos) (tLst tr) (fList fr) :=
  ⟨pe_lst h.pa, fun {Hs0 H0 Hs H σ ρ ds Q} r hf q => by
    obtain ⟨ds', h1, h2⟩ := bind_some hf
    obtain ⟨hl, rfl⟩ := ite_some h2
    refine h.sm r h1 fun vs Hs1 H1 g1 d1 => ⟨szM (by rw [d1.length]; exact hl), fun p hp => ?_⟩
    exact q p vs Hs1 _ (g1.trans (Grow.alloc0 g1.sub hp)) (g1.ex.free hp) (g1.sub.free hp) upd_same d1⟩
/-- a fresh list, told as data -/
theorem ed_fr {g : Rho → Option (List PyData)} (h : FD K X M e te g) : ED K X M e te (fFr g) :=
  ⟨h.pe, fun {Hs0 H0 Hs H σ ρ d Q} r hf q => by
    obtain ⟨ds, h1, h2⟩ := bind_some hf
    obtain rfl := Option.some.inj h2
    refine h.sm r h1 fun p xs Hs1 H1 g1 hp hsp hH d1 => ?_
    have e1 : Same Hs1 (upd Hs1 p (.lst xs)) := same_new hsp
    refine q _ (upd Hs1 p (.lst xs)) H1 ⟨g1.ex, g1.exs.trans e1, fun b o z => ?_, fun a z n => ?_⟩ (.lst upd_same (d1.mono e1))
    · by_cases hb : b = p
      · subst hb; rw [upd_same] at z; rw [hH]; exact z
      · rw [upd_ne hb] at z; exact g1.sub _ _ z
    · have : a ≠ p := fun y => n (by rw [y]; exact hp)
      rw [upd_ne this]; exact g1.new a z n⟩

/-! ### operations -/
@[simp] def f2 (g : PyData → PyData → Option PyData) (fa fb : Fn) : Fn := fun ρ => (fa ρ).bind fun x => (fb ρ).bind fun y => g x y
@[simp] def f1 (g : PyData → Option PyData) (fa : Fn) : Fn := fun ρ => (fa ρ).bind g
structure OD (K : PySem.W.Frag) (X : Cx) (op : Value → Value → Sem Value) (r : R2) (g : PyData → PyData → Option PyData) : Prop where
  op : OpR X op r
  sm : ∀ {Hs H : Hp} {x y : V} {dx dy d : PyData} {Q : VK}, Same Hs H → Dd K Hs x dx → Dd K Hs y dy → g dx dy = some d → (∀ v Hs' H', Grow Hs H Hs' H' → Dd K Hs' v d → Q v H') → r x y H Q
theorem two_sm {r : R2} {g : PyData → PyData → Option PyData} (ho : ∀ {Hs H : Hp} {x y : V} {dx dy d : PyData} {Q : VK}, Same Hs H → Dd K Hs x dx → Dd K Hs y dy → g dx dy = some d → (∀ v Hs' H', Grow Hs H Hs' H' → Dd K Hs' v d → Q v H') → r x y H Q)
    (ha : ED K X M a ta fa) (hb : ED K X M b tb fb) {Hs0 H0 Hs H : Hp} {σ : L2.St} {ρ : Rho} {d : PyData} {Q : VK} (R : SR K M Hs0 H0 Hs H σ ρ) (hf : f2 g fa fb ρ = some d) (q : ∀ v Hs' H', Grow Hs H Hs' H' → Dd K Hs' v d → Q v H') : tOp r ta tb σ H Q := by
  obtain ⟨x, h1, h2⟩ := bind_some hf
  obtain ⟨y, h2, h3⟩ := bind_some h2
  refine ha.sm R h1 fun v Hs1 H1 g1 d1 => ?_
  refine hb.sm (R.grow g1) h2 fun u Hs2 H2 g2 d2 => ?_
  exact ho g2.sub (d1.mono g2.exs) d2 h3 fun w Hs3 H3 g3 d3 => q w Hs3 H3 ((g1.trans g2).trans g3) d3
theorem ed_op {op : Operator} {r : R2} {g : PyData → PyData → Option PyData} (ho : OD K X (binaryOp op) r g) (ha : ED K X M a ta fa) (hb : ED K X M b tb fb) : ED K X M (.BinOp a op b pos) (tOp r ta tb) (f2 g fa fb) :=
  ⟨pe_op ho.op ha.pe hb.pe, fun R hf q => two_sm ho.sm ha hb R hf q⟩
theorem ed_cmp {op : CmpOp} {r : R2} {g : PyData → PyData → Option PyData} (ho : OD K X (compareOp op) r g) (ha : ED K X M a ta fa) (hb : ED K X M b tb fb) (hm : behindInMarks op b = false := by first | exact nomark _ | rfl) :
    ED K X M (.Compare a [op] [b] pos) (tOp r ta tb) (f2 g fa fb) :=
  ⟨pe_cmpR ho.op ha.pe hb.pe hm, fun R hf q => two_sm ho.sm ha hb R hf q⟩
/-- a value that is a truth, as a test -/
@[simp] def fB (f : Fn) : Rho → Option Bool := fun ρ => (f ρ).bind fun d => match d with
  | .bool b => some b
  | _ => none
theorem fB_some {ρ : Rho} {b : Bool} (h : fB f ρ = some b) : f ρ = some (.bool b) := by
  obtain ⟨d, h1, h2⟩ := bind_some h
  cases d <;> simp at h2
  subst h2; exact h1
theorem td_cmp {op : CmpOp} {r : R2} {g : PyData → PyData → Option PyData} (ho : OD K X (compareOp op) r g) (ha : ED K X M a ta fa) (hb : ED K X M b tb fb) (hm : behindInMarks op b = false := by first | exact nomark _ | rfl) :
    TD K X M (.Compare a [op] [b] pos) (tTest (tOp r ta tb)) (fB (f2 g fa fb)) :=
  ⟨pt_cmpR ho.op ha.pe hb.pe hm, fun {Hs0 H0 Hs H σ ρ c Q} R hf q => two_sm ho.sm ha hb R (fB_some hf) fun v Hs1 H1 g1 d1 => by
    cases d1
    exact ⟨_, rfl, q H1 g1.ex⟩⟩
theorem td_val (ha : ED K X M e te f) (he : ∀ whole, isTrue e X.env whole = (do let v ← whole; standAt e.pos; holding [v] (truthy v)) := by intro _; rfl) : TD K X M e (tB te) (fB f) :=
  ⟨pt_val ha.pe he, fun {Hs0 H0 Hs H σ ρ c Q} R hf q => ha.sm R (fB_some hf) fun v Hs1 H1 g1 d1 => by
    cases d1
    exact ⟨_, rfl, q H1 g1.ex⟩⟩

/-! ### and, or, not -/
@[simp] def bAnd (f g : Rho → Option Bool) : Rho → Option Bool := fun ρ => (f ρ).bind fun b => if b = true then g ρ else some false
@[simp] def bOr (f g : Rho → Option Bool) : Rho → Option Bool := fun ρ => (f ρ).bind fun b => if b = true then some true else g ρ
@[simp] def bNot (f : Rho → Option Bool) : Rho → Option Bool := fun ρ => (f ρ).bind fun b => some (!b)
variable {ba bb : Rho → Option Bool} {rest : List Expr}
theorem wd_and1 (h : TD K X M a t ba) : WD K X M (.BoolOp .And [a] pos) t ba := ⟨pw_and1 h.pt, h.sm⟩
theorem wd_or1 (h : TD K X M a t ba) : WD K X M (.BoolOp .Or [a] pos) t ba := ⟨pw_or1 h.pt, h.sm⟩
theorem SR.same {Hs0 H0 Hs H H' : Hp} {σ : L2.St} {ρ : Rho} (r : SR K M Hs0 H0 Hs H σ ρ) (e : Same H H') : SR K M Hs0 H0 Hs H' σ ρ := r.grow (Grow.idle r.sub e)
theorem wd_and (ha : TD K X M a t ba) (hb : WD K X M (.BoolOp .And (b :: rest) pos) u bb) : WD K X M (.BoolOp .And (a :: b :: rest) pos) (tAnd t u) (bAnd ba bb) :=
  ⟨pw_and ha.pt hb.pw, fun {Hs0 H0 Hs H σ ρ c Q} R hf q => by
    obtain ⟨x, h1, h2⟩ := bind_some hf
    refine ha.sm R h1 fun H1 e1 => ?_
    cases x with
    | true =>
      rw [if_pos rfl] at h2 ⊢
      exact hb.sm (R.same e1) h2 fun H2 e2 => q H2 (e1.trans e2)
    | false =>
      rw [if_neg Bool.false_ne_true] at h2 ⊢
      cases h2
      exact q H1 e1⟩
theorem wd_or (ha : TD K X M a t ba) (hb : WD K X M (.BoolOp .Or (b :: rest) pos) u bb) : WD K X M (.BoolOp .Or (a :: b :: rest) pos) (tOr t u) (bOr ba bb) :=
  ⟨pw_or ha.pt hb.pw, fun {Hs0 H0 Hs H σ ρ c Q} R hf q => by
    obtain ⟨x, h1, h2⟩ := bind_some hf
    refine ha.sm R h1 fun H1 e1 => ?_
    cases x with
    | false =>
      rw [if_neg Bool.false_ne_true] at h2 ⊢
      exact hb.sm (R.same e1) h2 fun H2 e2 => q H2 (e1.trans e2)
    | true =>
      rw [if_pos rfl] at h2 ⊢
      cases h2
      exact q H1 e1⟩
theorem td_w (h : WD K X M e t ba) : TD K X M e t ba := ⟨h.pw.pt, h.sm⟩
theorem td_not (h : TD K X M a t ba) : TD K X M (.UnaryOp .Not a pos) (tNot t) (bNot ba) :=
  ⟨pt_not h.pt, fun {Hs0 H0 Hs H σ ρ c Q} R hf q => by
    obtain ⟨x, h1, h2⟩ := bind_some hf
    cases h2
    exact h.sm R h1 fun H1 e1 => q H1 e1⟩
/-- as values -/
@[simp] def fAnd (fa fb : Fn) : Fn := fun ρ => (fa ρ).bind fun d => match d with
  | .bool true => fb ρ
  | .bool false => some (.bool false)
  | _ => none
@[simp] def fOr (fa fb : Fn) : Fn := fun ρ => (fa ρ).bind fun d => match d with
  | .bool false => fb ρ
  | .bool true => some (.bool true)
  | _ => none
@[simp] def fNot (fa : Fn) : Fn := fun ρ => (fa ρ).bind fun d => match d with
  | .bool b => some (.bool (!b))
  | _ => none
theorem ed_one {op} (h : ED K X M a ta fa) : ED K X M (.BoolOp op [a] pos) ta fa := ⟨pe_one h.pe, h.sm⟩
theorem ed_and (ha : ED K X M a ta fa) (hb : ED K X M (.BoolOp .And (b :: rest) pos) tb fb) : ED K X M (.BoolOp .And (a :: b :: rest) pos) (tAndV ta tb) (fAnd fa fb) :=
  ⟨pe_and ha.pe hb.pe, fun {Hs0 H0 Hs H σ ρ d Q} R hf q => by
    obtain ⟨x, h1, h2⟩ := bind_some hf
    refine ha.sm R h1 fun v Hs1 H1 g1 d1 => ?_
    cases x with
    | bool k =>
      cases d1
      refine ⟨k, rfl, ?_⟩
      cases k with
      | true => rw [if_pos rfl]; exact hb.sm (R.grow g1) h2 fun w Hs2 H2 g2 d2 => q w Hs2 H2 (g1.trans g2) d2
      | false =>
        rw [if_neg Bool.false_ne_true]
        obtain rfl := Option.some.inj h2
        exact q _ Hs1 H1 g1 (.bl false)
    | _ => cases h2⟩
theorem ed_or (ha : ED K X M a ta fa) (hb : ED K X M (.BoolOp .Or (b :: rest) pos) tb fb) : ED K X M (.BoolOp .Or (a :: b :: rest) pos) (tOrV ta tb) (fOr fa fb) :=
  ⟨pe_or ha.pe hb.pe, fun {Hs0 H0 Hs H σ ρ d Q} R hf q => by
    obtain ⟨x, h1, h2⟩ := bind_some hf
    refine ha.sm R h1 fun v Hs1 H1 g1 d1 => ?_
    cases x with
    | bool k =>
      cases d1
      refine ⟨k, rfl, ?_⟩
      cases k with
      | false => rw [if_neg Bool.false_ne_true]; exact hb.sm (R.grow g1) h2 fun w Hs2 H2 g2 d2 => q w Hs2 H2 (g1.trans g2) d2
      | true =>
        rw [if_pos rfl]
        obtain rfl := Option.some.inj h2
        exact q _ Hs1 H1 g1 (.bl true)
    | _ => cases h2⟩
theorem ed_not (ha : ED K X M a ta fa) : ED K X M (.UnaryOp .Not a pos) (tNotV ta) (fNot fa) :=
  ⟨pe_not ha.pe, fun {Hs0 H0 Hs H σ ρ d Q} R hf q => by
    obtain ⟨x, h1, h2⟩ := bind_some hf
    refine ha.sm R h1 fun v Hs1 H1 g1 d1 => ?_
    cases x with
    | bool k =>
      cases d1
      obtain rfl := Option.some.inj h2
      exact ⟨k, rfl, q _ Hs1 H1 g1 (.bl _)⟩
    | _ => cases h2⟩
/-- a if c else b -/
@[simp] def fIf (c : Rho → Option Bool) (fa fb : Fn) : Fn := fun ρ => (c ρ).bind fun k => if k = true then fa ρ else fb ρ
theorem ed_if {c : Expr} (hc : TD K X M c t ba) (ha : ED K X M a ta fa) (hb : ED K X M b tb fb) : ED K X M (.IfExp c a b pos) (tIf t ta tb) (fIf ba fa fb) :=
  ⟨pe_ifExp hc.pt ha.pe hb.pe, fun {Hs0 H0 Hs H σ ρ d Q} R hf q => by
    obtain ⟨x, h1, h2⟩ := bind_some hf
    refine hc.sm R h1 fun H1 e1 => ?_
    cases x with
    | true => rw [if_pos rfl] at h2 ⊢; exact ha.sm (R.same e1) h2 fun v Hs2 H2 g2 d2 => q v Hs2 H2 ((Grow.idle R.sub e1).trans g2) d2
    | false => rw [if_neg Bool.false_ne_true] at h2 ⊢; exact hb.sm (R.same e1) h2 fun v Hs2 H2 g2 d2 => q v Hs2 H2 ((Grow.idle R.sub e1).trans g2) d2⟩

/-! ### chains of comparisons -/
@[simp] def fChain (g g' : PyData → PyData → Option PyData) (fa fb fc : Fn) : Fn := fun ρ => (fa ρ).bind fun x => (fb ρ).bind fun y => (g x y).bind fun z => match z with
  | .bool true => (fc ρ).bind fun w => g' y w
  | .bool false => some (.bool false)
  | _ => none
theorem chain_sm {op op' : CmpOp} {r r' : R2} {g g' : PyData → PyData → Option PyData} (ho : OD K X (compareOp op) r g) (ho' : OD K X (compareOp op') r' g') (ha : ED K X M a ta fa) (hb : ED K X M b tb fb) (hc : ED K X M c tc fc)
    {Hs0 H0 Hs H : Hp} {σ : L2.St} {ρ : Rho} {d : PyData} {Q : VK} (R : SR K M Hs0 H0 Hs H σ ρ) (hf : fChain g g' fa fb fc ρ = some d) (q : ∀ v Hs' H', Grow Hs H Hs' H' → Dd K Hs' v d → Q v H') : tChain r r' ta tb tc σ H Q := by
  obtain ⟨x, h1, h2⟩ := bind_some hf
  obtain ⟨y, h2, h3⟩ := bind_some h2
  obtain ⟨z, h3, h4⟩ := bind_some h3
  refine ha.sm R h1 fun v Hs1 H1 g1 d1 => ?_
  refine hb.sm (R.grow g1) h2 fun u Hs2 H2 g2 d2 => ?_
  refine ho.sm g2.sub (d1.mono g2.exs) d2 h3 fun w Hs3 H3 g3 d3 => ?_
  cases z with
  | bool k =>
    cases d3
    refine ⟨k, rfl, ?_⟩
    cases k with
    | true =>
      rw [if_pos rfl]
      obtain ⟨w', h5, h6⟩ := bind_some h4
      refine hc.sm (((R.grow g1).grow g2).grow g3) h5 fun w Hs4 H4 g4 d4 => ?_
      exact ho'.sm g4.sub ((d2.mono g3.exs).mono g4.exs) d4 h6 fun o Hs5 H5 g5 d5 => q o Hs5 H5 ((((g1.trans g2).trans g3).trans g4).trans g5) d5
    | false =>
      rw [if_neg Bool.false_ne_true]
      obtain rfl := Option.some.inj h4
      exact q _ Hs3 H3 ((g1.trans g2).trans g3) (.bl false)
  | _ => cases h4
theorem ed_chain {op op' : CmpOp} {r r' : R2} {g g' : PyData → PyData → Option PyData} (ho : OD K X (compareOp op) r g) (ho' : OD K X (compareOp op') r' g') (ha : ED K X M a ta fa) (hb : ED K X M b tb fb) (hc : ED K X M c tc fc)
    (hm : lastMarks [op, op'] [b, c] = false := by with_unfolding_all rfl) : ED K X M (.Compare a [op, op'] [b, c] pos) (tChain r r' ta tb tc) (fChain g g' fa fb fc) :=
  ⟨pe_chain ho.op ho'.op ha.pe hb.pe hc.pe hm, fun R hf q => chain_sm ho ho' ha hb hc R hf q⟩
theorem td_chain {op op' : CmpOp} {r r' : R2} {g g' : PyData → PyData → Option PyData} (ho : OD K X (compareOp op) r g) (ho' : OD K X (compareOp op') r' g') (ha : ED K X M a ta fa) (hb : ED K X M b tb fb) (hc : ED K X M c tc fc)
    (hm : lastMarks [op, op'] [b, c] = false := by with_unfolding_all rfl) : TD K X M (.Compare a [op, op'] [b, c] pos) (tTest (tChain r r' ta tb tc)) (fB (fChain g g' fa fb fc)) :=
  ⟨pt_chain ho.op ho'.op ha.pe hb.pe hc.pe hm, fun {Hs0 H0 Hs H σ ρ k Q} R hf q => chain_sm ho ho' ha hb hc R (fB_some hf) fun v Hs1 H1 g1 d1 => by
    cases d1
    exact ⟨_, rfl, q H1 g1.ex⟩⟩

/-! ### truth of any value -/
@[simp] def gTru : PyData → Option Bool
  | .none => some false
  | .bool b => some b
  | .int i => some (i != 0)
  | .str x => if x.length ≤ 1000000 then some ((x.length : Int) != 0) else none
  | .list ds => some (!ds.isEmpty)
  | .tuple ds => some (!ds.isEmpty)
  | .dict _ => none
@[simp] def fTru (f : Fn) : Rho → Option Bool := fun ρ => (f ρ).bind gTru
theorem isEmpty_dd {H : Hp} {vs : List V} {ds : List PyData} (h : DdAll K H vs ds) : ds.isEmpty = vs.isEmpty := by
  cases h <;> rfl
theorem td_truth (ha : ED K X M e te f) (hK : X.K = K := by rfl) (he : ∀ whole, isTrue e X.env whole = (do let v ← whole; standAt e.pos; holding [v] (truthy v)) := by intro _; rfl) :
    TD K X M e (fun σ H Q => te σ H fun x H' => ∃ k, TruV K x H' k ∧ Q k H') (fTru f) := by
  subst hK
  refine ⟨pt_truth ha.pe he, fun {Hs0 H0 Hs H σ ρ k Q} R hf q => ?_⟩
  obtain ⟨d, h1, h2⟩ := bind_some hf
  refine ha.sm R h1 fun v Hs1 H1 g1 d1 => ⟨k, ?_, q H1 g1.ex⟩
  cases d1 with
  | non => exact (Option.some.inj h2).symm
  | bl b => exact (Option.some.inj h2).symm
  | int i => exact (Option.some.inj h2).symm
  | str x =>
    obtain ⟨a, b⟩ := ite_some h2
    exact ⟨szM a, b.symm⟩
  | lst h t => exact .inl ⟨_, sqL_of (g1.sub _ _ h), by rw [← isEmpty_dd t]; exact (Option.some.inj h2).symm⟩
  | tup n h t => exact .inr (.inl ⟨_, sqT_of (g1.sub _ _ h), by rw [← isEmpty_dd t]; exact (Option.some.inj h2).symm⟩)
  | scr h => cases h2
end
end DL

namespace DL
open PySem PySem.Spec PyProof.Rows L2
section
variable {K : PySem.W.Frag} {X : Cx}

/-! ### operators of ints -/
theorem od_I {op : Value → Value → Sem Value} {C : Int → Int → Prop} [DecidableRel C] {h : Int → Int → V} {g : Int → Int → PyData} (ho : OpR X op (rI C h)) (hd : ∀ (H : Hp) i j, Dd K H (h i j) (g i j)) :
    OD K X op (rI C h) (fun x y => match x, y with
      | .int i, .int j => if C i j then some (g i j) else none
      | _, _ => none) :=
  ⟨ho, fun {Hs H x y dx dy d Q} e a b hf q => by
    cases a <;> cases b <;> first
      | (cases hf; done)
      | (rename_i i j
         obtain ⟨hc, rfl⟩ := ite_some hf
         exact ⟨i, j, rfl, rfl, hc, q _ Hs H (Grow.refl e) (hd _ i j)⟩)⟩
theorem od_I0 {op : Value → Value → Sem Value} {h : Int → Int → V} {g : Int → Int → PyData} (ho : OpR X op (rI0 h)) (hd : ∀ (H : Hp) i j, Dd K H (h i j) (g i j)) :
    OD K X op (rI0 h) (fun x y => match x, y with
      | .int i, .int j => some (g i j)
      | _, _ => none) :=
  ⟨ho, fun {Hs H x y dx dy d Q} e a b hf q => by
    cases a <;> cases b <;> first
      | (cases hf; done)
      | (rename_i i j
         obtain rfl := Option.some.inj hf
         exact ⟨i, j, rfl, rfl, q _ Hs H (Grow.refl e) (hd _ i j)⟩)⟩
@[simp] def gI (g : Int → Int → Int) : PyData → PyData → Option PyData := fun x y => match x, y with
  | .int i, .int j => some (.int (g i j))
  | _, _ => none
@[simp] def gIc (C : Int → Int → Prop) [DecidableRel C] (g : Int → Int → Int) : PyData → PyData → Option PyData := fun x y => match x, y with
  | .int i, .int j => if C i j then some (.int (g i j)) else none
  | _, _ => none
@[simp] def gIb (g : Int → Int → Bool) : PyData → PyData → Option PyData := fun x y => match x, y with
  | .int i, .int j => some (.bool (g i j))
  | _, _ => none
theorem od_sub : OD K X (binaryOp .Sub) (rI0 fun i j => .int (i - j)) (gI fun i j => i - j) := od_I0 (g := fun i j => .int (i - j)) op_sub fun _ _ _ => .int _
/-- conditions are not reckoned but shown -/
noncomputable instance : DecidableRel CDiv := fun _ _ => Classical.propDecidable _
noncomputable instance : DecidableRel CPow := fun _ _ => Classical.propDecidable _
def MulOk (i j : Int) : Prop := CMul i j ∨ CMulX i j
noncomputable instance : DecidableRel MulOk := fun _ _ => Classical.propDecidable _
theorem op_mulO : OpR X (binaryOp .Mult) (rI MulOk fun i j => .int (i * j)) := opI fun _ _ _ _ _ _ _ hc q => mul_int q (hc.elim CMul.ok CMulX.ok)
theorem od_mod : OD K X (binaryOp .Mod) (rI (fun _ j => 0 < j) fun i j => .int (i % j)) (gIc (fun _ j => 0 < j) fun i j => i % j) := od_I (C := fun _ j => 0 < j) (g := fun i j => .int (i % j)) op_mod fun _ _ _ => .int _
theorem od_fdiv : OD K X (binaryOp .FloorDiv) (rI CDiv fun i j => .int (i / j)) (gIc CDiv fun i j => i / j) := od_I (g := fun i j => .int (i / j)) op_fdiv fun _ _ _ => .int _
theorem od_pow : OD K X (binaryOp .Pow) (rI CPow fun i j => .int (i ^ j.toNat)) (gIc CPow fun i j => i ^ j.toNat) := od_I (g := fun i j => .int (i ^ j.toNat)) op_pow fun _ _ _ => .int _
theorem od_shr : OD K X (binaryOp .RShift) (rI (fun _ j => 0 ≤ j) fun i j => .int (i / 2 ^ j.toNat)) (gIc (fun _ j => 0 ≤ j) fun i j => i / 2 ^ j.toNat) := od_I (C := fun _ j => 0 ≤ j) (g := fun i j => .int (i / 2 ^ j.toNat)) op_shr fun _ _ _ => .int _
theorem od_and : OD K X (binaryOp .BitAnd) (rI0 fun i j => .int (Builtin.bitAnd i j)) (gI fun i j => Builtin.bitAnd i j) := od_I0 (g := fun i j => .int (Builtin.bitAnd i j)) op_and fun _ _ _ => .int _
theorem od_lt : OD K X (compareOp .Lt) (rI0 fun i j => .bl (decide (i < j))) (gIb fun i j => decide (i < j)) := od_I0 (g := fun i j => .bool (decide (i < j))) op_lt fun _ _ _ => .bl _
theorem od_le : OD K X (compareOp .LtE) (rI0 fun i j => .bl (decide (i ≤ j))) (gIb fun i j => decide (i ≤ j)) := od_I0 (g := fun i j => .bool (decide (i ≤ j))) op_le fun _ _ _ => .bl _
theorem od_gt : OD K X (compareOp .Gt) (rI0 fun i j => .bl (decide (j < i))) (gIb fun i j => decide (j < i)) := od_I0 (g := fun i j => .bool (decide (j < i))) op_gt fun _ _ _ => .bl _
theorem od_ge : OD K X (compareOp .GtE) (rI0 fun i j => .bl (decide (j ≤ i))) (gIb fun i j => decide (j ≤ i)) := od_I0 (g := fun i j => .bool (decide (j ≤ i))) op_ge fun _ _ _ => .bl _
@[simp] def gNeg : PyData → Option PyData := fun x => match x with
  | .int i => some (.int (-i))
  | _ => none
theorem un_neg' {M : List Nat} {a : Expr} {ta : TE} {fa : Fn} {pos : Pos} (ha : ED K X M a ta fa) : ED K X M (.UnaryOp .USub a pos) (tUn (rU fun i => .int (-i)) ta) (f1 gNeg fa) :=
  ⟨pe_un un_neg ha.pe, fun {Hs0 H0 Hs H σ ρ d Q} R hf q => by
    obtain ⟨x, h1, h2⟩ := bind_some hf
    refine ha.sm R h1 fun v Hs1 H1 g1 d1 => ?_
    cases d1 <;> first
      | (cases h2; done)
      | (obtain rfl := Option.some.inj h2
         exact ⟨_, rfl, q _ Hs1 H1 g1 (.int _)⟩)⟩

/-! ### +, of ints, texts, tuples, lists -/
def rCatN (K : PySem.W.Frag) : R2 := fun x y H Q => ∃ a b xs ys, x = .ref a ∧ y = .ref b ∧ SqT K H a xs ∧ SqT K H b ys ∧ xs.length + ys.length ≤ sizeLine ∧
  (xs = [] → Q (.ref b) H) ∧ (xs ≠ [] → ys = [] → Q (.ref a) H) ∧ (xs ≠ [] → ys ≠ [] → NewT Q H (xs ++ ys))
theorem op_catN : OpR X (binaryOp .Add) (rCatN X.K) := by
  intro pins s σ H x y v u Q I rx ry h
  obtain ⟨a, b, xs, ys, rfl, rfl, ha, hb, hz, q0, q1, q2⟩ := h
  cases rx
  cases ry
  obtain ⟨its, r1, p1, _⟩ := I.tuple ha
  obtain ⟨its2, r2, p2, _⟩ := I.tuple hb
  by_cases hx : xs = []
  · subst hx
    cases r1
    exact cat_tup0 p1 p2 ⟨.ref b, H, I, rfl, q0 rfl⟩
  · refine HT.cat_tup p1 p2 (fun z => hx (r1.nil_iff.mp z)) (fun z => ⟨.ref a, H, I, rfl, q1 hx (r2.nil_iff.mp z)⟩) (fun z => ?_) (by rw [← r1.length, ← r2.length]; exact hz)
    exact ⟨.ref s.heap.objs.size, _, Inv.tupN (t' := s.toks) I (r1.append r2) (by rw [List.length_append]; exact hz), rfl, q2 hx (fun w => z (r2.nil_iff.mpr w)) _ _ rfl (I.hok.fresh (Nat.le_refl _))⟩
def rAddD (K : PySem.W.Frag) : R2 := fun x y H Q => rI0 (fun i j => .int (i + j)) x y H Q ∨ (∃ i j, x = .str i ∧ y = .str j ∧ i.length + j.length ≤ sizeLine ∧ Q (.str (i ++ j)) H) ∨ rCatN K x y H Q ∨ rCat x y H Q
@[simp] def gAdd : PyData → PyData → Option PyData
  | .int a, .int b => some (.int (a + b))
  | .str a, .str b => if a.length + b.length ≤ 1000000 then some (.str (a ++ b)) else none
  | .tuple a, .tuple b => if a.length + b.length ≤ 1000000 then some (.tuple (a ++ b)) else none
  | .list a, .list b => if a.length + b.length ≤ 1000000 then some (.list (a ++ b)) else none
  | _, _ => none
theorem od_add (hK : X.K = K := by rfl) : OD K X (binaryOp .Add) (rAddD K) gAdd := by
  subst hK
  refine ⟨op_add.or (op_add_str.or (op_catN.or op_cat)), fun {Hs H x y dx dy d Q} e a b hf q => ?_⟩
  cases a with
  | int i =>
    cases b with
    | int j =>
      obtain rfl := Option.some.inj hf
      exact .inl ⟨i, j, rfl, rfl, q _ Hs H (Grow.refl e) (.int _)⟩
    | _ => cases hf
  | str i =>
    cases b with
    | str j =>
      obtain ⟨hl, rfl⟩ := ite_some hf
      exact .inr (.inl ⟨i, j, rfl, rfl, szM hl, q _ Hs H (Grow.refl e) (.str _)⟩)
    | _ => cases hf
  | @tup a1 ob1 xs ds n1 h1 t1 =>
    cases b with
    | @tup a2 ob2 ys es n2 h2 t2 =>
      obtain ⟨hl, rfl⟩ := ite_some hf
      refine .inr (.inr (.inl ⟨a1, a2, xs, ys, rfl, rfl, sqT_of (e _ _ h1), sqT_of (e _ _ h2), szM (by rw [t1.length, t2.length]; exact hl), fun z => ?_, fun _ z => ?_, fun _ _ => NewT.of (Grow.refl e) (t1.append t2) q⟩))
      · subst z
        cases t1
        exact q _ Hs H (Grow.refl e) (.tup n2 h2 t2)
      · subst z
        cases t2
        rw [List.append_nil] at q
        exact q _ Hs H (Grow.refl e) (.tup n1 h1 t1)
    | _ => cases hf
  | @lst a1 xs ds h1 t1 =>
    cases b with
    | @lst a2 ys es h2 t2 =>
      obtain ⟨hl, rfl⟩ := ite_some hf
      refine .inr (.inr (.inr ⟨a1, a2, xs, ys, rfl, rfl, e _ _ h1, e _ _ h2, szM (by rw [t1.length, t2.length]; exact hl), fun p hp => ?_⟩))
      have g2 : Grow Hs H (upd Hs p (.lst (xs ++ ys))) (upd H p (.lst (xs ++ ys))) := Grow.alloc e hp
      exact q _ _ _ g2 (.lst upd_same ((t1.append t2).mono g2.exs))
    | _ => cases hf
  | _ => cases hf

/-! ### * -/
/-- a tuple times an int: nothing, itself, or anew -/
theorem flat_rep_nil {α : Type} (n : Nat) : (List.replicate n ([] : List α)).flatten = [] := by
  induction n with
  | zero => rfl
  | succ n ih => rw [List.replicate_succ, List.flatten_cons, ih]; rfl
/-! ### ==, != of data; is; in -/
def gEq (neg : Bool) : PyData → PyData → Option PyData := fun x y => if SeqAt.shaped x = true ∧ SeqAt.shaped y = true then some (.bool (xor neg (PyData.eqv x y))) else none
theorem od_eq {k : Nat} (hr : Room k X.A) (hK : X.K = K := by rfl) : OD K X (compareOp .Eq) (rEqD K) (gEq false) := by
  subst hK
  refine ⟨op_eqD hr.units, fun {Hs H x y dx dy d Q} e a b hf q => ?_⟩
  obtain ⟨⟨c1, c2⟩, rfl⟩ := ite_some hf
  refine ⟨dx, dy, (a.mono e).dp (SeqAt.canLay_of_shaped c1), (b.mono e).dp (SeqAt.canLay_of_shaped c2), c1, c2, ?_⟩
  have := q (.bl (xor false (PyData.eqv dx dy))) Hs H (Grow.refl e) (.bl _)
  rwa [Bool.false_xor] at this
theorem od_ne {k : Nat} (hr : Room k X.A) (hK : X.K = K := by rfl) : OD K X (compareOp .NotEq) (rNeD K) (gEq true) := by
  subst hK
  refine ⟨op_neD hr.units, fun {Hs H x y dx dy d Q} e a b hf q => ?_⟩
  obtain ⟨⟨c1, c2⟩, rfl⟩ := ite_some hf
  refine ⟨dx, dy, (a.mono e).dp (SeqAt.canLay_of_shaped c1), (b.mono e).dp (SeqAt.canLay_of_shaped c2), c1, c2, ?_⟩
  have := q (.bl (xor true (PyData.eqv dx dy))) Hs H (Grow.refl e) (.bl _)
  rwa [Bool.true_xor] at this
/-- is, is not: of truths, or with None on the right -/
@[simp] def gIs (neg : Bool) : PyData → PyData → Option PyData
  | .bool a, .bool b => some (.bool (xor neg (decide (a = b))))
  | .none, .none => some (.bool (xor neg true))
  | .bool _, .none => some (.bool (xor neg false))
  | .int _, .none => some (.bool (xor neg false))
  | .str _, .none => some (.bool (xor neg false))
  | .tuple _, .none => some (.bool (xor neg false))
  | .list _, .none => some (.bool (xor neg false))
  | _, _ => none
def rIsD (neg : Bool) : R2 := fun x y H Q => (∃ a b, x = .bl a ∧ y = .bl b ∧ Q (.bl (xor neg (decide (a = b)))) H) ∨ (y = .non ∧ Q (.bl (xor neg (decide (x = .non)))) H)
theorem is_sm {neg : Bool} {Hs H : Hp} {x y : V} {dx dy d : PyData} {Q : VK} (e : Same Hs H) (a : Dd K Hs x dx) (b : Dd K Hs y dy) (hf : gIs neg dx dy = some d) (q : ∀ v Hs' H', Grow Hs H Hs' H' → Dd K Hs' v d → Q v H') : rIsD neg x y H Q := by
  cases b with
  | bl k =>
    cases a <;> first
      | (cases hf; done)
      | (rename_i j
         obtain rfl := Option.some.inj hf
         exact .inl ⟨j, k, rfl, rfl, q _ Hs H (Grow.refl e) (.bl _)⟩)
  | non =>
    refine .inr ⟨rfl, ?_⟩
    have z : ∀ (u : V), u ≠ .non → decide (u = .non) = false := fun u hu => decide_eq_false hu
    cases a with
    | non =>
      obtain rfl := Option.some.inj hf
      exact q _ Hs H (Grow.refl e) (.bl _)
    | bl j =>
      obtain rfl := Option.some.inj hf
      rw [z (.bl j) (fun w => nomatch w)]
      exact q _ Hs H (Grow.refl e) (.bl _)
    | int j =>
      obtain rfl := Option.some.inj hf
      rw [z (.int j) (fun w => nomatch w)]
      exact q _ Hs H (Grow.refl e) (.bl _)
    | str j =>
      obtain rfl := Option.some.inj hf
      rw [z (.str j) (fun w => nomatch w)]
      exact q _ Hs H (Grow.refl e) (.bl _)
    | lst h t =>
      obtain rfl := Option.some.inj hf
      rw [z (.ref _) (fun w => nomatch w)]
      exact q _ Hs H (Grow.refl e) (.bl _)
    | tup n h t =>
      obtain rfl := Option.some.inj hf
      rw [z (.ref _) (fun w => nomatch w)]
      exact q _ Hs H (Grow.refl e) (.bl _)
    | scr h => cases hf
  | _ => cases a <;> cases hf
theorem od_is : OD K X (compareOp .Is) (rIsD false) (gIs false) :=
  ⟨fun pins s σ H x y v u Q I rx ry h => by
    rcases h with ⟨a, b, rfl, rfl, q⟩ | ⟨rfl, q⟩
    · exact op_isBl pins s σ H _ _ v u Q I rx ry ⟨a, b, rfl, rfl, by rwa [Bool.false_xor] at q⟩
    · exact op_isN pins s σ H _ _ v u Q I rx ry ⟨rfl, by rwa [Bool.false_xor] at q⟩, is_sm⟩
theorem od_isNot : OD K X (compareOp .IsNot) (rIsD true) (gIs true) :=
  ⟨fun pins s σ H x y v u Q I rx ry h => by
    rcases h with ⟨a, b, rfl, rfl, q⟩ | ⟨rfl, q⟩
    · exact op_notBl pins s σ H _ _ v u Q I rx ry ⟨a, b, rfl, rfl, by rwa [Bool.true_xor] at q⟩
    · exact op_notN pins s σ H _ _ v u Q I rx ry ⟨rfl, by rwa [Bool.true_xor] at q⟩, is_sm⟩

@[simp] def flatD : PyData → Bool
  | .none => true
  | .bool _ => true
  | .int _ => true
  | .str _ => true
  | _ => false
theorem flat_dv {H : Hp} {v : V} {d : PyData} (a : Dd K H v d) (f : flatD d = true) : flatV v = true := by
  cases a <;> first | rfl | cases f
theorem flats_dv {H : Hp} : ∀ {vs : List V} {ds : List PyData}, DdAll K H vs ds → ds.all flatD = true → vs.all flatV = true
  | _, _, .nil, _ => rfl
  | _, _, .cons a r, f => by
    rw [List.all_cons, Bool.and_eq_true] at f ⊢
    exact ⟨flat_dv a f.1, flats_dv r f.2⟩
theorem eqV_dv {H : Hp} {v u : V} {d e : PyData} (a : Dd K H v d) (b : Dd K H u e) (fd : flatD d = true) (fe : flatD e = true) : eqV v u = PyData.eqv d e := by
  cases a <;> cases b <;> first | rfl | cases fd | cases fe
theorem inV_dv {H : Hp} {x : V} {d : PyData} (a : Dd K H x d) (fd : flatD d = true) : ∀ {vs : List V} {ds : List PyData}, DdAll K H vs ds → ds.all flatD = true → inV x vs = ds.any fun z => PyData.eqv z d
  | _, _, .nil, _ => rfl
  | _, _, .cons b r, f => by
    rw [List.all_cons, Bool.and_eq_true] at f
    show (eqV _ x || inV x _) = _
    rw [List.any_cons, eqV_dv b a f.1 fd, inV_dv a fd r f.2]
def gIn (neg : Bool) : PyData → PyData → Option PyData := fun x y => match y with
  | .list ds => if (flatD x = true ∧ ds.all flatD = true) ∨ (SeqAt.shaped x = true ∧ SeqAt.shaped (.list ds) = true) then some (.bool (xor neg (ds.any fun z => PyData.eqv z x))) else none
  | .tuple ds => if flatD x = true ∧ ds.all flatD = true then some (.bool (xor neg (ds.any fun z => PyData.eqv z x))) else none
  | _ => none
def rInN (K : PySem.W.Frag) (neg : Bool) : R2 := fun x y H Q => rIn K neg x y H Q ∨ (if neg = true then rNotInD K x y H Q else rInD K x y H Q)
theorem in_sm {neg : Bool} {Hs H : Hp} {x y : V} {dx dy d : PyData} {Q : VK} (e : Same Hs H) (a : Dd K Hs x dx) (b : Dd K Hs y dy) (hf : gIn neg dx dy = some d) (q : ∀ v Hs' H', Grow Hs H Hs' H' → Dd K Hs' v d → Q v H') : rInN K neg x y H Q := by
  cases b with
  | @lst p ys ds h t =>
    obtain ⟨hc, rfl⟩ := ite_some hf
    rcases hc with ⟨c1, c2⟩ | ⟨c1, c2⟩
    · refine .inl ⟨p, ys, rfl, .inl (sqL_of (e _ _ h)), flat_dv a c1, flats_dv t c2, ?_⟩
      rw [inV_dv a c1 t c2]
      cases neg with
      | true => have := q (.bl (xor true (ds.any fun z => PyData.eqv z dx))) Hs H (Grow.refl e) (.bl _); rwa [Bool.true_xor] at this
      | false => have := q (.bl (xor false (ds.any fun z => PyData.eqv z dx))) Hs H (Grow.refl e) (.bl _); rwa [Bool.false_xor] at this
    · refine .inr ?_
      have d1 : Dp K H x dx := (a.mono e).dp (SeqAt.canLay_of_shaped c1)
      have d2 : Dp K H (.ref p) (.list ds) := ((Dd.lst h t : Dd K Hs (.ref p) (.list ds)).mono e).dp (SeqAt.canLay_of_shaped c2)
      cases neg with
      | true => rw [if_pos rfl]; exact ⟨dx, ds, d1, d2, c1, c2, by have := q (.bl (xor true (ds.any fun z => PyData.eqv z dx))) Hs H (Grow.refl e) (.bl _); rwa [Bool.true_xor] at this⟩
      | false => rw [if_neg Bool.false_ne_true]; exact ⟨dx, ds, d1, d2, c1, c2, by have := q (.bl (xor false (ds.any fun z => PyData.eqv z dx))) Hs H (Grow.refl e) (.bl _); rwa [Bool.false_xor] at this⟩
  | @tup p ob ys ds n h t =>
    obtain ⟨⟨c1, c2⟩, rfl⟩ := ite_some hf
    refine .inl ⟨p, ys, rfl, .inr (sqT_of (e _ _ h)), flat_dv a c1, flats_dv t c2, ?_⟩
    rw [inV_dv a c1 t c2]
    cases neg with
    | true => have := q (.bl (xor true (ds.any fun z => PyData.eqv z dx))) Hs H (Grow.refl e) (.bl _); rwa [Bool.true_xor] at this
    | false => have := q (.bl (xor false (ds.any fun z => PyData.eqv z dx))) Hs H (Grow.refl e) (.bl _); rwa [Bool.false_xor] at this
  | _ => cases hf
theorem od_in {k : Nat} (hr : Room k X.A) (hK : X.K = K := by rfl) : OD K X (compareOp .In) (rInN K false) (gIn false) := by
  subst hK
  exact ⟨fun pins s σ H x y v u Q I rx ry h => by
    rcases h with h | h
    · exact op_in_seq pins s σ H x y v u Q I rx ry h
    · rw [if_neg Bool.false_ne_true] at h
      exact op_inD (by have := hr.un; omega) pins s σ H x y v u Q I rx ry h, in_sm⟩
theorem od_notIn {k : Nat} (hr : Room k X.A) (hK : X.K = K := by rfl) : OD K X (compareOp .NotIn) (rInN K true) (gIn true) := by
  subst hK
  exact ⟨fun pins s σ H x y v u Q I rx ry h => by
    rcases h with h | h
    · exact op_notIn_seq pins s σ H x y v u Q I rx ry h
    · rw [if_pos rfl] at h
      exact op_notInD (by have := hr.un; omega) pins s σ H x y v u Q I rx ry h, in_sm⟩
end
end DL

namespace DL
open PySem PySem.Spec PyProof.Rows L2
section
variable {K : PySem.W.Frag} {X : Cx} {M : List Nat} {a b c e : Expr} {es : List Expr} {ta tb tc te : TE} {t u : TT} {fa fb fc f : Fn} {pos p pos' : Pos} {ba : Rho → Option Bool}

/-! ### subscripts, slices -/
def cutA {α : Type} (xs : List α) (lo hi : Option Int) : List α := (xs.drop (HT.sIx xs.length 0 lo)).take (HT.sIx xs.length xs.length hi - HT.sIx xs.length 0 lo)
theorem DdAll.at {H : Hp} {vs : List V} {ds : List PyData} {i : Int} {d : PyData} (t : DdAll K H vs ds) (h : atI ds i = some d) : ∃ v, atI vs i = some v ∧ Dd K H v d := by
  unfold atI at h ⊢
  rw [t.length]
  obtain ⟨j, h1, h2⟩ := bind_some h
  obtain ⟨v, h3, h4⟩ := t.get h2
  exact ⟨v, by rw [h1]; exact h3, h4⟩
theorem DdAll.cut {H : Hp} {vs : List V} {ds : List PyData} (t : DdAll K H vs ds) (lo hi : Option Int) : DdAll K H (cutV vs lo hi) (cutA ds lo hi) := by
  unfold cutV cutA
  rw [t.length]
  exact (t.drop _).take _
theorem scr_fst (ns : List Int) : (scrK ns).map (·.1) = ns.map PyData.int := by
  unfold scrK
  rw [List.map_map]
  rfl
def gIx : PyData → PyData → Option PyData := fun x y => match y with
  | .int i => (match x with
    | .list ds => atI ds i
    | .tuple ds => atI ds i
    | .dict kvs => atI (kvs.map (·.1)) i
    | .str z => if z.length ≤ 1000000 then (atI z.cps.toList i).map fun c => .str ⟨#[c]⟩ else none
    | _ => none)
  | _ => none
@[simp] theorem gIx_list (ds : List PyData) (i : Int) : gIx (.list ds) (.int i) = atI ds i := rfl
@[simp] theorem gIx_tuple (ds : List PyData) (i : Int) : gIx (.tuple ds) (.int i) = atI ds i := rfl
@[simp] theorem gIx_scr (kvs : List (PyData × PyData)) (i : Int) : gIx (.dict kvs) (.int i) = atI (kvs.map (·.1)) i := rfl
theorem ix_sm {Hs H : Hp} {x y : V} {dx dy d : PyData} {Q : VK} (e : Same Hs H) (a : Dd K Hs x dx) (b : Dd K Hs y dy) (hf : gIx dx dy = some d) (q : ∀ v Hs' H', Grow Hs H Hs' H' → Dd K Hs' v d → Q v H') : rIx K x y H Q := by
  cases b with
  | int i =>
    cases a with
    | @lst p xs ds h t =>
      obtain ⟨v, h1, h2⟩ := t.at hf
      exact .inl ⟨p, xs, i, v, rfl, rfl, sqL_of (e _ _ h), h1, q v Hs H (Grow.refl e) h2⟩
    | @tup p ob xs ds n h t =>
      obtain ⟨v, h1, h2⟩ := t.at hf
      exact .inr (.inl ⟨p, xs, i, v, rfl, rfl, sqT_of (e _ _ h), h1, q v Hs H (Grow.refl e) h2⟩)
    | @scr p ns h =>
      have hf : atI ((scrK ns).map (·.1)) i = some d := hf
      rw [scr_fst] at hf
      obtain ⟨v, h1, h2⟩ := (DdAll.ints (K := K) (H := Hs) ns).at hf
      exact .inl ⟨p, _, i, v, rfl, rfl, e.seq h, h1, q v Hs H (Grow.refl e) h2⟩
    | str z =>
      have hf : (if z.length ≤ 1000000 then (atI z.cps.toList i).map fun c => PyData.str ⟨#[c]⟩ else none) = some d := hf
      by_cases hl : z.length ≤ 1000000
      · rw [if_pos hl] at hf
        cases h1 : atI z.cps.toList i with
        | none => rw [h1] at hf; cases hf
        | some c =>
          rw [h1] at hf
          cases hf
          exact .inr (.inr ⟨z, i, c, rfl, rfl, szM hl, h1, q _ Hs H (Grow.refl e) (.str _)⟩)
      · rw [if_neg hl] at hf; cases hf
    | _ => cases hf
  | _ => cases hf
theorem ed_ix (ha : ED K X M a ta fa) (hb : ED K X M b tb fb) (hK : X.K = K := by rfl) (hs : PlainIx b := by exact fun _ _ => rfl) : ED K X M (.Subscript a b pos) (tOp (rIx K) ta tb) (f2 gIx fa fb) := by
  subst hK
  exact ⟨pe_ix ix_seq ha.pe hb.pe hs, fun R hf q => two_sm ix_sm ha hb R hf q⟩

structure PD (K : PySem.W.Frag) (X : Cx) (M : List Nat) (e : Option Expr) (t : TO) (f : Rho → Option (Option Int)) : Prop where
  po : PO X e t
  sm : ∀ {Hs0 H0 Hs H : Hp} {σ : L2.St} {ρ : Rho} {o : Option Int} {Q : Option Int → Hp → Prop}, SR K M Hs0 H0 Hs H σ ρ → f ρ = some o → (∀ Hs' H', Grow Hs H Hs' H' → Q o H') → t σ H Q
@[simp] def pNone : Rho → Option (Option Int) := fun _ => some none
@[simp] def pSome (f : Fn) : Rho → Option (Option Int) := fun ρ => (f ρ).bind fun d => match d with
  | .int i => some (some i)
  | _ => none
theorem pd_none : PD K X M none tNoPart pNone := ⟨po_none, fun {Hs0 H0 Hs H σ ρ o Q} R hf q => by cases hf; exact q Hs H (Grow.refl R.sub)⟩
theorem pd_some (h : ED K X M e te f) : PD K X M (some e) (tPart te) (pSome f) :=
  ⟨po_some h.pe, fun {Hs0 H0 Hs H σ ρ o Q} R hf q => by
    obtain ⟨d, h1, h2⟩ := bind_some hf
    refine h.sm R h1 fun v Hs1 H1 g1 d1 => ?_
    cases d1 <;> first
      | (cases h2; done)
      | (obtain rfl := Option.some.inj h2
         exact ⟨_, rfl, q Hs1 H1 g1⟩)⟩
def rSlN (K : PySem.W.Frag) : V → Option Int → Option Int → Hp → VK → Prop := fun x lo hi H Q => ∃ a xs, x = .ref a ∧ SqT K H a xs ∧
  (HT.sIx xs.length 0 lo = 0 ∧ HT.sIx xs.length xs.length hi = xs.length → Q (.ref a) H) ∧ (¬ (HT.sIx xs.length 0 lo = 0 ∧ HT.sIx xs.length xs.length hi = xs.length) → NewT Q H (cutV xs lo hi))
theorem sl_tupN : SlR X (rSlN X.K) := by
  intro pins s σ H x v vl vu lo hi sl Q I rx hs pl pu h
  obtain ⟨a, xs, rfl, hx, q1, q2⟩ := h
  cases rx
  obtain ⟨its, r, ht, hz⟩ := I.tuple hx
  have hlen : its.toArray.size = xs.length := by rw [List.size_toArray]; exact r.length.symm
  by_cases hw : HT.sIx xs.length 0 lo = 0 ∧ HT.sIx xs.length xs.length hi = xs.length
  · refine ⟨"tuple", _, PyProof.Rows.slot_tuple_getitem.lookup, ht.typeIs, ?_⟩
    exact getItem_tuple_whole ht hs pl pu (by rw [hlen]; exact hw) ⟨.ref a, H, I, rfl, q1 hw⟩
  · refine ⟨"tuple", _, PyProof.Rows.slot_tuple_getitem.lookup, ht.typeIs, ?_⟩
    refine HT.getItem_tuple_cut ht hs pl pu (by rw [hlen]; exact hw) ?_ (by rw [hlen]; exact hz)
    rw [hlen]
    exact ⟨.ref s.heap.objs.size, _, Inv.tupN (t' := s.toks) I ((r.drop (HT.sIx xs.length 0 lo)).take (HT.sIx xs.length xs.length hi - HT.sIx xs.length 0 lo)) (Nat.le_trans (cutV_length xs lo hi) hz), rfl, q2 hw _ _ rfl (I.hok.fresh (Nat.le_refl _))⟩
def rSlD (K : PySem.W.Frag) : V → Option Int → Option Int → Hp → VK → Prop := fun x lo hi H Q => rSlL K x lo hi H Q ∨ rSlN K x lo hi H Q ∨ rSlS x lo hi H Q
@[simp] def gSl (x : PyData) (lo hi : Option Int) : Option PyData := match x with
  | .list ds => some (.list (cutA ds lo hi))
  | .tuple ds => some (.tuple (cutA ds lo hi))
  | .dict kvs => some (.list (cutA (kvs.map (·.1)) lo hi))
  | .str z => if z.length ≤ 1000000 then some (.str (cutS z lo hi)) else none
  | _ => none
@[simp] def fSl (f : Fn) (fl fh : Rho → Option (Option Int)) : Fn := fun ρ => (f ρ).bind fun x => (fl ρ).bind fun lo => (fh ρ).bind fun hi => gSl x lo hi
theorem newL {Q : VK} {Hs Hs1 H H1 : Hp} {vs : List V} {ds : List PyData} (g1 : Grow Hs H Hs1 H1) (d1 : DdAll K Hs1 vs ds) (q : ∀ v Hs' H', Grow Hs H Hs' H' → Dd K Hs' v (.list ds) → Q v H') : ∀ p, H1 p = none → Q (.ref p) (upd H1 p (.lst vs)) := fun p hp => by
  have g2 : Grow Hs1 H1 (upd Hs1 p (.lst vs)) (upd H1 p (.lst vs)) := Grow.alloc g1.sub hp
  exact q _ _ _ (g1.trans g2) (.lst upd_same (d1.mono g2.exs))
theorem cutA_whole {α : Type} {xs : List α} {lo hi : Option Int} (h : HT.sIx xs.length 0 lo = 0 ∧ HT.sIx xs.length xs.length hi = xs.length) : cutA xs lo hi = xs := by
  unfold cutA
  rw [h.1, h.2, List.drop_zero, Nat.sub_zero, List.take_length]
theorem ed_sl {lo hi : Option Expr} {tl th : TO} {fl fh : Rho → Option (Option Int)} {p2 : Pos} (he : ED K X M e te f) (hl : PD K X M lo tl fl) (hh : PD K X M hi th fh) (hK : X.K = K := by rfl) :
    ED K X M (.Subscript e (.Slice lo hi none p2) pos) (tSl (rSlD K) te tl th) (fSl f fl fh) := by
  subst hK
  refine ⟨pe_slice (sl_list.or (sl_tupN.or sl_str)) he.pe hl.po hh.po, fun {Hs0 H0 Hs H σ ρ d Q} R hf q => ?_⟩
  obtain ⟨x, h1, hf⟩ := bind_some hf
  obtain ⟨l, h2, hf⟩ := bind_some hf
  obtain ⟨h, h3, hf⟩ := bind_some hf
  refine he.sm R h1 fun v Hs1 H1 g1 d1 => ?_
  refine hl.sm (R.grow g1) h2 fun Hs2 H2 g2 => ?_
  refine hh.sm ((R.grow g1).grow g2) h3 fun Hs3 H3 g3 => ?_
  have g := (g1.trans g2).trans g3
  have d3 := (d1.mono g2.exs).mono g3.exs
  cases d3 with
  | @lst p xs ds hp t =>
    obtain rfl := Option.some.inj hf
    exact .inl ⟨p, xs, rfl, sqL_of (g3.sub _ _ hp), newL g (t.cut l h) q⟩
  | @scr p ns hp =>
    have hf : some (PyData.list (cutA ((scrK ns).map (·.1)) l h)) = some d := hf
    rw [scr_fst] at hf
    obtain rfl := Option.some.inj hf
    exact .inl ⟨p, _, rfl, g3.sub.seq hp, newL g ((DdAll.ints (K := X.K) (H := Hs3) ns).cut l h) q⟩
  | @tup p ob xs ds n hp t =>
    obtain rfl := Option.some.inj hf
    refine .inr (.inl ⟨p, xs, rfl, sqT_of (g3.sub _ _ hp), fun z => ?_, fun _ => NewT.of g (t.cut l h) q⟩)
    rw [t.length] at z
    rw [cutA_whole z] at q
    exact q _ Hs3 H3 g (.tup n hp t)
  | str z =>
    obtain ⟨hl, rfl⟩ := ite_some hf
    exact .inr (.inr ⟨z, rfl, szM hl, q _ Hs3 H3 g (.str _)⟩)
  | _ => cases hf

/-! ### built-ins -/
structure BD (K : PySem.W.Frag) (X : Cx) (fv : Value) (r : List V → Hp → VK → Prop) (g : List PyData → Option PyData) : Prop where
  cr : CallR X fv r
  sm : ∀ {Hs H : Hp} {xs : List V} {ds : List PyData} {d : PyData} {Q : VK}, Same Hs H → DdAll K Hs xs ds → g ds = some d → (∀ v Hs' H', Grow Hs H Hs' H' → Dd K Hs' v d → Q v H') → r xs H Q
@[simp] def fBi (g : List PyData → Option PyData) (fa : Rho → Option (List PyData)) : Fn := fun ρ => (fa ρ).bind g
variable {tr : TA} {fr : Rho → Option (List PyData)} {x : Str} {r : List V → Hp → VK → Prop} {g : List PyData → Option PyData} {id T : String}
theorem bi_sm {fv : Value} (h : BD K X fv r g) (ha : AD K X M es tr fr) {Hs0 H0 Hs H : Hp} {σ : L2.St} {ρ : Rho} {d : PyData} {Q : VK} (R : SR K M Hs0 H0 Hs H σ ρ) (hf : fBi g fr ρ = some d) (q : ∀ v Hs' H', Grow Hs H Hs' H' → Dd K Hs' v d → Q v H') : tCB r tr σ H Q := by
  obtain ⟨ds, h1, h2⟩ := bind_some hf
  exact ha.sm R h1 fun vs Hs1 H1 g1 d1 => h.sm g1.sub d1 h2 fun v Hs2 H2 g2 d2 => q v Hs2 H2 (g1.trans g2) d2
theorem ed_bi (h : BD K X (.builtin id) r g) (hm : X.mg x = none) (hv : bootBuiltins x = some (.builtin id)) (ha : AD K X M (e :: es) tr fr) (hg : Gl X x := by rfl) (hn : x ≠ "__name__" := by decide) (hdb : (x == ("__debug__" : Str)) = false := by decide)
    (he : starEach (e :: es) X.env = (false, eval e X.env) :: starEach es X.env := by rfl) (hpl : (backTo pos (starEach es X.env)).any (·.1) = false := by rfl) : ED K X M (.Call (.Name x p) (e :: es) [] pos) (tCB r tr) (fBi g fr) :=
  ⟨pe_callB h.cr hg hm hv ha.pa hn hdb he hpl, fun R hf q => bi_sm h ha R hf q⟩
theorem ed_ty (h : BD K X (.type T) r g) (hm : X.mg x = none) (hv : bootBuiltins x = some (.type T)) (ha : AD K X M (e :: es) tr fr) (hg : Gl X x := by rfl) (hn : x ≠ "__name__" := by decide) (hdb : (x == ("__debug__" : Str)) = false := by decide)
    (he : starEach (e :: es) X.env = (false, eval e X.env) :: starEach es X.env := by rfl) (hpl : (backTo pos (starEach es X.env)).any (·.1) = false := by rfl) : ED K X M (.Call (.Name x p) (e :: es) [] pos) (tCB r tr) (fBi g fr) :=
  ⟨pe_callTy h.cr hg hm hv ha.pa hn hdb he hpl, fun R hf q => bi_sm h ha R hf q⟩
theorem all1 {H : Hp} {xs : List V} {d : PyData} (h : DdAll K H xs [d]) : ∃ v, xs = [v] ∧ Dd K H v d := by
  cases h with
  | cons a r => cases r; exact ⟨_, rfl, a⟩
theorem all2 {H : Hp} {xs : List V} {d d' : PyData} (h : DdAll K H xs [d, d']) : ∃ v w, xs = [v, w] ∧ Dd K H v d ∧ Dd K H w d' := by
  cases h with
  | cons a r =>
    obtain ⟨w, rfl, b⟩ := all1 r
    exact ⟨_, _, rfl, a, b⟩
@[simp] def gLen : List PyData → Option PyData := fun xs => match xs with
  | [.str z] => if z.length ≤ 1000000 then some (.int z.length) else none
  | [.list ds] => some (.int ds.length)
  | [.tuple ds] => some (.int ds.length)
  | [.dict kvs] => some (.int kvs.length)
  | _ => none
theorem bd_len (hK : X.K = K := by rfl) : BD K X (.builtin "len") (fun xs H Q => ∃ x n, xs = [x] ∧ LenV K x H n ∧ Q (.int n) H) gLen := by
  subst hK
  refine ⟨call_len, fun {Hs H xs ds d Q} e h hf q => ?_⟩
  unfold gLen at hf
  split at hf
  · obtain ⟨v, rfl, a⟩ := all1 h
    obtain ⟨hl, rfl⟩ := ite_some hf
    cases a
    exact ⟨_, _, rfl, ⟨szM hl, rfl⟩, q _ Hs H (Grow.refl e) (.int _)⟩
  · obtain ⟨v, rfl, a⟩ := all1 h
    obtain rfl := Option.some.inj hf
    cases a with
    | lst hp t => exact ⟨_, _, rfl, .inl ⟨_, sqL_of (e _ _ hp), rfl⟩, by rw [t.length]; exact q _ Hs H (Grow.refl e) (.int _)⟩
  · obtain ⟨v, rfl, a⟩ := all1 h
    obtain rfl := Option.some.inj hf
    cases a with
    | tup n hp t => exact ⟨_, _, rfl, .inr ⟨_, sqT_of (e _ _ hp), rfl⟩, by rw [t.length]; exact q _ Hs H (Grow.refl e) (.int _)⟩
  · obtain ⟨v, rfl, a⟩ := all1 h
    obtain rfl := Option.some.inj hf
    cases a with
    | @scr p ns hp => exact ⟨_, _, rfl, .inl ⟨_, e.seq hp, rfl⟩, by
        have := q (.int ((scrK ns).length : Nat)) Hs H (Grow.refl e) (.int _)
        unfold scrK at this
        rw [List.length_map] at this ⊢
        exact this⟩
  · cases hf
/-- tuple(list), tuple(tuple) -/
theorem call_tupN : CallR X (.type "tuple") (fun xs H Q => ∃ p ys, xs = [.ref p] ∧ ((SqL X.K H p ys ∧ NewT Q H ys) ∨ (SqT X.K H p ys ∧ Q (.ref p) H))) := by
  intro pins s σ H xs us Q I r h
  obtain ⟨p, ys, rfl, h⟩ := h
  obtain ⟨u, rfl, rx⟩ := vals1 r
  cases rx
  rcases h with ⟨hq, q⟩ | ⟨hq, q⟩
  · obtain ⟨its, r', pl, hz⟩ := I.list hq
    have hlen := r'.length
    refine call_tuple_list pl.isList (fun h' kp => ?_) (by simp only [List.size_toArray] <;> omega)
    have I1 : Inv X pins σ H { s with heap := h' } := I.kept (t' := s.toks) kp
    exact ⟨.ref h'.objs.size, _, Inv.tupN (s := { s with heap := h' }) (t' := s.toks) I1 r' hz, rfl, q _ _ rfl (I1.hok.fresh (Nat.le_refl _))⟩
  · obtain ⟨its, r', pl, hz⟩ := I.tuple hq
    exact call_tuple_same pl ⟨.ref p, H, I, rfl, q⟩
@[simp] def gTuple : List PyData → Option PyData := fun xs => match xs with
  | [.list ds] => some (.tuple ds)
  | [.tuple ds] => some (.tuple ds)
  | _ => none
theorem bd_tuple (hK : X.K = K := by rfl) : BD K X (.type "tuple") (fun xs H Q => ∃ p ys, xs = [.ref p] ∧ ((SqL K H p ys ∧ NewT Q H ys) ∨ (SqT K H p ys ∧ Q (.ref p) H))) gTuple := by
  subst hK
  refine ⟨call_tupN, fun {Hs H xs ds d Q} e h hf q => ?_⟩
  unfold gTuple at hf
  split at hf
  · obtain ⟨v, rfl, a⟩ := all1 h
    obtain rfl := Option.some.inj hf
    cases a with
    | lst hp t => exact ⟨_, _, rfl, .inl ⟨sqL_of (e _ _ hp), NewT.of (Grow.refl e) t q⟩⟩
  · obtain ⟨v, rfl, a⟩ := all1 h
    obtain rfl := Option.some.inj hf
    cases a with
    | tup n hp t => exact ⟨_, _, rfl, .inr ⟨sqT_of (e _ _ hp), q _ Hs H (Grow.refl e) (.tup n hp t)⟩⟩
  · cases hf
@[simp] def gListOf : List PyData → Option PyData := fun xs => match xs with
  | [.list ds] => some (.list ds)
  | [.tuple ds] => some (.list ds)
  | _ => none
theorem bd_list (hK : X.K = K := by rfl) : BD K X (.type "list") (fun xs H Q => ∃ p ys, xs = [.ref p] ∧ (SqL K H p ys ∨ SqT K H p ys) ∧ ∀ l, H l = none → Q (.ref l) (upd H l (.lst ys))) gListOf := by
  subst hK
  refine ⟨call_list_of, fun {Hs H xs ds d Q} e h hf q => ?_⟩
  unfold gListOf at hf
  split at hf
  · obtain ⟨v, rfl, a⟩ := all1 h
    obtain rfl := Option.some.inj hf
    cases a with
    | lst hp t => exact ⟨_, _, rfl, .inl (sqL_of (e _ _ hp)), newL (Grow.refl e) t q⟩
  · obtain ⟨v, rfl, a⟩ := all1 h
    obtain rfl := Option.some.inj hf
    cases a with
    | tup n hp t => exact ⟨_, _, rfl, .inr (sqT_of (e _ _ hp)), newL (Grow.refl e) t q⟩
  · cases hf
/-- all of truths -/
@[simp] def bools : List PyData → Option (List Bool)
  | [] => some []
  | .bool b :: r => (bools r).map (b :: ·)
  | _ => none
theorem bools_dv {H : Hp} : ∀ {vs : List V} {ds : List PyData} {bs : List Bool}, DdAll K H vs ds → bools ds = some bs → vs = bs.map V.bl
  | _, _, _, .nil, h => by cases h; rfl
  | _, _, bs, .cons a r, h => by
    cases a <;> first
      | (cases h; done)
      | (rename_i b
         unfold bools at h
         cases h1 : bools _ with
         | none => rw [h1] at h; cases h
         | some cs =>
           rw [h1] at h
           cases h
           rw [bools_dv r h1]
           rfl)
@[simp] def gAll : List PyData → Option PyData := fun xs => match xs with
  | [.list ds] => (bools ds).map fun bs => .bool (bs.all _root_.id)
  | _ => none
theorem bd_all (hc : X.calm = true := by rfl) (hK : X.K = K := by rfl) : BD K X (.builtin "all") (rAll K) gAll := by
  subst hK
  refine ⟨cr_all hc, fun {Hs H xs ds d Q} e h hf q => ?_⟩
  unfold gAll at hf
  split at hf
  · obtain ⟨v, rfl, a⟩ := all1 h
    cases h1 : bools _ with
    | none => rw [h1] at hf; cases hf
    | some bs =>
      rw [h1] at hf
      cases hf
      cases a with
      | lst hp t =>
        have := bools_dv t h1
        subst this
        exact ⟨_, bs, rfl, sqL_of (e _ _ hp), q _ Hs H (Grow.refl e) (.bl _)⟩
  · cases hf
/-- ints of a list -/
@[simp] def intsD : List PyData → Option (List Int)
  | [] => some []
  | .int b :: r => (intsD r).map (b :: ·)
  | _ => none
theorem ints_dv {H : Hp} : ∀ {vs : List V} {ds : List PyData} {bs : List Int}, DdAll K H vs ds → intsD ds = some bs → vs = bs.map V.int
  | _, _, _, .nil, h => by cases h; rfl
  | _, _, bs, .cons a r, h => by
    cases a <;> first
      | (cases h; done)
      | (rename_i b
         unfold intsD at h
         cases h1 : intsD _ with
         | none => rw [h1] at h; cases h
         | some cs =>
           rw [h1] at h
           cases h
           rw [ints_dv r h1]
           rfl)
theorem intsD_map : ∀ ns : List Int, intsD (ns.map PyData.int) = some ns
  | [] => rfl
  | n :: ns => by
    rw [List.map_cons]
    unfold intsD
    rw [intsD_map ns]
    rfl
@[simp] def gMin2 : List PyData → Option PyData := fun xs => match xs with
  | [.int i, .int j] => some (.int (if j < i then j else i))
  | _ => none
@[simp] def gMax2 : List PyData → Option PyData := fun xs => match xs with
  | [.int i, .int j] => some (.int (if j > i then j else i))
  | _ => none
theorem bd_min2 (hc : X.calm = true := by rfl) : BD K X (.builtin "min") (fun xs H Q => ∃ i j, xs = [.int i, .int j] ∧ Q (.int (if j < i then j else i)) H) gMin2 :=
  ⟨call_min2 hc, fun {Hs H xs ds d Q} e h hf q => by
    unfold gMin2 at hf
    split at hf
    · obtain ⟨v, w, rfl, a, b⟩ := all2 h
      cases a; cases b
      obtain rfl := Option.some.inj hf
      exact ⟨_, _, rfl, q _ Hs H (Grow.refl e) (.int _)⟩
    · cases hf⟩
theorem bd_max2 (hc : X.calm = true := by rfl) : BD K X (.builtin "max") (fun xs H Q => ∃ i j, xs = [.int i, .int j] ∧ Q (.int (if j > i then j else i)) H) gMax2 :=
  ⟨call_max2 hc, fun {Hs H xs ds d Q} e h hf q => by
    unfold gMax2 at hf
    split at hf
    · obtain ⟨v, w, rfl, a, b⟩ := all2 h
      cases a; cases b
      obtain rfl := Option.some.inj hf
      exact ⟨_, _, rfl, q _ Hs H (Grow.refl e) (.int _)⟩
    · cases hf⟩
/-- the greatest, the least of a list of ints -/
def maxI : List Int → Int
  | [] => 0
  | [a] => a
  | a :: b :: r => max a (maxI (b :: r))
def minI : List Int → Int
  | [] => 0
  | [a] => a
  | a :: b :: r => min a (minI (b :: r))
theorem maxI_spec : ∀ {l : List Int}, l ≠ [] → maxI l ∈ l ∧ ∀ y ∈ l, y ≤ maxI l
  | [a], _ => by simp [maxI]
  | a :: b :: r, _ => by
    obtain ⟨h1, h2⟩ := maxI_spec (l := b :: r) (by simp)
    unfold maxI
    refine ⟨?_, fun y hy => ?_⟩
    · by_cases h : a ≤ maxI (b :: r)
      · rw [Int.max_eq_right h]; exact List.mem_cons_of_mem _ h1
      · rw [Int.max_eq_left (by omega)]; exact List.mem_cons_self
    · rcases List.mem_cons.mp hy with rfl | hy
      · exact Int.le_max_left _ _
      · exact Int.le_trans (h2 y hy) (Int.le_max_right _ _)
theorem minI_spec : ∀ {l : List Int}, l ≠ [] → minI l ∈ l ∧ ∀ y ∈ l, minI l ≤ y
  | [a], _ => by simp [minI]
  | a :: b :: r, _ => by
    obtain ⟨h1, h2⟩ := minI_spec (l := b :: r) (by simp)
    unfold minI
    refine ⟨?_, fun y hy => ?_⟩
    · by_cases h : minI (b :: r) ≤ a
      · rw [Int.min_eq_right h]; exact List.mem_cons_of_mem _ h1
      · rw [Int.min_eq_left (by omega)]; exact List.mem_cons_self
    · rcases List.mem_cons.mp hy with rfl | hy
      · exact Int.min_le_left _ _
      · exact Int.le_trans (Int.min_le_right _ _) (h2 y hy)
@[simp] def gMaxL : List PyData → Option PyData := fun xs => match xs with
  | [.list ds] => (intsD ds).bind fun ns => if ns ≠ [] then some (.int (maxI ns)) else none
  | _ => none
@[simp] def gMinL : List PyData → Option PyData := fun xs => match xs with
  | [.list ds] => (intsD ds).bind fun ns => if ns ≠ [] then some (.int (minI ns)) else none
  | _ => none
theorem bd_maxL (hc : X.calm = true := by rfl) (hK : X.K = K := by rfl) : BD K X (.builtin "max") (rMax K) gMaxL := by
  subst hK
  refine ⟨cr_max hc, fun {Hs H xs ds d Q} e h hf q => ?_⟩
  unfold gMaxL at hf
  split at hf
  · obtain ⟨v, rfl, a⟩ := all1 h
    obtain ⟨ns, h1, h2⟩ := bind_some hf
    obtain ⟨hne, rfl⟩ := ite_some h2
    cases a with
    | lst hp t =>
      have := ints_dv t h1
      subst this
      refine ⟨_, ns, rfl, sqL_of (e _ _ hp), List.length_pos_iff.mpr hne, fun m hm hle => ?_⟩
      obtain ⟨s1, s2⟩ := maxI_spec hne
      have : m = maxI ns := Int.le_antisymm (s2 m hm) (hle _ s1)
      rw [this]
      exact q _ Hs H (Grow.refl e) (.int _)
  · cases hf
theorem bd_minL (hc : X.calm = true := by rfl) (hK : X.K = K := by rfl) : BD K X (.builtin "min") (rMin K) gMinL := by
  subst hK
  refine ⟨cr_min hc, fun {Hs H xs ds d Q} e h hf q => ?_⟩
  unfold gMinL at hf
  split at hf
  · obtain ⟨v, rfl, a⟩ := all1 h
    obtain ⟨ns, h1, h2⟩ := bind_some hf
    obtain ⟨hne, rfl⟩ := ite_some h2
    cases a with
    | lst hp t =>
      have := ints_dv t h1
      subst this
      refine ⟨_, ns, rfl, sqL_of (e _ _ hp), List.length_pos_iff.mpr hne, fun m hm hle => ?_⟩
      obtain ⟨s1, s2⟩ := minI_spec hne
      have : m = minI ns := Int.le_antisymm (hle _ s1) (s2 m hm)
      rw [this]
      exact q _ Hs H (Grow.refl e) (.int _)
  · cases hf
@[simp] def gSum : List PyData → Option PyData := fun xs => match xs with
  | [.list ds] => (intsD ds).map fun ns => .int ns.sum
  | _ => none
theorem bd_sum (hc : X.calm = true := by rfl) (hK : X.K = K := by rfl) : BD K X (.builtin "sum") (rSum K) gSum := by
  subst hK
  refine ⟨cr_sum hc, fun {Hs H xs ds d Q} e h hf q => ?_⟩
  unfold gSum at hf
  split at hf
  · obtain ⟨v, rfl, a⟩ := all1 h
    cases h1 : intsD _ with
    | none => rw [h1] at hf; cases hf
    | some ns =>
      rw [h1] at hf
      cases hf
      cases a with
      | lst hp t =>
        have := ints_dv t h1
        subst this
        exact ⟨_, ns, rfl, sqL_of (e _ _ hp), q _ Hs H (Grow.refl e) (.int _)⟩
  · cases hf
@[simp] def gStr : List PyData → Option PyData := fun xs => match xs with
  | [.int i] => if i.natAbs.log2 < 1920 then some (.str (toString i)) else none
  | _ => none
theorem bd_str : BD K X (.type "str") (fun xs H Q => ∃ i : Int, xs = [.int i] ∧ i.natAbs.log2 < 1920 ∧ Q (.str (toString i)) H) gStr :=
  ⟨call_str_int, fun {Hs H xs ds d Q} e h hf q => by
    unfold gStr at hf
    split at hf
    · obtain ⟨v, rfl, a⟩ := all1 h
      cases a
      obtain ⟨hl, rfl⟩ := ite_some hf
      exact ⟨_, rfl, hl, q _ Hs H (Grow.refl e) (.str _)⟩
    · cases hf⟩
/-- isinstance(x, T), T one built-in type -/
@[simp] def tyD : PyData → String
  | .none => "NoneType"
  | .bool _ => "bool"
  | .int _ => "int"
  | .str _ => "str"
  | .list _ => "list"
  | .tuple _ => "tuple"
  | .dict _ => "list"
@[simp] def gIsi (T : String) : PyData → Option PyData := fun x => match x with
  | .dict _ => none
  | x => (kitB (tyD x) T).map .bool
theorem ed_isi {T : String} {x : Str} {p1 p2 : Pos} (ha : ED K X M a ta fa) (hm : X.mg "isinstance" = none) (hmT : X.mg x = none) (hvT : bootBuiltins x = some (.type T)) (hg : Gl X "isinstance" := by rfl) (hgT : Gl X x := by rfl) (hK : X.K = K := by rfl)
    (hn : x ≠ "__name__" := by decide) (hdb : (x == ("__debug__" : Str)) = false := by decide)
    (hs1 : starEach [a, .Name x p2] X.env = (false, eval a X.env) :: starEach [.Name x p2] X.env := by rfl) (hs2 : starEach [.Name x p2] X.env = (false, eval (.Name x p2) X.env) :: starEach [] X.env := by rfl) (hpl : (backTo pos (starEach [.Name x p2] X.env)).any (·.1) = false := by rfl) :
    ED K X M (.Call (.Name "isinstance" p1) [a, .Name x p2] [] pos) (tCB (rIsi K) (tCons ta (tCons (tC (.ty T)) tNil))) (f1 (gIsi T) fa) := by
  subst hK
  refine ⟨pe_callB call_isi hg hm boot_isinstance (pa_cons ha.pe (pa_cons (pe_bltn hgT hmT hvT rfl hn hdb) pa_nil hs2) hs1) (by decide) (by decide) hs1 hpl, fun {Hs0 H0 Hs H σ ρ d Q} R hf q => ?_⟩
  obtain ⟨dx, h1, h2⟩ := bind_some hf
  refine ha.sm R h1 fun v Hs1 H1 g1 d1 => ?_
  have key : ∀ {ty : String} {b : Bool}, kitB ty T = some b → TyX X.K H1 v (.type ty) → Q (.bl b) H1 → rIsi X.K [v, .ty T] H1 Q := fun hk ht hq => ⟨v, .ty T, _, _, _, rfl, .ty T, ht, kit_ty hk, hq⟩
  cases d1 with
  | non => cases hk : kitB "NoneType" T with
    | none => simp [gIsi, tyD, hk] at h2
    | some b => simp [gIsi, tyD, hk] at h2; subst h2; exact key hk (.base .non) (q _ Hs1 H1 g1 (.bl _))
  | bl k => cases hk : kitB "bool" T with
    | none => simp [gIsi, tyD, hk] at h2
    | some b => simp [gIsi, tyD, hk] at h2; subst h2; exact key hk (.base (.bl _)) (q _ Hs1 H1 g1 (.bl _))
  | int k => cases hk : kitB "int" T with
    | none => simp [gIsi, tyD, hk] at h2
    | some b => simp [gIsi, tyD, hk] at h2; subst h2; exact key hk (.base (.int _)) (q _ Hs1 H1 g1 (.bl _))
  | str k => cases hk : kitB "str" T with
    | none => simp [gIsi, tyD, hk] at h2
    | some b => simp [gIsi, tyD, hk] at h2; subst h2; exact key hk (.base (.str _)) (q _ Hs1 H1 g1 (.bl _))
  | lst hp t => cases hk : kitB "list" T with
    | none => simp [gIsi, tyD, hk] at h2
    | some b => simp [gIsi, tyD, hk] at h2; subst h2; exact key hk (.base (.lst (g1.sub _ _ hp))) (q _ Hs1 H1 g1 (.bl _))
  | tup n hp t => cases hk : kitB "tuple" T with
    | none => simp [gIsi, tyD, hk] at h2
    | some b => simp [gIsi, tyD, hk] at h2; subst h2; exact key hk (.fTuple (g1.sub _ _ hp)) (q _ Hs1 H1 g1 (.bl _))
  | scr hp => simp [gIsi] at h2

/-! ### calls of own defs -/
def spX (K : PySem.W.Frag) (n : Nat) (xc : Nat → Addr) (φ : List PyData → Option (Except Nat PyData)) : Sp := fun vs H Q E => vs.length = n ∧ ∃ Hs ds r, Same Hs H ∧ DdAll K Hs vs ds ∧ φ ds = some r ∧
  match r with
  | .ok d => ∀ v Hs' H', Grow Hs H Hs' H' → Dd K Hs' v d → Q v H'
  | .error c => ∀ H', Same H H' → E (.ref (xc c)) none H'
@[simp] def fCall (φ : List PyData → Option (Except Nat PyData)) (fa : Rho → Option (List PyData)) : Fn := fun ρ => (fa ρ).bind fun ds => (φ ds).bind fun r => match r with
  | .ok d => some d
  | .error _ => none
theorem AD.len : ∀ {es : List Expr} {tr : TA} {fr : Rho → Option (List PyData)} {ρ : Rho} {ds : List PyData} (n : Nat), fr ρ = some ds → ds.length = n → ds.length = n := fun _ _ h => h
theorem ed_call {k n : Nat} {fA : Addr} {fd : FuncData} {ps : List Str} {xc : Nat → Addr} {φ : List PyData → Option (Except Nat PyData)} (F : FnOk X.prog X.w X.K X.mg X.base (L2.CX X.prog X.w) k fA fd ps (spX K n xc φ)) (hr : Room k X.A) (hm : X.mg x = some (.ref fA))
    (hk : PySem.W.keepIn X.K (.ref fA) = true) (hb : Binds X.K fd ps []) (hn : ∀ ds r, φ ds = some r → ds.length = n) (ha : AD K X M (e :: es) tr fr) (hg : Gl X x := by rfl) (hdb : (x == ("__debug__" : Str)) = false := by decide) (he : starEach (e :: es) X.env = (false, eval e X.env) :: starEach es X.env := by rfl)
    (hpl : (backTo pos (starEach es X.env)).any (·.1) = false := by rfl) : ED K X M (.Call (.Name x p) (e :: es) [] pos) (tCall (spX K n xc φ) [] E0 tr) (fCall φ fr) :=
  ⟨pe_call F hr hg hm hk hb .nil passL ha.pa hdb he hpl, fun {Hs0 H0 Hs H σ ρ d Q} R hf q => by
    obtain ⟨ds, h1, h2⟩ := bind_some hf
    obtain ⟨r, h2, h3⟩ := bind_some h2
    refine ha.sm R h1 fun vs Hs1 H1 g1 d1 => ?_
    show spX K n xc φ (vs ++ []) H1 Q E0
    rw [List.append_nil]
    refine ⟨by rw [d1.length]; exact hn _ _ h2, Hs1, ds, r, g1.sub, d1, h2, ?_⟩
    cases r with
    | error c => cases h3
    | ok d' =>
      obtain rfl := Option.some.inj h3
      exact fun v Hs2 H2 g2 d2 => q v Hs2 H2 (g1.trans g2) d2⟩
end
end DL

namespace DL
open PySem PySem.Spec PyProof.Rows L2
abbrev YR := Hp → V → PyData → Prop
/-- a pair that an iterator makes -/
def Dy (K : PySem.W.Frag) : YR := fun H x d => ∃ a xs ds, x = .ref a ∧ d = .tuple ds ∧ H a = some (.tup xs) ∧ DdAll K H xs ds
section
variable {K : PySem.W.Frag} {X : Cx} {M : List Nat} {a b c e tg : Expr} {es : List Expr} {ta tb tc te : TE} {t u : TT} {fa fb fc f : Fn} {pos p pos' : Pos} {ba : Rho → Option Bool} {Rl : YR}

/-! ### what is walked -/
structure Yields (K : PySem.W.Frag) (Rl : YR) (J : It) (Hs : Hp) (ds : List PyData) : Prop where
  go : ∀ i H, Same Hs H → i < ds.length → J.go i H
  stop : ∀ i H, Same Hs H → ds.length ≤ i → J.stop i H
  yld : ∀ i H x H' Hs2, i < ds.length → Same Hs Hs2 → Same Hs2 H → J.yld i H x H' → ∃ Hs3, Grow Hs2 H Hs3 H' ∧ ∃ d, ds[i]? = some d ∧ Rl Hs3 x d
structure ID (K : PySem.W.Frag) (X : Cx) (M : List Nat) (Rl : YR) (tg iter : Expr) (wi : TI) (h : Rho → Option (List PyData)) : Prop where
  pi : PI X tg iter wi
  sm : ∀ {Hs0 H0 Hs H : Hp} {σ : L2.St} {ρ : Rho} {ds : List PyData} {R : It → Hp → Prop}, SR K M Hs0 H0 Hs H σ ρ → h ρ = some ds → (∀ J Hs' H', Grow Hs H Hs' H' → Yields K Rl J Hs' ds → R J H') → wi σ H R

theorem yields_list {K : PySem.W.Frag} {Hs : Hp} {p : Addr} {xs : List V} {ds : List PyData} (hq : ∀ H, Same Hs H → SqL K H p xs) (t : DdAll K Hs xs ds) : Yields K (Dd K) (Itl K p) Hs ds where
  go := fun i H e hi => by
    obtain ⟨v, h1, _⟩ := t.get (i := i) (d := ds[i]) (List.getElem?_eq_getElem hi)
    exact ⟨xs, v, hq H e, h1⟩
  stop := fun i H e hi => ⟨xs, hq H e, by rw [t.length]; exact hi⟩
  yld := fun i H x H' Hs2 hi e1 e2 h => by
    obtain ⟨rfl, h2⟩ := h
    obtain ⟨d, h3, h4⟩ := t.getv (h2 xs (hq _ (e1.trans e2)))
    exact ⟨Hs2, Grow.refl e2, d, h3, h4.mono e1⟩
theorem yields_tup {K : PySem.W.Frag} {Hs : Hp} {p : Addr} {xs : List V} {ds : List PyData} (hq : ∀ H, Same Hs H → SqT K H p xs) (t : DdAll K Hs xs ds) : Yields K (Dd K) (Itt K p) Hs ds where
  go := fun i H e hi => by
    obtain ⟨v, h1, _⟩ := t.get (i := i) (d := ds[i]) (List.getElem?_eq_getElem hi)
    exact ⟨xs, v, hq H e, h1⟩
  stop := fun i H e hi => ⟨xs, hq H e, by rw [t.length]; exact hi⟩
  yld := fun i H x H' Hs2 hi e1 e2 h => by
    obtain ⟨rfl, h2⟩ := h
    obtain ⟨d, h3, h4⟩ := t.getv (h2 xs (hq _ (e1.trans e2)))
    exact ⟨Hs2, Grow.refl e2, d, h3, h4.mono e1⟩
/-- a list, a tuple, the script -/
def iSeq (K : PySem.W.Frag) (tl : TE) : TI := fun σ H R => tl σ H fun x H1 => ∃ a, x = .ref a ∧ (((∃ xs, SqL K H1 a xs) ∧ R (Itl K a) H1) ∨ ((∃ xs, SqT K H1 a xs) ∧ R (Itt K a) H1))
theorem pi_seq {l : Expr} {tl : TE} (hl : PE X l tl) : PI X tg l (iSeq X.K tl) := by
  refine ⟨fun pins s σ H R I h => ?_⟩
  refine thn (hl.run pins s σ H _ I h) fun v s1 ⟨x, H1, I1, r1, q1⟩ => ?_
  obtain ⟨a, e, h⟩ := q1
  subst e
  cases r1
  rcases h with ⟨⟨xs, hq⟩, q⟩ | ⟨⟨xs, hq⟩, q⟩
  · obtain ⟨its, rv, p, hz⟩ := I1.list hq
    refine wpAny_pyIter_list p.isList ?_
    refine ⟨s1.heap.objs.size, [s1.heap.objs.size], _, _, H1, rfl, I1.kept (t' := s1.toks) fun b o e => Heap.get?_push_of_some _ e, turn_list a _, ⟨_, Heap.get?_push_size _ rfl, rfl, rfl⟩, fun b hb => ?_, q⟩
    have e : b = s1.heap.objs.size := by simpa using hb
    subst e
    exact I1.fpOk (Nat.le_refl _) (I1.hok.fresh (Nat.le_refl _))
  · obtain ⟨its, rv, p, hz⟩ := I1.tuple hq
    refine wpAny_pyIter_tuple (show s1.heap.IsTuple a its.toArray from p) ?_
    refine ⟨s1.heap.objs.size, [s1.heap.objs.size], _, _, H1, rfl, I1.kept (t' := s1.toks) fun b o e => Heap.get?_push_of_some _ e, turn_tuple a _, ⟨_, Heap.get?_push_size _ rfl, rfl, rfl⟩, fun b hb => ?_, q⟩
    have e : b = s1.heap.objs.size := by simpa using hb
    subst e
    exact I1.fpOk (Nat.le_refl _) (I1.hok.fresh (Nat.le_refl _))
@[simp] def seqD : PyData → Option (List PyData)
  | .list ds => some ds
  | .tuple ds => some ds
  | .dict kvs => some (kvs.map (·.1))
  | _ => none
@[simp] def iSq (f : Fn) : Rho → Option (List PyData) := fun ρ => (f ρ).bind seqD
theorem id_seq {l : Expr} (hl : ED K X M l ta f) (hK : X.K = K := by rfl) : ID K X M (Dd K) tg l (iSeq K ta) (iSq f) := by
  subst hK
  refine ⟨pi_seq hl.pe, fun {Hs0 H0 Hs H σ ρ ds R} r hf q => ?_⟩
  obtain ⟨d, h1, h2⟩ := bind_some hf
  refine hl.sm r h1 fun v Hs1 H1 g1 d1 => ?_
  cases d1 with
  | @lst p xs ds' hp t =>
    obtain rfl := Option.some.inj h2
    exact ⟨p, rfl, .inl ⟨⟨xs, sqL_of (g1.sub _ _ hp)⟩, q _ Hs1 H1 g1 (yields_list (fun H e => sqL_of (e _ _ hp)) t)⟩⟩
  | @scr p ns hp =>
    have h2 : some ((scrK ns).map (·.1)) = some ds := h2
    rw [scr_fst] at h2
    obtain rfl := Option.some.inj h2
    exact ⟨p, rfl, .inl ⟨⟨_, g1.sub.seq hp⟩, q _ Hs1 H1 g1 (yields_list (fun H e => e.seq hp) (DdAll.ints ns))⟩⟩
  | @tup p ob xs ds' n hp t =>
    obtain rfl := Option.some.inj h2
    exact ⟨p, rfl, .inr ⟨⟨xs, sqT_of (g1.sub _ _ hp)⟩, q _ Hs1 H1 g1 (yields_tup (fun H e => sqT_of (e _ _ hp)) t)⟩⟩
  | _ => cases h2
/-- range(n), range(m, n) -/
def rgD (lo : Int) (n : Nat) : List PyData := (List.range n).map fun (i : Nat) => PyData.int (lo + i)
theorem rgD_get {lo : Int} {n i : Nat} (h : i < n) : (rgD lo n)[i]? = some (.int (lo + i)) := by
  unfold rgD
  rw [List.getElem?_map, List.getElem?_range h]
  rfl
theorem rgD_len {lo : Int} {n : Nat} : (rgD lo n).length = n := by
  unfold rgD
  rw [List.length_map, List.length_range]
theorem yields_rg {K : PySem.W.Frag} {Hs : Hp} {lo : Int} {n : Nat} : Yields K (Dd K) (Itr lo n) Hs (rgD lo n) where
  go := fun i H e hi => by rw [rgD_len] at hi; exact hi
  stop := fun i H e hi => by rw [rgD_len] at hi; exact hi
  yld := fun i H x H' Hs2 hi e1 e2 h => ⟨Hs2, by
    obtain ⟨rfl, rfl⟩ := h
    rw [rgD_len] at hi
    exact ⟨Grow.refl e2, _, rgD_get hi, .int _⟩⟩
def B62 (i : Int) : Prop := -(2 ^ 62) ≤ i ∧ i < 2 ^ 62
noncomputable instance : DecidablePred B62 := fun _ => Classical.propDecidable _
@[simp] noncomputable def iR1 (f : Fn) : Rho → Option (List PyData) := fun ρ => (f ρ).bind fun d => match d with
  | .int j => if B62 j then some (rgD 0 j.toNat) else none
  | _ => none
theorem id_range1 {p pos : Pos} (ha : ED K X M a ta f) (hm : X.mg "range" = none) (hg : Gl X "range" := by rfl) (hs : starEach [a] X.env = [(false, eval a X.env)] := by rfl) : ID K X M (Dd K) tg (.Call (.Name "range" p) [a] [] pos) (iRng1 (tCons ta tNil)) (iR1 f) :=
  ⟨pi_range1 hg hm (pa_cons ha.pe pa_nil hs) hs, fun {Hs0 H0 Hs H σ ρ ds R} r hf q => by
    obtain ⟨d, h1, h2⟩ := bind_some hf
    refine ha.sm r h1 fun v Hs1 H1 g1 d1 => ?_
    cases d1 with
    | int j =>
      obtain ⟨hb, rfl⟩ := ite_some h2
      exact ⟨j, rfl, hb.1, hb.2, q _ Hs1 H1 g1 yields_rg⟩
    | _ => cases h2⟩
@[simp] noncomputable def iR2 (f f' : Fn) : Rho → Option (List PyData) := fun ρ => (f ρ).bind fun d => (f' ρ).bind fun d' => match d, d' with
  | .int i, .int j => if B62 i ∧ B62 j then some (rgD i (j - i).toNat) else none
  | _, _ => none
theorem id_range2 {p pos : Pos} (ha : ED K X M a ta fa) (hb : ED K X M b tb fb) (hm : X.mg "range" = none) (hg : Gl X "range" := by rfl) (hs : starEach [a, b] X.env = [(false, eval a X.env), (false, eval b X.env)] := by rfl) (hs2 : starEach [b] X.env = [(false, eval b X.env)] := by rfl) :
    ID K X M (Dd K) tg (.Call (.Name "range" p) [a, b] [] pos) (iRng2 (tCons ta (tCons tb tNil))) (iR2 fa fb) :=
  ⟨pi_range2 hg hm (pa_cons ha.pe (pa_cons hb.pe pa_nil hs2) (by rw [hs, hs2])) hs hs2, fun {Hs0 H0 Hs H σ ρ ds R} r hf q => by
    obtain ⟨d, h1, h2⟩ := bind_some hf
    obtain ⟨d', h2, h3⟩ := bind_some h2
    refine ha.sm r h1 fun v Hs1 H1 g1 d1 => ?_
    refine hb.sm (r.grow g1) h2 fun w Hs2 H2 g2 d2 => ?_
    cases d1 with
    | int i =>
      cases d2 with
      | int j =>
        obtain ⟨⟨b1, b2⟩, rfl⟩ := ite_some h3
        exact ⟨i, j, rfl, ⟨b1.1, b1.2, b2.1, b2.2⟩, q _ Hs2 H2 (g1.trans g2) yields_rg⟩
      | _ => cases h3
    | _ => cases h3⟩
/-- tuple(range(n)), list(range(n)), reversed(range(n)) -/
@[simp] def gRg (w : List PyData → PyData) (f : Fn) : Fn := fun ρ => (f ρ).bind fun d => match d with
  | .int j => if 0 ≤ j ∧ j ≤ 1000000 then some (w (rgD 0 j.toNat)) else none
  | _ => none
theorem rgV_rgD {H : Hp} {j : Int} : DdAll K H (rgV 0 j) (rgD 0 j.toNat) := by
  unfold rgV rgD
  rw [Int.sub_zero]
  have : ∀ l : List Nat, DdAll K H (l.map fun i => V.int (0 + (i : Nat))) (l.map fun (i : Nat) => PyData.int (0 + i)) := fun l => by
    induction l with
    | nil => exact .nil
    | cons a r ih => exact .cons (.int _) ih
  exact this _
def tTupRgN (te : L2.St → Hp → (Int → Int → Hp → Prop) → Prop) : TE := fun σ H Q => te σ H fun a b H1 => RgOk a b ∧ NewT Q H1 (rgV a b)
theorem pe_tupRgN {te : L2.St → Hp → (Int → Int → Hp → Prop) → Prop} {p pos : Pos} (hc : X.calm = true) (hg : Gl X "tuple") (hm : X.mg "tuple" = none) (he : PRg X e te) (na : starEach [e] X.env = (false, eval e X.env) :: starEach [] X.env := by rfl) : PE X (.Call (.Name "tuple" p) [e] [] pos) (tTupRgN te) := by
  refine ⟨fun pins s σ H Q I h => ?_⟩
  refine Call_ (ld_blt I hg hm boot_tuple (PyProof.Rows.callWith_type1 (args_cons (thn (he pins s σ H _ I h) fun x s1 ⟨r, a, b, t, u, v, H1, ex, hr, I1, ok, q⟩ => args_nil ?_) na) na))
  subst ex
  obtain ⟨b1, b2, b3, b4, b5⟩ := ok
  refine call_tuple_range (n := (b - a).toNat) (I1.ok.hd hc) hr (small_one b1 b2 b3 b4) (rangeSize_nat a b) b5 fun h' tk acc hk hi => ?_
  have I2 : Inv X pins σ H1 { s1 with heap := h', toks := tk } := I1.kept hk
  have := Inv.tupN (t' := tk) I2 (vals_rg hi) (by rw [rgV_length, sizeLine_eq]; omega)
  rw [Array.toArray_toList] at this
  exact ⟨.ref h'.objs.size, _, this, rfl, q _ _ rfl (I2.hok.fresh (Nat.le_refl _))⟩
theorem ed_tupRg {p1 p2 pos1 : Pos} (ha : ED K X M a ta f) (hmr : X.mg "range" = none) (hm : X.mg "tuple" = none) (hgr : Gl X "range" := by rfl) (hg : Gl X "tuple" := by rfl) (hc : X.calm = true := by rfl)
    (n1 : starEach [a] X.env = (false, eval a X.env) :: starEach [] X.env := by rfl) (na : starEach [.Call (.Name "range" p1) [a] [] pos1] X.env = (false, eval (.Call (.Name "range" p1) [a] [] pos1) X.env) :: starEach [] X.env := by rfl) :
    ED K X M (.Call (.Name "tuple" p2) [.Call (.Name "range" p1) [a] [] pos1] [] pos) (tTupRgN (tRg1 ta)) (gRg .tuple f) :=
  ⟨pe_tupRgN hc hg hm (prg_1 hgr hmr ha.pe n1) na, fun {Hs0 H0 Hs H σ ρ d Q} r hf q => by
    obtain ⟨d, h1, h2⟩ := bind_some hf
    refine ha.sm r h1 fun v Hs1 H1 g1 d1 => ?_
    cases d1 with
    | int j =>
      obtain ⟨⟨b1, b2⟩, rfl⟩ := ite_some h2
      exact ⟨j, rfl, RgOk.of_le (by omega) (by omega) (by omega) b1, NewT.of g1 rgV_rgD q⟩
    | _ => cases h2⟩
@[simp] def gRgL (f : Fn) : Rho → Option (List PyData) := fun ρ => (f ρ).bind fun d => match d with
  | .int j => if 0 ≤ j ∧ j ≤ 1000000 then some (rgD 0 j.toNat) else none
  | _ => none
theorem fd_listRg {p1 p2 pos1 : Pos} (ha : ED K X M a ta f) (hmr : X.mg "range" = none) (hm : X.mg "list" = none) (hgr : Gl X "range" := by rfl) (hg : Gl X "list" := by rfl) (hc : X.calm = true := by rfl)
    (n1 : starEach [a] X.env = (false, eval a X.env) :: starEach [] X.env := by rfl) (na : starEach [.Call (.Name "range" p1) [a] [] pos1] X.env = (false, eval (.Call (.Name "range" p1) [a] [] pos1) X.env) :: starEach [] X.env := by rfl) :
    FD K X M (.Call (.Name "list" p2) [.Call (.Name "range" p1) [a] [] pos1] [] pos) (tLstRg (tRg1 ta)) (gRgL f) :=
  ⟨pe_listRg hc hg hm (prg_1 hgr hmr ha.pe n1) na, fun {Hs0 H0 Hs H σ ρ ds Q} r hf q => by
    obtain ⟨d, h1, h2⟩ := bind_some hf
    refine ha.sm r h1 fun v Hs1 H1 g1 d1 => ?_
    cases d1 with
    | int j =>
      obtain ⟨⟨b1, b2⟩, rfl⟩ := ite_some h2
      refine ⟨j, rfl, RgOk.of_le (by omega) (by omega) (by omega) b1, fun p hp => ?_⟩
      exact q p _ Hs1 _ (g1.trans (Grow.alloc0 g1.sub hp)) (g1.ex.free hp) (g1.sub.free hp) upd_same rgV_rgD
    | _ => cases h2⟩

/-! ### targets -/
structure GD (K : PySem.W.Frag) (X : Cx) (M : List Nat) (Rl : YR) (vs : List Nat) (tg : Expr) (g : TG) (h : PyData → Rho → Option Rho) : Prop where
  pg : PG X tg g
  sm : ∀ {Hs0 H0 Hs H : Hp} {σ : L2.St} {ρ ρ' : Rho} {v : V} {d : PyData} {Q : L2.St → Hp → Prop}, SR K M Hs0 H0 Hs H σ ρ → Rl Hs v d → h d ρ = some ρ' → (∀ σ', SR K M Hs0 H0 Hs H σ' ρ' → (∀ ws, (∀ i ∈ vs, i ∈ ws) → wipe σ' ws = wipe σ ws) → Q σ' H) → g v σ H Q
theorem wipe_set {σ : L2.St} {i : Nat} {x : Option V} : ∀ {ws : List Nat}, i ∈ ws → wipe (σ.set i x) ws = wipe σ ws
  | w :: ws, h => by
    unfold wipe
    by_cases hw : i ∈ ws
    · rw [wipe_set hw]
    · have hi : i = w := by
        rcases List.mem_cons.mp h with z | z
        · exact z
        · exact absurd z hw
      subst hi
      have out : ∀ (vs : List Nat) (τ : L2.St), i ∉ vs → (wipe (τ.set i x) vs).set i none = (wipe τ vs).set i none := fun vs => by
        induction vs with
        | nil => intro τ _; unfold wipe; rw [List.set_set]
        | cons v vs ih =>
          intro τ hv
          unfold wipe
          have hne : v ≠ i := fun z => hv (by rw [z]; exact List.mem_cons_self)
          rw [List.set_comm _ _ hne, ih τ (fun z => hv (List.mem_cons_of_mem _ z)), List.set_comm _ _ hne.symm]
      exact out ws σ hw
theorem SR.set {Hs0 H0 Hs H : Hp} {σ : L2.St} {ρ : Rho} {i : Nat} {v : V} {d : PyData} (r : SR K M Hs0 H0 Hs H σ ρ) (hM : M.contains i = false) (a : Dd K Hs v d) : SR K M Hs0 H0 Hs H (σ.set i (some v)) (ρ.set i (some d)) where
  g := r.g
  len := by rw [List.length_set, List.length_set]; exact r.len
  frz := fun j e h m => by
    by_cases hj : i = j
    · subst hj
      have hi : i < ρ.length := by
        have := (List.getElem?_eq_some_iff.mp h).1
        rwa [List.length_set] at this
      rw [List.getElem?_set_self hi] at h
      cases h
      exact ⟨v, List.getElem?_set_self (by rw [r.len]; exact hi), a⟩
    · rw [List.getElem?_set_ne hj] at h ⊢
      exact r.frz j e h m
  own := fun j e h m => by
    have hj : i ≠ j := fun z => by rw [z, m] at hM; cases hM
    rw [List.getElem?_set_ne hj] at h ⊢
    exact r.own j e h m
  sep := fun j k dj dk p h1 h2 m1 m2 h3 h4 => by
    have hj : i ≠ j := fun z => by rw [z, m1] at hM; cases hM
    have hk : i ≠ k := fun z => by rw [z, m2] at hM; cases hM
    rw [List.getElem?_set_ne hj] at h1 h3
    rw [List.getElem?_set_ne hk] at h2 h4
    exact r.sep j k dj dk p h1 h2 m1 m2 h3 h4
@[simp] def hName (i : Nat) : PyData → Rho → Option Rho := fun d ρ => some (ρ.set i (some d))
theorem gd_name (i : Nat) {x : Str} (hN : X.N.Nodup) (hi : X.N[i]? = some x := by rfl) (hx : Loc X.env.scope x := by first | exact Or.inl rfl | exact Or.inr rfl) (hM : M.contains i = false := by rfl)
    (hf : X.fn x = true ∨ X.env.scope.names.lookup x = some .local := by first | exact .inl rfl | exact .inr rfl) : GD K X M (Dd K) [i] (.Name x pos) (gName i) (hName i) :=
  ⟨pg_name hN hi hx hf, fun {Hs0 H0 Hs H σ ρ ρ' v d Q} r a h q => by
    cases h
    exact q _ (r.set hM a) fun ws hw => wipe_set (hw i (by simp))⟩
/-- several targets -/
structure GsD (K : PySem.W.Frag) (X : Cx) (M : List Nat) (vs : List Nat) (ts : List Expr) (g : TGs) (h : List PyData → Rho → Option Rho) : Prop where
  pg : PGs X ts g
  sm : ∀ {Hs0 H0 Hs H : Hp} {σ : L2.St} {ρ ρ' : Rho} {xs : List V} {ds : List PyData} {Q : L2.St → Hp → Prop}, SR K M Hs0 H0 Hs H σ ρ → DdAll K Hs xs ds → h ds ρ = some ρ' → (∀ σ', SR K M Hs0 H0 Hs H σ' ρ' → (∀ ws, (∀ i ∈ vs, i ∈ ws) → wipe σ' ws = wipe σ ws) → Q σ' H) → g xs σ H Q
@[simp] def hNil : List PyData → Rho → Option Rho := fun ds ρ => match ds with
  | [] => some ρ
  | _ => none
@[simp] def hCons (h : PyData → Rho → Option Rho) (hs : List PyData → Rho → Option Rho) : List PyData → Rho → Option Rho := fun ds ρ => match ds with
  | [] => none
  | d :: r => (h d ρ).bind fun ρ' => hs r ρ'
theorem gsd_nil : GsD K X M [] [] gNil hNil :=
  ⟨pgs_nil, fun {Hs0 H0 Hs H σ ρ ρ' xs ds Q} r a h q => by
    cases a with
    | nil => cases h; exact ⟨rfl, q _ r fun _ _ => rfl⟩
    | cons _ _ => cases h⟩
theorem gsd_cons {vs ws : List Nat} {g : TG} {gs : TGs} {h : PyData → Rho → Option Rho} {hs : List PyData → Rho → Option Rho} {ts : List Expr} (h1 : GD K X M (Dd K) vs e g h) (h2 : GsD K X M ws ts gs hs)
    (hst : (assignEach (e :: ts) X.env).map (·.2) = assign e X.env :: (assignEach ts X.env).map (·.2) := by rfl) : GsD K X M (vs ++ ws) (e :: ts) (gCons g gs) (hCons h hs) :=
  ⟨pgs_cons h1.pg h2.pg hst, fun {Hs0 H0 Hs H σ ρ ρ' xs ds Q} r a hf q => by
    cases a with
    | nil => cases hf
    | cons a1 a2 =>
      obtain ⟨ρ1, e1, e2⟩ := bind_some hf
      refine ⟨_, _, rfl, h1.sm r a1 e1 fun σ1 r1 w1 => h2.sm r1 a2 e2 fun σ2 r2 w2 => q σ2 r2 fun wl hw => ?_⟩
      rw [w2 wl (fun i hi => hw i (List.mem_append_right _ hi)), w1 wl (fun i hi => hw i (List.mem_append_left _ hi))]⟩
/-- a tuple or list of that length, unpacked -/
def gSeq (K : PySem.W.Frag) (n : Nat) (t : TGs) : TG := fun v σ H Q => gTup K n t v σ H Q ∨ gUnl K n t v σ H Q
@[simp] def hSeq (n : Nat) (h : List PyData → Rho → Option Rho) : PyData → Rho → Option Rho := fun d ρ => match d with
  | .tuple ds => if ds.length = n then h ds ρ else none
  | .list ds => if ds.length = n then h ds ρ else none
  | _ => none
theorem ite_get {α : Type} {c : Prop} [Decidable c] {a : Option α} {b : α} (h : (if c then a else none) = some b) : c ∧ a = some b := by
  by_cases hc : c
  · rw [if_pos hc] at h; exact ⟨hc, h⟩
  · rw [if_neg hc] at h; cases h
theorem pg_seq {es : List Expr} {k : Nat} {t : TGs} {n : Nat} (hc : X.calm = true) (h : PGs X es t) (hn : (assignEach es X.env).length = n) (hst : (assignEach es X.env).findIdx? (·.1) = none) : PG X (.Tuple es k pos) (gSeq X.K n t) :=
  ⟨fun pins s σ H v u Q I r hw => by
    rcases hw with hw | hw
    · exact (pg_tup hc h hn hst).run pins s σ H v u Q I r hw
    · exact (pg_unl hc h hn hst).run pins s σ H v u Q I r hw⟩
theorem gd_seq {vs : List Nat} {g : TGs} {h : List PyData → Rho → Option Rho} {k n : Nat} (hs : GsD K X M vs es g h) (hc : X.calm = true := by rfl) (hn : (assignEach es X.env).length = n := by rfl) (hst : (assignEach es X.env).findIdx? (·.1) = none := by rfl) (hK : X.K = K := by rfl) :
    GD K X M (Dd K) vs (.Tuple es k pos) (gSeq K n g) (hSeq n h) := by
  subst hK
  refine ⟨pg_seq hc hs.pg hn hst, fun {Hs0 H0 Hs H σ ρ ρ' v d Q} r a hf q => ?_⟩
  cases a with
  | @tup p ob xs ds nn hp t =>
    obtain ⟨hl, hf⟩ := ite_get hf
    exact .inl ⟨p, xs, rfl, sqT_of (r.sub _ _ hp), by rw [t.length]; exact hl, hs.sm r t hf q⟩
  | @lst p xs ds hp t =>
    obtain ⟨hl, hf⟩ := ite_get hf
    exact .inr ⟨p, xs, rfl, sqL_of (r.sub _ _ hp), by rw [t.length]; exact hl, hs.sm r t hf q⟩
  | _ => cases hf
/-- a pair that an iterator hands out -/
theorem gd_pair {vs : List Nat} {g : TGs} {h : List PyData → Rho → Option Rho} {k n : Nat} (hs : GsD K X M vs es g h) (hc : X.calm = true := by rfl) (hn : (assignEach es X.env).length = n := by rfl) (hst : (assignEach es X.env).findIdx? (·.1) = none := by rfl) (hK : X.K = K := by rfl) :
    GD K X M (Dy K) vs (.Tuple es k pos) (gSeq K n g) (hSeq n h) := by
  subst hK
  refine ⟨pg_seq hc hs.pg hn hst, fun {Hs0 H0 Hs H σ ρ ρ' v d Q} r a hf q => ?_⟩
  obtain ⟨p, xs, ds, rfl, rfl, hp, t⟩ := a
  obtain ⟨hl, hf⟩ := ite_get hf
  exact .inl ⟨p, xs, rfl, .inl (.inl (r.sub _ _ hp)), by rw [t.length]; exact hl, hs.sm r t hf q⟩
end
end DL

namespace DL
open PySem PySem.Spec PyProof.Rows L2

/-! ### comprehensions -/
@[simp] def wipeR (ρ : Rho) : List Nat → Rho
  | [] => ρ
  | v :: vs => (wipeR ρ vs).set v none
theorem wipeR_length (ρ : Rho) : ∀ vs : List Nat, (wipeR ρ vs).length = ρ.length
  | [] => rfl
  | v :: vs => by unfold wipeR; rw [List.length_set, wipeR_length ρ vs]
theorem wipeR_some {ρ : Rho} {i : Nat} {x : PyData} : ∀ {vs : List Nat}, (wipeR ρ vs)[i]? = some (some x) → ρ[i]? = some (some x) ∧ i ∉ vs
  | [], h => ⟨h, by simp⟩
  | v :: vs, h => by
    unfold wipeR at h
    by_cases hi : v = i
    · subst hi
      by_cases hv : v < (wipeR ρ vs).length
      · rw [List.getElem?_set_self hv] at h; cases h
      · rw [List.getElem?_eq_none (by simpa using hv)] at h; cases h
    · rw [List.getElem?_set_ne hi] at h
      obtain ⟨h1, h2⟩ := wipeR_some h
      exact ⟨h1, by simp only [List.mem_cons, not_or]; exact ⟨fun e => hi e.symm, h2⟩⟩
theorem wipe_in {i : Nat} : ∀ {vs : List Nat} (τ : L2.St), i ∈ vs → (L2.wipe τ vs)[i]? = if i < τ.length then some none else none
  | v :: vs, τ, h => by
    unfold L2.wipe
    by_cases hv : v = i
    · subst hv
      by_cases hl : v < τ.length
      · rw [if_pos hl, List.getElem?_set_self (by rw [wipe_length]; exact hl)]
      · rw [if_neg hl, List.getElem?_eq_none (by rw [List.length_set, wipe_length]; omega)]
    · rw [List.getElem?_set_ne hv]
      exact wipe_in τ ((List.mem_cons.mp h).resolve_left fun z => hv z.symm)
theorem wipe_wipe (σ : L2.St) (vs : List Nat) : L2.wipe (L2.wipe σ vs) vs = L2.wipe σ vs := by
  refine List.ext_getElem? fun i => ?_
  by_cases hi : i ∈ vs
  · rw [wipe_in _ hi, wipe_in _ hi, wipe_length]
  · rw [wipe_out hi]
section
variable {K : PySem.W.Frag} {X : Cx} {M : List Nat} {Rl : YR}
theorem SR.wipe {Hs0 H0 Hs H : Hp} {σ : L2.St} {ρ : Rho} (r : SR K M Hs0 H0 Hs H σ ρ) (vs : List Nat) : SR K M Hs0 H0 Hs H (L2.wipe σ vs) (wipeR ρ vs) where
  g := r.g
  len := by rw [wipe_length, wipeR_length]; exact r.len
  frz := fun i d h m => by
    obtain ⟨h1, h2⟩ := wipeR_some h
    rw [wipe_out h2]
    exact r.frz i d h1 m
  own := fun i d h m => by
    obtain ⟨h1, h2⟩ := wipeR_some h
    rw [wipe_out h2]
    exact r.own i d h1 m
  sep := fun i j di dj p h1 h2 m1 m2 h3 h4 => by
    obtain ⟨a1, a2⟩ := wipeR_some h1
    obtain ⟨b1, b2⟩ := wipeR_some h2
    rw [wipe_out a2] at h3
    rw [wipe_out b2] at h4
    exact r.sep i j di dj p a1 b1 m1 m2 h3 h4
structure CTD (K : PySem.W.Frag) (X : Cx) (M : List Nat) (ifs : List Expr) (t : TT) (f : Rho → Option Bool) : Prop where
  pt : PTs X ifs t
  sm : ∀ {Hs0 H0 Hs H : Hp} {σ : L2.St} {ρ : Rho} {b : Bool} {Q : Bool → Hp → Prop}, SR K M Hs0 H0 Hs H σ ρ → f ρ = some b → (∀ H', Same H H' → Q b H') → t σ H Q
@[simp] def cYes : Rho → Option Bool := fun _ => some true
theorem ctd_nil : CTD K X M [] tYes cYes := ⟨pts_nil, fun {Hs0 H0 Hs H σ ρ b Q} r h q => by cases h; exact q H (Same.refl _)⟩
theorem ctd_one {e : Expr} {t : TT} {f : Rho → Option Bool} (h : TD K X M e t f) : CTD K X M [e] t f := ⟨pts_one h.pt, h.sm⟩
/-- what a comprehension makes -/
def compF (tg : PyData → Rho → Option Rho) (c : Rho → Option Bool) (f : Fn) (ρ : Rho) : List PyData → Option (List PyData)
  | [] => some []
  | d :: ds => (tg d ρ).bind fun ρ1 => (c ρ1).bind fun b => if b = true then (f ρ1).bind fun y => (compF tg c f ρ ds).bind fun ys => some (y :: ys) else compF tg c f ρ ds
def fLc (vs : List Nat) (h : Rho → Option (List PyData)) (tg : PyData → Rho → Option Rho) (c : Rho → Option Bool) (f : Fn) : Rho → Option (List PyData) :=
  fun ρ => (h ρ).bind fun ds => if ds.length ≤ 1000000 then compF tg c f (wipeR ρ vs) ds else none
theorem fd_lc {elt tg iter : Expr} {ifs : List Expr} {scope : Scope} {pos : Pos} {wi : TI} {g : TG} {tt : TT} {te : TE} {ws : List Nat} {h : Rho → Option (List PyData)} {hg' : PyData → Rho → Option Rho} {c : Rho → Option Bool} {f : Fn}
    (own : List (Str × Nat)) (hN : X.N.Nodup) (hi : ID K X M Rl tg iter wi h) (ok : BlkOk X.N X.env.scope scope own)
    (hg : ∀ (s : Shared) (H : Hp) (C : Addr) (cl : List (Str × Addr)) (fp : List Addr), GD K (X.blk s H scope (compEnvC scope cl C X.env) fp) M Rl ws tg g hg')
    (ht : ∀ (s : Shared) (H : Hp) (C : Addr) (cl : List (Str × Addr)) (fp : List Addr), CTD K (X.blk s H scope (compEnvC scope cl C X.env) fp) M ifs tt c)
    (he : ∀ (s : Shared) (H : Hp) (C : Addr) (cl : List (Str × Addr)) (fp : List Addr), ED K (X.blk s H scope (compEnvC scope cl C X.env) fp) M elt te f)
    (hws : ws.all (fun i => (own.map (·.2)).contains i) = true := by rfl) (hc : X.calm = true := by rfl) (hs : ∀ x, foldedSetIterable iter X.env x = pure x := by intro _; rfl) :
    FD K X M (.ListComp elt [⟨tg, iter, ifs, 0⟩] scope pos) (tLc wi g tt te (own.map (·.2))) (fLc (own.map (·.2)) h hg' c f) := by
  have hws' : ∀ i ∈ ws, i ∈ own.map (·.2) := fun i hi => by
    have := List.all_eq_true.mp hws i hi
    simpa using this
  refine ⟨pe_lc hc hN hi.pi ok (fun s H C cl fp => (hg s H C cl fp).pg) (fun s H C cl fp => (ht s H C cl fp).pt) (fun s H C cl fp => (he s H C cl fp).pe) hs, fun {Hs0 H0 Hs H σ ρ res Q} R hf q => ?_⟩
  obtain ⟨ds, h1, h2⟩ := bind_some hf
  obtain ⟨hl, h2⟩ := ite_get h2
  refine hi.sm R h1 fun J Hs1 H1 g1 Y D hD => ?_
  have nD : Hs1 D = none := g1.sub.free hD
  refine ⟨fun i m H' => m = ds.length - i ∧ i ≤ ds.length ∧ ∃ Hsi acc accd tail, Grow Hs1 H1 Hsi H' ∧ Hsi D = none ∧ H' D = some (.lst acc) ∧ DdAll K Hsi acc accd ∧ acc.length ≤ i ∧ compF hg' c f (wipeR ρ (own.map (·.2))) (ds.drop i) = some tail ∧ accd ++ tail = res,
    ⟨ds.length, by simp, Nat.zero_le _, Hs1, [], [], res, Grow.alloc0 g1.sub hD, nD, upd_same, .nil, Nat.le_refl _, h2, rfl⟩, ?_⟩
  rintro i m H2 ⟨rfl, hle, Hsi, acc, accd, tail, g2, n2, hD2, d2, hacc, hcf, hres⟩
  by_cases hlt : i < ds.length
  · refine .inr ⟨Y.go i H2 (g2.exs.trans g2.sub) hlt, fun H' => i + 1 ≤ ds.length ∧ ∃ Hsi acc accd tail, Grow Hs1 H1 Hsi H' ∧ Hsi D = none ∧ H' D = some (.lst acc) ∧ DdAll K Hsi acc accd ∧ acc.length ≤ i + 1 ∧ compF hg' c f (wipeR ρ (own.map (·.2))) (ds.drop (i + 1)) = some tail ∧ accd ++ tail = res,
      fun H' ⟨a, b⟩ => ⟨ds.length - (i + 1), by omega, rfl, a, b⟩, fun x H3 hy => ?_⟩
    obtain ⟨Hs3, g3, d, hd, ad⟩ := Y.yld i H2 x H3 Hsi hlt g2.exs g2.sub hy
    have ed : ds.drop i = d :: ds.drop (i + 1) := by
      have e1 := List.drop_eq_getElem_cons hlt
      have e2 : ds[i] = d := (List.getElem?_eq_some_iff.mp hd).2
      rw [e1, e2]
    rw [ed] at hcf
    unfold compF at hcf
    obtain ⟨ρ1, c1, hcf⟩ := bind_some hcf
    obtain ⟨b, c2, hcf⟩ := bind_some hcf
    have R3 : SR K M Hs0 H0 Hs3 H3 (L2.wipe σ (own.map (·.2))) (wipeR ρ (own.map (·.2))) := (((R.grow g1).wipe _).grow g2).grow g3
    refine (hg X.s_0 (fun _ => none) 0 [] []).sm R3 ad c1 fun σ4 R4 w4 => ⟨?_, ?_⟩
    · rw [w4 _ hws']
      exact wipe_wipe σ _
    · refine (ht X.s_0 (fun _ => none) 0 [] []).sm R4 c2 fun H5 e5 => ?_
      have hD5 : H5 D = some (.lst acc) := e5 _ _ (g3.ex _ _ hD2)
      have n3 : Hs3 D = none := g3.new D n2 (by rw [hD2]; simp)
      cases b with
      | false =>
        rw [if_neg Bool.false_ne_true] at hcf ⊢
        exact ⟨hlt, Hs3, acc, accd, tail, (g2.trans g3).trans (Grow.idle g3.sub e5), n3, hD5, d2.mono g3.exs, Nat.le_succ_of_le hacc, hcf, hres⟩
      | true =>
        rw [if_pos rfl] at hcf ⊢
        obtain ⟨y, c3, hcf⟩ := bind_some hcf
        obtain ⟨ys, c4, hcf⟩ := bind_some hcf
        obtain rfl := Option.some.inj hcf
        refine (he X.s_0 (fun _ => none) 0 [] []).sm (R4.same e5) c3 fun v Hs6 H6 g6 d6 => ?_
        have hD6 : H6 D = some (.lst acc) := g6.ex _ _ hD5
        have n6 : Hs6 D = none := g6.new D n3 (by rw [hD5]; simp)
        have gg := ((g2.trans g3).trans (Grow.idle g3.sub e5)).trans g6
        refine ⟨acc, hD6, szL (by omega), hlt, Hs6, acc ++ [v], accd ++ [y], ys, ⟨fun b o e => ?_, gg.exs, fun b o e => ?_, gg.new⟩, n6, upd_same, ((d2.mono g3.exs).mono g6.exs).append (.cons d6 .nil), ?_, c4, ?_⟩
        · have hb : b ≠ D := fun z => by rw [z, hD] at e; cases e
          rw [upd_ne hb]
          exact gg.ex _ _ e
        · have hb : b ≠ D := fun z => by rw [z, n6] at e; cases e
          rw [upd_ne hb]
          exact gg.sub _ _ e
        · rw [List.length_append, List.length_singleton]
          omega
        · rw [List.append_assoc]
          exact hres
  · have ei : i = ds.length := by omega
    subst ei
    rw [List.drop_length] at hcf
    unfold compF at hcf
    cases hcf
    rw [List.append_nil] at hres
    subst hres
    exact .inl ⟨Y.stop _ H2 (g2.exs.trans g2.sub) (Nat.le_refl _), q D acc Hsi H2 (g1.trans g2) (g1.ex.free hD) n2 hD2 d2⟩
end
end DL

namespace DL
open PySem PySem.Spec PyProof.Rows L2
inductive Out where
  | nx (ρ : Rho) | ret (d : PyData) | brk (ρ : Rho) | ct (ρ : Rho) | exc (c : Nat) (ρ : Rho)
abbrev Gn := Rho → Option Out
section
variable {K : PySem.W.Frag} {X : Cx} {M : List Nat} {Rl : YR} {xc : Nat → Addr} {W : WX} {Hs0 H0 Hs H Hs1 : Hp} {D : Ends}
def OutOk (K : PySem.W.Frag) (xc : Nat → Addr) (M : List Nat) (Hs0 H0 Hs : Hp) (W : WX) (D : Ends) : Out → Prop
  | .nx ρ' => ∀ Hs' H' σ', Same Hs Hs' → SR K M Hs0 H0 Hs' H' σ' ρ' → D.nx σ' H'
  | .ret d => ∀ v Hs' H', Grow Hs0 H0 Hs' H' → Dd K Hs' v d → D.rt v H'
  | .brk ρ' => ∀ Hs' H' σ', Same Hs Hs' → SR K M Hs0 H0 Hs' H' σ' ρ' → D.bk σ' H'
  | .ct ρ' => ∀ Hs' H' σ', Same Hs Hs' → SR K M Hs0 H0 Hs' H' σ' ρ' → D.ct σ' H'
  | .exc c ρ' => ∀ Hs' H' σ', Same Hs Hs' → SR K M Hs0 H0 Hs' H' σ' ρ' → W (.ref (xc c)) none σ' H'
theorem OutOk.up {r : Out} (e : Same Hs Hs1) (h : OutOk K xc M Hs0 H0 Hs W D r) : OutOk K xc M Hs0 H0 Hs1 W D r := by
  cases r with
  | nx ρ => exact fun Hs' H' σ' e' => h Hs' H' σ' (e.trans e')
  | ret d => exact h
  | brk ρ => exact fun Hs' H' σ' e' => h Hs' H' σ' (e.trans e')
  | ct ρ => exact fun Hs' H' σ' e' => h Hs' H' σ' (e.trans e')
  | exc c ρ => exact fun Hs' H' σ' e' => h Hs' H' σ' (e.trans e')
structure SD (K : PySem.W.Frag) (xc : Nat → Addr) (X : Cx) (M : List Nat) (W : WX) (st : Stmt) (t : TS) (g : Gn) : Prop where
  ps : PS X st t
  sm : ∀ {Hs0 H0 Hs H : Hp} {σ : L2.St} {ρ : Rho} {r : Out} {D : Ends}, SR K M Hs0 H0 Hs H σ ρ → g ρ = some r → OutOk K xc M Hs0 H0 Hs W D r → t D σ H
structure SS (K : PySem.W.Frag) (xc : Nat → Addr) (X : Cx) (M : List Nat) (W : WX) (st : List Stmt) (t : TS) (g : Gn) : Prop where
  ps : PSs X st t
  sm : ∀ {Hs0 H0 Hs H : Hp} {σ : L2.St} {ρ : Rho} {r : Out} {D : Ends}, SR K M Hs0 H0 Hs H σ ρ → g ρ = some r → OutOk K xc M Hs0 H0 Hs W D r → t D σ H

/-! ### blocks -/
@[simp] def gNx : Gn := fun ρ => some (.nx ρ)
@[simp] def gBlk (g1 g2 : Gn) : Gn := fun ρ => (g1 ρ).bind fun r => match r with
  | .nx ρ' => g2 ρ'
  | r => some r
variable {st : Stmt} {rest : List Stmt} {t u : TS} {g1 g2 : Gn} {e : Expr} {te : TE} {f : Fn} {pos pos' : Pos}
theorem ss_nil : SS K xc X M W [] tNext gNx := ⟨pss_nil, fun {Hs0 H0 Hs H σ ρ r D} R h o => by cases h; exact o Hs H σ (Same.refl _) R⟩
theorem seq_sm {t1 t2 : TS} (h1 : ∀ {Hs0 H0 Hs H : Hp} {σ : L2.St} {ρ : Rho} {r : Out} {D : Ends}, SR K M Hs0 H0 Hs H σ ρ → g1 ρ = some r → OutOk K xc M Hs0 H0 Hs W D r → t1 D σ H)
    (h2 : ∀ {Hs0 H0 Hs H : Hp} {σ : L2.St} {ρ : Rho} {r : Out} {D : Ends}, SR K M Hs0 H0 Hs H σ ρ → g2 ρ = some r → OutOk K xc M Hs0 H0 Hs W D r → t2 D σ H)
    {σ : L2.St} {ρ : Rho} {r : Out} (R : SR K M Hs0 H0 Hs H σ ρ) (h : gBlk g1 g2 ρ = some r) (o : OutOk K xc M Hs0 H0 Hs W D r) : tSeq t1 t2 D σ H := by
  obtain ⟨r1, a, b⟩ := bind_some h
  refine h1 (D := { D with nx := t2 D }) R a ?_
  cases r1 with
  | nx ρ1 => exact fun Hs' H' σ' e' R' => h2 R' b (o.up e')
  | ret d => obtain rfl := Option.some.inj b; exact o
  | brk ρ1 => obtain rfl := Option.some.inj b; exact o
  | ct ρ1 => obtain rfl := Option.some.inj b; exact o
  | exc c ρ1 => obtain rfl := Option.some.inj b; exact o
theorem ss_cons (h1 : SD K xc X M W st t g1) (h2 : SS K xc X M W rest u g2) : SS K xc X M W (st :: rest) (tSeq t u) (gBlk g1 g2) :=
  ⟨pss_cons h1.ps h2.ps, fun R h o => seq_sm h1.sm h2.sm R h o⟩
theorem ss_one (h1 : SD K xc X M W st t g1) : SS K xc X M W [st] t g1 := ⟨pss_one h1.ps, h1.sm⟩

/-! ### small statements -/
@[simp] def gRet (f : Fn) : Gn := fun ρ => (f ρ).bind fun d => some (.ret d)
theorem sd_ret (h : ED K X [] e te f) : SD K xc X M W (.Return (some e) pos) (tRet te) (gRet f) :=
  ⟨ps_ret h.pe, fun {Hs0 H0 Hs H σ ρ r D} R hf o => by
    obtain ⟨d, h1, h2⟩ := bind_some hf
    obtain rfl := Option.some.inj h2
    obtain ⟨Hp', e1, R1, _⟩ := R.thaw
    exact h.sm R1 h1 fun v Hs2 H2 g2 d2 => o v Hs2 H2 (R1.g.trans g2) d2⟩
@[simp] def gAsg (f : Fn) (tg : PyData → Rho → Option Rho) : Gn := fun ρ => (f ρ).bind fun d => (tg d ρ).bind fun ρ' => some (.nx ρ')
theorem asg_sm {g : TG} {vs : List Nat} {tg : Expr} {hg : PyData → Rho → Option Rho} (h : ED K X M e te f) (hG : GD K X M (Dd K) vs tg g hg) {σ : L2.St} {ρ : Rho} {r : Out} (R : SR K M Hs0 H0 Hs H σ ρ) (hf : gAsg f hg ρ = some r) (o : OutOk K xc M Hs0 H0 Hs W D r) : tAsg te g D σ H := by
  obtain ⟨d, h1, h2⟩ := bind_some hf
  obtain ⟨ρ', h4, h3⟩ := bind_some h2
  obtain rfl := Option.some.inj h3
  exact h.sm R h1 fun v Hs1 H1 g1 d1 => hG.sm (R.grow g1) d1 h4 fun σ' R' _ => o Hs1 H1 σ' g1.exs R'
/-- name = e -/
theorem sd_set (i : Nat) {x : Str} (hN : X.N.Nodup) (h : ED K X M e te f) (hi : X.N[i]? = some x := by rfl) (hx : Loc X.env.scope x := by first | exact Or.inl rfl | exact Or.inr rfl) (hM : M.contains i = false := by rfl)
    (hs : swapsWith e (some (.Name x pos')) pos.line X.env = pure false := by rfl) (hf : X.fn x = true ∨ X.env.scope.names.lookup x = some .local := by first | exact .inl rfl | exact .inr rfl) :
    SD K xc X M W (.Assign [.Name x pos'] e pos) (tAsg te (gName i)) (gAsg f (hName i)) :=
  ⟨ps_set hN hi hx h.pe hs hf, fun R hf' o => asg_sm h (gd_name (pos := pos) i hN hi hx hM hf) R hf' o⟩
/-- targets = e -/
theorem sd_tgt {tg : Expr} {g : TG} {vs : List Nat} {hg : PyData → Rho → Option Rho} (h : ED K X M e te f) (hG : GD K X M (Dd K) vs tg g hg) (hs : swapsWithSole [tg] e pos.line X.env = pure false := by rfl) (hw : swappedStores [tg] e X.env = pure none := by rfl)
    (h1 : (assignEach [tg] X.env).map (·.2) = [assign tg X.env] := by rfl) : SD K xc X M W (.Assign [tg] e pos) (tAsg te g) (gAsg f hg) :=
  ⟨ps_asg h.pe hG.pg hs hw h1, fun R hf' o => asg_sm h hG R hf' o⟩
/-- name = [..], on one line -/
theorem sd_setLc {elt tg iter : Expr} {ifs : List Expr} {scope : Scope} {pos1 py : Pos} {wi : TI} {g : TG} {tt : TT} {ws : List Nat} {h : Rho → Option (List PyData)} {hg' : PyData → Rho → Option Rho} {c : Rho → Option Bool} (i : Nat) {y : Str}
    (own : List (Str × Nat)) (hN : X.N.Nodup) (hi : ID K X M Rl tg iter wi h) (ok : BlkOk X.N X.env.scope scope own)
    (hg : ∀ (s : Shared) (H : Hp) (C : Addr) (cl : List (Str × Addr)) (fp : List Addr), GD K (X.blk s H scope (compEnvC scope cl C X.env) fp) M Rl ws tg g hg')
    (ht : ∀ (s : Shared) (H : Hp) (C : Addr) (cl : List (Str × Addr)) (fp : List Addr), CTD K (X.blk s H scope (compEnvC scope cl C X.env) fp) M ifs tt c)
    (he : ∀ (s : Shared) (H : Hp) (C : Addr) (cl : List (Str × Addr)) (fp : List Addr), ED K (X.blk s H scope (compEnvC scope cl C X.env) fp) M elt te f)
    (hsw : swapsWith (.ListComp elt [⟨tg, iter, ifs, 0⟩] scope pos1) (some (.Name y py)) pos.line X.env = pure true)
    (hy : X.N[i]? = some y := by rfl) (hyl : X.env.scope.names.lookup y = some .local := by rfl) (hM : M.contains i = false := by rfl)
    (hws : ws.all (fun i => (own.map (·.2)).contains i) = true := by rfl) (hc : X.calm = true := by rfl) (hs : ∀ x, foldedSetIterable iter X.env x = pure x := by intro _; rfl) :
    SD K xc X M W (.Assign [.Name y py] (.ListComp elt [⟨tg, iter, ifs, 0⟩] scope pos1) pos) (tAsg (tLc wi g tt te (own.map (·.2))) (gName i)) (gAsg (fFr (fLc (own.map (·.2)) h hg' c f)) (hName i)) :=
  ⟨ps_setLc hc hN hy hyl hsw hi.pi ok (fun s H C cl fp => (hg s H C cl fp).pg) (fun s H C cl fp => (ht s H C cl fp).pt) (fun s H C cl fp => (he s H C cl fp).pe) hs,
    fun R hf' o => asg_sm (ed_fr (fd_lc (pos := pos1) own hN hi ok hg ht he hws hc hs)) (gd_name (pos := py) i hN hy (.inl hyl) hM (.inr hyl)) R hf' o⟩
/-- if -/
@[simp] def gIf (c : Rho → Option Bool) (g1 g2 : Gn) : Gn := fun ρ => (c ρ).bind fun b => if b = true then g1 ρ else g2 ρ
theorem sd_if {c : Expr} {a b : List Stmt} {tc : TT} {bc : Rho → Option Bool} (hc : TD K X [] c tc bc) (ha : SS K xc X M W a t g1) (hb : SS K xc X M W b u g2) : SD K xc X M W (.If c a b pos) (tIfS tc t u) (gIf bc g1 g2) :=
  ⟨ps_if hc.pt ha.ps hb.ps, fun {Hs0 H0 Hs H σ ρ r D} R hf o => by
    obtain ⟨k, h1, h2⟩ := bind_some hf
    obtain ⟨Hp', e1, R1, _⟩ := R.thaw
    refine hc.sm R1 h1 fun H1 e2 => ?_
    cases k with
    | true => rw [if_pos rfl] at h2 ⊢; exact ha.sm (R.same e2) h2 o
    | false => rw [if_neg Bool.false_ne_true] at h2 ⊢; exact hb.sm (R.same e2) h2 o⟩
/-- for -/
def forF (tg : PyData → Rho → Option Rho) (body : Gn) : List PyData → Gn
  | [], ρ => some (.nx ρ)
  | d :: ds, ρ => (tg d ρ).bind fun ρ1 => (body ρ1).bind fun r => match r with
    | .nx ρ' => forF tg body ds ρ'
    | .ct ρ' => forF tg body ds ρ'
    | .brk ρ' => some (.nx ρ')
    | .ret d => some (.ret d)
    | .exc c ρ' => some (.exc c ρ')
@[simp] def gFor (h : Rho → Option (List PyData)) (tg : PyData → Rho → Option Rho) (body : Gn) : Gn := fun ρ => (h ρ).bind fun ds => forF tg body ds ρ
theorem sd_for {iter tg : Expr} {body : List Stmt} {wi : TI} {g : TG} {tb : TS} {gb : Gn} {vs : List Nat} {h : Rho → Option (List PyData)} {hg : PyData → Rho → Option Rho} (hp : PassesOwn (model X.prog X.w) X.A X.env X.xe)
    (hi : ID K X M Rl tg iter wi h) (hG : GD K X M Rl vs tg g hg) (hb : SS K xc X M W body tb gb) (hc : X.calm = true := by rfl) (hs : ∀ x, foldedSetIterable iter X.env x = pure x := by intro _; rfl) :
    SD K xc X M W (.For tg iter body [] pos) (tFor wi g tb) (gFor h hg gb) :=
  ⟨ps_for hp hc hi.pi hG.pg hb.ps hs, fun {Hs0 H0 Hs H σ ρ r D} R hf o => by
    obtain ⟨ds, h1, h2⟩ := bind_some hf
    refine hi.sm R h1 fun J Hs1 H1 g1 Y => ?_
    refine ⟨fun i m σ' H' => m = ds.length - i ∧ i ≤ ds.length ∧ ∃ Hsi ρi, Same Hs1 Hsi ∧ SR K M Hs0 H0 Hsi H' σ' ρi ∧ forF hg gb (ds.drop i) ρi = some r, ⟨ds.length, by simp, Nat.zero_le _, Hs1, ρ, Same.refl _, R.grow g1, h2⟩, ?_⟩
    rintro i m σ2 H2 ⟨rfl, hle, Hsi, ρi, e2, R2, hF⟩
    by_cases hlt : i < ds.length
    · refine .inr ⟨Y.go i H2 (e2.trans R2.sub) hlt, fun σ' H' => i + 1 ≤ ds.length ∧ ∃ Hsi ρi, Same Hs1 Hsi ∧ SR K M Hs0 H0 Hsi H' σ' ρi ∧ forF hg gb (ds.drop (i + 1)) ρi = some r,
        fun σ' H' ⟨a, b⟩ => ⟨ds.length - (i + 1), by omega, rfl, a, b⟩, fun x H3 hy => ?_⟩
      obtain ⟨Hs3, g3, d, hd, ad⟩ := Y.yld i H2 x H3 Hsi hlt e2 R2.sub hy
      have ed : ds.drop i = d :: ds.drop (i + 1) := by
        have e1 := List.drop_eq_getElem_cons hlt
        have e2 : ds[i] = d := (List.getElem?_eq_some_iff.mp hd).2
        rw [e1, e2]
      rw [ed] at hF
      unfold forF at hF
      obtain ⟨ρ1, c1, hF⟩ := bind_some hF
      obtain ⟨r1, c2, hF⟩ := bind_some hF
      refine hG.sm (R2.grow g3) ad c1 fun σ4 R4 _ => ?_
      refine hb.sm R4 c2 ?_
      cases r1 with
      | nx ρ' => exact fun Hs' H' σ' e' R' => ⟨hlt, Hs', ρ', (e2.trans g3.exs).trans e', R', hF⟩
      | ct ρ' => exact fun Hs' H' σ' e' R' => ⟨hlt, Hs', ρ', (e2.trans g3.exs).trans e', R', hF⟩
      | brk ρ' =>
        obtain rfl := Option.some.inj hF
        exact fun Hs' H' σ' e' R' => o Hs' H' σ' (((g1.exs.trans e2).trans g3.exs).trans e') R'
      | ret d' =>
        obtain rfl := Option.some.inj hF
        exact o
      | exc c ρ' =>
        obtain rfl := Option.some.inj hF
        exact fun Hs' H' σ' e' R' => o Hs' H' σ' (((g1.exs.trans e2).trans g3.exs).trans e') R'
    · have ei : i = ds.length := by omega
      subst ei
      rw [List.drop_length] at hF
      unfold forF at hF
      obtain rfl := Option.some.inj hF
      exact .inl ⟨Y.stop _ H2 (e2.trans R2.sub) (Nat.le_refl _), o Hsi H2 σ2 (g1.exs.trans e2) R2⟩⟩
/-- while -/
def whileF (c : Rho → Option Bool) (body : Gn) : Nat → Gn
  | 0, _ => none
  | n + 1, ρ => (c ρ).bind fun b => if b = true then (body ρ).bind fun r => match r with
    | .nx ρ' => whileF c body n ρ'
    | .ct ρ' => whileF c body n ρ'
    | .brk ρ' => some (.nx ρ')
    | .ret d => some (.ret d)
    | .exc c ρ' => some (.exc c ρ')
    else some (.nx ρ)
theorem sd_while (n : Nat) {c : Expr} {body : List Stmt} {tc : TT} {bc : Rho → Option Bool} {tb : TS} {gb : Gn} (hp : PassesOwn (model X.prog X.w) X.A X.env X.xe) (hc : TD K X [] c tc bc) (hb : SS K xc X M W body tb gb) :
    SD K xc X M W (.While c body [] pos) (tWhile tc tb) (whileF bc gb n) :=
  ⟨ps_while hp hc.pt hb.ps, fun {Hs0 H0 Hs H σ ρ r D} R hf o => by
    refine ⟨fun m σ' H' => ∃ Hsi ρi, Same Hs Hsi ∧ SR K M Hs0 H0 Hsi H' σ' ρi ∧ whileF bc gb m ρi = some r, ⟨n, Hs, ρ, Same.refl _, R, hf⟩, ?_⟩
    rintro m σ2 H2 ⟨Hsi, ρi, e2, R2, hF⟩
    cases m with
    | zero => cases hF
    | succ m =>
      unfold whileF at hF
      obtain ⟨k, h1, hF⟩ := bind_some hF
      obtain ⟨Hp', e1, R1, _⟩ := R2.thaw
      refine hc.sm R1 h1 fun H3 e3 => ?_
      cases k with
      | false =>
        rw [if_neg Bool.false_ne_true] at hF ⊢
        obtain rfl := Option.some.inj hF
        exact o Hsi H3 σ2 e2 (R2.same e3)
      | true =>
        rw [if_pos rfl] at hF ⊢
        obtain ⟨r1, c2, hF⟩ := bind_some hF
        refine ⟨fun σ' H' => ∃ Hsi ρi, Same Hs Hsi ∧ SR K M Hs0 H0 Hsi H' σ' ρi ∧ whileF bc gb m ρi = some r, fun σ' H' h => ⟨m, Nat.lt_succ_self m, h⟩, ?_⟩
        refine hb.sm (R2.same e3) c2 ?_
        cases r1 with
        | nx ρ' => exact fun Hs' H' σ' e' R' => ⟨Hs', ρ', e2.trans e', R', hF⟩
        | ct ρ' => exact fun Hs' H' σ' e' R' => ⟨Hs', ρ', e2.trans e', R', hF⟩
        | brk ρ' =>
          obtain rfl := Option.some.inj hF
          exact fun Hs' H' σ' e' R' => o Hs' H' σ' (e2.trans e') R'
        | ret d' =>
          obtain rfl := Option.some.inj hF
          exact o
        | exc c ρ' =>
          obtain rfl := Option.some.inj hF
          exact fun Hs' H' σ' e' R' => o Hs' H' σ' (e2.trans e') R'⟩

/-! ### calls that may raise, as statements -/
variable {tr : TA} {fr : Rho → Option (List PyData)} {es : List Expr} {x : Str} {p : Pos}
/-- a call of a def: what it gives or raises -/
structure QD (K : PySem.W.Frag) (xc : Nat → Addr) (X : Cx) (M : List Nat) (W : WX) (e : Expr) (t : TE) (f : Rho → Option (Except Nat PyData)) : Prop where
  pe : PE X e t
  sm : ∀ {Hs0 H0 Hs H : Hp} {σ : L2.St} {ρ : Rho} {r : Except Nat PyData} {Q : VK}, SR K M Hs0 H0 Hs H σ ρ → f ρ = some r →
    (match r with
      | .ok d => ∀ v Hs' H', Grow Hs H Hs' H' → Dd K Hs' v d → Q v H'
      | .error c => ∀ H', Same H H' → W (.ref (xc c)) none σ H') → t σ H Q
@[simp] def qCall (φ : List PyData → Option (Except Nat PyData)) (fa : Rho → Option (List PyData)) : Rho → Option (Except Nat PyData) := fun ρ => (fa ρ).bind φ
theorem qd_call {k n : Nat} {fA : Addr} {fd : FuncData} {ps : List Str} {φ : List PyData → Option (Except Nat PyData)} (F : FnOk X.prog X.w X.K X.mg X.base (L2.CX X.prog X.w) k fA fd ps (spX K n xc φ)) (hr : Room k X.A) (hm : X.mg x = some (.ref fA))
    (hk : PySem.W.keepIn X.K (.ref fA) = true) (hb : Binds X.K fd ps []) (hn : ∀ ds r, φ ds = some r → ds.length = n) (tk : Takes X W) (ha : AD K X M (e :: es) tr fr) (hg : Gl X x := by rfl) (hdb : (x == ("__debug__" : Str)) = false := by decide) (he : starEach (e :: es) X.env = (false, eval e X.env) :: starEach es X.env := by rfl)
    (hpl : (backTo pos (starEach es X.env)).any (·.1) = false := by rfl) : QD K xc X M W (.Call (.Name x p) (e :: es) [] pos) (tCallS (spX K n xc φ) (WE W) tr) (qCall φ fr) :=
  ⟨pe_callS F hr hg hm hk hb (fun σ => passAt tk σ) ha.pa hdb he hpl, fun {Hs0 H0 Hs H σ ρ r Q} R hf q => by
    obtain ⟨ds, h1, h2⟩ := bind_some hf
    refine ha.sm R h1 fun vs Hs1 H1 g1 d1 => ?_
    refine ⟨by rw [d1.length]; exact hn _ _ h2, Hs1, ds, r, g1.sub, d1, h2, ?_⟩
    cases r with
    | error c => exact fun H2 e2 => q H2 (g1.ex.trans e2)
    | ok d => exact fun v Hs2 H2 g2 d2 => q v Hs2 H2 (g1.trans g2) d2⟩
@[simp] def gExprQ (f : Rho → Option (Except Nat PyData)) : Gn := fun ρ => (f ρ).bind fun r => match r with
  | .ok _ => some (.nx ρ)
  | .error c => some (.exc c ρ)
theorem sd_exprQ {f : Rho → Option (Except Nat PyData)} (h : QD K xc X M W e te f) (hs : swapsWith e none pos.line X.env = pure false := by rfl) : SD K xc X M W (.Expr e pos) (tDrop te) (gExprQ f) :=
  ⟨ps_expr h.pe hs, fun {Hs0 H0 Hs H σ ρ r D} R hf o => by
    obtain ⟨q, h1, h2⟩ := bind_some hf
    refine h.sm R h1 ?_
    cases q with
    | ok d =>
      obtain rfl := Option.some.inj h2
      exact fun v Hs1 H1 g1 d1 => o Hs1 H1 σ g1.exs (R.grow g1)
    | error c =>
      obtain rfl := Option.some.inj h2
      exact fun H1 e1 => o Hs H1 σ (Same.refl _) (R.same e1)⟩
@[simp] def gSetQ (i : Nat) (f : Rho → Option (Except Nat PyData)) : Gn := fun ρ => (f ρ).bind fun r => match r with
  | .ok d => some (.nx (ρ.set i (some d)))
  | .error c => some (.exc c ρ)
theorem sd_setQ (i : Nat) {x : Str} {f : Rho → Option (Except Nat PyData)} (hN : X.N.Nodup) (h : QD K xc X M W e te f) (hi : X.N[i]? = some x := by rfl) (hx : Loc X.env.scope x := by first | exact Or.inl rfl | exact Or.inr rfl) (hM : M.contains i = false := by rfl)
    (hs : swapsWith e (some (.Name x pos')) pos.line X.env = pure false := by rfl) (hf : X.fn x = true ∨ X.env.scope.names.lookup x = some .local := by first | exact .inl rfl | exact .inr rfl) :
    SD K xc X M W (.Assign [.Name x pos'] e pos) (tAsg te (gName i)) (gSetQ i f) :=
  ⟨ps_set hN hi hx h.pe hs hf, fun {Hs0 H0 Hs H σ ρ r D} R hf o => by
    obtain ⟨q, h1, h2⟩ := bind_some hf
    refine h.sm R h1 ?_
    cases q with
    | ok d =>
      obtain rfl := Option.some.inj h2
      exact fun v Hs1 H1 g1 d1 => o Hs1 H1 _ g1.exs ((R.grow g1).set hM d1)
    | error c =>
      obtain rfl := Option.some.inj h2
      exact fun H1 e1 => o Hs H1 σ (Same.refl _) (R.same e1)⟩
@[simp] def gRetQ (f : Rho → Option (Except Nat PyData)) : Gn := fun ρ => (f ρ).bind fun r => match r with
  | .ok d => some (.ret d)
  | .error c => some (.exc c ρ)

/-! ### raise of an own class made with a text -/
@[simp] def gRaise (c : Nat) : Gn := fun ρ => some (.exc c ρ)
theorem sd_raise (c : Nat) {m : Str} {j : Nat} {p2 : Pos} (q : PySem.W.excIn X.K (xc c) [.type "ValueError", .type "Exception", .type "BaseException", .type "object"] "ValueError.__new__" = true) (gC : X.mg x = some (.ref (xc c))) (kC : PySem.W.keepIn X.K (.ref (xc c)) = true)
    (r : Raises X (.ref (xc c))) (tk : Takes X W) (hg : Gl X x := by rfl) (hc : X.calm = true := by rfl) (hdb : (x == ("__debug__" : Str)) = false := by decide) : SD K xc X M W (.Raise (some (.Call (.Name x p) [.Constant (.str m) j p2] [] pos')) none pos) (fun _ σ H => W (.ref (xc c)) none σ H) (gRaise c) :=
  ⟨ps_raise hc tk (pmk_own PySem.F.excBase_ValueError q gC kC r hg hdb), fun {Hs0 H0 Hs H σ ρ r D} R hf o => by
    cases hf
    exact o Hs H σ (Same.refl _) R⟩
end

/-! ### a def -/
@[simp] def runDef (N : Nat) (g : Gn) : List PyData → Option (Except Nat PyData) := fun ds => match g (ds.map some ++ List.replicate (N - ds.length) none) with
  | some (.ret d) => some (.ok d)
  | some (.nx _) => some (.ok .none)
  | some (.exc c _) => some (.error c)
  | _ => none
/-- .. of just so many arguments -/
@[simp] def defN (n N : Nat) (g : Gn) : List PyData → Option (Except Nat PyData) := fun ds => if ds.length = n then runDef N g ds else none
theorem defN_len {n N : Nat} {g : Gn} : ∀ ds r, defN n N g ds = some r → ds.length = n := fun ds r h => (ite_get h).1
section
variable {K : PySem.W.Frag} {P : Program} {w : World} {mg : Str → Option Value} {base : Heap} {xc : Nat → Addr}
theorem ok_def {x qual : Str} {st : Stmt} {f : Addr} {fd : FuncData} {N ps : List Str} {k n : Nat} (M : List Nat) {g : Gn} (F : Fun K x qual st f fd) (S : FnScope N ps (defScope st)) (hn : ps.length = n)
    (hb : ∀ (cdv : Value) (A : Around) (outer : List Env) (s : Shared) (H : Hp) (E : XK), Room k (A.deeper (envOfC qual (defScope st) s.heap.objs.size f cdv)) →
      PassesOwn (model P w) (cxOf (L2.CX P w) P w K mg base N qual (defScope st) f cdv A outer s H E).A (cxOf (L2.CX P w) P w K mg base N qual (defScope st) f cdv A outer s H E).env (cxOf (L2.CX P w) P w K mg base N qual (defScope st) f cdv A outer s H E).xe →
      Takes (cxOf (L2.CX P w) P w K mg base N qual (defScope st) f cdv A outer s H E) (fun cls d _ H' => E cls d H') →
      ∃ t, SS K xc (cxOf (L2.CX P w) P w K mg base N qual (defScope st) f cdv A outer s H E) M (fun cls d _ H' => E cls d H') (defBody st) t g)
    (hM : M.all (fun i => decide (n ≤ i)) = true := by rfl) :
    FnOk P w K mg base (L2.CX P w) (k + 1) f fd ps (spX K n xc (defN n N.length g)) := by
  refine F.okX S (fun vs H Q E h => by rw [hn]; exact h.1) (fun cdv A outer s H vs Q E hr h => ?_)
  obtain ⟨hl, Hs, ds, r, e, dd, hφ, hq⟩ := h
  obtain ⟨hds, hφ⟩ := ite_get hφ
  obtain ⟨t, hS⟩ := hb cdv A outer s H E hr (passes_of rfl) (takes_of rfl rfl rfl rfl)
  refine ⟨t, hS.ps, ?_⟩
  have hlen := dd.length
  have R : SR K M Hs H Hs H (L2.start N vs) (ds.map some ++ List.replicate (N.length - ds.length) none) := by
    have get : ∀ {i : Nat} {d : PyData}, (ds.map some ++ List.replicate (N.length - ds.length) none)[i]? = some (some d) → ds[i]? = some d := fun {i d} h => by
      by_cases hi : i < ds.length
      · rw [List.getElem?_append_left (by simpa using hi), List.getElem?_map] at h
        rw [List.getElem?_eq_getElem hi] at h ⊢
        cases h; rfl
      · rw [List.getElem?_append_right (by simpa using hi), List.getElem?_replicate] at h
        split at h <;> cases h
    refine ⟨Grow.refl e, ?_, fun i d h _ => ?_, fun i d h m => ?_, fun i j di dj p h1 h2 m1 m2 h3 h4 => ?_⟩
    · unfold L2.start
      rw [List.length_append, List.length_append, List.length_map, List.length_map, List.length_replicate, List.length_replicate, hlen]
    · obtain ⟨v, h1, h2⟩ := dd.get (get h)
      refine ⟨v, ?_, h2⟩
      unfold L2.start
      have hi : i < vs.length := (List.getElem?_eq_some_iff.mp h1).1
      rw [List.getElem?_append_left (by simpa using hi), List.getElem?_map, h1]
      rfl
    · have := (List.getElem?_eq_some_iff.mp (get h)).1
      have hi : i ∈ M := by simpa using m
      have := of_decide_eq_true (List.all_eq_true.mp hM i hi)
      omega
    · have := (List.getElem?_eq_some_iff.mp (get h1)).1
      have hi : i ∈ M := by simpa using m1
      have := of_decide_eq_true (List.all_eq_true.mp hM i hi)
      omega
  unfold runDef at hφ
  cases hg : g (ds.map some ++ List.replicate (N.length - ds.length) none) with
  | none => rw [hg] at hφ; cases hφ
  | some o =>
    rw [hg] at hφ
    refine hS.sm R hg ?_
    cases o with
    | nx ρ =>
      obtain rfl := Option.some.inj hφ
      exact fun Hs' H' σ' e' R' => hq _ Hs' H' R'.g .non
    | ret d =>
      obtain rfl := Option.some.inj hφ
      exact fun v Hs' H' g' d' => hq v Hs' H' g' d'
    | exc c ρ =>
      obtain rfl := Option.some.inj hφ
      exact fun Hs' H' σ' e' R' => hq H' R'.g.ex
    | brk ρ => cases hφ
    | ct ρ => cases hφ
end
end DL

namespace DL
open PySem PySem.Spec PyProof.Rows L2
/-! ### tuple * int -/
theorem tuple_mul1 (l : Addr) (items : Array Value) (n : Nat) (dd : Option Addr) (sl : Array (Option Value)) (x : Int) (u : Tok) (c0 : (decide (x < -(2 ^ 63)) || decide (x ≥ 2 ^ 63)) = false) (c1 : (items.isEmpty || x == 1) = true) :
    Meets (Builtin.«tuple.__mul__» ⟨[.ref l, .int x u], []⟩) (fun _ R s => s.heap.get? l = some { cls := .type "tuple", dict := dd, data := .seq items n, slots := sl } ∧ R (.ok (.ret (Value.ref l))) s) :=
  .of_wp fun prog w A R s h => by
    obtain ⟨hp, g, d, tk, os⟩ := s
    obtain ⟨hl, h⟩ := h
    have f1 := AutoSeq1.idx_int
    wp_walk using wpAny_loadPart' hl
    repeat (first
      | (refine wpAny_ite_false (decide_eq_false (by rw [c0]; exact Bool.false_ne_true)) ?_; wp_walk using wpAny_loadPart' hl)
      | (refine wpAny_ite_true (decide_eq_true (by rw [c1])) ?_; wp_walk using wpAny_loadPart' hl))
    exact ⟨_, rfl, h⟩
theorem tuple_mul0 (l : Addr) (items : Array Value) (n : Nat) (dd : Option Addr) (sl : Array (Option Value)) (x : Int) (u : Tok) (c0 : (decide (x < -(2 ^ 63)) || decide (x ≥ 2 ^ 63)) = false) (c1 : (items.isEmpty || x == 1) = false) (c2 : (decide (x ≤ 0) || items.isEmpty) = true) :
    Meets (Builtin.«tuple.__mul__» ⟨[.ref l, .int x u], []⟩) (fun _ R s => s.heap.get? l = some { cls := .type "tuple", dict := dd, data := .seq items n, slots := sl } ∧
      R (.ok (.ret (Value.ref s.heap.objs.size))) { s with heap := s.heap.push { cls := Value.type "tuple", data := Data.seq #[] }, toks := s.toks }) :=
  .of_wp fun prog w A R s h => by
    obtain ⟨hp, g, d, tk, os⟩ := s
    obtain ⟨hl, h⟩ := h
    have f1 := AutoSeq1.idx_int
    wp_walk using wpAny_loadPart' hl
    repeat (first
      | (refine wpAny_ite_false (decide_eq_false (by rw [c0]; exact Bool.false_ne_true)) ?_; wp_walk using wpAny_loadPart' hl)
      | (refine wpAny_ite_false (decide_eq_false (by rw [c1]; exact Bool.false_ne_true)) ?_; wp_walk using wpAny_loadPart' hl)
      | (refine wpAny_ite_true (decide_eq_true (by rw [c2])) ?_; wp_walk using wpAny_loadPart' hl))
    exact ⟨_, rfl, h⟩

def rRepN (K : PySem.W.Frag) : R2 := fun x y H Q => ∃ l k xs, x = .ref l ∧ y = .int k ∧ SqT K H l xs ∧ -1000 ≤ k ∧ k ≤ 1000 ∧ xs.length ≤ 1000 ∧ (xs = [] ∨ k = 1 → Q (.ref l) H) ∧ (¬ (xs = [] ∨ k = 1) → NewT Q H (List.replicate k.toNat xs).flatten)
section
variable {X : Cx} {K : PySem.W.Frag}
theorem op_repN : OpR X (binaryOp .Mult) (rRepN X.K) := by
  intro pins s σ H x y v u Q I rx ry h
  obtain ⟨l, k, xs, rfl, rfl, hT, h1, h2, hz, q1, q2⟩ := h
  cases rx
  obtain ⟨t, rfl⟩ := ry
  obtain ⟨its, r, ⟨⟨cls, dd, data, sl⟩, ho, hc, n, hd⟩, hs⟩ := I.tuple hT
  simp only at hc hd
  subst hc hd
  have hle : its.length = xs.length := r.length.symm
  have c0 : (decide (k < -(2 ^ 63)) || decide (k ≥ 2 ^ 63)) = false := by
    rw [decide_eq_false (by omega), decide_eq_false (by omega)] <;> rfl
  have ie : its.toArray.isEmpty = decide (xs = []) := by
    cases xs with
    | nil => cases r; rfl
    | cons a b => cases r; rfl
  by_cases hc1 : xs = [] ∨ k = 1
  · have c1 : (its.toArray.isEmpty || k == 1) = true := by
      rw [ie]
      rcases hc1 with z | z
      · rw [decide_eq_true z, Bool.true_or]
      · rw [z]; simp
    exact wpAny_binaryOp_repeat_ref (T := "tuple") (U := "int") (by decide) ⟨_, ho, rfl⟩ (fun s' => typeIs_int s' k t) noFill_tuple_mul F.fills_int_mul F.slot_int_rmul repeat_tuple F.slot_int_index.lookup
      (call_meets F.slot_int_rmul (typeIs_int s k t) F.entry_int_rmul (F.args_int_rmul_2 _ _) (int_rmul_tuple k t l its.toArray n dd sl)
        ⟨ho, rfl, ⟨_, ho, rfl⟩, call_meets F.slot_tuple_mul ⟨_, ho, rfl⟩ F.entry_tuple_mul (F.args_tuple_mul_2 _ _) (tuple_mul1 l its.toArray n dd sl k t c0 c1) ⟨ho, .ref l, H, I, rfl, q1 hc1⟩⟩)
  · have hx : xs ≠ [] := fun z => hc1 (.inl z)
    have hk : k ≠ 1 := fun z => hc1 (.inr z)
    have hi : its.toArray.isEmpty = false := by rw [ie, decide_eq_false hx]
    have c1 : (its.toArray.isEmpty || k == 1) = false := by
      rw [hi, Bool.false_or]
      exact beq_eq_false_iff_ne.mpr hk
    have q := q2 hc1
    by_cases hk0 : k ≤ 0
    · have c2 : (decide (k ≤ 0) || its.toArray.isEmpty) = true := by rw [decide_eq_true hk0, Bool.true_or]
      have e0 : (List.replicate k.toNat xs).flatten = [] := by
        have : k.toNat = 0 := by omega
        rw [this]
        rfl
      rw [e0] at q
      exact wpAny_binaryOp_repeat_ref (T := "tuple") (U := "int") (by decide) ⟨_, ho, rfl⟩ (fun s' => typeIs_int s' k t) noFill_tuple_mul F.fills_int_mul F.slot_int_rmul repeat_tuple F.slot_int_index.lookup
        (call_meets F.slot_int_rmul (typeIs_int s k t) F.entry_int_rmul (F.args_int_rmul_2 _ _) (int_rmul_tuple k t l its.toArray n dd sl)
          ⟨ho, rfl, ⟨_, ho, rfl⟩, call_meets F.slot_tuple_mul ⟨_, ho, rfl⟩ F.entry_tuple_mul (F.args_tuple_mul_2 _ _) (tuple_mul0 l its.toArray n dd sl k t c0 c1 c2) ⟨ho, .ref s.heap.objs.size, _, Inv.tupN (its := []) (t' := s.toks) I .nil (Nat.zero_le _), rfl, q _ _ rfl (I.hok.fresh (Nat.le_refl _))⟩⟩)
    · have hsz0 : its.toArray.size = xs.length := by rw [List.size_toArray, hle]
      have hm : ((its.toArray.size : Nat) : Int) * k ≤ 1000000 := by
        rw [hsz0]
        have a1 : ((xs.length : Nat) : Int) * k ≤ 1000 * k := Int.mul_le_mul_of_nonneg_right (by omega) (by omega)
        omega
      have flen : (List.replicate k.toNat its).flatten.length ≤ sizeLine := by
        rw [PyProof.Rows.lm_len_rep_flat, hle, sizeLine_eq]
        have a1 : k.toNat * xs.length ≤ 1000 * 1000 := Nat.mul_le_mul (by omega) hz
        omega
      have c2 : (decide (k ≤ 0) || its.toArray.isEmpty) = false := by
        rw [hi, Bool.or_false]
        exact decide_eq_false hk0
      have c4 : Builtin.Tuple.tupleTooMany (((its.toArray.size : Nat) : Int) * k) = false := by
        unfold Builtin.Tuple.tupleTooMany
        rw [sizeLine_eq]
        exact decide_eq_false (by omega)
      refine wpAny_binaryOp_repeat_ref (T := "tuple") (U := "int") (by decide) ⟨_, ho, rfl⟩ (fun s' => typeIs_int s' k t) noFill_tuple_mul F.fills_int_mul F.slot_int_rmul repeat_tuple F.slot_int_index.lookup
        (call_meets F.slot_int_rmul (typeIs_int s k t) F.entry_int_rmul (F.args_int_rmul_2 _ _) (int_rmul_tuple k t l its.toArray n dd sl)
          ⟨ho, rfl, ⟨_, ho, rfl⟩, call_meets F.slot_tuple_mul ⟨_, ho, rfl⟩ F.entry_tuple_mul (F.args_tuple_mul_2 _ _) (tuple_mulW l its.toArray n dd sl k t c0 c1 c2 (by omega) c4 (by rw [size_rep, List.size_toArray]; exact flen)) ⟨ho, ?_⟩⟩)
      rw [size_rep]
      exact ⟨.ref s.heap.objs.size, _, Inv.tupN (t' := s.toks) I (r.rep k.toNat) (by rw [PyProof.Rows.lm_len_rep_flat, sizeLine_eq]; have a1 : k.toNat * xs.length ≤ 1000 * 1000 := Nat.mul_le_mul (by omega) hz; omega), rfl, q _ _ rfl (I.hok.fresh (Nat.le_refl _))⟩
def rMulD (K : PySem.W.Frag) : R2 := fun x y H Q => rI MulOk (fun i j => .int (i * j)) x y H Q ∨ rRepN K x y H Q
@[simp] noncomputable def gMulD : PyData → PyData → Option PyData
  | .int a, .int b => if MulOk a b then some (.int (a * b)) else none
  | .tuple ds, .int k => if -1000 ≤ k ∧ k ≤ 1000 ∧ ds.length ≤ 1000 then some (.tuple (List.replicate k.toNat ds).flatten) else none
  | _, _ => none
theorem DdAll.repl {H : Hp} {vs : List V} {ds : List PyData} (t : DdAll K H vs ds) : ∀ n, DdAll K H (List.replicate n vs).flatten (List.replicate n ds).flatten
  | 0 => .nil
  | n + 1 => by
    rw [List.replicate_succ, List.replicate_succ, List.flatten_cons, List.flatten_cons]
    exact t.append (DdAll.repl t n)
theorem od_mulD (hK : X.K = K := by rfl) : OD K X (binaryOp .Mult) (rMulD K) gMulD := by
  subst hK
  refine ⟨op_mulO.or op_repN, fun {Hs H x y dx dy d Q} e a b hf q => ?_⟩
  cases a with
  | int i =>
    cases b with
    | int j =>
      obtain ⟨hc, rfl⟩ := ite_some hf
      exact .inl ⟨i, j, rfl, rfl, hc, q _ Hs H (Grow.refl e) (.int _)⟩
    | _ => cases hf
  | @tup p ob xs ds n hp t =>
    cases b with
    | int k =>
      obtain ⟨⟨c1, c2, c3⟩, rfl⟩ := ite_some hf
      refine .inr ⟨p, k, xs, rfl, rfl, sqT_of (e _ _ hp), c1, c2, by rw [t.length]; exact c3, fun z => ?_, fun z => NewT.of (Grow.refl e) (t.repl _) q⟩
      have e1 : (List.replicate k.toNat ds).flatten = ds := by
        rcases z with z | z
        · subst z
          cases t
          exact flat_rep_nil _
        · subst z
          show ds ++ [] = ds
          rw [List.append_nil]
      rw [e1] at q
      exact q _ Hs H (Grow.refl e) (.tup n hp t)
    | _ => cases hf
  | _ => cases hf

/-! ### lists that change -/
variable {M : List Nat} {xc : Nat → Addr} {W : WX} {Hs0 H0 Hs H : Hp} {σ : L2.St} {ρ : Rho} {e o : Expr} {te ta : TE} {f : Fn} {pos pos' apos : Pos}
/-- a slot's list is written -/
theorem SR.upd {i : Nat} {p : Addr} {ys : List V} {es : List PyData} (r : SR K M Hs0 H0 Hs H σ ρ) (hM : M.contains i = true) (hs : σ[i]? = some (some (.ref p))) (hd : ∃ d, ρ[i]? = some (some d)) (hn : Hs p = none) (h0 : H0 p = none) (t : DdAll K Hs ys es) :
    SR K M Hs0 H0 Hs (L2.upd H p (.lst ys)) σ (ρ.set i (some (.list es))) where
  g := ⟨fun b o h => by
      have hb : b ≠ p := fun z => by rw [z, h0] at h; cases h
      rw [upd_ne hb]; exact r.g.ex _ _ h, r.g.exs, fun b o h => by
      have hb : b ≠ p := fun z => by rw [z, hn] at h; cases h
      rw [upd_ne hb]; exact r.g.sub _ _ h, r.g.new⟩
  len := by rw [List.length_set]; exact r.len
  frz := fun j d h m => by
    have hj : i ≠ j := fun z => by rw [← z, hM] at m; cases m
    rw [List.getElem?_set_ne hj] at h
    exact r.frz j d h m
  own := fun j d h m => by
    by_cases hj : i = j
    · subst hj
      have hi : i < ρ.length := by
        have := (List.getElem?_eq_some_iff.mp h).1
        rwa [List.length_set] at this
      rw [List.getElem?_set_self hi] at h
      cases h
      exact ⟨p, ys, es, rfl, hs, upd_same, hn, h0, t⟩
    · rw [List.getElem?_set_ne hj] at h
      obtain ⟨p', xs', ds', e1, e2, e3, e4, e5, e6⟩ := r.own j d h m
      have hp : p' ≠ p := fun z => by
        obtain ⟨di, hdi⟩ := hd
        exact hj (r.sep i j di d p hdi h hM m hs (by rw [← z]; exact e2))
      exact ⟨p', xs', ds', e1, e2, by rw [upd_ne hp]; exact e3, e4, e5, e6⟩
  sep := fun j k dj dk q h1 h2 m1 m2 h3 h4 => by
    have old : ∀ {j : Nat} {dj : PyData}, (ρ.set i (some (.list es)))[j]? = some (some dj) → ∃ d, ρ[j]? = some (some d) := fun {j dj} h => by
      by_cases hj : i = j
      · subst hj; exact hd
      · rw [List.getElem?_set_ne hj] at h; exact ⟨_, h⟩
    obtain ⟨a, ha⟩ := old h1
    obtain ⟨b, hb⟩ := old h2
    exact r.sep j k a b q ha hb m1 m2 h3 h4
/-- a slot takes a fresh list -/
theorem SR.take {i : Nat} {p : Addr} {xs : List V} {ds : List PyData} (r : SR K M Hs0 H0 Hs H σ ρ) {Hs1 H1 : Hp} (g : Grow Hs H Hs1 H1) (hM : M.contains i = true) (hf : H p = none) (hn : Hs1 p = none) (hH : H1 p = some (.lst xs)) (t : DdAll K Hs1 xs ds) :
    SR K M Hs0 H0 Hs1 H1 (σ.set i (some (.ref p))) (ρ.set i (some (.list ds))) := by
  have r1 := r.grow g
  have h0 : H0 p = none := r.g.ex.free hf
  have ne : ∀ j d, ρ[j]? = some (some d) → M.contains j = true → σ[j]? ≠ some (some (.ref p)) := fun j d h m z => by
    obtain ⟨p', xs', ds', e1, e2, e3, _⟩ := r.own j d h m
    rw [e2] at z
    cases z
    rw [hf] at e3
    cases e3
  refine ⟨r1.g, by rw [List.length_set, List.length_set]; exact r.len, fun j d h m => ?_, fun j d h m => ?_, fun j k dj dk q h1 h2 m1 m2 h3 h4 => ?_⟩
  · have hj : i ≠ j := fun z => by rw [← z, hM] at m; cases m
    rw [List.getElem?_set_ne hj] at h ⊢
    exact r1.frz j d h m
  · by_cases hj : i = j
    · subst hj
      have hi : i < ρ.length := by
        have := (List.getElem?_eq_some_iff.mp h).1
        rwa [List.length_set] at this
      rw [List.getElem?_set_self hi] at h
      cases h
      exact ⟨p, xs, ds, rfl, List.getElem?_set_self (by rw [r.len]; exact hi), hH, hn, h0, t⟩
    · rw [List.getElem?_set_ne hj] at h ⊢
      exact r1.own j d h m
  · by_cases hj : i = j
    · by_cases hk : i = k
      · exact hj.symm.trans hk
      · subst hj
        have hi : i < σ.length := by
          have := (List.getElem?_eq_some_iff.mp h3).1
          rwa [List.length_set] at this
        rw [List.getElem?_set_self hi] at h3
        cases h3
        rw [List.getElem?_set_ne hk] at h2 h4
        exact absurd h4 (ne k dk h2 m2)
    · by_cases hk : i = k
      · subst hk
        have hi : i < σ.length := by
          have := (List.getElem?_eq_some_iff.mp h4).1
          rwa [List.length_set] at this
        rw [List.getElem?_set_self hi] at h4
        cases h4
        rw [List.getElem?_set_ne hj] at h1 h3
        exact absurd h3 (ne j dj h1 m1)
      · rw [List.getElem?_set_ne hj] at h1 h3
        rw [List.getElem?_set_ne hk] at h2 h4
        exact r.sep j k dj dk q h1 h2 m1 m2 h3 h4
@[simp] def gOwn (i : Nat) (f : Rho → Option (List PyData)) : Gn := fun ρ => (f ρ).bind fun ds => some (.nx (ρ.set i (some (.list ds))))
/-- name = a fresh list, the name one of M -/
theorem sd_own (i : Nat) {x : Str} {f : Rho → Option (List PyData)} (hN : X.N.Nodup) (h : FD K X M e te f) (hi : X.N[i]? = some x := by rfl) (hx : Loc X.env.scope x := by first | exact Or.inl rfl | exact Or.inr rfl) (hM : M.contains i = true := by rfl)
    (hs : swapsWith e (some (.Name x pos')) pos.line X.env = pure false := by rfl) (hf : X.fn x = true ∨ X.env.scope.names.lookup x = some .local := by first | exact .inl rfl | exact .inr rfl) :
    SD K xc X M W (.Assign [.Name x pos'] e pos) (tAsg te (gName i)) (gOwn i f) :=
  ⟨ps_set hN hi hx h.pe hs hf, fun {Hs0 H0 Hs H σ ρ r D} R hf o => by
    obtain ⟨ds, h1, h2⟩ := bind_some hf
    obtain rfl := Option.some.inj h2
    exact h.sm R h1 fun p xs Hs1 H1 g1 hp hn hH t => o Hs1 H1 _ g1.exs (R.take g1 hM hp hn hH t)⟩
/-- .. by a comprehension on one line -/
theorem sd_ownLc {Rl : YR} {elt tg iter : Expr} {ifs : List Expr} {scope : Scope} {pos1 py : Pos} {wi : TI} {g : TG} {tt : TT} {ws : List Nat} {h : Rho → Option (List PyData)} {hg' : PyData → Rho → Option Rho} {c : Rho → Option Bool} (i : Nat) {y : Str}
    (own : List (Str × Nat)) (hN : X.N.Nodup) (hi : ID K X M Rl tg iter wi h) (ok : BlkOk X.N X.env.scope scope own)
    (hg : ∀ (s : Shared) (H : Hp) (C : Addr) (cl : List (Str × Addr)) (fp : List Addr), GD K (X.blk s H scope (compEnvC scope cl C X.env) fp) M Rl ws tg g hg')
    (ht : ∀ (s : Shared) (H : Hp) (C : Addr) (cl : List (Str × Addr)) (fp : List Addr), CTD K (X.blk s H scope (compEnvC scope cl C X.env) fp) M ifs tt c)
    (he : ∀ (s : Shared) (H : Hp) (C : Addr) (cl : List (Str × Addr)) (fp : List Addr), ED K (X.blk s H scope (compEnvC scope cl C X.env) fp) M elt te f)
    (hsw : swapsWith (.ListComp elt [⟨tg, iter, ifs, 0⟩] scope pos1) (some (.Name y py)) pos.line X.env = pure true)
    (hy : X.N[i]? = some y := by rfl) (hyl : X.env.scope.names.lookup y = some .local := by rfl) (hM : M.contains i = true := by rfl)
    (hws : ws.all (fun i => (own.map (·.2)).contains i) = true := by rfl) (hc : X.calm = true := by rfl) (hs : ∀ x, foldedSetIterable iter X.env x = pure x := by intro _; rfl) :
    SD K xc X M W (.Assign [.Name y py] (.ListComp elt [⟨tg, iter, ifs, 0⟩] scope pos1) pos) (tAsg (tLc wi g tt te (own.map (·.2))) (gName i)) (gOwn i (fLc (own.map (·.2)) h hg' c f)) :=
  ⟨ps_setLc hc hN hy hyl hsw hi.pi ok (fun s H C cl fp => (hg s H C cl fp).pg) (fun s H C cl fp => (ht s H C cl fp).pt) (fun s H C cl fp => (he s H C cl fp).pe) hs, fun {Hs0 H0 Hs H σ ρ r D} R hf o => by
    obtain ⟨ds, h1, h2⟩ := bind_some hf
    obtain rfl := Option.some.inj h2
    exact (fd_lc (pos := pos1) own hN hi ok hg ht he hws hc hs).sm R h1 fun p xs Hs1 H1 g1 hp hn hH t => o Hs1 H1 _ g1.exs (R.take g1 hM hp hn hH t)⟩
@[simp] def lstAt (i : Nat) : Rho → Option (List PyData) := fun ρ => match ρ[i]? with
  | some (some (.list ds)) => some ds
  | _ => none
theorem lstAt_some {i : Nat} {ds : List PyData} (h : lstAt i ρ = some ds) : ρ[i]? = some (some (.list ds)) := by
  unfold lstAt at h
  split at h
  · rename_i e; cases h; exact e
  · cases h
/-- x.append(e) -/
@[simp] def gApp (i : Nat) (f : Fn) : Gn := fun ρ => (lstAt i ρ).bind fun ds => (f ρ).bind fun d => if ds.length < 1000000 then some (.nx (ρ.set i (some (.list (ds ++ [d]))))) else none
theorem SR.ownAt {i : Nat} {ds : List PyData} (r : SR K M Hs0 H0 Hs H σ ρ) (h : ρ[i]? = some (some (.list ds))) (hM : M.contains i = true) : ∃ p xs, σ[i]? = some (some (.ref p)) ∧ H p = some (.lst xs) ∧ Hs p = none ∧ H0 p = none ∧ DdAll K Hs xs ds := by
  obtain ⟨p, xs, ds', e1, e2, e3, e4, e5, e6⟩ := r.own i _ h hM
  cases e1
  exact ⟨p, xs, e2, e3, e4, e5, e6⟩
theorem sd_append (i : Nat) {x : Str} (h : ED K X M e te f) (hN : X.N[i]? = some x := by rfl) (hv : Vis X.env.scope x := by first | exact Or.inl rfl | exact Or.inr (Or.inl rfl) | exact Or.inr (Or.inr rfl)) (hM : M.contains i = true := by rfl)
    (hbase : attributeBase (.Name x pos') "append" X.env (eval (.Name x pos') X.env) = eval (.Name x pos') X.env := by rfl)
    (hfew : ((backTo pos (starEach [e] X.env)).all (fun x => !x.1) && (backToKw pos (keywordEach [] X.env)).all (fun x => x.1.isSome)
      && decide ([e].length + ([] : List Keyword).length + (if ([] : List Keyword).isEmpty then 0 else 1) < 30)) = true := by rfl)
    (hline : (apos.endLine == pos.line) = true := by rfl) (hst : starEach [e] X.env = (false, eval e X.env) :: starEach [] X.env := by rfl) {pos2 : Pos} (hs : swapsWith (.Call (.Attribute (.Name x pos') "append" apos) [e] [] pos) none pos2.line X.env = pure false := by rfl) (hd : (x == ("__debug__" : Str)) = false := by decide) (hcd : (x == ("__classdict__" : Str)) = false := by decide) :
    SD K xc X M W (.Expr (.Call (.Attribute (.Name x pos') "append" apos) [e] [] pos) pos2) (tDrop (tBM X.K "list" rAppend (tVar i) (tCons te tNil))) (gApp i f) :=
  ⟨ps_expr (pe_bm PySem.F.plainAttrs_list PySem.F.slot_list_append PySem.F.type_list_append mt_append (pe_var hN hv hd hcd) (pa_cons h.pe pa_nil hst) hbase hfew hline hst rfl) hs, fun {Hs0 H0 Hs H σ ρ r D} R hf o => by
    obtain ⟨ds, h1, h2⟩ := bind_some hf
    obtain ⟨d, h3, h4⟩ := bind_some h2
    obtain ⟨hl, rfl⟩ := ite_some h4
    have hρ := lstAt_some h1
    obtain ⟨p, xs, e1, e2, e3, e4, e5⟩ := R.ownAt hρ hM
    refine ⟨.ref p, e1, .inl ⟨rfl, _, sqL_of e2⟩, h.sm R h3 fun v Hs1 H1 g1 d1 => ?_⟩
    refine ⟨p, xs, v, rfl, rfl, g1.ex _ _ e2, szL (by rw [e5.length]; exact hl), ?_⟩
    exact o Hs1 _ σ g1.exs ((R.grow g1).upd hM e1 ⟨_, hρ⟩ (g1.new p e3 (by rw [e2]; simp)) e4 ((e5.mono g1.exs).append (.cons d1 .nil)))⟩
/-- x[e1] = e2 -/
@[simp] def gSet (i : Nat) (fi f : Fn) : Gn := fun ρ => (f ρ).bind fun d => (lstAt i ρ).bind fun ds => (fi ρ).bind fun k => match k with
  | .int k => (ixN ds.length k).bind fun j => some (.nx (ρ.set i (some (.list (ds.set j d)))))
  | _ => none
theorem sd_setItem (i : Nat) {x : Str} {b : Expr} {tb : TE} {fb : Fn} {ps : Pos} (h : ED K X M e te f) (hb : ED K X M b tb fb) (hN : X.N[i]? = some x := by rfl) (hv : Vis X.env.scope x := by first | exact Or.inl rfl | exact Or.inr (Or.inl rfl) | exact Or.inr (Or.inr rfl)) (hM : M.contains i = true := by rfl)
    (ha : ∀ v, assign (.Subscript (.Name x pos') b ps) X.env v = (do
      let ov ← holding [v] (eval (.Name x pos') X.env)
      let iv ← holding [v, ov] (eval b X.env)
      standAt ps
      holding [v, ov, iv] (setItem ov iv v)
      release [v, ov, iv] []) := by intro _; rfl)
    (hs : swapsWithSole [.Subscript (.Name x pos') b ps] e pos.line X.env = pure false := by rfl) (hw : swappedStores [.Subscript (.Name x pos') b ps] e X.env = pure none := by rfl)
    (h1 : (assignEach [.Subscript (.Name x pos') b ps] X.env).map (·.2) = [assign (.Subscript (.Name x pos') b ps) X.env] := by rfl) (hd : (x == ("__debug__" : Str)) = false := by decide) (hcd : (x == ("__classdict__" : Str)) = false := by decide) :
    SD K xc X M W (.Assign [.Subscript (.Name x pos') b ps] e pos) (tAsg te (gSub (tVar i) tb rSetL)) (gSet i fb f) :=
  ⟨ps_asg h.pe (pg_sub (pe_var hN hv hd hcd) hb.pe set_list ha) hs hw h1, fun {Hs0 H0 Hs H σ ρ r D} R hf o => by
    obtain ⟨d, h1, hf⟩ := bind_some hf
    obtain ⟨ds, h2, hf⟩ := bind_some hf
    obtain ⟨k, h3, hf⟩ := bind_some hf
    have hρ := lstAt_some h2
    obtain ⟨p, xs, e1, e2, e3, e4, e5⟩ := R.ownAt hρ hM
    refine h.sm R h1 fun v Hs1 H1 g1 d1 => ⟨.ref p, e1, hb.sm (R.grow g1) h3 fun w Hs2 H2 g2 d2 => ?_⟩
    cases d2 with
    | int k =>
      obtain ⟨j, h4, h5⟩ := bind_some hf
      obtain rfl := Option.some.inj h5
      have g := g1.trans g2
      refine ⟨p, xs, k, j, rfl, rfl, g.ex _ _ e2, by rw [e5.length]; exact h4, ?_⟩
      exact o Hs2 _ σ g.exs ((R.grow g).upd (ys := xs.set j v) hM e1 ⟨_, hρ⟩ (g.new p e3 (by rw [e2]; simp)) e4 (DdAll.set (d1.mono g2.exs) j (e5.mono g.exs)))
    | _ => cases hf⟩
end
end DL

namespace DL
open PySem PySem.Spec PyProof.Rows L2
/-! ### [x.pop(e) for k in ..]: a comprehension that empties a list of the def -/
def B63 (k : Int) : Prop := -(2 ^ 63) ≤ k ∧ k < 2 ^ 63
noncomputable instance : DecidablePred B63 := fun _ => Classical.propDecidable _
noncomputable def popF (j iL : Nat) (fe : Fn) : List PyData → Rho → Option (List PyData)
  | [], _ => some []
  | d :: ds, ρ => (lstAt iL (ρ.set j (some d))).bind fun L => (fe (ρ.set j (some d))).bind fun k => match k with
    | .int k => if B63 k then (seqIndex? k L.length).bind fun n => (L[n]?).bind fun y => (popF j iL fe ds (ρ.set iL (some (.list (L.eraseIdx n))))).bind fun ys => some (y :: ys) else none
    | _ => none
section
variable {K : PySem.W.Frag} {X : Cx} {M : List Nat} {xc : Nat → Addr} {W : WX} {Hs0 H0 Hs H Hs1 H1 : Hp} {σ : L2.St} {ρ : Rho} {e : Expr} {te : TE} {fe : Fn} {pos pos' apos : Pos}
/-- an object that no slot owns is written -/
theorem SR.other {D : Addr} {o : HO} (r : SR K M Hs0 H0 Hs H σ ρ) (hn : Hs D = none) (h0 : H0 D = none) (ne : ∀ i d p, ρ[i]? = some (some d) → M.contains i = true → σ[i]? = some (some (.ref p)) → p ≠ D) : SR K M Hs0 H0 Hs (L2.upd H D o) σ ρ where
  g := ⟨fun b o h => by
      have hb : b ≠ D := fun z => by rw [z, h0] at h; cases h
      rw [upd_ne hb]; exact r.g.ex _ _ h, r.g.exs, fun b o h => by
      have hb : b ≠ D := fun z => by rw [z, hn] at h; cases h
      rw [upd_ne hb]; exact r.g.sub _ _ h, r.g.new⟩
  len := r.len
  frz := r.frz
  own := fun j d h m => by
    obtain ⟨p', xs', ds', e1, e2, e3, e4, e5, e6⟩ := r.own j d h m
    exact ⟨p', xs', ds', e1, e2, by rw [upd_ne (ne j d p' h m e2)]; exact e3, e4, e5, e6⟩
  sep := r.sep
/-- a slot is forgotten -/
theorem SR.forget {i : Nat} (r : SR K M Hs0 H0 Hs H σ ρ) : SR K M Hs0 H0 Hs H σ (ρ.set i none) := by
  have old : ∀ {j : Nat} {d : PyData}, (ρ.set i none)[j]? = some (some d) → ρ[j]? = some (some d) := fun {j d} h => by
    by_cases hj : i = j
    · subst hj
      by_cases hi : i < ρ.length
      · rw [List.getElem?_set_self hi] at h; cases h
      · rw [List.getElem?_eq_none (by simpa using hi)] at h; cases h
    · rwa [List.getElem?_set_ne hj] at h
  exact ⟨r.g, by rw [List.length_set]; exact r.len, fun j d h => r.frz j d (old h), fun j d h => r.own j d (old h), fun j k dj dk p h1 h2 => r.sep j k dj dk p (old h1) (old h2)⟩
def tPop (K : PySem.W.Frag) (iL : Nat) (te : TE) : TE := tBM K "list" rPopAt (tVar iL) (tCons te tNil)
theorem lcPop {h : Rho → Option (List PyData)} {tg iter : Expr} {wi : TI} {j iL : Nat} {vs : List Nat} {ds res : List PyData} {Q : VK} (hi : ID K X M (Dd K) tg iter wi h) (Y : Cx) (he : ED K Y M e te fe) (hML : M.contains iL = true) (hMj : M.contains j = false) (hj : j ∈ vs) (hvs : vs.all (fun i => !M.contains i) = true)
    (R : SR K M Hs0 H0 Hs H σ ρ) (h1 : h ρ = some ds) (hl : ds.length ≤ 1000000) (hp : popF j iL fe ds (wipeR ρ vs) = some res)
    (q : ∀ D acc Hs' H', Same Hs Hs' → SR K M Hs0 H0 Hs' H' σ (ρ.set iL none) → H D = none → Hs' D = none → H0 D = none → H' D = some (.lst acc) → DdAll K Hs' acc res → (∀ i d p, ρ[i]? = some (some d) → M.contains i = true → σ[i]? = some (some (.ref p)) → p ≠ D) → Q (.ref D) H') :
    tLc wi (gName j) tYes (tPop K iL te) vs σ H Q := by
  have hMv : ∀ i, M.contains i = true → i ∉ vs := fun i m hi => by
    have := List.all_eq_true.mp hvs i hi
    rw [m] at this
    cases this
  refine hi.sm R h1 fun J Hs1 H1 g1 Yl D hD => ?_
  have nD : Hs1 D = none := g1.sub.free hD
  have R1 := R.grow g1
  have h0D : H0 D = none := R1.g.ex.free hD
  have own0 : ∀ i d p, ρ[i]? = some (some d) → M.contains i = true → σ[i]? = some (some (.ref p)) → p ≠ D := fun i d p h m hs z => by
    obtain ⟨p', xs', ds', e1, e2, e3, _⟩ := R1.own i d h m
    rw [hs] at e2
    cases e2
    rw [z, hD] at e3
    cases e3
  refine ⟨fun i m H' => m = ds.length - i ∧ i ≤ ds.length ∧ ∃ Hsi ρi acc accd tail, Same Hs1 Hsi ∧ Hsi D = none ∧ SR K M Hs0 H0 Hsi H' (L2.wipe σ vs) ρi ∧ (∀ i d, ρi[i]? = some (some d) → M.contains i = true → ∃ d', ρ[i]? = some (some d')) ∧ (∀ i, i ≠ iL → ρi[i]? = (wipeR ρ vs)[i]?) ∧ H' D = some (.lst acc) ∧ DdAll K Hsi acc accd ∧ acc.length ≤ i ∧ popF j iL fe (ds.drop i) ρi = some tail ∧ accd ++ tail = res,
    ⟨ds.length, by simp, Nat.zero_le _, Hs1, wipeR ρ vs, [], [], res, Same.refl _, nD, ?_, fun i d h m => ⟨d, (wipeR_some h).1⟩, fun _ _ => rfl, upd_same, .nil, Nat.le_refl _, hp, rfl⟩, ?_⟩
  · refine (R1.wipe vs).other nD h0D fun i d p h m hs => ?_
    obtain ⟨a1, a2⟩ := wipeR_some h
    rw [wipe_out a2] at hs
    exact own0 i d p a1 m hs
  · rintro i m H2 ⟨rfl, hle, Hsi, ρi, acc, accd, tail, e2, n2, R2, hown, hsame, hD2, d2, hacc, hcf, hres⟩
    by_cases hlt : i < ds.length
    · refine .inr ⟨Yl.go i H2 (e2.trans R2.sub) hlt, fun H' => i + 1 ≤ ds.length ∧ ∃ Hsi ρi acc accd tail, Same Hs1 Hsi ∧ Hsi D = none ∧ SR K M Hs0 H0 Hsi H' (L2.wipe σ vs) ρi ∧ (∀ i d, ρi[i]? = some (some d) → M.contains i = true → ∃ d', ρ[i]? = some (some d')) ∧ (∀ i, i ≠ iL → ρi[i]? = (wipeR ρ vs)[i]?) ∧ H' D = some (.lst acc) ∧ DdAll K Hsi acc accd ∧ acc.length ≤ i + 1 ∧ popF j iL fe (ds.drop (i + 1)) ρi = some tail ∧ accd ++ tail = res,
        fun H' ⟨a, b⟩ => ⟨ds.length - (i + 1), by omega, rfl, a, b⟩, fun x H3 hy => ?_⟩
      obtain ⟨Hs3, g3, d, hd, ad⟩ := Yl.yld i H2 x H3 Hsi hlt e2 R2.sub hy
      have ed : ds.drop i = d :: ds.drop (i + 1) := by
        have e1 := List.drop_eq_getElem_cons hlt
        have e2 : ds[i] = d := (List.getElem?_eq_some_iff.mp hd).2
        rw [e1, e2]
      rw [ed] at hcf
      unfold popF at hcf
      obtain ⟨L, c1, hcf⟩ := bind_some hcf
      obtain ⟨k, c2, hcf⟩ := bind_some hcf
      have R3 := R2.grow g3
      have R4 := R3.set (i := j) hMj ad
      have hρL := lstAt_some c1
      refine ⟨?_, ?_⟩
      · show L2.wipe ((L2.wipe σ vs).set j (some x)) vs = L2.wipe σ vs
        rw [wipe_set hj]
        exact wipe_wipe σ vs
      · unfold tYes
        dsimp only
        rw [if_pos rfl]
        obtain ⟨pL, xsL, f1, f2, f3, f4, f5⟩ := R4.ownAt hρL hML
        refine ⟨.ref pL, f1, .inl ⟨rfl, _, sqL_of f2⟩, he.sm R4 c2 fun v Hs5 H5 g5 d5 => ?_⟩
        cases d5 with
        | int k =>
          obtain ⟨hB, hcf⟩ := ite_get hcf
          obtain ⟨n, c3, hcf⟩ := bind_some hcf
          obtain ⟨y, c4, hcf⟩ := bind_some hcf
          obtain ⟨ys, c5, hcf⟩ := bind_some hcf
          obtain rfl := Option.some.inj hcf
          obtain ⟨yv, c6, c7⟩ := f5.get c4
          have hD5 : H5 D = some (.lst acc) := g5.ex _ _ (g3.ex _ _ hD2)
          have hpD : pL ≠ D := by
            have hneJ : j ≠ iL := fun z => by rw [z, hML] at hMj; cases hMj
            rw [List.getElem?_set_ne hneJ] at hρL f1
            obtain ⟨d', hd'⟩ := hown _ _ hρL hML
            rw [wipe_out (hMv _ hML)] at f1
            exact own0 _ _ _ hd' hML f1
          refine ⟨pL, xsL, k, n, yv, rfl, rfl, g5.ex _ _ f2, hB.1, hB.2, by rw [f5.length]; exact c3, c6, ?_⟩
          have n5 : Hs5 D = none := g5.new D (g3.new D n2 (by rw [hD2]; simp)) (by rw [g3.ex _ _ hD2]; simp)
          have R5 : SR K M Hs0 H0 Hs5 (L2.upd H5 pL (.lst (xsL.eraseIdx n))) (L2.wipe σ vs) (ρi.set iL (some (.list (L.eraseIdx n)))) := by
            have hneJ : j ≠ iL := fun z => by rw [z, hML] at hMj; cases hMj
            rw [List.getElem?_set_ne hneJ] at hρL f1
            exact (R3.grow g5).upd hML f1 ⟨_, hρL⟩ (g5.new pL f3 (by rw [f2]; simp)) f4 ((f5.mono g5.exs).erase n)
          have own5 : ∀ i d, (ρi.set iL (some (.list (L.eraseIdx n))))[i]? = some (some d) → M.contains i = true → ∃ d', ρ[i]? = some (some d') := fun i d h m => by
            by_cases hiL : iL = i
            · subst hiL
              have hneJ : j ≠ iL := fun z => by rw [z, hML] at hMj; cases hMj
              rw [List.getElem?_set_ne hneJ] at hρL
              exact hown _ _ hρL hML
            · rw [List.getElem?_set_ne hiL] at h
              exact hown i d h m
          refine ⟨acc, by rw [upd_ne hpD.symm]; exact hD5, szL (by omega), hlt, Hs5, ρi.set iL (some (.list (L.eraseIdx n))), acc ++ [yv], accd ++ [y], ys, (e2.trans g3.exs).trans g5.exs, n5, R5.other n5 h0D ?_, own5, fun i hi => ?_, upd_same, ((d2.mono g3.exs).mono g5.exs).append (.cons (c7.mono g5.exs) .nil), ?_, c5, ?_⟩
          · intro i d p h m hs
            obtain ⟨d', hd'⟩ := own5 i d h m
            rw [wipe_out (hMv _ m)] at hs
            exact own0 _ _ _ hd' m hs
          · rw [List.getElem?_set_ne (fun z => hi z.symm)]
            exact hsame i hi
          · rw [List.length_append, List.length_singleton]
            omega
          · rw [List.append_assoc]
            exact hres
        | _ => cases hcf
    · have ei : i = ds.length := by omega
      subst ei
      rw [List.drop_length] at hcf
      unfold popF at hcf
      cases hcf
      rw [List.append_nil] at hres
      subst hres
      refine .inl ⟨Yl.stop _ H2 (e2.trans R2.sub) (Nat.le_refl _), q D acc Hsi H2 (g1.exs.trans e2) ?_ (g1.ex.free hD) n2 h0D hD2 d2 own0⟩
      have setNone : ∀ {i : Nat} {d : PyData}, (ρ.set iL none)[i]? = some (some d) → i ≠ iL ∧ ρ[i]? = some (some d) := fun {i d} h => by
        by_cases hj : iL = i
        · subst hj
          by_cases hi : iL < ρ.length
          · rw [List.getElem?_set_self hi] at h; cases h
          · rw [List.getElem?_eq_none (by simpa using hi)] at h; cases h
        · rw [List.getElem?_set_ne hj] at h
          exact ⟨fun z => hj z.symm, h⟩
      have wr : ∀ i, i ∉ vs → (wipeR ρ vs)[i]? = ρ[i]? := fun i => by
        have : ∀ (ws : List Nat), i ∉ ws → (wipeR ρ ws)[i]? = ρ[i]? := fun ws => by
          induction ws with
          | nil => intro _; rfl
          | cons w ws ih =>
            intro hw
            unfold wipeR
            rw [List.getElem?_set_ne (fun z => hw (by rw [z]; exact List.mem_cons_self)), ih (fun z => hw (List.mem_cons_of_mem _ z))]
        exact this vs
      refine ⟨R2.g, by rw [List.length_set]; exact R.len, fun i d h m => ?_, fun i d h m => ?_, fun i k di dk p h1 h2 m1 m2 h3 h4 => ?_⟩
      · obtain ⟨hne, h⟩ := setNone h
        obtain ⟨v, a, b⟩ := R.frz i d h m
        exact ⟨v, a, (b.mono g1.exs).mono e2⟩
      · obtain ⟨hne, h⟩ := setNone h
        have hi2 : ρi[i]? = some (some d) := by rw [hsame i hne, wr i (hMv i m)]; exact h
        obtain ⟨p', xs', ds', a1, a2, a3⟩ := R2.own i d hi2 m
        rw [wipe_out (hMv i m)] at a2
        exact ⟨p', xs', ds', a1, a2, a3⟩
      · exact R.sep i k di dk p (setNone h1).2 (setNone h2).2 m1 m2 h3 h4
/-- the fresh list at D, forgotten as such: it stands with the data -/
theorem SR.show {D : Addr} {acc : List V} {ds : List PyData} (r : SR K M Hs0 H0 Hs H σ ρ) (hn : Hs D = none) (h0 : H0 D = none) (hD : H D = some (.lst acc)) (t : DdAll K Hs acc ds) (ne : ∀ i d p, ρ[i]? = some (some d) → M.contains i = true → σ[i]? = some (some (.ref p)) → p ≠ D) :
    ∃ Hs', Same Hs Hs' ∧ SR K M Hs0 H0 Hs' H σ ρ ∧ Dd K Hs' (.ref D) (.list ds) := by
  have e1 : Same Hs (L2.upd Hs D (.lst acc)) := same_new hn
  refine ⟨L2.upd Hs D (.lst acc), e1, ⟨⟨r.g.ex, r.g.exs.trans e1, fun b o z => ?_, fun a z n => ?_⟩, r.len, fun i d h m => ?_, fun i d h m => ?_, r.sep⟩, .lst upd_same (t.mono e1)⟩
  · by_cases hb : b = D
    · subst hb; rw [upd_same] at z; rw [hD]; exact z
    · rw [upd_ne hb] at z; exact r.g.sub _ _ z
  · have : a ≠ D := fun y => n (by rw [y]; exact h0)
    rw [upd_ne this]; exact r.g.new a z n
  · obtain ⟨v, a, b⟩ := r.frz i d h m
    exact ⟨v, a, b.mono e1⟩
  · obtain ⟨p', xs', ds', a1, a2, a3, a4, a5, a6⟩ := r.own i d h m
    exact ⟨p', xs', ds', a1, a2, a3, by rw [upd_ne (ne i d p' h m a2)]; exact a4, a5, a6.mono e1⟩
@[simp] noncomputable def gSetPop (i j iL : Nat) (vs : List Nat) (h : Rho → Option (List PyData)) (fe : Fn) : Gn := fun ρ => (h ρ).bind fun ds => if ds.length ≤ 1000000 then (popF j iL fe ds (wipeR ρ vs)).bind fun ys => some (.nx ((ρ.set iL none).set i (some (.list ys)))) else none
/-- y = [x.pop(e) for k in ..] -/
theorem sd_setPop {tg iter : Expr} {scope : Scope} {pos1 py px cpos : Pos} {wi : TI} {h : Rho → Option (List PyData)} (i iL : Nat) {j : Nat} {y x : Str}
    (own : List (Str × Nat)) (hN : X.N.Nodup) (hi : ID K X M (Dd K) tg iter wi h) (ok : BlkOk X.N X.env.scope scope own)
    (hg : ∀ (s : Shared) (H : Hp) (C : Addr) (cl : List (Str × Addr)) (fp : List Addr), GD K (X.blk s H scope (compEnvC scope cl C X.env) fp) M (Dd K) [j] tg (gName j) (hName j))
    (hx : ∀ (s : Shared) (H : Hp) (C : Addr) (cl : List (Str × Addr)) (fp : List Addr), PE (X.blk s H scope (compEnvC scope cl C X.env) fp) (.Name x px) (tVar iL))
    (he : ∀ (s : Shared) (H : Hp) (C : Addr) (cl : List (Str × Addr)) (fp : List Addr), ED K (X.blk s H scope (compEnvC scope cl C X.env) fp) M e te fe)
    (hsw : swapsWith (.ListComp (.Call (.Attribute (.Name x px) "pop" apos) [e] [] cpos) [⟨tg, iter, [], 0⟩] scope pos1) (some (.Name y py)) pos.line X.env = pure true)
    (hy : X.N[i]? = some y := by rfl) (hyl : X.env.scope.names.lookup y = some .local := by rfl) (hM : M.contains i = false := by rfl) (hML : M.contains iL = true := by rfl) (hMj : M.contains j = false := by rfl) (hj : j ∈ own.map (·.2) := by decide) (hvs : (own.map (·.2)).all (fun i => !M.contains i) = true := by rfl)
    (hc : X.calm = true := by rfl) (hs : ∀ x, foldedSetIterable iter X.env x = pure x := by intro _; rfl)
    (hbase : ∀ (s : Shared) (H : Hp) (C : Addr) (cl : List (Str × Addr)) (fp : List Addr), attributeBase (.Name x px) "pop" (compEnvC scope cl C X.env) (eval (.Name x px) (compEnvC scope cl C X.env)) = eval (.Name x px) (compEnvC scope cl C X.env) := by intros; rfl)
    (hfew : ∀ (s : Shared) (H : Hp) (C : Addr) (cl : List (Str × Addr)) (fp : List Addr), ((backTo cpos (starEach [e] (compEnvC scope cl C X.env))).all (fun x => !x.1) && (backToKw cpos (keywordEach [] (compEnvC scope cl C X.env))).all (fun x => x.1.isSome)
      && decide ([e].length + ([] : List Keyword).length + (if ([] : List Keyword).isEmpty then 0 else 1) < 30)) = true := by intros; rfl)
    (hline : (apos.endLine == cpos.line) = true := by rfl) (hst : ∀ (s : Shared) (H : Hp) (C : Addr) (cl : List (Str × Addr)) (fp : List Addr), starEach [e] (compEnvC scope cl C X.env) = (false, eval e (compEnvC scope cl C X.env)) :: starEach [] (compEnvC scope cl C X.env) := by intros; rfl) (hK : X.K = K := by rfl) :
    SD K xc X M W (.Assign [.Name y py] (.ListComp (.Call (.Attribute (.Name x px) "pop" apos) [e] [] cpos) [⟨tg, iter, [], 0⟩] scope pos1) pos) (tAsg (tLc wi (gName j) tYes (tPop K iL te) (own.map (·.2))) (gName i)) (gSetPop i j iL (own.map (·.2)) h fe) := by
  subst hK
  refine ⟨ps_setLc hc hN hy hyl hsw hi.pi ok (fun s H C cl fp => (hg s H C cl fp).pg) (fun s H C cl fp => pts_nil)
    (fun s H C cl fp => pe_bm PySem.F.plainAttrs_list PySem.F.slot_list_pop PySem.F.type_list_pop mt_popAt (hx s H C cl fp) (pa_cons (he s H C cl fp).pe pa_nil (hst s H C cl fp)) (hbase s H C cl fp) (hfew s H C cl fp) hline (hst s H C cl fp) rfl) hs, fun {Hs0 H0 Hs H σ ρ r D} R hf o => ?_⟩
  obtain ⟨ds, h1, hf⟩ := bind_some hf
  obtain ⟨hl, hf⟩ := ite_get hf
  obtain ⟨ys, h2, hf⟩ := bind_some hf
  obtain rfl := Option.some.inj hf
  refine lcPop hi _ (he X.s_0 (fun _ => none) 0 [] []) hML hMj hj hvs R h1 hl h2 fun Da acc Hs' H' e1 R' hD hn h0 hD' t ne => ?_
  obtain ⟨Hs2, e2, R2, d2⟩ := R'.show hn h0 hD' t fun i d p h m hs => by
    by_cases hiL : iL = i
    · subst hiL
      by_cases hi : iL < ρ.length
      · rw [List.getElem?_set_self hi] at h; cases h
      · rw [List.getElem?_eq_none (by simpa using hi)] at h; cases h
    · rw [List.getElem?_set_ne hiL] at h
      exact ne i d p h m hs
  exact o Hs2 H' _ (e1.trans e2) (R2.set hM d2)
/-- return tuple([x.pop(e) for k in ..]) -/
@[simp] noncomputable def gRetPop (j iL : Nat) (vs : List Nat) (h : Rho → Option (List PyData)) (fe : Fn) : Gn := fun ρ => (h ρ).bind fun ds => if ds.length ≤ 1000000 then (popF j iL fe ds (wipeR ρ vs)).bind fun ys => some (.ret (.tuple ys)) else none
theorem sd_retPop {tg iter : Expr} {scope : Scope} {pos1 px cpos tp p2 : Pos} {wi : TI} {h : Rho → Option (List PyData)} (iL : Nat) {j : Nat} {x : Str}
    (own : List (Str × Nat)) (hN : X.N.Nodup) (hi : ID K X M (Dd K) tg iter wi h) (ok : BlkOk X.N X.env.scope scope own)
    (hg : ∀ (s : Shared) (H : Hp) (C : Addr) (cl : List (Str × Addr)) (fp : List Addr), GD K (X.blk s H scope (compEnvC scope cl C X.env) fp) M (Dd K) [j] tg (gName j) (hName j))
    (hx : ∀ (s : Shared) (H : Hp) (C : Addr) (cl : List (Str × Addr)) (fp : List Addr), PE (X.blk s H scope (compEnvC scope cl C X.env) fp) (.Name x px) (tVar iL))
    (he : ∀ (s : Shared) (H : Hp) (C : Addr) (cl : List (Str × Addr)) (fp : List Addr), ED K (X.blk s H scope (compEnvC scope cl C X.env) fp) M e te fe)
    (hm : X.mg "tuple" = none) (hgl : Gl X "tuple" := by rfl)
    (hML : M.contains iL = true := by rfl) (hMj : M.contains j = false := by rfl) (hj : j ∈ own.map (·.2) := by decide) (hvs : (own.map (·.2)).all (fun i => !M.contains i) = true := by rfl)
    (hc : X.calm = true := by rfl) (hs : ∀ x, foldedSetIterable iter X.env x = pure x := by intro _; rfl)
    (hbase : ∀ (s : Shared) (H : Hp) (C : Addr) (cl : List (Str × Addr)) (fp : List Addr), attributeBase (.Name x px) "pop" (compEnvC scope cl C X.env) (eval (.Name x px) (compEnvC scope cl C X.env)) = eval (.Name x px) (compEnvC scope cl C X.env) := by intros; rfl)
    (hfew : ∀ (s : Shared) (H : Hp) (C : Addr) (cl : List (Str × Addr)) (fp : List Addr), ((backTo cpos (starEach [e] (compEnvC scope cl C X.env))).all (fun x => !x.1) && (backToKw cpos (keywordEach [] (compEnvC scope cl C X.env))).all (fun x => x.1.isSome)
      && decide ([e].length + ([] : List Keyword).length + (if ([] : List Keyword).isEmpty then 0 else 1) < 30)) = true := by intros; rfl)
    (hline : (apos.endLine == cpos.line) = true := by rfl) (hst : ∀ (s : Shared) (H : Hp) (C : Addr) (cl : List (Str × Addr)) (fp : List Addr), starEach [e] (compEnvC scope cl C X.env) = (false, eval e (compEnvC scope cl C X.env)) :: starEach [] (compEnvC scope cl C X.env) := by intros; rfl) (hK : X.K = K := by rfl)
    (hes : starEach [.ListComp (.Call (.Attribute (.Name x px) "pop" apos) [e] [] cpos) [⟨tg, iter, [], 0⟩] scope pos1] X.env = (false, eval (.ListComp (.Call (.Attribute (.Name x px) "pop" apos) [e] [] cpos) [⟨tg, iter, [], 0⟩] scope pos1) X.env) :: starEach [] X.env := by rfl) :
    SD K xc X M W (.Return (some (.Call (.Name "tuple" tp) [.ListComp (.Call (.Attribute (.Name x px) "pop" apos) [e] [] cpos) [⟨tg, iter, [], 0⟩] scope pos1] [] p2)) pos)
      (tRet (tCB (fun xs H Q => ∃ p ys, xs = [.ref p] ∧ ((SqL K H p ys ∧ NewT Q H ys) ∨ (SqT K H p ys ∧ Q (.ref p) H))) (tCons (tLc wi (gName j) tYes (tPop K iL te) (own.map (·.2))) tNil))) (gRetPop j iL (own.map (·.2)) h fe) := by
  subst hK
  refine ⟨ps_ret (pe_callTy call_tupN hgl hm boot_tuple (pa_cons (pe_lc hc hN hi.pi ok (fun s H C cl fp => (hg s H C cl fp).pg) (fun s H C cl fp => pts_nil)
    (fun s H C cl fp => pe_bm PySem.F.plainAttrs_list PySem.F.slot_list_pop PySem.F.type_list_pop mt_popAt (hx s H C cl fp) (pa_cons (he s H C cl fp).pe pa_nil (hst s H C cl fp)) (hbase s H C cl fp) (hfew s H C cl fp) hline (hst s H C cl fp) rfl) hs) pa_nil hes) (by decide) (by decide) hes rfl), fun {Hs0 H0 Hs H σ ρ r D} R hf o => ?_⟩
  obtain ⟨ds, h1, hf⟩ := bind_some hf
  obtain ⟨hl, hf⟩ := ite_get hf
  obtain ⟨ys, h2, hf⟩ := bind_some hf
  obtain rfl := Option.some.inj hf
  show tLc wi (gName j) tYes (tPop X.K iL te) (own.map (·.2)) σ H (fun x H1 => ∃ p ys, [x] = [V.ref p] ∧ ((SqL X.K H1 p ys ∧ NewT D.rt H1 ys) ∨ (SqT X.K H1 p ys ∧ D.rt (.ref p) H1)))
  refine lcPop hi _ (he X.s_0 (fun _ => none) 0 [] []) hML hMj hj hvs R h1 hl h2 fun Da acc Hs' H' e1 R' hD hn h0 hD' t ne => ?_
  exact ⟨Da, acc, rfl, .inl ⟨sqL_of hD', NewT.of (Hs := Hs0) (H := H0) R'.g t fun v Hs3 H3 g3 d3 => o v Hs3 H3 g3 d3⟩⟩
end
end DL

namespace DL
open PySem PySem.Spec PyProof.Rows L2
/-! ### the law's end -/
def spLaw (K : PySem.W.Frag) : Sp := fun vs H Q _ => ∃ (a : Addr) (ns : List Int), vs = [.ref a] ∧ SqL K H a (ns.map V.int) ∧ ns.length ≤ 63 ∧ ∀ H', Q (.bl true) H'
theorem spLaw_of {K : PySem.W.Frag} {xc : Nat → Addr} {φ : List PyData → Option (Except Nat PyData)} (h : ∀ ns : List Int, ns.length ≤ 63 → φ [.dict (scrK ns)] = some (.ok (.bool true))) : ∀ vs H Q E, spLaw K vs H Q E → spX K 1 xc φ vs H Q E := fun vs H Q E hs => by
  obtain ⟨a, ns, rfl, hS, hl, q⟩ := hs
  refine ⟨rfl, H, _, _, Same.refl _, .cons (.scr hS) .nil, h ns hl, fun v Hs' H' g d => ?_⟩
  cases d
  exact q H'
theorem no_cx {P : Program} {w : World} {H : Hp} {s : Shared} {e : Value} {s' : Shared} (h : L2.CX P w [] H s (fun _ _ _ => False) e s') : False := by
  obtain ⟨_, _, _, _, _, _, _, _, _, _, _, _, z⟩ := h
  exact z

/-! ### what the combinators reckon -/
def mapD (to : Int) (row : List Int) : PyData := .tuple [.int to, .tuple (row.map .int)]
theorem compF_map {tg : PyData → Rho → Option Rho} {c : Rho → Option Bool} {f : Fn} {ρ : Rho} {g : PyData → PyData} : ∀ {ds : List PyData}, (∀ d ∈ ds, ∃ ρ1, tg d ρ = some ρ1 ∧ c ρ1 = some true ∧ f ρ1 = some (g d)) → compF tg c f ρ ds = some (ds.map g)
  | [], _ => rfl
  | d :: ds, h => by
    obtain ⟨ρ1, h1, h2, h3⟩ := h d List.mem_cons_self
    unfold compF
    rw [h1, Option.bind_some, h2, Option.bind_some, if_pos rfl, h3, Option.bind_some, compF_map (fun x hx => h x (List.mem_cons_of_mem _ hx)), Option.bind_some]
    rfl
theorem compF_filter {tg : PyData → Rho → Option Rho} {c : Rho → Option Bool} {f : Fn} {ρ : Rho} {g : PyData → PyData} {p : PyData → Bool} : ∀ {ds : List PyData}, (∀ d ∈ ds, ∃ ρ1, tg d ρ = some ρ1 ∧ c ρ1 = some (p d) ∧ (p d = true → f ρ1 = some (g d))) → compF tg c f ρ ds = some ((ds.filter p).map g)
  | [], _ => rfl
  | d :: ds, h => by
    obtain ⟨ρ1, h1, h2, h3⟩ := h d List.mem_cons_self
    have ih := compF_filter (f := f) (c := c) (tg := tg) (ρ := ρ) (g := g) (p := p) (fun x hx => h x (List.mem_cons_of_mem _ hx))
    unfold compF
    rw [h1, Option.bind_some, h2, Option.bind_some]
    cases hp : p d with
    | true =>
      rw [if_pos rfl, h3 hp, Option.bind_some, ih, Option.bind_some, List.filter_cons_of_pos hp]
      rfl
    | false =>
      rw [if_neg Bool.false_ne_true, ih, List.filter_cons_of_neg (by rw [hp]; exact Bool.false_ne_true)]
/-- a loop whose turns all go on -/
theorem forF_nx {tg : PyData → Rho → Option Rho} {b : Gn} (P : Rho → Prop) : ∀ {ds : List PyData} {ρ : Rho}, (∀ d ∈ ds, ∀ ρ, P ρ → ∃ ρ1 ρ', tg d ρ = some ρ1 ∧ b ρ1 = some (.nx ρ') ∧ P ρ') → P ρ → ∃ ρ', forF tg b ds ρ = some (.nx ρ') ∧ P ρ'
  | [], ρ, _, h => ⟨ρ, rfl, h⟩
  | d :: ds, ρ, h, hp => by
    obtain ⟨ρ1, ρ2, h1, h2, h3⟩ := h d List.mem_cons_self ρ hp
    obtain ⟨ρ', h4, h5⟩ := forF_nx P (fun x hx => h x (List.mem_cons_of_mem _ hx)) h3
    refine ⟨ρ', ?_, h5⟩
    unfold forF
    rw [h1, Option.bind_some, h2, Option.bind_some]
    exact h4
theorem scr_get (ns : List Int) (k : Nat) : (scrK ns)[k]? = (ns[k]?).map fun n => (PyData.int n, PyData.none) := by
  unfold scrK
  rw [List.getElem?_map]
theorem blk_nx {g1 g2 : Gn} {ρ ρ' : Rho} (h : g1 ρ = some (.nx ρ')) : gBlk g1 g2 ρ = g2 ρ' := by
  unfold gBlk
  rw [h]
  rfl
theorem blk_ret {g1 g2 : Gn} {ρ : Rho} {d : PyData} (h : g1 ρ = some (.ret d)) : gBlk g1 g2 ρ = some (.ret d) := by
  unfold gBlk
  rw [h]
  rfl
theorem blk_exc {g1 g2 : Gn} {ρ ρ' : Rho} {c : Nat} (h : g1 ρ = some (.exc c ρ')) : gBlk g1 g2 ρ = some (.exc c ρ') := by
  unfold gBlk
  rw [h]
  rfl
theorem if_t {c : Rho → Option Bool} {g1 g2 : Gn} {ρ : Rho} (h : c ρ = some true) : gIf c g1 g2 ρ = g1 ρ := by
  unfold gIf
  rw [h]
  rfl
theorem if_f {c : Rho → Option Bool} {g1 g2 : Gn} {ρ : Rho} (h : c ρ = some false) : gIf c g1 g2 ρ = g2 ρ := by
  unfold gIf
  rw [h]
  rfl
theorem rgD_zero (n : Nat) : rgD 0 n = (List.range n).map fun (i : Nat) => PyData.int i := by
  unfold rgD
  refine List.map_congr_left fun i _ => ?_
  rw [Int.zero_add]
theorem rgD_mem {lo : Int} {n : Nat} {d : PyData} (h : d ∈ rgD lo n) : ∃ i : Nat, i < n ∧ d = .int (lo + i) := by
  unfold rgD at h
  obtain ⟨i, h1, h2⟩ := List.mem_map.mp h
  exact ⟨i, List.mem_range.mp h1, h2.symm⟩
theorem compF_list {tg : PyData → Rho → Option Rho} {f : Fn} {ρ : Rho} {α : Type} {w : α → PyData} {g : α → PyData} : ∀ {l : List α}, (∀ a ∈ l, ∃ ρ1, tg (w a) ρ = some ρ1 ∧ f ρ1 = some (g a)) → compF tg cYes f ρ (l.map w) = some (l.map g)
  | [], _ => rfl
  | a :: l, h => by
    obtain ⟨ρ1, h1, h2⟩ := h a List.mem_cons_self
    rw [List.map_cons, List.map_cons]
    unfold compF
    rw [h1, Option.bind_some]
    unfold cYes
    rw [Option.bind_some, if_pos rfl, h2, Option.bind_some]
    have ih := compF_list (tg := tg) (f := f) (ρ := ρ) (w := w) (g := g) (fun x hx => h x (List.mem_cons_of_mem _ hx))
    unfold cYes at ih
    rw [ih, Option.bind_some]
theorem compF_listF {tg : PyData → Rho → Option Rho} {c : Rho → Option Bool} {f : Fn} {ρ : Rho} {α : Type} {w : α → PyData} {g : α → PyData} {p : α → Bool} : ∀ {l : List α}, (∀ a ∈ l, ∃ ρ1, tg (w a) ρ = some ρ1 ∧ c ρ1 = some (p a) ∧ (p a = true → f ρ1 = some (g a))) → compF tg c f ρ (l.map w) = some ((l.filter p).map g)
  | [], _ => rfl
  | a :: l, h => by
    obtain ⟨ρ1, h1, h2, h3⟩ := h a List.mem_cons_self
    have ih := compF_listF (tg := tg) (c := c) (f := f) (ρ := ρ) (w := w) (g := g) (p := p) (fun x hx => h x (List.mem_cons_of_mem _ hx))
    rw [List.map_cons]
    unfold compF
    rw [h1, Option.bind_some, h2, Option.bind_some]
    cases hp : p a with
    | true => rw [if_pos rfl, h3 hp, Option.bind_some, ih, Option.bind_some, List.filter_cons_of_pos hp]; rfl
    | false => rw [if_neg Bool.false_ne_true, ih, List.filter_cons_of_neg (by rw [hp]; exact Bool.false_ne_true)]
/-- [.. for x in range(n)] -/
theorem lc_rg {vs : List Nat} {j : Nat} {fn f : Fn} {ρ : Rho} {n : Int} {g : Nat → PyData} (h1 : fn ρ = some (.int n)) (hn : -1000000 ≤ n ∧ n ≤ 1000000) (h : ∀ i : Nat, (i : Int) < n → f ((wipeR ρ vs).set j (some (.int i))) = some (g i)) :
    fLc vs (iR1 fn) (hName j) cYes f ρ = some ((List.range n.toNat).map g) := by
  have hb : B62 n := ⟨by omega, by omega⟩
  unfold fLc iR1
  rw [h1, Option.bind_some]
  show (if B62 n then some (rgD 0 n.toNat) else none).bind _ = _
  rw [if_pos hb, Option.bind_some, if_pos (by rw [rgD_len]; omega), rgD_zero]
  refine compF_list fun i hi => ⟨_, rfl, h i ?_⟩
  have := List.mem_range.mp hi
  omega
theorem lc_rgF {vs : List Nat} {j : Nat} {fn f : Fn} {c : Rho → Option Bool} {ρ : Rho} {n : Int} {g : Nat → PyData} {p : Nat → Bool} (h1 : fn ρ = some (.int n)) (hn : -1000000 ≤ n ∧ n ≤ 1000000) (h : ∀ i : Nat, (i : Int) < n → c ((wipeR ρ vs).set j (some (.int i))) = some (p i) ∧ (p i = true → f ((wipeR ρ vs).set j (some (.int i))) = some (g i))) :
    fLc vs (iR1 fn) (hName j) c f ρ = some (((List.range n.toNat).filter p).map g) := by
  have hb : B62 n := ⟨by omega, by omega⟩
  unfold fLc iR1
  rw [h1, Option.bind_some]
  show (if B62 n then some (rgD 0 n.toNat) else none).bind _ = _
  rw [if_pos hb, Option.bind_some, if_pos (by rw [rgD_len]; omega), rgD_zero]
  refine compF_listF fun i hi => ⟨_, rfl, h i ?_⟩
  have := List.mem_range.mp hi
  omega
/-- [.. for x in a tuple or list of things] -/
theorem lc_sq {vs : List Nat} {j : Nat} {fs f : Fn} {ρ : Rho} {α : Type} {w : α → PyData} {l : List α} {g : α → PyData} {d : PyData} (h1 : fs ρ = some d) (hd : seqD d = some (l.map w)) (hl : l.length ≤ 1000000) (h : ∀ a ∈ l, f ((wipeR ρ vs).set j (some (w a))) = some (g a)) :
    fLc vs (iSq fs) (hName j) cYes f ρ = some (l.map g) := by
  unfold fLc iSq
  rw [h1, Option.bind_some, hd, Option.bind_some, if_pos (by rw [List.length_map]; exact hl)]
  exact compF_list fun a ha => ⟨_, rfl, h a ha⟩
theorem lc_sqF {vs : List Nat} {j : Nat} {fs f : Fn} {c : Rho → Option Bool} {ρ : Rho} {α : Type} {w : α → PyData} {l : List α} {g : α → PyData} {p : α → Bool} {d : PyData} (h1 : fs ρ = some d) (hd : seqD d = some (l.map w)) (hl : l.length ≤ 1000000) (h : ∀ a ∈ l, c ((wipeR ρ vs).set j (some (w a))) = some (p a) ∧ (p a = true → f ((wipeR ρ vs).set j (some (w a))) = some (g a))) :
    fLc vs (iSq fs) (hName j) c f ρ = some ((l.filter p).map g) := by
  unfold fLc iSq
  rw [h1, Option.bind_some, hd, Option.bind_some, if_pos (by rw [List.length_map]; exact hl)]
  exact compF_listF fun a ha => ⟨_, rfl, h a ha⟩
theorem erase_map {α β : Type} (f : α → β) : ∀ (L : List α) (k : Nat), (L.map f).eraseIdx k = (L.eraseIdx k).map f
  | [], _ => rfl
  | _ :: _, 0 => rfl
  | a :: L, k + 1 => by
    show f a :: (L.map f).eraseIdx k = f a :: (L.eraseIdx k).map f
    rw [erase_map f L k]
/-- what popping leaves and gives -/
theorem popF_ok {j iL : Nat} {fe : Fn} (hne : j ≠ iL) : ∀ {ds : List PyData} {ρ : Rho} {L : List Int}, ρ[iL]? = some (some (.list (L.map PyData.int))) → ds.length ≤ L.length → L.length ≤ 1000000 →
    (∀ (i : Nat) d, ds[i]? = some d → ∀ L' : List Int, L'.length = L.length - i → ∃ k : Int, fe ((ρ.set iL (some (.list (L'.map PyData.int)))).set j (some d)) = some (.int k) ∧ 0 ≤ k ∧ k < L'.length) →
    ∃ ys rest : List Int, popF j iL fe ds ρ = some (ys.map PyData.int) ∧ ys.length = ds.length ∧ (ys ++ rest).Perm L
  | [], ρ, L, _, _, _, _ => ⟨[], L, rfl, rfl, List.Perm.refl _⟩
  | d :: ds, ρ, L, hL, hlen, hz, h => by
    have hi : iL < ρ.length := (List.getElem?_eq_some_iff.mp hL).1
    have e0 : ρ.set iL (some (.list (L.map PyData.int))) = ρ := by
      refine List.ext_getElem? fun i => ?_
      by_cases hii : iL = i
      · subst hii
        rw [List.getElem?_set_self hi, hL]
      · rw [List.getElem?_set_ne hii]
    obtain ⟨k, hk, k0, k1⟩ := h 0 d rfl L (by omega)
    rw [e0] at hk
    have hB : B63 k := ⟨by omega, by omega⟩
    have hget : lstAt iL (ρ.set j (some d)) = some (L.map PyData.int) := by
      unfold lstAt
      rw [List.getElem?_set_ne hne, hL]
    have hix : seqIndex? k (L.map PyData.int).length = some k.toNat := PySem.StrLaws.seqIndex_nonneg k0 (by rw [List.length_map]; exact k1)
    have hkl : k.toNat < L.length := by omega
    have hat : (L.map PyData.int)[k.toNat]? = some (.int L[k.toNat]) := by
      rw [List.getElem?_map, List.getElem?_eq_getElem hkl]
      rfl
    have hlen' : ds.length + 1 ≤ L.length := hlen
    have el : (L.eraseIdx k.toNat).length = L.length - 1 := List.length_eraseIdx_of_lt hkl
    obtain ⟨ys, rest, h1, h2, h3⟩ := popF_ok hne (ds := ds) (ρ := ρ.set iL (some (.list ((L.eraseIdx k.toNat).map PyData.int)))) (L := L.eraseIdx k.toNat) (List.getElem?_set_self hi) (by omega) (by omega) (fun i d' hd' L' hL' => by
      rw [List.set_set]
      exact h (i + 1) d' hd' L' (by omega))
    refine ⟨L[k.toNat] :: ys, rest, ?_, by rw [List.length_cons, List.length_cons, h2], ?_⟩
    · unfold popF
      rw [hget, Option.bind_some, hk, Option.bind_some]
      show (if B63 k then (seqIndex? k (L.map PyData.int).length).bind _ else none) = _
      rw [if_pos hB, hix, Option.bind_some, hat, Option.bind_some]
      have em : (L.map PyData.int).eraseIdx k.toNat = (L.eraseIdx k.toNat).map PyData.int := by
        rw [erase_map]
      rw [em, h1, Option.bind_some]
      rfl
    · rw [List.cons_append]
      refine (List.Perm.cons _ h3).trans ?_
      have : (L[k.toNat] :: L.eraseIdx k.toNat).Perm L := by
        have e1 : L = L.take k.toNat ++ L[k.toNat] :: L.drop (k.toNat + 1) := by
          rw [← List.drop_eq_getElem_cons hkl, List.take_append_drop]
        have e2 : L.eraseIdx k.toNat = L.take k.toNat ++ L.drop (k.toNat + 1) := List.eraseIdx_eq_take_drop_succ L k.toNat
        rw [e2]
        refine List.Perm.trans ?_ (List.Perm.of_eq e1.symm)
        exact List.perm_middle.symm
      exact this
theorem def_ret {n N : Nat} {g : Gn} {ds : List PyData} {d : PyData} (hl : ds.length = n) (h : g (ds.map some ++ List.replicate (N - ds.length) none) = some (.ret d)) : defN n N g ds = some (.ok d) := by
  unfold defN runDef
  rw [if_pos hl, h]
theorem def_nx {n N : Nat} {g : Gn} {ds : List PyData} {ρ : Rho} (hl : ds.length = n) (h : g (ds.map some ++ List.replicate (N - ds.length) none) = some (.nx ρ)) : defN n N g ds = some (.ok .none) := by
  unfold defN runDef
  rw [if_pos hl, h]
theorem def_exc {n N : Nat} {g : Gn} {ds : List PyData} {ρ : Rho} {c : Nat} (hl : ds.length = n) (h : g (ds.map some ++ List.replicate (N - ds.length) none) = some (.exc c ρ)) : defN n N g ds = some (.error c) := by
  unfold defN runDef
  rw [if_pos hl, h]
theorem bi1 {g : List PyData → Option PyData} {f : Fn} {ρ : Rho} {d : PyData} (h : f ρ = some d) : fBi g (fCons f fNil) ρ = g [d] := by
  unfold fBi fCons fNil
  rw [h]
  rfl
theorem fFr_of {fl : Rho → Option (List PyData)} {ρ : Rho} {l : List PyData} (h : fl ρ = some l) : fFr fl ρ = some (.list l) := by
  unfold fFr
  rw [h]
  rfl
end DL

namespace DL
open PySem PySem.Spec PyProof.Rows L2
section
variable {K : PySem.W.Frag} {X : Cx} {M : List Nat} {xc : Nat → Addr} {W W' : WX} {Hs0 H0 Hs H Hs1 : Hp} {D : Ends}
/-! ### try, one clause without a name -/
theorem outOk_w {r : Out} (hne : ∀ c ρ, r ≠ .exc c ρ) (o : OutOk K xc M Hs0 H0 Hs W D r) : OutOk K xc M Hs0 H0 Hs W' D r := by
  cases r with
  | exc c ρ => exact absurd rfl (hne c ρ)
  | nx ρ => exact o
  | ret d => exact o
  | brk ρ => exact o
  | ct ρ => exact o
@[simp] def noExc : Out → Option Out
  | .exc _ _ => none
  | r => some r
theorem noExc_some {r r' : Out} (h : noExc r = some r') : r' = r ∧ ∀ c ρ, r ≠ .exc c ρ := by
  cases r with
  | exc c ρ => cases h
  | _ => cases h; exact ⟨rfl, fun _ _ z => by cases z⟩
@[simp] def gTry (c : Nat) (gb gs : Gn) : Gn := fun ρ => (gb ρ).bind fun r => match r with
  | .exc c' ρ' => if c' = c then (gs ρ').bind noExc else none
  | r => some r
variable {body suite : List Stmt} {b₀ : Stmt} {np pos pos' : Pos} {x : Str} {C : Value} {tb : WX → TS} {ts : TS} {gb gs : Gn}
theorem sd_tryOnly (c : Nat) (hc : Names X x C) (tk : Takes X W) (hxm : PySem.W.exmOne X.K (.ref (xc c)) C = some true)
    (hb : ∀ (W : WX) (pn : List (Addr × Obj)) (xe : Value → Shared → Prop), Takes (X.tr pn xe) W → SS K xc (X.tr pn xe) M W body (tb W) gb)
    (hsu : ∀ (a : Addr) (oe : Obj) (pn : List (Addr × Obj)), SS K xc (X.suite a ((a, oe) :: pn)) M (fun _ _ _ _ => False) (b₀ :: suite) ts gs)
    (hs : X.stack = X.env :: X.outer := by rfl) (hf : X.env.frame = some X.env.locals := by rfl) :
    SD K xc X M W (.Try body [.ExceptHandler (some (.Name x np)) none (b₀ :: suite) pos'] [] [] pos) (fun D σ H => tb (wOnly X.K C (fun _ _ _ => ts) W D) D σ H) (gTry c gb gs) :=
  ⟨ps_try_only (ts := fun _ _ _ => ts) hs hf hc tk (fun W pn xe t _ => (hb W pn xe t).ps) (fun a oe cls d pn _ _ => (hsu a oe pn).ps), fun {Hs0 H0 Hs H σ ρ r D} R hf' o => by
    obtain ⟨r1, h1, h2⟩ := bind_some hf'
    refine (hb (wOnly X.K C (fun _ _ _ => ts) W D) [] (fun _ _ => True) (fun _ _ _ => trivial)).sm R h1 ?_
    cases r1 with
    | exc c' ρ' =>
      obtain ⟨hcc, h5⟩ := ite_get h2
      subst hcc
      obtain ⟨r2, h3, h4⟩ := bind_some h5
      obtain ⟨rfl, hne⟩ := noExc_some h4
      exact fun Hs' H' σ' e' R' => ⟨true, hxm, fun _ a _ => (hsu 0 ⟨.none, none, .fields #[], #[]⟩ []).sm R' h3 (outOk_w hne (o.up e')), fun z => by cases z⟩
    | nx ρ => obtain rfl := Option.some.inj h2; exact o
    | ret d => obtain rfl := Option.some.inj h2; exact o
    | brk ρ => obtain rfl := Option.some.inj h2; exact o
    | ct ρ => obtain rfl := Option.some.inj h2; exact o⟩

/-! ### try, one clause with a name: the suite asks isinstance of it -/
structure SX (K : PySem.W.Frag) (xc : Nat → Addr) (X : Cx) (M : List Nat) (i c : Nat) (st : List Stmt) (t : Addr → Value → Option Addr → TS) (g : Gn) : Prop where
  ps : ∀ (a : Addr) (oe : Obj) (cls : Value) (d : Option Addr) (pn : List (Addr × Obj)), Zc cls d oe → (∃ vs, oe.data = .fields vs) → PSs (X.suite a ((a, oe) :: pn)) st (t a cls d)
  sm : ∀ {Hs0 H0 Hs H : Hp} {σ : L2.St} {ρ : Rho} {r : Out} {D : Ends} (a : Addr), SR K M Hs0 H0 Hs H σ ρ → ρ[i]? = some none → σ[i]? = some (some (.ref a)) → g ρ = some r → OutOk K xc M Hs0 H0 Hs (fun _ _ _ _ => False) D r → t a (.ref (xc c)) none D σ H
@[simp] def isN : Option (Option PyData) → Bool
  | some none => true
  | _ => false
theorem isN_some {o : Option (Option PyData)} (h : isN o = true) : o = some none := by
  cases o with
  | none => cases h
  | some a =>
    cases a with
    | none => rfl
    | some b => cases h
@[simp] def keepN (i : Nat) : Out → Option Out
  | .nx ρ => if isN ρ[i]? = true then some (.nx ρ) else none
  | _ => none
@[simp] def gTryAs (c i : Nat) (gb gs : Gn) : Gn := fun ρ => (gb ρ).bind fun r => match r with
  | .exc c' ρ' => if c' = c then (if isN ρ'[i]? = true then (gs ρ').bind (keepN i) else none) else none
  | r => some r
theorem SR.none {σ : L2.St} {ρ : Rho} {i : Nat} (R : SR K M Hs0 H0 Hs H σ ρ) (h : ρ[i]? = some none) (y : Option V) : SR K M Hs0 H0 Hs H (σ.set i y) ρ := by
  have ne : ∀ {j : Nat} {d : PyData}, ρ[j]? = some (some d) → i ≠ j := fun {j d} e z => by subst z; rw [h] at e; cases e
  refine ⟨R.g, by rw [List.length_set]; exact R.len, fun j d e m => ?_, fun j d e m => ?_, fun j k dj dk p e1 e2 m1 m2 s1 s2 => ?_⟩
  · obtain ⟨v, a, b⟩ := R.frz j d e m
    exact ⟨v, by rw [List.getElem?_set_ne (ne e)]; exact a, b⟩
  · obtain ⟨p, xs, ds, a, b, c⟩ := R.own j d e m
    exact ⟨p, xs, ds, a, by rw [List.getElem?_set_ne (ne e)]; exact b, c⟩
  · rw [List.getElem?_set_ne (ne e1)] at s1
    rw [List.getElem?_set_ne (ne e2)] at s2
    exact R.sep j k dj dk p e1 e2 m1 m2 s1 s2
theorem sd_tryAs (c i : Nat) {n : Str} {tx : Addr → Value → Option Addr → TS} (hN : X.N.Nodup) (hc : Names X x C) (tk : Takes X W) (hxm : PySem.W.exmOne X.K (.ref (xc c)) C = some true)
    (hb : ∀ (W : WX) (pn : List (Addr × Obj)) (xe : Value → Shared → Prop), Takes (X.tr pn xe) W → SS K xc (X.tr pn xe) M W body (tb W) gb)
    (hsu : SX K xc X M i c (b₀ :: suite) tx gs)
    (hi : X.N[i]? = some n := by rfl) (hln : X.env.kindOf n = some .local := by rfl) (hs : X.stack = X.env :: X.outer := by rfl) (hf : X.env.frame = some X.env.locals := by rfl) :
    SD K xc X M W (.Try body [.ExceptHandler (some (.Name x np)) (some n) (b₀ :: suite) pos'] [] [] pos) (fun D σ H => tb (wAs X.K C i tx W D) D σ H) (gTryAs c i gb gs) :=
  ⟨ps_try_as (ts := tx) hs hf hN hi hln hc tk (fun W pn xe t _ => (hb W pn xe t).ps) hsu.ps, fun {Hs0 H0 Hs H σ ρ r D} R hf' o => by
    obtain ⟨r1, h1, h2⟩ := bind_some hf'
    refine (hb (wAs X.K C i tx W D) [] (fun _ _ => True) (fun _ _ _ => trivial)).sm R h1 ?_
    cases r1 with
    | exc c' ρ' =>
      obtain ⟨hcc, h5⟩ := ite_get h2
      subst hcc
      obtain ⟨hn, h6⟩ := ite_get h5
      replace hn := isN_some hn
      obtain ⟨r2, h3, h4⟩ := bind_some h6
      refine fun Hs' H' σ' e' R' => ⟨true, hxm, fun _ a _ => ?_, fun z => by cases z⟩
      have hlt : i < σ'.length := by rw [R'.len]; exact (List.getElem?_eq_some_iff.mp hn).1
      refine hsu.sm a (R'.none hn (some (.ref a))) hn (List.getElem?_set_self hlt) h3 ?_
      cases r2 with
      | nx ρ2 =>
        obtain ⟨hn2, h7⟩ := ite_get h4
        replace hn2 := isN_some hn2
        obtain rfl := Option.some.inj h7
        exact fun Hs2 H2 σ2 e2 R2 => o Hs2 H2 _ (e'.trans e2) (R2.none hn2 none)
      | _ => cases h4
    | nx ρ => obtain rfl := Option.some.inj h2; exact o
    | ret d => obtain rfl := Option.some.inj h2; exact o
    | brk ρ => obtain rfl := Option.some.inj h2; exact o
    | ct ρ => obtain rfl := Option.some.inj h2; exact o⟩
/-- isinstance of the caught one, one class or a tuple of such -/
def rE1 (K : PySem.W.Frag) (cls : Value) (d : Option Addr) (a : Addr) : List V → Hp → VK → Prop := fun xs H Q => ∃ E, cls = .ref E ∧ d = none ∧ ExcC K E ∧ rIsE K E a xs H Q
def rE2 (K : PySem.W.Frag) (cls : Value) (d : Option Addr) (a : Addr) : List V → Hp → VK → Prop := fun xs H Q => ∃ (E tp : Addr) (cs : List V) (us : List Value) (b : Bool), cls = .ref E ∧ d = none ∧ ExcC K E ∧ xs = [.ref a, .ref tp] ∧ H tp = some (.tup cs) ∧ Paired ClsV cs us ∧ PySem.W.kitAny K (.ref E) us = some b ∧ Q (.bl b) H
theorem inst_of {a E : Addr} {oe : Obj} {h : Heap} (hz : Zc (.ref E) none oe) (hf : ∃ vs, oe.data = .fields vs) (hget : h.get? a = some oe) : PySem.W.InstAt h a oe E none := by
  obtain ⟨vs, hv⟩ := hf
  obtain ⟨oc, od, oda, osl⟩ := oe
  obtain ⟨h1, h2⟩ := hz
  dsimp only at h1 h2 hv
  subst h1 h2 hv
  exact ⟨hget, rfl, rfl, trivial⟩
theorem call_e1 {a : Addr} {oe : Obj} {cls : Value} {d : Option Addr} {pn : List (Addr × Obj)} (hz : Zc cls d oe) (hf : ∃ vs, oe.data = .fields vs) : CallR (X.suite a ((a, oe) :: pn)) (.builtin "isinstance") (rE1 X.K cls d a) := by
  intro pins s σ H xs us Q I r h
  obtain ⟨E, rfl, rfl, hE, h⟩ := h
  exact call_isE hE hz hf pins s σ H xs us Q I r h
theorem call_e2 {a : Addr} {oe : Obj} {cls : Value} {d : Option Addr} {pn : List (Addr × Obj)} (hz : Zc cls d oe) (hf : ∃ vs, oe.data = .fields vs) : CallR (X.suite a ((a, oe) :: pn)) (.builtin "isinstance") (rE2 X.K cls d a) := by
  intro pins s σ H xs us Q I r h
  obtain ⟨E, tp, cs, ws, b, rfl, rfl, hE, rfl, hT, k, e, q⟩ := h
  obtain ⟨u1, u2, rfl, r1, r2⟩ := vals2 r
  cases (show u2 = Value.ref tp from r2)
  cases (show u1 = Value.ref a from r1)
  obtain ⟨_, its, rv, o, h1, h2, n, h3⟩ := (show ObjOk X.prog X.w H s.heap tp (.tup cs) from I.hok tp _ hT)
  have e3 := ClsV.all k rv
  subst e3
  obtain ⟨oc, od, dt, sl⟩ := o
  simp only at h2 h3
  subst h2 h3
  obtain ⟨hget, _⟩ := I.pin (a, oe) (List.mem_append.mpr (.inl List.mem_cons_self))
  exact PySem.W.kia_tup (PySem.W.handS_kitx_exc hE.hg hE.hk hE.hs hE.hd hE.ha hE.hn hE.ht hE.hm) I.kIn (inst_of hz hf hget) h1 e (fun z => nomatch z) fun tk => ⟨.bl b, H, I.tok tk, rfl, q⟩
def t1E (K : PySem.W.Frag) (cls : Value) (d : Option Addr) (a : Addr) (i : Nat) (v : V) : TE := tCB (rE1 K cls d a) (tCons (tVar i) (tCons (tC v) tNil))
def t2E (K : PySem.W.Frag) (cls : Value) (d : Option Addr) (a : Addr) (i : Nat) (v1 v2 : V) : TE := tCB (rE2 K cls d a) (tCons (tVar i) (tCons (tTup (tCons (tC v1) (tCons (tC v2) tNil))) tNil))
/-- what the class raised, cr, must say to the three questions: cA, c1, c2 -/
structure AskOk (K : PySem.W.Frag) (xc : Nat → Addr) (cr cA c1 c2 : Nat) : Prop where
  ex : ExcC K (xc cr)
  yA : PySem.W.kitOne K (.ref (xc cr)) (.ref (xc cA)) = some true
  no : PySem.W.kitAny K (.ref (xc cr)) [.ref (xc c1), .ref (xc c2)] = some false
  yZ : PySem.W.kitOne K (.ref (xc cr)) (.type "ValueError") = some true
theorem t1E_sm {cr i : Nat} {a : Addr} {v : V} {u : Value} {b : Bool} {σ : L2.St} {Q : VK} (hE : ExcC K (xc cr)) (hσ : σ[i]? = some (some (.ref a))) (hv : ∀ w, RelV v w → w = u) (hk : PySem.W.kitOne K (.ref (xc cr)) u = some b) (q : Q (.bl b) H) : t1E K (.ref (xc cr)) none a i v σ H Q :=
  ⟨_, hσ, xc cr, rfl, rfl, hE, v, u, b, rfl, fun w r => (hv w r), hk, q⟩
theorem t2E_sm {cr i c1 c2 : Nat} {a : Addr} {b : Bool} {σ : L2.St} {Q : VK} (hE : ExcC K (xc cr)) (hσ : σ[i]? = some (some (.ref a))) (hk : PySem.W.kitAny K (.ref (xc cr)) [.ref (xc c1), .ref (xc c2)] = some b) (q : ∀ H', Same H H' → Q (.bl b) H') : t2E K (.ref (xc cr)) none a i (.ref (xc c1)) (.ref (xc c2)) σ H Q :=
  ⟨_, hσ, szM (n := 2) (by decide), fun p hp => ⟨xc cr, p, _, _, b, rfl, rfl, hE, rfl, upd_same, .cons (.own _) (.cons (.own _) .nil), hk, q _ (same_new hp)⟩⟩
theorem askV_sm {cr cA c1 c2 i : Nat} {a : Addr} {σ : L2.St} {Q : VK} (A : AskOk K xc cr cA c1 c2) (hσ : σ[i]? = some (some (.ref a))) (q : ∀ H', Same H H' → Q (.bl true) H') :
    tAndV (t1E K (.ref (xc cr)) none a i (.ref (xc cA))) (tAndV (tNotV (t2E K (.ref (xc cr)) none a i (.ref (xc c1)) (.ref (xc c2)))) (t1E K (.ref (xc cr)) none a i (.ty "ValueError"))) σ H Q :=
  t1E_sm A.ex hσ (u := .ref (xc cA)) (fun w r => r) A.yA ⟨true, rfl, by
    rw [if_pos rfl]
    exact t2E_sm A.ex hσ A.no fun H1 e1 => ⟨false, rfl, true, rfl, by
      rw [if_pos rfl]
      exact t1E_sm A.ex hσ (u := .type "ValueError") (fun w r => r) A.yZ (q H1 e1)⟩⟩
theorem pe_e1 {cls : Value} {d : Option Addr} {a : Addr} {oe : Obj} {pn : List (Addr × Obj)} {i cA : Nat} {n A : Str} {p1 p2 p3 : Pos} (hz : Zc cls d oe) (hf : ∃ vs, oe.data = .fields vs) (hm : X.mg "isinstance" = none) (hA : X.mg A = some (.ref (xc cA)))
    (hN : X.N[i]? = some n := by rfl) (hv : Vis X.env.scope n := by first | exact Or.inl rfl | exact Or.inr (Or.inl rfl) | exact Or.inr (Or.inr rfl)) (hg : Gl X "isinstance" := by rfl) (hgA : Gl X A := by rfl)
    (hd : (n == ("__debug__" : Str)) = false := by decide) (hcd : (n == ("__classdict__" : Str)) = false := by decide) (hdA : (A == ("__debug__" : Str)) = false := by decide)
    (hs1 : starEach [.Name n p2, .Name A p3] X.env = (false, eval (.Name n p2) X.env) :: starEach [.Name A p3] X.env := by rfl) (hs2 : starEach [.Name A p3] X.env = (false, eval (.Name A p3) X.env) :: starEach [] X.env := by rfl) (hpl : (backTo pos (starEach [.Name A p3] X.env)).any (·.1) = false := by rfl) :
    PE (X.suite a ((a, oe) :: pn)) (.Call (.Name "isinstance" p1) [.Name n p2, .Name A p3] [] pos) (t1E X.K cls d a i (.ref (xc cA))) :=
  pe_callB (X := X.suite a ((a, oe) :: pn)) (call_e1 hz hf) hg hm boot_isinstance (pa_cons (pe_var hN hv hd hcd) (pa_cons (pe_glob hgA hA rfl hdA) pa_nil hs2) hs1) (by decide) (by decide) hs1 hpl
theorem pe_eZ {cls : Value} {d : Option Addr} {a : Addr} {oe : Obj} {pn : List (Addr × Obj)} {i : Nat} {n : Str} {p1 p2 p3 : Pos} (hz : Zc cls d oe) (hf : ∃ vs, oe.data = .fields vs) (hm : X.mg "isinstance" = none) (hZ : X.mg "ValueError" = none)
    (hN : X.N[i]? = some n := by rfl) (hv : Vis X.env.scope n := by first | exact Or.inl rfl | exact Or.inr (Or.inl rfl) | exact Or.inr (Or.inr rfl)) (hg : Gl X "isinstance" := by rfl) (hgA : Gl X "ValueError" := by rfl)
    (hd : (n == ("__debug__" : Str)) = false := by decide) (hcd : (n == ("__classdict__" : Str)) = false := by decide)
    (hs1 : starEach [.Name n p2, .Name "ValueError" p3] X.env = (false, eval (.Name n p2) X.env) :: starEach [.Name "ValueError" p3] X.env := by rfl) (hs2 : starEach [.Name "ValueError" p3] X.env = (false, eval (.Name "ValueError" p3) X.env) :: starEach [] X.env := by rfl) (hpl : (backTo pos (starEach [.Name "ValueError" p3] X.env)).any (·.1) = false := by rfl) :
    PE (X.suite a ((a, oe) :: pn)) (.Call (.Name "isinstance" p1) [.Name n p2, .Name "ValueError" p3] [] pos) (t1E X.K cls d a i (.ty "ValueError")) :=
  pe_callB (X := X.suite a ((a, oe) :: pn)) (call_e1 hz hf) hg hm boot_isinstance (pa_cons (pe_var hN hv hd hcd) (pa_cons (pe_bltn (u := .type "ValueError") hgA hZ rfl rfl (by decide) (by decide)) pa_nil hs2) hs1) (by decide) (by decide) hs1 hpl
theorem pe_e2 {cls : Value} {d : Option Addr} {a : Addr} {oe : Obj} {pn : List (Addr × Obj)} {i c1 c2 k : Nat} {n B1 B2 : Str} {p1 p2 p3 p4 p5 : Pos} (hz : Zc cls d oe) (hf : ∃ vs, oe.data = .fields vs) (hm : X.mg "isinstance" = none) (hA : X.mg B1 = some (.ref (xc c1))) (hB : X.mg B2 = some (.ref (xc c2)))
    (hN : X.N[i]? = some n := by rfl) (hv : Vis X.env.scope n := by first | exact Or.inl rfl | exact Or.inr (Or.inl rfl) | exact Or.inr (Or.inr rfl)) (hg : Gl X "isinstance" := by rfl) (hgA : Gl X B1 := by rfl) (hgB : Gl X B2 := by rfl)
    (hd : (n == ("__debug__" : Str)) = false := by decide) (hcd : (n == ("__classdict__" : Str)) = false := by decide) (hdA : (B1 == ("__debug__" : Str)) = false := by decide) (hdB : (B2 == ("__debug__" : Str)) = false := by decide)
    (hs1 : starEach [.Name n p2, .Tuple [.Name B1 p3, .Name B2 p4] k p5] X.env = (false, eval (.Name n p2) X.env) :: starEach [.Tuple [.Name B1 p3, .Name B2 p4] k p5] X.env := by rfl) (hs2 : starEach [.Tuple [.Name B1 p3, .Name B2 p4] k p5] X.env = (false, eval (.Tuple [.Name B1 p3, .Name B2 p4] k p5) X.env) :: starEach [] X.env := by rfl) (hpl : (backTo pos (starEach [.Tuple [.Name B1 p3, .Name B2 p4] k p5] X.env)).any (·.1) = false := by rfl)
    (hs3 : starEach [.Name B1 p3, .Name B2 p4] X.env = (false, eval (.Name B1 p3) X.env) :: starEach [.Name B2 p4] X.env := by rfl) (hs4 : starEach [.Name B2 p4] X.env = (false, eval (.Name B2 p4) X.env) :: starEach [] X.env := by rfl) :
    PE (X.suite a ((a, oe) :: pn)) (.Call (.Name "isinstance" p1) [.Name n p2, .Tuple [.Name B1 p3, .Name B2 p4] k p5] [] pos) (t2E X.K cls d a i (.ref (xc c1)) (.ref (xc c2))) :=
  pe_callB (X := X.suite a ((a, oe) :: pn)) (call_e2 hz hf) hg hm boot_isinstance (pa_cons (pe_var hN hv hd hcd) (pa_cons (pe_tup (pa_cons (pe_glob hgA hA rfl hdA) (pa_cons (pe_glob hgB hB rfl hdB) pa_nil hs4) hs3)) pa_nil hs2) hs1) (by decide) (by decide) hs1 hpl
/-- told = the three questions -/
abbrev tAsk (K : PySem.W.Frag) (xc : Nat → Addr) (i cA c1 c2 : Nat) (cls : Value) (d : Option Addr) (a : Addr) : TE := tAndV (t1E K cls d a i (.ref (xc cA))) (tAndV (tNotV (t2E K cls d a i (.ref (xc c1)) (.ref (xc c2)))) (t1E K cls d a i (.ty "ValueError")))
theorem sx_set {i cr cA c1 c2 : Nat} (j : Nat) {y : Str} {B : Expr} (A : AskOk K xc cr cA c1 c2) (hN : X.N.Nodup) (hB : ∀ (a : Addr) (oe : Obj) (cls : Value) (d : Option Addr) (pn : List (Addr × Obj)), Zc cls d oe → (∃ vs, oe.data = .fields vs) → PE (X.suite a ((a, oe) :: pn)) B (tAsk X.K xc i cA c1 c2 cls d a))
    (hj : X.N[j]? = some y := by rfl) (hx : Loc X.env.scope y := by first | exact Or.inl rfl | exact Or.inr rfl) (hM : M.contains j = false := by rfl) (hK : X.K = K := by rfl)
    (hs : swapsWith B (some (.Name y pos')) pos.line X.env = pure false := by rfl) (hf : X.fn y = true ∨ X.env.scope.names.lookup y = some .local := by first | exact .inl rfl | exact .inr rfl) :
    SX K xc X M i cr [.Assign [.Name y pos'] B pos] (fun a cls d => tAsg (tAsk K xc i cA c1 c2 cls d a) (gName j)) (gAsg (fC (.bool true)) (hName j)) := by
  subst hK
  refine ⟨fun a oe cls d pn hz hv => pss_one (ps_set (X := X.suite a ((a, oe) :: pn)) hN hj hx (hB a oe cls d pn hz hv) hs hf), fun {Hs0 H0 Hs H σ ρ r D} a R hn hσ hg o => ?_⟩
  cases hg
  refine askV_sm A hσ fun H1 e1 => ?_
  exact (gd_name (X := X) (pos := pos) j hN hj hx hM hf).sm (R.same e1) (.bl true) rfl fun σ' R' _ => o Hs H1 σ' (Same.refl _) R'
/-- if the three questions: y = None -/
theorem ask_t {i cr cA c1 c2 : Nat} {a : Addr} {σ : L2.St} {Q : Bool → Hp → Prop} (A : AskOk K xc cr cA c1 c2) (hσ : σ[i]? = some (some (.ref a))) (q : ∀ H', Same H H' → Q true H') :
    tAnd (fun σ H Q => t1E K (.ref (xc cr)) none a i (.ref (xc cA)) σ H fun x H' => ∃ k, TruV K x H' k ∧ Q k H') (tAnd (tNot (fun σ H Q => t2E K (.ref (xc cr)) none a i (.ref (xc c1)) (.ref (xc c2)) σ H fun x H' => ∃ k, TruV K x H' k ∧ Q k H')) (fun σ H Q => t1E K (.ref (xc cr)) none a i (.ty "ValueError") σ H fun x H' => ∃ k, TruV K x H' k ∧ Q k H')) σ H Q :=
  t1E_sm A.ex hσ (u := .ref (xc cA)) (fun w r => r) A.yA ⟨true, rfl, by
    show (if true = true then _ else _)
    rw [if_pos rfl]
    exact t2E_sm A.ex hσ A.no fun H1 e1 => ⟨false, rfl, by
      show (if true = true then _ else _)
      rw [if_pos rfl]
      exact t1E_sm A.ex hσ (u := .type "ValueError") (fun w r => r) A.yZ ⟨true, rfl, q H1 e1⟩⟩⟩
abbrev tAskT (K : PySem.W.Frag) (xc : Nat → Addr) (i cA c1 c2 : Nat) (cls : Value) (d : Option Addr) (a : Addr) : TT := tAnd (fun σ H Q => t1E K cls d a i (.ref (xc cA)) σ H fun x H' => ∃ k, TruV K x H' k ∧ Q k H') (tAnd (tNot (fun σ H Q => t2E K cls d a i (.ref (xc c1)) (.ref (xc c2)) σ H fun x H' => ∃ k, TruV K x H' k ∧ Q k H')) (fun σ H Q => t1E K cls d a i (.ty "ValueError") σ H fun x H' => ∃ k, TruV K x H' k ∧ Q k H'))
theorem sx_if {i cr cA c1 c2 : Nat} {B : Expr} {ss : List Stmt} {t2 : TS} {gs : Gn} (A : AskOk K xc cr cA c1 c2) (hB : ∀ (a : Addr) (oe : Obj) (cls : Value) (d : Option Addr) (pn : List (Addr × Obj)), Zc cls d oe → (∃ vs, oe.data = .fields vs) → PT (X.suite a ((a, oe) :: pn)) B (tAskT X.K xc i cA c1 c2 cls d a))
    (hsu : ∀ (a : Addr) (oe : Obj) (pn : List (Addr × Obj)), SS K xc (X.suite a ((a, oe) :: pn)) M (fun _ _ _ _ => False) ss t2 gs) (hK : X.K = K := by rfl) :
    SX K xc X M i cr [.If B ss [] pos] (fun a cls d => tIfS (tAskT K xc i cA c1 c2 cls d a) t2 tNext) gs := by
  subst hK
  refine ⟨fun a oe cls d pn hz hv => pss_one (ps_if (X := X.suite a ((a, oe) :: pn)) (hB a oe cls d pn hz hv) (hsu a oe pn).ps pss_nil), fun {Hs0 H0 Hs H σ ρ r D} a R hn hσ hg o => ?_⟩
  refine ask_t A hσ fun H1 e1 => ?_
  rw [if_pos rfl]
  exact (hsu 0 ⟨.none, none, .fields #[], #[]⟩ []).sm (R.same e1) hg o
end
theorem ref_ne {a b : Addr} (h : a ≠ b) : (Value.ref a == Value.ref b) = false := beq_eq_false_iff_ne.mpr fun z => h (Value.ref.inj z)
theorem kit_cls_own {K : PySem.W.Frag} {C : Addr} {t : Value} {b : Bool} (hd : PySem.W.hasDictIn K C = true) (ht : PySem.W.typeIn K (.ref C) = some (.type "type")) (hs : PySem.W.subIn K t (.ref C) = some b) (hne : (t == .ref C) = false) : PySem.W.kitOne K t (.ref C) = some b := by
  obtain ⟨cd, hc, _⟩ := PySem.W.any_some hd
  have e : ((PySem.W.clsIn K C).isSome && PySem.W.typeIn K (.ref C) == some (.type "type")) = true := by rw [hc, ht] <;> rfl
  unfold PySem.W.kitOne
  rw [if_neg (by rw [hne]; exact Bool.false_ne_true)]
  show (if ((PySem.W.clsIn K C).isSome && PySem.W.typeIn K (.ref C) == some (.type "type")) = true then PySem.W.subIn K t (.ref C) else none) = some b
  rw [if_pos e]
  exact hs
theorem kit_cls_ty {K : PySem.W.Frag} {E : Addr} {T : String} {b : Bool} (hm : PySem.W.kitMeta T = true) (hs : PySem.W.subIn K (.ref E) (.type T) = some b) : PySem.W.kitOne K (.ref E) (.type T) = some b := by
  unfold PySem.W.kitOne
  have hne : (Value.ref E == Value.type T) = false := beq_eq_false_iff_ne.mpr fun z => nomatch z
  rw [if_neg (by rw [hne]; exact Bool.false_ne_true)]
  show (if PySem.W.kitMeta T = true then PySem.W.subIn K (.ref E) (.type T) else none) = some b
  rw [if_pos hm]
  exact hs
theorem kit_two_no {K : PySem.W.Frag} {t a b : Value} (h1 : PySem.W.kitOne K t a = some false) (h2 : PySem.W.kitOne K t b = some false) : PySem.W.kitAny K t [a, b] = some false := by
  unfold PySem.W.kitAny
  rw [h1]
  show PySem.W.kitAny K t [b] = some false
  unfold PySem.W.kitAny
  rw [h2]
  rfl
end DL

namespace DL
open PySem PySem.Spec PyProof.Rows L2
/-! ### the members of a list of ints, each once, rising -/
def insS (k : Int) : List Int → List Int
  | [] => [k]
  | a :: r => if k < a then k :: a :: r else if k = a then a :: r else a :: insS k r
def sset (ns : List Int) : List Int := ns.foldr insS []
theorem insS_mem {k x : Int} : ∀ {l : List Int}, x ∈ insS k l ↔ x = k ∨ x ∈ l
  | [] => by simp [insS]
  | a :: r => by
    unfold insS
    by_cases h1 : k < a
    · rw [if_pos h1]; simp
    · rw [if_neg h1]
      by_cases h2 : k = a
      · rw [if_pos h2]; subst h2; simp
      · rw [if_neg h2, List.mem_cons, List.mem_cons, insS_mem (l := r)]
        constructor
        · rintro (h | h | h)
          · exact .inr (.inl h)
          · exact .inl h
          · exact .inr (.inr h)
        · rintro (h | h | h)
          · exact .inr (.inl h)
          · exact .inl h
          · exact .inr (.inr h)
theorem insS_lt {k : Int} : ∀ {l : List Int}, l.Pairwise (· < ·) → (insS k l).Pairwise (· < ·)
  | [], _ => by simp [insS]
  | a :: r, h => by
    obtain ⟨h1, h2⟩ := List.pairwise_cons.mp h
    unfold insS
    by_cases c1 : k < a
    · rw [if_pos c1]
      refine List.pairwise_cons.mpr ⟨fun x hx => ?_, h⟩
      rcases List.mem_cons.mp hx with rfl | hx
      · exact c1
      · exact Int.lt_trans c1 (h1 x hx)
    · rw [if_neg c1]
      by_cases c2 : k = a
      · rw [if_pos c2]; exact h
      · rw [if_neg c2]
        refine List.pairwise_cons.mpr ⟨fun x hx => ?_, insS_lt h2⟩
        rcases insS_mem.mp hx with rfl | hx
        · omega
        · exact h1 x hx
theorem sset_mem {x : Int} : ∀ {ns : List Int}, x ∈ sset ns ↔ x ∈ ns
  | [] => by simp [sset]
  | a :: r => by
    show x ∈ insS a (sset r) ↔ _
    rw [insS_mem, sset_mem (ns := r), List.mem_cons]
theorem sset_lt : ∀ (ns : List Int), (sset ns).Pairwise (· < ·)
  | [] => List.Pairwise.nil
  | a :: r => insS_lt (sset_lt r)
theorem rise_eq : ∀ {l m : List Int}, l.Pairwise (· < ·) → m.Pairwise (· < ·) → (∀ x, x ∈ l ↔ x ∈ m) → l = m
  | [], [], _, _, _ => rfl
  | [], b :: m, _, _, h => by have := (h b).mpr List.mem_cons_self; cases this
  | a :: l, [], _, _, h => by have := (h a).mp List.mem_cons_self; cases this
  | a :: l, b :: m, h1, h2, h => by
    obtain ⟨a1, a2⟩ := List.pairwise_cons.mp h1
    obtain ⟨b1, b2⟩ := List.pairwise_cons.mp h2
    have e : a = b := by
      rcases List.mem_cons.mp ((h a).mp List.mem_cons_self) with e | e
      · exact e
      · rcases List.mem_cons.mp ((h b).mpr List.mem_cons_self) with e2 | e2
        · exact e2.symm
        · have := b1 a e; have := a1 b e2; omega
    subst e
    have := rise_eq a2 b2 (fun x => ⟨fun hx => by
      rcases List.mem_cons.mp ((h x).mp (List.mem_cons_of_mem _ hx)) with e | e
      · have := a1 x hx; omega
      · exact e, fun hx => by
      rcases List.mem_cons.mp ((h x).mpr (List.mem_cons_of_mem _ hx)) with e | e
      · have := b1 x hx; omega
      · exact e⟩)
    rw [this]
theorem rise_nodup {l : List Int} (h : l.Pairwise (· < ·)) : l.Nodup := h.imp fun h => by omega
theorem nodup_len : ∀ {l m : List Int}, l.Nodup → m.Nodup → (∀ x, x ∈ l → x ∈ m) → l.length ≤ m.length
  | [], _, _, _, _ => Nat.zero_le _
  | a :: l, m, h1, h2, h => by
    obtain ⟨a1, a2⟩ := List.nodup_cons.mp h1
    have hm := h a List.mem_cons_self
    have := nodup_len (m := m.erase a) a2 (h2.erase a) fun x hx => (List.mem_erase_of_ne (fun e => a1 (by rw [← e]; exact hx))).mpr (h x (List.mem_cons_of_mem _ hx))
    rw [List.length_erase_of_mem hm] at this
    have : 0 < m.length := List.length_pos_of_mem hm
    rw [List.length_cons]
    omega
theorem sset_len {l ns : List Int} (h1 : l.Nodup) (h2 : ∀ x, x ∈ l ↔ x ∈ ns) : l.length = (sset ns).length :=
  Nat.le_antisymm (nodup_len h1 (rise_nodup (sset_lt ns)) fun x hx => sset_mem.mpr ((h2 x).mp hx)) (nodup_len (rise_nodup (sset_lt ns)) h1 fun x hx => (h2 x).mpr (sset_mem.mp hx))
/-! ### set(a tuple of ints), its number, its members in order -/
section
variable {K : PySem.W.Frag} {X : Cx} {M : List Nat} {a : Expr} {ta : TE} {f : Fn} {pos p p2 q : Pos}
def rSetI (K : PySem.W.Frag) (w : World) : List V → Hp → VK → Prop := fun xs H Q => ∃ (p : Addr) (ns : List Int), xs = [.ref p] ∧ SqT K H p (ns.map V.int) ∧ ns.length ≤ 1000 ∧ ∀ a, H a = none → Q (.ref a) (upd H a (SetO w a (fun j => decide (j ∈ ns)) (sset ns).length))
theorem cr_setI (hc : X.calm = true) : CallR X (.type "set") (rSetI X.K X.w) := by
  intro pins s σ H xs us Q I r h
  obtain ⟨p0, ns, rfl, hq, hl, q⟩ := h
  obtain ⟨u, rfl, rx⟩ := vals1 r
  cases rx
  obtain ⟨its, rv, pt, hz⟩ := I.tuple hq
  have hi : IntsAre its.toArray.toList ns := ints_of_vals rv
  refine call_set_tupI ns (I.ok.hd hc) (show s.heap.IsTuple p0 its.toArray from pt) hi (by unfold scanBound; omega) fun h' tk c R1 hcn k => ?_
  have hlt := R1.lt
  have en : c = (sset ns).length := by
    obtain ⟨o, es, ep, t, ho, hex, hdt, g, nd, hm2, hb, hf, hn, hr, hl2⟩ := id R1
    have := sset_len (ns := ns) nd fun x => by rw [← hm2 x, decide_eq_true_eq]
    rw [List.length_map, Array.length_toList] at this
    exact hn.symm.trans this
  subst en
  have hn : H s.heap.objs.size = none := I.hok.fresh (Nat.le_refl _)
  exact ⟨.ref _, upd H s.heap.objs.size (SetO X.w s.heap.objs.size _ _), I.laid (t' := tk) k (Nat.le_refl _) (setO_new R1), rfl, q _ hn⟩
def rLenS (w : World) : List V → Hp → VK → Prop := fun xs H Q => ∃ (a : Addr) (S : Int → Bool) (n : Nat), xs = [.ref a] ∧ H a = some (SetO w a S n) ∧ Q (.int n) H
theorem cr_lenS : CallR X (.builtin "len") (rLenS X.w) := by
  intro pins s σ H xs us Q I r h
  obtain ⟨a, S, n, rfl, ha, q⟩ := h
  obtain ⟨u, rfl, rx⟩ := vals1 r
  cases rx
  obtain ⟨o, es, ep, t, ho, hex, hdt, g, nd, hm2, hb, hf, hn, hr, hl2⟩ := setO_get I ha
  refine call_len_set ho hex hdt hf (by unfold scanBound at hb; omega) ⟨.int n, H, I.tok _, ⟨_, by rw [hn]⟩, q⟩
def gLenSet : PyData → Option PyData
  | .tuple ds => (intsD ds).bind fun ns => if ns.length ≤ 1000 then some (.int (sset ns).length) else none
  | _ => none
theorem ed_lenSet (ha : ED K X M a ta f) (hm : X.mg "len" = none) (hm2 : X.mg "set" = none) (hg : Gl X "len" := by rfl) (hg2 : Gl X "set" := by rfl) (hc : X.calm = true := by rfl) (hK : X.K = K := by rfl)
    (na : starEach [a] X.env = (false, eval a X.env) :: starEach [] X.env := by rfl) (nb : starEach [.Call (.Name "set" p2) [a] [] q] X.env = (false, eval (.Call (.Name "set" p2) [a] [] q) X.env) :: starEach [] X.env := by rfl)
    (pa : (backTo q (starEach [] X.env)).any (·.1) = false := by rfl) (pb : (backTo pos (starEach [] X.env)).any (·.1) = false := by rfl) :
    ED K X M (.Call (.Name "len" p) [.Call (.Name "set" p2) [a] [] q] [] pos) (tCB (rLenS X.w) (tCons (tCB (rSetI K X.w) (tCons ta tNil)) tNil)) (f1 gLenSet f) := by
  subst hK
  refine ⟨pe_callB cr_lenS hg hm boot_len (pa_cons (pe_callTy (cr_setI hc) hg2 hm2 boot_set (pa_cons ha.pe pa_nil na) (by decide) (by decide) na pa) pa_nil nb) (by decide) (by decide) nb pb, fun {Hs0 H0 Hs H σ ρ d Q} R hf qq => ?_⟩
  obtain ⟨dx, h1, h2⟩ := bind_some hf
  refine ha.sm R h1 fun v Hs1 H1 g1 d1 => ?_
  cases d1 with
  | @tup l ob xs ds hn hp t =>
    obtain ⟨ns, h3, h4⟩ := bind_some h2
    obtain ⟨hl, rfl⟩ := ite_some h4
    have e := ints_dv t h3
    subst e
    exact ⟨l, ns, rfl, sqT_of (g1.sub _ _ hp), hl, fun p0 hp0 => ⟨p0, _, _, rfl, upd_same, qq _ Hs1 _ (g1.trans (Grow.alloc0 g1.sub hp0)) (.int _)⟩⟩
  | _ => cases h2
def gSortSet : PyData → Option (List PyData)
  | .tuple ds => (intsD ds).bind fun ns => if ns.length < 64 then some ((sset ns).map .int) else none
  | _ => none
theorem insS_le {k : Int} : ∀ l : List Int, (insS k l).length ≤ l.length + 1
  | [] => Nat.le_refl _
  | a :: r => by
    unfold insS
    split
    · exact Nat.le_refl _
    · split
      · exact Nat.le_succ _
      · have := insS_le (k := k) r
        rw [List.length_cons, List.length_cons]
        omega
theorem sset_le : ∀ ns : List Int, (sset ns).length ≤ ns.length
  | [] => Nat.le_refl _
  | a :: r => by
    have := sset_le r
    have := insS_le (k := a) (sset r)
    show (insS a (sset r)).length ≤ _
    rw [List.length_cons]
    omega
theorem fd_sortSet (ha : ED K X M a ta f) (hm : X.mg "sorted" = none) (hm2 : X.mg "set" = none) (hg : Gl X "sorted" := by rfl) (hg2 : Gl X "set" := by rfl) (hc : X.calm = true := by rfl) (hK : X.K = K := by rfl)
    (na : starEach [a] X.env = (false, eval a X.env) :: starEach [] X.env := by rfl) (nb : starEach [.Call (.Name "set" p2) [a] [] q] X.env = (false, eval (.Call (.Name "set" p2) [a] [] q) X.env) :: starEach [] X.env := by rfl)
    (pa : (backTo q (starEach [] X.env)).any (·.1) = false := by rfl) (pb : (backTo pos (starEach [] X.env)).any (·.1) = false := by rfl) :
    FD K X M (.Call (.Name "sorted" p) [.Call (.Name "set" p2) [a] [] q] [] pos) (tCB (rSortedSet X.w) (tCons (tCB (rSetI K X.w) (tCons ta tNil)) tNil)) (fun ρ => (f ρ).bind gSortSet) := by
  subst hK
  refine ⟨pe_callB (cr_sortedSet hc) hg hm boot_sorted (pa_cons (pe_callTy (cr_setI hc) hg2 hm2 boot_set (pa_cons ha.pe pa_nil na) (by decide) (by decide) na pa) pa_nil nb) (by decide) (by decide) nb pb, fun {Hs0 H0 Hs H σ ρ d Q} R hf qq => ?_⟩
  obtain ⟨dx, h1, h2⟩ := bind_some hf
  refine ha.sm R h1 fun v Hs1 H1 g1 d1 => ?_
  cases d1 with
  | @tup l ob xs ds hn hp t =>
    obtain ⟨ns, h3, h4⟩ := bind_some h2
    obtain ⟨hl, rfl⟩ := ite_some h4
    have e := ints_dv t h3
    subst e
    have hle := sset_le ns
    refine ⟨l, ns, rfl, sqT_of (g1.sub _ _ hp), by omega, fun p0 hp0 => ⟨p0, _, _, rfl, upd_same, by omega, fun ns' p1 hs hmm hlen hp1 => ?_⟩⟩
    have e : ns' = sset ns := rise_eq hs (sset_lt ns) fun x => by rw [hmm, decide_eq_true_eq, sset_mem]
    subst e
    have g2 : Grow Hs1 H1 Hs1 (upd H1 p0 (SetO X.w p0 (fun j => decide (j ∈ ns)) (sset ns).length)) := Grow.alloc0 g1.sub hp0
    have g3 := Grow.alloc0 (o := .lst ((sset ns).map V.int)) g2.sub hp1
    have g := (g1.trans g2).trans g3
    exact qq p1 _ Hs1 _ g (g1.ex.free (g2.ex.free hp1)) (g2.sub.free hp1) upd_same (DdAll.ints _)
  | _ => cases h2
end
end DL

namespace DL
open PySem PySem.Spec PyProof.Rows L2
/-! ### enumerate(a tuple): made, and its turns -/
theorem enumT_new {v : Value} {o : Obj} {Hv : Heap → Prop} (B : Begins v o Hv) :
    Meets (Builtin.«enumerate.__new__» ⟨[.type "enumerate", v], []⟩) (fun _ R s => Hv s.heap ∧
      R (.ok (.ret (.ref (s.heap.push o).objs.size))) { s with heap := (s.heap.push o).push { cls := .type "enumerate", data := .fields #[.none, .bool false, .ref s.heap.objs.size, rawInt 0, .none, .none] } }) :=
  .of_wp fun prog w A R s h => by
    obtain ⟨hp, g, d, tk, os⟩ := s
    obtain ⟨hv, hr⟩ := h
    have sub := sub_enumerate
    have it : ∀ {A' : Around} {E Q : Value → Shared → Prop}, Q (.ref hp.objs.size) ⟨hp.push o, g, d, tk, os⟩ → wpAny (model prog w) A' (pyIter v) Q E ⟨hp, g, d, tk, os⟩ := fun q => B.iter prog w _ _ ⟨hp, g, d, tk, os⟩ _ hv q
    wp_walk using it
    refine wpAny_stack_any fun st => wpAny_pure ?_
    split
    · rename_i c _ _ _ _ _
      cases (c == Value.type "enumerate") <;> (wp_walk using it; exact ⟨_, rfl, hr⟩)
    · wp_walk using it
      exact ⟨_, rfl, hr⟩
theorem enumT_call {prog : Program} {w : World} {A : Around} {E : Value → Shared → Prop} {s : Shared} {v : Value} {o : Obj} {Hv : Heap → Prop} {Q : Value → Shared → Prop} (B : Begins v o Hv) (hv : Hv s.heap)
    (q : ∀ h', IsEnum h' (s.heap.objs.size + 1) s.heap.objs.size 0 .none → h'.get? s.heap.objs.size = some o → (∀ b u, s.heap.get? b = some u → h'.get? b = some u) → Q (.ref (s.heap.objs.size + 1)) { s with heap := h' }) :
    wpAny (model prog w) A (call (.type "enumerate") [v]) Q E s := by
  refine callType_new F.called_enumerate (by decide) (F.typeCall_enumerate_1 _) (F.newCall_enumerate_1 _) (fun obj => F.args_object_init_2 obj _) F.entry_enumerate_new (enumT_new B) ⟨hv, ?_⟩
  have z : (s.heap.push o).objs.size = s.heap.objs.size + 1 := Heap.size_push ..
  rw [z]
  have ie : IsEnum ((s.heap.push o).push { cls := .type "enumerate", data := .fields #[.none, .bool false, .ref s.heap.objs.size, rawInt 0, .none, .none] }) (s.heap.objs.size + 1) s.heap.objs.size 0 .none := by
    have y := Heap.get?_push_size (s.heap.push o) (o := { cls := .type "enumerate", data := .fields #[.none, .bool false, .ref s.heap.objs.size, rawInt 0, .none, .none] }) rfl
    rw [z] at y
    exact y
  exact ⟨⟨_, ie, rfl⟩, q _ ie (Heap.get?_push_of_some _ (Heap.get?_push_size _ B.free)) fun b u e => Heap.get?_push_of_some _ (Heap.get?_push_of_some _ e)⟩
/-- the tuple at a, each item in a new pair with its place -/
def IteT (K : PySem.W.Frag) (a : Addr) : It :=
  ⟨fun i H => ∃ xs x, SqT K H a xs ∧ xs[i]? = some x, fun i H v H' => ∃ T x, v = .ref T ∧ H T = none ∧ H' = upd H T (.tup [.int (i : Nat), x]) ∧ ∀ xs, SqT K H a xs → xs[i]? = some x, fun i H => ∃ xs, SqT K H a xs ∧ xs.length ≤ i⟩
theorem turn_enumT {P : Program} {w : World} {K : PySem.W.Frag} {elts : List Expr} {kk : Nat} {tpos : Pos} (a e it : Addr) (hei : e ≠ it) (hea : e ≠ a) (hai : a ≠ it) :
    Turn P w K (.Tuple elts kk tpos) (IteT K a) [e, it] e (fun i h => (∃ old, IsEnum h e it ((i : Nat) : Int) old) ∧ h.IsTupleIter it a i) where
  mem := List.mem_cons_self
  obj := fun i h st b hb => by
    obtain ⟨⟨old, he⟩, o, ho, hc, hd⟩ := st
    rcases List.mem_cons.mp hb with rfl | hb
    · exact ⟨_, he, fun v z => nomatch z⟩
    · rw [List.mem_singleton.mp hb]; exact ⟨o, ho, fun v z => by rw [hd] at z; cases z⟩
  keep := fun i h h' st k => by
    obtain ⟨⟨old, he⟩, hi⟩ := st
    exact ⟨⟨old, k e (by simp) _ he⟩, hi.at fun o q => k it (by simp) o q⟩
  item := by
    intro X hP hw hK hc i pins s σ H E I hf st hg
    subst hP hw hK
    obtain ⟨⟨old, he⟩, hit⟩ := st
    obtain ⟨xs, x, hq, hx⟩ := hg
    obtain ⟨its, rv, p, hz⟩ := I.tuple hq
    obtain ⟨u, hu, ru⟩ := rv.get hx
    have hlt : i < its.toArray.size := by
      have := (List.getElem?_eq_some_iff.mp hu).1
      simpa using this
    have eL : e < s.heap.objs.size := Heap.lt_size he
    have iL : it < s.heap.objs.size := by obtain ⟨_, q, _⟩ := hit; exact Heap.lt_size q
    have DT := Draws.tuple (prog := X.prog) (w := X.w) (A := X.A.in1) (by rw [show X.A.in1.handled = X.A.handled from rfl]; exact I.ok.hd hc) it a hai its.toArray
    refine wpAny_pyNext_enum_itemD DT he (show s.heap.IsTupleIter it a i ∧ s.heap.IsTuple a its.toArray from ⟨hit, p⟩) hlt hei (by simp [hei, hea]) fun y h' tk hy ho st' hT hsz hk => ?_
    have ey : y = u := by
      have hu' : its.toArray[i]? = some u := by simpa using hu
      rw [hy] at hu'
      exact Option.some.inj hu'
    subst ey
    refine ⟨_, rfl, wpAny_letOwnedTupleGo_enum (s := { s with heap := h', toks := tk + 1 }) ho fun h2 he2 sb => ?_⟩
    have hT2 : h2.get? s.heap.objs.size = some { cls := .type "tuple", data := .seq #[.int i tk, y] } := (sb.2 _ (Nat.ne_of_gt eL)).trans hT
    have nw : ObjOk X.prog X.w (upd H s.heap.objs.size (.tup [.int (i : Nat), x])) h2 s.heap.objs.size (.tup [.int (i : Nat), x]) :=
      ⟨by show 2 ≤ sizeLine; decide, [.int i tk, y], .cons ⟨_, rfl⟩ (.cons ru .nil), ⟨_, hT2, rfl, _, rfl⟩⟩
    have I1 : Inv X pins σ (upd H s.heap.objs.size (.tup [.int (i : Nat), x])) { s with heap := h2, toks := tk + 1 } :=
      I.turnedNew (ch := [e, it]) (fun b ob hb q => (sb.2 b (fun z => hb (by simp [z]))).trans (hk b ob (fun z => hb (by simp [z])) (fun z => hb (by simp [z])) q)) hf (Nat.le_refl _) nw
    refine ⟨.ref s.heap.objs.size, _, I1, rfl, ⟨_, x, rfl, I.hok.fresh (Nat.le_refl _), rfl, fun ys hy2 => by rw [I.tuple_inj hy2 hq]; exact hx⟩, ⟨⟨y, ?_⟩, st'.1.at fun o q => (sb.2 it (Ne.symm hei)).trans q⟩, fun b hb => ?_⟩
    · have e1 : ((i + 1 : Nat) : Int) = (i : Int) + 1 := by omega
      rw [e1]
      exact he2
    · have hb' : b < s.heap.objs.size := by
        rcases List.mem_cons.mp hb with rfl | hb
        · exact eL
        · rw [List.mem_singleton.mp hb]; exact iL
      rw [upd_ne (Nat.ne_of_lt hb')]
      exact (hf b hb).1
  done := by
    intro X hP hw hK hc i pins s σ H E I hf st hg
    subst hP hw hK
    obtain ⟨⟨old, he⟩, hit⟩ := st
    obtain ⟨xs, hq, hx⟩ := hg
    obtain ⟨its, rv, p, hz⟩ := I.tuple hq
    obtain ⟨f0, f1, f2, f3, f4, f5⟩ := hf it (by simp)
    have hl := rv.length
    have hout : its.toArray[i]? = none := by simp; omega
    have DE : Draws X.prog X.w X.A.in1 it [it, a] i (fun _ _ => True) (fun j h => j = i ∧ h.IsTupleIter it a i ∧ h.IsTuple a its.toArray) :=
      { live := fun j h st => by obtain ⟨_, ⟨o, ho, _⟩, _⟩ := st; exact ⟨o, ho⟩
        frame := fun j h h' st k => ⟨st.1, st.2.1.at fun o q => k it (by simp) o q, st.2.2.at fun o q => k a (by simp) o q⟩
        item := fun j s' Q' E' hj st _ => absurd st.1 (Nat.ne_of_lt hj)
        done := fun s' Q' E' st hE => wpAny_nextOf_tuple_end (by rw [show X.A.in1.handled = X.A.handled from rfl]; exact I.ok.hd hc) st.2.1 st.2.2 hout hE }
    exact wpAny_pyNext_enum_endD DE he ⟨rfl, hit, p⟩ fun h' eb => ⟨rfl, I.turned (t' := s.toks) (fun b o hb q => eb b o hb q) f0 f1 f3 f4 f5⟩
  self := fun A i s Q E st h => by
    obtain ⟨⟨_, he⟩, _⟩ := st
    exact wpAny_pyIter_enum he h
def iEnumT (K : PySem.W.Frag) (ta : TA) : TI := fun σ H R => ta σ H fun vs H1 => ∃ a, vs = [.ref a] ∧ ((∃ xs, SqL K H1 a xs) ∧ R (Ite K a) H1 ∨ (∃ xs, SqT K H1 a xs) ∧ R (IteT K a) H1)
theorem pi_enumT {X : Cx} {e : Expr} {ta : TA} {p pos tpos : Pos} {elts : List Expr} {kk : Nat} (hg : Gl X "enumerate") (hm : X.mg "enumerate" = none) (ha : PA X [e] ta) (hs : starEach [e] X.env = [(false, eval e X.env)] := by rfl) :
    PI X (.Tuple elts kk tpos) (.Call (.Name "enumerate" p) [e] [] pos) (iEnumT X.K ta) := by
  refine ⟨fun pins s σ H R I h => ?_⟩
  refine Call_ (ld_blt I hg hm PyProof.Rows.boot_enumerate (PyProof.Rows.callWith_type1 (thn (ha.run pos pins s σ H _ I h) fun us s1 ⟨vs, H1, I1, r1, q1⟩ => ?_) hs rfl))
  obtain ⟨a, ex, q1⟩ := q1
  subst ex
  obtain ⟨v0, ev0, rv0⟩ := vals1 r1
  cases rv0
  subst ev0
  have fresh : ∀ b, b ∈ [s1.heap.objs.size + 1, s1.heap.objs.size] → FpOk X pins H1 b := fun b hb => by
    have hle : s1.heap.objs.size ≤ b := by
      rcases List.mem_cons.mp hb with z | z
      · rw [z]; exact Nat.le_add_right _ _
      · rw [List.mem_singleton.mp z]; exact Nat.le_refl _
    exact I1.fpOk hle (I1.hok.fresh hle)
  rcases q1 with ⟨⟨xs, hq⟩, q⟩ | ⟨⟨xs, hq⟩, q⟩
  · obtain ⟨its, rv, p', hz⟩ := I1.list hq
    refine enumT_call (begins_list a its.toArray) p'.isList fun h' he hit hk => wpAny_pyIter_enum he ?_
    exact ⟨s1.heap.objs.size + 1, [s1.heap.objs.size + 1, s1.heap.objs.size], _, _, H1, rfl, I1.kept (t' := s1.toks) hk, turn_enum a (s1.heap.objs.size + 1) s1.heap.objs.size, ⟨⟨.none, he⟩, ⟨_, hit, rfl, rfl⟩, Nat.succ_ne_self _⟩, fresh, q⟩
  · obtain ⟨its, rv, p', hz⟩ := I1.tuple hq
    have hT : s1.heap.IsTuple a its.toArray := p'
    refine enumT_call (begins_tuple a its.toArray) hT fun h' he hit hk => wpAny_pyIter_enum he ?_
    have hal : a < s1.heap.objs.size := by obtain ⟨o, ho, _⟩ := hT; exact Heap.lt_size ho
    exact ⟨s1.heap.objs.size + 1, [s1.heap.objs.size + 1, s1.heap.objs.size], _, _, H1, rfl, I1.kept (t' := s1.toks) hk, turn_enumT a (s1.heap.objs.size + 1) s1.heap.objs.size (Nat.succ_ne_self _) (fun z => Nat.lt_irrefl _ (Nat.lt_trans (Nat.lt_succ_self s1.heap.objs.size) (show s1.heap.objs.size.succ < s1.heap.objs.size by rw [show s1.heap.objs.size.succ = a from z]; exact hal))) (Nat.ne_of_lt hal), ⟨⟨.none, he⟩, ⟨_, hit, rfl, rfl⟩⟩, fresh, q⟩
/-! ### their readings -/
def enD (ds : List PyData) : List PyData := ds.zipIdx.map fun p => .tuple [.int (p.2 : Nat), p.1]
theorem enD_len (ds : List PyData) : (enD ds).length = ds.length := by unfold enD; rw [List.length_map, List.length_zipIdx]
theorem enD_get {ds : List PyData} {i : Nat} {d : PyData} (h : ds[i]? = some d) : (enD ds)[i]? = some (.tuple [.int (i : Nat), d]) := by
  unfold enD
  rw [List.getElem?_map, List.getElem?_zipIdx, h]
  simp
theorem yields_enumT {K : PySem.W.Frag} {Hs : Hp} {p : Addr} {xs : List V} {ds : List PyData} (hq : ∀ H, Same Hs H → SqT K H p xs) (t : DdAll K Hs xs ds) : Yields K (Dy K) (IteT K p) Hs (enD ds) where
  go := fun i H e hi => by
    rw [enD_len] at hi
    obtain ⟨v, h1, _⟩ := t.get (i := i) (d := ds[i]) (List.getElem?_eq_getElem hi)
    exact ⟨xs, v, hq H e, h1⟩
  stop := fun i H e hi => ⟨xs, hq H e, by rw [enD_len] at hi; rw [t.length]; exact hi⟩
  yld := fun i H x H' Hs2 hi e1 e2 h => by
    obtain ⟨T, y, rfl, hT, rfl, h2⟩ := h
    obtain ⟨d, h3, h4⟩ := t.getv (h2 xs (hq _ (e1.trans e2)))
    exact ⟨upd Hs2 T (.tup [.int (i : Nat), y]), Grow.alloc e2 hT, _, enD_get h3, T, _, _, rfl, rfl, upd_same, .cons (.int _) (.cons ((h4.mono e1).mono (same_new (e2.free hT))) .nil)⟩
theorem yields_enumL {K : PySem.W.Frag} {Hs : Hp} {p : Addr} {xs : List V} {ds : List PyData} (hq : ∀ H, Same Hs H → SqL K H p xs) (t : DdAll K Hs xs ds) : Yields K (Dy K) (Ite K p) Hs (enD ds) where
  go := fun i H e hi => by
    rw [enD_len] at hi
    obtain ⟨v, h1, _⟩ := t.get (i := i) (d := ds[i]) (List.getElem?_eq_getElem hi)
    exact ⟨xs, v, hq H e, h1⟩
  stop := fun i H e hi => ⟨xs, hq H e, by rw [enD_len] at hi; rw [t.length]; exact hi⟩
  yld := fun i H x H' Hs2 hi e1 e2 h => by
    obtain ⟨T, y, rfl, hT, rfl, h2⟩ := h
    obtain ⟨d, h3, h4⟩ := t.getv (h2 xs (hq _ (e1.trans e2)))
    exact ⟨upd Hs2 T (.tup [.int (i : Nat), y]), Grow.alloc e2 hT, _, enD_get h3, T, _, _, rfl, rfl, upd_same, .cons (.int _) (.cons ((h4.mono e1).mono (same_new (e2.free hT))) .nil)⟩
@[simp] def iEn (f : Fn) : Rho → Option (List PyData) := fun ρ => (f ρ).bind fun d => match d with
  | .list ds => some (enD ds)
  | .tuple ds => some (enD ds)
  | _ => none
section
variable {K : PySem.W.Frag} {X : Cx} {M : List Nat} {a b : Expr} {ta tb : TE} {fa fb : Fn} {pos p tpos : Pos} {elts : List Expr} {kk : Nat}
theorem id_enum (ha : ED K X M a ta fa) (hm : X.mg "enumerate" = none) (hg : Gl X "enumerate" := by rfl) (hs : starEach [a] X.env = [(false, eval a X.env)] := by rfl) (hK : X.K = K := by rfl) :
    ID K X M (Dy K) (.Tuple elts kk tpos) (.Call (.Name "enumerate" p) [a] [] pos) (iEnumT K (tCons ta tNil)) (iEn fa) := by
  subst hK
  refine ⟨pi_enumT hg hm (pa_cons ha.pe pa_nil hs) hs, fun {Hs0 H0 Hs H σ ρ ds R} r hf q => ?_⟩
  obtain ⟨d, h1, h2⟩ := bind_some hf
  refine ha.sm r h1 fun v Hs1 H1 g1 d1 => ?_
  cases d1 with
  | @lst p0 xs ds' hp t =>
    obtain rfl := Option.some.inj h2
    exact ⟨p0, rfl, .inl ⟨⟨xs, sqL_of (g1.sub _ _ hp)⟩, q _ Hs1 H1 g1 (yields_enumL (fun H e => sqL_of (e _ _ hp)) t)⟩⟩
  | @tup p0 ob xs ds' n hp t =>
    obtain rfl := Option.some.inj h2
    exact ⟨p0, rfl, .inr ⟨⟨xs, sqT_of (g1.sub _ _ hp)⟩, q _ Hs1 H1 g1 (yields_enumT (fun H e => sqT_of (e _ _ hp)) t)⟩⟩
  | _ => cases h2
/-- zip of two -/
def zpD (xs ys : List PyData) : List PyData := (xs.zip ys).map fun p => .tuple [p.1, p.2]
theorem zpD_len (xs ys : List PyData) : (zpD xs ys).length = min xs.length ys.length := by unfold zpD; rw [List.length_map, List.length_zip]
theorem zpD_get {xs ys : List PyData} {i : Nat} {x y : PyData} (h1 : xs[i]? = some x) (h2 : ys[i]? = some y) : (zpD xs ys)[i]? = some (.tuple [x, y]) := by
  unfold zpD
  have e : (xs.zip ys)[i]? = some (x, y) := List.getElem?_zip_eq_some.mpr ⟨h1, h2⟩
  rw [List.getElem?_map, e]
  rfl
theorem yields_zipT {Hs : Hp} {p1 p2 : Addr} {xs ys : List V} {ds es : List PyData} (hq : ∀ H, Same Hs H → SqT K H p1 xs) (hq2 : ∀ H, Same Hs H → SqT K H p2 ys) (t : DdAll K Hs xs ds) (t2 : DdAll K Hs ys es) : Yields K (Dy K) (RZ.ItzT K p1 p2) Hs (zpD ds es) where
  go := fun i H e hi => by
    rw [zpD_len] at hi
    obtain ⟨v, h1, _⟩ := t.get (i := i) (d := ds[i]) (List.getElem?_eq_getElem (by omega))
    obtain ⟨v2, h2, _⟩ := t2.get (i := i) (d := es[i]) (List.getElem?_eq_getElem (by omega))
    exact ⟨xs, ys, v, v2, hq H e, hq2 H e, h1, h2⟩
  stop := fun i H e hi => ⟨xs, ys, hq H e, hq2 H e, by rw [zpD_len] at hi; rw [t.length, t2.length]; omega⟩
  yld := fun i H x H' Hs2 hi e1 e2 h => by
    obtain ⟨T, y, z, rfl, hT, rfl, h2, h3⟩ := h
    obtain ⟨d, h4, h5⟩ := t.getv (h2 xs (hq _ (e1.trans e2)))
    obtain ⟨d2, h6, h7⟩ := t2.getv (h3 ys (hq2 _ (e1.trans e2)))
    have nw := same_new (o := .tup [y, z]) (e2.free hT)
    exact ⟨upd Hs2 T (.tup [y, z]), Grow.alloc e2 hT, _, zpD_get h4 h6, T, _, _, rfl, rfl, upd_same, .cons ((h5.mono e1).mono nw) (.cons ((h7.mono e1).mono nw) .nil)⟩
theorem yields_zipL {Hs : Hp} {p1 p2 : Addr} {xs ys : List V} {ds es : List PyData} (hq : ∀ H, Same Hs H → SqL K H p1 xs) (hq2 : ∀ H, Same Hs H → SqL K H p2 ys) (t : DdAll K Hs xs ds) (t2 : DdAll K Hs ys es) : Yields K (Dy K) (Itz K p1 p2) Hs (zpD ds es) where
  go := fun i H e hi => by
    rw [zpD_len] at hi
    obtain ⟨v, h1, _⟩ := t.get (i := i) (d := ds[i]) (List.getElem?_eq_getElem (by omega))
    obtain ⟨v2, h2, _⟩ := t2.get (i := i) (d := es[i]) (List.getElem?_eq_getElem (by omega))
    exact ⟨xs, ys, v, v2, hq H e, hq2 H e, h1, h2⟩
  stop := fun i H e hi => ⟨xs, ys, hq H e, hq2 H e, by rw [zpD_len] at hi; rw [t.length, t2.length]; omega⟩
  yld := fun i H x H' Hs2 hi e1 e2 h => by
    obtain ⟨T, y, z, rfl, hT, rfl, h2, h3⟩ := h
    obtain ⟨d, h4, h5⟩ := t.getv (h2 xs (hq _ (e1.trans e2)))
    obtain ⟨d2, h6, h7⟩ := t2.getv (h3 ys (hq2 _ (e1.trans e2)))
    have nw := same_new (o := .tup [y, z]) (e2.free hT)
    exact ⟨upd Hs2 T (.tup [y, z]), Grow.alloc e2 hT, _, zpD_get h4 h6, T, _, _, rfl, rfl, upd_same, .cons ((h5.mono e1).mono nw) (.cons ((h7.mono e1).mono nw) .nil)⟩
@[simp] def iZp (f g : Fn) : Rho → Option (List PyData) := fun ρ => (f ρ).bind fun d => (g ρ).bind fun d2 => match d, d2 with
  | .list ds, .list es => some (zpD ds es)
  | .tuple ds, .tuple es => some (zpD ds es)
  | _, _ => none
theorem id_zip (ha : ED K X M a ta fa) (hb : ED K X M b tb fb) (hm : X.mg "zip" = none) (hg : Gl X "zip" := by rfl) (hs : starEach [a, b] X.env = (false, eval a X.env) :: starEach [b] X.env := by rfl) (hs2 : starEach [b] X.env = (false, eval b X.env) :: starEach [] X.env := by rfl)
    (hpl : (backTo pos (starEach [b] X.env)).any (·.1) = false := by rfl) (hK : X.K = K := by rfl) :
    ID K X M (Dy K) (.Tuple elts kk tpos) (.Call (.Name "zip" p) [a, b] [] pos) (RZ.iZipA K (tCons ta (tCons tb tNil))) (iZp fa fb) := by
  subst hK
  refine ⟨RZ.pi_zipA hg hm (pa_cons ha.pe (pa_cons hb.pe pa_nil hs2) hs) hs hpl, fun {Hs0 H0 Hs H σ ρ ds R} r hf q => ?_⟩
  obtain ⟨d, h1, h2⟩ := bind_some hf
  obtain ⟨d2, h3, h4⟩ := bind_some h2
  refine ha.sm r h1 fun v Hs1 H1 g1 d1 => ?_
  refine hb.sm (r.grow g1) h3 fun v2 Hs2 H2 g2 e1 => ?_
  cases d1 with
  | @lst p0 xs ds' hp t =>
    cases e1 with
    | @lst p1 ys es' hp2 t2 =>
      obtain rfl := Option.some.inj h4
      have hp' := g2.exs _ _ hp
      exact ⟨p0, p1, xs, ys, rfl, .inl ⟨sqL_of (g2.sub _ _ hp'), sqL_of (g2.sub _ _ hp2), q _ Hs2 H2 (g1.trans g2) (yields_zipL (fun H e => sqL_of (e _ _ hp')) (fun H e => sqL_of (e _ _ hp2)) (t.mono g2.exs) t2)⟩⟩
    | _ => cases h4
  | @tup p0 ob xs ds' n hp t =>
    cases e1 with
    | @tup p1 ob2 ys es' n2 hp2 t2 =>
      obtain rfl := Option.some.inj h4
      have hp' := g2.exs _ _ hp
      exact ⟨p0, p1, xs, ys, rfl, .inr ⟨sqT_of (g2.sub _ _ hp'), sqT_of (g2.sub _ _ hp2), q _ Hs2 H2 (g1.trans g2) (yields_zipT (fun H e => sqT_of (e _ _ hp')) (fun H e => sqT_of (e _ _ hp2)) (t.mono g2.exs) t2)⟩⟩
    | _ => cases h4
  | _ => cases h4
end
end DL

namespace DL
open PySem PySem.Spec PyProof.Rows L2
/-! ### what == says of data -/
def shK (k : Nat) (d : PyData) : Prop := d.canLay0 = true ∧ d.depth ≤ k
theorem shK_int {k : Nat} (hk : 1 ≤ k) (i : Int) : shK k (.int i) := ⟨by simp [PyData.canLay0], by simp [PyData.depth] <;> omega⟩
theorem shK_bool {k : Nat} (hk : 1 ≤ k) (i : Bool) : shK k (.bool i) := ⟨by simp [PyData.canLay0], by simp [PyData.depth] <;> omega⟩
theorem shK_none {k : Nat} (hk : 1 ≤ k) : shK k .none := ⟨by simp [PyData.canLay0], by simp [PyData.depth] <;> omega⟩
theorem shK_all {k : Nat} : ∀ {xs : List PyData}, (∀ x ∈ xs, shK k x) → PyData.canLayAll0 xs = true ∧ PyData.depthAll xs ≤ k
  | [], _ => ⟨by simp [PyData.canLayAll0], by simp [PyData.depthAll]⟩
  | x :: xs, h => by
    obtain ⟨h1, h2⟩ := h x List.mem_cons_self
    obtain ⟨h3, h4⟩ := shK_all (xs := xs) fun y hy => h y (List.mem_cons_of_mem _ hy)
    exact ⟨by simp [PyData.canLayAll0, h1, h3], by simp only [PyData.depthAll]; omega⟩
theorem shK_tup {k : Nat} {xs : List PyData} (h : ∀ x ∈ xs, shK k x) : shK (k + 1) (.tuple xs) := by
  obtain ⟨h1, h2⟩ := shK_all h
  exact ⟨by simp [PyData.canLay0, h1], by simp only [PyData.depth]; omega⟩
theorem shK_lst {k : Nat} {xs : List PyData} (h : ∀ x ∈ xs, shK k x) : shK (k + 1) (.list xs) := by
  obtain ⟨h1, h2⟩ := shK_all h
  exact ⟨by simp [PyData.canLay0, h1], by simp only [PyData.depth]; omega⟩
theorem shaped_of {k : Nat} {d : PyData} (h : shK k d) (hk : k ≤ 64 := by decide) : SeqAt.shaped d = true := by
  unfold SeqAt.shaped
  rw [h.1, Bool.true_and, decide_eq_true_eq]
  exact Nat.le_trans h.2 hk
/-- data told by things that == tells apart -/
def Emb {α : Type} [DecidableEq α] (w : α → PyData) : Prop := ∀ a b, PyData.eqv (w a) (w b) = decide (a = b)
theorem emb_int : Emb PyData.int := fun i j => by
  show (i == j) = _
  rw [Bool.beq_eq_decide_eq]
theorem emb_bool : Emb PyData.bool := fun i j => by
  show (i == j) = _
  rw [Bool.beq_eq_decide_eq]
theorem emb_all {α : Type} [DecidableEq α] {w : α → PyData} (h : Emb w) : ∀ l m : List α, PyData.eqvAll (l.map w) (m.map w) = decide (l = m)
  | [], [] => by simp [PyData.eqvAll]
  | [], b :: m => by simp [PyData.eqvAll]
  | a :: l, [] => by simp [PyData.eqvAll]
  | a :: l, b :: m => by
    simp only [List.map_cons, PyData.eqvAll]
    rw [h a b, emb_all h l m]
    by_cases e : a = b <;> by_cases e2 : l = m <;> simp [e, e2]
theorem emb_tup {α : Type} [DecidableEq α] {w : α → PyData} (h : Emb w) : Emb fun l : List α => PyData.tuple (l.map w) := fun l m => by
  rw [PyData.eqv]
  exact emb_all h l m
theorem emb_lst {α : Type} [DecidableEq α] {w : α → PyData} (h : Emb w) : Emb fun l : List α => PyData.list (l.map w) := fun l m => by
  rw [PyData.eqv]
  exact emb_all h l m
theorem emb_pair {α β : Type} [DecidableEq α] [DecidableEq β] {w : α → PyData} {v : β → PyData} (h : Emb w) (h2 : Emb v) : Emb fun p : α × β => PyData.tuple [w p.1, v p.2] := fun p q => by
  obtain ⟨a, b⟩ := p
  obtain ⟨c, d⟩ := q
  simp only [PyData.eqv, PyData.eqvAll]
  rw [h a c, h2 b d]
  by_cases e : a = c <;> by_cases e2 : b = d <;> simp [e, e2]
/-- a map, told -/
abbrev Mp := Int × List Int
def mpD (m : Mp) : PyData := mapD m.1 m.2
theorem emb_map : Emb mpD := emb_pair emb_int (emb_tup emb_int)
theorem shK_ints {r : List Int} : shK 2 (.tuple (r.map PyData.int)) := shK_tup fun x hx => by
  obtain ⟨i, _, rfl⟩ := List.mem_map.mp hx
  exact shK_int (by decide) i
theorem shK_intsL {r : List Int} : shK 2 (.list (r.map PyData.int)) := shK_lst fun x hx => by
  obtain ⟨i, _, rfl⟩ := List.mem_map.mp hx
  exact shK_int (by decide) i
theorem shK.up {k m : Nat} {d : PyData} (h : shK k d) (hm : k ≤ m) : shK m d := ⟨h.1, Nat.le_trans h.2 hm⟩
theorem shK_map (m : Mp) : shK 3 (mpD m) := shK_tup fun x hx => by
  rcases List.mem_cons.mp hx with rfl | hx
  · exact shK_int (by decide) _
  · rcases List.mem_cons.mp hx with rfl | hx
    · exact shK_ints
    · cases hx
theorem gEq_of {α : Type} [DecidableEq α] {w : α → PyData} (h : Emb w) {k : Nat} (hs : ∀ a, shK k (w a)) (hk : k ≤ 64) (neg : Bool) (a b : α) : gEq neg (w a) (w b) = some (.bool (xor neg (decide (a = b)))) := by
  unfold gEq
  rw [if_pos ⟨shaped_of (hs a) hk, shaped_of (hs b) hk⟩, h a b]
@[simp] theorem gEq_map (neg : Bool) (a b : Mp) : gEq neg (mpD a) (mpD b) = some (.bool (xor neg (decide (a = b)))) := gEq_of emb_map shK_map (by decide) neg a b
@[simp] theorem gEq_int (neg : Bool) (a b : Int) : gEq neg (.int a) (.int b) = some (.bool (xor neg (decide (a = b)))) := gEq_of (w := PyData.int) (k := 1) emb_int (shK_int (by decide)) (by decide) neg a b
@[simp] theorem gEq_intsT (neg : Bool) (a b : List Int) : gEq neg (.tuple (a.map .int)) (.tuple (b.map .int)) = some (.bool (xor neg (decide (a = b)))) := gEq_of (w := fun l : List Int => PyData.tuple (l.map .int)) (k := 2) (emb_tup emb_int) (fun _ => shK_ints) (by decide) neg a b
@[simp] theorem gEq_intsL (neg : Bool) (a b : List Int) : gEq neg (.list (a.map .int)) (.list (b.map .int)) = some (.bool (xor neg (decide (a = b)))) := gEq_of (w := fun l : List Int => PyData.list (l.map .int)) (k := 2) (emb_lst emb_int) (fun _ => shK_intsL) (by decide) neg a b
theorem flat_ints (r : List Int) : (r.map PyData.int).all flatD = true := by
  rw [List.all_eq_true]
  intro x hx
  obtain ⟨i, _, rfl⟩ := List.mem_map.mp hx
  rfl
theorem any_ints (r : List Int) (k : Int) : ((r.map PyData.int).any fun z => PyData.eqv z (.int k)) = decide (k ∈ r) := by
  induction r with
  | nil => rfl
  | cons a r ih =>
    rw [List.map_cons, List.any_cons, ih, emb_int a k]
    by_cases e : a = k
    · subst e; simp
    · have e' : k ≠ a := fun z => e z.symm
      simp [e, e', List.mem_cons]
@[simp] theorem gIn_ints (neg : Bool) (r : List Int) (k : Int) : gIn neg (.int k) (.tuple (r.map .int)) = some (.bool (xor neg (decide (k ∈ r)))) := by
  unfold gIn
  simp only
  rw [if_pos ⟨rfl, flat_ints r⟩, any_ints]
@[simp] theorem gIn_intsL (neg : Bool) (r : List Int) (k : Int) : gIn neg (.int k) (.list (r.map .int)) = some (.bool (xor neg (decide (k ∈ r)))) := by
  unfold gIn
  simp only
  rw [if_pos (.inl ⟨rfl, flat_ints r⟩), any_ints]
theorem gLenSet_ints {r : List Int} (h : r.length ≤ 1000) : gLenSet (.tuple (r.map .int)) = some (.int (sset r).length) := by
  unfold gLenSet
  simp only [intsD_map, Option.bind_some]
  rw [if_pos h]
/-- subscripts -/
theorem gIx_tup {xs : List PyData} {i : Nat} {d : PyData} (h : xs[i]? = some d) : gIx (.tuple xs) (.int i) = some d := by
  unfold gIx
  simp only
  exact atI_nat h
@[simp] theorem at0 {a b : PyData} : atI [a, b] 0 = some a := rfl
@[simp] theorem at1 {a b : PyData} : atI [a, b] 1 = some b := rfl
structure Wf (m : Mp) : Prop where
  len : m.2.length ≤ 1000
  rng : 0 ≤ m.1 ∧ m.1 ≤ 1000
  lt : ∀ x ∈ m.2, 0 ≤ x ∧ x < m.1
/-- one, and then other, by hand -/
def thn (a b : Mp) : Mp := (b.1, a.2.map fun x => b.2.getD x.toNat 0)
theorem thn_len (a b : Mp) : (thn a b).2.length = a.2.length := List.length_map _
theorem getD_mem {l : List Int} {k : Nat} (h : k < l.length) : l.getD k 0 ∈ l := by
  rw [List.getD_eq_getElem?_getD, List.getElem?_eq_getElem h]
  exact List.getElem_mem h
theorem Wf.thn {a b : Mp} (ha : Wf a) (hb : Wf b) (h : a.1 = b.2.length) : Wf (thn a b) where
  len := by rw [thn_len]; exact ha.len
  rng := hb.rng
  lt := fun x hx => by
    obtain ⟨i, hi, rfl⟩ := List.mem_map.mp hx
    have := ha.lt i hi
    exact hb.lt _ (getD_mem (by omega))
theorem atI_ints {r : List Int} {x : Int} (h : 0 ≤ x ∧ x < r.length) : atI (r.map PyData.int) x = some (.int (r.getD x.toNat 0)) := by
  have e : x = ((x.toNat : Nat) : Int) := by omega
  have hl : x.toNat < r.length := by omega
  have g : (r.map PyData.int)[x.toNat]? = some (.int (r.getD x.toNat 0)) := by
    rw [List.getElem?_map, List.getElem?_eq_getElem hl, List.getD_eq_getElem?_getD, List.getElem?_eq_getElem hl]
    rfl
  have := atI_nat g
  rwa [← e] at this
@[simp] theorem gIx_m0 (a : Mp) : gIx (mpD a) (.int 0) = some (.int a.1) := rfl
@[simp] theorem gIx_m1 (a : Mp) : gIx (mpD a) (.int 1) = some (.tuple (a.2.map .int)) := rfl
@[simp] theorem gIs_map (neg : Bool) (a : Mp) : gIs neg (mpD a) .none = some (.bool (xor neg false)) := rfl
@[simp] theorem gIs_mapD (neg : Bool) (t : Int) (r : List Int) : gIs neg (mapD t r) .none = some (.bool (xor neg false)) := rfl
/-- a number for each: 0, 1, .. -/
def idr (n : Nat) : List Int := (List.range n).map fun (i : Nat) => (i : Int)
theorem idr_len (n : Nat) : (idr n).length = n := by unfold idr; rw [List.length_map, List.length_range]
theorem idr_get {n i : Nat} (h : i < n) : (idr n)[i]? = some (i : Int) := by
  unfold idr
  rw [List.getElem?_map, List.getElem?_range h]
  rfl
theorem idr_mem {n : Nat} {x : Int} (h : x ∈ idr n) : 0 ≤ x ∧ x < n := by
  unfold idr at h
  obtain ⟨i, hi, rfl⟩ := List.mem_map.mp h
  have := List.mem_range.mp hi
  omega
theorem Wf.same {n : Int} (h : 0 ≤ n ∧ n ≤ 1000) : Wf (n, idr n.toNat) where
  len := by rw [idr_len]; omega
  rng := h
  lt := fun x hx => by have := idr_mem hx; show 0 ≤ x ∧ x < n; omega
theorem thn_same_r {a : Mp} (ha : Wf a) : thn a (a.1, idr a.1.toNat) = a := by
  unfold thn
  refine Prod.ext rfl ?_
  show a.2.map _ = a.2
  refine (List.map_congr_left fun x hx => ?_).trans (List.map_id _)
  have := ha.lt x hx
  rw [List.getD_eq_getElem?_getD, idr_get (by omega)]
  show ((x.toNat : Nat) : Int) = x
  omega
theorem thn_same_l (a : Mp) : thn ((a.2.length : Nat), idr a.2.length) a = a := by
  unfold thn
  refine Prod.ext rfl ?_
  show (idr a.2.length).map _ = a.2
  refine List.ext_getElem? fun i => ?_
  by_cases h : i < a.2.length
  · rw [List.getElem?_map, idr_get h]
    show some (a.2.getD ((i : Int)).toNat 0) = _
    rw [List.getD_eq_getElem?_getD, show ((i : Int)).toNat = i by omega, List.getElem?_eq_getElem h]
    rfl
  · rw [List.getElem?_eq_none (by rw [List.length_map, idr_len]; omega), List.getElem?_eq_none (by omega)]
theorem thn_assoc {a b c : Mp} (ha : Wf a) (h : a.1 = b.2.length) : thn (thn a b) c = thn a (thn b c) := by
  unfold thn
  refine Prod.ext rfl ?_
  show (a.2.map _).map _ = a.2.map _
  rw [List.map_map]
  refine List.map_congr_left fun x hx => ?_
  have := ha.lt x hx
  have hl : x.toNat < b.2.length := by omega
  show c.2.getD (b.2.getD x.toNat 0).toNat 0 = (b.2.map fun y => c.2.getD y.toNat 0).getD x.toNat 0
  rw [List.getD_eq_getElem?_getD (l := b.2.map _), List.getElem?_map, List.getElem?_eq_getElem hl, List.getD_eq_getElem?_getD (l := b.2), List.getElem?_eq_getElem hl]
  rfl
theorem rgD_idr (n : Nat) : rgD 0 n = (idr n).map PyData.int := by
  rw [rgD_zero]
  unfold idr
  rw [List.map_map]
  rfl
theorem enD_ints (r : List Int) : enD (r.map PyData.int) = (List.range r.length).map fun (i : Nat) => PyData.tuple [.int i, .int (r.getD i 0)] := by
  refine List.ext_getElem? fun i => ?_
  by_cases h : i < r.length
  · have e : (r.map PyData.int)[i]? = some (.int (r.getD i 0)) := by
      rw [List.getElem?_map, List.getElem?_eq_getElem h, List.getD_eq_getElem?_getD, List.getElem?_eq_getElem h]
      rfl
    rw [enD_get e, List.getElem?_map, List.getElem?_range h]
    rfl
  · rw [List.getElem?_eq_none (by rw [enD_len, List.length_map]; omega), List.getElem?_eq_none (by rw [List.length_map, List.length_range]; omega)]
/-- [.. for i, x in enumerate(row) if ..] -/
theorem lc_enF {vs : List Nat} {j1 j2 : Nat} {fs f : Fn} {c : Rho → Option Bool} {ρ : Rho} {r : List Int} {g : Nat → PyData} {p : Nat → Bool} {d : PyData} (h1 : fs ρ = some d) (hd : d = .tuple (r.map .int) ∨ d = .list (r.map .int)) (hl : r.length ≤ 1000000)
    (h : ∀ i, i < r.length → c (((wipeR ρ vs).set j1 (some (.int i))).set j2 (some (.int (r.getD i 0)))) = some (p i) ∧ (p i = true → f (((wipeR ρ vs).set j1 (some (.int i))).set j2 (some (.int (r.getD i 0)))) = some (g i))) :
    fLc vs (iEn fs) (hSeq 2 (hCons (hName j1) (hCons (hName j2) hNil))) c f ρ = some (((List.range r.length).filter p).map g) := by
  have e : iEn fs ρ = some ((List.range r.length).map fun (i : Nat) => PyData.tuple [.int i, .int (r.getD i 0)]) := by
    unfold iEn
    rw [h1, Option.bind_some]
    rcases hd with rfl | rfl <;> simp only [enD_ints]
  unfold fLc
  rw [e, Option.bind_some, if_pos (by rw [List.length_map, List.length_range]; exact hl)]
  refine compF_listF fun i hi => ⟨_, rfl, ?_, ?_⟩
  · exact (h i (List.mem_range.mp hi)).1
  · exact (h i (List.mem_range.mp hi)).2
theorem insS_len {k : Int} : ∀ {l : List Int}, l.Pairwise (· < ·) → (insS k l).length = if k ∈ l then l.length else l.length + 1
  | [], _ => by simp [insS]
  | a :: r, h => by
    obtain ⟨h1, h2⟩ := List.pairwise_cons.mp h
    unfold insS
    by_cases c1 : k < a
    · have : ¬ k ∈ a :: r := fun hm => by
        rcases List.mem_cons.mp hm with e | e
        · omega
        · have := h1 k e; omega
      rw [if_pos c1, if_neg this]
      rfl
    · rw [if_neg c1]
      by_cases c2 : k = a
      · rw [if_pos c2, if_pos (by rw [c2]; exact List.mem_cons_self)]
      · rw [if_neg c2, List.length_cons, insS_len h2, List.length_cons]
        by_cases c3 : k ∈ r
        · rw [if_pos c3, if_pos (List.mem_cons_of_mem _ c3)]
        · rw [if_neg c3, if_neg (fun hm => by rcases List.mem_cons.mp hm with e | e; exact c2 e; exact c3 e)]
theorem sset_nodup : ∀ {r : List Int}, (sset r).length = r.length ↔ r.Nodup
  | [] => by simp [sset]
  | a :: r => by
    have e : sset (a :: r) = insS a (sset r) := rfl
    rw [e, insS_len (sset_lt r), List.nodup_cons, List.length_cons, ← sset_nodup (r := r)]
    have hle := sset_le r
    by_cases c : a ∈ r
    · rw [if_pos (sset_mem.mpr c)]
      constructor
      · intro z; omega
      · rintro ⟨z, _⟩; exact absurd c z
    · rw [if_neg (fun z => c (sset_mem.mp z))]
      constructor
      · intro z; exact ⟨c, by omega⟩
      · rintro ⟨_, z⟩; omega
theorem met_nodup {r : List Int} : ((List.range r.length).filter fun i => decide (r.getD i 0 ∈ r.take i)).length = 0 ↔ r.Nodup := by
  rw [List.length_eq_zero_iff, List.filter_eq_nil_iff]
  constructor
  · intro h
    refine List.pairwise_iff_getElem.mpr fun i j hi hj hij => ?_
    have := h j (List.mem_range.mpr hj)
    rw [decide_eq_true_eq] at this
    intro e
    refine this ?_
    rw [List.getD_eq_getElem?_getD, List.getElem?_eq_getElem hj]
    show r[j] ∈ _
    rw [← e]
    refine List.mem_iff_getElem?.mpr ⟨i, ?_⟩
    rw [List.getElem?_take, if_pos hij, List.getElem?_eq_getElem hi]
  · intro h i hi
    have hi := List.mem_range.mp hi
    rw [decide_eq_true_eq, List.getD_eq_getElem?_getD, List.getElem?_eq_getElem hi]
    intro hm
    obtain ⟨j, hj⟩ := List.mem_iff_getElem?.mp hm
    rw [List.getElem?_take] at hj
    by_cases hji : j < i
    · rw [if_pos hji] at hj
      obtain ⟨hjl, ej⟩ := List.getElem?_eq_some_iff.mp hj
      exact List.pairwise_iff_getElem.mp h j i hjl hi hji ej
    · rw [if_neg hji] at hj
      cases hj
theorem idr_lt (n : Nat) : (idr n).Pairwise (· < ·) := by
  unfold idr
  rw [List.pairwise_map]
  exact List.pairwise_lt_range.imp fun h => by omega
theorem mem_idr {n : Nat} {x : Int} : x ∈ idr n ↔ 0 ≤ x ∧ x < n := by
  refine ⟨idr_mem, fun h => ?_⟩
  refine List.mem_iff_getElem?.mpr ⟨x.toNat, ?_⟩
  rw [idr_get (by omega)]
  congr 1
  omega
theorem left_all {n : Nat} {r : List Int} (hr : ∀ x ∈ r, 0 ≤ x ∧ x < n) : ((List.range n).filter fun (i : Nat) => decide ((i : Int) ∉ r)).length = 0 ↔ (sset r).length = n := by
  rw [List.length_eq_zero_iff, List.filter_eq_nil_iff]
  have hle : (sset r).length ≤ (idr n).length := nodup_len (rise_nodup (sset_lt r)) (rise_nodup (idr_lt n)) fun x hx => mem_idr.mpr (hr x (sset_mem.mp hx))
  rw [idr_len] at hle
  constructor
  · intro h
    refine Nat.le_antisymm hle ?_
    have := nodup_len (rise_nodup (idr_lt n)) (rise_nodup (sset_lt r)) fun x hx => by
      have := mem_idr.mp hx
      have h2 := h x.toNat (List.mem_range.mpr (by omega))
      rw [decide_eq_true_eq, Classical.not_not] at h2
      rw [show ((x.toNat : Nat) : Int) = x by omega] at h2
      exact sset_mem.mpr h2
    rwa [idr_len] at this
  · intro h i hi
    have hi := List.mem_range.mp hi
    rw [decide_eq_true_eq, Classical.not_not]
    refine Classical.byContradiction fun hn => ?_
    have := nodup_len (l := (i : Int) :: sset r) (m := idr n) (List.nodup_cons.mpr ⟨fun z => hn (sset_mem.mp z), rise_nodup (sset_lt r)⟩) (rise_nodup (idr_lt n)) fun x hx => by
      rcases List.mem_cons.mp hx with rfl | hx
      · exact mem_idr.mpr (by omega)
      · exact mem_idr.mpr (hr x (sset_mem.mp hx))
    rw [List.length_cons, idr_len] at this
    omega
def Parts (a : Mp) : Prop := (sset a.2).length = a.2.length
def Comes (a : Mp) : Prop := ((sset a.2).length : Int) = a.1
instance (a : Mp) : Decidable (Parts a) := inferInstanceAs (Decidable (_ = _))
instance (a : Mp) : Decidable (Comes a) := inferInstanceAs (Decidable (_ = _))
theorem parts_nodup {a : Mp} : Parts a ↔ a.2.Nodup := sset_nodup
theorem getD_inj {l : List Int} (h : l.Nodup) {i j : Nat} (hi : i < l.length) (hj : j < l.length) (e : l.getD i 0 = l.getD j 0) : i = j := by
  rw [List.getD_eq_getElem?_getD, List.getD_eq_getElem?_getD, List.getElem?_eq_getElem hi, List.getElem?_eq_getElem hj] at e
  have e : l[i] = l[j] := e
  rcases Nat.lt_trichotomy i j with z | z | z
  · exact absurd e (List.pairwise_iff_getElem.mp h i j hi hj z)
  · exact z
  · exact absurd e.symm (List.pairwise_iff_getElem.mp h j i hj hi z)
theorem nodup_map {f : Int → Int} : ∀ {l : List Int}, l.Nodup → (∀ x ∈ l, ∀ y ∈ l, f x = f y → x = y) → (l.map f).Nodup
  | [], _, _ => List.Pairwise.nil
  | a :: l, h, hf => by
    obtain ⟨h1, h2⟩ := List.nodup_cons.mp h
    rw [List.map_cons, List.nodup_cons]
    refine ⟨fun hm => ?_, nodup_map h2 fun x hx y hy => hf x (List.mem_cons_of_mem _ hx) y (List.mem_cons_of_mem _ hy)⟩
    obtain ⟨y, hy, e⟩ := List.mem_map.mp hm
    have := hf a List.mem_cons_self y (List.mem_cons_of_mem _ hy) e.symm
    exact h1 (by rw [this]; exact hy)
theorem thn_parts {a b : Mp} (ha : Wf a) (h : a.1 = b.2.length) (pa : Parts a) (pb : Parts b) : Parts (thn a b) := by
  rw [parts_nodup] at *
  refine nodup_map pa fun x hx y hy e => ?_
  have h1 := ha.lt x hx
  have h2 := ha.lt y hy
  have := getD_inj pb (by omega) (by omega) e
  omega
/-- all below to are come to -/
theorem comes_mem {a : Mp} (ha : Wf a) (ca : Comes a) {x : Int} (h : 0 ≤ x ∧ x < a.1) : x ∈ a.2 := by
  have hr := ha.rng
  have := (left_all (n := a.1.toNat) (r := a.2) fun y hy => by have := ha.lt y hy; omega).mpr (by unfold Comes at ca; omega)
  rw [List.length_eq_zero_iff, List.filter_eq_nil_iff] at this
  have := this x.toNat (List.mem_range.mpr (by omega))
  rw [decide_eq_true_eq, Classical.not_not, show ((x.toNat : Nat) : Int) = x by omega] at this
  exact this
theorem comes_of {a : Mp} (ha : Wf a) (h : ∀ x, 0 ≤ x ∧ x < a.1 → x ∈ a.2) : Comes a := by
  have hr := ha.rng
  have := (left_all (n := a.1.toNat) (r := a.2) fun y hy => by have := ha.lt y hy; omega).mp (by
    rw [List.length_eq_zero_iff, List.filter_eq_nil_iff]
    intro i hi
    have := List.mem_range.mp hi
    rw [decide_eq_true_eq, Classical.not_not]
    exact h _ (by omega))
  unfold Comes
  omega
theorem thn_comes {a b : Mp} (ha : Wf a) (hb : Wf b) (h : a.1 = b.2.length) (ca : Comes a) (cb : Comes b) : Comes (thn a b) := by
  refine comes_of (ha.thn hb h) fun x hx => ?_
  have hm := comes_mem hb cb (x := x) hx
  obtain ⟨i, hi⟩ := List.mem_iff_getElem?.mp hm
  obtain ⟨hil, ei⟩ := List.getElem?_eq_some_iff.mp hi
  have hm2 := comes_mem ha ca (x := (i : Int)) (by omega)
  refine List.mem_map.mpr ⟨(i : Int), hm2, ?_⟩
  rw [show ((i : Int)).toNat = i by omega, List.getD_eq_getElem?_getD, hi]
  rfl
end DL

namespace DL
open PySem PySem.Spec PyProof.Rows L2
/-! ### comprehensions of ints -/
theorem map_int {α : Type} (l : List α) (g : α → Int) : l.map (fun a => PyData.int (g a)) = (l.map g).map PyData.int := by
  rw [List.map_map]
  rfl
variable {vs : List Nat} {j j1 j2 : Nat} {fn fs fs2 f : Fn} {c : Rho → Option Bool} {ρ : Rho} {n : Int}
theorem lc_rgI {g : Nat → Int} (h1 : fn ρ = some (.int n)) (hn : -1000000 ≤ n ∧ n ≤ 1000000) (h : ∀ i : Nat, (i : Int) < n → f ((wipeR ρ vs).set j (some (.int i))) = some (.int (g i))) :
    fLc vs (iR1 fn) (hName j) cYes f ρ = some (((List.range n.toNat).map g).map .int) := by
  rw [lc_rg (g := fun i => .int (g i)) h1 hn h, map_int]
theorem lc_rgIF {g : Nat → Int} {p : Nat → Bool} (h1 : fn ρ = some (.int n)) (hn : -1000000 ≤ n ∧ n ≤ 1000000) (h : ∀ i : Nat, (i : Int) < n → c ((wipeR ρ vs).set j (some (.int i))) = some (p i) ∧ (p i = true → f ((wipeR ρ vs).set j (some (.int i))) = some (.int (g i)))) :
    fLc vs (iR1 fn) (hName j) c f ρ = some ((((List.range n.toNat).filter p).map g).map .int) := by
  rw [lc_rgF (g := fun i => .int (g i)) h1 hn h, map_int]
theorem lc_sqI {l : List Int} {g : Int → Int} {d : PyData} (h1 : fs ρ = some d) (hd : seqD d = some (l.map .int)) (hl : l.length ≤ 1000000) (h : ∀ x ∈ l, f ((wipeR ρ vs).set j (some (.int x))) = some (.int (g x))) :
    fLc vs (iSq fs) (hName j) cYes f ρ = some ((l.map g).map .int) := by
  rw [lc_sq (w := PyData.int) (g := fun i => .int (g i)) h1 hd hl h, map_int]
theorem lc_sqIF {l : List Int} {g : Int → Int} {p : Int → Bool} {d : PyData} (h1 : fs ρ = some d) (hd : seqD d = some (l.map .int)) (hl : l.length ≤ 1000000) (h : ∀ x ∈ l, c ((wipeR ρ vs).set j (some (.int x))) = some (p x) ∧ (p x = true → f ((wipeR ρ vs).set j (some (.int x))) = some (.int (g x)))) :
    fLc vs (iSq fs) (hName j) c f ρ = some (((l.filter p).map g).map .int) := by
  rw [lc_sqF (w := PyData.int) (g := fun i => .int (g i)) h1 hd hl h, map_int]
theorem lc_enIF {r : List Int} {g : Nat → Int} {p : Nat → Bool} {d : PyData} (h1 : fs ρ = some d) (hd : d = .tuple (r.map .int) ∨ d = .list (r.map .int)) (hl : r.length ≤ 1000000)
    (h : ∀ i, i < r.length → c (((wipeR ρ vs).set j1 (some (.int i))).set j2 (some (.int (r.getD i 0)))) = some (p i) ∧ (p i = true → f (((wipeR ρ vs).set j1 (some (.int i))).set j2 (some (.int (r.getD i 0)))) = some (.int (g i)))) :
    fLc vs (iEn fs) (hSeq 2 (hCons (hName j1) (hCons (hName j2) hNil))) c f ρ = some ((((List.range r.length).filter p).map g).map .int) := by
  rw [lc_enF (g := fun i => .int (g i)) h1 hd hl h, map_int]
theorem zpD_ints (l m : List Int) : zpD (l.map PyData.int) (m.map PyData.int) = (l.zip m).map fun p => PyData.tuple [.int p.1, .int p.2] := by
  unfold zpD
  rw [List.zip_map, List.map_map]
  rfl
theorem lc_zpI {l m : List Int} {g : Int → Int → Int} (h1 : fs ρ = some (.tuple (l.map .int))) (h2 : fs2 ρ = some (.tuple (m.map .int))) (hl : l.length ≤ 1000000)
    (h : ∀ x y, (x, y) ∈ l.zip m → f (((wipeR ρ vs).set j1 (some (.int x))).set j2 (some (.int y))) = some (.int (g x y))) :
    fLc vs (iZp fs fs2) (hSeq 2 (hCons (hName j1) (hCons (hName j2) hNil))) cYes f ρ = some (((l.zip m).map fun p => g p.1 p.2).map .int) := by
  have e : iZp fs fs2 ρ = some ((l.zip m).map fun p => PyData.tuple [.int p.1, .int p.2]) := by
    unfold iZp
    rw [h1, h2]
    simp only [Option.bind_some, zpD_ints]
  unfold fLc
  rw [e, Option.bind_some, if_pos (by rw [List.length_map, List.length_zip]; omega), ← map_int]
  exact compF_list (α := Int × Int) (w := fun p => PyData.tuple [.int p.1, .int p.2]) (g := fun p => .int (g p.1 p.2)) fun p hp => ⟨_, rfl, h p.1 p.2 hp⟩
/-! ### maps told by their parts -/
theorem mp_fold (x : Int) (l : List Int) : PyData.tuple [.int x, .tuple (l.map .int)] = mpD (x, l) := rfl
@[simp] theorem gEq_mapL (neg : Bool) (a : Mp) (x : Int) (l : List Int) : gEq neg (mpD a) (.tuple [.int x, .tuple (l.map .int)]) = some (.bool (xor neg (decide (a = (x, l))))) := gEq_map neg a (x, l)
@[simp] theorem gEq_mapA (neg : Bool) (a : Mp) (x : Int) (l m : List Int) : gEq neg (mpD a) (.tuple [.int x, .tuple (l.map .int ++ m.map .int)]) = some (.bool (xor neg (decide (a = (x, l ++ m))))) := by
  rw [← List.map_append]
  exact gEq_map neg a (x, l ++ m)
theorem mulOk {x y : Int} (hx : -1000000 ≤ x ∧ x ≤ 1000000) (hy : -1000000 ≤ y ∧ y ≤ 1000000) : MulOk x y := .inl (.inl ⟨by omega, by omega⟩)
theorem zip_range (l m : List Int) (h : l.length = m.length) (g : Int → Int → Int) : (l.zip m).map (fun p => g p.1 p.2) = (List.range l.length).map fun i => g (l.getD i 0) (m.getD i 0) := by
  refine List.ext_getElem? fun i => ?_
  by_cases hi : i < l.length
  · have e : (l.zip m)[i]? = some (l.getD i 0, m.getD i 0) := List.getElem?_zip_eq_some.mpr ⟨by show l[i]? = some (l.getD i 0); rw [List.getD_eq_getElem?_getD, List.getElem?_eq_getElem hi]; rfl, by show m[i]? = some (m.getD i 0); rw [List.getD_eq_getElem?_getD, List.getElem?_eq_getElem (show i < m.length by omega)]; rfl⟩
    rw [List.getElem?_map, e, List.getElem?_map, List.getElem?_range hi]
    rfl
  · rw [List.getElem?_eq_none (by rw [List.length_map, List.length_zip]; omega), List.getElem?_eq_none (by rw [List.length_map, List.length_range]; omega)]
theorem map_range_getD (l : List Int) : (List.range l.length).map (fun i => l.getD i 0) = l := by
  refine List.ext_getElem? fun i => ?_
  by_cases hi : i < l.length
  · rw [List.getElem?_map, List.getElem?_range hi]
    show some (l.getD i 0) = _
    rw [List.getD_eq_getElem?_getD, List.getElem?_eq_getElem hi]
    rfl
  · rw [List.getElem?_eq_none (by rw [List.length_map, List.length_range]; omega), List.getElem?_eq_none (by omega)]
theorem getD_range {g : Nat → Int} {n i : Nat} (h : i < n) : ((List.range n).map g).getD i 0 = g i := by
  rw [List.getD_eq_getElem?_getD, List.getElem?_map, List.getElem?_range h]
  rfl
/-- a good step: goes on, P holds -/
def Good (P : Rho → Prop) (g : Gn) (ρ : Rho) : Prop := ∃ ρ', g ρ = some (.nx ρ') ∧ P ρ'
theorem Good.step {P : Rho → Prop} {g1 g2 : Gn} {ρ ρ1 : Rho} (h1 : g1 ρ = some (.nx ρ1)) (h2 : Good P g2 ρ1) : Good P (gBlk g1 g2) ρ := by
  obtain ⟨ρ', h, hp⟩ := h2
  exact ⟨ρ', by rw [blk_nx h1]; exact h, hp⟩
theorem Good.last {P : Rho → Prop} {g : Gn} {ρ ρ1 : Rho} (h1 : g ρ = some (.nx ρ1)) (h2 : P ρ1) : Good P g ρ := ⟨ρ1, h1, h2⟩
/-- a loop of good turns -/
theorem Good.loop {P : Rho → Prop} {tg : PyData → Rho → Option Rho} {b : Gn} {h : Rho → Option (List PyData)} {ds : List PyData} {ρ : Rho} (he : h ρ = some ds) (hb : ∀ d ∈ ds, ∀ ρ, P ρ → ∃ ρ1, tg d ρ = some ρ1 ∧ Good P b ρ1) (h0 : P ρ) : Good P (gFor h tg b) ρ := by
  unfold Good gFor
  rw [he, Option.bind_some]
  refine forF_nx P (fun d hd ρ hp => ?_) h0
  obtain ⟨ρ1, h1, ρ', h2, h3⟩ := hb d hd ρ hp
  exact ⟨ρ1, ρ', h1, h2, h3⟩
theorem getD_app_l {l m : List Int} {i : Nat} (h : i < l.length) : (l ++ m).getD i 0 = l.getD i 0 := by
  rw [List.getD_eq_getElem?_getD, List.getD_eq_getElem?_getD, List.getElem?_append_left h]
theorem getD_app_r {l m : List Int} {i : Nat} : (l ++ m).getD (l.length + i) 0 = m.getD i 0 := by
  rw [List.getD_eq_getElem?_getD, List.getD_eq_getElem?_getD, List.getElem?_append_right (by omega), Nat.add_sub_cancel_left]
theorem row_wf {to : Int} {n : Nat} {g : Nat → Int} (ht : 0 ≤ to ∧ to ≤ 1000) (hn : n ≤ 1000) (h : ∀ i, i < n → 0 ≤ g i ∧ g i < to) : Wf (to, (List.range n).map g) where
  len := by show ((List.range n).map g).length ≤ 1000; rw [List.length_map, List.length_range]; exact hn
  rng := ht
  lt := fun x hx => by
    obtain ⟨i, hi, rfl⟩ := List.mem_map.mp hx
    exact h i (List.mem_range.mp hi)
theorem thn_row {to : Int} {n : Nat} {g : Nat → Int} {b : Mp} : thn (to, (List.range n).map g) b = (b.1, (List.range n).map fun i => b.2.getD (g i).toNat 0) := by
  unfold thn
  rw [List.map_map]
  rfl
theorem row_eq {n : Nat} {l : List Int} {g : Nat → Int} (hn : n = l.length) (h : ∀ i, i < n → g i = l.getD i 0) : (List.range n).map g = l := by
  subst hn
  exact (List.map_congr_left fun i hi => h i (List.mem_range.mp hi)).trans (map_range_getD l)
theorem getD_lt {a : Mp} (ha : Wf a) {i : Nat} (h : i < a.2.length) : 0 ≤ a.2.getD i 0 ∧ a.2.getD i 0 < a.1 := ha.lt _ (getD_mem h)
end DL

namespace DL
open PySem PySem.Spec PyProof.Rows L2
section
variable {K : PySem.W.Frag} {X : Cx} {M : List Nat} {xc : Nat → Addr} {W : WX} {a b c d e o : Expr} {ta tb tc td te to : TE} {fa fb fc fd f fo : Fn} {pos pos' apos cpos : Pos}
/-! ### a op b op c op d, as a test -/
def tChain3 (r r' r'' : R2) (ta tb tc td : TE) : TT := fun σ H Q => ta σ H fun x H1 => tb σ H1 fun y H2 => r x y H2 fun z H3 => ∃ k, z = .bl k ∧
  (if k = true then tc σ H3 fun y' H4 => r' y y' H4 fun z' H5 => ∃ k, z' = .bl k ∧ (if k = true then td σ H5 fun y2 H6 => r'' y' y2 H6 fun z2 H7 => ∃ k, z2 = .bl k ∧ Q k H7 else Q false H5) else Q false H3)
theorem pt_chain3 {op op' op'' : CmpOp} {r r' r'' : R2} (ho : OpR X (compareOp op) r) (ho' : OpR X (compareOp op') r') (ho'' : OpR X (compareOp op'') r'') (ha : PE X a ta) (hb : PE X b tb) (hc : PE X c tc) (hd : PE X d td)
    (hm : lastMarks [op, op', op''] [b, c, d] = false := by with_unfolding_all rfl) : PT X (.Compare a [op, op', op''] [b, c, d] pos) (tChain3 r r' r'' ta tb tc td) := by
  refine ⟨fun pins s σ H Q I h => ?_⟩
  refine isTrue_chain (L2.thn (ha.run pins s σ H _ I h) fun v s1 ⟨x, H1, I1, r1, q1⟩ => test_link (L2.thn (hb.run pins s1 σ H1 _ I1 q1) fun u s2 ⟨y, H2, I2, r2, q2⟩ =>
    L2.thn (ho pins s2 σ H2 x y v u _ I2 r1 r2 q2) fun d1 s3 ⟨z, H3, I3, r3, k, ez, q3⟩ => ?_)) hm
  subst ez
  cases r3
  refine wpAny_truthy_bool ?_
  cases k with
  | false => exact ite_ff ⟨H3, I3, q3⟩
  | true =>
    refine ite_tt (test_link (L2.thn (hc.run pins s3 σ H3 _ I3 q3) fun u2 s4 ⟨y2, H4, I4, r4, q4⟩ => L2.thn (ho' pins s4 σ H4 y y2 u u2 _ I4 r2 r4 q4) fun d2 s5 ⟨z2, H5, I5, r5, k2, ez2, q5⟩ => ?_))
    subst ez2
    cases r5
    refine wpAny_truthy_bool ?_
    cases k2 with
    | false => exact ite_ff ⟨H5, I5, q5⟩
    | true =>
      refine ite_tt (test_last (L2.thn (hd.run pins s5 σ H5 _ I5 q5) fun u3 s6 ⟨y3, H6, I6, r6, q6⟩ => L2.thn (ho'' pins s6 σ H6 y2 y3 u2 u3 _ I6 r4 r6 q6) fun d3 s7 ⟨z3, H7, I7, r7, k3, ez3, q7⟩ => ?_))
      subst ez3
      cases r7
      exact wpAny_truthy_bool ⟨H7, I7, q7⟩
@[simp] def bChain3 (g g' g'' : PyData → PyData → Option PyData) (fa fb fc fd : Fn) : Rho → Option Bool := fun ρ => (fa ρ).bind fun x => (fb ρ).bind fun y => (g x y).bind fun z => match z with
  | .bool true => (fc ρ).bind fun y2 => (g' y y2).bind fun z2 => match z2 with
    | .bool true => (fd ρ).bind fun y3 => (g'' y2 y3).bind fun z3 => match z3 with
      | .bool k => some k
      | _ => none
    | .bool false => some false
    | _ => none
  | .bool false => some false
  | _ => none
theorem td_chain3 {op op' op'' : CmpOp} {r r' r'' : R2} {g g' g'' : PyData → PyData → Option PyData} (ho : OD K X (compareOp op) r g) (ho' : OD K X (compareOp op') r' g') (ho'' : OD K X (compareOp op'') r'' g'') (ha : ED K X M a ta fa) (hb : ED K X M b tb fb) (hc : ED K X M c tc fc) (hd : ED K X M d td fd)
    (hm : lastMarks [op, op', op''] [b, c, d] = false := by with_unfolding_all rfl) : TD K X M (.Compare a [op, op', op''] [b, c, d] pos) (tChain3 r r' r'' ta tb tc td) (bChain3 g g' g'' fa fb fc fd) :=
  ⟨pt_chain3 ho.op ho'.op ho''.op ha.pe hb.pe hc.pe hd.pe hm, fun {Hs0 H0 Hs H σ ρ k Q} R hf q => by
    obtain ⟨x, h1, hf⟩ := bind_some hf
    obtain ⟨y, h2, hf⟩ := bind_some hf
    obtain ⟨z, h3, hf⟩ := bind_some hf
    refine ha.sm R h1 fun v Hs1 H1 g1 d1 => ?_
    refine hb.sm (R.grow g1) h2 fun u Hs2 H2 g2 d2 => ?_
    refine ho.sm g2.sub (d1.mono g2.exs) d2 h3 fun w Hs3 H3 g3 d3 => ?_
    cases z with
    | bool k1 =>
      cases d3
      refine ⟨k1, rfl, ?_⟩
      cases k1 with
      | false =>
        rw [if_neg Bool.false_ne_true]
        obtain rfl := Option.some.inj hf
        exact q H3 (g1.ex.trans (g2.ex.trans g3.ex))
      | true =>
        rw [if_pos rfl]
        obtain ⟨y2, h4, hf⟩ := bind_some hf
        obtain ⟨z2, h5, hf⟩ := bind_some hf
        refine hc.sm (((R.grow g1).grow g2).grow g3) h4 fun u2 Hs4 H4 g4 d4 => ?_
        refine ho'.sm g4.sub ((d2.mono g3.exs).mono g4.exs) d4 h5 fun w2 Hs5 H5 g5 d5 => ?_
        cases z2 with
        | bool k2 =>
          cases d5
          refine ⟨k2, rfl, ?_⟩
          cases k2 with
          | false =>
            rw [if_neg Bool.false_ne_true]
            obtain rfl := Option.some.inj hf
            exact q H5 (g1.ex.trans (g2.ex.trans (g3.ex.trans (g4.ex.trans g5.ex))))
          | true =>
            rw [if_pos rfl]
            obtain ⟨y3, h6, hf⟩ := bind_some hf
            obtain ⟨z3, h7, hf⟩ := bind_some hf
            refine hd.sm (((((R.grow g1).grow g2).grow g3).grow g4).grow g5) h6 fun u3 Hs6 H6 g6 d6 => ?_
            refine ho''.sm g6.sub ((d4.mono g5.exs).mono g6.exs) d6 h7 fun w3 Hs7 H7 g7 d7 => ?_
            cases z3 with
            | bool k3 =>
              cases d7
              obtain rfl := Option.some.inj hf
              exact ⟨_, rfl, q H7 (g1.ex.trans (g2.ex.trans (g3.ex.trans (g4.ex.trans (g5.ex.trans (g6.ex.trans g7.ex))))))⟩
            | _ => cases hf
        | _ => cases hf
    | _ => cases hf⟩

/-! ### s.index(x), s a list or a tuple of plain things -/
def rIdxT (K : PySem.W.Frag) : V → List V → Hp → VK → Prop := fun x xs H Q => ∃ (p : Addr) (ys : List V) (y : V) (j : Nat) (z : V), x = V.ref p ∧ xs = [y] ∧ SqT K H p ys ∧ flatV y = true ∧ ys.all flatV = true ∧ ys[j]? = some z ∧ eqV z y = true ∧
  (∀ (m : Nat) (z' : V), m < j → ys[m]? = some z' → eqV z' y = false) ∧ Q (.int (j : Nat)) H
theorem mt_idxT : MtR X "tuple.index" (rIdxT X.K) := by
  intro pins s σ H x xs v us Q I rx rs h
  obtain ⟨p, ys, y, j, z, rfl, rfl, hq, fy, fys, hz, hzj, hno, q⟩ := h
  cases rx
  obtain ⟨uy, rfl, ry⟩ := vals1 rs
  obtain ⟨its, rv, pl, hlen⟩ := I.tuple hq
  obtain ⟨⟨cls, dd, dt, sl⟩, ho, hc, n, hd⟩ := pl
  simp only at hc hd
  subst hc hd
  obtain ⟨u, hu, ru⟩ := rv.get hz
  obtain ⟨hjl, hje⟩ := List.getElem?_eq_some_iff.mp hu
  have hvl := rv.length
  have hj : j < its.toArray.size := by simpa using hjl
  refine call_meets PySem.F.slot_tuple_index ⟨_, ho, rfl⟩ PySem.F.entry_tuple_index (PySem.F.args_tuple_index_2 _ _) (TI.tuple_indexAt p its.toArray n dd sl uy (eqU y) j hj ?_ ?_)
    ⟨ho, fun w hw => mem_eqAt ry fy rv fys w (by simpa using hw), ⟨.int (j : Nat), H, I.tok _, ⟨_, rfl⟩, q⟩⟩
  · have e1 : its.toArray[j] = u := by simpa using hje
    rw [e1, eqU_of ru (flat_at fys hz)]
    exact hzj
  · intro m hm hmj
    have hml : m < its.length := by simpa using hm
    have hmy : m < ys.length := by omega
    have hy' : ys[m]? = some ys[m] := List.getElem?_eq_getElem hmy
    obtain ⟨u2, hu2, ru2⟩ := rv.get hy'
    obtain ⟨_, hme⟩ := List.getElem?_eq_some_iff.mp hu2
    have e1 : its.toArray[m] = u2 := by simpa using hme
    rw [e1, eqU_of ru2 (flat_at fys hy')]
    exact hno m _ hmj hy'
def tIdx (K : PySem.W.Frag) (to : TE) (t : TA) : TE := fun σ H Q => to σ H fun x H1 => ∃ p, x = .ref p ∧ (((∃ ys, SqL K H1 p ys) ∧ t σ H1 fun vs H2 => rIndex K x vs H2 Q) ∨ ((∃ ob ys, ob.dict = none ∧ H1 p = some (.frz ob (.tup ys))) ∧ t σ H1 fun vs H2 => rIdxT K x vs H2 Q))
theorem pe_idx {es : List Expr} {t : TA} (ho : PE X o to) (ha : PA X (e :: es) t)
    (hbase : attributeBase o "index" X.env (eval o X.env) = eval o X.env := by rfl)
    (hfew : ((backTo cpos (starEach (e :: es) X.env)).all (fun x => !x.1) && (backToKw cpos (keywordEach [] X.env)).all (fun x => x.1.isSome)
      && decide ((e :: es).length + ([] : List Keyword).length + (if ([] : List Keyword).isEmpty then 0 else 1) < 30)) = true := by rfl)
    (hline : (apos.endLine == cpos.line) = true := by rfl) (hs : starEach (e :: es) X.env = (false, eval e X.env) :: starEach es X.env := by rfl) (hplain : (backTo cpos (starEach es X.env)).any (·.1) = false := by rfl) :
    PE X (.Call (.Attribute o "index" apos) (e :: es) [] cpos) (tIdx X.K to t) := by
  refine ⟨fun pins s σ H Q I h => ?_⟩
  refine wpAny_Call_method_late hbase hfew hline rfl (L2.thn (ho.run pins s σ H _ I h) fun v s1 ⟨x, H1, I1, r1, p, ex, q1⟩ => ?_)
  subst ex
  rcases q1 with ⟨⟨ys, hq⟩, q1⟩ | ⟨⟨ob, ys, hn, hq⟩, q1⟩
  · obtain ⟨h1, h2⟩ := tyV_is (T := "list") I1 r1 (.inl ⟨rfl, ys, hq⟩)
    refine ⟨"list", "list.index", PySem.F.plainAttrs_list, PySem.F.slot_list_index, PySem.F.type_list_index, h1, h2, ?_⟩
    have hA := ha.run cpos pins s1 σ H1 _ I1 q1
    rw [hs] at hA ⊢
    refine Calls.callWith_builtin (by show (false || (backTo cpos (starEach es X.env)).any (·.1)) = false; rw [hplain] <;> rfl) (Calls.evalArgs_plain ?_)
    exact L2.thn hA fun us s2 ⟨vs, H2, I2, r2, q2⟩ => mt_index pins s2 σ H2 (.ref p) vs v us Q I2 r1 r2 q2
  · cases r1
    obtain ⟨_, _, _, _, o', h1, h2, _⟩ := (show ObjOk X.prog X.w H1 s1.heap p (.frz ob (.tup ys)) from I1.hok p _ hq)
    have hob : s1.heap.get? p = some ob := by
      have := I1.hok p _ hq
      exact this.1
    refine ⟨"tuple", "tuple.index", PySem.F.plainAttrs_tuple, PySem.F.slot_tuple_index, PySem.F.type_tuple_index, ⟨o', h1, h2⟩, fun a e => by cases e; exact ⟨ob, hob, hn⟩, ?_⟩
    have hA := ha.run cpos pins s1 σ H1 _ I1 q1
    rw [hs] at hA ⊢
    refine Calls.callWith_builtin (by show (false || (backTo cpos (starEach es X.env)).any (·.1)) = false; rw [hplain] <;> rfl) (Calls.evalArgs_plain ?_)
    exact L2.thn hA fun us s2 ⟨vs, H2, I2, r2, q2⟩ => mt_idxT pins s2 σ H2 (.ref p) vs (.ref p) us Q I2 rfl r2 q2
def idxF (ds : List PyData) (d : PyData) : Option PyData := if flatD d = true ∧ ds.all flatD = true then (ds.findIdx? fun z => PyData.eqv z d).map fun j => .int (j : Nat) else none
def gIdx : PyData → PyData → Option PyData
  | .list ds, d => idxF ds d
  | .tuple ds, d => idxF ds d
  | _, _ => none
theorem idxF_some {ds : List PyData} {d x : PyData} (h : idxF ds d = some x) : flatD d = true ∧ ds.all flatD = true ∧ ∃ (j : Nat) (z : PyData), x = .int (j : Nat) ∧ ds[j]? = some z ∧ PyData.eqv z d = true ∧ ∀ (m : Nat) (z' : PyData), m < j → ds[m]? = some z' → PyData.eqv z' d = false := by
  unfold idxF at h
  obtain ⟨⟨c1, c2⟩, h⟩ := ite_get h
  refine ⟨c1, c2, ?_⟩
  cases hf : ds.findIdx? (fun z => PyData.eqv z d) with
  | none => rw [hf] at h; cases h
  | some j =>
    rw [hf] at h
    cases h
    obtain ⟨hl, h1, h2⟩ := List.findIdx?_eq_some_iff_getElem.mp hf
    refine ⟨j, ds[j], rfl, List.getElem?_eq_getElem hl, h1, fun m z' hm hz => ?_⟩
    obtain ⟨hml, ez⟩ := List.getElem?_eq_some_iff.mp hz
    have := h2 m hm
    rw [← ez]
    exact Bool.eq_false_iff.mpr (by simpa using this)
theorem ed_index (ho : ED K X M o to fo) (ha : ED K X M a ta fa)
    (hs1 : starEach [a] X.env = (false, eval a X.env) :: starEach [] X.env := by rfl)
    (hbase : attributeBase o "index" X.env (eval o X.env) = eval o X.env := by rfl)
    (hfew : ((backTo cpos (starEach [a] X.env)).all (fun x => !x.1) && (backToKw cpos (keywordEach [] X.env)).all (fun x => x.1.isSome)
      && decide ([a].length + ([] : List Keyword).length + (if ([] : List Keyword).isEmpty then 0 else 1) < 30)) = true := by rfl)
    (hline : (apos.endLine == cpos.line) = true := by rfl) (hplain : (backTo cpos (starEach [] X.env)).any (·.1) = false := by rfl) (hK : X.K = K := by rfl) :
    ED K X M (.Call (.Attribute o "index" apos) [a] [] cpos) (tIdx K to (tCons ta tNil)) (f2 gIdx fo fa) := by
  subst hK
  refine ⟨pe_idx ho.pe (pa_cons ha.pe pa_nil hs1) hbase hfew hline hs1 hplain, fun {Hs0 H0 Hs H σ ρ d Q} R hf q => ?_⟩
  obtain ⟨x, h1, hf⟩ := bind_some hf
  obtain ⟨y, h2, hf⟩ := bind_some hf
  refine ho.sm R h1 fun v Hs1 H1 g1 d1 => ?_
  cases d1 with
  | @lst p xs ds hp t =>
    obtain ⟨c1, c2, j, z, rfl, hj, hz, hm⟩ := idxF_some hf
    refine ⟨p, rfl, .inl ⟨⟨xs, sqL_of (g1.sub _ _ hp)⟩, ha.sm (R.grow g1) h2 fun u Hs2 H2 g2 d2 => ?_⟩⟩
    have t2 := t.mono g2.exs
    obtain ⟨zv, hzv, dz⟩ := t2.get hj
    refine ⟨p, xs, u, j, zv, rfl, rfl, sqL_of (g2.sub _ _ (g2.exs _ _ hp)), flat_dv d2 c1, flats_dv t2 c2, hzv, ?_, fun m z' hmj hz' => ?_, q _ Hs2 H2 (g1.trans g2) (.int _)⟩
    · rw [eqV_dv dz d2 (List.all_eq_true.mp c2 z (List.mem_of_getElem? hj)) c1]; exact hz
    · obtain ⟨dm, h3, h4⟩ := t2.getv hz'
      rw [eqV_dv h4 d2 (List.all_eq_true.mp c2 dm (List.mem_of_getElem? h3)) c1]
      exact hm m dm hmj h3
  | @tup p ob xs ds hn hp t =>
    obtain ⟨c1, c2, j, z, rfl, hj, hz, hm⟩ := idxF_some hf
    refine ⟨p, rfl, .inr ⟨⟨ob, xs, hn, g1.sub _ _ hp⟩, ha.sm (R.grow g1) h2 fun u Hs2 H2 g2 d2 => ?_⟩⟩
    have t2 := t.mono g2.exs
    obtain ⟨zv, hzv, dz⟩ := t2.get hj
    refine ⟨p, xs, u, j, zv, rfl, rfl, sqT_of (g2.sub _ _ (g2.exs _ _ hp)), flat_dv d2 c1, flats_dv t2 c2, hzv, ?_, fun m z' hmj hz' => ?_, q _ Hs2 H2 (g1.trans g2) (.int _)⟩
    · rw [eqV_dv dz d2 (List.all_eq_true.mp c2 z (List.mem_of_getElem? hj)) c1]; exact hz
    · obtain ⟨dm, h3, h4⟩ := t2.getv hz'
      rw [eqV_dv h4 d2 (List.all_eq_true.mp c2 dm (List.mem_of_getElem? h3)) c1]
      exact hm m dm hmj h3
  | _ => cases hf

/-! ### own lists: extend, an item of one, and the rest that only reads -/
@[simp] def gExt (i : Nat) (f : Rho → Option (List PyData)) : Gn := fun ρ => (lstAt i ρ).bind fun ds => (f ρ).bind fun es => if ds.length + es.length ≤ 1000000 then some (.nx (ρ.set i (some (.list (ds ++ es))))) else none
theorem sd_extend (i : Nat) {x : Str} {f : Rho → Option (List PyData)} (h : FD K X M e te f) (hN : X.N[i]? = some x := by rfl) (hv : Vis X.env.scope x := by first | exact Or.inl rfl | exact Or.inr (Or.inl rfl) | exact Or.inr (Or.inr rfl)) (hM : M.contains i = true := by rfl)
    (hbase : attributeBase (.Name x pos') "extend" X.env (eval (.Name x pos') X.env) = eval (.Name x pos') X.env := by rfl)
    (hfew : ((backTo pos (starEach [e] X.env)).all (fun x => !x.1) && (backToKw pos (keywordEach [] X.env)).all (fun x => x.1.isSome)
      && decide ([e].length + ([] : List Keyword).length + (if ([] : List Keyword).isEmpty then 0 else 1) < 30)) = true := by rfl)
    (hline : (apos.endLine == pos.line) = true := by rfl) (hst : starEach [e] X.env = (false, eval e X.env) :: starEach [] X.env := by rfl) {pos2 : Pos} (hs : swapsWith (.Call (.Attribute (.Name x pos') "extend" apos) [e] [] pos) none pos2.line X.env = pure false := by rfl) (hd : (x == ("__debug__" : Str)) = false := by decide) (hcd : (x == ("__classdict__" : Str)) = false := by decide) :
    SD K xc X M W (.Expr (.Call (.Attribute (.Name x pos') "extend" apos) [e] [] pos) pos2) (tDrop (tBM X.K "list" rExtend (tVar i) (tCons te tNil))) (gExt i f) :=
  ⟨ps_expr (pe_bm PySem.F.plainAttrs_list PySem.F.slot_list_extend PySem.F.type_list_extend mt_extend (pe_var hN hv hd hcd) (pa_cons h.pe pa_nil hst) hbase hfew hline hst rfl) hs, fun {Hs0 H0 Hs H σ ρ r D} R hf o => by
    obtain ⟨ds, h1, h2⟩ := bind_some hf
    obtain ⟨es, h3, h4⟩ := bind_some h2
    obtain ⟨hl, rfl⟩ := ite_some h4
    have hρ := lstAt_some h1
    obtain ⟨p, xs, e1, e2, e3, e4, e5⟩ := R.ownAt hρ hM
    refine ⟨.ref p, e1, .inl ⟨rfl, _, sqL_of e2⟩, h.sm R h3 fun q zs Hs1 H1 g1 hq hsq hH d1 => ?_⟩
    refine ⟨p, q, xs, zs, rfl, rfl, g1.ex _ _ e2, hH, szM (by rw [e5.length, d1.length]; exact hl), ?_⟩
    exact o Hs1 _ σ g1.exs ((R.grow g1).upd hM e1 ⟨_, hρ⟩ (g1.new p e3 (by rw [e2]; simp)) e4 ((e5.mono g1.exs).append d1))⟩
/-- an item of an own list -/
@[simp] def fOwnIx (i : Nat) (fb : Fn) : Fn := fun ρ => (lstAt i ρ).bind fun ds => (fb ρ).bind fun k => match k with
  | .int k => atI ds k
  | _ => none
@[simp] def gRets (g : Gn) : Gn := fun ρ => (g ρ).bind fun r => match r with
  | .ret d => some (.ret d)
  | _ => none
theorem ss_rets {rest : List Stmt} {t : TS} {g : Gn} (h : SS K xc X [] W rest t g) : SS K xc X M W rest t (gRets g) :=
  ⟨h.ps, fun {Hs0 H0 Hs H σ ρ r D} R hf o => by
    obtain ⟨r1, h1, h2⟩ := bind_some hf
    cases r1 with
    | ret d =>
      obtain rfl := Option.some.inj h2
      obtain ⟨Hp', e1, R1, _⟩ := R.thaw
      exact h.sm R1 h1 o
    | _ => cases h2⟩
end
end DL

namespace DL
open PySem PySem.Spec PyProof.Rows L2
/-! ### the first place of a number -/
def ixI : List Int → Int → Nat
  | [], _ => 0
  | a :: l, x => if a = x then 0 else ixI l x + 1
theorem findIdx_ints (x : Int) : ∀ l : List Int, x ∈ l → (l.map PyData.int).findIdx? (fun z => PyData.eqv z (.int x)) = some (ixI l x)
  | [], h => by cases h
  | a :: l, h => by
    rw [List.map_cons, List.findIdx?_cons, emb_int a x]
    unfold ixI
    by_cases e : a = x
    · rw [if_pos e]; simp [e]
    · have h' : x ∈ l := by
        rcases List.mem_cons.mp h with z | z
        · exact absurd z.symm e
        · exact z
      rw [if_neg e, findIdx_ints x l h']
      simp [e]
theorem ixI_get {x : Int} : ∀ {l : List Int}, x ∈ l → l[ixI l x]? = some x
  | [], h => by cases h
  | a :: l, h => by
    unfold ixI
    by_cases e : a = x
    · rw [if_pos e]; simp [e]
    · have h' : x ∈ l := by
        rcases List.mem_cons.mp h with z | z
        · exact absurd z.symm e
        · exact z
      rw [if_neg e, List.getElem?_cons_succ]
      exact ixI_get h'
theorem ixI_lt {x : Int} {l : List Int} (h : x ∈ l) : ixI l x < l.length := (List.getElem?_eq_some_iff.mp (ixI_get h)).1
theorem ixI_getD {x : Int} {l : List Int} (h : x ∈ l) : l.getD (ixI l x) 0 = x := by
  rw [List.getD_eq_getElem?_getD, ixI_get h]
  rfl
theorem ixI_of {l : List Int} (h : l.Nodup) {i : Nat} (hi : i < l.length) : ixI l (l.getD i 0) = i :=
  getD_inj h (ixI_lt (getD_mem hi)) hi (ixI_getD (getD_mem hi))
theorem gIdx_list {l : List Int} {x : Int} (h : x ∈ l) : gIdx (.list (l.map .int)) (.int x) = some (.int (ixI l x)) := by
  show idxF _ _ = _
  unfold idxF
  rw [if_pos ⟨rfl, flat_ints l⟩, findIdx_ints x l h]
  rfl
theorem gIdx_tup {l : List Int} {x : Int} (h : x ∈ l) : gIdx (.tuple (l.map .int)) (.int x) = some (.int (ixI l x)) := by
  show idxF _ _ = _
  unfold idxF
  rw [if_pos ⟨rfl, flat_ints l⟩, findIdx_ints x l h]
  rfl
/-- the numbers below to that are met, in order -/
theorem met_sset {a : Mp} (h : Wf a) : ((List.range a.1.toNat).filter (fun (i : Nat) => decide ((i : Int) ∈ a.2))).map (fun (i : Nat) => (i : Int)) = sset a.2 := by
  refine rise_eq ?_ (sset_lt a.2) fun x => ?_
  · rw [List.pairwise_map]
    exact (List.pairwise_lt_range.filter _).imp fun h => by omega
  · rw [sset_mem, List.mem_map]
    constructor
    · rintro ⟨i, hi, rfl⟩
      exact of_decide_eq_true (List.mem_filter.mp hi).2
    · intro hx
      have := h.lt x hx
      have hr := h.rng
      refine ⟨x.toNat, List.mem_filter.mpr ⟨List.mem_range.mpr (by omega), ?_⟩, by omega⟩
      rw [decide_eq_true_eq, show ((x.toNat : Nat) : Int) = x by omega]
      exact hx
theorem sset_le_to {a : Mp} (h : Wf a) : ((sset a.2).length : Int) ≤ a.1 := by
  have hr := h.rng
  have := nodup_len (rise_nodup (sset_lt a.2)) (rise_nodup (idr_lt a.1.toNat)) fun x hx => mem_idr.mpr (by have := h.lt x (sset_mem.mp hx); omega)
  rw [idr_len] at this
  omega
end DL

namespace DL
open PySem PySem.Spec PyProof.Rows L2
/-- a loop that goes on or returns -/
theorem forF_ix {tg : PyData → Rho → Option Rho} {b : Gn} (P : Nat → Rho → Prop) (R : PyData → Prop) : ∀ (ds : List PyData) (n : Nat) (ρ : Rho), (∀ i d, ds[i]? = some d → ∀ ρ, P (n + i) ρ → ∃ ρ1, tg d ρ = some ρ1 ∧ ((∃ ρ', b ρ1 = some (.nx ρ') ∧ P (n + i + 1) ρ') ∨ ∃ r, b ρ1 = some (.ret r) ∧ R r)) → P n ρ →
    (∃ ρ', forF tg b ds ρ = some (.nx ρ') ∧ P (n + ds.length) ρ') ∨ ∃ r, forF tg b ds ρ = some (.ret r) ∧ R r
  | [], n, ρ, _, h => .inl ⟨ρ, rfl, h⟩
  | d :: ds, n, ρ, h, hp => by
    obtain ⟨ρ1, h1, h2⟩ := h 0 d rfl ρ hp
    rcases h2 with ⟨ρ2, h2, h3⟩ | ⟨r, h2, h3⟩
    · have ih := forF_ix P R ds (n + 1) ρ2 (fun i d' hd ρ hp => by
        have := h (i + 1) d' hd ρ (by rw [show n + (i + 1) = n + 1 + i by omega]; exact hp)
        rwa [show n + (i + 1) = n + 1 + i by omega] at this) h3
      unfold forF
      rw [h1, Option.bind_some, h2, Option.bind_some]
      rw [show n + 1 + ds.length = n + (d :: ds).length by rw [List.length_cons]; omega] at ih
      exact ih
    · refine .inr ⟨r, ?_, h3⟩
      unfold forF
      rw [h1, Option.bind_some, h2]
      rfl
/-- .. over the ints of a row with their places -/
theorem for_en {fs : Fn} {j1 j2 : Nat} {b : Gn} {ρ : Rho} {r : List Int} {d : PyData} (P : Nat → Rho → Prop) (R : PyData → Prop) (h1 : fs ρ = some d) (hd : d = .tuple (r.map .int) ∨ d = .list (r.map .int))
    (h : ∀ i, i < r.length → ∀ ρ, P i ρ → (∃ ρ', b ((ρ.set j1 (some (.int i))).set j2 (some (.int (r.getD i 0)))) = some (.nx ρ') ∧ P (i + 1) ρ') ∨ ∃ x, b ((ρ.set j1 (some (.int i))).set j2 (some (.int (r.getD i 0)))) = some (.ret x) ∧ R x) (h0 : P 0 ρ) :
    (∃ ρ', gFor (iEn fs) (hSeq 2 (hCons (hName j1) (hCons (hName j2) hNil))) b ρ = some (.nx ρ') ∧ P r.length ρ') ∨ ∃ x, gFor (iEn fs) (hSeq 2 (hCons (hName j1) (hCons (hName j2) hNil))) b ρ = some (.ret x) ∧ R x := by
  have e : iEn fs ρ = some ((List.range r.length).map fun (i : Nat) => PyData.tuple [.int i, .int (r.getD i 0)]) := by
    unfold iEn
    rw [h1, Option.bind_some]
    rcases hd with rfl | rfl <;> simp only [enD_ints]
  have := forF_ix (tg := hSeq 2 (hCons (hName j1) (hCons (hName j2) hNil))) (b := b) P R ((List.range r.length).map fun (i : Nat) => PyData.tuple [.int i, .int (r.getD i 0)]) 0 ρ (fun i d hd ρ hp => by
    have hi : i < r.length := by
      have := (List.getElem?_eq_some_iff.mp hd).1
      rwa [List.length_map, List.length_range] at this
    rw [List.getElem?_map, List.getElem?_range hi] at hd
    cases hd
    rw [Nat.zero_add] at hp ⊢
    exact ⟨_, rfl, h i hi ρ hp⟩) h0
  rw [List.length_map, List.length_range, Nat.zero_add] at this
  unfold gFor
  rw [e, Option.bind_some]
  exact this
/-- .. over a range -/
theorem for_rg {h' : Rho → Option (List PyData)} {j : Nat} {b : Gn} {ρ : Rho} {lo : Int} {n : Nat} (P : Nat → Rho → Prop) (R : PyData → Prop) (h1 : h' ρ = some (rgD lo n))
    (h : ∀ i, i < n → ∀ ρ, P i ρ → (∃ ρ', b (ρ.set j (some (.int (lo + i)))) = some (.nx ρ') ∧ P (i + 1) ρ') ∨ ∃ x, b (ρ.set j (some (.int (lo + i)))) = some (.ret x) ∧ R x) (h0 : P 0 ρ) :
    (∃ ρ', gFor h' (hName j) b ρ = some (.nx ρ') ∧ P n ρ') ∨ ∃ x, gFor h' (hName j) b ρ = some (.ret x) ∧ R x := by
  have := forF_ix (tg := hName j) (b := b) P R (rgD lo n) 0 ρ (fun i d hd ρ hp => by
    have hi : i < n := by
      have := (List.getElem?_eq_some_iff.mp hd).1
      rwa [rgD_len] at this
    rw [rgD_get hi] at hd
    cases hd
    rw [Nat.zero_add] at hp ⊢
    exact ⟨_, rfl, h i hi ρ hp⟩) h0
  rw [rgD_len, Nat.zero_add] at this
  unfold gFor
  rw [h1, Option.bind_some]
  exact this
theorem shK_str {k : Nat} (hk : 1 ≤ k) {x : Str} (h : PyData.canLay0 (.str x) = true) : shK k (.str x) := ⟨h, by simp [PyData.depth] <;> omega⟩
theorem gEq_str (neg : Bool) {x y : Str} (hx : PyData.canLay0 (.str x) = true) (hy : PyData.canLay0 (.str y) = true) : gEq neg (.str x) (.str y) = some (.bool (xor neg (x == y))) := by
  unfold gEq
  rw [if_pos ⟨shaped_of (shK_str (k := 1) (by decide) hx), shaped_of (shK_str (k := 1) (by decide) hy)⟩]
  rfl
theorem ixN_of {n : Nat} {x : Int} (h : 0 ≤ x ∧ x < n) : ixN n x = some x.toNat := by
  unfold ixN
  rw [if_pos h.1, if_pos h.2]
theorem ix_row {m : Mp} {i : Nat} (h : i < m.2.length) : gIx (.tuple (m.2.map .int)) (.int i) = some (.int (m.2.getD i 0)) := by
  rw [gIx_tuple, atI_ints (by omega), show ((i : Int)).toNat = i by omega]
end DL

namespace DL
open PySem PySem.Spec PyProof.Rows L2
section
variable {K : PySem.W.Frag} {X : Cx} {M : List Nat} {xc : Nat → Addr} {W : WX} {a b e o tg : Expr} {ta tb te to : TE} {fa fb f fo : Fn} {pos p p2 pos' apos cpos : Pos}
/-! ### x.bit_length() -/
@[simp] def gBits : PyData → Option PyData
  | .int i => some (.int (Builtin.Int.intBits i : Nat))
  | _ => none
theorem ed_bits (ho : ED K X M o to fo) (hbase : attributeBase o "bit_length" X.env (eval o X.env) = eval o X.env := by rfl) (hline : (apos.endLine == pos.line) = true := by rfl) : ED K X M (.Call (.Attribute o "bit_length" apos) [] [] pos) (tBits to) (f1 gBits fo) :=
  ⟨pe_bits ho.pe hbase hline, fun {Hs0 H0 Hs H σ ρ d Q} R hf q => by
    obtain ⟨x, h1, h2⟩ := bind_some hf
    refine ho.sm R h1 fun v Hs1 H1 g1 d1 => ?_
    cases d1 with
    | int i =>
      obtain rfl := Option.some.inj h2
      exact ⟨i, rfl, q _ Hs1 H1 g1 (.int _)⟩
    | _ => cases h2⟩
/-! ### for x in reversed(range(n)) -/
def rvD (n : Nat) : List PyData := (List.range n).map fun (i : Nat) => PyData.int ((n : Int) - 1 - i)
theorem rvD_len (n : Nat) : (rvD n).length = n := by unfold rvD; rw [List.length_map, List.length_range]
theorem rvD_get {n i : Nat} (h : i < n) : (rvD n)[i]? = some (.int ((n : Int) - 1 - i)) := by
  unfold rvD
  rw [List.getElem?_map, List.getElem?_range h]
  rfl
theorem yields_rv {Hs : Hp} {n : Nat} {lo : Int} (hlo : lo = (n : Int) - 1) : Yields K (Dd K) (Itc lo (-1) n) Hs (rvD n) where
  go := fun i H e hi => by rw [rvD_len] at hi; exact hi
  stop := fun i H e hi => by rw [rvD_len] at hi; exact hi
  yld := fun i H x H' Hs2 hi e1 e2 h => by
    obtain ⟨rfl, rfl⟩ := h
    rw [rvD_len] at hi
    refine ⟨Hs2, Grow.refl e2, _, rvD_get hi, ?_⟩
    rw [show lo + (i : Nat) * (-1) = (n : Int) - 1 - i by omega]
    exact .int _
@[simp] noncomputable def iRv (f : Fn) : Rho → Option (List PyData) := fun ρ => (f ρ).bind fun d => match d with
  | .int j => if B62 j then some (rvD j.toNat) else none
  | _ => none
theorem id_revR {pos2 : Pos} (ha : ED K X M a ta f) (hm : X.mg "range" = none) (hm2 : X.mg "reversed" = none) (hg : Gl X "range" := by rfl) (hg2 : Gl X "reversed" := by rfl) (na : starEach [a] X.env = (false, eval a X.env) :: starEach [] X.env := by rfl)
    (hs : starEach [.Call (.Name "range" p) [a] [] pos] X.env = (false, eval (.Call (.Name "range" p) [a] [] pos) X.env) :: starEach [] X.env := by rfl) :
    ID K X M (Dd K) tg (.Call (.Name "reversed" p2) [.Call (.Name "range" p) [a] [] pos] [] pos2) (iRevR (tRg1 ta)) (iRv f) :=
  ⟨pi_revR hg2 hm2 (prg_1 hg hm ha.pe na) hs, fun {Hs0 H0 Hs H σ ρ ds R} r hf q => by
    obtain ⟨d, h1, h2⟩ := bind_some hf
    refine ha.sm r h1 fun v Hs1 H1 g1 d1 => ?_
    cases d1 with
    | int j =>
      obtain ⟨hb, rfl⟩ := ite_some h2
      refine ⟨j, rfl, by decide, by decide, hb.1, hb.2, q _ Hs1 H1 g1 ?_⟩
      rw [show (j - 0).toNat = j.toNat by omega]
      exact yields_rv (by omega)
    | _ => cases h2⟩
/-! ### x, y = a, b -/
@[simp] def gPar (i j : Nat) (fa fb : Fn) : Gn := fun ρ => (fa ρ).bind fun d => (fb ρ).bind fun d' => some (.nx ((ρ.set i (some d)).set j (some d')))
theorem sd_par (i j : Nat) {x y : Str} {px py pt pt2 : Pos} {kt k2 : Nat} (hN : X.N.Nodup) (ha : ED K X M a ta fa) (hb : ED K X M b tb fb)
    (hi : X.N[i]? = some x := by rfl) (hj : X.N[j]? = some y := by rfl) (hij : i ≠ j := by decide) (hMi : M.contains i = false := by rfl) (hMj : M.contains j = false := by rfl)
    (hx : X.env.scope.names.lookup x = some .local := by rfl) (hy : X.env.scope.names.lookup y = some .local := by rfl) (hc : X.calm = true := by rfl)
    (hw : swappedStores [.Tuple [.Name x px, .Name y py] kt pt] (.Tuple [a, b] k2 pt2) X.env = pure (some [x, y]) := by rfl)
    (hs : swapsWithSole [.Tuple [.Name x px, .Name y py] kt pt] (.Tuple [a, b] k2 pt2) pos.line X.env = pure false := by rfl)
    (n1 : starEach [a, b] X.env = (false, eval a X.env) :: starEach [b] X.env := by rfl) (n2 : starEach [b] X.env = (false, eval b X.env) :: starEach [] X.env := by rfl) :
    SD K xc X M W (.Assign [.Tuple [.Name x px, .Name y py] kt pt] (.Tuple [a, b] k2 pt2) pos) (tPar i j (tCons ta (tCons tb tNil))) (gPar i j fa fb) :=
  ⟨ps_par hc hN hi hj hij hx hy (pa_cons ha.pe (pa_cons hb.pe pa_nil n2) n1) hw hs, fun {Hs0 H0 Hs H σ ρ r D} R hf o => by
    obtain ⟨d, h1, hf⟩ := bind_some hf
    obtain ⟨d', h2, hf⟩ := bind_some hf
    obtain rfl := Option.some.inj hf
    refine ha.sm R h1 fun v Hs1 H1 g1 d1 => ?_
    refine hb.sm (R.grow g1) h2 fun u Hs2 H2 g2 d2 => ?_
    exact ⟨v, u, rfl, o Hs2 H2 _ (g1.exs.trans g2.exs) ((((R.grow g1).grow g2).set hMi (d1.mono g2.exs)).set hMj d2)⟩⟩
/-! ### an item of an own list -/
theorem ed_ownIx (i : Nat) {x : Str} (hb : ED K X M b tb fb) (hN : X.N[i]? = some x := by rfl) (hv : Vis X.env.scope x := by first | exact Or.inl rfl | exact Or.inr (Or.inl rfl) | exact Or.inr (Or.inr rfl)) (hM : M.contains i = true := by rfl)
    (hd : (x == ("__debug__" : Str)) = false := by decide) (hcd : (x == ("__classdict__" : Str)) = false := by decide) (hs : PlainIx b := by exact fun _ _ => rfl) (hK : X.K = K := by rfl) :
    ED K X M (.Subscript (.Name x pos') b pos) (tOp (rIx K) (tVar i) tb) (fOwnIx i fb) := by
  subst hK
  refine ⟨pe_ix ix_seq (pe_var hN hv hd hcd) hb.pe hs, fun {Hs0 H0 Hs H σ ρ d Q} R hf q => ?_⟩
  obtain ⟨ds, h1, hf⟩ := bind_some hf
  obtain ⟨k, h2, hf⟩ := bind_some hf
  have hρ := lstAt_some h1
  obtain ⟨p0, xs, e1, e2, e3, e4, e5⟩ := R.ownAt hρ hM
  refine ⟨.ref p0, e1, hb.sm R h2 fun u Hs1 H1 g1 d1 => ?_⟩
  cases d1 with
  | int j =>
    obtain ⟨v, h3, h4⟩ := (e5.mono g1.exs).at hf
    exact .inl ⟨p0, xs, j, v, rfl, rfl, sqL_of (g1.ex _ _ e2), h3, q v Hs1 H1 g1 h4⟩
  | _ => cases hf
/-! ### a plain thing, read off with the own lists held still -/
@[simp] def fFlat (f : Fn) : Fn := fun ρ => (f ρ).bind fun d => if flatD d = true then some d else none
theorem dd_flat {Hs Hs' : Hp} {v : V} {d : PyData} (h : Dd K Hs v d) (hf : flatD d = true) : Dd K Hs' v d := by
  cases h <;> first | exact absurd hf Bool.false_ne_true | constructor
theorem ed_flat (h : ED K X [] e te f) : ED K X M e te (fFlat f) :=
  ⟨h.pe, fun {Hs0 H0 Hs H σ ρ d Q} R hf q => by
    obtain ⟨d', h1, h2⟩ := bind_some hf
    obtain ⟨hfl, rfl⟩ := ite_some h2
    obtain ⟨Hp', e1, _, R1⟩ := R.thaw
    exact h.sm R1 h1 fun v Hs1 H1 g1 d1 => q v Hs H1 (Grow.idle R.sub g1.ex) (dd_flat d1 hfl)⟩
theorem dds_flat {Hs Hs' : Hp} : ∀ {vs : List V} {ds : List PyData}, DdAll K Hs vs ds → ds.all flatD = true → DdAll K Hs' vs ds
  | _, _, .nil, _ => .nil
  | _, _, .cons a r, f => by
    rw [List.all_cons, Bool.and_eq_true] at f
    exact .cons (dd_flat a f.1) (dds_flat r f.2)
@[simp] def lFlat (f : Rho → Option (List PyData)) : Rho → Option (List PyData) := fun ρ => (f ρ).bind fun ds => if ds.all flatD = true then some ds else none
theorem fd_flat {f : Rho → Option (List PyData)} (h : FD K X [] e te f) : FD K X M e te (lFlat f) :=
  ⟨h.pe, fun {Hs0 H0 Hs H σ ρ d Q} R hf q => by
    obtain ⟨d', h1, h2⟩ := bind_some hf
    obtain ⟨hfl, rfl⟩ := ite_some h2
    obtain ⟨Hp', e1, _, R1⟩ := R.thaw
    exact h.sm R1 h1 fun p0 xs Hs1 H1 g1 hp hsp hH d1 => q p0 xs Hs H1 (Grow.idle R.sub g1.ex) hp (R.sub.free hp) hH (dds_flat d1 hfl)⟩
/-! ### x = y, y an own list that is not used after -/
@[simp] def gGive (j i : Nat) : Gn := fun ρ => (lstAt i ρ).bind fun ds => some (.nx ((ρ.set j (some (.list ds))).set i none))
/-! ### x = y.pop() -/
@[simp] def gPop (j i : Nat) : Gn := fun ρ => (lstAt i ρ).bind fun ds => (ds[ds.length - 1]?).bind fun d => some (.nx ((ρ.set i (some (.list ds.dropLast))).set j (some d)))
end
end DL

namespace DL
open PySem PySem.Spec PyProof.Rows L2
/-! ### set(a list of ints), with its table in view -/
abbrev setOb (w : World) : Obj := { cls := .type "set", dict := none, data := .set #[] 0 (.fresh 0 0 (!w.params.followText "set-order")) }
theorem call_setL {P : Program} {w : World} {A : Around} {E : Value → Shared → Prop} {s : Shared} {q : Addr} {vs : Array Value} (ns : List Int) {Q : Value → Shared → Prop} (calm : A.handled = none) (isL : s.heap.IsList q vs) (hin : IntsAre vs.toList ns) (few : ns.length + 1 < scanBound)
    (done : ∀ (hp : Heap) (t n : Nat), SetR w hp s.heap.objs.size (fun j => decide (j ∈ ns)) n → n ≤ ns.length → (∀ b u, s.heap.get? b = some u → hp.get? b = some u) → Q (.ref s.heap.objs.size) { s with heap := hp, toks := t }) :
    wpAny (model P w) A (call (.type "set") [.ref q]) Q E s := by
  have nv : vs.size = ns.length := by
    have z := IntsAre.length hin
    rwa [Array.length_toList] at z
  obtain ⟨_, _, mro⟩ := F.called_set.mro
  have mk := F.called_set.made
  have sb := F.called_set.sub
  have nt := F.called_set.notType
  have cc := F.called_set.canCreate
  have tc := F.typeCall_set_1 (.ref q)
  refine wpAny_call (codeAny_of_tree ?_)
  show wpAny _ _ (callAny (.type "set") _) _ _ _
  refine wpAny_pure ⟨Code.quiet_builtin _ (by decide +kernel), codeAny_builtin F.entry_type_call ?_⟩
  rw [Around.under_plain (weight_type_call_type "set" [.ref q] []) rfl]
  repeat (any_goals (first | assumption | wp_step))
  refine codeAny_mono (code_set_led1 (.ref q) (E := E) (Q₁ := fun v s1 => v = .ref s.heap.objs.size ∧ s1 = { s with heap := s.heap.push (setOb w) }) ⟨rfl, rfl⟩) fun r s1 hr => ?_
  cases r with
  | error e => exact hr
  | ok fl =>
    cases fl with
    | ret v =>
      obtain ⟨rfl, rfl⟩ := hr
      have at0 : (s.heap.push (setOb w)).get? s.heap.objs.size = some (setOb w) := Heap.get?_push_size _ rfl
      have ty0 : Shared.TypeIs { s with heap := s.heap.push (setOb w) } (.ref s.heap.objs.size) "set" := ⟨_, at0, rfl⟩
      have lk := F.called_set.init.lookup
      have bd := F.called_set.init.bind (.ref s.heap.objs.size)
      repeat (any_goals (first | assumption | wp_step))
      refine codeAny_mono (codeAny_call_builtin (R := wants (fun r s2 => r = .none ∧ ∃ hp t n, s2 = { s with heap := hp, toks := t } ∧ SetR w hp s.heap.objs.size (fun j => decide (j ∈ ns)) n ∧ n ≤ ns.length ∧ (∀ b u, s.heap.get? b = some u → hp.get? b = some u)) E)
        F.called_set.init.plain F.entry_set_init (check_set_init_1 ty0 ?_)) fun r2 s2 hr2 => ?_
      · obtain ⟨⟨oc, od, odt, osl⟩, ho, e1, n0, e2⟩ := isL
        simp only at e1 e2
        subst e1 e2
        have ho1 : (s.heap.push (setOb w)).get? q = some { cls := .type "list", dict := od, data := .seq vs n0, slots := osl } := Heap.get?_push_of_some _ ho
        have ls := F.sub_list_set
        have lf := F.sub_list_frozenset
        have nd : (Value.type "list" == Value.type "dict") = false := by decide
        have isL1 : (s.heap.push (setOb w)).IsList q vs := ⟨_, ho1, rfl, n0, rfl⟩
        unfold Builtin.«set.__init__» noKeywords Builtin.Frozenset.updateFrom
        generalize gi : pyIter = it
        wp_walk
        subst gi
        refine wpAny_pyIter_list isL1 (wpAny_bind (wpAny_runValue ?_))
        have ql : q < s.heap.objs.size := Heap.lt_size ho
        have zz : (s.heap.push (setOb w)).objs.size = s.heap.objs.size + 1 := Heap.size_push ..
        have q1 : q ≠ (s.heap.push (setOb w)).objs.size := by rw [zz]; exact Nat.ne_of_lt (Nat.lt_succ_of_lt ql)
        have calm3 : A.in1.in1.in1.handled = none := by simp [calm]
        have out : s.heap.objs.size ∉ [(s.heap.push (setOb w)).objs.size, q] := by
          rw [zz]
          intro hm
          rcases List.mem_cons.mp hm with z | z
          · exact Nat.ne_of_lt (Nat.lt_succ_self _) z
          · exact Nat.ne_of_gt ql (List.mem_singleton.mp z)
        have val : ∀ (i : Nat) (v : Value), vs[i]? = some v → ∃ k t, ns[i]? = some k ∧ v = .int k t := fun i v hv => by
          have il : i < ns.length := by rw [← nv]; exact (Array.getElem?_eq_some_iff.mp hv).1
          obtain ⟨t, e⟩ := IntsAre.int_at hin i v (by rw [Array.getElem?_toList]; exact hv)
          exact ⟨ns[i], t, List.getElem?_eq_getElem il, by rw [e, List.getD_eq_getElem?_getD, List.getElem?_eq_getElem il] <;> rfl⟩
        refine set_update_ints ((Walks.list calm3 _ q q1 vs).toS) s.heap.objs.size out ns nv few val (vs.size - 0) 0 _ (by omega) (Nat.zero_le _) ⟨⟨_, Heap.get?_push_size _ rfl, rfl, rfl⟩, isL1.push _⟩ ?start ?fin
        case start =>
          exact ⟨0, Nat.le_refl 0, setR_new_at (Heap.get?_push_of_some _ at0)⟩
        case fin =>
          intro s' n mv hn hS
          obtain ⟨hp, g, d, t, os⟩ := s'
          have eg : g = s.gens := mv.gens
          have ed : d = s.drawn := mv.drawn
          have eo : os = s.os := mv.os
          subst eg ed eo
          show wpAny _ _ _ _ _ _
          refine wpAny_pure ?_
          show wpAny _ _ (ret Value.none) _ _ _
          rw [nv] at hn
          refine wpAny_pure ⟨rfl, hp, t, n, rfl, hS, hn, fun b u e => ?_⟩
          have bl := Heap.lt_size e
          refine mv.heap b u (fun hm => ?_) (Heap.get?_push_of_some _ (Heap.get?_push_of_some _ e))
          rcases List.mem_cons.mp hm with z | z
          · exact Nat.ne_of_lt bl z
          · have z := List.mem_singleton.mp z
            rw [zz] at z
            exact Nat.ne_of_lt (Nat.lt_succ_of_lt bl) z
      · cases r2 with
        | error e => exact hr2
        | ok fl2 =>
          cases fl2 with
          | ret r =>
            obtain ⟨rfl, hp, t, n, rfl, hS, hn, hk⟩ := hr2
            repeat (any_goals (first | assumption | wp_step))
            exact done _ _ _ hS hn hk
          | _ => exact hr2.elim
    | _ => exact hr.elim
section
variable {K : PySem.W.Frag} {X : Cx} {M : List Nat} {a : Expr} {ta : TE} {f : Fn} {pos p p2 q : Pos}
/-- set(a list or a tuple of ints) -/
def rSetA (K : PySem.W.Frag) (w : World) : List V → Hp → VK → Prop := fun xs H Q => ∃ (p : Addr) (ns : List Int), xs = [.ref p] ∧ (SqL K H p (ns.map V.int) ∨ SqT K H p (ns.map V.int)) ∧ ns.length ≤ 1000 ∧ ∀ a, H a = none → Q (.ref a) (upd H a (SetO w a (fun j => decide (j ∈ ns)) (sset ns).length))
theorem cr_setA (hc : X.calm = true) : CallR X (.type "set") (rSetA X.K X.w) := by
  intro pins s σ H xs us Q I r h
  obtain ⟨p0, ns, rfl, hq, hl, q⟩ := h
  rcases hq with hq | hq
  · obtain ⟨u, rfl, rx⟩ := vals1 r
    cases rx
    obtain ⟨its, rv, pt, hz⟩ := I.list hq
    have hi : IntsAre its.toArray.toList ns := ints_of_vals rv
    refine call_setL ns (I.ok.hd hc) pt.isList hi (by unfold scanBound; omega) fun h' tk c R1 hcn k => ?_
    have en : c = (sset ns).length := by
      obtain ⟨o, es, ep, t, ho, hex, hdt, g, nd, hm2, hb, hf, hn, hr, hl2⟩ := id R1
      have := sset_len (ns := ns) nd fun x => by rw [← hm2 x, decide_eq_true_eq]
      rw [List.length_map, Array.length_toList] at this
      exact hn.symm.trans this
    subst en
    exact ⟨.ref _, upd H s.heap.objs.size (SetO X.w s.heap.objs.size _ _), I.laid (t' := tk) k (Nat.le_refl _) (setO_new R1), rfl, q _ (I.hok.fresh (Nat.le_refl _))⟩
  · exact cr_setI hc pins s σ H _ us Q I r ⟨p0, ns, rfl, hq, hl, q⟩
def gSortSetA : PyData → Option (List PyData)
  | .tuple ds => (intsD ds).bind fun ns => if ns.length < 64 then some ((sset ns).map .int) else none
  | .list ds => (intsD ds).bind fun ns => if ns.length < 64 then some ((sset ns).map .int) else none
  | _ => none
theorem fd_sortSetA (ha : ED K X M a ta f) (hm : X.mg "sorted" = none) (hm2 : X.mg "set" = none) (hg : Gl X "sorted" := by rfl) (hg2 : Gl X "set" := by rfl) (hc : X.calm = true := by rfl) (hK : X.K = K := by rfl)
    (na : starEach [a] X.env = (false, eval a X.env) :: starEach [] X.env := by rfl) (nb : starEach [.Call (.Name "set" p2) [a] [] q] X.env = (false, eval (.Call (.Name "set" p2) [a] [] q) X.env) :: starEach [] X.env := by rfl)
    (pa : (backTo q (starEach [] X.env)).any (·.1) = false := by rfl) (pb : (backTo pos (starEach [] X.env)).any (·.1) = false := by rfl) :
    FD K X M (.Call (.Name "sorted" p) [.Call (.Name "set" p2) [a] [] q] [] pos) (tCB (rSortedSet X.w) (tCons (tCB (rSetA K X.w) (tCons ta tNil)) tNil)) (fun ρ => (f ρ).bind gSortSetA) := by
  subst hK
  refine ⟨pe_callB (cr_sortedSet hc) hg hm boot_sorted (pa_cons (pe_callTy (cr_setA hc) hg2 hm2 boot_set (pa_cons ha.pe pa_nil na) (by decide) (by decide) na pa) pa_nil nb) (by decide) (by decide) nb pb, fun {Hs0 H0 Hs H σ ρ d Q} R hf qq => ?_⟩
  obtain ⟨dx, h1, h2⟩ := bind_some hf
  refine ha.sm R h1 fun v Hs1 H1 g1 d1 => ?_
  have key : ∀ {l : Addr} {ns : List Int}, (SqL X.K H1 l (ns.map V.int) ∨ SqT X.K H1 l (ns.map V.int)) → ns.length < 64 → (sset ns).map PyData.int = d → rSetA X.K X.w [.ref l] H1 fun v2 H2 => rSortedSet X.w [v2] H2 Q := fun {l ns} hq hl hd => by
    subst hd
    have hle := sset_le ns
    refine ⟨l, ns, rfl, hq, by omega, fun p0 hp0 => ⟨p0, _, _, rfl, upd_same, by omega, fun ns' p1 hs hmm hlen hp1 => ?_⟩⟩
    have e : ns' = sset ns := rise_eq hs (sset_lt ns) fun x => by rw [hmm, decide_eq_true_eq, sset_mem]
    subst e
    have g2 : Grow Hs1 H1 Hs1 (upd H1 p0 (SetO X.w p0 (fun j => decide (j ∈ ns)) (sset ns).length)) := Grow.alloc0 g1.sub hp0
    have g3 := Grow.alloc0 (o := .lst ((sset ns).map V.int)) g2.sub hp1
    have g := (g1.trans g2).trans g3
    exact qq p1 _ Hs1 _ g (g1.ex.free (g2.ex.free hp1)) (g2.sub.free hp1) upd_same (DdAll.ints _)
  cases d1 with
  | @tup l ob xs ds hn hp t =>
    obtain ⟨ns, h3, h4⟩ := bind_some h2
    obtain ⟨hl, hd⟩ := ite_some h4
    have e := ints_dv t h3
    subst e
    exact key (.inr (sqT_of (g1.sub _ _ hp))) hl hd
  | @lst l xs ds hp t =>
    obtain ⟨ns, h3, h4⟩ := bind_some h2
    obtain ⟨hl, hd⟩ := ite_some h4
    have e := ints_dv t h3
    subst e
    exact key (.inl (sqL_of (g1.sub _ _ hp))) hl hd
  | _ => cases h2
end
end DL

namespace DL
open PySem PySem.Spec PyProof.Rows L2
section
variable {K : PySem.W.Frag} {X : Cx} {M : List Nat} {xc : Nat → Addr} {W : WX} {a b e o tg : Expr} {ta tb te to : TE} {fa fb f fo : Fn} {pos p p2 pos' apos cpos : Pos}
/-! ### x = y, y an own list that is let go -/
theorem giveSR {Hs0 H0 Hs H : Hp} {σ : L2.St} {ρ : Rho} {i j : Nat} {ds : List PyData} (r : SR K M Hs0 H0 Hs H σ ρ) (hMi : M.contains i = true) (hMj : M.contains j = false) (hρ : ρ[i]? = some (some (.list ds))) :
    ∃ p Hs', σ[i]? = some (some (.ref p)) ∧ Same Hs Hs' ∧ SR K M Hs0 H0 Hs' H (σ.set j (some (.ref p))) ((ρ.set j (some (.list ds))).set i none) := by
  obtain ⟨p, xs, e1, e2, e3, e4, e5⟩ := r.ownAt hρ hMi
  have sHs : Same Hs (L2.upd Hs p (.lst xs)) := same_new e3
  have hij : i ≠ j := fun z => by rw [z, hMj] at hMi; cases hMi
  have hj : ∀ {k : Nat} {d : PyData}, ((ρ.set j (some (.list ds))).set i none)[k]? = some (some d) → i ≠ k ∧ (if j = k then d = .list ds ∧ k < ρ.length else ρ[k]? = some (some d)) := fun {k d} h => by
    have hik : i ≠ k := fun z => by
      subst z
      have hl := (List.getElem?_eq_some_iff.mp h).1
      rw [List.length_set] at hl
      rw [List.getElem?_set_self hl] at h
      cases h
    rw [List.getElem?_set_ne hik] at h
    refine ⟨hik, ?_⟩
    by_cases hjk : j = k
    · subst hjk
      have hl := (List.getElem?_eq_some_iff.mp h).1
      rw [List.length_set] at hl
      rw [List.getElem?_set_self hl] at h
      rw [if_pos rfl]
      cases h
      exact ⟨rfl, hl⟩
    · rw [if_neg hjk]
      rwa [List.getElem?_set_ne hjk] at h
  refine ⟨p, L2.upd Hs p (.lst xs), e1, sHs, ⟨⟨r.g.ex, r.g.exs.trans sHs, fun c o z => ?_, fun c z n => ?_⟩, by rw [List.length_set, List.length_set, List.length_set]; exact r.len, fun k d h m => ?_, fun k d h m => ?_, fun k l dk dl q h1 h2 m1 m2 h3 h4 => ?_⟩⟩
  · by_cases hc : c = p
    · subst hc; rw [upd_same] at z; rw [e2]; exact z
    · rw [upd_ne hc] at z; exact r.sub c o z
  · have hc : c ≠ p := fun y => n (by rw [y]; exact e4)
    rw [upd_ne hc]
    exact r.g.new c z n
  · obtain ⟨hik, h⟩ := hj h
    by_cases hjk : j = k
    · subst hjk
      rw [if_pos rfl] at h
      obtain ⟨rfl, hl⟩ := h
      exact ⟨.ref p, List.getElem?_set_self (by rw [r.len]; exact hl), .lst upd_same (e5.mono sHs)⟩
    · rw [if_neg hjk] at h
      obtain ⟨v, h1, h2⟩ := r.frz k d h m
      exact ⟨v, by rw [List.getElem?_set_ne hjk]; exact h1, h2.mono sHs⟩
  · obtain ⟨hik, h⟩ := hj h
    have hjk : j ≠ k := fun z => by rw [z, m] at hMj; cases hMj
    rw [if_neg hjk] at h
    obtain ⟨q, ys, es, h1, h2, h3, h4, h5, h6⟩ := r.own k d h m
    have hqp : q ≠ p := fun z => hik (r.sep i k _ _ p hρ h hMi m e1 (by rw [← z]; exact h2))
    exact ⟨q, ys, es, h1, by rw [List.getElem?_set_ne hjk]; exact h2, h3, by rw [upd_ne hqp]; exact h4, h5, h6.mono sHs⟩
  · obtain ⟨_, h1⟩ := hj h1
    obtain ⟨_, h2⟩ := hj h2
    have hjk : j ≠ k := fun z => by rw [z, m1] at hMj; cases hMj
    have hjl : j ≠ l := fun z => by rw [z, m2] at hMj; cases hMj
    rw [if_neg hjk] at h1
    rw [if_neg hjl] at h2
    rw [List.getElem?_set_ne hjk] at h3
    rw [List.getElem?_set_ne hjl] at h4
    exact r.sep k l dk dl q h1 h2 m1 m2 h3 h4
theorem sd_give (j i : Nat) {x y : Str} (hN : X.N.Nodup) (hi : X.N[i]? = some y := by rfl) (hj : X.N[j]? = some x := by rfl) (hv : Vis X.env.scope y := by first | exact Or.inl rfl | exact Or.inr (Or.inl rfl) | exact Or.inr (Or.inr rfl)) (hx : Loc X.env.scope x := by first | exact Or.inl rfl | exact Or.inr rfl)
    (hMi : M.contains i = true := by rfl) (hMj : M.contains j = false := by rfl) (hd : (y == ("__debug__" : Str)) = false := by decide) (hcd : (y == ("__classdict__" : Str)) = false := by decide)
    (hs : swapsWith (.Name y p) (some (.Name x pos')) pos.line X.env = pure false := by rfl) (hf : X.fn x = true ∨ X.env.scope.names.lookup x = some .local := by first | exact .inl rfl | exact .inr rfl) :
    SD K xc X M W (.Assign [.Name x pos'] (.Name y p) pos) (tAsg (tVar i) (gName j)) (gGive j i) :=
  ⟨ps_set hN hj hx (pe_var hi hv hd hcd) hs hf, fun {Hs0 H0 Hs H σ ρ r D} R hf o => by
    obtain ⟨ds, h1, h2⟩ := bind_some hf
    obtain rfl := Option.some.inj h2
    obtain ⟨q, Hs', e1, e2, R'⟩ := giveSR R hMi hMj (lstAt_some h1)
    exact ⟨.ref q, e1, o Hs' H _ e2 R'⟩⟩
/-! ### a new list from two -/
@[simp] def lCat (fa fb : Fn) : Rho → Option (List PyData) := fun ρ => (fa ρ).bind fun x => (fb ρ).bind fun y => match x, y with
  | .list xs, .list ys => if xs.length + ys.length ≤ 1000000 then some (xs ++ ys) else none
  | _, _ => none
theorem fd_cat (ha : ED K X M a ta fa) (hb : ED K X M b tb fb) : FD K X M (.BinOp a .Add b pos) (tOp rCat ta tb) (lCat fa fb) :=
  ⟨pe_op op_cat ha.pe hb.pe, fun {Hs0 H0 Hs H σ ρ d Q} R hf q => by
    obtain ⟨x, h1, hf⟩ := bind_some hf
    obtain ⟨y, h2, hf⟩ := bind_some hf
    refine ha.sm R h1 fun v Hs1 H1 g1 d1 => ?_
    refine hb.sm (R.grow g1) h2 fun u Hs2 H2 g2 d2 => ?_
    cases d1 with
    | @lst p1 xs ds hp t =>
      cases d2 with
      | @lst p2 ys es hp2 t2 =>
        obtain ⟨hl, rfl⟩ := ite_some hf
        have t1 := t.mono g2.exs
        refine ⟨p1, p2, xs, ys, rfl, rfl, g2.sub _ _ (g2.exs _ _ hp), g2.sub _ _ hp2, szM (by rw [t1.length, t2.length]; exact hl), fun p0 hp0 => ?_⟩
        have g3 : Grow Hs2 H2 Hs2 (L2.upd H2 p0 (.lst (xs ++ ys))) := Grow.alloc0 g2.sub hp0
        exact q p0 _ Hs2 _ ((g1.trans g2).trans g3) (g1.ex.free (g2.ex.free hp0)) (g2.sub.free hp0) upd_same (t1.append t2)
      | _ => cases hf
    | _ => cases hf⟩
/-! ### x = y.pop() -/
theorem DdAll.init {Hs : Hp} : ∀ {vs : List V} {ds : List PyData}, DdAll K Hs vs ds → DdAll K Hs vs.dropLast ds.dropLast
  | _, _, .nil => .nil
  | _, _, .cons a .nil => .nil
  | _, _, .cons a (.cons b r) => .cons a (DdAll.init (.cons b r))
theorem sd_popS (j i : Nat) {x y : Str} (hN : X.N.Nodup) (hi : X.N[i]? = some y := by rfl) (hj : X.N[j]? = some x := by rfl) (hv : Vis X.env.scope y := by first | exact Or.inl rfl | exact Or.inr (Or.inl rfl) | exact Or.inr (Or.inr rfl)) (hx : Loc X.env.scope x := by first | exact Or.inl rfl | exact Or.inr rfl)
    (hMi : M.contains i = true := by rfl) (hMj : M.contains j = false := by rfl) (hd : (y == ("__debug__" : Str)) = false := by decide) (hcd : (y == ("__classdict__" : Str)) = false := by decide)
    (hbase : attributeBase (.Name y p) "pop" X.env (eval (.Name y p) X.env) = eval (.Name y p) X.env := by rfl) (hline : (apos.endLine == cpos.line) = true := by rfl)
    (hs : swapsWith (.Call (.Attribute (.Name y p) "pop" apos) [] [] cpos) (some (.Name x pos')) pos.line X.env = pure false := by rfl) (hf : X.fn x = true ∨ X.env.scope.names.lookup x = some .local := by first | exact .inl rfl | exact .inr rfl) :
    SD K xc X M W (.Assign [.Name x pos'] (.Call (.Attribute (.Name y p) "pop" apos) [] [] cpos) pos) (tAsg (tBM0 X.K "list" rPop (tVar i)) (gName j)) (gPop j i) :=
  ⟨ps_set hN hj hx (pe_bm0 PySem.F.plainAttrs_list PySem.F.slot_list_pop PySem.F.type_list_pop mt_pop (pe_var hi hv hd hcd) hbase hline) hs hf, fun {Hs0 H0 Hs H σ ρ r D} R hf o => by
    obtain ⟨ds, h1, h2⟩ := bind_some hf
    obtain ⟨d, h3, h4⟩ := bind_some h2
    obtain rfl := Option.some.inj h4
    have hρ := lstAt_some h1
    obtain ⟨q, xs, e1, e2, e3, e4, e5⟩ := R.ownAt hρ hMi
    obtain ⟨v, h5, h6⟩ := e5.get h3
    rw [← e5.length] at h5
    refine ⟨.ref q, e1, .inl ⟨rfl, _, sqL_of e2⟩, q, xs, v, rfl, rfl, e2, h5, ?_⟩
    have R' := R.upd hMi e1 ⟨_, hρ⟩ e3 e4 e5.init
    exact o Hs _ _ (Same.refl _) (R'.set hMj h6)⟩
/-! ### s.index(x), s a list of any data -/
def idxD (ds : List PyData) (d : PyData) : Option PyData := if SeqAt.shaped (.list ds) = true ∧ SeqAt.shaped d = true then (ds.findIdx? fun z => PyData.eqv z d).map fun j => .int (j : Nat) else none
def gIdxD : PyData → PyData → Option PyData
  | .list ds, d => idxD ds d
  | _, _ => none
theorem idxD_some {ds : List PyData} {d x : PyData} (h : idxD ds d = some x) : SeqAt.shaped (.list ds) = true ∧ SeqAt.shaped d = true ∧ ∃ (j : Nat) (z : PyData), x = .int (j : Nat) ∧ ds[j]? = some z ∧ PyData.eqv z d = true ∧ ∀ (m : Nat) (z' : PyData), m < j → ds[m]? = some z' → PyData.eqv z' d = false := by
  unfold idxD at h
  obtain ⟨⟨c1, c2⟩, h⟩ := ite_get h
  refine ⟨c1, c2, ?_⟩
  cases hf : ds.findIdx? (fun z => PyData.eqv z d) with
  | none => rw [hf] at h; cases h
  | some j =>
    rw [hf] at h
    cases h
    obtain ⟨hl, h1, h2⟩ := List.findIdx?_eq_some_iff_getElem.mp hf
    refine ⟨j, ds[j], rfl, List.getElem?_eq_getElem hl, h1, fun m z' hm hz => ?_⟩
    obtain ⟨hml, ez⟩ := List.getElem?_eq_some_iff.mp hz
    have := h2 m hm
    rw [← ez]
    exact Bool.eq_false_iff.mpr (by simpa using this)
theorem ed_indexD {k : Nat} (hr : Room k X.A) (ho : ED K X M o to fo) (ha : ED K X M a ta fa)
    (hs1 : starEach [a] X.env = (false, eval a X.env) :: starEach [] X.env := by rfl)
    (hbase : attributeBase o "index" X.env (eval o X.env) = eval o X.env := by rfl)
    (hfew : ((backTo cpos (starEach [a] X.env)).all (fun x => !x.1) && (backToKw cpos (keywordEach [] X.env)).all (fun x => x.1.isSome)
      && decide ([a].length + ([] : List Keyword).length + (if ([] : List Keyword).isEmpty then 0 else 1) < 30)) = true := by rfl)
    (hline : (apos.endLine == cpos.line) = true := by rfl) (hplain : (backTo cpos (starEach [] X.env)).any (·.1) = false := by rfl) (hK : X.K = K := by rfl) :
    ED K X M (.Call (.Attribute o "index" apos) [a] [] cpos) (tBM K "list" (rIndexD K) to (tCons ta tNil)) (f2 gIdxD fo fa) := by
  subst hK
  refine ⟨pe_bm PySem.F.plainAttrs_list PySem.F.slot_list_index PySem.F.type_list_index (mt_indexD (by have := hr.un; omega)) ho.pe (pa_cons ha.pe pa_nil hs1) hbase hfew hline hs1 hplain, fun {Hs0 H0 Hs H σ ρ d Q} R hf q => ?_⟩
  obtain ⟨x, h1, hf⟩ := bind_some hf
  obtain ⟨y, h2, hf⟩ := bind_some hf
  refine ho.sm R h1 fun v Hs1 H1 g1 d1 => ?_
  cases d1 with
  | @lst p1 xs ds hp t =>
    obtain ⟨c1, c2, j, z, rfl, hj, hz, hm⟩ := idxD_some hf
    refine ⟨.inl ⟨rfl, xs, sqL_of (g1.sub _ _ hp)⟩, ha.sm (R.grow g1) h2 fun u Hs2 H2 g2 d2 => ?_⟩
    have dl : Dp X.K H2 (.ref p1) (.list ds) := (((Dd.lst hp t : Dd X.K Hs1 (.ref p1) (.list ds)).mono g2.exs).mono g2.sub).dp (SeqAt.canLay_of_shaped c1)
    exact ⟨p1, u, y, ds, j, z, rfl, rfl, dl, (d2.mono g2.sub).dp (SeqAt.canLay_of_shaped c2), c1, c2, hj, hz, hm, q _ Hs2 H2 (g1.trans g2) (.int _)⟩
  | _ => cases hf
end
end DL

namespace Lw
open PySem PySem.Spec PyProof.Rows L2 DL
def topS (i : Nat) : Stmt := PySem.Challenge.pw_mapweave_k09_whole_done_often.main.body.getD i (.Pass ⟨0, 0, 0, 0⟩)
abbrev s_must : Stmt := topS 4
abbrev N_must : List Str := ["fits"]
theorem nd_must : (N_must).Nodup := by decide +kernel
theorem sc_must : FnScope N_must ["fits"] (defScope s_must) := ⟨rfl, rfl, rfl, by decide +kernel, rfl, by decide +kernel, by decide +kernel⟩
abbrev s_then : Stmt := topS 5
abbrev N_then : List Str := ["one", "other", "number"]
theorem nd_then : (N_then).Nodup := by decide +kernel
theorem sc_then : FnScope N_then ["one", "other"] (defScope s_then) := ⟨rfl, rfl, rfl, by decide +kernel, rfl, by decide +kernel, by decide +kernel⟩
abbrev s_same : Stmt := topS 6
abbrev N_same : List Str := ["many"]
theorem nd_same : (N_same).Nodup := by decide +kernel
theorem sc_same : FnScope N_same ["many"] (defScope s_same) := ⟨rfl, rfl, rfl, by decide +kernel, rfl, by decide +kernel, by decide +kernel⟩
abbrev s_must_be_inner : Stmt := topS 8
abbrev N_must_be_inner : List Str := ["one"]
theorem nd_must_be_inner : (N_must_be_inner).Nodup := by decide +kernel
theorem sc_must_be_inner : FnScope N_must_be_inner ["one"] (defScope s_must_be_inner) := ⟨rfl, rfl, rfl, by decide +kernel, rfl, by decide +kernel, by decide +kernel⟩
abbrev s_often : Stmt := topS 9
abbrev N_often : List Str := ["one", "times", "found", "k"]
theorem nd_often : (N_often).Nodup := by decide +kernel
theorem sc_often : FnScope N_often ["one", "times"] (defScope s_often) := ⟨rfl, rfl, rfl, by decide +kernel, rfl, by decide +kernel, by decide +kernel⟩
abbrev s_walk : Stmt := topS 10
abbrev N_walk : List Str := ["one", "k", "found"]
theorem nd_walk : (N_walk).Nodup := by decide +kernel
theorem sc_walk : FnScope N_walk ["one", "k"] (defScope s_walk) := ⟨rfl, rfl, rfl, by decide +kernel, rfl, by decide +kernel, by decide +kernel⟩
abbrev s_ring : Stmt := topS 11
abbrev N_ring : List Str := ["one", "k", "some", "at", "found", "begin"]
theorem nd_ring : (N_ring).Nodup := by decide +kernel
theorem sc_ring : FnScope N_ring ["one", "k"] (defScope s_ring) := ⟨rfl, rfl, rfl, by decide +kernel, rfl, by decide +kernel, by decide +kernel⟩
abbrev s_tail : Stmt := topS 12
abbrev N_tail : List Str := ["one", "k", "found", "begin"]
theorem nd_tail : (N_tail).Nodup := by decide +kernel
theorem sc_tail : FnScope N_tail ["one", "k"] (defScope s_tail) := ⟨rfl, rfl, rfl, by decide +kernel, rfl, by decide +kernel, by decide +kernel⟩
abbrev s_common : Stmt := topS 13
abbrev N_common : List Str := ["a", "b"]
theorem nd_common : (N_common).Nodup := by decide +kernel
theorem sc_common : FnScope N_common ["a", "b"] (defScope s_common) := ⟨rfl, rfl, rfl, by decide +kernel, rfl, by decide +kernel, by decide +kernel⟩
abbrev s_beat : Stmt := topS 14
abbrev N_beat : List Str := ["one", "when", "round_all", "k", "size"]
theorem nd_beat : (N_beat).Nodup := by decide +kernel
theorem sc_beat : FnScope N_beat ["one"] (defScope s_beat) := ⟨rfl, rfl, rfl, by decide +kernel, rfl, by decide +kernel, by decide +kernel⟩
abbrev s__law_cell : Stmt := topS 16
abbrev N__law_cell : List Str := ["_law_script", "_law_k"]
theorem nd__law_cell : (N__law_cell).Nodup := by decide +kernel
theorem sc__law_cell : FnScope N__law_cell ["_law_script", "_law_k"] (defScope s__law_cell) := ⟨rfl, rfl, rfl, by decide +kernel, rfl, by decide +kernel, by decide +kernel⟩
abbrev s__law_mix : Stmt := topS 17
abbrev N__law_mix : List Str := ["_law_cell_here", "_law_prime", "_law_many"]
theorem nd__law_mix : (N__law_mix).Nodup := by decide +kernel
theorem sc__law_mix : FnScope N__law_mix ["_law_cell_here", "_law_prime", "_law_many"] (defScope s__law_mix) := ⟨rfl, rfl, rfl, by decide +kernel, rfl, by decide +kernel, by decide +kernel⟩
abbrev s__law_map : Stmt := topS 18
abbrev N__law_map : List Str := ["_law_cell_here", "_law_many", "_law_to", "_law_row", "_law_left", "_law_k"]
theorem nd__law_map : (N__law_map).Nodup := by decide +kernel
theorem sc__law_map : FnScope N__law_map ["_law_cell_here", "_law_many", "_law_to"] (defScope s__law_map) := ⟨rfl, rfl, rfl, by decide +kernel, rfl, by decide +kernel, by decide +kernel⟩
abbrev s__law_sizes : Stmt := topS 19
abbrev N__law_sizes : List Str := ["_law_script", "_law_k", "_law_seed"]
theorem nd__law_sizes : (N__law_sizes).Nodup := by decide +kernel
theorem sc__law_sizes : FnScope N__law_sizes ["_law_script", "_law_k"] (defScope s__law_sizes) := ⟨rfl, rfl, rfl, by decide +kernel, rfl, by decide +kernel, by decide +kernel⟩
abbrev s__law_whole : Stmt := topS 20
abbrev N__law_whole : List Str := ["_law_found"]
theorem nd__law_whole : (N__law_whole).Nodup := by decide +kernel
theorem sc__law_whole : FnScope N__law_whole ["_law_found"] (defScope s__law_whole) := ⟨rfl, rfl, rfl, by decide +kernel, rfl, by decide +kernel, by decide +kernel⟩
abbrev s__law_then : Stmt := topS 21
abbrev N__law_then : List Str := ["_law_one", "_law_other", "_law_number"]
theorem nd__law_then : (N__law_then).Nodup := by decide +kernel
theorem sc__law_then : FnScope N__law_then ["_law_one", "_law_other"] (defScope s__law_then) := ⟨rfl, rfl, rfl, by decide +kernel, rfl, by decide +kernel, by decide +kernel⟩
abbrev s__law_self : Stmt := topS 22
abbrev N__law_self : List Str := ["_law_cell_here", "_law_most", "_law_many"]
theorem nd__law_self : (N__law_self).Nodup := by decide +kernel
theorem sc__law_self : FnScope N__law_self ["_law_cell_here", "_law_most"] (defScope s__law_self) := ⟨rfl, rfl, rfl, by decide +kernel, rfl, by decide +kernel, by decide +kernel⟩
abbrev s__law_refused : Stmt := topS 23
abbrev N__law_refused : List Str := ["_law_way", "_law_one", "_law_told"]
theorem nd__law_refused : (N__law_refused).Nodup := by decide +kernel
theorem sc__law_refused : FnScope N__law_refused ["_law_way", "_law_one"] (defScope s__law_refused) := ⟨rfl, rfl, rfl, by decide +kernel, rfl, by decide +kernel, by decide +kernel⟩
abbrev s__law_rows : Stmt := topS 24
abbrev N__law_rows : List Str := ["_law_one", "_law_rows_here", "_law_more", "_law_k"]
theorem nd__law_rows : (N__law_rows).Nodup := by decide +kernel
theorem sc__law_rows : FnScope N__law_rows ["_law_one"] (defScope s__law_rows) := ⟨rfl, rfl, rfl, by decide +kernel, rfl, by decide +kernel, by decide +kernel⟩
abbrev s__law_ring : Stmt := topS 25
abbrev N__law_ring : List Str := ["_law_one", "_law_k", "_law_found", "_law_at", "_law_some", "_law_low"]
theorem nd__law_ring : (N__law_ring).Nodup := by decide +kernel
theorem sc__law_ring : FnScope N__law_ring ["_law_one", "_law_k"] (defScope s__law_ring) := ⟨rfl, rfl, rfl, by decide +kernel, rfl, by decide +kernel, by decide +kernel⟩
abbrev s_law : Stmt := topS 26
abbrev N_law : List Str := ["_law_script", "_law_cell_here", "_law_bad", "_law_one", "_law_found", "_law_times", "_law_a", "_law_b", "_law_k", "_law_rows_here", "_law_at", "_law_due", "_law_told", "_law_way"]
theorem nd_law : (N_law).Nodup := by decide +kernel
theorem sc_law : FnScope N_law ["_law_script"] (defScope s_law) := ⟨rfl, rfl, rfl, by decide +kernel, rfl, by decide +kernel, by decide +kernel⟩
noncomputable def g_must_0t0 : Gn := (gRaise 2)
noncomputable def g_must_0 : Gn := (gIf (bNot (fTru (fVar 0)))
      g_must_0t0 gNx)
noncomputable def g_must : Gn := g_must_0
noncomputable def phi_must := defN 1 1 g_must
noncomputable def g_then_0 : Gn := (gExprQ (qCall phi_must (fCons (f2 (gEq false) (f2 gIx (fVar 0) (fC (.int 0))) (fBi gLen (fCons (f2 gIx (fVar 1) (fC (.int 1))) fNil))) fNil)))
noncomputable def g_then_1 : Gn := (gRet (fTup (fCons (f2 gIx (fVar 1) (fC (.int 0))) (fCons (fBi gTuple (fCons (fFr (fLc [2] (iSq (f2 gIx (fVar 0) (fC (.int 1)))) (hName 2) cYes (f2 gIx (f2 gIx (fVar 1) (fC (.int 1))) (fVar 2)))) fNil)) fNil))))
noncomputable def g_then : Gn := (gBlk g_then_0 g_then_1)
noncomputable def phi_then := defN 2 3 g_then
noncomputable def g_same_0 : Gn := (gRet (fTup (fCons (fVar 0) (fCons (gRg .tuple (fVar 0)) fNil))))
noncomputable def g_same : Gn := g_same_0
noncomputable def phi_same := defN 1 1 g_same
noncomputable def g_must_be_inner_0 : Gn := (gExprQ (qCall phi_must (fCons (fAnd (f2 (gEq false) (f2 gIx (fVar 0) (fC (.int 0))) (fBi gLen (fCons (f2 gIx (fVar 0) (fC (.int 1))) fNil))) (f2 (gIb fun i j => decide (j < i)) (f2 gIx (fVar 0) (fC (.int 0))) (fC (.int 0)))) fNil)))
noncomputable def g_must_be_inner : Gn := g_must_be_inner_0
noncomputable def phi_must_be_inner := defN 1 1 g_must_be_inner
noncomputable def g_often_0 : Gn := (gExprQ (qCall phi_must_be_inner (fCons (fVar 0) fNil)))
noncomputable def g_often_1 : Gn := (gAsg (fCall phi_same (fCons (f2 gIx (fVar 0) (fC (.int 0))) fNil)) (hName 2))
noncomputable def g_often_2b0 : Gn := (gSetQ 2 (qCall phi_then (fCons (fVar 2) (fCons (fVar 2) fNil))))
noncomputable def g_often_2b1t0 : Gn := (gSetQ 2 (qCall phi_then (fCons (fVar 2) (fCons (fVar 0) fNil))))
noncomputable def g_often_2b1 : Gn := (gIf (fB (f2 (gEq false) (f2 (gI fun i j => Builtin.bitAnd i j) (f2 (gIc (fun _ j => 0 ≤ j) fun i j => i / 2 ^ j.toNat) (fVar 1) (fVar 3)) (fC (.int 1))) (fC (.int 1))))
      g_often_2b1t0 gNx)
noncomputable def g_often_2b : Gn := (gBlk g_often_2b0 g_often_2b1)
noncomputable def g_often_2 : Gn := (gFor (iRv (f1 gBits (fVar 1))) (hName 3)
      g_often_2b)
noncomputable def g_often_3 : Gn := (gRet (fVar 2))
noncomputable def g_often : Gn := (gBlk g_often_0 (gBlk g_often_1 (gBlk g_often_2 g_often_3)))
noncomputable def phi_often := defN 2 4 g_often
noncomputable def g_walk_0 : Gn := (gOwn 2 (fList fNil))
noncomputable def g_walk_1b0 : Gn := (gApp 2 (fVar 1))
noncomputable def g_walk_1b1 : Gn := (gAsg (f2 gIx (f2 gIx (fVar 0) (fC (.int 1))) (fVar 1)) (hName 1))
noncomputable def g_walk_1b : Gn := (gBlk g_walk_1b0 g_walk_1b1)
noncomputable def g_walk_1 : Gn := (whileF (fB (f2 (gIn true) (fVar 1) (fVar 2))) g_walk_1b 1000000)
noncomputable def g_walk_2 : Gn := (gRet (fTup (fCons (fVar 2) (fCons (fVar 1) fNil))))
noncomputable def g_walk : Gn := (gBlk g_walk_0 (gBlk g_walk_1 g_walk_2))
noncomputable def phi_walk := defN 2 3 g_walk
noncomputable def g_ring_0 : Gn := (gExprQ (qCall phi_must_be_inner (fCons (fVar 0) fNil)))
noncomputable def g_ring_1 : Gn := (gAsg (fCall phi_walk (fCons (fVar 0) (fCons (fVar 1) fNil))) (hSeq 2 (hCons (hName 4) (hCons (hName 5) hNil))))
noncomputable def g_ring_2 : Gn := (gAsg (fSl (fVar 4) (pSome (f2 gIdx (fVar 4) (fVar 5))) pNone) (hName 2))
noncomputable def g_ring_3 : Gn := (gAsg (f2 gIdx (fVar 2) (fBi gMinL (fCons (fVar 2) fNil))) (hName 3))
noncomputable def g_ring_4 : Gn := (gRet (fBi gTuple (fCons (f2 gAdd (fSl (fVar 2) (pSome (fVar 3)) pNone) (fSl (fVar 2) pNone (pSome (fVar 3)))) fNil)))
noncomputable def g_ring : Gn := (gBlk g_ring_0 (gBlk g_ring_1 (gBlk g_ring_2 (gBlk g_ring_3 g_ring_4))))
noncomputable def phi_ring := defN 2 6 g_ring
noncomputable def g_tail_0 : Gn := (gExprQ (qCall phi_must_be_inner (fCons (fVar 0) fNil)))
noncomputable def g_tail_1 : Gn := (gAsg (fCall phi_walk (fCons (fVar 0) (fCons (fVar 1) fNil))) (hSeq 2 (hCons (hName 2) (hCons (hName 3) hNil))))
noncomputable def g_tail_2 : Gn := (gRet (f2 gIdx (fVar 2) (fVar 3)))
noncomputable def g_tail : Gn := (gBlk g_tail_0 (gBlk g_tail_1 g_tail_2))
noncomputable def phi_tail := defN 2 4 g_tail
noncomputable def g_common_0b0 : Gn := (gPar 0 1 (fVar 1) (f2 (gIc (fun _ j => 0 < j) fun i j => i % j) (fVar 0) (fVar 1)))
noncomputable def g_common_0 : Gn := (whileF (fB (f2 (gEq true) (fVar 1) (fC (.int 0)))) g_common_0b0 1000000)
noncomputable def g_common_1 : Gn := (gRet (fVar 0))
noncomputable def g_common : Gn := (gBlk g_common_0 g_common_1)
noncomputable def phi_common := defN 2 2 g_common
noncomputable def g_beat_0 : Gn := (gExprQ (qCall phi_must_be_inner (fCons (fVar 0) fNil)))
noncomputable def g_beat_1 : Gn := (gAsg (fBi gMaxL (fCons (fFr (fLc [3] (iR1 (f2 gIx (fVar 0) (fC (.int 0)))) (hName 3) cYes (fCall phi_tail (fCons (fVar 0) (fCons (fVar 3) fNil))))) fNil)) (hName 1))
noncomputable def g_beat_2 : Gn := (gAsg (fC (.int 1)) (hName 2))
noncomputable def g_beat_3b0 : Gn := (gAsg (fBi gLen (fCons (fCall phi_ring (fCons (fVar 0) (fCons (fVar 3) fNil))) fNil)) (hName 4))
noncomputable def g_beat_3b1 : Gn := (gAsg (f2 (gIc CDiv fun i j => i / j) (f2 gMulD (fVar 2) (fVar 4)) (fCall phi_common (fCons (fVar 2) (fCons (fVar 4) fNil)))) (hName 2))
noncomputable def g_beat_3b : Gn := (gBlk g_beat_3b0 g_beat_3b1)
noncomputable def g_beat_3 : Gn := (gFor (iR1 (f2 gIx (fVar 0) (fC (.int 0)))) (hName 3)
      g_beat_3b)
noncomputable def g_beat_4 : Gn := (gRet (fTup (fCons (fVar 1) (fCons (fVar 2) fNil))))
noncomputable def g_beat : Gn := (gBlk g_beat_0 (gBlk g_beat_1 (gBlk g_beat_2 (gBlk g_beat_3 g_beat_4))))
noncomputable def phi_beat := defN 1 5 g_beat
noncomputable def g__law_cell_0t0 : Gn := (gRet (f2 gIx (fVar 0) (fVar 1)))
noncomputable def g__law_cell_0 : Gn := (gIf (fB (f2 (gIb fun i j => decide (i < j)) (fVar 1) (fBi gLen (fCons (fVar 0) fNil))))
      g__law_cell_0t0 gNx)
noncomputable def g__law_cell_1 : Gn := (gRet (fC (.int 0)))
noncomputable def g__law_cell : Gn := (gBlk g__law_cell_0 g__law_cell_1)
noncomputable def phi__law_cell := defN 2 2 g__law_cell
noncomputable def g__law_mix_0 : Gn := (gRet (f2 (gIc (fun _ j => 0 < j) fun i j => i % j) (f2 (gIc (fun _ j => 0 < j) fun i j => i % j) (f2 gMulD (fVar 0) (fC (.int 48271))) (fVar 1)) (fVar 2)))
noncomputable def g__law_mix : Gn := g__law_mix_0
noncomputable def phi__law_mix := defN 3 3 g__law_mix
noncomputable def g__law_map_0 : Gn := (gAsg (fFr (fList fNil)) (hName 3))
noncomputable def g__law_map_1t0 : Gn := (gAsg (fFr (fLc [5] (iR1 (fVar 1)) (hName 5) cYes (fCall phi__law_mix (fCons (f2 gAdd (fVar 0) (f2 gMulD (fC (.int 31)) (fVar 5))) (fCons (fC (.int 9973)) (fCons (fVar 2) fNil)))))) (hName 3))
noncomputable def g__law_map_1 : Gn := (gIf (fB (f2 (gIb fun i j => decide (j < i)) (fVar 2) (fC (.int 0))))
      g__law_map_1t0 gNx)
noncomputable def g__law_map_2t0 : Gn := (gAsg (fFr (fLc [5] (iR1 (fVar 1)) (hName 5) cYes (f2 (gIc (fun _ j => 0 < j) fun i j => i % j) (fVar 5) (fVar 2)))) (hName 3))
noncomputable def g__law_map_2t1 : Gn := (gAsg (f2 gAdd (fSl (fVar 3) (pSome (f2 (gIc (fun _ j => 0 < j) fun i j => i % j) (f2 (gIc CDiv fun i j => i / j) (fVar 0) (fC (.int 4))) (fVar 1))) pNone) (fSl (fVar 3) pNone (pSome (f2 (gIc (fun _ j => 0 < j) fun i j => i % j) (f2 (gIc CDiv fun i j => i / j) (fVar 0) (fC (.int 4))) (fVar 1))))) (hName 3))
noncomputable def g__law_map_2t : Gn := (gBlk g__law_map_2t0 g__law_map_2t1)
noncomputable def g__law_map_2 : Gn := (gIf (bAnd (fB (f2 (gEq false) (f2 (gIc (fun _ j => 0 < j) fun i j => i % j) (fVar 0) (fC (.int 4))) (fC (.int 0)))) (fB (fChain (gIb fun i j => decide (i < j)) (gIb fun i j => decide (i ≤ j)) (fC (.int 0)) (fVar 2) (fVar 1))))
      g__law_map_2t gNx)
noncomputable def g__law_map_3t0 : Gn := (gOwn 4 (gRgL (fVar 2)))
noncomputable def g__law_map_3t1 : Gn := (gSetPop 3 5 4 [5] (iR1 (fVar 1)) (fCall phi__law_mix (fCons (f2 gAdd (fVar 0) (f2 gMulD (fC (.int 7)) (fVar 5))) (fCons (fC (.int 9967)) (fCons (f2 (gI fun i j => i - j) (fVar 2) (fVar 5)) fNil)))))
noncomputable def g__law_map_3t : Gn := (gBlk g__law_map_3t0 g__law_map_3t1)
noncomputable def g__law_map_3 : Gn := (gIf (bAnd (fB (f2 (gEq false) (f2 (gIc (fun _ j => 0 < j) fun i j => i % j) (fVar 0) (fC (.int 4))) (fC (.int 1)))) (fB (fChain (gIb fun i j => decide (i < j)) (gIb fun i j => decide (i ≤ j)) (fC (.int 0)) (fVar 1) (fVar 2))))
      g__law_map_3t gNx)
noncomputable def g__law_map_4 : Gn := (gRet (fTup (fCons (fVar 2) (fCons (fBi gTuple (fCons (fVar 3) fNil)) fNil))))
noncomputable def g__law_map : Gn := (gBlk g__law_map_0 (gBlk g__law_map_1 (gBlk g__law_map_2 (gBlk g__law_map_3 g__law_map_4))))
noncomputable def phi__law_map := defN 3 6 g__law_map
noncomputable def g__law_sizes_0 : Gn := (gAsg (fCall phi__law_cell (fCons (fVar 0) (fCons (fVar 1) fNil))) (hName 2))
noncomputable def g__law_sizes_1 : Gn := (gRet (fFr (fList (fCons (fCall phi__law_mix (fCons (fVar 2) (fCons (fC (.int 9949)) (fCons (fC (.int 7)) fNil)))) (fCons (fCall phi__law_mix (fCons (fVar 2) (fCons (fC (.int 9941)) (fCons (fC (.int 7)) fNil)))) (fCons (fCall phi__law_mix (fCons (fVar 2) (fCons (fC (.int 9931)) (fCons (fC (.int 7)) fNil)))) (fCons (fCall phi__law_mix (fCons (fVar 2) (fCons (fC (.int 9929)) (fCons (fC (.int 7)) fNil)))) fNil)))))))
noncomputable def g__law_sizes : Gn := (gBlk g__law_sizes_0 g__law_sizes_1)
noncomputable def phi__law_sizes := defN 2 3 g__law_sizes
noncomputable def g__law_whole_0 : Gn := (gRet (fAnd (f1 (gIsi "int") (fVar 0)) (fNot (f1 (gIsi "bool") (fVar 0)))))
noncomputable def g__law_whole : Gn := g__law_whole_0
noncomputable def phi__law_whole := defN 1 1 g__law_whole
noncomputable def g__law_then_0 : Gn := (gRet (fTup (fCons (f2 gIx (fVar 1) (fC (.int 0))) (fCons (fBi gTuple (fCons (fFr (fLc [2] (iSq (f2 gIx (fVar 0) (fC (.int 1)))) (hName 2) cYes (f2 gIx (f2 gIx (fVar 1) (fC (.int 1))) (fVar 2)))) fNil)) fNil))))
noncomputable def g__law_then : Gn := g__law_then_0
noncomputable def phi__law_then := defN 2 3 g__law_then
noncomputable def g__law_self_0 : Gn := (gAsg (f2 gAdd (fC (.int 1)) (fCall phi__law_mix (fCons (fVar 0) (fCons (fC (.int 9923)) (fCons (fVar 1) fNil))))) (hName 2))
noncomputable def g__law_self_1 : Gn := (gRet (fCall phi__law_map (fCons (fVar 0) (fCons (fVar 2) (fCons (fVar 2) fNil)))))
noncomputable def g__law_self : Gn := (gBlk g__law_self_0 g__law_self_1)
noncomputable def phi__law_self := defN 2 3 g__law_self
noncomputable def g__law_refused_0 : Gn := (gAsg (fC (.bool false)) (hName 2))
noncomputable def g__law_refused_1y0t0 : Gn := (gExprQ (qCall phi_often (fCons (fVar 1) (fCons (fC (.int 3)) fNil))))
noncomputable def g__law_refused_1y0e0t0 : Gn := (gExprQ (qCall phi_ring (fCons (fVar 1) (fCons (fC (.int 0)) fNil))))
noncomputable def g__law_refused_1y0e0e0t0 : Gn := (gExprQ (qCall phi_tail (fCons (fVar 1) (fCons (fC (.int 0)) fNil))))
noncomputable def g__law_refused_1y0e0e0e0 : Gn := (gExprQ (qCall phi_beat (fCons (fVar 1) fNil)))
noncomputable def g__law_refused_1y0e0e0 : Gn := (gIf (fB (f2 (gEq false) (fVar 0) (fC (.int 2))))
      g__law_refused_1y0e0e0t0 g__law_refused_1y0e0e0e0)
noncomputable def g__law_refused_1y0e0 : Gn := (gIf (fB (f2 (gEq false) (fVar 0) (fC (.int 1))))
      g__law_refused_1y0e0t0 g__law_refused_1y0e0e0)
noncomputable def g__law_refused_1y0 : Gn := (gIf (fB (f2 (gEq false) (fVar 0) (fC (.int 0))))
      g__law_refused_1y0t0 g__law_refused_1y0e0)
noncomputable def g__law_refused_1x0 : Gn := (gAsg (fC (.bool true)) (hName 2))
noncomputable def g__law_refused_1 : Gn := (gTry 2 g__law_refused_1y0 g__law_refused_1x0)
noncomputable def g__law_refused_2 : Gn := (gRet (fVar 2))
noncomputable def g__law_refused : Gn := (gBlk g__law_refused_0 (gBlk g__law_refused_1 g__law_refused_2))
noncomputable def phi__law_refused := defN 2 3 g__law_refused
noncomputable def g__law_rows_0 : Gn := (gOwn 1 (fList (fCons (fTup (fCons (f2 gIx (fVar 0) (fC (.int 0))) (fCons (fBi gTuple (fCons (fFr (fLc [3] (iR1 (f2 gIx (fVar 0) (fC (.int 0)))) (hName 3) cYes (fVar 3))) fNil)) fNil))) fNil)))
noncomputable def g__law_rows_1b0 : Gn := (gAsg (fCall phi__law_then (fCons (fOwnIx 1 (f1 gNeg (fC (.int 1)))) (fCons (fVar 0) fNil))) (hName 2))
noncomputable def g__law_rows_1b1t0 : Gn := (gRet (fTup (fCons (fVar 1) (fCons (f2 gIdxD (fVar 1) (fVar 2)) fNil))))
noncomputable def g__law_rows_1b1 : Gn := (gIf (fB (f2 (gIn false) (fVar 2) (fVar 1)))
      g__law_rows_1b1t0 gNx)
noncomputable def g__law_rows_1b2 : Gn := (gApp 1 (fVar 2))
noncomputable def g__law_rows_1b : Gn := (gBlk g__law_rows_1b0 (gBlk g__law_rows_1b1 g__law_rows_1b2))
noncomputable def g__law_rows_1 : Gn := (whileF (fTru (fC (.bool true))) g__law_rows_1b 1000000)
noncomputable def g__law_rows : Gn := (gBlk g__law_rows_0 g__law_rows_1)
noncomputable def phi__law_rows := defN 1 4 g__law_rows
noncomputable def g__law_ring_0 : Gn := (gOwn 2 (fList (fCons (fVar 1) fNil)))
noncomputable def g__law_ring_1b0 : Gn := (gApp 2 (f2 gIx (f2 gIx (fVar 0) (fC (.int 1))) (fOwnIx 2 (f1 gNeg (fC (.int 1))))))
noncomputable def g__law_ring_1 : Gn := (whileF (fB (f2 (gIn true) (f2 gIx (f2 gIx (fVar 0) (fC (.int 1))) (f2 gIx (fVar 2) (f1 gNeg (fC (.int 1))))) (fVar 2))) g__law_ring_1b0 1000000)
noncomputable def g__law_ring_z0 : Gn := (gAsg (f2 gIdx (fVar 2) (f2 gIx (f2 gIx (fVar 0) (fC (.int 1))) (f2 gIx (fVar 2) (f1 gNeg (fC (.int 1)))))) (hName 3))
noncomputable def g__law_ring_z1 : Gn := (gAsg (fSl (fVar 2) (pSome (fVar 3)) pNone) (hName 4))
noncomputable def g__law_ring_z2 : Gn := (gAsg (f2 gIdx (fVar 4) (fBi gMinL (fCons (fVar 4) fNil))) (hName 5))
noncomputable def g__law_ring_z3 : Gn := (gRet (fTup (fCons (fBi gTuple (fCons (f2 gAdd (fSl (fVar 4) (pSome (fVar 5)) pNone) (fSl (fVar 4) pNone (pSome (fVar 5)))) fNil)) (fCons (fVar 3) fNil))))
noncomputable def g__law_ring_z : Gn := (gBlk g__law_ring_z0 (gBlk g__law_ring_z1 (gBlk g__law_ring_z2 g__law_ring_z3)))
noncomputable def g__law_ring_rest : Gn := (gRets g__law_ring_z)
noncomputable def g__law_ring : Gn := (gBlk g__law_ring_0 (gBlk g__law_ring_1 g__law_ring_rest))
noncomputable def phi__law_ring := defN 2 6 g__law_ring
noncomputable def g_law_0b0 : Gn := (gAsg (fCall phi__law_self (fCons (fVar 1) (fCons (fC (.int 9)) fNil))) (hName 3))
noncomputable def g_law_0b1 : Gn := (gAsg (fCall phi__law_rows (fCons (fVar 3) fNil)) (hSeq 2 (hCons (hName 9) (hCons (hName 10) hNil))))
noncomputable def g_law_0b2 : Gn := (gSetQ 4 (qCall phi_beat (fCons (fVar 3) fNil)))
noncomputable def g_law_0b3t0 : Gn := (gRet (fC (.bool false)))
noncomputable def g_law_0b3 : Gn := (gIf (bOr (bNot (fTru (f1 (gIsi "tuple") (fVar 4)))) (fB (f2 (gEq true) (fVar 4) (fTup (fCons (fVar 10) (fCons (f2 (gI fun i j => i - j) (fBi gLen (fCons (fVar 9) fNil)) (fVar 10)) fNil))))))
      g_law_0b3t0 gNx)
noncomputable def g_law_0b4t0 : Gn := (gRet (fC (.bool false)))
noncomputable def g_law_0b4 : Gn := (gIf (bNot (fTru (fBi gAll (fCons (fFr (fLc [12] (iSq (fVar 4)) (hName 12) cYes (fCall phi__law_whole (fCons (fVar 12) fNil)))) fNil))))
      g_law_0b4t0 gNx)
noncomputable def g_law_0b5b0 : Gn := (gAsg (fVar 5) (hName 11))
noncomputable def g_law_0b5b1t0 : Gn := (gAsg (f2 gAdd (fVar 10) (f2 (gIc (fun _ j => 0 < j) fun i j => i % j) (f2 (gI fun i j => i - j) (fVar 5) (fVar 10)) (f2 (gI fun i j => i - j) (fBi gLen (fCons (fVar 9) fNil)) (fVar 10)))) (hName 11))
noncomputable def g_law_0b5b1 : Gn := (gIf (fB (f2 (gIb fun i j => decide (j ≤ i)) (fVar 5) (fVar 10)))
      g_law_0b5b1t0 gNx)
noncomputable def g_law_0b5b2t0 : Gn := (gRet (fC (.bool false)))
noncomputable def g_law_0b5b2 : Gn := (gIf (fB (f2 (gEq true) (fCall phi_often (fCons (fVar 3) (fCons (fVar 5) fNil))) (f2 gIx (fVar 9) (fVar 11))))
      g_law_0b5b2t0 gNx)
noncomputable def g_law_0b5b : Gn := (gBlk g_law_0b5b0 (gBlk g_law_0b5b1 g_law_0b5b2))
noncomputable def g_law_0b5 : Gn := (gFor (iSq (fFr (fList (fCons (fC (.int 0)) (fCons (fC (.int 1)) (fCons (f2 (gIc (fun _ j => 0 < j) fun i j => i % j) (fVar 1) (fC (.int 7))) (fCons (f2 (gIc (fun _ j => 0 < j) fun i j => i % j) (fVar 1) (f2 (gIc CPow fun i j => i ^ j.toNat) (fC (.int 10)) (fC (.int 20)))) fNil))))))) (hName 5)
      g_law_0b5b)
noncomputable def g_law_0b6 : Gn := (gAsg (f2 (gIc (fun _ j => 0 < j) fun i j => i % j) (fVar 1) (f2 (gIc CPow fun i j => i ^ j.toNat) (fC (.int 10)) (fC (.int 9)))) (hName 6))
noncomputable def g_law_0b7 : Gn := (gAsg (f2 (gIc (fun _ j => 0 < j) fun i j => i % j) (f2 (gIc CDiv fun i j => i / j) (fVar 1) (fC (.int 7))) (f2 (gIc CPow fun i j => i ^ j.toNat) (fC (.int 10)) (fC (.int 12)))) (hName 7))
noncomputable def g_law_0b8t0 : Gn := (gRet (fC (.bool false)))
noncomputable def g_law_0b8 : Gn := (gIf (fB (f2 (gEq true) (fCall phi_then (fCons (fCall phi_often (fCons (fVar 3) (fCons (fVar 6) fNil))) (fCons (fCall phi_often (fCons (fVar 3) (fCons (fVar 7) fNil))) fNil))) (fCall phi_often (fCons (fVar 3) (fCons (f2 gAdd (fVar 6) (fVar 7)) fNil)))))
      g_law_0b8t0 gNx)
noncomputable def g_law_0b9b0t0 : Gn := (gRet (fC (.bool false)))
noncomputable def g_law_0b9b0 : Gn := (gIf (bOr (fB (f2 (gEq true) (fCall phi_ring (fCons (fVar 3) (fCons (fVar 8) fNil))) (f2 gIx (fCall phi__law_ring (fCons (fVar 3) (fCons (fVar 8) fNil))) (fC (.int 0))))) (fB (f2 (gEq true) (fCall phi_tail (fCons (fVar 3) (fCons (fVar 8) fNil))) (f2 gIx (fCall phi__law_ring (fCons (fVar 3) (fCons (fVar 8) fNil))) (fC (.int 1))))))
      g_law_0b9b0t0 gNx)
noncomputable def g_law_0b9 : Gn := (gFor (iR1 (f2 gIx (fVar 3) (fC (.int 0)))) (hName 8)
      g_law_0b9b0)
noncomputable def g_law_0b : Gn := (gBlk g_law_0b0 (gBlk g_law_0b1 (gBlk g_law_0b2 (gBlk g_law_0b3 (gBlk g_law_0b4 (gBlk g_law_0b5 (gBlk g_law_0b6 (gBlk g_law_0b7 (gBlk g_law_0b8 g_law_0b9)))))))))
noncomputable def g_law_0 : Gn := (gFor (iSq (fSl (fVar 0) pNone (pSome (fC (.int 4))))) (hName 1)
      g_law_0b)
noncomputable def g_law_1b0t0 : Gn := (gRet (fC (.bool false)))
noncomputable def g_law_1b0 : Gn := (gIf (bNot (fTru (fBi gAll (fCons (fFr (fLc [13] (iR1 (fC (.int 4))) (hName 13) cYes (fCall phi__law_refused (fCons (fVar 13) (fCons (fVar 2) fNil))))) fNil))))
      g_law_1b0t0 gNx)
noncomputable def g_law_1 : Gn := (gFor (iSq (fFr (fList (fCons (fTup (fCons (fC (.int 0)) (fCons (fTup fNil) fNil))) (fCons (fTup (fCons (fC (.int 2)) (fCons (fTup (fCons (fC (.int 0)) fNil)) fNil))) (fCons (fTup (fCons (fC (.int 1)) (fCons (fTup (fCons (fC (.int 0)) (fCons (fC (.int 0)) fNil))) fNil))) fNil)))))) (hName 2)
      g_law_1b0)
noncomputable def g_law_2 : Gn := (gRet (fC (.bool true)))
noncomputable def g_law : Gn := (gBlk g_law_0 (gBlk g_law_1 g_law_2))
noncomputable def phi_law := defN 1 14 g_law
structure Cs where
  a : Nat → Addr
  d : Nat → FuncData
  c : Nat → Addr
structure Txt (K : PySem.W.Frag) (mg : Str → Option Value) (A : Cs) : Prop where
  F0 : Fun K "must" "must" s_must (A.a 0) (A.d 0)
  g0 : mg "must" = some (.ref (A.a 0))
  b0 : Binds K (A.d 0) ["fits"] []
  F1 : Fun K "then" "then" s_then (A.a 1) (A.d 1)
  g1 : mg "then" = some (.ref (A.a 1))
  b1 : Binds K (A.d 1) ["one", "other"] []
  F2 : Fun K "same" "same" s_same (A.a 2) (A.d 2)
  g2 : mg "same" = some (.ref (A.a 2))
  b2 : Binds K (A.d 2) ["many"] []
  F3 : Fun K "must_be_inner" "must_be_inner" s_must_be_inner (A.a 3) (A.d 3)
  g3 : mg "must_be_inner" = some (.ref (A.a 3))
  b3 : Binds K (A.d 3) ["one"] []
  F4 : Fun K "often" "often" s_often (A.a 4) (A.d 4)
  g4 : mg "often" = some (.ref (A.a 4))
  b4 : Binds K (A.d 4) ["one", "times"] []
  F5 : Fun K "walk" "walk" s_walk (A.a 5) (A.d 5)
  g5 : mg "walk" = some (.ref (A.a 5))
  b5 : Binds K (A.d 5) ["one", "k"] []
  F6 : Fun K "ring" "ring" s_ring (A.a 6) (A.d 6)
  g6 : mg "ring" = some (.ref (A.a 6))
  b6 : Binds K (A.d 6) ["one", "k"] []
  F7 : Fun K "tail" "tail" s_tail (A.a 7) (A.d 7)
  g7 : mg "tail" = some (.ref (A.a 7))
  b7 : Binds K (A.d 7) ["one", "k"] []
  F8 : Fun K "common" "common" s_common (A.a 8) (A.d 8)
  g8 : mg "common" = some (.ref (A.a 8))
  b8 : Binds K (A.d 8) ["a", "b"] []
  F9 : Fun K "beat" "beat" s_beat (A.a 9) (A.d 9)
  g9 : mg "beat" = some (.ref (A.a 9))
  b9 : Binds K (A.d 9) ["one"] []
  F11 : Fun K "_law_mix" "_law_mix" s__law_mix (A.a 11) (A.d 11)
  g11 : mg "_law_mix" = some (.ref (A.a 11))
  b11 : Binds K (A.d 11) ["_law_cell_here", "_law_prime", "_law_many"] []
  F12 : Fun K "_law_map" "_law_map" s__law_map (A.a 12) (A.d 12)
  g12 : mg "_law_map" = some (.ref (A.a 12))
  b12 : Binds K (A.d 12) ["_law_cell_here", "_law_many", "_law_to"] []
  F14 : Fun K "_law_whole" "_law_whole" s__law_whole (A.a 14) (A.d 14)
  g14 : mg "_law_whole" = some (.ref (A.a 14))
  b14 : Binds K (A.d 14) ["_law_found"] []
  F15 : Fun K "_law_then" "_law_then" s__law_then (A.a 15) (A.d 15)
  g15 : mg "_law_then" = some (.ref (A.a 15))
  b15 : Binds K (A.d 15) ["_law_one", "_law_other"] []
  F16 : Fun K "_law_self" "_law_self" s__law_self (A.a 16) (A.d 16)
  g16 : mg "_law_self" = some (.ref (A.a 16))
  b16 : Binds K (A.d 16) ["_law_cell_here", "_law_most"] []
  F17 : Fun K "_law_refused" "_law_refused" s__law_refused (A.a 17) (A.d 17)
  g17 : mg "_law_refused" = some (.ref (A.a 17))
  b17 : Binds K (A.d 17) ["_law_way", "_law_one"] []
  F18 : Fun K "_law_rows" "_law_rows" s__law_rows (A.a 18) (A.d 18)
  g18 : mg "_law_rows" = some (.ref (A.a 18))
  b18 : Binds K (A.d 18) ["_law_one"] []
  F19 : Fun K "_law_ring" "_law_ring" s__law_ring (A.a 19) (A.d 19)
  g19 : mg "_law_ring" = some (.ref (A.a 19))
  b19 : Binds K (A.d 19) ["_law_one", "_law_k"] []
  F20 : Fun K "law" "law" s_law (A.a 20) (A.d 20)
  g20 : mg "law" = some (.ref (A.a 20))
  b20 : Binds K (A.d 20) ["_law_script"] []
  m_all : mg "all" = none
  m_bool : mg "bool" = none
  m_int : mg "int" = none
  m_isinstance : mg "isinstance" = none
  m_len : mg "len" = none
  m_list : mg "list" = none
  m_max : mg "max" = none
  m_min : mg "min" = none
  m_range : mg "range" = none
  m_reversed : mg "reversed" = none
  m_tuple : mg "tuple" = none
  gC0 : mg "MapError" = some (.ref (A.c 0))
  x0 : PySem.W.excIn K (A.c 0) [.type "ValueError", .type "Exception", .type "BaseException", .type "object"] "ValueError.__new__" = true
  kC0 : PySem.W.keepIn K (.ref (A.c 0)) = true
  bC0 : PySem.W.subIn K (.ref (A.c 0)) (.type "BaseException") = some true
  tC0 : PySem.W.typeIn K (.ref (A.c 0)) = some (.type "type")
  gC2 : mg "NoFit" = some (.ref (A.c 2))
  x2 : PySem.W.excIn K (A.c 2) [.type "ValueError", .type "Exception", .type "BaseException", .type "object"] "ValueError.__new__" = true
  kC2 : PySem.W.keepIn K (.ref (A.c 2)) = true
  bC2 : PySem.W.subIn K (.ref (A.c 2)) (.type "BaseException") = some true
  tC2 : PySem.W.typeIn K (.ref (A.c 2)) = some (.type "type")
  exm22 : PySem.W.exmOne K (.ref (A.c 2)) (.ref (A.c 2)) = some true
section
variable {P : Program} {w : World} {K : PySem.W.Frag} {mg : Str → Option Value} {base : Heap} {A : Cs}
theorem ok_must (T : Txt K mg A) : FnOk P w K mg base (L2.CX P w) 1 (A.a 0) (A.d 0) ["fits"] (spX K 1 A.c phi_must) := by
  exact ok_def [] T.F0 sc_must rfl (fun cdv Ar outer s H E hr hp tk => ⟨_, (ss_one (sd_if (td_not (td_truth (ed_var 0)))
      (ss_one (sd_raise 2 T.x2 T.gC2 T.kC2 (raises_own T.bC2 T.tC2) tk)) ss_nil))⟩)
theorem ok_then (T : Txt K mg A) : FnOk P w K mg base (L2.CX P w) 2 (A.a 1) (A.d 1) ["one", "other"] (spX K 2 A.c phi_then) := by
  exact ok_def [] T.F1 sc_then rfl (fun cdv Ar outer s H E hr hp tk => ⟨_, (ss_cons (sd_exprQ (qd_call (ok_must T) (hr.mono (by decide)) T.g0 T.F0.kp T.b0 defN_len tk (ad_cons (ed_cmp (od_eq hr) (ed_ix (ed_var 0) ed_int) (ed_bi bd_len T.m_len PySem.boot_len (ad_cons (ed_ix (ed_var 1) ed_int) ad_nil))) ad_nil)))
    (ss_one (sd_ret (ed_tup (ad_cons (ed_ix (ed_var 1) ed_int) (ad_cons (ed_ty bd_tuple T.m_tuple PyProof.Rows.boot_tuple (ad_cons (ed_fr (fd_lc [(("number" : Str), 2)] nd_then (id_seq (ed_ix (ed_var 0) ed_int)) (blkOk_by (N := N_then) (sc := (defScope s_then)) (by decide +kernel)) (fun _ _ _ _ _ => (gd_name 2 nd_then)) (fun _ _ _ _ _ => ctd_nil) (fun _ _ _ _ _ => (ed_ix (ed_ix (ed_var 1) ed_int) (ed_var 2))))) ad_nil)) ad_nil))))))⟩)
theorem ok_same (T : Txt K mg A) : FnOk P w K mg base (L2.CX P w) 1 (A.a 2) (A.d 2) ["many"] (spX K 1 A.c phi_same) := by
  exact ok_def [] T.F2 sc_same rfl (fun cdv Ar outer s H E hr hp tk => ⟨_, (ss_one (sd_ret (ed_tup (ad_cons (ed_var 0) (ad_cons (ed_tupRg (ed_var 0) T.m_range T.m_tuple) ad_nil)))))⟩)
theorem ok_must_be_inner (T : Txt K mg A) : FnOk P w K mg base (L2.CX P w) 2 (A.a 3) (A.d 3) ["one"] (spX K 1 A.c phi_must_be_inner) := by
  exact ok_def [] T.F3 sc_must_be_inner rfl (fun cdv Ar outer s H E hr hp tk => ⟨_, (ss_one (sd_exprQ (qd_call (ok_must T) (hr.mono (by decide)) T.g0 T.F0.kp T.b0 defN_len tk (ad_cons (ed_and (ed_cmp (od_eq hr) (ed_ix (ed_var 0) ed_int) (ed_bi bd_len T.m_len PySem.boot_len (ad_cons (ed_ix (ed_var 0) ed_int) ad_nil))) (ed_one (ed_cmp od_gt (ed_ix (ed_var 0) ed_int) ed_int))) ad_nil))))⟩)
theorem ok_often (T : Txt K mg A) : FnOk P w K mg base (L2.CX P w) 3 (A.a 4) (A.d 4) ["one", "times"] (spX K 2 A.c phi_often) := by
  exact ok_def [] T.F4 sc_often rfl (fun cdv Ar outer s H E hr hp tk => ⟨_, (ss_cons (sd_exprQ (qd_call (ok_must_be_inner T) (hr.mono (by decide)) T.g3 T.F3.kp T.b3 defN_len tk (ad_cons (ed_var 0) ad_nil)))
    (ss_cons (sd_set 2 nd_often (ed_call (ok_same T) (hr.mono (by decide)) T.g2 T.F2.kp T.b2 defN_len (ad_cons (ed_ix (ed_var 0) ed_int) ad_nil)))
    (ss_cons (sd_for hp (id_revR (ed_bits (ed_var 1)) T.m_range T.m_reversed) (gd_name 3 nd_often)
      (ss_cons (sd_setQ 2 nd_often (qd_call (ok_then T) (hr.mono (by decide)) T.g1 T.F1.kp T.b1 defN_len tk (ad_cons (ed_var 2) (ad_cons (ed_var 2) ad_nil))))
    (ss_one (sd_if (td_cmp (od_eq hr) (ed_op od_and (ed_op od_shr (ed_var 1) (ed_var 3)) ed_int) ed_int)
      (ss_one (sd_setQ 2 nd_often (qd_call (ok_then T) (hr.mono (by decide)) T.g1 T.F1.kp T.b1 defN_len tk (ad_cons (ed_var 2) (ad_cons (ed_var 0) ad_nil))))) ss_nil))))
    (ss_one (sd_ret (ed_var 2))))))⟩)
theorem ok_walk (T : Txt K mg A) : FnOk P w K mg base (L2.CX P w) 1 (A.a 5) (A.d 5) ["one", "k"] (spX K 2 A.c phi_walk) := by
  exact ok_def [2] T.F5 sc_walk rfl (fun cdv Ar outer s H E hr hp tk => ⟨_, (ss_cons (sd_own 2 nd_walk (fd_lst ad_nil))
    (ss_cons (sd_while 1000000 hp (td_cmp (od_notIn hr) (ed_var 1) (ed_var 2)) (ss_cons (sd_append 2 (ed_var 1))
    (ss_one (sd_set 1 nd_walk (ed_ix (ed_ix (ed_var 0) ed_int) (ed_var 1))))))
    (ss_one (sd_ret (ed_tup (ad_cons (ed_var 2) (ad_cons (ed_var 1) ad_nil)))))))⟩)
theorem ok_ring (T : Txt K mg A) : FnOk P w K mg base (L2.CX P w) 3 (A.a 6) (A.d 6) ["one", "k"] (spX K 2 A.c phi_ring) := by
  exact ok_def [] T.F6 sc_ring rfl (fun cdv Ar outer s H E hr hp tk => ⟨_, (ss_cons (sd_exprQ (qd_call (ok_must_be_inner T) (hr.mono (by decide)) T.g3 T.F3.kp T.b3 defN_len tk (ad_cons (ed_var 0) ad_nil)))
    (ss_cons (sd_tgt (ed_call (ok_walk T) (hr.mono (by decide)) T.g5 T.F5.kp T.b5 defN_len (ad_cons (ed_var 0) (ad_cons (ed_var 1) ad_nil))) (gd_seq (gsd_cons (gd_name 4 nd_ring) (gsd_cons (gd_name 5 nd_ring) gsd_nil))))
    (ss_cons (sd_set 2 nd_ring (ed_sl (ed_var 4) (pd_some (ed_index (ed_var 4) (ed_var 5))) pd_none))
    (ss_cons (sd_set 3 nd_ring (ed_index (ed_var 2) (ed_bi bd_minL T.m_min PyProof.Rows.boot_min (ad_cons (ed_var 2) ad_nil))))
    (ss_one (sd_ret (ed_ty bd_tuple T.m_tuple PyProof.Rows.boot_tuple (ad_cons (ed_op od_add (ed_sl (ed_var 2) (pd_some (ed_var 3)) pd_none) (ed_sl (ed_var 2) pd_none (pd_some (ed_var 3)))) ad_nil))))))))⟩)
theorem ok_tail (T : Txt K mg A) : FnOk P w K mg base (L2.CX P w) 3 (A.a 7) (A.d 7) ["one", "k"] (spX K 2 A.c phi_tail) := by
  exact ok_def [] T.F7 sc_tail rfl (fun cdv Ar outer s H E hr hp tk => ⟨_, (ss_cons (sd_exprQ (qd_call (ok_must_be_inner T) (hr.mono (by decide)) T.g3 T.F3.kp T.b3 defN_len tk (ad_cons (ed_var 0) ad_nil)))
    (ss_cons (sd_tgt (ed_call (ok_walk T) (hr.mono (by decide)) T.g5 T.F5.kp T.b5 defN_len (ad_cons (ed_var 0) (ad_cons (ed_var 1) ad_nil))) (gd_seq (gsd_cons (gd_name 2 nd_tail) (gsd_cons (gd_name 3 nd_tail) gsd_nil))))
    (ss_one (sd_ret (ed_index (ed_var 2) (ed_var 3))))))⟩)
theorem ok_common (T : Txt K mg A) : FnOk P w K mg base (L2.CX P w) 1 (A.a 8) (A.d 8) ["a", "b"] (spX K 2 A.c phi_common) := by
  exact ok_def [] T.F8 sc_common rfl (fun cdv Ar outer s H E hr hp tk => ⟨_, (ss_cons (sd_while 1000000 hp (td_cmp (od_ne hr) (ed_var 1) ed_int) (ss_one (sd_par 0 1 nd_common (ed_var 1) (ed_op od_mod (ed_var 0) (ed_var 1)))))
    (ss_one (sd_ret (ed_var 0))))⟩)
theorem ok_beat (T : Txt K mg A) : FnOk P w K mg base (L2.CX P w) 4 (A.a 9) (A.d 9) ["one"] (spX K 1 A.c phi_beat) := by
  exact ok_def [] T.F9 sc_beat rfl (fun cdv Ar outer s H E hr hp tk => ⟨_, (ss_cons (sd_exprQ (qd_call (ok_must_be_inner T) (hr.mono (by decide)) T.g3 T.F3.kp T.b3 defN_len tk (ad_cons (ed_var 0) ad_nil)))
    (ss_cons (sd_set 1 nd_beat (ed_bi bd_maxL T.m_max PyProof.Rows.boot_max (ad_cons (ed_fr (fd_lc [(("k" : Str), 3)] nd_beat (id_range1 (ed_ix (ed_var 0) ed_int) T.m_range) (blkOk_by (N := N_beat) (sc := (defScope s_beat)) (by decide +kernel)) (fun _ _ _ _ _ => (gd_name 3 nd_beat)) (fun _ _ _ _ _ => ctd_nil) (fun _ _ _ _ _ => (ed_call (ok_tail T) (hr.mono (by decide)) T.g7 T.F7.kp T.b7 defN_len (ad_cons (ed_var 0) (ad_cons (ed_var 3) ad_nil)))))) ad_nil)))
    (ss_cons (sd_set 2 nd_beat ed_int)
    (ss_cons (sd_for hp (id_range1 (ed_ix (ed_var 0) ed_int) T.m_range) (gd_name 3 nd_beat)
      (ss_cons (sd_set 4 nd_beat (ed_bi bd_len T.m_len PySem.boot_len (ad_cons (ed_call (ok_ring T) (hr.mono (by decide)) T.g6 T.F6.kp T.b6 defN_len (ad_cons (ed_var 0) (ad_cons (ed_var 3) ad_nil))) ad_nil)))
    (ss_one (sd_set 2 nd_beat (ed_op od_fdiv (ed_op od_mulD (ed_var 2) (ed_var 4)) (ed_call (ok_common T) (hr.mono (by decide)) T.g8 T.F8.kp T.b8 defN_len (ad_cons (ed_var 2) (ad_cons (ed_var 4) ad_nil))))))))
    (ss_one (sd_ret (ed_tup (ad_cons (ed_var 1) (ad_cons (ed_var 2) ad_nil)))))))))⟩)
theorem ok__law_mix (T : Txt K mg A) : FnOk P w K mg base (L2.CX P w) 1 (A.a 11) (A.d 11) ["_law_cell_here", "_law_prime", "_law_many"] (spX K 3 A.c phi__law_mix) := by
  exact ok_def [] T.F11 sc__law_mix rfl (fun cdv Ar outer s H E hr hp tk => ⟨_, (ss_one (sd_ret (ed_op od_mod (ed_op od_mod (ed_op od_mulD (ed_var 0) ed_int) (ed_var 1)) (ed_var 2))))⟩)
theorem ok__law_map (T : Txt K mg A) : FnOk P w K mg base (L2.CX P w) 2 (A.a 12) (A.d 12) ["_law_cell_here", "_law_many", "_law_to"] (spX K 3 A.c phi__law_map) := by
  exact ok_def [4] T.F12 sc__law_map rfl (fun cdv Ar outer s H E hr hp tk => ⟨_, (ss_cons (sd_set 3 nd__law_map (ed_fr (fd_lst ad_nil)))
    (ss_cons (sd_if (td_cmp od_gt (ed_var 2) ed_int)
      (ss_one (sd_setLc 3 [(("_law_k" : Str), 5)] nd__law_map (id_range1 (ed_var 1) T.m_range) (blkOk_by (N := N__law_map) (sc := (defScope s__law_map)) (by decide +kernel)) (fun _ _ _ _ _ => (gd_name 5 nd__law_map)) (fun _ _ _ _ _ => ctd_nil) (fun _ _ _ _ _ => (ed_call (ok__law_mix T) (hr.mono (by decide)) T.g11 T.F11.kp T.b11 defN_len (ad_cons (ed_op od_add (ed_var 0) (ed_op od_mulD ed_int (ed_var 5))) (ad_cons ed_int (ad_cons (ed_var 2) ad_nil))))) (sw_true rfl rfl rfl (by decide +kernel)))) ss_nil)
    (ss_cons (sd_if (td_w (wd_and (td_cmp (od_eq hr) (ed_op od_mod (ed_var 0) ed_int) ed_int) (wd_and1 (td_chain od_lt od_le ed_int (ed_var 2) (ed_var 1)))))
      (ss_cons (sd_setLc 3 [(("_law_k" : Str), 5)] nd__law_map (id_range1 (ed_var 1) T.m_range) (blkOk_by (N := N__law_map) (sc := (defScope s__law_map)) (by decide +kernel)) (fun _ _ _ _ _ => (gd_name 5 nd__law_map)) (fun _ _ _ _ _ => ctd_nil) (fun _ _ _ _ _ => (ed_op od_mod (ed_var 5) (ed_var 2))) (sw_true rfl rfl rfl (by decide +kernel)))
    (ss_one (sd_set 3 nd__law_map (ed_op od_add (ed_sl (ed_var 3) (pd_some (ed_op od_mod (ed_op od_fdiv (ed_var 0) ed_int) (ed_var 1))) pd_none) (ed_sl (ed_var 3) pd_none (pd_some (ed_op od_mod (ed_op od_fdiv (ed_var 0) ed_int) (ed_var 1)))))))) ss_nil)
    (ss_cons (sd_if (td_w (wd_and (td_cmp (od_eq hr) (ed_op od_mod (ed_var 0) ed_int) ed_int) (wd_and1 (td_chain od_lt od_le ed_int (ed_var 1) (ed_var 2)))))
      (ss_cons (sd_own 4 nd__law_map (fd_listRg (ed_var 2) T.m_range T.m_list))
    (ss_one (sd_setPop 3 4 [(("_law_k" : Str), 5)] nd__law_map (id_range1 (ed_var 1) T.m_range) (blkOk_by (N := N__law_map) (sc := (defScope s__law_map)) (by decide +kernel)) (fun _ _ _ _ _ => (gd_name 5 nd__law_map)) (fun _ _ _ _ _ => (pv 4)) (fun _ _ _ _ _ => (ed_call (ok__law_mix T) (hr.mono (by decide)) T.g11 T.F11.kp T.b11 defN_len (ad_cons (ed_op od_add (ed_var 0) (ed_op od_mulD ed_int (ed_var 5))) (ad_cons ed_int (ad_cons (ed_op od_sub (ed_var 2) (ed_var 5)) ad_nil))))) (sw_true rfl rfl rfl (by decide +kernel))))) ss_nil)
    (ss_one (sd_ret (ed_tup (ad_cons (ed_var 2) (ad_cons (ed_ty bd_tuple T.m_tuple PyProof.Rows.boot_tuple (ad_cons (ed_var 3) ad_nil)) ad_nil)))))))))⟩)
theorem ok__law_whole (T : Txt K mg A) : FnOk P w K mg base (L2.CX P w) 1 (A.a 14) (A.d 14) ["_law_found"] (spX K 1 A.c phi__law_whole) := by
  exact ok_def [] T.F14 sc__law_whole rfl (fun cdv Ar outer s H E hr hp tk => ⟨_, (ss_one (sd_ret (ed_and (ed_isi (T := "int") (ed_var 0) T.m_isinstance T.m_int PyProof.Rows.boot_int) (ed_one (ed_not (ed_isi (T := "bool") (ed_var 0) T.m_isinstance T.m_bool PyProof.Rows.boot_bool))))))⟩)
theorem ok__law_then (T : Txt K mg A) : FnOk P w K mg base (L2.CX P w) 1 (A.a 15) (A.d 15) ["_law_one", "_law_other"] (spX K 2 A.c phi__law_then) := by
  exact ok_def [] T.F15 sc__law_then rfl (fun cdv Ar outer s H E hr hp tk => ⟨_, (ss_one (sd_ret (ed_tup (ad_cons (ed_ix (ed_var 1) ed_int) (ad_cons (ed_ty bd_tuple T.m_tuple PyProof.Rows.boot_tuple (ad_cons (ed_fr (fd_lc [(("_law_number" : Str), 2)] nd__law_then (id_seq (ed_ix (ed_var 0) ed_int)) (blkOk_by (N := N__law_then) (sc := (defScope s__law_then)) (by decide +kernel)) (fun _ _ _ _ _ => (gd_name 2 nd__law_then)) (fun _ _ _ _ _ => ctd_nil) (fun _ _ _ _ _ => (ed_ix (ed_ix (ed_var 1) ed_int) (ed_var 2))))) ad_nil)) ad_nil)))))⟩)
theorem ok__law_self (T : Txt K mg A) : FnOk P w K mg base (L2.CX P w) 3 (A.a 16) (A.d 16) ["_law_cell_here", "_law_most"] (spX K 2 A.c phi__law_self) := by
  exact ok_def [] T.F16 sc__law_self rfl (fun cdv Ar outer s H E hr hp tk => ⟨_, (ss_cons (sd_set 2 nd__law_self (ed_op od_add ed_int (ed_call (ok__law_mix T) (hr.mono (by decide)) T.g11 T.F11.kp T.b11 defN_len (ad_cons (ed_var 0) (ad_cons ed_int (ad_cons (ed_var 1) ad_nil))))))
    (ss_one (sd_ret (ed_call (ok__law_map T) (hr.mono (by decide)) T.g12 T.F12.kp T.b12 defN_len (ad_cons (ed_var 0) (ad_cons (ed_var 2) (ad_cons (ed_var 2) ad_nil)))))))⟩)
theorem ok__law_refused (T : Txt K mg A) : FnOk P w K mg base (L2.CX P w) 5 (A.a 17) (A.d 17) ["_law_way", "_law_one"] (spX K 2 A.c phi__law_refused) := by
  exact ok_def [] T.F17 sc__law_refused rfl (fun cdv Ar outer s H E hr hp tk => ⟨_, (ss_cons (sd_set 2 nd__law_refused ed_bl)
    (ss_cons (sd_tryOnly 2 ⟨rfl, by decide, .inl T.gC2⟩ tk T.exm22 (fun W pn xe tk => (ss_one (sd_if (td_cmp (od_eq hr) (ed_var 0) ed_int)
      (ss_one (sd_exprQ (qd_call (ok_often T) (hr.mono (by decide)) T.g4 T.F4.kp T.b4 defN_len tk (ad_cons (ed_var 1) (ad_cons ed_int ad_nil))))) (ss_one (sd_if (td_cmp (od_eq hr) (ed_var 0) ed_int)
      (ss_one (sd_exprQ (qd_call (ok_ring T) (hr.mono (by decide)) T.g6 T.F6.kp T.b6 defN_len tk (ad_cons (ed_var 1) (ad_cons ed_int ad_nil))))) (ss_one (sd_if (td_cmp (od_eq hr) (ed_var 0) ed_int)
      (ss_one (sd_exprQ (qd_call (ok_tail T) (hr.mono (by decide)) T.g7 T.F7.kp T.b7 defN_len tk (ad_cons (ed_var 1) (ad_cons ed_int ad_nil))))) (ss_one (sd_exprQ (qd_call (ok_beat T) (hr.mono (by decide)) T.g9 T.F9.kp T.b9 defN_len tk (ad_cons (ed_var 1) ad_nil))))))))))) (fun a oe pn => (ss_one (sd_set 2 nd__law_refused ed_bl))))
    (ss_one (sd_ret (ed_var 2)))))⟩)
theorem ok__law_rows (T : Txt K mg A) : FnOk P w K mg base (L2.CX P w) 2 (A.a 18) (A.d 18) ["_law_one"] (spX K 1 A.c phi__law_rows) := by
  exact ok_def [1] T.F18 sc__law_rows rfl (fun cdv Ar outer s H E hr hp tk => ⟨_, (ss_cons (sd_own 1 nd__law_rows (fd_lst (ad_cons (ed_tup (ad_cons (ed_ix (ed_var 0) ed_int) (ad_cons (ed_ty bd_tuple T.m_tuple PyProof.Rows.boot_tuple (ad_cons (ed_fr (fd_lc [(("_law_k" : Str), 3)] nd__law_rows (id_range1 (ed_ix (ed_var 0) ed_int) T.m_range) (blkOk_by (N := N__law_rows) (sc := (defScope s__law_rows)) (by decide +kernel)) (fun _ _ _ _ _ => (gd_name 3 nd__law_rows)) (fun _ _ _ _ _ => ctd_nil) (fun _ _ _ _ _ => (ed_var 3)))) ad_nil)) ad_nil))) ad_nil)))
    (ss_one (sd_while 1000000 hp (td_truth ed_bl) (ss_cons (sd_set 2 nd__law_rows (ed_call (ok__law_then T) (hr.mono (by decide)) T.g15 T.F15.kp T.b15 defN_len (ad_cons (ed_ownIx 1 (un_neg' ed_int)) (ad_cons (ed_var 0) ad_nil))))
    (ss_cons (sd_if (td_cmp (od_in hr) (ed_var 2) (ed_var 1))
      (ss_one (sd_ret (ed_tup (ad_cons (ed_var 1) (ad_cons (ed_indexD hr (ed_var 1) (ed_var 2)) ad_nil))))) ss_nil)
    (ss_one (sd_append 1 (ed_var 2))))))))⟩)
theorem ok__law_ring (T : Txt K mg A) : FnOk P w K mg base (L2.CX P w) 1 (A.a 19) (A.d 19) ["_law_one", "_law_k"] (spX K 2 A.c phi__law_ring) := by
  exact ok_def [2] T.F19 sc__law_ring rfl (fun cdv Ar outer s H E hr hp tk => ⟨_, (ss_cons (sd_own 2 nd__law_ring (fd_lst (ad_cons (ed_var 1) ad_nil)))
    (ss_cons (sd_while 1000000 hp (td_cmp (od_notIn hr) (ed_ix (ed_ix (ed_var 0) ed_int) (ed_ix (ed_var 2) (un_neg' ed_int))) (ed_var 2)) (ss_one (sd_append 2 (ed_ix (ed_ix (ed_var 0) ed_int) (ed_ownIx 2 (un_neg' ed_int))))))
    (ss_rets (ss_cons (sd_set 3 nd__law_ring (ed_index (ed_var 2) (ed_ix (ed_ix (ed_var 0) ed_int) (ed_ix (ed_var 2) (un_neg' ed_int)))))
    (ss_cons (sd_set 4 nd__law_ring (ed_sl (ed_var 2) (pd_some (ed_var 3)) pd_none))
    (ss_cons (sd_set 5 nd__law_ring (ed_index (ed_var 4) (ed_bi bd_minL T.m_min PyProof.Rows.boot_min (ad_cons (ed_var 4) ad_nil))))
    (ss_one (sd_ret (ed_tup (ad_cons (ed_ty bd_tuple T.m_tuple PyProof.Rows.boot_tuple (ad_cons (ed_op od_add (ed_sl (ed_var 4) (pd_some (ed_var 5)) pd_none) (ed_sl (ed_var 4) pd_none (pd_some (ed_var 5)))) ad_nil)) (ad_cons (ed_var 3) ad_nil)))))))))))⟩)
theorem ok_law (T : Txt K mg A) : FnOk P w K mg base (L2.CX P w) 6 (A.a 20) (A.d 20) ["_law_script"] (spX K 1 A.c phi_law) := by
  exact ok_def [] T.F20 sc_law rfl (fun cdv Ar outer s H E hr hp tk => ⟨_, (ss_cons (sd_for hp (id_seq (ed_sl (ed_var 0) pd_none (pd_some ed_int))) (gd_name 1 nd_law)
      (ss_cons (sd_set 3 nd_law (ed_call (ok__law_self T) (hr.mono (by decide)) T.g16 T.F16.kp T.b16 defN_len (ad_cons (ed_var 1) (ad_cons ed_int ad_nil))))
    (ss_cons (sd_tgt (ed_call (ok__law_rows T) (hr.mono (by decide)) T.g18 T.F18.kp T.b18 defN_len (ad_cons (ed_var 3) ad_nil)) (gd_seq (gsd_cons (gd_name 9 nd_law) (gsd_cons (gd_name 10 nd_law) gsd_nil))))
    (ss_cons (sd_setQ 4 nd_law (qd_call (ok_beat T) (hr.mono (by decide)) T.g9 T.F9.kp T.b9 defN_len tk (ad_cons (ed_var 3) ad_nil)))
    (ss_cons (sd_if (td_w (wd_or (td_not (td_truth (ed_isi (T := "tuple") (ed_var 4) T.m_isinstance T.m_tuple PyProof.Rows.boot_tuple))) (wd_or1 (td_cmp (od_ne hr) (ed_var 4) (ed_tup (ad_cons (ed_var 10) (ad_cons (ed_op od_sub (ed_bi bd_len T.m_len PySem.boot_len (ad_cons (ed_var 9) ad_nil)) (ed_var 10)) ad_nil)))))))
      (ss_one (sd_ret ed_bl)) ss_nil)
    (ss_cons (sd_if (td_not (td_truth (ed_bi bd_all T.m_all PyProof.Rows.boot_all (ad_cons (ed_fr (fd_lc [(("_law_told" : Str), 12)] nd_law (id_seq (ed_var 4)) (blkOk_by (N := N_law) (sc := (defScope s_law)) (by decide +kernel)) (fun _ _ _ _ _ => (gd_name 12 nd_law)) (fun _ _ _ _ _ => ctd_nil) (fun _ _ _ _ _ => (ed_call (ok__law_whole T) (hr.mono (by decide)) T.g14 T.F14.kp T.b14 defN_len (ad_cons (ed_var 12) ad_nil))))) ad_nil))))
      (ss_one (sd_ret ed_bl)) ss_nil)
    (ss_cons (sd_for hp (id_seq (ed_fr (fd_lst (ad_cons ed_int (ad_cons ed_int (ad_cons (ed_op od_mod (ed_var 1) ed_int) (ad_cons (ed_op od_mod (ed_var 1) (ed_op od_pow ed_int ed_int)) ad_nil))))))) (gd_name 5 nd_law)
      (ss_cons (sd_set 11 nd_law (ed_var 5))
    (ss_cons (sd_if (td_cmp od_ge (ed_var 5) (ed_var 10))
      (ss_one (sd_set 11 nd_law (ed_op od_add (ed_var 10) (ed_op od_mod (ed_op od_sub (ed_var 5) (ed_var 10)) (ed_op od_sub (ed_bi bd_len T.m_len PySem.boot_len (ad_cons (ed_var 9) ad_nil)) (ed_var 10)))))) ss_nil)
    (ss_one (sd_if (td_cmp (od_ne hr) (ed_call (ok_often T) (hr.mono (by decide)) T.g4 T.F4.kp T.b4 defN_len (ad_cons (ed_var 3) (ad_cons (ed_var 5) ad_nil))) (ed_ix (ed_var 9) (ed_var 11)))
      (ss_one (sd_ret ed_bl)) ss_nil)))))
    (ss_cons (sd_set 6 nd_law (ed_op od_mod (ed_var 1) (ed_op od_pow ed_int ed_int)))
    (ss_cons (sd_set 7 nd_law (ed_op od_mod (ed_op od_fdiv (ed_var 1) ed_int) (ed_op od_pow ed_int ed_int)))
    (ss_cons (sd_if (td_cmp (od_ne hr) (ed_call (ok_then T) (hr.mono (by decide)) T.g1 T.F1.kp T.b1 defN_len (ad_cons (ed_call (ok_often T) (hr.mono (by decide)) T.g4 T.F4.kp T.b4 defN_len (ad_cons (ed_var 3) (ad_cons (ed_var 6) ad_nil))) (ad_cons (ed_call (ok_often T) (hr.mono (by decide)) T.g4 T.F4.kp T.b4 defN_len (ad_cons (ed_var 3) (ad_cons (ed_var 7) ad_nil))) ad_nil))) (ed_call (ok_often T) (hr.mono (by decide)) T.g4 T.F4.kp T.b4 defN_len (ad_cons (ed_var 3) (ad_cons (ed_op od_add (ed_var 6) (ed_var 7)) ad_nil))))
      (ss_one (sd_ret ed_bl)) ss_nil)
    (ss_one (sd_for hp (id_range1 (ed_ix (ed_var 3) ed_int) T.m_range) (gd_name 8 nd_law)
      (ss_one (sd_if (td_w (wd_or (td_cmp (od_ne hr) (ed_call (ok_ring T) (hr.mono (by decide)) T.g6 T.F6.kp T.b6 defN_len (ad_cons (ed_var 3) (ad_cons (ed_var 8) ad_nil))) (ed_ix (ed_call (ok__law_ring T) (hr.mono (by decide)) T.g19 T.F19.kp T.b19 defN_len (ad_cons (ed_var 3) (ad_cons (ed_var 8) ad_nil))) ed_int)) (wd_or1 (td_cmp (od_ne hr) (ed_call (ok_tail T) (hr.mono (by decide)) T.g7 T.F7.kp T.b7 defN_len (ad_cons (ed_var 3) (ad_cons (ed_var 8) ad_nil))) (ed_ix (ed_call (ok__law_ring T) (hr.mono (by decide)) T.g19 T.F19.kp T.b19 defN_len (ad_cons (ed_var 3) (ad_cons (ed_var 8) ad_nil))) ed_int)))))
      (ss_one (sd_ret ed_bl)) ss_nil))))))))))))))
    (ss_cons (sd_for hp (id_seq (ed_fr (fd_lst (ad_cons (ed_tup (ad_cons ed_int (ad_cons (ed_tup ad_nil) ad_nil))) (ad_cons (ed_tup (ad_cons ed_int (ad_cons (ed_tup (ad_cons ed_int ad_nil)) ad_nil))) (ad_cons (ed_tup (ad_cons ed_int (ad_cons (ed_tup (ad_cons ed_int (ad_cons ed_int ad_nil))) ad_nil))) ad_nil)))))) (gd_name 2 nd_law)
      (ss_one (sd_if (td_not (td_truth (ed_bi bd_all T.m_all PyProof.Rows.boot_all (ad_cons (ed_fr (fd_lc [(("_law_way" : Str), 13)] nd_law (id_range1 ed_int T.m_range) (blkOk_by (N := N_law) (sc := (defScope s_law)) (by decide +kernel)) (fun _ _ _ _ _ => (gd_name 13 nd_law)) (fun _ _ _ _ _ => ctd_nil) (fun _ _ _ _ _ => (ed_call (ok__law_refused T) (hr.mono (by decide)) T.g17 T.F17.kp T.b17 defN_len (ad_cons (ed_var 13) (ad_cons (ed_var 2) ad_nil)))))) ad_nil))))
      (ss_one (sd_ret ed_bl)) ss_nil)))
    (ss_one (sd_ret ed_bl))))⟩)
end
end Lw


namespace DL
/-! ### a row of things, each led on: where it comes back -/
def itr (f : Nat → Nat) : Nat → Nat → Nat
  | 0, k => k
  | i + 1, k => f (itr f i k)
theorem itr_add (f : Nat → Nat) (i : Nat) : ∀ j k, itr f (i + j) k = itr f j (itr f i k)
  | 0, _ => rfl
  | j + 1, k => by
    show f (itr f (i + j) k) = f (itr f j (itr f i k))
    rw [itr_add f i j k]
theorem itr_lt {f : Nat → Nat} {n k : Nat} (hf : ∀ x, x < n → f x < n) (hk : k < n) : ∀ i, itr f i k < n
  | 0 => hk
  | i + 1 => hf _ (itr_lt hf hk i)
/-- x_p is x_t again, the ones before all unlike -/
structure Orb (f : Nat → Nat) (k t s : Nat) : Prop where
  pos : 0 < s
  back : itr f (t + s) k = itr f t k
  new : ∀ i j, i < j → j < t + s → itr f i k ≠ itr f j k
theorem Orb.mul {f : Nat → Nat} {k t s : Nat} (h : Orb f k t s) (i : Nat) (hi : t ≤ i) : ∀ m, itr f (i + s * m) k = itr f i k
  | 0 => rfl
  | m + 1 => by
    have e1 : i + s * (m + 1) = (t + s) + (i - t + s * m) := by rw [Nat.mul_succ]; omega
    have e2 : i + s * m = t + (i - t + s * m) := by omega
    rw [e1, itr_add, h.back, ← itr_add, ← e2]
    exact h.mul i hi m
theorem Orb.iff {f : Nat → Nat} {k t s : Nat} (h : Orb f k t s) {i j : Nat} (hij : i < j) : itr f i k = itr f j k ↔ t ≤ i ∧ s ∣ (j - i) := by
  constructor
  · intro e
    -- bring j, i below t + s
    have red : ∀ x, ∃ y, y < t + s ∧ itr f y k = itr f x k ∧ (x < t → y = x) ∧ (t ≤ x → t ≤ y ∧ s ∣ (x - y) ∧ y ≤ x) := fun x => by
      by_cases hx : x < t
      · exact ⟨x, by have := h.pos; omega, rfl, fun _ => rfl, fun z => by omega⟩
      · refine ⟨t + (x - t) % s, by have := Nat.mod_lt (x - t) h.pos; omega, ?_, fun z => by omega, fun _ => ⟨by omega, ?_, ?_⟩⟩
        · have hd := Nat.mod_add_div (x - t) s
          have := h.mul (t + (x - t) % s) (by omega) ((x - t) / s)
          rw [← this]
          congr 1
          omega
        · have hd := Nat.mod_add_div (x - t) s
          exact ⟨(x - t) / s, by omega⟩
        · have := Nat.mod_le (x - t) s
          omega
    obtain ⟨y1, l1, e1, a1, b1⟩ := red i
    obtain ⟨y2, l2, e2, a2, b2⟩ := red j
    have ey : y1 = y2 := by
      rcases Nat.lt_trichotomy y1 y2 with z | z | z
      · exact absurd (by rw [e1, e2, e]) (h.new y1 y2 z l2)
      · exact z
      · exact absurd (by rw [e1, e2, e]) (h.new y2 y1 z l1)
    by_cases hi : i < t
    · have h1 := a1 hi
      by_cases hj : j < t
      · have := a2 hj; omega
      · have := (b2 (by omega)).1; omega
    · obtain ⟨_, d1, c1⟩ := b1 (by omega)
      obtain ⟨_, d2, c2⟩ := b2 (by omega)
      refine ⟨by omega, ?_⟩
      have : j - i = (j - y2) - (i - y1) := by omega
      rw [this]
      exact Nat.dvd_sub d2 d1
  · rintro ⟨h1, m, hm⟩
    have := h.mul i h1 m
    rw [← hm, show i + (j - i) = j by omega] at this
    exact this.symm
theorem natnodup_len : ∀ {l m : List Nat}, l.Nodup → (∀ x, x ∈ l → x ∈ m) → l.length ≤ m.length
  | [], _, _, _ => Nat.zero_le _
  | a :: l, m, h1, h => by
    obtain ⟨a1, a2⟩ := List.nodup_cons.mp h1
    have hm := h a List.mem_cons_self
    have := natnodup_len (m := m.erase a) a2 fun x hx => (List.mem_erase_of_ne (fun e => a1 (by rw [← e]; exact hx))).mpr (h x (List.mem_cons_of_mem _ hx))
    rw [List.length_erase_of_mem hm] at this
    have : 0 < m.length := List.length_pos_of_mem hm
    rw [List.length_cons]
    omega
/-- each thing comes round -/
theorem orb_ex {f : Nat → Nat} {n k : Nat} (hf : ∀ x, x < n → f x < n) (hk : k < n) : ∃ t s, Orb f k t s ∧ t + s ≤ n := by
  -- the first place that was met before
  have ex : ∃ p, p ≤ n ∧ ∃ i, i < p ∧ itr f i k = itr f p k := by
    refine Classical.byContradiction fun hn => ?_
    have nd : ((List.range (n + 1)).map fun i => itr f i k).Nodup := by
      refine List.pairwise_iff_getElem.mpr fun i j hi hj hij e => ?_
      rw [List.length_map, List.length_range] at hi hj
      rw [List.getElem_map, List.getElem_map, List.getElem_range, List.getElem_range] at e
      exact hn ⟨j, by omega, i, hij, e⟩
    have := natnodup_len (m := List.range n) nd fun x hx => by
      obtain ⟨i, _, rfl⟩ := List.mem_map.mp hx
      exact List.mem_range.mpr (itr_lt hf hk i)
    rw [List.length_map, List.length_range, List.length_range] at this
    omega
  have least : ∀ m, (∃ p, p ≤ m ∧ ∃ i, i < p ∧ itr f i k = itr f p k) → ∃ p, p ≤ m ∧ (∃ i, i < p ∧ itr f i k = itr f p k) ∧ ∀ q, q < p → ¬ ∃ i, i < q ∧ itr f i k = itr f q k := fun m => by
    induction m with
    | zero =>
      rintro ⟨p, hp, i, hi, _⟩
      omega
    | succ m ih =>
      intro h
      by_cases h2 : ∃ p, p ≤ m ∧ ∃ i, i < p ∧ itr f i k = itr f p k
      · obtain ⟨p, a, b, c⟩ := ih h2
        exact ⟨p, by omega, b, c⟩
      · obtain ⟨p, hp, hi⟩ := h
        have : p = m + 1 := by
          rcases Nat.lt_or_ge m p with z | z
          · omega
          · exact absurd ⟨p, z, hi⟩ h2
        subst this
        exact ⟨m + 1, Nat.le_refl _, hi, fun q hq hx => h2 ⟨q, by omega, hx⟩⟩
  obtain ⟨p, hp, ⟨t, ht, e⟩, hmin⟩ := least n ex
  refine ⟨t, p - t, ⟨by omega, by rw [show t + (p - t) = p by omega]; exact e.symm, fun i j hij hj e2 => hmin j (by omega) ⟨i, hij, e2⟩⟩, by omega⟩
/-! ### all of them -/
def lcms (s : Nat → Nat) : Nat → Nat
  | 0 => 1
  | n + 1 => Nat.lcm (lcms s n) (s n)
def maxs (t : Nat → Nat) : Nat → Nat
  | 0 => 0
  | n + 1 => max (maxs t n) (t n)
theorem lcms_dvd (s : Nat → Nat) : ∀ n m, lcms s n ∣ m ↔ ∀ k, k < n → s k ∣ m
  | 0, m => ⟨fun _ k hk => by omega, fun _ => Nat.one_dvd m⟩
  | n + 1, m => by
    show Nat.lcm (lcms s n) (s n) ∣ m ↔ _
    constructor
    · intro h k hk
      by_cases e : k = n
      · subst e; exact Nat.dvd_trans (Nat.dvd_lcm_right _ _) h
      · exact (lcms_dvd s n m).mp (Nat.dvd_trans (Nat.dvd_lcm_left _ _) h) k (by omega)
    · intro h
      exact Nat.lcm_dvd ((lcms_dvd s n m).mpr fun k hk => h k (by omega)) (h n (by omega))
theorem lcms_pos (s : Nat → Nat) (hs : ∀ k, 0 < s k) : ∀ n, 0 < lcms s n
  | 0 => Nat.one_pos
  | n + 1 => Nat.lcm_pos (lcms_pos s hs n) (hs n)
theorem maxs_le (t : Nat → Nat) : ∀ n i, maxs t n ≤ i ↔ ∀ k, k < n → t k ≤ i
  | 0, i => ⟨fun _ k hk => by omega, fun _ => Nat.zero_le _⟩
  | n + 1, i => by
    show max (maxs t n) (t n) ≤ i ↔ _
    rw [Nat.max_le, maxs_le t n i]
    constructor
    · rintro ⟨h1, h2⟩ k hk
      by_cases e : k = n
      · subst e; exact h2
      · exact h1 k (by omega)
    · intro h
      exact ⟨fun k hk => h k (by omega), h n (by omega)⟩
/-- the rows i and j are the same -/
theorem rows_iff {f : Nat → Nat} {n : Nat} {t s : Nat → Nat} (h : ∀ k, k < n → Orb f k (t k) (s k)) {i j : Nat} (hij : i < j) : (∀ k, k < n → itr f i k = itr f j k) ↔ maxs t n ≤ i ∧ lcms s n ∣ (j - i) := by
  rw [maxs_le, lcms_dvd]
  constructor
  · intro e
    exact ⟨fun k hk => ((h k hk).iff hij |>.mp (e k hk)).1, fun k hk => ((h k hk).iff hij |>.mp (e k hk)).2⟩
  · rintro ⟨h1, h2⟩ k hk
    exact (h k hk).iff hij |>.mpr ⟨h1 k hk, h2 k hk⟩
/-- sizes up to nine: all go round together after 2520 at most -/
theorem lcms_le {s : Nat → Nat} {n : Nat} (h : ∀ k, k < n → 0 < s k ∧ s k ≤ 9) : lcms s n ∣ 2520 := by
  refine (lcms_dvd s n 2520).mpr fun k hk => ?_
  obtain ⟨h1, h2⟩ := h k hk
  generalize s k = x at h1 h2
  have : x = 1 ∨ x = 2 ∨ x = 3 ∨ x = 4 ∨ x = 5 ∨ x = 6 ∨ x = 7 ∨ x = 8 ∨ x = 9 := by omega
  rcases this with rfl | rfl | rfl | rfl | rfl | rfl | rfl | rfl | rfl <;> decide
end DL

namespace Lw
open PySem PySem.Spec PyProof.Rows L2 DL
/-! ### what the law's own helpers reckon (the same in every law) -/
theorem mix_eq {c p m : Int} (hp : 0 < p) (hm : 0 < m) : phi__law_mix [.int c, .int p, .int m] = some (.ok (.int (c * 48271 % p % m))) := by
  have h1 : MulOk c 48271 := .inl (.inr ⟨by omega, by omega⟩)
  simp [phi__law_mix, g__law_mix, g__law_mix_0, hp, hm, h1]
theorem mix_lt {c p m : Int} (hm : 0 < m) : 0 ≤ c * 48271 % p % m ∧ c * 48271 % p % m < m := ⟨Int.emod_nonneg _ (by omega), Int.emod_lt_of_pos _ hm⟩
/-- a row of many numbers below to -/
structure Vr (many to : Int) (r : List Int) : Prop where
  len : 0 < to → (r.length : Int) = many
  nil : to ≤ 0 → r = []
  lt : ∀ x ∈ r, 0 ≤ x ∧ x < to
theorem eqv_int (i j : Int) : PyData.eqv (.int i) (.int j) = decide (i = j) := by
  show (i == j) = _
  rw [Bool.beq_eq_decide_eq]
theorem shaped_int (i : Int) : SeqAt.shaped (.int i) = true := by
  simp [SeqAt.shaped, PyData.canLay0, PyData.depth]
abbrev mapRho (c many to : Int) (r : List Int) (x y : Option PyData) : Rho := [some (.int c), some (.int many), some (.int to), some (.list (r.map .int)), x, y]
theorem map_stage1 {c many to : Int} (hm : 0 ≤ many ∧ many ≤ 1000) (ht : 0 ≤ to ∧ to ≤ 1000) : ∃ r, Vr many to r ∧ g__law_map_1 (mapRho c many to [] none none) = some (.nx (mapRho c many to r none none)) := by
  unfold g__law_map_1
  by_cases h : 0 < to
  · rw [if_t (by simp [h])]
    unfold g__law_map_1t0 gAsg fFr
    rw [lc_rg (n := many) (g := fun i => .int ((c + 31 * i) * 48271 % 9973 % to)) rfl (by omega) fun i hi => ?_]
    · refine ⟨(List.range many.toNat).map fun (i : Nat) => (c + 31 * i) * 48271 % 9973 % to, ⟨fun _ => ?_, fun z => absurd h (by omega), fun x hx => ?_⟩, ?_⟩
      · rw [List.length_map, List.length_range]; omega
      · obtain ⟨i, _, rfl⟩ := List.mem_map.mp hx
        exact mix_lt h
      · simp [Function.comp_def]
    · have h1 : MulOk 31 (i : Int) := .inl (.inl ⟨by omega, by omega⟩)
      simp [h1, mix_eq (p := 9973) (by omega) h]
  · rw [if_f (by simp [h])]
    exact ⟨[], ⟨fun z => absurd z h, fun _ => rfl, fun x hx => by cases hx⟩, rfl⟩
theorem cond_eq {c z a b : Int} {ρ : Rho} {i j k : Nat} (hi : ρ[i]? = some (some (.int c))) (hj : ρ[j]? = some (some (.int a))) (hk : ρ[k]? = some (some (.int b))) :
    bAnd (fB (f2 (gEq false) (f2 (gIc (fun _ j => 0 < j) fun i j => i % j) (fVar i) (fC (.int 4))) (fC (.int z)))) (fB (fChain (gIb fun i j => decide (i < j)) (gIb fun i j => decide (i ≤ j)) (fC (.int 0)) (fVar j) (fVar k))) ρ = some (decide (c % 4 = z) && (decide (0 < a) && decide (a ≤ b))) := by
  have e : fVar i ρ = some (.int c) := by unfold fVar; rw [hi]
  have e1 : fVar j ρ = some (.int a) := by unfold fVar; rw [hj]
  have e2 : fVar k ρ = some (.int b) := by unfold fVar; rw [hk]
  unfold bAnd fB f2 fChain
  rw [e, e1, e2]
  simp only [fC, gIc, gEq, gIb, Option.bind_some, shaped_int, and_self, if_true, Bool.false_xor, eqv_int, show (0 : Int) < 4 from by decide]
  cases h1 : decide (c % 4 = z) with
  | false => simp
  | true =>
    cases h2 : decide (0 < a) with
    | false => simp
    | true => simp
theorem cutA_mem {α : Type} {xs : List α} {lo hi : Option Int} {x : α} (h : x ∈ cutA xs lo hi) : x ∈ xs := List.mem_of_mem_drop (List.mem_of_mem_take h)
theorem sIx_of {n d : Nat} {k : Int} (h : 0 ≤ k) : HT.sIx n d (some k) = min k.toNat n := by
  have e : k = ((k.toNat : Nat) : Int) := by omega
  rw [e, HT.sIx_nat]
  rfl
theorem cutA_map {α β : Type} (f : α → β) (xs : List α) (lo hi : Option Int) : cutA (xs.map f) lo hi = (cutA xs lo hi).map f := by
  unfold cutA
  rw [List.length_map, List.map_take, List.map_drop]
theorem cutA_to {α : Type} (xs : List α) {k : Int} (h : 0 ≤ k) : cutA xs none (some k) = xs.take k.toNat := by
  unfold cutA
  rw [HT.sIx_none, List.drop_zero, sIx_of h, Nat.sub_zero]
  by_cases hk : k.toNat ≤ xs.length
  · rw [Nat.min_eq_left hk]
  · rw [Nat.min_eq_right (by omega), List.take_of_length_le (Nat.le_refl _), List.take_of_length_le (by omega)]
theorem cutA_from {α : Type} (xs : List α) {k : Int} (h : 0 ≤ k) : cutA xs (some k) none = xs.drop k.toNat := by
  unfold cutA
  rw [HT.sIx_none, sIx_of h]
  by_cases hk : k.toNat ≤ xs.length
  · rw [Nat.min_eq_left hk, List.take_of_length_le (by rw [List.length_drop]; omega)]
  · rw [Nat.min_eq_right (by omega), List.drop_length, List.take_nil, List.drop_of_length_le (by omega)]
theorem map_stage2 {c many to : Int} {r : List Int} (hm : 0 ≤ many ∧ many ≤ 1000) (ht : 0 ≤ to ∧ to ≤ 1000) (hv : Vr many to r) : ∃ r', Vr many to r' ∧ g__law_map_2 (mapRho c many to r none none) = some (.nx (mapRho c many to r' none none)) := by
  unfold g__law_map_2
  have hc := cond_eq (c := c) (z := 0) (a := to) (b := many) (ρ := mapRho c many to r none none) (i := 0) (j := 2) (k := 1) rfl rfl rfl
  cases h : (decide (c % 4 = 0) && (decide (0 < to) && decide (to ≤ many))) with
  | false => exact ⟨r, hv, by rw [if_f (by rw [hc, h])]; rfl⟩
  | true =>
    rw [if_t (by rw [hc, h])]
    simp only [Bool.and_eq_true, decide_eq_true_eq] at h
    obtain ⟨_, h2, h3⟩ := h
    have h5 : 0 < many := by omega
    have e1 : g__law_map_2t0 (mapRho c many to r none none) = some (.nx (mapRho c many to ((List.range many.toNat).map fun (i : Nat) => (i : Int) % to) none none)) := by
      unfold g__law_map_2t0 gAsg fFr
      rw [lc_rg (n := many) (g := fun i => .int ((i : Int) % to)) rfl (by omega) fun i hi => ?_]
      · simp [Function.comp_def]
      · simp [h2]
    generalize hr1 : (List.range many.toNat).map (fun (i : Nat) => (i : Int) % to) = r1 at e1
    have hl1 : (r1.length : Int) = many := by rw [← hr1, List.length_map, List.length_range]; omega
    have hlt1 : ∀ x ∈ r1, 0 ≤ x ∧ x < to := fun x hx => by
      rw [← hr1] at hx
      obtain ⟨i, _, rfl⟩ := List.mem_map.mp hx
      exact ⟨Int.emod_nonneg _ (by omega), Int.emod_lt_of_pos _ h2⟩
    unfold g__law_map_2t
    rw [blk_nx e1]
    have hk : 0 ≤ c / 4 % many := Int.emod_nonneg _ (by omega)
    have hd : CDiv c 4 := ⟨by decide, by decide⟩
    have e2 : g__law_map_2t1 (mapRho c many to r1 none none) = some (.nx (mapRho c many to (r1.drop (c / 4 % many).toNat ++ r1.take (c / 4 % many).toNat) none none)) := by
      have hsz : r1.length - (c / 4 % many).toNat + min (c / 4 % many).toNat r1.length ≤ 1000000 := by omega
      simp [g__law_map_2t1, hd, h5, cutA_map, cutA_to r1 hk, cutA_from r1 hk, hsz]
    refine ⟨_, ⟨fun _ => ?_, fun z => absurd h2 (by omega), fun x hx => ?_⟩, e2⟩
    · rw [List.length_append, List.length_drop, List.length_take]; omega
    · rcases List.mem_append.mp hx with hx | hx
      · exact hlt1 x (List.mem_of_mem_drop hx)
      · exact hlt1 x (List.mem_of_mem_take hx)
theorem rg_ints (n : Nat) : rgD 0 n = ((List.range n).map fun (i : Nat) => (i : Int)).map PyData.int := by
  rw [rgD_zero, List.map_map]
  rfl
theorem map_stage3 {c many to : Int} {r : List Int} (hm : 0 ≤ many ∧ many ≤ 1000) (ht : 0 ≤ to ∧ to ≤ 1000) (hv : Vr many to r) : ∃ r' y, Vr many to r' ∧ g__law_map_3 (mapRho c many to r none none) = some (.nx (mapRho c many to r' y none)) := by
  unfold g__law_map_3
  have hc := cond_eq (c := c) (z := 1) (a := many) (b := to) (ρ := mapRho c many to r none none) (i := 0) (j := 1) (k := 2) rfl rfl rfl
  cases h : (decide (c % 4 = 1) && (decide (0 < many) && decide (many ≤ to))) with
  | false => exact ⟨r, none, hv, by rw [if_f (by rw [hc, h])]; rfl⟩
  | true =>
    rw [if_t (by rw [hc, h])]
    simp only [Bool.and_eq_true, decide_eq_true_eq] at h
    obtain ⟨_, h2, h3⟩ := h
    have hp : 0 < to := by omega
    have hrg := rg_ints to.toNat
    generalize hL : ((List.range to.toNat).map fun (i : Nat) => (i : Int)) = L at hrg
    have lL : L.length = to.toNat := by rw [← hL, List.length_map, List.length_range]
    have e1 : g__law_map_3t0 (mapRho c many to r none none) = some (.nx (mapRho c many to r (some (.list (L.map .int))) none)) := by
      have hz : 0 ≤ to ∧ to ≤ 1000000 := ⟨by omega, by omega⟩
      simp [g__law_map_3t0, hz, hrg]
    unfold g__law_map_3t
    rw [blk_nx e1]
    have hB : B62 many := ⟨by omega, by omega⟩
    obtain ⟨ys, rest, p1, p2, p3⟩ := popF_ok (j := 5) (iL := 4) (fe := fCall phi__law_mix (fCons (f2 gAdd (fVar 0) (f2 gMulD (fC (.int 7)) (fVar 5))) (fCons (fC (.int 9967)) (fCons (f2 (gI fun i j => i - j) (fVar 2) (fVar 5)) fNil)))) (by decide)
      (ds := rgD 0 many.toNat) (ρ := mapRho c many to r (some (.list (L.map .int))) none) (L := L) rfl (by rw [rgD_len, lL]; omega) (by rw [lL]; omega) (fun i d hd L' hL' => by
        have hi : i < many.toNat := by
          have := (List.getElem?_eq_some_iff.mp hd).1
          rwa [rgD_len] at this
        rw [rgD_get hi] at hd
        cases hd
        have hto : 0 < to - i := by omega
        have h1 : MulOk 7 ((0 : Int) + i) := .inl (.inl ⟨by omega, by omega⟩)
        refine ⟨(c + 7 * (0 + i)) * 48271 % 9967 % (to - (0 + i)), ?_, (mix_lt (by omega)).1, Int.lt_of_lt_of_le (mix_lt (by omega)).2 (by omega)⟩
        simp only [fCall, fCons, f2, fVar, fC, fNil, List.set_cons_succ, List.set_cons_zero, List.getElem?_cons_zero, List.getElem?_cons_succ, Option.bind_some, gAdd, gMulD, gI, if_pos h1]
        rw [mix_eq (by omega) (by omega)]
        rfl)
    refine ⟨ys, none, ⟨fun _ => by rw [p2, rgD_len]; omega, fun z => absurd hp (by omega), fun x hx => ?_⟩, ?_⟩
    · have : x ∈ L := p3.subset (List.mem_append_left _ hx)
      rw [← hL] at this
      obtain ⟨i, hi, rfl⟩ := List.mem_map.mp this
      have := List.mem_range.mp hi
      omega
    · unfold g__law_map_3t1 gSetPop
      have hw : wipeR (mapRho c many to r (some (.list (L.map .int))) none) [5] = mapRho c many to r (some (.list (L.map .int))) none := rfl
      have hi : iR1 (fVar 1) (mapRho c many to r (some (.list (L.map .int))) none) = some (rgD 0 many.toNat) := by simp [hB]
      rw [hi, Option.bind_some, if_pos (by rw [rgD_len]; omega), hw, p1]
      rfl
/-- the law's map: many numbers below to -/
theorem map_eq {c many to : Int} (hm : 0 ≤ many ∧ many ≤ 1000) (ht : 0 ≤ to ∧ to ≤ 1000) : ∃ r, Vr many to r ∧ phi__law_map [.int c, .int many, .int to] = some (.ok (mapD to r)) := by
  obtain ⟨r1, v1, e1⟩ := map_stage1 (c := c) hm ht
  obtain ⟨r2, v2, e2⟩ := map_stage2 (c := c) hm ht v1
  obtain ⟨r3, y, v3, e3⟩ := map_stage3 (c := c) hm ht v2
  refine ⟨r3, v3, ?_⟩
  have e0 : g__law_map_0 [some (.int c), some (.int many), some (.int to), none, none, none] = some (.nx (mapRho c many to [] none none)) := by simp [g__law_map_0]
  have e4 : g__law_map_4 (mapRho c many to r3 y none) = some (.ret (mapD to r3)) := by simp [g__law_map_4, mapD]
  have e : g__law_map [some (.int c), some (.int many), some (.int to), none, none, none] = some (.ret (mapD to r3)) := by
    unfold g__law_map
    rw [blk_nx e0, blk_nx e1, blk_nx e2, blk_nx e3, e4]
  exact def_ret rfl e
theorem cell_eq (ns : List Int) (k : Nat) (hl : ns.length ≤ 63) : phi__law_cell [.dict (scrK ns), .int k] = some (.ok (.int (ns.getD k 0))) := by
  have hlen : (scrK ns).length = ns.length := by unfold scrK; rw [List.length_map]
  by_cases h : k < ns.length
  · have h1 : (k : Int) < (ns.length : Int) := by omega
    have ha : atI (ns.map PyData.int) (k : Int) = some (.int ns[k]) := atI_nat (by rw [List.getElem?_map, List.getElem?_eq_getElem h]; rfl)
    have ha' : atI ((scrK ns).map (·.1)) (k : Int) = some (.int ns[k]) := by rw [scr_fst]; exact ha
    simp [phi__law_cell, g__law_cell, g__law_cell_0, g__law_cell_0t0, g__law_cell_1, hlen, h, ha']
  · simp [phi__law_cell, g__law_cell, g__law_cell_0, g__law_cell_0t0, g__law_cell_1, hlen, h, List.getElem?_eq_none (Nat.le_of_not_lt h)]
theorem sizes_eq (ns : List Int) (k : Nat) (hl : ns.length ≤ 63) : ∃ a b c d : Int, (0 ≤ a ∧ a < 7) ∧ (0 ≤ b ∧ b < 7) ∧ (0 ≤ c ∧ c < 7) ∧ (0 ≤ d ∧ d < 7) ∧ phi__law_sizes [.dict (scrK ns), .int k] = some (.ok (.list [.int a, .int b, .int c, .int d])) := by
  refine ⟨_, _, _, _, mix_lt (c := ns.getD k 0) (p := 9949) (by omega), mix_lt (c := ns.getD k 0) (p := 9941) (by omega), mix_lt (c := ns.getD k 0) (p := 9931) (by omega), mix_lt (c := ns.getD k 0) (p := 9929) (by omega), ?_⟩
  simp [phi__law_sizes, g__law_sizes, g__law_sizes_0, g__law_sizes_1, cell_eq ns k hl, mix_eq]
end Lw

namespace Lw
open PySem PySem.Spec PyProof.Rows L2 DL
theorem Vr.wf {many to : Int} {r : List Int} (h : Vr many to r) (hm : 0 ≤ many ∧ many ≤ 1000) (ht : 0 ≤ to ∧ to ≤ 1000) : Wf (to, r) where
  len := by
    by_cases z : 0 < to
    · have := h.len z; show r.length ≤ 1000; omega
    · rw [h.nil (by omega)]; exact Nat.zero_le _
  rng := ht
  lt := h.lt
theorem mp_eq {c many to : Int} (hm : 0 ≤ many ∧ many ≤ 1000) (ht : 0 ≤ to ∧ to ≤ 1000) : ∃ a : Mp, Wf a ∧ a.1 = to ∧ (a.2.length : Int) ≤ many ∧ (0 < to → (a.2.length : Int) = many) ∧ phi__law_map [.int c, .int many, .int to] = some (.ok (mpD a)) := by
  obtain ⟨r, hv, e⟩ := map_eq (c := c) hm ht
  refine ⟨(to, r), hv.wf hm ht, rfl, ?_, hv.len, e⟩
  by_cases z : 0 < to
  · have := hv.len z; show (r.length : Int) ≤ _; omega
  · rw [hv.nil (by omega)]; exact hm.1
theorem cell_at (ns : List Int) (k : Nat) (hl : ns.length ≤ 63) {i : Int} (h : i = k) : phi__law_cell [.dict (scrK ns), .int i] = some (.ok (.int (ns.getD k 0))) := by
  subst h
  exact cell_eq ns k hl
end Lw

namespace Lw
open PySem PySem.Spec PyProof.Rows L2 DL
theorem must_t : phi_must [.bool true] = some (.ok .none) := by simp [phi_must, g_must, g_must_0, g_must_0t0]
theorem must_f : phi_must [.bool false] = some (.error 2) := by simp [phi_must, g_must, g_must_0, g_must_0t0]
end Lw

namespace Lw
open PySem PySem.Spec PyProof.Rows L2 DL
theorem while_t {c : Rho → Option Bool} {b : Gn} {n : Nat} {ρ ρ' : Rho} (h1 : c ρ = some true) (h2 : b ρ = some (.nx ρ')) : whileF c b (n + 1) ρ = whileF c b n ρ' := by
  show (c ρ).bind _ = _
  rw [h1, Option.bind_some, if_pos rfl, h2, Option.bind_some]
theorem while_f {c : Rho → Option Bool} {b : Gn} {n : Nat} {ρ : Rho} (h1 : c ρ = some false) : whileF c b (n + 1) ρ = some (.nx ρ) := by
  show (c ρ).bind _ = _
  rw [h1, Option.bind_some, if_neg Bool.false_ne_true]
theorem common_loop : ∀ (n b a : Nat), b < n → whileF (fB (f2 (gEq true) (fVar 1) (fC (.int 0)))) g_common_0b0 n [some (.int a), some (.int b)] = some (.nx [some (.int (Nat.gcd a b)), some (.int 0)])
  | 0, b, a, h => by omega
  | n + 1, b, a, h => by
    by_cases hb : b = 0
    · subst hb
      rw [while_f (by simp), Nat.gcd_zero_right]
      rfl
    · have hb' : 0 < b := by omega
      have hm := Nat.mod_lt a hb'
      have hp : (0 : Int) < (b : Int) := by omega
      rw [while_t (ρ' := [some (.int (b : Nat)), some (.int ((a % b : Nat) : Int))]) (by simp [hb]) (by simp [g_common_0b0, hp, hb']), common_loop n (a % b) b (by omega), Nat.gcd_comm a b, Nat.gcd_rec b a, Nat.gcd_comm]
theorem common_eq {a b : Nat} (hb : b < 1000000) : phi_common [.int a, .int b] = some (.ok (.int (Nat.gcd a b))) := by
  have e : g_common [some (.int a), some (.int b)] = some (.ret (.int (Nat.gcd a b))) := by
    unfold g_common
    rw [show g_common_0 = whileF (fB (f2 (gEq true) (fVar 1) (fC (.int 0)))) g_common_0b0 1000000 from rfl, blk_nx (common_loop 1000000 b a hb)]
    simp [g_common_1]
  exact def_ret rfl e
end Lw

namespace Lw
open PySem PySem.Spec PyProof.Rows L2 DL
def nxt (a : Mp) (x : Nat) : Nat := (a.2.getD x 0).toNat
def trc (a : Mp) (k p : Nat) : List Int := (List.range p).map fun i => ((itr (nxt a) i k : Nat) : Int)
/-- a map of things into themselves -/
structure Inn (a : Mp) : Prop where
  wf : Wf a
  same : a.1 = (a.2.length : Nat)
theorem nxt_lt {a : Mp} (h : Inn a) {x : Nat} (hx : x < a.2.length) : nxt a x < a.2.length := by
  have := getD_lt h.wf hx
  have := h.same
  unfold nxt
  omega
theorem trc_succ (a : Mp) (k p : Nat) : trc a k (p + 1) = trc a k p ++ [((itr (nxt a) p k : Nat) : Int)] := by
  unfold trc
  rw [List.range_succ, List.map_append]
  rfl
theorem trc_mem {a : Mp} {k p : Nat} {x : Nat} : ((x : Nat) : Int) ∈ trc a k p ↔ ∃ i, i < p ∧ itr (nxt a) i k = x := by
  unfold trc
  rw [List.mem_map]
  constructor
  · rintro ⟨i, hi, e⟩
    exact ⟨i, List.mem_range.mp hi, by omega⟩
  · rintro ⟨i, hi, e⟩
    exact ⟨i, List.mem_range.mpr hi, by rw [e]⟩
theorem walk_loop {a : Mp} (h : Inn a) {k t s : Nat} (hk : k < a.2.length) (o : Orb (nxt a) k t s) (hp : t + s ≤ 1000) : ∀ (m n i : Nat), m + i = t + s → m < n →
    whileF (fB (f2 (gIn true) (fVar 1) (fVar 2))) g_walk_1b n [some (mpD a), some (.int (itr (nxt a) i k : Nat)), some (.list ((trc a k i).map .int))] = some (.nx [some (mpD a), some (.int (itr (nxt a) (t + s) k : Nat)), some (.list ((trc a k (t + s)).map .int))])
  | 0, n + 1, i, e, _ => by
    have e : i = t + s := by omega
    subst e
    have hin : ((itr (nxt a) (t + s) k : Nat) : Int) ∈ trc a k (t + s) := trc_mem.mpr ⟨t, by have := o.pos; omega, o.back.symm⟩
    exact while_f (by simp [hin])
  | m + 1, n + 1, i, e, hn => by
    have hout : ¬ ((itr (nxt a) i k : Nat) : Int) ∈ trc a k i := fun z => by
      obtain ⟨j, hj, ej⟩ := trc_mem.mp z
      exact o.new j i hj (by omega) ej
    have hx : itr (nxt a) i k < a.2.length := itr_lt (fun x hx => nxt_lt h hx) hk i
    have hrow := ix_row (m := a) hx
    have hnx : a.2.getD (itr (nxt a) i k) 0 = ((itr (nxt a) (i + 1) k : Nat) : Int) := by
      have := getD_lt h.wf hx
      show _ = (((a.2.getD (itr (nxt a) i k) 0).toNat : Nat) : Int)
      omega
    rw [hnx] at hrow
    have hlen : (trc a k i).length < 1000000 := by unfold trc; rw [List.length_map, List.length_range]; omega
    have e1 := walk_loop h hk o hp m n (i + 1) (by omega) (by omega)
    rw [trc_succ, List.map_append] at e1
    rw [while_t (ρ' := [some (mpD a), some (.int (itr (nxt a) (i + 1) k : Nat)), some (.list ((trc a k i).map .int ++ [((itr (nxt a) i k : Nat) : Int)].map .int))]) (by simp [hout]) (by
      generalize itr (nxt a) (i + 1) k = y at *
      generalize itr (nxt a) i k = x at *
      simp [g_walk_1b, g_walk_1b0, g_walk_1b1, hlen, hrow, -gIx_tuple])]
    exact e1
theorem walk_eq {a : Mp} (h : Inn a) {k t s : Nat} (hk : k < a.2.length) (o : Orb (nxt a) k t s) (hp : t + s ≤ 1000) : phi_walk [mpD a, .int (k : Nat)] = some (.ok (.tuple [.list ((trc a k (t + s)).map .int), .int (itr (nxt a) t k : Nat)])) := by
  have e0 : g_walk_0 [some (mpD a), some (.int (k : Nat)), none] = some (.nx [some (mpD a), some (.int (itr (nxt a) 0 k : Nat)), some (.list ((trc a k 0).map .int))]) := by
    simp [g_walk_0, trc, itr]
  have e : g_walk [some (mpD a), some (.int (k : Nat)), none] = some (.ret (.tuple [.list ((trc a k (t + s)).map .int), .int (itr (nxt a) t k : Nat)])) := by
    unfold g_walk
    rw [blk_nx e0, show g_walk_1 = whileF (fB (f2 (gIn true) (fVar 1) (fVar 2))) g_walk_1b 1000000 from rfl, blk_nx (walk_loop h hk o hp (t + s) 1000000 0 (by omega) (by omega)), o.back]
    simp [g_walk_2]
  exact def_ret rfl e
end Lw

namespace Lw
open PySem PySem.Spec PyProof.Rows L2 DL
theorem inner_ok {a : Mp} (h : a.1 = (a.2.length : Nat)) (hp : 0 < a.1) : phi_must_be_inner [mpD a] = some (.ok .none) := by
  have e : g_must_be_inner [some (mpD a)] = some (.nx [some (mpD a)]) := by
    have hp' : 0 < a.2.length := by omega
    simp [g_must_be_inner, g_must_be_inner_0, h, hp', must_t]
  exact def_nx rfl e
theorem inner_no {a : Mp} (h : ¬ (a.1 = (a.2.length : Nat) ∧ 0 < a.1)) : phi_must_be_inner [mpD a] = some (.error 2) := by
  have e : g_must_be_inner [some (mpD a)] = some (.exc 2 [some (mpD a)]) := by
    by_cases h1 : a.1 = (a.2.length : Nat)
    · have h2 : ¬ 0 < a.2.length := fun z => h ⟨h1, by omega⟩
      simp [g_must_be_inner, g_must_be_inner_0, h1, h2, must_f]
    · simp [g_must_be_inner, g_must_be_inner_0, h1, must_f]
  exact def_exc rfl e
theorem trc_len (a : Mp) (k p : Nat) : (trc a k p).length = p := by unfold trc; rw [List.length_map, List.length_range]
theorem trc_get {a : Mp} {k p i : Nat} (h : i < p) : (trc a k p).getD i 0 = ((itr (nxt a) i k : Nat) : Int) := by
  unfold trc
  exact getD_range h
theorem trc_nodup {a : Mp} {k t s : Nat} (o : Orb (nxt a) k t s) : (trc a k (t + s)).Nodup := by
  unfold trc
  refine List.pairwise_iff_getElem.mpr fun i j hi hj hij e => ?_
  rw [List.length_map, List.length_range] at hi hj
  rw [List.getElem_map, List.getElem_map, List.getElem_range, List.getElem_range] at e
  exact o.new i j hij hj (by omega)
theorem trc_ix {a : Mp} {k t s : Nat} (o : Orb (nxt a) k t s) : ixI (trc a k (t + s)) ((itr (nxt a) t k : Nat) : Int) = t := by
  have hp := o.pos
  have := ixI_of (trc_nodup o) (i := t) (by rw [trc_len]; omega)
  rwa [trc_get (by omega)] at this
theorem tail_eq {a : Mp} (h : Inn a) {k t s : Nat} (hk : k < a.2.length) (o : Orb (nxt a) k t s) (hp : t + s ≤ 1000) : phi_tail [mpD a, .int (k : Nat)] = some (.ok (.int (t : Nat))) := by
  have w := walk_eq h hk o hp
  have i0 := inner_ok h.same (by have := h.same; omega)
  have hm : ((itr (nxt a) t k : Nat) : Int) ∈ trc a k (t + s) := trc_mem.mpr ⟨t, by have := o.pos; omega, rfl⟩
  have g := gIdx_list hm
  rw [trc_ix o] at g
  have e : g_tail [some (mpD a), some (.int (k : Nat)), none, none] = some (.ret (.int (t : Nat))) := by
    simp [g_tail, g_tail_0, g_tail_1, g_tail_2, i0, w, g]
  exact def_ret rfl e
end Lw

namespace Lw
open PySem PySem.Spec PyProof.Rows L2 DL
theorem then_ok {a b : Mp} (ha : Wf a) (hb : Wf b) (h : a.1 = b.2.length) : phi_then [mpD a, mpD b] = some (.ok (mpD (thn a b))) := by
  obtain ⟨ta, ra⟩ := a
  obtain ⟨tb, rb⟩ := b
  have hl := ha.len
  have hlt := ha.lt
  have hbl := hb.len
  simp only at h hl hlt hbl
  refine def_ret rfl ?_
  show g_then [some (mapD ta ra), some (mapD tb rb), none] = some (.ret (mapD tb (ra.map fun x => rb.getD x.toNat 0)))
  have e0 : g_then_0 [some (mapD ta ra), some (mapD tb rb), none] = some (.nx [some (mapD ta ra), some (mapD tb rb), none]) := by
    have c : (gEq false) (.int ta) (.int (rb.length : Nat)) = some (.bool true) := by rw [gEq_int, h]; simp
    simp [g_then_0, mapD, c, must_t]
  unfold g_then
  rw [blk_nx e0]
  have e1 : fLc [2] (iSq (f2 gIx (fVar 0) (fC (.int 1)))) (hName 2) cYes (f2 gIx (f2 gIx (fVar 1) (fC (.int 1))) (fVar 2)) [some (mapD ta ra), some (mapD tb rb), none] = some (ra.map fun x => .int (rb.getD x.toNat 0)) := by
    refine lc_sq (w := PyData.int) (l := ra) (d := .tuple (ra.map .int)) (by simp [mapD]) rfl (by omega) fun x hx => ?_
    have := hlt x hx
    have e := atI_ints (r := rb) (x := x) ⟨this.1, by omega⟩
    simp [mapD, e]
  unfold g_then_1 gRet fTup
  have e2 := fFr_of e1
  simp only [fCons, fNil, fBi, e2, Option.bind_some]
  have hz : ra.length ≤ 1000000 := by omega
  simp [mapD, hz, Function.comp_def]
theorem then_no {a b : Mp} (hb : b.2.length ≤ 1000) (h : a.1 ≠ b.2.length) : phi_then [mpD a, mpD b] = some (.error 2) := by
  obtain ⟨ta, ra⟩ := a
  obtain ⟨tb, rb⟩ := b
  simp only at h hb
  have e0 : g_then_0 [some (mapD ta ra), some (mapD tb rb), none] = some (.exc 2 [some (mapD ta ra), some (mapD tb rb), none]) := by
    have c : (gEq false) (.int ta) (.int (rb.length : Nat)) = some (.bool false) := by rw [gEq_int]; simp [h]
    simp [g_then_0, mapD, c, must_f]
  have e : g_then [some (mapD ta ra), some (mapD tb rb), none] = some (.exc 2 [some (mapD ta ra), some (mapD tb rb), none]) := by
    unfold g_then
    rw [blk_exc e0]
  exact def_exc rfl e
end Lw

namespace Lw
open PySem PySem.Spec PyProof.Rows L2 DL
theorem lthen_ok {a b : Mp} (ha : Wf a) (hb : Wf b) (h : a.1 = b.2.length) : phi__law_then [mpD a, mpD b] = some (.ok (mpD (thn a b))) := by
  obtain ⟨ta, ra⟩ := a
  obtain ⟨tb, rb⟩ := b
  have hl := ha.len
  have hlt := ha.lt
  have hbl := hb.len
  simp only at h hl hlt hbl
  refine def_ret rfl ?_
  show g__law_then [some (mapD ta ra), some (mapD tb rb), none] = some (.ret (mapD tb (ra.map fun x => rb.getD x.toNat 0)))
  have e1 : fLc [2] (iSq (f2 gIx (fVar 0) (fC (.int 1)))) (hName 2) cYes (f2 gIx (f2 gIx (fVar 1) (fC (.int 1))) (fVar 2)) [some (mapD ta ra), some (mapD tb rb), none] = some (ra.map fun x => .int (rb.getD x.toNat 0)) := by
    refine lc_sq (w := PyData.int) (l := ra) (d := .tuple (ra.map .int)) (by simp [mapD]) rfl (by omega) fun x hx => ?_
    have := hlt x hx
    have e := atI_ints (r := rb) (x := x) ⟨this.1, by omega⟩
    simp [mapD, e]
  unfold g__law_then g__law_then_0 gRet fTup
  have e2 := fFr_of e1
  simp only [fCons, fNil, fBi, e2, Option.bind_some]
  have hz : ra.length ≤ 1000000 := by omega
  simp [mapD, hz, Function.comp_def]
end Lw

namespace Lw
open PySem PySem.Spec PyProof.Rows L2 DL
/-! ### the rows of a map done so often -/
def rowK (a : Mp) (i : Nat) : Mp := (a.1, (List.range a.2.length).map fun k => ((itr (nxt a) i k : Nat) : Int))
theorem rowK_wf {a : Mp} (h : Inn a) (i : Nat) : Wf (rowK a i) := by
  refine row_wf h.wf.rng h.wf.len fun k hk => ?_
  have := itr_lt (f := nxt a) (fun x hx => nxt_lt h hx) hk i
  have := h.same
  omega
theorem rowK_len (a : Mp) (i : Nat) : (rowK a i).2.length = a.2.length := by
  unfold rowK
  rw [List.length_map, List.length_range]
theorem rowK_zero (a : Mp) : rowK a 0 = (a.1, idr a.2.length) := rfl
theorem rowK_get {a : Mp} {i k : Nat} (hk : k < a.2.length) : (rowK a i).2.getD k 0 = ((itr (nxt a) i k : Nat) : Int) := getD_range hk
theorem rowK_thn {a : Mp} (h : Inn a) (i j : Nat) : thn (rowK a i) (rowK a j) = rowK a (i + j) := by
  show thn (a.1, (List.range a.2.length).map fun k => ((itr (nxt a) i k : Nat) : Int)) (rowK a j) = _
  rw [thn_row]
  refine Prod.ext rfl ?_
  show (List.range a.2.length).map _ = (List.range a.2.length).map _
  refine List.map_congr_left fun k hk => ?_
  have hx := itr_lt (f := nxt a) (fun x hx => nxt_lt h hx) (List.mem_range.mp hk) i
  rw [show (((itr (nxt a) i k : Nat) : Int)).toNat = itr (nxt a) i k by omega, rowK_get hx, itr_add]
theorem rowK_one {a : Mp} (h : Inn a) : rowK a 1 = a := by
  refine Prod.ext rfl (row_eq rfl fun k hk => ?_)
  have := getD_lt h.wf hk
  show (((a.2.getD k 0).toNat : Nat) : Int) = _
  omega
theorem rowK_eq {a : Mp} {i j : Nat} : rowK a i = rowK a j ↔ ∀ k, k < a.2.length → itr (nxt a) i k = itr (nxt a) j k := by
  constructor
  · intro e k hk
    have h1 := rowK_get (a := a) (i := i) hk
    have h2 := rowK_get (a := a) (i := j) hk
    rw [e, h2] at h1
    omega
  · intro e
    refine Prod.ext rfl ?_
    show (List.range a.2.length).map _ = (List.range a.2.length).map _
    exact List.map_congr_left fun k hk => by rw [e k (List.mem_range.mp hk)]
/-- all its things come round -/
structure Rnd (a : Mp) (t s : Nat → Nat) : Prop where
  inn : Inn a
  pos : 0 < a.2.length
  few : a.2.length ≤ 9
  orb : ∀ k, k < a.2.length → Orb (nxt a) k (t k) (s k)
  le : ∀ k, k < a.2.length → t k + s k ≤ 9
  sp : ∀ k, 0 < s k
theorem rnd_ex {a : Mp} (h : Inn a) (hp : 0 < a.2.length) (hf : a.2.length ≤ 9) : ∃ t s, Rnd a t s := by
  have ex : ∀ k, ∃ p : Nat × Nat, 0 < p.2 ∧ (k < a.2.length → Orb (nxt a) k p.1 p.2 ∧ p.1 + p.2 ≤ a.2.length) := fun k => by
    by_cases hk : k < a.2.length
    · obtain ⟨t, s, o, hl⟩ := orb_ex (f := nxt a) (fun x hx => nxt_lt h hx) hk
      exact ⟨(t, s), o.pos, fun _ => ⟨o, hl⟩⟩
    · exact ⟨(0, 1), Nat.one_pos, fun z => absurd z hk⟩
  obtain ⟨g, hg⟩ := Classical.axiomOfChoice ex
  exact ⟨fun k => (g k).1, fun k => (g k).2, h, hp, hf, fun k hk => ((hg k).2 hk).1, fun k hk => Nat.le_trans ((hg k).2 hk).2 hf, fun k => (hg k).1⟩
variable {a : Mp} {t s : Nat → Nat}
theorem Rnd.row (R : Rnd a t s) {i j : Nat} (hij : i < j) : rowK a i = rowK a j ↔ maxs t a.2.length ≤ i ∧ lcms s a.2.length ∣ (j - i) := by
  rw [rowK_eq]
  exact rows_iff R.orb hij
theorem Rnd.T (R : Rnd a t s) : maxs t a.2.length ≤ 9 := (maxs_le t _ 9).mpr fun k hk => by have := R.le k hk; omega
theorem Rnd.L (R : Rnd a t s) : 0 < lcms s a.2.length ∧ lcms s a.2.length ≤ 2520 :=
  ⟨lcms_pos s R.sp _, Nat.le_of_dvd (by decide) (lcms_le fun k hk => ⟨R.sp k, by have := R.le k hk; omega⟩)⟩
/-- it is that of the rest -/
theorem Rnd.due (R : Rnd a t s) (x : Nat) : rowK a (if maxs t a.2.length ≤ x then maxs t a.2.length + (x - maxs t a.2.length) % lcms s a.2.length else x) = rowK a x := by
  by_cases h : maxs t a.2.length ≤ x
  · rw [if_pos h]
    have hm := Nat.mod_add_div (x - maxs t a.2.length) (lcms s a.2.length)
    generalize hr : (x - maxs t a.2.length) % lcms s a.2.length = r at hm
    by_cases e : maxs t a.2.length + r = x
    · rw [e]
    · have hle : r ≤ x - maxs t a.2.length := by omega
      refine (R.row (by omega)).mpr ⟨by omega, (x - maxs t a.2.length) / lcms s a.2.length, by omega⟩
  · rw [if_neg h]
/-! ### _law_rows -/
theorem ixN_last (m : Nat) : ixN (m + 1) (-1) = some m := by
  unfold ixN
  rw [if_neg (by decide), if_pos (by omega)]
  congr 1
  omega
def rowsL (a : Mp) (m : Nat) : List Mp := (List.range m).map (rowK a)
theorem rowsL_succ (a : Mp) (m : Nat) : rowsL a (m + 1) = rowsL a m ++ [rowK a m] := by
  unfold rowsL
  rw [List.range_succ, List.map_append]
  rfl
theorem rowsL_len (a : Mp) (m : Nat) : (rowsL a m).length = m := by
  unfold rowsL
  rw [List.length_map, List.length_range]
theorem rowsL_get {m i : Nat} (h : i < m) : (rowsL a m)[i]? = some (rowK a i) := by
  unfold rowsL
  rw [List.getElem?_map, List.getElem?_range h]
  rfl
theorem shK_maps (l : List Mp) : shK 4 (.list (l.map mpD)) := shK_lst fun x hx => by
  obtain ⟨m, _, rfl⟩ := List.mem_map.mp hx
  exact shK_map m
theorem any_maps (l : List Mp) (x : Mp) : ((l.map mpD).any fun z => PyData.eqv z (mpD x)) = decide (x ∈ l) := by
  induction l with
  | nil => rfl
  | cons y r ih =>
    rw [List.map_cons, List.any_cons, ih, emb_map y x]
    by_cases e : y = x
    · subst e; simp
    · have e' : x ≠ y := fun z => e z.symm
      simp [e, e', List.mem_cons]
theorem gIn_maps (neg : Bool) (l : List Mp) (x : Mp) : gIn neg (mpD x) (.list (l.map mpD)) = some (.bool (xor neg (decide (x ∈ l)))) := by
  unfold gIn
  simp only
  rw [if_pos (.inr ⟨shaped_of (shK_map x), shaped_of (shK_maps l)⟩), any_maps]
theorem gIdxD_maps {l : List Mp} {x : Mp} {i : Nat} (h1 : l[i]? = some x) (h2 : ∀ j y, j < i → l[j]? = some y → y ≠ x) : gIdxD (.list (l.map mpD)) (mpD x) = some (.int (i : Nat)) := by
  show idxD _ _ = _
  unfold idxD
  rw [if_pos ⟨shaped_of (shK_maps l), shaped_of (shK_map x)⟩]
  obtain ⟨hl, e⟩ := List.getElem?_eq_some_iff.mp h1
  have hf : (l.map mpD).findIdx? (fun z => PyData.eqv z (mpD x)) = some i := by
    refine List.findIdx?_eq_some_iff_getElem.mpr ⟨by rw [List.length_map]; exact hl, ?_, fun j hj => ?_⟩
    · rw [List.getElem_map, e, emb_map]
      exact decide_eq_true rfl
    · rw [List.getElem_map, emb_map]
      have := h2 j l[j] hj (List.getElem?_eq_getElem (by omega))
      simp [this]
  rw [hf]
  rfl
theorem rows_more (R : Rnd a t s) {m : Nat} (hm : 0 < m) (hm2 : m < 100000) (o2 o3 : Option PyData) :
    g__law_rows_1b0 [some (mpD a), some (.list ((rowsL a m).map mpD)), o2, o3] = some (.nx [some (mpD a), some (.list ((rowsL a m).map mpD)), some (mpD (rowK a m)), o3]) := by
  obtain ⟨m, rfl⟩ : ∃ k, m = k + 1 := ⟨m - 1, by omega⟩
  have hat : atI ((rowsL a (m + 1)).map mpD) (-1) = some (mpD (rowK a m)) := by
    unfold atI
    rw [List.length_map, rowsL_len]
    have e : ixN (m + 1) (-1) = some m := ixN_last m
    rw [e, Option.bind_some, List.getElem?_map, rowsL_get (by omega)]
    rfl
  have ht := lthen_ok (rowK_wf R.inn m) R.inn.wf (by show a.1 = _; exact R.inn.same)
  have e := rowK_thn R.inn m 1
  rw [rowK_one R.inn] at e
  rw [e] at ht
  generalize rowK a (m + 1) = Y at *
  generalize rowK a m = Z at *
  generalize (rowsL a (m + 1)).map mpD = W at *
  simp [g__law_rows_1b0, hat, ht]
theorem rows_loop (R : Rnd a t s) : ∀ (n m i : Nat) (o2 o3 : Option PyData), 0 < i → m + i = maxs t a.2.length + lcms s a.2.length → m < n →
    whileF (fTru (fC (.bool true))) g__law_rows_1b n [some (mpD a), some (.list ((rowsL a i).map mpD)), o2, o3] = some (.ret (.tuple [.list ((rowsL a (maxs t a.2.length + lcms s a.2.length)).map mpD), .int (maxs t a.2.length : Nat)]))
  | 0, m, i, o2, o3, hi, e, hn => by omega
  | n + 1, m, i, o2, o3, hi, e, hn => by
    have hT := R.T
    have hL := R.L
    have e0 := rows_more R hi (by omega) o2 o3
    have hin := gIn_maps false (rowsL a i) (rowK a i)
    show ((fTru (fC (.bool true))) _).bind _ = _
    rw [show (fTru (fC (.bool true))) [some (mpD a), some (.list ((rowsL a i).map mpD)), o2, o3] = some true from rfl, Option.bind_some, if_pos rfl]
    by_cases hm : m = 0
    · have hI : i = maxs t a.2.length + lcms s a.2.length := by omega
      have eq : rowK a (maxs t a.2.length) = rowK a i := (R.row (by omega)).mpr ⟨Nat.le_refl _, by rw [hI, Nat.add_sub_cancel_left]; exact Nat.dvd_refl _⟩
      have mem : rowK a i ∈ rowsL a i := List.mem_of_getElem? (i := maxs t a.2.length) (by rw [rowsL_get (by omega), eq])
      have hx := gIdxD_maps (l := rowsL a i) (x := rowK a i) (i := maxs t a.2.length) (by rw [rowsL_get (by omega), eq]) fun j y hj hy z => by
        rw [rowsL_get (by omega)] at hy
        cases hy
        have := ((R.row (show j < i by omega)).mp z).1
        omega
      rw [decide_eq_true mem] at hin
      have e1 : g__law_rows_1b [some (mpD a), some (.list ((rowsL a i).map mpD)), o2, o3] = some (.ret (.tuple [.list ((rowsL a i).map mpD), .int (maxs t a.2.length : Nat)])) := by
        unfold g__law_rows_1b
        rw [blk_nx e0]
        refine blk_ret ?_
        generalize (rowsL a i).map mpD = W at *
        generalize rowK a i = Z at *
        simp [g__law_rows_1b1, g__law_rows_1b1t0, hin, hx]
      rw [e1, Option.bind_some, hI]
    · have mem : ¬ rowK a i ∈ rowsL a i := fun z => by
        obtain ⟨j, hj⟩ := List.mem_iff_getElem?.mp z
        have hji : j < i := by
          have := (List.getElem?_eq_some_iff.mp hj).1
          rwa [rowsL_len] at this
        rw [rowsL_get hji] at hj
        obtain ⟨h1, h2⟩ := (R.row hji).mp (Option.some.inj hj)
        have := Nat.le_of_dvd (by omega) h2
        omega
      rw [decide_eq_false mem] at hin
      have e1 : g__law_rows_1b [some (mpD a), some (.list ((rowsL a i).map mpD)), o2, o3] = some (.nx [some (mpD a), some (.list ((rowsL a (i + 1)).map mpD)), some (mpD (rowK a i)), o3]) := by
        unfold g__law_rows_1b
        rw [blk_nx e0]
        have hlen : (rowsL a i).length < 1000000 := by rw [rowsL_len]; omega
        have hlen2 : ((rowsL a i).map mpD).length < 1000000 := by rw [List.length_map]; exact hlen
        rw [rowsL_succ, List.map_append]
        generalize (rowsL a i).map mpD = W at *
        generalize rowK a i = Z at *
        simp [g__law_rows_1b1, g__law_rows_1b2, hin, hlen2]
      rw [e1, Option.bind_some]
      exact rows_loop R n (m - 1) (i + 1) _ _ (by omega) (by omega) (by omega)
theorem rows_eq (R : Rnd a t s) : phi__law_rows [mpD a] = some (.ok (.tuple [.list ((rowsL a (maxs t a.2.length + lcms s a.2.length)).map mpD), .int (maxs t a.2.length : Nat)])) := by
  have hT := R.T
  have hL := R.L
  have hs := R.inn.same
  have hf := R.few
  have e0 : g__law_rows_0 [some (mpD a), none, none, none] = some (.nx [some (mpD a), some (.list ((rowsL a 1).map mpD)), none, none]) := by
    have q := lc_rgI (vs := [3]) (j := 3) (fn := f2 gIx (fVar 0) (fC (.int 0))) (f := fVar 3) (ρ := [some (mpD a), none, none, none]) (n := a.1) (g := fun i => (i : Int)) (by simp) (by omega) (fun i hi => by simp)
    have e : (List.range a.1.toNat).map (fun (i : Nat) => (i : Int)) = idr a.2.length := by rw [hs]; rfl
    rw [e] at q
    have hr : (rowsL a 1).map mpD = [.tuple [.int a.1, .tuple ((idr a.2.length).map .int)]] := by
      show [mpD (rowK a 0)] = _
      rw [rowK_zero]
      rfl
    rw [hr]
    simp [g__law_rows_0, q]
  have e1 : g__law_rows [some (mpD a), none, none, none] = some (.ret (.tuple [.list ((rowsL a (maxs t a.2.length + lcms s a.2.length)).map mpD), .int (maxs t a.2.length : Nat)])) := by
    unfold g__law_rows
    rw [blk_nx e0]
    exact rows_loop R 1000000 (maxs t a.2.length + lcms s a.2.length - 1) 1 none none (by omega) (by omega) (by omega)
  exact def_ret rfl e1
end Lw

namespace Lw
open PySem PySem.Spec PyProof.Rows L2 DL
variable {a : Mp} {t s : Nat → Nat}
theorem same_eq9 {n : Nat} (hn : n ≤ 1000) : phi_same [.int (n : Nat)] = some (.ok (mpD ((n : Nat), idr n))) := by
  have hz : (n : Int) ≤ 1000000 := by omega
  have e : g_same [some (.int (n : Nat))] = some (.ret (.tuple [.int (n : Nat), .tuple ((idr n).map .int)])) := by
    simp [g_same, g_same_0, rgD_idr, hz]
  exact def_ret rfl e
theorem bit_and (y : Nat) : Builtin.bitAnd ((y : Nat) : Int) 1 = ((y % 2 : Nat) : Int) := by
  unfold Builtin.bitAnd
  have h1 : decide (0 ≤ ((y : Nat) : Int)) = true := decide_eq_true (Int.natCast_nonneg y)
  have h2 : decide ((0 : Int) ≤ 1) = true := rfl
  rw [h1, h2]
  show (((y : Int).toNat &&& (1 : Int).toNat : Nat) : Int) = _
  rw [Int.toNat_natCast, show (1 : Int).toNat = 1 from rfl, Nat.and_one_is_mod]
theorem half_bit (x k : Nat) : x / 2 ^ k = x / 2 ^ (k + 1) + x / 2 ^ (k + 1) + x / 2 ^ k % 2 := by
  have : x / 2 ^ (k + 1) = x / 2 ^ k / 2 := by rw [Nat.pow_succ, Nat.div_div_eq_div_mul]
  rw [this]
  omega
theorem often_turn (R : Rnd a t s) (x k : Nat) (o : Option PyData) :
    g_often_2b [some (mpD a), some (.int (x : Nat)), some (mpD (rowK a (x / 2 ^ (k + 1)))), some (.int (k : Nat))] = some (.nx [some (mpD a), some (.int (x : Nat)), some (mpD (rowK a (x / 2 ^ k))), some (.int (k : Nat))]) := by
  have hb := half_bit x k
  generalize hy : x / 2 ^ (k + 1) = y at hb
  have t1 := then_ok (rowK_wf R.inn y) (rowK_wf R.inn y) (by show a.1 = _; rw [rowK_len]; exact R.inn.same)
  rw [rowK_thn R.inn] at t1
  have t2 := then_ok (rowK_wf R.inn (y + y)) R.inn.wf (by show a.1 = _; exact R.inn.same)
  have e := rowK_thn R.inn (y + y) 1
  rw [rowK_one R.inn] at e
  rw [e] at t2
  have hd : ((x : Nat) : Int) / 2 ^ ((k : Nat) : Int).toNat = ((x / 2 ^ k : Nat) : Int) := by
    rw [Int.toNat_natCast]
    norm_cast
  have hband := bit_and (x / 2 ^ k)
  have c0 : (0 : Int) ≤ ((k : Nat) : Int) := Int.natCast_nonneg k
  rcases Nat.mod_two_eq_zero_or_one (x / 2 ^ k) with h0 | h0
  · rw [h0] at hband hb
    have hz : x / 2 ^ k = y + y := hb
    rw [hz] at hd hband
    rw [hz]
    generalize rowK a (y + y) = Z at *
    generalize rowK a y = Y at *
    simp only [g_often_2b, g_often_2b0, g_often_2b1, gBlk, gSetQ, qCall, fCons, fNil, fVar, List.getElem?_cons_zero, List.getElem?_cons_succ, Option.bind_some, t1, List.set_cons_succ, List.set_cons_zero, gIf, fB, f2, gIc, gI, if_pos c0, hd, fC, hband]
    simp
  · rw [h0] at hband hb
    have hz : x / 2 ^ k = y + y + 1 := hb
    rw [hz] at hd hband
    rw [hz]
    generalize rowK a (y + y + 1) = Z1 at *
    generalize rowK a (y + y) = Z at *
    generalize rowK a y = Y at *
    simp only [g_often_2b, g_often_2b0, g_often_2b1, g_often_2b1t0, gBlk, gSetQ, qCall, fCons, fNil, fVar, List.getElem?_cons_zero, List.getElem?_cons_succ, Option.bind_some, t1, t2, List.set_cons_succ, List.set_cons_zero, gIf, fB, f2, gIc, gI, if_pos c0, hd, fC, hband]
    simp [t2]
theorem often_loop (R : Rnd a t s) (x : Nat) : ∀ (n : Nat) (o : Option PyData),
    ∃ o', forF (hName 3) g_often_2b (rvD n) [some (mpD a), some (.int (x : Nat)), some (mpD (rowK a (x / 2 ^ n))), o] = some (.nx [some (mpD a), some (.int (x : Nat)), some (mpD (rowK a x)), o'])
  | 0, o => ⟨o, by
    show some (Out.nx _) = _
    rw [Nat.pow_zero, Nat.div_one]⟩
  | n + 1, o => by
    obtain ⟨o', h⟩ := often_loop R x n (some (.int (n : Nat)))
    refine ⟨o', ?_⟩
    have e : rvD (n + 1) = .int (n : Nat) :: rvD n := by
      unfold rvD
      rw [List.range_succ_eq_map, List.map_cons, List.map_map]
      refine congr (congrArg List.cons ?_) (List.map_congr_left fun i _ => ?_)
      · show PyData.int _ = _
        congr 1
        omega
      · show PyData.int _ = PyData.int _
        congr 1
        show ((n + 1 : Nat) : Int) - 1 - ((i + 1 : Nat) : Int) = _
        omega
    rw [e]
    unfold forF
    rw [show hName 3 (.int (n : Nat)) [some (mpD a), some (.int (x : Nat)), some (mpD (rowK a (x / 2 ^ (n + 1)))), o] = some [some (mpD a), some (.int (x : Nat)), some (mpD (rowK a (x / 2 ^ (n + 1)))), some (.int (n : Nat))] from rfl, Option.bind_some, often_turn R x n o, Option.bind_some]
    exact h
theorem often_eq (R : Rnd a t s) {x : Nat} (hx : Builtin.Int.intBits (x : Int) ≤ 1000000) : phi_often [mpD a, .int (x : Nat)] = some (.ok (mpD (rowK a x))) := by
  have i0 := inner_ok R.inn.same (by have := R.inn.same; have := R.pos; omega)
  have hs := R.inn.same
  have hf := R.few
  have e0 : g_often_0 [some (mpD a), some (.int (x : Nat)), none, none] = some (.nx [some (mpD a), some (.int (x : Nat)), none, none]) := by
    simp [g_often_0, i0]
  have sm := same_eq9 (n := a.2.length) (by omega)
  rw [← hs, ← rowK_zero] at sm
  have e1 : g_often_1 [some (mpD a), some (.int (x : Nat)), none, none] = some (.nx [some (mpD a), some (.int (x : Nat)), some (mpD (rowK a 0)), none]) := by
    generalize rowK a 0 = Z at *
    simp [g_often_1, sm]
  obtain ⟨o', e2⟩ := often_loop R x (Builtin.Int.intBits (x : Int)) none
  have hlt : x < 2 ^ (Builtin.Int.intBits (x : Int)) := by
    have := (intBits_le_iff (x := (x : Int)) (m := Builtin.Int.intBits (x : Int))).mp (Nat.le_refl _)
    rwa [Int.natAbs_natCast] at this
  rw [Nat.div_eq_of_lt hlt] at e2
  have e3 : g_often_2 [some (mpD a), some (.int (x : Nat)), some (mpD (rowK a 0)), none] = some (.nx [some (mpD a), some (.int (x : Nat)), some (mpD (rowK a x)), o']) := by
    unfold g_often_2 gFor
    have hB : B62 ((Builtin.Int.intBits (x : Int) : Nat) : Int) := ⟨by omega, by omega⟩
    have hi : iRv (f1 gBits (fVar 1)) [some (mpD a), some (.int (x : Nat)), some (mpD (rowK a 0)), none] = some (rvD (Builtin.Int.intBits (x : Int))) := by
      simp [hB]
    rw [hi, Option.bind_some]
    exact e2
  have e : g_often [some (mpD a), some (.int (x : Nat)), none, none] = some (.ret (mpD (rowK a x))) := by
    unfold g_often
    rw [blk_nx e0, blk_nx e1, blk_nx e3]
    simp [g_often_3]
  exact def_ret rfl e
theorem often_no {x : Int} (h : ¬ (a.1 = (a.2.length : Nat) ∧ 0 < a.1)) : phi_often [mpD a, .int x] = some (.error 2) := by
  have i0 := inner_no h
  have e : g_often [some (mpD a), some (.int x), none, none] = some (.exc 2 [some (mpD a), some (.int x), none, none]) := by
    unfold g_often
    exact blk_exc (by simp [g_often_0, i0])
  exact def_exc rfl e
end Lw

namespace Lw
open PySem PySem.Spec PyProof.Rows L2 DL
/-- a row turned so that its least stands first -/
def rot (l : List Int) : List Int := l.drop (ixI l (minI l)) ++ l.take (ixI l (minI l))
theorem rot_len (l : List Int) : (rot l).length = l.length := by
  unfold rot
  rw [List.length_append, List.length_drop, List.length_take]
  omega
/-- the ring of a thing, from where one comes into it -/
def rg (a : Mp) (k t s : Nat) : List Int := (trc a k (t + s)).drop t
theorem rg_len (a : Mp) (k t s : Nat) : (rg a k t s).length = s := by
  unfold rg
  rw [List.length_drop, trc_len]
  omega
theorem rotD {l : List Int} (hne : l ≠ []) (hl : l.length ≤ 1000) : gIdx (.list (l.map .int)) (.int (minI l)) = some (.int (ixI l (minI l))) := gIdx_list (minI_spec hne).1
theorem ring_eq {a : Mp} (h : Inn a) {k t s : Nat} (hk : k < a.2.length) (o : Orb (nxt a) k t s) (hp : t + s ≤ 1000) : phi_ring [mpD a, .int (k : Nat)] = some (.ok (.tuple ((rot (rg a k t s)).map .int))) := by
  have w := walk_eq h hk o hp
  have i0 := inner_ok h.same (by have := h.same; omega)
  have hm : ((itr (nxt a) t k : Nat) : Int) ∈ trc a k (t + s) := trc_mem.mpr ⟨t, by have := o.pos; omega, rfl⟩
  have g := gIdx_list hm
  rw [trc_ix o] at g
  have hc : cutA (trc a k (t + s)) (some ((t : Nat) : Int)) none = rg a k t s := by
    rw [cutA_from _ (Int.natCast_nonneg t), Int.toNat_natCast]
    rfl
  have hne : rg a k t s ≠ [] := fun z => by
    have := rg_len a k t s
    rw [z] at this
    have := o.pos
    simp at *
    omega
  have hrl := rg_len a k t s
  have hd := rotD hne (by rw [hrl]; omega)
  generalize hR : rg a k t s = r at *
  have c1 := cutA_from r (k := ((ixI r (minI r) : Nat) : Int)) (Int.natCast_nonneg _)
  have c2 := cutA_to r (k := ((ixI r (minI r) : Nat) : Int)) (Int.natCast_nonneg _)
  rw [Int.toNat_natCast] at c1 c2
  have hsz : r.length - ixI r (minI r) + min (ixI r (minI r)) r.length ≤ 1000000 := by omega
  have hrot : rot r = r.drop (ixI r (minI r)) ++ r.take (ixI r (minI r)) := rfl
  generalize trc a k (t + s) = W at *
  generalize itr (nxt a) t k = B at *
  have e0 : g_ring_0 [some (mpD a), some (.int (k : Nat)), none, none, none, none] = some (.nx [some (mpD a), some (.int (k : Nat)), none, none, none, none]) := by
    simp [g_ring_0, i0]
  have e1 : g_ring_1 [some (mpD a), some (.int (k : Nat)), none, none, none, none] = some (.nx [some (mpD a), some (.int (k : Nat)), none, none, some (.list (W.map .int)), some (.int (B : Nat))]) := by
    simp [g_ring_1, w]
  have e2 : g_ring_2 [some (mpD a), some (.int (k : Nat)), none, none, some (.list (W.map .int)), some (.int (B : Nat))] = some (.nx [some (mpD a), some (.int (k : Nat)), some (.list (r.map .int)), none, some (.list (W.map .int)), some (.int (B : Nat))]) := by
    simp [g_ring_2, g, cutA_map, hc]
  have e3 : g_ring_3 [some (mpD a), some (.int (k : Nat)), some (.list (r.map .int)), none, some (.list (W.map .int)), some (.int (B : Nat))] = some (.nx [some (mpD a), some (.int (k : Nat)), some (.list (r.map .int)), some (.int (ixI r (minI r) : Nat)), some (.list (W.map .int)), some (.int (B : Nat))]) := by
    simp [g_ring_3, hd, hne, intsD_map]
  have e : g_ring [some (mpD a), some (.int (k : Nat)), none, none, none, none] = some (.ret (.tuple ((rot r).map .int))) := by
    unfold g_ring
    rw [blk_nx e0, blk_nx e1, blk_nx e2, blk_nx e3, hrot]
    generalize ixI r (minI r) = I at *
    simp [g_ring_4, cutA_map, c1, c2, hsz]
  exact def_ret rfl e
theorem ring_no {a : Mp} {x : Int} (h : ¬ (a.1 = (a.2.length : Nat) ∧ 0 < a.1)) : phi_ring [mpD a, .int x] = some (.error 2) := by
  have i0 := inner_no h
  have e : g_ring [some (mpD a), some (.int x), none, none, none, none] = some (.exc 2 [some (mpD a), some (.int x), none, none, none, none]) := by
    unfold g_ring
    exact blk_exc (by simp [g_ring_0, i0])
  exact def_exc rfl e
theorem tail_no {a : Mp} {x : Int} (h : ¬ (a.1 = (a.2.length : Nat) ∧ 0 < a.1)) : phi_tail [mpD a, .int x] = some (.error 2) := by
  have i0 := inner_no h
  have e : g_tail [some (mpD a), some (.int x), none, none] = some (.exc 2 [some (mpD a), some (.int x), none, none]) := by
    unfold g_tail
    exact blk_exc (by simp [g_tail_0, i0])
  exact def_exc rfl e
theorem beat_no {a : Mp} (h : ¬ (a.1 = (a.2.length : Nat) ∧ 0 < a.1)) : phi_beat [mpD a] = some (.error 2) := by
  have i0 := inner_no h
  have e : g_beat [some (mpD a), none, none, none, none] = some (.exc 2 [some (mpD a), none, none, none, none]) := by
    unfold g_beat
    exact blk_exc (by simp [g_beat_0, i0])
  exact def_exc rfl e
/-! ### the law's own ring -/
theorem trc_last {a : Mp} {k i : Nat} : atI ((trc a k (i + 1)).map PyData.int) (-1) = some (.int ((itr (nxt a) i k : Nat) : Int)) := by
  unfold atI
  rw [List.length_map, trc_len]
  have e : ixN (i + 1) (-1) = some i := ixN_last i
  rw [e, Option.bind_some, trc_succ, List.map_append, List.getElem?_append_right (by rw [List.length_map, trc_len]; exact Nat.le_refl _), List.length_map, trc_len, Nat.sub_self]
  rfl
theorem row_next {a : Mp} (h : Inn a) {k : Nat} (hk : k < a.2.length) (i : Nat) : gIx (.tuple (a.2.map .int)) (.int ((itr (nxt a) i k : Nat) : Int)) = some (.int ((itr (nxt a) (i + 1) k : Nat) : Int)) := by
  have hx : itr (nxt a) i k < a.2.length := itr_lt (f := nxt a) (fun x hx => nxt_lt h hx) hk i
  rw [ix_row (m := a) hx]
  have := getD_lt h.wf hx
  congr 2
  show _ = (((a.2.getD (itr (nxt a) i k) 0).toNat : Nat) : Int)
  omega
theorem lring_loop {a : Mp} (h : Inn a) {k t s : Nat} (hk : k < a.2.length) (o : Orb (nxt a) k t s) (hp : t + s ≤ 1000) : ∀ (n m i : Nat), m + (i + 1) = t + s → m < n →
    whileF (fB (f2 (gIn true) (f2 gIx (f2 gIx (fVar 0) (fC (.int 1))) (f2 gIx (fVar 2) (f1 gNeg (fC (.int 1))))) (fVar 2))) g__law_ring_1b0 n [some (mpD a), some (.int (k : Nat)), some (.list ((trc a k (i + 1)).map .int)), none, none, none]
      = some (.nx [some (mpD a), some (.int (k : Nat)), some (.list ((trc a k (t + s)).map .int)), none, none, none])
  | 0, m, i, e, hn => by omega
  | n + 1, m, i, e, hn => by
    have hl := trc_last (a := a) (k := k) (i := i)
    have hx := row_next h hk i
    have hin := gIn_intsL true (trc a k (i + 1)) ((itr (nxt a) (i + 1) k : Nat) : Int)
    by_cases hm : m = 0
    · have hI : i + 1 = t + s := by omega
      have mem : ((itr (nxt a) (i + 1) k : Nat) : Int) ∈ trc a k (i + 1) := trc_mem.mpr ⟨t, by have := o.pos; omega, by rw [hI]; exact o.back.symm⟩
      rw [decide_eq_true mem] at hin
      rw [← hI]
      refine while_f ?_
      generalize (trc a k (i + 1)).map PyData.int = W at *
      generalize itr (nxt a) (i + 1) k = Y at *
      generalize itr (nxt a) i k = Z at *
      simp [hl, hx, hin, -gIx_tuple]
    · have mem : ¬ ((itr (nxt a) (i + 1) k : Nat) : Int) ∈ trc a k (i + 1) := fun z => by
        obtain ⟨j, hj, ej⟩ := trc_mem.mp z
        exact o.new j (i + 1) hj (by omega) ej
      rw [decide_eq_false mem] at hin
      have ih := lring_loop h hk o hp n (m - 1) (i + 1) (by omega) (by omega)
      have hlen : ((trc a k (i + 1)).map PyData.int).length < 1000000 := by rw [List.length_map, trc_len]; omega
      rw [trc_succ a k (i + 1), List.map_append] at ih
      rw [while_t (ρ' := [some (mpD a), some (.int (k : Nat)), some (.list ((trc a k (i + 1)).map .int ++ [((itr (nxt a) (i + 1) k : Nat) : Int)].map .int)), none, none, none])]
      · exact ih
      · generalize (trc a k (i + 1)).map PyData.int = W at *
        generalize itr (nxt a) (i + 1) k = Y at *
        generalize itr (nxt a) i k = Z at *
        simp [hl, hx, hin, -gIx_tuple]
      · generalize (trc a k (i + 1)).map PyData.int = W at *
        generalize itr (nxt a) (i + 1) k = Y at *
        generalize itr (nxt a) i k = Z at *
        simp [g__law_ring_1b0, hl, hx, hlen, -gIx_tuple]
theorem lring_eq {a : Mp} (h : Inn a) {k t s : Nat} (hk : k < a.2.length) (o : Orb (nxt a) k t s) (hp : t + s ≤ 1000) : phi__law_ring [mpD a, .int (k : Nat)] = some (.ok (.tuple [.tuple ((rot (rg a k t s)).map .int), .int (t : Nat)])) := by
  have hpos := o.pos
  have hm : ((itr (nxt a) t k : Nat) : Int) ∈ trc a k (t + s) := trc_mem.mpr ⟨t, by omega, rfl⟩
  have g := gIdx_list hm
  rw [trc_ix o] at g
  have hc : cutA (trc a k (t + s)) (some ((t : Nat) : Int)) none = rg a k t s := by
    rw [cutA_from _ (Int.natCast_nonneg t), Int.toNat_natCast]
    rfl
  have hrl := rg_len a k t s
  have hne : rg a k t s ≠ [] := fun z => by
    rw [z] at hrl
    simp at hrl
    omega
  have hd := rotD hne (by rw [hrl]; omega)
  have hloop := lring_loop h hk o hp 1000000 (t + s - 1) 0 (by omega) (by omega)
  have hl := trc_last (a := a) (k := k) (i := t + s - 1)
  have hx := row_next h hk (t + s - 1)
  rw [show t + s - 1 + 1 = t + s by omega] at hl hx
  rw [o.back] at hx
  have e0 : g__law_ring_0 [some (mpD a), some (.int (k : Nat)), none, none, none, none] = some (.nx [some (mpD a), some (.int (k : Nat)), some (.list ((trc a k (0 + 1)).map .int)), none, none, none]) := by
    have : (trc a k (0 + 1)).map PyData.int = [.int (k : Nat)] := rfl
    rw [this]
    simp [g__law_ring_0]
  generalize hR : rg a k t s = r at *
  have c1 := cutA_from r (k := ((ixI r (minI r) : Nat) : Int)) (Int.natCast_nonneg _)
  have c2 := cutA_to r (k := ((ixI r (minI r) : Nat) : Int)) (Int.natCast_nonneg _)
  rw [Int.toNat_natCast] at c1 c2
  have hsz : r.length - ixI r (minI r) + min (ixI r (minI r)) r.length ≤ 1000000 := by omega
  have hrot : rot r = r.drop (ixI r (minI r)) ++ r.take (ixI r (minI r)) := rfl
  generalize trc a k (0 + 1) = W0 at *
  generalize trc a k (t + s) = W at *
  generalize itr (nxt a) t k = B at *
  generalize itr (nxt a) (t + s - 1) k = C at *
  have e1 : g__law_ring_z0 [some (mpD a), some (.int (k : Nat)), some (.list (W.map .int)), none, none, none] = some (.nx [some (mpD a), some (.int (k : Nat)), some (.list (W.map .int)), some (.int (t : Nat)), none, none]) := by
    simp [g__law_ring_z0, hl, hx, g, -gIx_tuple]
  have e2 : g__law_ring_z1 [some (mpD a), some (.int (k : Nat)), some (.list (W.map .int)), some (.int (t : Nat)), none, none] = some (.nx [some (mpD a), some (.int (k : Nat)), some (.list (W.map .int)), some (.int (t : Nat)), some (.list (r.map .int)), none]) := by
    simp [g__law_ring_z1, cutA_map, hc]
  have e3 : g__law_ring_z2 [some (mpD a), some (.int (k : Nat)), some (.list (W.map .int)), some (.int (t : Nat)), some (.list (r.map .int)), none] = some (.nx [some (mpD a), some (.int (k : Nat)), some (.list (W.map .int)), some (.int (t : Nat)), some (.list (r.map .int)), some (.int (ixI r (minI r) : Nat))]) := by
    simp [g__law_ring_z2, hd, hne, intsD_map]
  have e4 : g__law_ring_z3 [some (mpD a), some (.int (k : Nat)), some (.list (W.map .int)), some (.int (t : Nat)), some (.list (r.map .int)), some (.int (ixI r (minI r) : Nat))] = some (.ret (.tuple [.tuple ((rot r).map .int), .int (t : Nat)])) := by
    rw [hrot]
    generalize ixI r (minI r) = I at *
    simp [g__law_ring_z3, cutA_map, c1, c2, hsz]
  have e : g__law_ring [some (mpD a), some (.int (k : Nat)), none, none, none, none] = some (.ret (.tuple [.tuple ((rot r).map .int), .int (t : Nat)])) := by
    unfold g__law_ring
    rw [blk_nx e0, show g__law_ring_1 = whileF (fB (f2 (gIn true) (f2 gIx (f2 gIx (fVar 0) (fC (.int 1))) (f2 gIx (fVar 2) (f1 gNeg (fC (.int 1))))) (fVar 2))) g__law_ring_1b0 1000000 from rfl, blk_nx hloop]
    unfold g__law_ring_rest gRets g__law_ring_z
    rw [blk_nx e1, blk_nx e2, blk_nx e3, e4]
    rfl
  exact def_ret rfl e
end Lw

namespace Lw
open PySem PySem.Spec PyProof.Rows L2 DL
variable {a : Mp} {t s : Nat → Nat}
theorem maxI_range (t : Nat → Nat) {n : Nat} (hn : 0 < n) : maxI ((List.range n).map fun k => ((t k : Nat) : Int)) = ((maxs t n : Nat) : Int) := by
  have hne : (List.range n).map (fun k => ((t k : Nat) : Int)) ≠ [] := fun z => by
    have := congrArg List.length z
    rw [List.length_map, List.length_range] at this
    simp at this
    omega
  obtain ⟨h1, h2⟩ := maxI_spec hne
  generalize maxI ((List.range n).map fun k => ((t k : Nat) : Int)) = M at h1 h2
  obtain ⟨k, hk, rfl⟩ := List.mem_map.mp h1
  have a1 : t k ≤ maxs t n := (maxs_le t n _).mp (Nat.le_refl _) k (List.mem_range.mp hk)
  have a2 : maxs t n ≤ t k := (maxs_le t n _).mpr fun j hj => by
    have := h2 _ (List.mem_map.mpr ⟨j, List.mem_range.mpr hj, rfl⟩)
    omega
  omega
theorem intsD_range (g : Nat → Int) (l : List Nat) : intsD ((l.map g).map .int) = some (l.map g) := intsD_map _
theorem lcms_div (s : Nat → Nat) (i : Nat) : (((lcms s i : Nat) : Int) * ((s i : Nat) : Int)) / ((Nat.gcd (lcms s i) (s i) : Nat) : Int) = ((lcms s (i + 1) : Nat) : Int) := by
  show _ = ((Nat.lcm (lcms s i) (s i) : Nat) : Int)
  unfold Nat.lcm
  norm_cast
theorem beat_turn (R : Rnd a t s) {i : Nat} (hi : i < a.2.length) (T : Int) (o4 : Option PyData) :
    g_beat_3b [some (mpD a), some (.int T), some (.int (lcms s i : Nat)), some (.int (i : Nat)), o4] = some (.nx [some (mpD a), some (.int T), some (.int (lcms s (i + 1) : Nat)), some (.int (i : Nat)), some (.int (s i : Nat))]) := by
  have hle := R.le i hi
  have r := ring_eq R.inn hi (R.orb i hi) (by omega)
  have hlen : (rot (rg a i (t i) (s i))).length = s i := by rw [rot_len, rg_len]
  have cm := common_eq (a := lcms s i) (b := s i) (by omega)
  have hd := lcms_div s i
  have hL : lcms s i ∣ 2520 := lcms_le fun k hk => ⟨R.sp k, by have := R.le k (by omega); omega⟩
  have hL2 := Nat.le_of_dvd (by decide) hL
  have hM : MulOk ((lcms s i : Nat) : Int) ((s i : Nat) : Int) := mulOk (by omega) (by omega)
  have hs := R.sp i
  have hg : CDiv (((lcms s i : Nat) : Int) * ((s i : Nat) : Int)) ((Nat.gcd (lcms s i) (s i) : Nat) : Int) := by
    have h1 := Nat.gcd_pos_of_pos_right (lcms s i) hs
    have h2 := Nat.gcd_le_right (lcms s i) hs
    exact ⟨by omega, by omega⟩
  have hr : (PyData.tuple ((rot (rg a i (t i) (s i))).map .int)) = PyData.tuple ((rot (rg a i (t i) (s i))).map .int) := rfl
  generalize lcms s (i + 1) = L1 at *
  generalize lcms s i = L0 at *
  generalize rot (rg a i (t i) (s i)) = W at *
  have hz : ((W.length : Nat) : Int) = ((s i : Nat) : Int) := by rw [hlen]
  generalize s i = S at *
  generalize hG : ((Nat.gcd L0 S : Nat) : Int) = G at *
  simp [g_beat_3b, g_beat_3b0, g_beat_3b1, r, hlen, cm, hM, hg, hd]
theorem beat_eq (R : Rnd a t s) : phi_beat [mpD a] = some (.ok (.tuple [.int (maxs t a.2.length : Nat), .int (lcms s a.2.length : Nat)])) := by
  have i0 := inner_ok R.inn.same (by have := R.inn.same; have := R.pos; omega)
  have hs := R.inn.same
  have hf := R.few
  have hp := R.pos
  have e0 : g_beat_0 [some (mpD a), none, none, none, none] = some (.nx [some (mpD a), none, none, none, none]) := by
    simp [g_beat_0, i0]
  have q := lc_rgI (vs := [3]) (j := 3) (fn := f2 gIx (fVar 0) (fC (.int 0))) (f := fCall phi_tail (fCons (fVar 0) (fCons (fVar 3) fNil))) (ρ := [some (mpD a), none, none, none, none]) (n := a.1) (g := fun i => ((t i : Nat) : Int)) (by simp) (by omega) (fun i hi => by
    have hk : i < a.2.length := by omega
    have te := tail_eq R.inn hk (R.orb i hk) (by have := R.le i hk; omega)
    simp [te])
  have hn : a.1.toNat = a.2.length := by omega
  rw [hn] at q
  have hmax := maxI_range t hp
  have hint := intsD_range (fun i => ((t i : Nat) : Int)) (List.range a.2.length)
  have hne : (List.range a.2.length).map (fun i => ((t i : Nat) : Int)) ≠ [] := fun z => by
    have := congrArg List.length z
    rw [List.length_map, List.length_range] at this
    exact absurd this (by show ¬ a.2.length = 0; omega)
  generalize (List.range a.2.length).map (fun i => ((t i : Nat) : Int)) = W at *
  generalize hT : ((maxs t a.2.length : Nat) : Int) = T at *
  have e1 : g_beat_1 [some (mpD a), none, none, none, none] = some (.nx [some (mpD a), some (.int T), none, none, none]) := by
    simp [g_beat_1, q, hint, hne, hmax]
  have e2 : g_beat_2 [some (mpD a), some (.int T), none, none, none] = some (.nx [some (mpD a), some (.int T), some (.int (lcms s 0 : Nat)), none, none]) := rfl
  have hB : B62 a.1 := ⟨by omega, by omega⟩
  have hi : iR1 (f2 gIx (fVar 0) (fC (.int 0))) [some (mpD a), some (.int T), some (.int (lcms s 0 : Nat)), none, none] = some (rgD 0 a.2.length) := by
    simp [hB, hn]
  have e3 := for_rg (j := 3) (b := g_beat_3b) (fun i ρ => i ≤ a.2.length ∧ ∃ o3 o4, ρ = [some (mpD a), some (.int T), some (.int (lcms s i : Nat)), o3, o4]) (fun _ => False) hi (fun i hi ρ hρ => by
    obtain ⟨_, o3, o4, rfl⟩ := hρ
    have := beat_turn R hi T o4
    refine .inl ⟨_, ?_, hi, some (.int (i : Nat)), some (.int (s i : Nat)), rfl⟩
    rw [Int.zero_add]
    exact this) ⟨Nat.zero_le _, none, none, rfl⟩
  rcases e3 with ⟨ρ', e3, _, o3, o4, rfl⟩ | ⟨_, _, z⟩
  · have e : g_beat [some (mpD a), none, none, none, none] = some (.ret (.tuple [.int T, .int (lcms s a.2.length : Nat)])) := by
      unfold g_beat
      rw [blk_nx e0, blk_nx e1, blk_nx e2, show g_beat_3 = gFor (iR1 (f2 gIx (fVar 0) (fC (.int 0)))) (hName 3) g_beat_3b from rfl, blk_nx e3]
      simp [g_beat_4]
    exact def_ret rfl e
  · exact z.elim
end Lw

namespace Lw
open PySem PySem.Spec PyProof.Rows L2 DL
variable {a : Mp} {t s : Nat → Nat}
theorem self_eq (c : Int) : ∃ a : Mp, Inn a ∧ 0 < a.2.length ∧ a.2.length ≤ 9 ∧ phi__law_self [.int c, .int 9] = some (.ok (mpD a)) := by
  have hm := mix_lt (c := c) (p := 9923) (m := 9) (by omega)
  have e := mix_eq (c := c) (p := 9923) (m := 9) (by omega) (by omega)
  generalize c * 48271 % 9923 % 9 = m at hm e
  obtain ⟨a, w, h1, h2, h3, h4⟩ := mp_eq (c := c) (many := 1 + m) (to := 1 + m) ⟨by omega, by omega⟩ ⟨by omega, by omega⟩
  have h5 := h3 (by omega)
  have e1 : g__law_self [some (.int c), some (.int 9), none] = some (.ret (mpD a)) := by
    simp [g__law_self, g__law_self_0, g__law_self_1, e, h4]
  exact ⟨a, ⟨w, by omega⟩, by omega, by omega, def_ret rfl e1⟩
theorem refused_yes {a : Mp} (h : ¬ (a.1 = (a.2.length : Nat) ∧ 0 < a.1)) {i : Nat} (hi : i < 4) : phi__law_refused [.int (i : Nat), mpD a] = some (.ok (.bool true)) := by
  have h0 := often_no (x := 3) h
  have h1 := ring_no (x := 0) h
  have h2 := tail_no (x := 0) h
  have h3 := beat_no h
  have hi4 : i = 0 ∨ i = 1 ∨ i = 2 ∨ i = 3 := by omega
  rcases hi4 with rfl | rfl | rfl | rfl <;>
  simp [phi__law_refused, g__law_refused, g__law_refused_0, g__law_refused_1, g__law_refused_1y0, g__law_refused_1y0t0, g__law_refused_1y0e0, g__law_refused_1y0e0t0, g__law_refused_1y0e0e0, g__law_refused_1y0e0e0t0, g__law_refused_1y0e0e0e0, g__law_refused_1x0, g__law_refused_2, h0, h1, h2, h3]
abbrev lawRho (S : PyData) (o1 o2 o3 o4 o5 o6 o7 o8 o9 o10 o11 o12 o13 : Option PyData) : Rho := [some S, o1, o2, o3, o4, o5, o6, o7, o8, o9, o10, o11, o12, o13]
def Pl (S : PyData) (ρ : Rho) : Prop := ∃ o1 o2 o3 o4 o5 o6 o7 o8 o9 o10 o11 o12 o13, ρ = lawRho S o1 o2 o3 o4 o5 o6 o7 o8 o9 o10 o11 o12 o13
theorem gEq_two (neg : Bool) (x y z w : Int) : gEq neg (.tuple [.int x, .int y]) (.tuple [.int z, .int w]) = some (.bool (xor neg (decide (x = z ∧ y = w)))) := by
  have := gEq_intsT neg [x, y] [z, w]
  simpa using this
theorem kit_ii : kitB "int" "int" = some true := by decide +kernel
theorem kit_ib : kitB "int" "bool" = some false := by decide +kernel
theorem kit_tt : kitB "tuple" "tuple" = some true := by decide +kernel
theorem whole_int (i : Int) : phi__law_whole [.int i] = some (.ok (.bool true)) := by
  simp [phi__law_whole, g__law_whole, g__law_whole_0, kit_ii, kit_ib]
theorem bits_le {x : Nat} (h : (x : Int) < 10 ^ 21) : Builtin.Int.intBits (x : Int) ≤ 1000000 := by
  refine Nat.le_trans (intBits_le_iff (m := 70).mpr ?_) (by decide)
  rw [Int.natAbs_natCast]
  have e1 : (2 : Nat) ^ 70 = 1180591620717411303424 := by decide +kernel
  have e2 : (10 : Int) ^ 21 = 1000000000000000000000 := by decide +kernel
  omega
/-- one of the times -/
theorem times_turn (R : Rnd a t s) {x : Nat} (hx : (x : Int) < 10 ^ 21) (S : PyData) (o1 o2 o4 o6 o7 o8 o11 o12 o13 : Option PyData) :
    ∃ o11', g_law_0b5b (lawRho S o1 o2 (some (mpD a)) o4 (some (.int (x : Nat))) o6 o7 o8 (some (.list ((rowsL a (maxs t a.2.length + lcms s a.2.length)).map mpD))) (some (.int (maxs t a.2.length : Nat))) o11 o12 o13)
      = some (.nx (lawRho S o1 o2 (some (mpD a)) o4 (some (.int (x : Nat))) o6 o7 o8 (some (.list ((rowsL a (maxs t a.2.length + lcms s a.2.length)).map mpD))) (some (.int (maxs t a.2.length : Nat))) o11' o12 o13)) := by
  have hd := R.due x
  have ho := often_eq R (bits_le hx)
  have hL := R.L
  have hlen := rowsL_len a (maxs t a.2.length + lcms s a.2.length)
  have hlenD : ((rowsL a (maxs t a.2.length + lcms s a.2.length)).map mpD).length = maxs t a.2.length + lcms s a.2.length := by rw [List.length_map, hlen]
  have hget : ∀ i, i < maxs t a.2.length + lcms s a.2.length → atI ((rowsL a (maxs t a.2.length + lcms s a.2.length)).map mpD) ((i : Nat) : Int) = some (mpD (rowK a i)) := fun i hi => by
    refine atI_nat ?_
    rw [List.getElem?_map, rowsL_get hi]
    rfl
  generalize (rowsL a (maxs t a.2.length + lcms s a.2.length)).map mpD = W at *
  generalize hT : maxs t a.2.length = T at *
  generalize hLL : lcms s a.2.length = L at *
  by_cases h : T ≤ x
  · rw [if_pos h] at hd
    have hm : (x - T) % L < L := Nat.mod_lt _ hL.1
    have hdue : ((T : Nat) : Int) + (((x : Nat) : Int) - ((T : Nat) : Int)) % (((T + L : Nat) : Int) - ((T : Nat) : Int)) = ((T + (x - T) % L : Nat) : Int) := by
      rw [show ((T + L : Nat) : Int) - ((T : Nat) : Int) = ((L : Nat) : Int) by omega, show ((x : Nat) : Int) - ((T : Nat) : Int) = ((x - T : Nat) : Int) by omega, Int.natCast_add T, Int.natCast_emod]
    have hg := hget (T + (x - T) % L) (by omega)
    rw [hd] at hg
    have hx : ((T : Nat) : Int) ≤ ((x : Nat) : Int) := by omega
    have hpos : (0 : Int) < ((T + L : Nat) : Int) - ((T : Nat) : Int) := by omega
    generalize rowK a x = Y at *
    generalize T + (x - T) % L = D at *
    refine ⟨some (.int (D : Nat)), ?_⟩
    have e0 : g_law_0b5b0 (lawRho S o1 o2 (some (mpD a)) o4 (some (.int (x : Nat))) o6 o7 o8 (some (.list W)) (some (.int (T : Nat))) o11 o12 o13) = some (.nx (lawRho S o1 o2 (some (mpD a)) o4 (some (.int (x : Nat))) o6 o7 o8 (some (.list W)) (some (.int (T : Nat))) (some (.int (x : Nat))) o12 o13)) := by
      simp [g_law_0b5b0]
    have e1 : g_law_0b5b1 (lawRho S o1 o2 (some (mpD a)) o4 (some (.int (x : Nat))) o6 o7 o8 (some (.list W)) (some (.int (T : Nat))) (some (.int (x : Nat))) o12 o13) = some (.nx (lawRho S o1 o2 (some (mpD a)) o4 (some (.int (x : Nat))) o6 o7 o8 (some (.list W)) (some (.int (T : Nat))) (some (.int (D : Nat))) o12 o13)) := by
      unfold g_law_0b5b1
      rw [if_t (by simp [h])]
      unfold g_law_0b5b1t0
      simp only [gAsg, f2, fVar, List.getElem?_cons_zero, List.getElem?_cons_succ, Option.bind_some, fBi, fCons, fNil, gLen, gI, gIc, hlenD, if_pos hpos, gAdd, hdue]
      rfl
    have e2 : g_law_0b5b2 (lawRho S o1 o2 (some (mpD a)) o4 (some (.int (x : Nat))) o6 o7 o8 (some (.list W)) (some (.int (T : Nat))) (some (.int (D : Nat))) o12 o13) = some (.nx (lawRho S o1 o2 (some (mpD a)) o4 (some (.int (x : Nat))) o6 o7 o8 (some (.list W)) (some (.int (T : Nat))) (some (.int (D : Nat))) o12 o13)) := by
      simp [g_law_0b5b2, ho, hg]
    unfold g_law_0b5b
    rw [blk_nx e0, blk_nx e1, e2]
  · have hg := hget x (by omega)
    generalize rowK a x = Y at *
    refine ⟨some (.int (x : Nat)), ?_⟩
    have e0 : g_law_0b5b0 (lawRho S o1 o2 (some (mpD a)) o4 (some (.int (x : Nat))) o6 o7 o8 (some (.list W)) (some (.int (T : Nat))) o11 o12 o13) = some (.nx (lawRho S o1 o2 (some (mpD a)) o4 (some (.int (x : Nat))) o6 o7 o8 (some (.list W)) (some (.int (T : Nat))) (some (.int (x : Nat))) o12 o13)) := by
      simp [g_law_0b5b0]
    have e1 : g_law_0b5b1 (lawRho S o1 o2 (some (mpD a)) o4 (some (.int (x : Nat))) o6 o7 o8 (some (.list W)) (some (.int (T : Nat))) (some (.int (x : Nat))) o12 o13) = some (.nx (lawRho S o1 o2 (some (mpD a)) o4 (some (.int (x : Nat))) o6 o7 o8 (some (.list W)) (some (.int (T : Nat))) (some (.int (x : Nat))) o12 o13)) := by
      unfold g_law_0b5b1
      rw [if_f (by simp [h])]
      rfl
    have e2 : g_law_0b5b2 (lawRho S o1 o2 (some (mpD a)) o4 (some (.int (x : Nat))) o6 o7 o8 (some (.list W)) (some (.int (T : Nat))) (some (.int (x : Nat))) o12 o13) = some (.nx (lawRho S o1 o2 (some (mpD a)) o4 (some (.int (x : Nat))) o6 o7 o8 (some (.list W)) (some (.int (T : Nat))) (some (.int (x : Nat))) o12 o13)) := by
      simp [g_law_0b5b2, ho, hg]
    unfold g_law_0b5b
    rw [blk_nx e0, blk_nx e1, e2]
/-- a thing's ring and tail -/
theorem thing_turn (R : Rnd a t s) {k : Nat} (hk : k < a.2.length) (S : PyData) (o1 o2 o4 o5 o6 o7 o9 o10 o11 o12 o13 : Option PyData) :
    g_law_0b9b0 (lawRho S o1 o2 (some (mpD a)) o4 o5 o6 o7 (some (.int (k : Nat))) o9 o10 o11 o12 o13) = some (.nx (lawRho S o1 o2 (some (mpD a)) o4 o5 o6 o7 (some (.int (k : Nat))) o9 o10 o11 o12 o13)) := by
  have hle := R.le k hk
  have h1 := ring_eq R.inn hk (R.orb k hk) (by omega)
  have h2 := tail_eq R.inn hk (R.orb k hk) (by omega)
  have h3 := lring_eq R.inn hk (R.orb k hk) (by omega)
  generalize rot (rg a k (t k) (s k)) = W at *
  generalize t k = T at *
  simp [g_law_0b9b0, h1, h2, h3]
theorem body_ok (c : Int) (S : PyData) (o2 o3 o4 o5 o6 o7 o8 o9 o10 o11 o12 o13 : Option PyData) : Good (Pl S) g_law_0b (lawRho S (some (.int c)) o2 o3 o4 o5 o6 o7 o8 o9 o10 o11 o12 o13) := by
  obtain ⟨a, hin, hp, hf, e0⟩ := self_eq c
  obtain ⟨t, s, R⟩ := rnd_ex hin hp hf
  have er := rows_eq R
  have eb := beat_eq R
  have hT := R.T
  have hL := R.L
  have tt : ∀ {x : Nat}, (x : Int) < 10 ^ 21 → ∀ (o1 o2 o4 o6 o7 o8 o11 o12 o13 : Option PyData), ∃ o11', g_law_0b5b (lawRho S o1 o2 (some (mpD a)) o4 (some (.int (x : Nat))) o6 o7 o8 (some (.list ((rowsL a (maxs t a.2.length + lcms s a.2.length)).map mpD))) (some (.int (maxs t a.2.length : Nat))) o11 o12 o13)
      = some (.nx (lawRho S o1 o2 (some (mpD a)) o4 (some (.int (x : Nat))) o6 o7 o8 (some (.list ((rowsL a (maxs t a.2.length + lcms s a.2.length)).map mpD))) (some (.int (maxs t a.2.length : Nat))) o11' o12 o13)) := fun hx o1 o2 o4 o6 o7 o8 o11 o12 o13 => times_turn R hx S o1 o2 o4 o6 o7 o8 o11 o12 o13
  have hlen : ((rowsL a (maxs t a.2.length + lcms s a.2.length)).map mpD).length = maxs t a.2.length + lcms s a.2.length := by rw [List.length_map, rowsL_len]
  generalize (rowsL a (maxs t a.2.length + lcms s a.2.length)).map mpD = W at *
  generalize maxs t a.2.length = T at *
  generalize lcms s a.2.length = L at *
  unfold g_law_0b
  refine Good.step (ρ1 := lawRho S (some (.int c)) o2 (some (mpD a)) o4 o5 o6 o7 o8 o9 o10 o11 o12 o13) (by simp [g_law_0b0, e0]) ?_
  refine Good.step (ρ1 := lawRho S (some (.int c)) o2 (some (mpD a)) o4 o5 o6 o7 o8 (some (.list W)) (some (.int (T : Nat))) o11 o12 o13) (by simp [g_law_0b1, er]) ?_
  refine Good.step (ρ1 := lawRho S (some (.int c)) o2 (some (mpD a)) (some (.tuple [.int (T : Nat), .int (L : Nat)])) o5 o6 o7 o8 (some (.list W)) (some (.int (T : Nat))) o11 o12 o13) (by simp [g_law_0b2, eb]) ?_
  have heq := gEq_two true ((T : Nat) : Int) ((L : Nat) : Int) ((T : Nat) : Int) (((T + L : Nat) : Int) - ((T : Nat) : Int))
  rw [decide_eq_true ⟨rfl, by omega⟩] at heq
  refine Good.step (ρ1 := lawRho S (some (.int c)) o2 (some (mpD a)) (some (.tuple [.int (T : Nat), .int (L : Nat)])) o5 o6 o7 o8 (some (.list W)) (some (.int (T : Nat))) o11 o12 o13) (by
    unfold g_law_0b3
    refine if_f ?_
    simp only [bOr, bNot, fTru, f1, gIsi, fVar, List.getElem?_cons_zero, List.getElem?_cons_succ, Option.bind_some, tyD, kit_tt, Option.map_some, gTru, fB, f2, fTup, fCons, fNil, fBi, gLen, hlen, gI]
    rw [if_neg (by decide), if_pos (by show 2 ≤ 1000000; decide), Option.bind_some, heq]
    rfl) ?_
  refine Good.step (ρ1 := lawRho S (some (.int c)) o2 (some (mpD a)) (some (.tuple [.int (T : Nat), .int (L : Nat)])) o5 o6 o7 o8 (some (.list W)) (some (.int (T : Nat))) o11 o12 o13) (by
    have q := lc_sq (vs := [12]) (j := 12) (fs := fVar 4) (f := fCall phi__law_whole (fCons (fVar 12) fNil)) (ρ := lawRho S (some (.int c)) o2 (some (mpD a)) (some (.tuple [.int (T : Nat), .int (L : Nat)])) o5 o6 o7 o8 (some (.list W)) (some (.int (T : Nat))) o11 o12 o13) (w := PyData.int) (l := [((T : Nat) : Int), ((L : Nat) : Int)]) (g := fun _ => .bool true) (d := .tuple [.int (T : Nat), .int (L : Nat)]) rfl rfl (by show 2 ≤ 1000000; decide) (fun x hx => by simp [whole_int])
    unfold g_law_0b4
    refine if_f ?_
    simp [q]) ?_
  have ho : ∀ {x : Nat}, (x : Int) < 10 ^ 21 → phi_often [mpD a, .int (x : Nat)] = some (.ok (mpD (rowK a x))) := fun hx => often_eq R (bits_le hx)
  have hp20 : (10 : Int) ^ (20 : Int).toNat = 100000000000000000000 := by decide +kernel
  have hp9 : (10 : Int) ^ (9 : Int).toNat = 1000000000 := by decide +kernel
  have hp12 : (10 : Int) ^ (12 : Int).toNat = 1000000000000 := by decide +kernel
  have hp21 : (10 : Int) ^ 21 = 1000000000000000000000 := by decide +kernel
  have cp20 : CPow 10 20 := ⟨by decide, by decide, by decide +kernel⟩
  have cp9 : CPow 10 9 := ⟨by decide, by decide, by decide +kernel⟩
  have cp12 : CPow 10 12 := ⟨by decide, by decide, by decide +kernel⟩
  have cd7 : CDiv c 7 := ⟨by decide, by decide⟩
  -- the times
  have st5 : ∃ o5' o11', g_law_0b5 (lawRho S (some (.int c)) o2 (some (mpD a)) (some (.tuple [.int (T : Nat), .int (L : Nat)])) o5 o6 o7 o8 (some (.list W)) (some (.int (T : Nat))) o11 o12 o13) = some (.nx (lawRho S (some (.int c)) o2 (some (mpD a)) (some (.tuple [.int (T : Nat), .int (L : Nat)])) o5' o6 o7 o8 (some (.list W)) (some (.int (T : Nat))) o11' o12 o13)) := by
    have m7 : 0 ≤ c % 7 ∧ c % 7 < 7 := ⟨Int.emod_nonneg _ (by decide), Int.emod_lt_of_pos _ (by decide)⟩
    have m20 : 0 ≤ c % 100000000000000000000 ∧ c % 100000000000000000000 < 100000000000000000000 := ⟨Int.emod_nonneg _ (by decide), Int.emod_lt_of_pos _ (by decide)⟩
    have hds : iSq (fFr (fList (fCons (fC (.int 0)) (fCons (fC (.int 1)) (fCons (f2 (gIc (fun _ j => 0 < j) fun i j => i % j) (fVar 1) (fC (.int 7))) (fCons (f2 (gIc (fun _ j => 0 < j) fun i j => i % j) (fVar 1) (f2 (gIc CPow fun i j => i ^ j.toNat) (fC (.int 10)) (fC (.int 20)))) fNil)))))) (lawRho S (some (.int c)) o2 (some (mpD a)) (some (.tuple [.int (T : Nat), .int (L : Nat)])) o5 o6 o7 o8 (some (.list W)) (some (.int (T : Nat))) o11 o12 o13)
        = some [.int 0, .int 1, .int (c % 7), .int (c % 100000000000000000000)] := by
      simp only [iSq, fFr, fList, fCons, fNil, fC, f2, fVar, gIc, List.getElem?_cons_zero, List.getElem?_cons_succ, Option.bind_some, if_pos cp20, hp20]
      rfl
    have loop := forF_nx (tg := hName 5) (b := g_law_0b5b) (fun ρ => ∃ o5' o11', ρ = lawRho S (some (.int c)) o2 (some (mpD a)) (some (.tuple [.int (T : Nat), .int (L : Nat)])) o5' o6 o7 o8 (some (.list W)) (some (.int (T : Nat))) o11' o12 o13)
      (ds := [.int 0, .int 1, .int (c % 7), .int (c % 100000000000000000000)]) (ρ := lawRho S (some (.int c)) o2 (some (mpD a)) (some (.tuple [.int (T : Nat), .int (L : Nat)])) o5 o6 o7 o8 (some (.list W)) (some (.int (T : Nat))) o11 o12 o13) (fun d hd ρ hρ => by
        obtain ⟨p5, p11, rfl⟩ := hρ
        have key : ∃ x : Nat, d = .int (x : Nat) ∧ (x : Int) < 10 ^ 21 := by
          rw [hp21]
          simp only [List.mem_cons, List.not_mem_nil, or_false] at hd
          rcases hd with rfl | rfl | rfl | rfl
          · exact ⟨0, rfl, by decide⟩
          · exact ⟨1, rfl, by decide⟩
          · exact ⟨(c % 7).toNat, by rw [Int.toNat_of_nonneg m7.1], by rw [Int.toNat_of_nonneg m7.1]; omega⟩
          · exact ⟨(c % 100000000000000000000).toNat, by rw [Int.toNat_of_nonneg m20.1], by rw [Int.toNat_of_nonneg m20.1]; omega⟩
        obtain ⟨x, rfl, hx⟩ := key
        obtain ⟨q11, e⟩ := tt hx (some (.int c)) o2 (some (.tuple [.int (T : Nat), .int (L : Nat)])) o6 o7 o8 p11 o12 o13
        exact ⟨_, _, rfl, e, some (.int (x : Nat)), q11, rfl⟩) ⟨o5, o11, rfl⟩
    obtain ⟨ρ', h1, p5, p11, rfl⟩ := loop
    refine ⟨p5, p11, ?_⟩
    unfold g_law_0b5 gFor
    rw [hds, Option.bind_some]
    exact h1
  obtain ⟨p5, p11, st5⟩ := st5
  refine Good.step st5 ?_
  have m9 : 0 ≤ c % 1000000000 ∧ c % 1000000000 < 1000000000 := ⟨Int.emod_nonneg _ (by decide), Int.emod_lt_of_pos _ (by decide)⟩
  have m12 : 0 ≤ c / 7 % 1000000000000 ∧ c / 7 % 1000000000000 < 1000000000000 := ⟨Int.emod_nonneg _ (by decide), Int.emod_lt_of_pos _ (by decide)⟩
  obtain ⟨A, hA⟩ : ∃ A : Nat, c % 1000000000 = (A : Int) := ⟨(c % 1000000000).toNat, (Int.toNat_of_nonneg m9.1).symm⟩
  obtain ⟨B, hB⟩ : ∃ B : Nat, c / 7 % 1000000000000 = (B : Int) := ⟨(c / 7 % 1000000000000).toNat, (Int.toNat_of_nonneg m12.1).symm⟩
  rw [hA] at m9
  rw [hB] at m12
  refine Good.step (ρ1 := lawRho S (some (.int c)) o2 (some (mpD a)) (some (.tuple [.int (T : Nat), .int (L : Nat)])) p5 (some (.int (A : Nat))) o7 o8 (some (.list W)) (some (.int (T : Nat))) p11 o12 o13) (by
    simp only [g_law_0b6, gAsg, f2, fVar, fC, gIc, List.getElem?_cons_zero, List.getElem?_cons_succ, Option.bind_some, if_pos cp9, hp9, show (0 : Int) < 1000000000 from by decide, if_true, hA]
    rfl) ?_
  refine Good.step (ρ1 := lawRho S (some (.int c)) o2 (some (mpD a)) (some (.tuple [.int (T : Nat), .int (L : Nat)])) p5 (some (.int (A : Nat))) (some (.int (B : Nat))) o8 (some (.list W)) (some (.int (T : Nat))) p11 o12 o13) (by
    simp only [g_law_0b7, gAsg, f2, fVar, fC, gIc, List.getElem?_cons_zero, List.getElem?_cons_succ, Option.bind_some, if_pos cp12, hp12, if_pos cd7, show (0 : Int) < 1000000000000 from by decide, if_true, hB]
    rfl) ?_
  have oA := ho (x := A) (by rw [hp21]; omega)
  have oB := ho (x := B) (by rw [hp21]; omega)
  have oAB := ho (x := A + B) (by rw [hp21]; omega)
  have th := then_ok (rowK_wf R.inn A) (rowK_wf R.inn B) (by show a.1 = _; rw [rowK_len]; exact R.inn.same)
  rw [rowK_thn R.inn] at th
  refine Good.step (ρ1 := lawRho S (some (.int c)) o2 (some (mpD a)) (some (.tuple [.int (T : Nat), .int (L : Nat)])) p5 (some (.int (A : Nat))) (some (.int (B : Nat))) o8 (some (.list W)) (some (.int (T : Nat))) p11 o12 o13) (by
    unfold g_law_0b8
    refine if_f ?_
    have hsum : gAdd (.int (A : Nat)) (.int (B : Nat)) = some (.int ((A + B : Nat) : Int)) := by simp [gAdd]
    simp only [fB, f2, fCall, fCons, fNil, fVar, List.getElem?_cons_zero, List.getElem?_cons_succ, Option.bind_some, oA, oB, th, hsum, oAB, gEq_map, decide_true]
    rfl) ?_
  have hn : a.1.toNat = a.2.length := by have := R.inn.same; omega
  have hB62 : B62 a.1 := ⟨by have := R.inn.same; omega, by have := R.inn.same; have := R.few; omega⟩
  have hi : iR1 (f2 gIx (fVar 3) (fC (.int 0))) (lawRho S (some (.int c)) o2 (some (mpD a)) (some (.tuple [.int (T : Nat), .int (L : Nat)])) p5 (some (.int (A : Nat))) (some (.int (B : Nat))) o8 (some (.list W)) (some (.int (T : Nat))) p11 o12 o13) = some (rgD 0 a.2.length) := by
    simp [hB62, hn]
  have e9 := for_rg (j := 8) (b := g_law_0b9b0) (fun i ρ => i ≤ a.2.length ∧ ∃ q8, ρ = lawRho S (some (.int c)) o2 (some (mpD a)) (some (.tuple [.int (T : Nat), .int (L : Nat)])) p5 (some (.int (A : Nat))) (some (.int (B : Nat))) q8 (some (.list W)) (some (.int (T : Nat))) p11 o12 o13) (fun _ => False) hi (fun i hi ρ hρ => by
    obtain ⟨_, q8, rfl⟩ := hρ
    have := thing_turn R hi S (some (.int c)) o2 (some (.tuple [.int (T : Nat), .int (L : Nat)])) p5 (some (.int (A : Nat))) (some (.int (B : Nat))) (some (.list W)) (some (.int (T : Nat))) p11 o12 o13
    refine .inl ⟨_, ?_, hi, some (.int (i : Nat)), rfl⟩
    rw [Int.zero_add]
    exact this) ⟨Nat.zero_le _, o8, rfl⟩
  rcases e9 with ⟨ρ', e9, _, q8, rfl⟩ | ⟨_, _, z⟩
  · exact Good.last e9 ⟨_, _, _, _, _, _, _, _, _, _, _, _, _, rfl⟩
  · exact z.elim
theorem bad_turn {m : Mp} (h : ¬ (m.1 = (m.2.length : Nat) ∧ 0 < m.1)) (S : PyData) (o1 o3 o4 o5 o6 o7 o8 o9 o10 o11 o12 o13 : Option PyData) : Good (Pl S) g_law_1b0 (lawRho S o1 (some (mpD m)) o3 o4 o5 o6 o7 o8 o9 o10 o11 o12 o13) := by
  have q := lc_rg (vs := [13]) (j := 13) (fn := fC (.int 4)) (f := fCall phi__law_refused (fCons (fVar 13) (fCons (fVar 2) fNil))) (ρ := lawRho S o1 (some (mpD m)) o3 o4 o5 o6 o7 o8 o9 o10 o11 o12 o13) (n := 4) (g := fun _ => .bool true) rfl (by decide) (fun i hi => by
    have := refused_yes h (i := i) (by omega)
    simp [this])
  refine Good.last (ρ1 := lawRho S o1 (some (mpD m)) o3 o4 o5 o6 o7 o8 o9 o10 o11 o12 o13) ?_ ⟨_, _, _, _, _, _, _, _, _, _, _, _, _, rfl⟩
  unfold g_law_1b0
  refine if_f ?_
  have hr : (List.range (4 : Int).toNat).map (fun _ => PyData.bool true) = [.bool true, .bool true, .bool true, .bool true] := rfl
  rw [hr] at q
  simp [q]
theorem law_plain (ns : List Int) (hl : ns.length ≤ 63) : phi_law [.dict (scrK ns)] = some (.ok (.bool true)) := by
  have h0 : Good (Pl (.dict (scrK ns))) g_law_0 (lawRho (.dict (scrK ns)) none none none none none none none none none none none none none) := by
    unfold g_law_0
    refine Good.loop (ds := (ns.take 4).map .int) ?_ (fun d hd ρ hρ => ?_) ⟨_, _, _, _, _, _, _, _, _, _, _, _, _, rfl⟩
    · have hc := cutA_to (ns.map PyData.int) (k := 4) (by decide)
      simp only [iSq, fSl, fVar, pNone, pSome, fC, List.getElem?_cons_zero, Option.bind_some, gSl, scr_fst, hc, seqD]
      rw [List.map_take]
      rfl
    · obtain ⟨c, _, rfl⟩ := List.mem_map.mp hd
      obtain ⟨o1, o2, o3, o4, o5, o6, o7, o8, o9, o10, o11, o12, o13, rfl⟩ := hρ
      exact ⟨_, rfl, body_ok c _ o2 o3 o4 o5 o6 o7 o8 o9 o10 o11 o12 o13⟩
  obtain ⟨ρ1, e0, o1, o2, o3, o4, o5, o6, o7, o8, o9, o10, o11, o12, o13, rfl⟩ := h0
  have h1 : Good (Pl (.dict (scrK ns))) g_law_1 (lawRho (.dict (scrK ns)) o1 o2 o3 o4 o5 o6 o7 o8 o9 o10 o11 o12 o13) := by
    unfold g_law_1
    refine Good.loop (ds := [mpD (0, []), mpD (2, [0]), mpD (1, [0, 0])]) ?_ (fun d hd ρ hρ => ?_) ⟨_, _, _, _, _, _, _, _, _, _, _, _, _, rfl⟩
    · simp [mpD, mapD]
    · obtain ⟨o1, o2, o3, o4, o5, o6, o7, o8, o9, o10, o11, o12, o13, rfl⟩ := hρ
      have key : ∃ m : Mp, d = mpD m ∧ ¬ (m.1 = (m.2.length : Nat) ∧ 0 < m.1) := by
        simp only [List.mem_cons, List.not_mem_nil, or_false] at hd
        rcases hd with rfl | rfl | rfl
        · exact ⟨_, rfl, by decide⟩
        · exact ⟨_, rfl, by decide⟩
        · exact ⟨_, rfl, by decide⟩
      obtain ⟨m, rfl, hm⟩ := key
      exact ⟨_, rfl, bad_turn hm _ o1 o3 o4 o5 o6 o7 o8 o9 o10 o11 o12 o13⟩
  obtain ⟨ρ2, e1, o1, o2, o3, o4, o5, o6, o7, o8, o9, o10, o11, o12, o13, rfl⟩ := h1
  have e : g_law (lawRho (.dict (scrK ns)) none none none none none none none none none none none none none) = some (.ret (.bool true)) := by
    unfold g_law
    rw [blk_nx e0, blk_nx e1]
    rfl
  exact def_ret rfl e
end Lw

namespace Lw
open PySem PySem.Spec PyProof.Rows L2 DL
theorem all_mk {l : PySem.W.OpenLaw} {w : World} {K : PySem.W.Frag} {h : Heap} {mg : Str → Option Value} {fa f0 f1 f2 f3 f4 f5 f6 f7 f8 f9 f11 f12 f14 f15 f16 f17 f18 f19 f20 e0 e2 : Addr} (X : K.In h) (G : h.Ns mainGlobals mg) (hfa : mg "law" = some (.ref fa))
    {od0 an0 od1 an1 od2 an2 od3 an3 od4 an4 od5 an5 od6 an6 od7 an7 od8 an8 od9 an9 od11 an11 od12 an12 od14 an14 od15 an15 od16 an16 od17 an17 od18 an18 od19 an19 od20 an20 : Option Addr} {sl0 sl1 sl2 sl3 sl4 sl5 sl6 sl7 sl8 sl9 sl11 sl12 sl14 sl15 sl16 sl17 sl18 sl19 sl20 : Array (Option Value)} {oc0 kV0 dc0 pm0 cd0 ct0 oc1 kV1 dc1 pm1 cd1 ct1 oc2 kV2 dc2 pm2 cd2 ct2 oc3 kV3 dc3 pm3 cd3 ct3 oc4 kV4 dc4 pm4 cd4 ct4 oc5 kV5 dc5 pm5 cd5 ct5 oc6 kV6 dc6 pm6 cd6 ct6 oc7 kV7 dc7 pm7 cd7 ct7 oc8 kV8 dc8 pm8 cd8 ct8 oc9 kV9 dc9 pm9 cd9 ct9 oc11 kV11 dc11 pm11 cd11 ct11 oc12 kV12 dc12 pm12 cd12 ct12 oc14 kV14 dc14 pm14 cd14 ct14 oc15 kV15 dc15 pm15 cd15 ct15 oc16 kV16 dc16 pm16 cd16 ct16 oc17 kV17 dc17 pm17 cd17 ct17 oc18 kV18 dc18 pm18 cd18 ct18 oc19 kV19 dc19 pm19 cd19 ct19 oc20 kV20 dc20 pm20 cd20 ct20 : Value}
    (a0 : PySem.W.nsIn K mainGlobals "must" = some (some (.ref f0))) (l0 : K.lookup f0 = some ⟨oc0, od0, .func (PySem.W.fnOf "must" "must" (defArgs s_must) (defBody s_must) (defScope s_must) .none kV0 dc0 pm0 an0 cd0 ct0), sl0⟩) (c0 : PySem.W.codeIn K cd0 "must" = true) (k0 : PySem.W.keepIn K (.ref f0) = true)
    (a1 : PySem.W.nsIn K mainGlobals "then" = some (some (.ref f1))) (l1 : K.lookup f1 = some ⟨oc1, od1, .func (PySem.W.fnOf "then" "then" (defArgs s_then) (defBody s_then) (defScope s_then) .none kV1 dc1 pm1 an1 cd1 ct1), sl1⟩) (c1 : PySem.W.codeIn K cd1 "then" = true) (k1 : PySem.W.keepIn K (.ref f1) = true)
    (a2 : PySem.W.nsIn K mainGlobals "same" = some (some (.ref f2))) (l2 : K.lookup f2 = some ⟨oc2, od2, .func (PySem.W.fnOf "same" "same" (defArgs s_same) (defBody s_same) (defScope s_same) .none kV2 dc2 pm2 an2 cd2 ct2), sl2⟩) (c2 : PySem.W.codeIn K cd2 "same" = true) (k2 : PySem.W.keepIn K (.ref f2) = true)
    (a3 : PySem.W.nsIn K mainGlobals "must_be_inner" = some (some (.ref f3))) (l3 : K.lookup f3 = some ⟨oc3, od3, .func (PySem.W.fnOf "must_be_inner" "must_be_inner" (defArgs s_must_be_inner) (defBody s_must_be_inner) (defScope s_must_be_inner) .none kV3 dc3 pm3 an3 cd3 ct3), sl3⟩) (c3 : PySem.W.codeIn K cd3 "must_be_inner" = true) (k3 : PySem.W.keepIn K (.ref f3) = true)
    (a4 : PySem.W.nsIn K mainGlobals "often" = some (some (.ref f4))) (l4 : K.lookup f4 = some ⟨oc4, od4, .func (PySem.W.fnOf "often" "often" (defArgs s_often) (defBody s_often) (defScope s_often) .none kV4 dc4 pm4 an4 cd4 ct4), sl4⟩) (c4 : PySem.W.codeIn K cd4 "often" = true) (k4 : PySem.W.keepIn K (.ref f4) = true)
    (a5 : PySem.W.nsIn K mainGlobals "walk" = some (some (.ref f5))) (l5 : K.lookup f5 = some ⟨oc5, od5, .func (PySem.W.fnOf "walk" "walk" (defArgs s_walk) (defBody s_walk) (defScope s_walk) .none kV5 dc5 pm5 an5 cd5 ct5), sl5⟩) (c5 : PySem.W.codeIn K cd5 "walk" = true) (k5 : PySem.W.keepIn K (.ref f5) = true)
    (a6 : PySem.W.nsIn K mainGlobals "ring" = some (some (.ref f6))) (l6 : K.lookup f6 = some ⟨oc6, od6, .func (PySem.W.fnOf "ring" "ring" (defArgs s_ring) (defBody s_ring) (defScope s_ring) .none kV6 dc6 pm6 an6 cd6 ct6), sl6⟩) (c6 : PySem.W.codeIn K cd6 "ring" = true) (k6 : PySem.W.keepIn K (.ref f6) = true)
    (a7 : PySem.W.nsIn K mainGlobals "tail" = some (some (.ref f7))) (l7 : K.lookup f7 = some ⟨oc7, od7, .func (PySem.W.fnOf "tail" "tail" (defArgs s_tail) (defBody s_tail) (defScope s_tail) .none kV7 dc7 pm7 an7 cd7 ct7), sl7⟩) (c7 : PySem.W.codeIn K cd7 "tail" = true) (k7 : PySem.W.keepIn K (.ref f7) = true)
    (a8 : PySem.W.nsIn K mainGlobals "common" = some (some (.ref f8))) (l8 : K.lookup f8 = some ⟨oc8, od8, .func (PySem.W.fnOf "common" "common" (defArgs s_common) (defBody s_common) (defScope s_common) .none kV8 dc8 pm8 an8 cd8 ct8), sl8⟩) (c8 : PySem.W.codeIn K cd8 "common" = true) (k8 : PySem.W.keepIn K (.ref f8) = true)
    (a9 : PySem.W.nsIn K mainGlobals "beat" = some (some (.ref f9))) (l9 : K.lookup f9 = some ⟨oc9, od9, .func (PySem.W.fnOf "beat" "beat" (defArgs s_beat) (defBody s_beat) (defScope s_beat) .none kV9 dc9 pm9 an9 cd9 ct9), sl9⟩) (c9 : PySem.W.codeIn K cd9 "beat" = true) (k9 : PySem.W.keepIn K (.ref f9) = true)
    (a11 : PySem.W.nsIn K mainGlobals "_law_mix" = some (some (.ref f11))) (l11 : K.lookup f11 = some ⟨oc11, od11, .func (PySem.W.fnOf "_law_mix" "_law_mix" (defArgs s__law_mix) (defBody s__law_mix) (defScope s__law_mix) .none kV11 dc11 pm11 an11 cd11 ct11), sl11⟩) (c11 : PySem.W.codeIn K cd11 "_law_mix" = true) (k11 : PySem.W.keepIn K (.ref f11) = true)
    (a12 : PySem.W.nsIn K mainGlobals "_law_map" = some (some (.ref f12))) (l12 : K.lookup f12 = some ⟨oc12, od12, .func (PySem.W.fnOf "_law_map" "_law_map" (defArgs s__law_map) (defBody s__law_map) (defScope s__law_map) .none kV12 dc12 pm12 an12 cd12 ct12), sl12⟩) (c12 : PySem.W.codeIn K cd12 "_law_map" = true) (k12 : PySem.W.keepIn K (.ref f12) = true)
    (a14 : PySem.W.nsIn K mainGlobals "_law_whole" = some (some (.ref f14))) (l14 : K.lookup f14 = some ⟨oc14, od14, .func (PySem.W.fnOf "_law_whole" "_law_whole" (defArgs s__law_whole) (defBody s__law_whole) (defScope s__law_whole) .none kV14 dc14 pm14 an14 cd14 ct14), sl14⟩) (c14 : PySem.W.codeIn K cd14 "_law_whole" = true) (k14 : PySem.W.keepIn K (.ref f14) = true)
    (a15 : PySem.W.nsIn K mainGlobals "_law_then" = some (some (.ref f15))) (l15 : K.lookup f15 = some ⟨oc15, od15, .func (PySem.W.fnOf "_law_then" "_law_then" (defArgs s__law_then) (defBody s__law_then) (defScope s__law_then) .none kV15 dc15 pm15 an15 cd15 ct15), sl15⟩) (c15 : PySem.W.codeIn K cd15 "_law_then" = true) (k15 : PySem.W.keepIn K (.ref f15) = true)
    (a16 : PySem.W.nsIn K mainGlobals "_law_self" = some (some (.ref f16))) (l16 : K.lookup f16 = some ⟨oc16, od16, .func (PySem.W.fnOf "_law_self" "_law_self" (defArgs s__law_self) (defBody s__law_self) (defScope s__law_self) .none kV16 dc16 pm16 an16 cd16 ct16), sl16⟩) (c16 : PySem.W.codeIn K cd16 "_law_self" = true) (k16 : PySem.W.keepIn K (.ref f16) = true)
    (a17 : PySem.W.nsIn K mainGlobals "_law_refused" = some (some (.ref f17))) (l17 : K.lookup f17 = some ⟨oc17, od17, .func (PySem.W.fnOf "_law_refused" "_law_refused" (defArgs s__law_refused) (defBody s__law_refused) (defScope s__law_refused) .none kV17 dc17 pm17 an17 cd17 ct17), sl17⟩) (c17 : PySem.W.codeIn K cd17 "_law_refused" = true) (k17 : PySem.W.keepIn K (.ref f17) = true)
    (a18 : PySem.W.nsIn K mainGlobals "_law_rows" = some (some (.ref f18))) (l18 : K.lookup f18 = some ⟨oc18, od18, .func (PySem.W.fnOf "_law_rows" "_law_rows" (defArgs s__law_rows) (defBody s__law_rows) (defScope s__law_rows) .none kV18 dc18 pm18 an18 cd18 ct18), sl18⟩) (c18 : PySem.W.codeIn K cd18 "_law_rows" = true) (k18 : PySem.W.keepIn K (.ref f18) = true)
    (a19 : PySem.W.nsIn K mainGlobals "_law_ring" = some (some (.ref f19))) (l19 : K.lookup f19 = some ⟨oc19, od19, .func (PySem.W.fnOf "_law_ring" "_law_ring" (defArgs s__law_ring) (defBody s__law_ring) (defScope s__law_ring) .none kV19 dc19 pm19 an19 cd19 ct19), sl19⟩) (c19 : PySem.W.codeIn K cd19 "_law_ring" = true) (k19 : PySem.W.keepIn K (.ref f19) = true)
    (a20 : PySem.W.nsIn K mainGlobals "law" = some (some (.ref f20))) (l20 : K.lookup f20 = some ⟨oc20, od20, .func (PySem.W.fnOf "law" "law" (defArgs s_law) (defBody s_law) (defScope s_law) .none kV20 dc20 pm20 an20 cd20 ct20), sl20⟩) (c20 : PySem.W.codeIn K cd20 "law" = true) (k20 : PySem.W.keepIn K (.ref f20) = true)
    (z_all : PySem.W.nsIn K mainGlobals "all" = some none)
    (z_bool : PySem.W.nsIn K mainGlobals "bool" = some none)
    (z_int : PySem.W.nsIn K mainGlobals "int" = some none)
    (z_isinstance : PySem.W.nsIn K mainGlobals "isinstance" = some none)
    (z_len : PySem.W.nsIn K mainGlobals "len" = some none)
    (z_list : PySem.W.nsIn K mainGlobals "list" = some none)
    (z_max : PySem.W.nsIn K mainGlobals "max" = some none)
    (z_min : PySem.W.nsIn K mainGlobals "min" = some none)
    (z_range : PySem.W.nsIn K mainGlobals "range" = some none)
    (z_reversed : PySem.W.nsIn K mainGlobals "reversed" = some none)
    (z_tuple : PySem.W.nsIn K mainGlobals "tuple" = some none)
    (zgC0_0 : PySem.W.nsIn K mainGlobals "MapError" = some (some (.ref e0)))
    (zx0_0 : PySem.W.excIn K (e0) [.type "ValueError", .type "Exception", .type "BaseException", .type "object"] "ValueError.__new__" = true)
    (zkC0_0 : PySem.W.keepIn K (.ref (e0)) = true)
    (zbC0_0 : PySem.W.subIn K (.ref (e0)) (.type "BaseException") = some true)
    (ztC0_0 : PySem.W.typeIn K (.ref (e0)) = some (.type "type"))
    (zgC2_0 : PySem.W.nsIn K mainGlobals "NoFit" = some (some (.ref e2)))
    (zx2_0 : PySem.W.excIn K (e2) [.type "ValueError", .type "Exception", .type "BaseException", .type "object"] "ValueError.__new__" = true)
    (zkC2_0 : PySem.W.keepIn K (.ref (e2)) = true)
    (zbC2_0 : PySem.W.subIn K (.ref (e2)) (.type "BaseException") = some true)
    (ztC2_0 : PySem.W.typeIn K (.ref (e2)) = some (.type "type"))
    (zexm22_0 : PySem.W.hasDictIn K e2 = true)
    (zexm22_1 : PySem.W.subIn K (.ref e2) (.ref e2) = some true)
    (hpl : ∀ ns : List Int, ns.length ≤ 63 → phi_law [.dict (scrK ns)] = some (.ok (.bool true))) :
    ∃ fd : FuncData, (∀ (s : Shared) (v : Value), BindsTo s fd ⟨[v], []⟩ [("_law_script", v)]) ∧ ∀ base : Heap, K.In base → base.Ns mainGlobals mg → FnOk l.prog w K mg base (L2.CX l.prog w) 6 fa fd ["_law_script"] (spLaw K) := by
  have e := hfa.symm.trans (PySem.W.mg_of X G a20)
  cases e
  have F0 := fun_mk (st := s_must) l0 c0 k0
  have F1 := fun_mk (st := s_then) l1 c1 k1
  have F2 := fun_mk (st := s_same) l2 c2 k2
  have F3 := fun_mk (st := s_must_be_inner) l3 c3 k3
  have F4 := fun_mk (st := s_often) l4 c4 k4
  have F5 := fun_mk (st := s_walk) l5 c5 k5
  have F6 := fun_mk (st := s_ring) l6 c6 k6
  have F7 := fun_mk (st := s_tail) l7 c7 k7
  have F8 := fun_mk (st := s_common) l8 c8 k8
  have F9 := fun_mk (st := s_beat) l9 c9 k9
  have F11 := fun_mk (st := s__law_mix) l11 c11 k11
  have F12 := fun_mk (st := s__law_map) l12 c12 k12
  have F14 := fun_mk (st := s__law_whole) l14 c14 k14
  have F15 := fun_mk (st := s__law_then) l15 c15 k15
  have F16 := fun_mk (st := s__law_self) l16 c16 k16
  have F17 := fun_mk (st := s__law_refused) l17 c17 k17
  have F18 := fun_mk (st := s__law_rows) l18 c18 k18
  have F19 := fun_mk (st := s__law_ring) l19 c19 k19
  have F20 := fun_mk (st := s_law) l20 c20 k20
  have T : Txt K mg ⟨fun i => match i with | 0 => f0 | 1 => f1 | 2 => f2 | 3 => f3 | 4 => f4 | 5 => f5 | 6 => f6 | 7 => f7 | 8 => f8 | 9 => f9 | 11 => f11 | 12 => f12 | 14 => f14 | 15 => f15 | 16 => f16 | 17 => f17 | 18 => f18 | 19 => f19 | 20 => fa | _ => 0, fun i => match i with | 0 => PySem.W.fnOf "must" "must" (defArgs s_must) (defBody s_must) (defScope s_must) .none kV0 dc0 pm0 an0 cd0 ct0 | 1 => PySem.W.fnOf "then" "then" (defArgs s_then) (defBody s_then) (defScope s_then) .none kV1 dc1 pm1 an1 cd1 ct1 | 2 => PySem.W.fnOf "same" "same" (defArgs s_same) (defBody s_same) (defScope s_same) .none kV2 dc2 pm2 an2 cd2 ct2 | 3 => PySem.W.fnOf "must_be_inner" "must_be_inner" (defArgs s_must_be_inner) (defBody s_must_be_inner) (defScope s_must_be_inner) .none kV3 dc3 pm3 an3 cd3 ct3 | 4 => PySem.W.fnOf "often" "often" (defArgs s_often) (defBody s_often) (defScope s_often) .none kV4 dc4 pm4 an4 cd4 ct4 | 5 => PySem.W.fnOf "walk" "walk" (defArgs s_walk) (defBody s_walk) (defScope s_walk) .none kV5 dc5 pm5 an5 cd5 ct5 | 6 => PySem.W.fnOf "ring" "ring" (defArgs s_ring) (defBody s_ring) (defScope s_ring) .none kV6 dc6 pm6 an6 cd6 ct6 | 7 => PySem.W.fnOf "tail" "tail" (defArgs s_tail) (defBody s_tail) (defScope s_tail) .none kV7 dc7 pm7 an7 cd7 ct7 | 8 => PySem.W.fnOf "common" "common" (defArgs s_common) (defBody s_common) (defScope s_common) .none kV8 dc8 pm8 an8 cd8 ct8 | 9 => PySem.W.fnOf "beat" "beat" (defArgs s_beat) (defBody s_beat) (defScope s_beat) .none kV9 dc9 pm9 an9 cd9 ct9 | 11 => PySem.W.fnOf "_law_mix" "_law_mix" (defArgs s__law_mix) (defBody s__law_mix) (defScope s__law_mix) .none kV11 dc11 pm11 an11 cd11 ct11 | 12 => PySem.W.fnOf "_law_map" "_law_map" (defArgs s__law_map) (defBody s__law_map) (defScope s__law_map) .none kV12 dc12 pm12 an12 cd12 ct12 | 14 => PySem.W.fnOf "_law_whole" "_law_whole" (defArgs s__law_whole) (defBody s__law_whole) (defScope s__law_whole) .none kV14 dc14 pm14 an14 cd14 ct14 | 15 => PySem.W.fnOf "_law_then" "_law_then" (defArgs s__law_then) (defBody s__law_then) (defScope s__law_then) .none kV15 dc15 pm15 an15 cd15 ct15 | 16 => PySem.W.fnOf "_law_self" "_law_self" (defArgs s__law_self) (defBody s__law_self) (defScope s__law_self) .none kV16 dc16 pm16 an16 cd16 ct16 | 17 => PySem.W.fnOf "_law_refused" "_law_refused" (defArgs s__law_refused) (defBody s__law_refused) (defScope s__law_refused) .none kV17 dc17 pm17 an17 cd17 ct17 | 18 => PySem.W.fnOf "_law_rows" "_law_rows" (defArgs s__law_rows) (defBody s__law_rows) (defScope s__law_rows) .none kV18 dc18 pm18 an18 cd18 ct18 | 19 => PySem.W.fnOf "_law_ring" "_law_ring" (defArgs s__law_ring) (defBody s__law_ring) (defScope s__law_ring) .none kV19 dc19 pm19 an19 cd19 ct19 | 20 => PySem.W.fnOf "law" "law" (defArgs s_law) (defBody s_law) (defScope s_law) .none kV20 dc20 pm20 an20 cd20 ct20 | _ => PySem.W.fnOf "law" "law" (defArgs s_law) (defBody s_law) (defScope s_law) .none kV20 dc20 pm20 an20 cd20 ct20, fun i => match i with | 0 => e0 | 2 => e2 | _ => 0⟩ := {
    F0 := F0, g0 := PySem.W.mg_of X G a0, b0 := F0.binds (ps := ["fits"]) fun _ _ _ _ _ _ us hl => match us, hl with | [_], _ => rfl,
    F1 := F1, g1 := PySem.W.mg_of X G a1, b1 := F1.binds (ps := ["one", "other"]) fun _ _ _ _ _ _ us hl => match us, hl with | [_, _], _ => rfl,
    F2 := F2, g2 := PySem.W.mg_of X G a2, b2 := F2.binds (ps := ["many"]) fun _ _ _ _ _ _ us hl => match us, hl with | [_], _ => rfl,
    F3 := F3, g3 := PySem.W.mg_of X G a3, b3 := F3.binds (ps := ["one"]) fun _ _ _ _ _ _ us hl => match us, hl with | [_], _ => rfl,
    F4 := F4, g4 := PySem.W.mg_of X G a4, b4 := F4.binds (ps := ["one", "times"]) fun _ _ _ _ _ _ us hl => match us, hl with | [_, _], _ => rfl,
    F5 := F5, g5 := PySem.W.mg_of X G a5, b5 := F5.binds (ps := ["one", "k"]) fun _ _ _ _ _ _ us hl => match us, hl with | [_, _], _ => rfl,
    F6 := F6, g6 := PySem.W.mg_of X G a6, b6 := F6.binds (ps := ["one", "k"]) fun _ _ _ _ _ _ us hl => match us, hl with | [_, _], _ => rfl,
    F7 := F7, g7 := PySem.W.mg_of X G a7, b7 := F7.binds (ps := ["one", "k"]) fun _ _ _ _ _ _ us hl => match us, hl with | [_, _], _ => rfl,
    F8 := F8, g8 := PySem.W.mg_of X G a8, b8 := F8.binds (ps := ["a", "b"]) fun _ _ _ _ _ _ us hl => match us, hl with | [_, _], _ => rfl,
    F9 := F9, g9 := PySem.W.mg_of X G a9, b9 := F9.binds (ps := ["one"]) fun _ _ _ _ _ _ us hl => match us, hl with | [_], _ => rfl,
    F11 := F11, g11 := PySem.W.mg_of X G a11, b11 := F11.binds (ps := ["_law_cell_here", "_law_prime", "_law_many"]) fun _ _ _ _ _ _ us hl => match us, hl with | [_, _, _], _ => rfl,
    F12 := F12, g12 := PySem.W.mg_of X G a12, b12 := F12.binds (ps := ["_law_cell_here", "_law_many", "_law_to"]) fun _ _ _ _ _ _ us hl => match us, hl with | [_, _, _], _ => rfl,
    F14 := F14, g14 := PySem.W.mg_of X G a14, b14 := F14.binds (ps := ["_law_found"]) fun _ _ _ _ _ _ us hl => match us, hl with | [_], _ => rfl,
    F15 := F15, g15 := PySem.W.mg_of X G a15, b15 := F15.binds (ps := ["_law_one", "_law_other"]) fun _ _ _ _ _ _ us hl => match us, hl with | [_, _], _ => rfl,
    F16 := F16, g16 := PySem.W.mg_of X G a16, b16 := F16.binds (ps := ["_law_cell_here", "_law_most"]) fun _ _ _ _ _ _ us hl => match us, hl with | [_, _], _ => rfl,
    F17 := F17, g17 := PySem.W.mg_of X G a17, b17 := F17.binds (ps := ["_law_way", "_law_one"]) fun _ _ _ _ _ _ us hl => match us, hl with | [_, _], _ => rfl,
    F18 := F18, g18 := PySem.W.mg_of X G a18, b18 := F18.binds (ps := ["_law_one"]) fun _ _ _ _ _ _ us hl => match us, hl with | [_], _ => rfl,
    F19 := F19, g19 := PySem.W.mg_of X G a19, b19 := F19.binds (ps := ["_law_one", "_law_k"]) fun _ _ _ _ _ _ us hl => match us, hl with | [_, _], _ => rfl,
    F20 := F20, g20 := PySem.W.mg_of X G a20, b20 := F20.binds (ps := ["_law_script"]) fun _ _ _ _ _ _ us hl => match us, hl with | [_], _ => rfl,
    m_all := PySem.W.mg_none_of X G z_all,
    m_bool := PySem.W.mg_none_of X G z_bool,
    m_int := PySem.W.mg_none_of X G z_int,
    m_isinstance := PySem.W.mg_none_of X G z_isinstance,
    m_len := PySem.W.mg_none_of X G z_len,
    m_list := PySem.W.mg_none_of X G z_list,
    m_max := PySem.W.mg_none_of X G z_max,
    m_min := PySem.W.mg_none_of X G z_min,
    m_range := PySem.W.mg_none_of X G z_range,
    m_reversed := PySem.W.mg_none_of X G z_reversed,
    m_tuple := PySem.W.mg_none_of X G z_tuple,
    gC0 := PySem.W.mg_of X G zgC0_0,
    x0 := zx0_0,
    kC0 := zkC0_0,
    bC0 := zbC0_0,
    tC0 := ztC0_0,
    gC2 := PySem.W.mg_of X G zgC2_0,
    x2 := zx2_0,
    kC2 := zkC2_0,
    bC2 := zbC2_0,
    tC2 := ztC2_0,
    exm22 := PySem.W.exm_ref zbC2_0 zexm22_0 ztC2_0 zexm22_1 }
  exact ⟨_, fun s v => .of_eq rfl, fun base _ _ => (ok_law T).imp (spLaw_of hpl)⟩
end Lw
open PySem PySem.W PyProof.Rows
set_option maxHeartbeats 0 in
theorem PySem.Challenge.cw_mapweave_k09_whole_done_often_holds : PySem.Challenge.rw_mapweave_k09_whole_done_often.Holds := by
  w_on; o_law; k_head; (case hw => w_witness2)
  k_fill
  refine L2.walk_of (l := PySem.Challenge.rw_mapweave_k09_whole_done_often) (n := 63) (k := 6) (x := "_law_script") (CX := fun w => L2.CX PySem.Challenge.rw_mapweave_k09_whole_done_often.prog w) (sp := fun w => DL.spLaw _) rfl (by decide) rfl ⟨rfl, by decide, by decide⟩ (fun w h Y => PySem.W.kIn_of Y) ?F (fun _ _ a ns hl _ hS => ⟨a, ns, rfl, hS, hl, fun _ => rfl⟩) (fun _ _ _ _ _ h => DL.no_cx h)
  case F =>
    intro w mg fa h KX G hmg
    refine' Lw.all_mk KX G hmg ?a0 ?l0 ?c0 ?k0 ?a1 ?l1 ?c1 ?k1 ?a2 ?l2 ?c2 ?k2 ?a3 ?l3 ?c3 ?k3 ?a4 ?l4 ?c4 ?k4 ?a5 ?l5 ?c5 ?k5 ?a6 ?l6 ?c6 ?k6 ?a7 ?l7 ?c7 ?k7 ?a8 ?l8 ?c8 ?k8 ?a9 ?l9 ?c9 ?k9 ?a11 ?l11 ?c11 ?k11 ?a12 ?l12 ?c12 ?k12 ?a14 ?l14 ?c14 ?k14 ?a15 ?l15 ?c15 ?k15 ?a16 ?l16 ?c16 ?k16 ?a17 ?l17 ?c17 ?k17 ?a18 ?l18 ?c18 ?k18 ?a19 ?l19 ?c19 ?k19 ?a20 ?l20 ?c20 ?k20 ?z_all ?z_bool ?z_int ?z_isinstance ?z_len ?z_list ?z_max ?z_min ?z_range ?z_reversed ?z_tuple ?zgC0_0 ?zx0_0 ?zkC0_0 ?zbC0_0 ?ztC0_0 ?zgC2_0 ?zx2_0 ?zkC2_0 ?zbC2_0 ?ztC2_0 ?zexm22_0 ?zexm22_1 Lw.law_plain
    (case a0 => k_is); (case l0 => k_is); (case c0 => k_is); (case k0 => k_is); (case a1 => k_is); (case l1 => k_is)
    (case c1 => k_is); (case k1 => k_is); (case a2 => k_is); (case l2 => k_is); (case c2 => k_is); (case k2 => k_is)
    (case a3 => k_is); (case l3 => k_is); (case c3 => k_is); (case k3 => k_is); (case a4 => k_is); (case l4 => k_is)
    (case c4 => k_is); (case k4 => k_is); (case a5 => k_is); (case l5 => k_is); (case c5 => k_is); (case k5 => k_is)
    (case a6 => k_is); (case l6 => k_is); (case c6 => k_is); (case k6 => k_is); (case a7 => k_is); (case l7 => k_is)
    (case c7 => k_is); (case k7 => k_is); (case a8 => k_is); (case l8 => k_is); (case c8 => k_is); (case k8 => k_is)
    (case a9 => k_is); (case l9 => k_is); (case c9 => k_is); (case k9 => k_is); (case a11 => k_is); (case l11 => k_is)
    (case c11 => k_is); (case k11 => k_is); (case a12 => k_is); (case l12 => k_is); (case c12 => k_is); (case k12 => k_is)
    (case a14 => k_is); (case l14 => k_is); (case c14 => k_is); (case k14 => k_is); (case a15 => k_is); (case l15 => k_is)
    (case c15 => k_is); (case k15 => k_is); (case a16 => k_is); (case l16 => k_is); (case c16 => k_is); (case k16 => k_is)
    (case a17 => k_is); (case l17 => k_is); (case c17 => k_is); (case k17 => k_is); (case a18 => k_is); (case l18 => k_is)
    (case c18 => k_is); (case k18 => k_is); (case a19 => k_is); (case l19 => k_is); (case c19 => k_is); (case k19 => k_is)
    (case a20 => k_is); (case l20 => k_is); (case c20 => k_is); (case k20 => k_is); (case z_all => k_is); (case z_bool => k_is)
    (case z_int => k_is); (case z_isinstance => k_is); (case z_len => k_is); (case z_list => k_is); (case z_max => k_is); (case z_min => k_is)
    (case z_range => k_is); (case z_reversed => k_is); (case z_tuple => k_is); (case zgC0_0 => k_is); (case zx0_0 => k_exc); (case zkC0_0 => k_is)
    (case zbC0_0 => k_is); (case ztC0_0 => k_is); (case zgC2_0 => k_is); (case zx2_0 => k_exc); (case zkC2_0 => k_is); (case zbC2_0 => k_is)
    (case ztC2_0 => k_is); (case zexm22_0 => k_is); (case zexm22_1 => first | rfl | k_is)

