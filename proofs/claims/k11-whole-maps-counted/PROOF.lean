import PyProof.Rows.All
import Wide.All
import OpenK.AllK
import Wide.FinOn
import PyProof.EqAt
import PyProof.EqKinds
import PyProof.TupleCall
import HandS.ForMost
import HandS.ForExc
import HandS.CallSlots
import HandS.IsInst
import HandS.ExcIs
import HandS.Style
import HandS.TupAny
import HandS.TupMul
import HandS.Zip
import HandS.Conv
import HandS.Deep
import HandS.Wide
import HandS.WideBits
import HandS.RevRange
import HandS.NoneIn
import HandS.SetFor
import HandS.Strs
import KE.GoesEnum
import KE.KDictZip
import HandS.Zip0
import HandS.Text
import HandS.FStr
import PyProof.StrOps2
import HandS.TupSets
import KE.SortData
import PySem.Challenge.RW_mapweave_k11_whole_maps_counted
set_option Elab.async false
set_option linter.all false
set_option maxRecDepth 100000
set_option maxHeartbeats 4000000
/-! A data layer over HandS: each derivation also says, as a plain function of the slots' data, what the code computes. -/
namespace DL
open PySem PySem.Spec PyProof.Rows L2

/-- the data of the slots -/
abbrev Rho := List (Option PyData)
abbrev Fn := Rho → Option PyData
/-- the script, told as a thing of its own -/
def scrK (ns : List Int) : List (PyData × PyData) := ns.map fun n => (PyData.int n, PyData.none)

mutual
inductive Dd (K : PySem.W.Frag) (H : Hp) : V → PyData → Prop
  | non : Dd K H .non .none
  | bl (b : Bool) : Dd K H (.bl b) (.bool b)
  | int (i : Int) : Dd K H (.int i) (.int i)
  | str (x : Str) : Dd K H (.str x) (.str x)
  | lst {a : Addr} {xs : List V} {ds : List PyData} : H a = some (.lst xs) → DdAll K H xs ds → Dd K H (.ref a) (.list ds)
  | tup {a : Addr} {ob : Obj} {xs : List V} {ds : List PyData} : ob.dict = none → H a = some (.frz ob (.tup xs)) → DdAll K H xs ds → Dd K H (.ref a) (.tuple ds)
  | scr {a : Addr} {ns : List Int} : SqL K H a (ns.map V.int) → Dd K H (.ref a) (.dict (scrK ns))
inductive DdAll (K : PySem.W.Frag) (H : Hp) : List V → List PyData → Prop
  | nil : DdAll K H [] []
  | cons {v : V} {vs : List V} {d : PyData} {ds : List PyData} : Dd K H v d → DdAll K H vs ds → DdAll K H (v :: vs) (d :: ds)
end

section
variable {K : PySem.W.Frag} {H H' H1 H2 H3 : Hp}
mutual
theorem Dd.mono {v : V} {d : PyData} (e : Same H H') : Dd K H v d → Dd K H' v d
  | .non => .non
  | .bl b => .bl b
  | .int i => .int i
  | .str x => .str x
  | .lst h t => .lst (e _ _ h) (DdAll.mono e t)
  | .tup n h t => .tup n (e _ _ h) (DdAll.mono e t)
  | .scr h => .scr (e.seq h)
theorem DdAll.mono {vs : List V} {ds : List PyData} (e : Same H H') : DdAll K H vs ds → DdAll K H' vs ds
  | .nil => .nil
  | .cons a r => .cons (Dd.mono e a) (DdAll.mono e r)
end
theorem DdAll.length : ∀ {vs : List V} {ds : List PyData}, DdAll K H vs ds → vs.length = ds.length
  | _, _, .nil => rfl
  | _, _, .cons _ r => congrArg Nat.succ r.length
theorem DdAll.get : ∀ {vs : List V} {ds : List PyData} {i : Nat} {d : PyData}, DdAll K H vs ds → ds[i]? = some d → ∃ v, vs[i]? = some v ∧ Dd K H v d
  | _, _, _, _, .nil, h => by simp at h
  | _, _, 0, d, .cons a _, h => by simp at h; subst h; exact ⟨_, rfl, a⟩
  | _, _, i + 1, d, .cons _ r, h => by
    obtain ⟨v, h1, h2⟩ := DdAll.get (i := i) (d := d) r (by simpa using h)
    exact ⟨v, by simpa using h1, h2⟩
theorem DdAll.getv : ∀ {vs : List V} {ds : List PyData} {i : Nat} {v : V}, DdAll K H vs ds → vs[i]? = some v → ∃ d, ds[i]? = some d ∧ Dd K H v d
  | _, _, _, _, .nil, h => by simp at h
  | _, _, 0, d, .cons a _, h => by simp at h; subst h; exact ⟨_, rfl, a⟩
  | _, _, i + 1, d, .cons _ r, h => by
    obtain ⟨v, h1, h2⟩ := DdAll.getv (i := i) (v := d) r (by simpa using h)
    exact ⟨v, by simpa using h1, h2⟩
theorem DdAll.append : ∀ {vs ws : List V} {ds es : List PyData}, DdAll K H vs ds → DdAll K H ws es → DdAll K H (vs ++ ws) (ds ++ es)
  | _, _, _, _, .nil, s => s
  | _, _, _, _, .cons a r, s => .cons a (r.append s)
theorem DdAll.take : ∀ {vs : List V} {ds : List PyData} (n : Nat), DdAll K H vs ds → DdAll K H (vs.take n) (ds.take n)
  | _, _, 0, _ => .nil
  | _, _, _ + 1, .nil => .nil
  | _, _, n + 1, .cons a r => .cons a (DdAll.take n r)
theorem DdAll.drop : ∀ {vs : List V} {ds : List PyData} (n : Nat), DdAll K H vs ds → DdAll K H (vs.drop n) (ds.drop n)
  | _, _, 0, r => r
  | _, _, _ + 1, .nil => .nil
  | _, _, n + 1, .cons _ r => DdAll.drop n r
theorem DdAll.set {x : V} {d : PyData} (a : Dd K H x d) : ∀ {vs : List V} {ds : List PyData} (i : Nat), DdAll K H vs ds → DdAll K H (vs.set i x) (ds.set i d)
  | _, _, _, .nil => .nil
  | _, _, 0, .cons _ r => .cons a r
  | _, _, i + 1, .cons b r => .cons b (DdAll.set a i r)
theorem DdAll.erase : ∀ {vs : List V} {ds : List PyData} (i : Nat), DdAll K H vs ds → DdAll K H (vs.eraseIdx i) (ds.eraseIdx i)
  | _, _, _, .nil => .nil
  | _, _, 0, .cons _ r => r
  | _, _, i + 1, .cons b r => .cons b (DdAll.erase i r)
theorem DdAll.dropLast : ∀ {vs : List V} {ds : List PyData}, DdAll K H vs ds → DdAll K H vs.dropLast ds.dropLast
  | _, _, .nil => .nil
  | _, _, .cons a .nil => .nil
  | _, _, .cons a (.cons b r) => .cons a (DdAll.dropLast (.cons b r))
theorem DdAll.ints : ∀ (ns : List Int), DdAll K H (ns.map V.int) (ns.map PyData.int)
  | [] => .nil
  | n :: ns => .cons (.int n) (DdAll.ints ns)
theorem DdAll.rep {x : V} {d : PyData} (a : Dd K H x d) : ∀ n, DdAll K H (List.replicate n x) (List.replicate n d)
  | 0 => .nil
  | n + 1 => .cons a (DdAll.rep a n)

/-! ### from data of ours to Dp (for ==) -/
theorem sqL_of {a : Addr} {xs : List V} (h : H a = some (.lst xs)) : SqL K H a xs := .inl (.inl h)
theorem sqT_of {a : Addr} {ob : Obj} {xs : List V} (h : H a = some (.frz ob (.tup xs))) : SqT K H a xs := .inl (.inr ⟨ob, h⟩)
mutual
theorem Dd.dp {v : V} : ∀ {d : PyData}, Dd K H v d → d.canLay0 = true → Dp K H v d
  | _, .non, _ => .non
  | _, .bl b, _ => .bl b
  | _, .int i, _ => .int i
  | _, .str x, _ => .str x
  | _, .lst h t, c => .lst (sqL_of h) (DdAll.dp t (by simpa [PyData.canLay0] using c))
  | _, .tup _ h t, c => .tup (sqT_of h) (DdAll.dp t (by simpa [PyData.canLay0] using c))
  | _, .scr h, c => by simp [PyData.canLay0] at c
theorem DdAll.dp {vs : List V} : ∀ {ds : List PyData}, DdAll K H vs ds → PyData.canLayAll0 ds = true → DpAll K H vs ds
  | _, .nil, _ => .nil
  | _, .cons a r, c => by
    simp only [PyData.canLayAll0, Bool.and_eq_true] at c
    exact .cons (Dd.dp a c.1) (DdAll.dp r c.2)
end

/-! ### heaps -/
structure Grow (Hs H Hs' H' : Hp) : Prop where
  ex : Same H H'
  exs : Same Hs Hs'
  sub : Same Hs' H'
  new : ∀ a, Hs a = none → H a ≠ none → Hs' a = none
variable {Hs Hs' Hs1 Hs2 Hs0 H0 : Hp}
theorem Grow.refl (h : Same Hs H) : Grow Hs H Hs H := ⟨Same.refl _, Same.refl _, h, fun _ e _ => e⟩
theorem Grow.trans (a : Grow Hs H Hs1 H1) (b : Grow Hs1 H1 Hs2 H2) : Grow Hs H Hs2 H2 where
  ex := a.ex.trans b.ex
  exs := a.exs.trans b.exs
  sub := b.sub
  new := fun c e n => b.new c (a.new c e n) (fun z => n (a.ex.free z))
theorem Grow.idle (h : Same Hs H) (e : Same H H') : Grow Hs H Hs H' := ⟨e, Same.refl _, h.trans e, fun _ e _ => e⟩
theorem same_new {p : Addr} {o : HO} (h : H p = none) : Same H (upd H p o) := fun b x e => by
  rw [upd_ne (ne_of_none e h)]
  exact e
theorem Grow.alloc {p : Addr} {o : HO} (h : Same Hs H) (hp : H p = none) : Grow Hs H (upd Hs p o) (upd H p o) where
  ex := same_new hp
  exs := same_new (h.free hp)
  sub := fun b x e => by
    by_cases hb : b = p
    · subst hb; rw [upd_same] at e ⊢; exact e
    · rw [upd_ne hb] at e ⊢; exact h b x e
  new := fun a e n => by
    have : a ≠ p := fun z => n (by rw [z]; exact hp)
    rw [upd_ne this]; exact e
/-- a fresh object that is not shown to the data -/
theorem Grow.alloc0 {p : Addr} {o : HO} (h : Same Hs H) (hp : H p = none) : Grow Hs H Hs (upd H p o) := Grow.idle h (same_new hp)

/-- how slots and heap bear the data; M: the slots of lists that may change; Hs: what the data lean on; Hs0, H0: the entry -/
structure SR (K : PySem.W.Frag) (M : List Nat) (Hs0 H0 Hs H : Hp) (σ : L2.St) (ρ : Rho) : Prop where
  g : Grow Hs0 H0 Hs H
  len : σ.length = ρ.length
  frz : ∀ i d, ρ[i]? = some (some d) → M.contains i = false → ∃ v, σ[i]? = some (some v) ∧ Dd K Hs v d
  own : ∀ i d, ρ[i]? = some (some d) → M.contains i = true → ∃ p xs ds, d = .list ds ∧ σ[i]? = some (some (.ref p)) ∧ H p = some (.lst xs) ∧ Hs p = none ∧ H0 p = none ∧ DdAll K Hs xs ds
  sep : ∀ i j di dj p, ρ[i]? = some (some di) → ρ[j]? = some (some dj) → M.contains i = true → M.contains j = true → σ[i]? = some (some (.ref p)) → σ[j]? = some (some (.ref p)) → i = j
variable {M : List Nat} {σ : L2.St} {ρ : Rho}
theorem SR.sub (r : SR K M Hs0 H0 Hs H σ ρ) : Same Hs H := r.g.sub
theorem SR.grow (r : SR K M Hs0 H0 Hs H σ ρ) (e : Grow Hs H Hs' H') : SR K M Hs0 H0 Hs' H' σ ρ where
  g := r.g.trans e
  len := r.len
  frz := fun i d h m => let ⟨v, a, b⟩ := r.frz i d h m; ⟨v, a, b.mono e.exs⟩
  own := fun i d h m => let ⟨p, xs, ds, a, b, c, n, n0, k⟩ := r.own i d h m; ⟨p, xs, ds, a, b, e.ex _ _ c, e.new p n (by rw [c]; simp), n0, k.mono e.exs⟩
  sep := r.sep
/-- what has been new since the entry stands still -/
def thawH (H0 Hs H : Hp) : Hp := fun a => if H0 a = none then H a else Hs a
open Classical in
theorem SR.thaw (r : SR K M Hs0 H0 Hs H σ ρ) : ∃ Hp', Same Hs Hp' ∧ SR K [] Hs0 H0 Hp' H σ ρ ∧ SR K [] Hp' H Hp' H σ ρ := by
  refine ⟨fun a => if H0 a = none then H a else Hs a, ?_⟩
  have e1 : Same Hs (fun a => if H0 a = none then H a else Hs a) := fun b o e => by
    show (if H0 b = none then H b else Hs b) = some o
    by_cases z : H0 b = none
    · rw [if_pos z]; exact r.sub b o e
    · rw [if_neg z]; exact e
  have e2 : Same (fun a => if H0 a = none then H a else Hs a) H := fun b o e => by
    have e : (if H0 b = none then H b else Hs b) = some o := e
    by_cases z : H0 b = none
    · rw [if_pos z] at e; exact e
    · rw [if_neg z] at e; exact r.sub b o e
  have g : Grow Hs0 H0 (fun a => if H0 a = none then H a else Hs a) H := ⟨r.g.ex, r.g.exs.trans e1, e2, fun a e n => by
    show (if H0 a = none then H a else Hs a) = none
    rw [if_neg n]; exact r.g.new a e n⟩
  have fz : ∀ i d, ρ[i]? = some (some d) → ∃ v, σ[i]? = some (some v) ∧ Dd K (fun a => if H0 a = none then H a else Hs a) v d := fun i d h => by
    cases m : M.contains i with
    | false =>
      obtain ⟨v, a, b⟩ := r.frz i d h m
      exact ⟨v, a, b.mono e1⟩
    | true =>
      obtain ⟨p, xs, ds, rfl, b, c, n, n0, k⟩ := r.own i d h m
      exact ⟨_, b, .lst (by show (if H0 p = none then H p else Hs p) = _; rw [if_pos n0]; exact c) (k.mono e1)⟩
  exact ⟨e1, ⟨g, r.len, fun i d h _ => fz i d h, fun _ _ _ m => by simp at m, fun _ _ _ _ _ _ _ m => by simp at m⟩,
    ⟨Grow.refl e2, r.len, fun i d h _ => fz i d h, fun _ _ _ m => by simp at m, fun _ _ _ _ _ _ _ m => by simp at m⟩⟩
end
end DL

namespace DL
open PySem PySem.Spec PyProof.Rows L2

/-! ### judgements: a derivation, its reading, and the function of the data -/
structure ED (K : PySem.W.Frag) (X : Cx) (M : List Nat) (e : Expr) (t : TE) (f : Fn) : Prop where
  pe : PE X e t
  sm : ∀ {Hs0 H0 Hs H : Hp} {σ : L2.St} {ρ : Rho} {d : PyData} {Q : VK}, SR K M Hs0 H0 Hs H σ ρ → f ρ = some d → (∀ v Hs' H', Grow Hs H Hs' H' → Dd K Hs' v d → Q v H') → t σ H Q
structure AD (K : PySem.W.Frag) (X : Cx) (M : List Nat) (es : List Expr) (t : TA) (f : Rho → Option (List PyData)) : Prop where
  pa : PA X es t
  sm : ∀ {Hs0 H0 Hs H : Hp} {σ : L2.St} {ρ : Rho} {ds : List PyData} {Q : List V → Hp → Prop}, SR K M Hs0 H0 Hs H σ ρ → f ρ = some ds → (∀ vs Hs' H', Grow Hs H Hs' H' → DdAll K Hs' vs ds → Q vs H') → t σ H Q
structure TD (K : PySem.W.Frag) (X : Cx) (M : List Nat) (e : Expr) (t : TT) (f : Rho → Option Bool) : Prop where
  pt : PT X e t
  sm : ∀ {Hs0 H0 Hs H : Hp} {σ : L2.St} {ρ : Rho} {b : Bool} {Q : Bool → Hp → Prop}, SR K M Hs0 H0 Hs H σ ρ → f ρ = some b → (∀ H', Same H H' → Q b H') → t σ H Q
structure WD (K : PySem.W.Frag) (X : Cx) (M : List Nat) (e : Expr) (t : TT) (f : Rho → Option Bool) : Prop where
  pw : PW X e t
  sm : ∀ {Hs0 H0 Hs H : Hp} {σ : L2.St} {ρ : Rho} {b : Bool} {Q : Bool → Hp → Prop}, SR K M Hs0 H0 Hs H σ ρ → f ρ = some b → (∀ H', Same H H' → Q b H') → t σ H Q
/-- a fresh list, its items below Hs' -/
structure FD (K : PySem.W.Frag) (X : Cx) (M : List Nat) (e : Expr) (t : TE) (f : Rho → Option (List PyData)) : Prop where
  pe : PE X e t
  sm : ∀ {Hs0 H0 Hs H : Hp} {σ : L2.St} {ρ : Rho} {ds : List PyData} {Q : VK}, SR K M Hs0 H0 Hs H σ ρ → f ρ = some ds →
    (∀ p xs Hs' H', Grow Hs H Hs' H' → H p = none → Hs' p = none → H' p = some (.lst xs) → DdAll K Hs' xs ds → Q (.ref p) H') → t σ H Q

section
variable {K : PySem.W.Frag} {X : Cx} {M : List Nat} {a b c e : Expr} {es : List Expr} {ta tb tc te : TE} {t u : TT} {fa fb fc f : Fn} {pos p pos' : Pos}

/-! ### names, constants -/
@[simp] def fVar (i : Nat) : Fn := fun ρ => match ρ[i]? with
  | some o => o
  | none => none
@[simp] def fC (d : PyData) : Fn := fun _ => some d
theorem fVar_some {i : Nat} {ρ : Rho} {d : PyData} (h : fVar i ρ = some d) : ρ[i]? = some (some d) := by
  unfold fVar at h
  split at h
  · rename_i o e; rw [e, h]
  · cases h
theorem ed_var (i : Nat) {x : Str} (hN : X.N[i]? = some x := by rfl) (hv : Vis X.env.scope x := by first | exact Or.inl rfl | exact Or.inr (Or.inl rfl) | exact Or.inr (Or.inr rfl)) (hM : M.contains i = false := by rfl)
    (hd : (x == ("__debug__" : Str)) = false := by decide) (hcd : (x == ("__classdict__" : Str)) = false := by decide) : ED K X M (.Name x pos) (tVar i) (fVar i) :=
  ⟨pe_var hN hv hd hcd, fun {Hs0 H0 Hs H σ ρ d Q} r h q => by
    obtain ⟨v, a, b⟩ := r.frz i d (fVar_some h) hM
    exact ⟨v, a, q v Hs H (Grow.refl r.sub) b⟩⟩
theorem ed_int {i j} : ED K X M (.Constant (.int i) j pos) (tC (.int i)) (fC (.int i)) :=
  ⟨pe_int, fun {Hs0 H0 Hs H σ ρ d Q} r h q => by cases h; exact q _ Hs H (Grow.refl r.sub) (.int i)⟩
theorem ed_bl {i j} : ED K X M (.Constant (.bool i) j pos) (tC (.bl i)) (fC (.bool i)) :=
  ⟨pe_bl, fun {Hs0 H0 Hs H σ ρ d Q} r h q => by cases h; exact q _ Hs H (Grow.refl r.sub) (.bl i)⟩
theorem ed_non {j} : ED K X M (.Constant .none j pos) (tC .non) (fC .none) :=
  ⟨pe_non, fun {Hs0 H0 Hs H σ ρ d Q} r h q => by cases h; exact q _ Hs H (Grow.refl r.sub) .non⟩
theorem ed_str {x j} : ED K X M (.Constant (.str x) j pos) (tC (.str x)) (fC (.str x)) :=
  ⟨pe_str, fun {Hs0 H0 Hs H σ ρ d Q} r h q => by cases h; exact q _ Hs H (Grow.refl r.sub) (.str x)⟩

/-! ### argument lists, displays -/
@[simp] def fNil : Rho → Option (List PyData) := fun _ => some []
@[simp] def fCons (f : Fn) (g : Rho → Option (List PyData)) : Rho → Option (List PyData) := fun ρ => (f ρ).bind fun d => (g ρ).bind fun ds => some (d :: ds)
variable {tr : TA} {fr : Rho → Option (List PyData)}
theorem ad_nil : AD K X M [] tNil fNil := ⟨pa_nil, fun {Hs0 H0 Hs H σ ρ ds Q} r h q => by cases h; exact q [] Hs H (Grow.refl r.sub) .nil⟩
theorem ad_cons (ha : ED K X M e te f) (hr : AD K X M es tr fr) (hs : starEach (e :: es) X.env = (false, eval e X.env) :: starEach es X.env := by rfl) : AD K X M (e :: es) (tCons te tr) (fCons f fr) :=
  ⟨pa_cons ha.pe hr.pa hs, fun {Hs0 H0 Hs H σ ρ ds Q} r h q => by
    unfold fCons at h
    cases h1 : f ρ with
    | none => rw [h1] at h; cases h
    | some d =>
      rw [h1] at h
      cases h2 : fr ρ with
      | none => simp [h2] at h
      | some ds' =>
        simp [h2] at h
        subst h
        refine ha.sm r h1 fun v Hs1 H1 g1 d1 => ?_
        exact hr.sm (r.grow g1) h2 fun vs Hs2 H2 g2 d2 => q _ Hs2 H2 (g1.trans g2) (.cons (d1.mono g2.exs) d2)⟩
theorem szM {n : Nat} (h : n ≤ 1000000) : n ≤ sizeLine := Nat.le_trans h (by decide)
theorem szL {n : Nat} (h : n < 1000000) : n < sizeLine := Nat.lt_of_lt_of_le h (by decide)
@[simp] def fTup (g : Rho → Option (List PyData)) : Fn := fun ρ => (g ρ).bind fun ds => if ds.length ≤ 1000000 then some (.tuple ds) else none
@[simp] def fList (g : Rho → Option (List PyData)) : Rho → Option (List PyData) := fun ρ => (g ρ).bind fun ds => if ds.length ≤ 1000000 then some ds else none
@[simp] def fFr (g : Rho → Option (List PyData)) : Fn := fun ρ => (g ρ).bind fun ds => some (.list ds)
theorem bind_some {α β : Type} {o : Option α} {k : α → Option β} {b : β} (h : o.bind k = some b) : ∃ a, o = some a ∧ k a = some b := by
  cases o with
  | none => cases h
  | some a => exact ⟨a, rfl, h⟩
theorem ite_some {α : Type} {c : Prop} [Decidable c] {a b : α} (h : (if c then some a else none) = some b) : c ∧ a = b := by
  by_cases hc : c
  · rw [if_pos hc] at h; exact ⟨hc, Option.some.inj h⟩
  · rw [if_neg hc] at h; cases h
/-- a new tuple, told with its own object: it has no dict -/
theorem Inv.tupN {pins : List (Addr × Obj)} {σ : L2.St} {H : Hp} {s : Shared} {xs : List V} {its : List Value} {t' : Nat} (I : Inv X pins σ H s) (hv : Vals xs its) (hz : xs.length ≤ sizeLine) :
    Inv X pins σ (upd H s.heap.objs.size (.frz { cls := .type "tuple", data := .seq its.toArray } (.tup xs))) { s with heap := s.heap.push { cls := .type "tuple", data := .seq its.toArray }, toks := t' } :=
  I.laid (fun _ _ q => Heap.get?_push_of_some _ q) (Nat.le_refl _) ⟨Heap.get?_push_size _ rfl, hz, its, hv, ⟨_, Heap.get?_push_size _ rfl, rfl, _, rfl⟩⟩
def NewT (Q : VK) (H : Hp) (xs : List V) : Prop := ∀ p ob, ob.dict = none → H p = none → Q (.ref p) (upd H p (.frz ob (.tup xs)))
def tTupN (t : TA) : TE := fun σ H Q => t σ H fun xs H1 => xs.length ≤ sizeLine ∧ NewT Q H1 xs
theorem pe_tupN {x1} (h : PA X es tr) : PE X (.Tuple es x1 pos) (tTupN tr) := by
  refine ⟨fun pins s σ H Q I hq => ?_⟩
  refine wpAny_Tuple_spliced (thn (h.run pos pins s σ H _ I hq) fun us s1 ⟨xs, H1, I1, r, z, q⟩ => ⟨by rw [← r.length]; exact z, ?_⟩)
  exact ⟨.ref s1.heap.objs.size, _, Inv.tupN (t' := s1.toks) I1 r z, rfl, q _ _ rfl (I1.hok.fresh (Nat.le_refl _))⟩
theorem NewT.of {Q : VK} {Hs Hs1 H H1 : Hp} {vs : List V} {ds : List PyData} (g1 : Grow Hs H Hs1 H1) (d1 : DdAll K Hs1 vs ds) (q : ∀ v Hs' H', Grow Hs H Hs' H' → Dd K Hs' v (.tuple ds) → Q v H') : NewT Q H1 vs := fun p ob hn hp => by
  have g2 : Grow Hs1 H1 (upd Hs1 p (.frz ob (.tup vs))) (upd H1 p (.frz ob (.tup vs))) := Grow.alloc g1.sub hp
  exact q _ _ _ (g1.trans g2) (.tup hn upd_same (d1.mono g2.exs))
theorem ed_tup {k} (h : AD K X M es tr fr) : ED K X M (.Tuple es k pos) (tTupN tr) (fTup fr) :=
  ⟨pe_tupN h.pa, fun {Hs0 H0 Hs H σ ρ d Q} r hf q => by
    obtain ⟨ds, h1, h2⟩ := bind_some hf
    obtain ⟨hl, rfl⟩ := ite_some h2
    exact h.sm r h1 fun vs Hs1 H1 g1 d1 => ⟨szM (by rw [d1.length]; exact hl), NewT.of g1 d1 q⟩⟩
theorem fd_lst (h : AD K X M es tr fr) : FD K X M (.List es pos) (tLst tr) (fList fr) :=
  ⟨pe_lst h.pa, fun {Hs0 H0 Hs H σ ρ ds Q} r hf q => by
    obtain ⟨ds', h1, h2⟩ := bind_some hf
    obtain ⟨hl, rfl⟩ := ite_some h2
    refine h.sm r h1 fun vs Hs1 H1 g1 d1 => ⟨szM (by rw [d1.length]; exact hl), fun p hp => ?_⟩
    exact q p vs Hs1 _ (g1.trans (Grow.alloc0 g1.sub hp)) (g1.ex.free hp) (g1.sub.free hp) upd_same d1⟩
/-- a fresh list, told as data -/
theorem ed_fr {g : Rho → Option (List PyData)} (h : FD K X M e te g) : ED K X M e te (fFr g) :=
  ⟨h.pe, fun {Hs0 H0 Hs H σ ρ d Q} r hf q => by
    obtain ⟨ds, h1, h2⟩ := bind_some hf
    obtain rfl := Option.some.inj h2
    refine h.sm r h1 fun p xs Hs1 H1 g1 hp hsp hH d1 => ?_
    have e1 : Same Hs1 (upd Hs1 p (.lst xs)) := same_new hsp
    refine q _ (upd Hs1 p (.lst xs)) H1 ⟨g1.ex, g1.exs.trans e1, fun b o z => ?_, fun a z n => ?_⟩ (.lst upd_same (d1.mono e1))
    · by_cases hb : b = p
      · subst hb; rw [upd_same] at z; rw [hH]; exact z
      · rw [upd_ne hb] at z; exact g1.sub _ _ z
    · have : a ≠ p := fun y => n (by rw [y]; exact hp)
      rw [upd_ne this]; exact g1.new a z n⟩

/-! ### operations -/
@[simp] def f2 (g : PyData → PyData → Option PyData) (fa fb : Fn) : Fn := fun ρ => (fa ρ).bind fun x => (fb ρ).bind fun y => g x y
@[simp] def f1 (g : PyData → Option PyData) (fa : Fn) : Fn := fun ρ => (fa ρ).bind g
structure OD (K : PySem.W.Frag) (X : Cx) (op : Value → Value → Sem Value) (r : R2) (g : PyData → PyData → Option PyData) : Prop where
  op : OpR X op r
  sm : ∀ {Hs H : Hp} {x y : V} {dx dy d : PyData} {Q : VK}, Same Hs H → Dd K Hs x dx → Dd K Hs y dy → g dx dy = some d → (∀ v Hs' H', Grow Hs H Hs' H' → Dd K Hs' v d → Q v H') → r x y H Q
theorem two_sm {r : R2} {g : PyData → PyData → Option PyData} (ho : ∀ {Hs H : Hp} {x y : V} {dx dy d : PyData} {Q : VK}, Same Hs H → Dd K Hs x dx → Dd K Hs y dy → g dx dy = some d → (∀ v Hs' H', Grow Hs H Hs' H' → Dd K Hs' v d → Q v H') → r x y H Q)
    (ha : ED K X M a ta fa) (hb : ED K X M b tb fb) {Hs0 H0 Hs H : Hp} {σ : L2.St} {ρ : Rho} {d : PyData} {Q : VK} (R : SR K M Hs0 H0 Hs H σ ρ) (hf : f2 g fa fb ρ = some d) (q : ∀ v Hs' H', Grow Hs H Hs' H' → Dd K Hs' v d → Q v H') : tOp r ta tb σ H Q := by
  obtain ⟨x, h1, h2⟩ := bind_some hf
  obtain ⟨y, h2, h3⟩ := bind_some h2
  refine ha.sm R h1 fun v Hs1 H1 g1 d1 => ?_
  refine hb.sm (R.grow g1) h2 fun u Hs2 H2 g2 d2 => ?_
  exact ho g2.sub (d1.mono g2.exs) d2 h3 fun w Hs3 H3 g3 d3 => q w Hs3 H3 ((g1.trans g2).trans g3) d3
theorem ed_op {op : Operator} {r : R2} {g : PyData → PyData → Option PyData} (ho : OD K X (binaryOp op) r g) (ha : ED K X M a ta fa) (hb : ED K X M b tb fb) : ED K X M (.BinOp a op b pos) (tOp r ta tb) (f2 g fa fb) :=
  ⟨pe_op ho.op ha.pe hb.pe, fun R hf q => two_sm ho.sm ha hb R hf q⟩
theorem ed_cmp {op : CmpOp} {r : R2} {g : PyData → PyData → Option PyData} (ho : OD K X (compareOp op) r g) (ha : ED K X M a ta fa) (hb : ED K X M b tb fb) (hm : behindInMarks op b = false := by first | exact nomark _ | rfl) :
    ED K X M (.Compare a [op] [b] pos) (tOp r ta tb) (f2 g fa fb) :=
  ⟨pe_cmpR ho.op ha.pe hb.pe hm, fun R hf q => two_sm ho.sm ha hb R hf q⟩
/-- a value that is a truth, as a test -/
@[simp] def fB (f : Fn) : Rho → Option Bool := fun ρ => (f ρ).bind fun d => match d with
  | .bool b => some b
  | _ => none
theorem fB_some {ρ : Rho} {b : Bool} (h : fB f ρ = some b) : f ρ = some (.bool b) := by
  obtain ⟨d, h1, h2⟩ := bind_some h
  cases d <;> simp at h2
  subst h2; exact h1
theorem td_cmp {op : CmpOp} {r : R2} {g : PyData → PyData → Option PyData} (ho : OD K X (compareOp op) r g) (ha : ED K X M a ta fa) (hb : ED K X M b tb fb) (hm : behindInMarks op b = false := by first | exact nomark _ | rfl) :
    TD K X M (.Compare a [op] [b] pos) (tTest (tOp r ta tb)) (fB (f2 g fa fb)) :=
  ⟨pt_cmpR ho.op ha.pe hb.pe hm, fun {Hs0 H0 Hs H σ ρ c Q} R hf q => two_sm ho.sm ha hb R (fB_some hf) fun v Hs1 H1 g1 d1 => by
    cases d1
    exact ⟨_, rfl, q H1 g1.ex⟩⟩
theorem td_val (ha : ED K X M e te f) (he : ∀ whole, isTrue e X.env whole = (do let v ← whole; standAt e.pos; holding [v] (truthy v)) := by intro _; rfl) : TD K X M e (tB te) (fB f) :=
  ⟨pt_val ha.pe he, fun {Hs0 H0 Hs H σ ρ c Q} R hf q => ha.sm R (fB_some hf) fun v Hs1 H1 g1 d1 => by
    cases d1
    exact ⟨_, rfl, q H1 g1.ex⟩⟩

/-! ### and, or, not -/
@[simp] def bAnd (f g : Rho → Option Bool) : Rho → Option Bool := fun ρ => (f ρ).bind fun b => if b = true then g ρ else some false
@[simp] def bOr (f g : Rho → Option Bool) : Rho → Option Bool := fun ρ => (f ρ).bind fun b => if b = true then some true else g ρ
@[simp] def bNot (f : Rho → Option Bool) : Rho → Option Bool := fun ρ => (f ρ).bind fun b => some (!b)
variable {ba bb : Rho → Option Bool} {rest : List Expr}
theorem wd_and1 (h : TD K X M a t ba) : WD K X M (.BoolOp .And [a] pos) t ba := ⟨pw_and1 h.pt, h.sm⟩
theorem wd_or1 (h : TD K X M a t ba) : WD K X M (.BoolOp .Or [a] pos) t ba := ⟨pw_or1 h.pt, h.sm⟩
theorem SR.same {Hs0 H0 Hs H H' : Hp} {σ : L2.St} {ρ : Rho} (r : SR K M Hs0 H0 Hs H σ ρ) (e : Same H H') : SR K M Hs0 H0 Hs H' σ ρ := r.grow (Grow.idle r.sub e)
theorem wd_and (ha : TD K X M a t ba) (hb : WD K X M (.BoolOp .And (b :: rest) pos) u bb) : WD K X M (.BoolOp .And (a :: b :: rest) pos) (tAnd t u) (bAnd ba bb) :=
  ⟨pw_and ha.pt hb.pw, fun {Hs0 H0 Hs H σ ρ c Q} R hf q => by
    obtain ⟨x, h1, h2⟩ := bind_some hf
    refine ha.sm R h1 fun H1 e1 => ?_
    cases x with
    | true =>
      rw [if_pos rfl] at h2 ⊢
      exact hb.sm (R.same e1) h2 fun H2 e2 => q H2 (e1.trans e2)
    | false =>
      rw [if_neg Bool.false_ne_true] at h2 ⊢
      cases h2
      exact q H1 e1⟩
theorem wd_or (ha : TD K X M a t ba) (hb : WD K X M (.BoolOp .Or (b :: rest) pos) u bb) : WD K X M (.BoolOp .Or (a :: b :: rest) pos) (tOr t u) (bOr ba bb) :=
  ⟨pw_or ha.pt hb.pw, fun {Hs0 H0 Hs H σ ρ c Q} R hf q => by
    obtain ⟨x, h1, h2⟩ := bind_some hf
    refine ha.sm R h1 fun H1 e1 => ?_
    cases x with
    | false =>
      rw [if_neg Bool.false_ne_true] at h2 ⊢
      exact hb.sm (R.same e1) h2 fun H2 e2 => q H2 (e1.trans e2)
    | true =>
      rw [if_pos rfl] at h2 ⊢
      cases h2
      exact q H1 e1⟩
theorem td_w (h : WD K X M e t ba) : TD K X M e t ba := ⟨h.pw.pt, h.sm⟩
theorem td_not (h : TD K X M a t ba) : TD K X M (.UnaryOp .Not a pos) (tNot t) (bNot ba) :=
  ⟨pt_not h.pt, fun {Hs0 H0 Hs H σ ρ c Q} R hf q => by
    obtain ⟨x, h1, h2⟩ := bind_some hf
    cases h2
    exact h.sm R h1 fun H1 e1 => q H1 e1⟩
/-- as values -/
@[simp] def fAnd (fa fb : Fn) : Fn := fun ρ => (fa ρ).bind fun d => match d with
  | .bool true => fb ρ
  | .bool false => some (.bool false)
  | _ => none
@[simp] def fOr (fa fb : Fn) : Fn := fun ρ => (fa ρ).bind fun d => match d with
  | .bool false => fb ρ
  | .bool true => some (.bool true)
  | _ => none
@[simp] def fNot (fa : Fn) : Fn := fun ρ => (fa ρ).bind fun d => match d with
  | .bool b => some (.bool (!b))
  | _ => none
theorem ed_one {op} (h : ED K X M a ta fa) : ED K X M (.BoolOp op [a] pos) ta fa := ⟨pe_one h.pe, h.sm⟩
theorem ed_and (ha : ED K X M a ta fa) (hb : ED K X M (.BoolOp .And (b :: rest) pos) tb fb) : ED K X M (.BoolOp .And (a :: b :: rest) pos) (tAndV ta tb) (fAnd fa fb) :=
  ⟨pe_and ha.pe hb.pe, fun {Hs0 H0 Hs H σ ρ d Q} R hf q => by
    obtain ⟨x, h1, h2⟩ := bind_some hf
    refine ha.sm R h1 fun v Hs1 H1 g1 d1 => ?_
    cases x with
    | bool k =>
      cases d1
      refine ⟨k, rfl, ?_⟩
      cases k with
      | true => rw [if_pos rfl]; exact hb.sm (R.grow g1) h2 fun w Hs2 H2 g2 d2 => q w Hs2 H2 (g1.trans g2) d2
      | false =>
        rw [if_neg Bool.false_ne_true]
        obtain rfl := Option.some.inj h2
        exact q _ Hs1 H1 g1 (.bl false)
    | _ => cases h2⟩
theorem ed_or (ha : ED K X M a ta fa) (hb : ED K X M (.BoolOp .Or (b :: rest) pos) tb fb) : ED K X M (.BoolOp .Or (a :: b :: rest) pos) (tOrV ta tb) (fOr fa fb) :=
  ⟨pe_or ha.pe hb.pe, fun {Hs0 H0 Hs H σ ρ d Q} R hf q => by
    obtain ⟨x, h1, h2⟩ := bind_some hf
    refine ha.sm R h1 fun v Hs1 H1 g1 d1 => ?_
    cases x with
    | bool k =>
      cases d1
      refine ⟨k, rfl, ?_⟩
      cases k with
      | false => rw [if_neg Bool.false_ne_true]; exact hb.sm (R.grow g1) h2 fun w Hs2 H2 g2 d2 => q w Hs2 H2 (g1.trans g2) d2
      | true =>
        rw [if_pos rfl]
        obtain rfl := Option.some.inj h2
        exact q _ Hs1 H1 g1 (.bl true)
    | _ => cases h2⟩
theorem ed_not (ha : ED K X M a ta fa) : ED K X M (.UnaryOp .Not a pos) (tNotV ta) (fNot fa) :=
  ⟨pe_not ha.pe, fun {Hs0 H0 Hs H σ ρ d Q} R hf q => by
    obtain ⟨x, h1, h2⟩ := bind_some hf
    refine ha.sm R h1 fun v Hs1 H1 g1 d1 => ?_
    cases x with
    | bool k =>
      cases d1
      obtain rfl := Option.some.inj h2
      exact ⟨k, rfl, q _ Hs1 H1 g1 (.bl _)⟩
    | _ => cases h2⟩
/-- a if c else b -/
@[simp] def fIf (c : Rho → Option Bool) (fa fb : Fn) : Fn := fun ρ => (c ρ).bind fun k => if k = true then fa ρ else fb ρ
theorem ed_if {c : Expr} (hc : TD K X M c t ba) (ha : ED K X M a ta fa) (hb : ED K X M b tb fb) : ED K X M (.IfExp c a b pos) (tIf t ta tb) (fIf ba fa fb) :=
  ⟨pe_ifExp hc.pt ha.pe hb.pe, fun {Hs0 H0 Hs H σ ρ d Q} R hf q => by
    obtain ⟨x, h1, h2⟩ := bind_some hf
    refine hc.sm R h1 fun H1 e1 => ?_
    cases x with
    | true => rw [if_pos rfl] at h2 ⊢; exact ha.sm (R.same e1) h2 fun v Hs2 H2 g2 d2 => q v Hs2 H2 ((Grow.idle R.sub e1).trans g2) d2
    | false => rw [if_neg Bool.false_ne_true] at h2 ⊢; exact hb.sm (R.same e1) h2 fun v Hs2 H2 g2 d2 => q v Hs2 H2 ((Grow.idle R.sub e1).trans g2) d2⟩

/-! ### chains of comparisons -/
@[simp] def fChain (g g' : PyData → PyData → Option PyData) (fa fb fc : Fn) : Fn := fun ρ => (fa ρ).bind fun x => (fb ρ).bind fun y => (g x y).bind fun z => match z with
  | .bool true => (fc ρ).bind fun w => g' y w
  | .bool false => some (.bool false)
  | _ => none
theorem chain_sm {op op' : CmpOp} {r r' : R2} {g g' : PyData → PyData → Option PyData} (ho : OD K X (compareOp op) r g) (ho' : OD K X (compareOp op') r' g') (ha : ED K X M a ta fa) (hb : ED K X M b tb fb) (hc : ED K X M c tc fc)
    {Hs0 H0 Hs H : Hp} {σ : L2.St} {ρ : Rho} {d : PyData} {Q : VK} (R : SR K M Hs0 H0 Hs H σ ρ) (hf : fChain g g' fa fb fc ρ = some d) (q : ∀ v Hs' H', Grow Hs H Hs' H' → Dd K Hs' v d → Q v H') : tChain r r' ta tb tc σ H Q := by
  obtain ⟨x, h1, h2⟩ := bind_some hf
  obtain ⟨y, h2, h3⟩ := bind_some h2
  obtain ⟨z, h3, h4⟩ := bind_some h3
  refine ha.sm R h1 fun v Hs1 H1 g1 d1 => ?_
  refine hb.sm (R.grow g1) h2 fun u Hs2 H2 g2 d2 => ?_
  refine ho.sm g2.sub (d1.mono g2.exs) d2 h3 fun w Hs3 H3 g3 d3 => ?_
  cases z with
  | bool k =>
    cases d3
    refine ⟨k, rfl, ?_⟩
    cases k with
    | true =>
      rw [if_pos rfl]
      obtain ⟨w', h5, h6⟩ := bind_some h4
      refine hc.sm (((R.grow g1).grow g2).grow g3) h5 fun w Hs4 H4 g4 d4 => ?_
      exact ho'.sm g4.sub ((d2.mono g3.exs).mono g4.exs) d4 h6 fun o Hs5 H5 g5 d5 => q o Hs5 H5 ((((g1.trans g2).trans g3).trans g4).trans g5) d5
    | false =>
      rw [if_neg Bool.false_ne_true]
      obtain rfl := Option.some.inj h4
      exact q _ Hs3 H3 ((g1.trans g2).trans g3) (.bl false)
  | _ => cases h4
theorem ed_chain {op op' : CmpOp} {r r' : R2} {g g' : PyData → PyData → Option PyData} (ho : OD K X (compareOp op) r g) (ho' : OD K X (compareOp op') r' g') (ha : ED K X M a ta fa) (hb : ED K X M b tb fb) (hc : ED K X M c tc fc)
    (hm : lastMarks [op, op'] [b, c] = false := by with_unfolding_all rfl) : ED K X M (.Compare a [op, op'] [b, c] pos) (tChain r r' ta tb tc) (fChain g g' fa fb fc) :=
  ⟨pe_chain ho.op ho'.op ha.pe hb.pe hc.pe hm, fun R hf q => chain_sm ho ho' ha hb hc R hf q⟩
theorem td_chain {op op' : CmpOp} {r r' : R2} {g g' : PyData → PyData → Option PyData} (ho : OD K X (compareOp op) r g) (ho' : OD K X (compareOp op') r' g') (ha : ED K X M a ta fa) (hb : ED K X M b tb fb) (hc : ED K X M c tc fc)
    (hm : lastMarks [op, op'] [b, c] = false := by with_unfolding_all rfl) : TD K X M (.Compare a [op, op'] [b, c] pos) (tTest (tChain r r' ta tb tc)) (fB (fChain g g' fa fb fc)) :=
  ⟨pt_chain ho.op ho'.op ha.pe hb.pe hc.pe hm, fun {Hs0 H0 Hs H σ ρ k Q} R hf q => chain_sm ho ho' ha hb hc R (fB_some hf) fun v Hs1 H1 g1 d1 => by
    cases d1
    exact ⟨_, rfl, q H1 g1.ex⟩⟩

/-! ### truth of any value -/
@[simp] def gTru : PyData → Option Bool
  | .none => some false
  | .bool b => some b
  | .int i => some (i != 0)
  | .str x => if x.length ≤ 1000000 then some ((x.length : Int) != 0) else none
  | .list ds => some (!ds.isEmpty)
  | .tuple ds => some (!ds.isEmpty)
  | .dict _ => none
@[simp] def fTru (f : Fn) : Rho → Option Bool := fun ρ => (f ρ).bind gTru
theorem isEmpty_dd {H : Hp} {vs : List V} {ds : List PyData} (h : DdAll K H vs ds) : ds.isEmpty = vs.isEmpty := by
  cases h <;> rfl
theorem td_truth (ha : ED K X M e te f) (hK : X.K = K := by rfl) (he : ∀ whole, isTrue e X.env whole = (do let v ← whole; standAt e.pos; holding [v] (truthy v)) := by intro _; rfl) :
    TD K X M e (fun σ H Q => te σ H fun x H' => ∃ k, TruV K x H' k ∧ Q k H') (fTru f) := by
  subst hK
  refine ⟨pt_truth ha.pe he, fun {Hs0 H0 Hs H σ ρ k Q} R hf q => ?_⟩
  obtain ⟨d, h1, h2⟩ := bind_some hf
  refine ha.sm R h1 fun v Hs1 H1 g1 d1 => ⟨k, ?_, q H1 g1.ex⟩
  cases d1 with
  | non => exact (Option.some.inj h2).symm
  | bl b => exact (Option.some.inj h2).symm
  | int i => exact (Option.some.inj h2).symm
  | str x =>
    obtain ⟨a, b⟩ := ite_some h2
    exact ⟨szM a, b.symm⟩
  | lst h t => exact .inl ⟨_, sqL_of (g1.sub _ _ h), by rw [← isEmpty_dd t]; exact (Option.some.inj h2).symm⟩
  | tup n h t => exact .inr (.inl ⟨_, sqT_of (g1.sub _ _ h), by rw [← isEmpty_dd t]; exact (Option.some.inj h2).symm⟩)
  | scr h => cases h2
end
end DL

namespace DL
open PySem PySem.Spec PyProof.Rows L2
section
variable {K : PySem.W.Frag} {X : Cx}

/-! ### operators of ints -/
theorem od_I {op : Value → Value → Sem Value} {C : Int → Int → Prop} [DecidableRel C] {h : Int → Int → V} {g : Int → Int → PyData} (ho : OpR X op (rI C h)) (hd : ∀ (H : Hp) i j, Dd K H (h i j) (g i j)) :
    OD K X op (rI C h) (fun x y => match x, y with
      | .int i, .int j => if C i j then some (g i j) else none
      | _, _ => none) :=
  ⟨ho, fun {Hs H x y dx dy d Q} e a b hf q => by
    cases a <;> cases b <;> first
      | (cases hf; done)
      | (rename_i i j
         obtain ⟨hc, rfl⟩ := ite_some hf
         exact ⟨i, j, rfl, rfl, hc, q _ Hs H (Grow.refl e) (hd _ i j)⟩)⟩
theorem od_I0 {op : Value → Value → Sem Value} {h : Int → Int → V} {g : Int → Int → PyData} (ho : OpR X op (rI0 h)) (hd : ∀ (H : Hp) i j, Dd K H (h i j) (g i j)) :
    OD K X op (rI0 h) (fun x y => match x, y with
      | .int i, .int j => some (g i j)
      | _, _ => none) :=
  ⟨ho, fun {Hs H x y dx dy d Q} e a b hf q => by
    cases a <;> cases b <;> first
      | (cases hf; done)
      | (rename_i i j
         obtain rfl := Option.some.inj hf
         exact ⟨i, j, rfl, rfl, q _ Hs H (Grow.refl e) (hd _ i j)⟩)⟩
@[simp] def gI (g : Int → Int → Int) : PyData → PyData → Option PyData := fun x y => match x, y with
  | .int i, .int j => some (.int (g i j))
  | _, _ => none
@[simp] def gIc (C : Int → Int → Prop) [DecidableRel C] (g : Int → Int → Int) : PyData → PyData → Option PyData := fun x y => match x, y with
  | .int i, .int j => if C i j then some (.int (g i j)) else none
  | _, _ => none
@[simp] def gIb (g : Int → Int → Bool) : PyData → PyData → Option PyData := fun x y => match x, y with
  | .int i, .int j => some (.bool (g i j))
  | _, _ => none
theorem od_sub : OD K X (binaryOp .Sub) (rI0 fun i j => .int (i - j)) (gI fun i j => i - j) := od_I0 (g := fun i j => .int (i - j)) op_sub fun _ _ _ => .int _
/-- conditions are not reckoned but shown -/
noncomputable instance : DecidableRel CDiv := fun _ _ => Classical.propDecidable _
noncomputable instance : DecidableRel CPow := fun _ _ => Classical.propDecidable _
def MulOk (i j : Int) : Prop := CMul i j ∨ CMulX i j
noncomputable instance : DecidableRel MulOk := fun _ _ => Classical.propDecidable _
theorem op_mulO : OpR X (binaryOp .Mult) (rI MulOk fun i j => .int (i * j)) := opI fun _ _ _ _ _ _ _ hc q => mul_int q (hc.elim CMul.ok CMulX.ok)
theorem od_mod : OD K X (binaryOp .Mod) (rI (fun _ j => 0 < j) fun i j => .int (i % j)) (gIc (fun _ j => 0 < j) fun i j => i % j) := od_I (C := fun _ j => 0 < j) (g := fun i j => .int (i % j)) op_mod fun _ _ _ => .int _
theorem od_fdiv : OD K X (binaryOp .FloorDiv) (rI CDiv fun i j => .int (i / j)) (gIc CDiv fun i j => i / j) := od_I (g := fun i j => .int (i / j)) op_fdiv fun _ _ _ => .int _
theorem od_pow : OD K X (binaryOp .Pow) (rI CPow fun i j => .int (i ^ j.toNat)) (gIc CPow fun i j => i ^ j.toNat) := od_I (g := fun i j => .int (i ^ j.toNat)) op_pow fun _ _ _ => .int _
theorem od_shr : OD K X (binaryOp .RShift) (rI (fun _ j => 0 ≤ j) fun i j => .int (i / 2 ^ j.toNat)) (gIc (fun _ j => 0 ≤ j) fun i j => i / 2 ^ j.toNat) := od_I (C := fun _ j => 0 ≤ j) (g := fun i j => .int (i / 2 ^ j.toNat)) op_shr fun _ _ _ => .int _
theorem od_and : OD K X (binaryOp .BitAnd) (rI0 fun i j => .int (Builtin.bitAnd i j)) (gI fun i j => Builtin.bitAnd i j) := od_I0 (g := fun i j => .int (Builtin.bitAnd i j)) op_and fun _ _ _ => .int _
theorem od_lt : OD K X (compareOp .Lt) (rI0 fun i j => .bl (decide (i < j))) (gIb fun i j => decide (i < j)) := od_I0 (g := fun i j => .bool (decide (i < j))) op_lt fun _ _ _ => .bl _
theorem od_le : OD K X (compareOp .LtE) (rI0 fun i j => .bl (decide (i ≤ j))) (gIb fun i j => decide (i ≤ j)) := od_I0 (g := fun i j => .bool (decide (i ≤ j))) op_le fun _ _ _ => .bl _
theorem od_gt : OD K X (compareOp .Gt) (rI0 fun i j => .bl (decide (j < i))) (gIb fun i j => decide (j < i)) := od_I0 (g := fun i j => .bool (decide (j < i))) op_gt fun _ _ _ => .bl _
theorem od_ge : OD K X (compareOp .GtE) (rI0 fun i j => .bl (decide (j ≤ i))) (gIb fun i j => decide (j ≤ i)) := od_I0 (g := fun i j => .bool (decide (j ≤ i))) op_ge fun _ _ _ => .bl _
@[simp] def gNeg : PyData → Option PyData := fun x => match x with
  | .int i => some (.int (-i))
  | _ => none
theorem un_neg' {M : List Nat} {a : Expr} {ta : TE} {fa : Fn} {pos : Pos} (ha : ED K X M a ta fa) : ED K X M (.UnaryOp .USub a pos) (tUn (rU fun i => .int (-i)) ta) (f1 gNeg fa) :=
  ⟨pe_un un_neg ha.pe, fun {Hs0 H0 Hs H σ ρ d Q} R hf q => by
    obtain ⟨x, h1, h2⟩ := bind_some hf
    refine ha.sm R h1 fun v Hs1 H1 g1 d1 => ?_
    cases d1 <;> first
      | (cases h2; done)
      | (obtain rfl := Option.some.inj h2
         exact ⟨_, rfl, q _ Hs1 H1 g1 (.int _)⟩)⟩

/-! ### +, of ints, texts, tuples, lists -/
def rCatN (K : PySem.W.Frag) : R2 := fun x y H Q => ∃ a b xs ys, x = .ref a ∧ y = .ref b ∧ SqT K H a xs ∧ SqT K H b ys ∧ xs.length + ys.length ≤ sizeLine ∧
  (xs = [] → Q (.ref b) H) ∧ (xs ≠ [] → ys = [] → Q (.ref a) H) ∧ (xs ≠ [] → ys ≠ [] → NewT Q H (xs ++ ys))
theorem op_catN : OpR X (binaryOp .Add) (rCatN X.K) := by
  intro pins s σ H x y v u Q I rx ry h
  obtain ⟨a, b, xs, ys, rfl, rfl, ha, hb, hz, q0, q1, q2⟩ := h
  cases rx
  cases ry
  obtain ⟨its, r1, p1, _⟩ := I.tuple ha
  obtain ⟨its2, r2, p2, _⟩ := I.tuple hb
  by_cases hx : xs = []
  · subst hx
    cases r1
    exact cat_tup0 p1 p2 ⟨.ref b, H, I, rfl, q0 rfl⟩
  · refine HT.cat_tup p1 p2 (fun z => hx (r1.nil_iff.mp z)) (fun z => ⟨.ref a, H, I, rfl, q1 hx (r2.nil_iff.mp z)⟩) (fun z => ?_) (by rw [← r1.length, ← r2.length]; exact hz)
    exact ⟨.ref s.heap.objs.size, _, Inv.tupN (t' := s.toks) I (r1.append r2) (by rw [List.length_append]; exact hz), rfl, q2 hx (fun w => z (r2.nil_iff.mpr w)) _ _ rfl (I.hok.fresh (Nat.le_refl _))⟩
def rAddD (K : PySem.W.Frag) : R2 := fun x y H Q => rI0 (fun i j => .int (i + j)) x y H Q ∨ (∃ i j, x = .str i ∧ y = .str j ∧ i.length + j.length ≤ sizeLine ∧ Q (.str (i ++ j)) H) ∨ rCatN K x y H Q ∨ rCat x y H Q
@[simp] def gAdd : PyData → PyData → Option PyData
  | .int a, .int b => some (.int (a + b))
  | .str a, .str b => if a.length + b.length ≤ 1000000 then some (.str (a ++ b)) else none
  | .tuple a, .tuple b => if a.length + b.length ≤ 1000000 then some (.tuple (a ++ b)) else none
  | .list a, .list b => if a.length + b.length ≤ 1000000 then some (.list (a ++ b)) else none
  | _, _ => none
theorem od_add (hK : X.K = K := by rfl) : OD K X (binaryOp .Add) (rAddD K) gAdd := by
  subst hK
  refine ⟨op_add.or (op_add_str.or (op_catN.or op_cat)), fun {Hs H x y dx dy d Q} e a b hf q => ?_⟩
  cases a with
  | int i =>
    cases b with
    | int j =>
      obtain rfl := Option.some.inj hf
      exact .inl ⟨i, j, rfl, rfl, q _ Hs H (Grow.refl e) (.int _)⟩
    | _ => cases hf
  | str i =>
    cases b with
    | str j =>
      obtain ⟨hl, rfl⟩ := ite_some hf
      exact .inr (.inl ⟨i, j, rfl, rfl, szM hl, q _ Hs H (Grow.refl e) (.str _)⟩)
    | _ => cases hf
  | @tup a1 ob1 xs ds n1 h1 t1 =>
    cases b with
    | @tup a2 ob2 ys es n2 h2 t2 =>
      obtain ⟨hl, rfl⟩ := ite_some hf
      refine .inr (.inr (.inl ⟨a1, a2, xs, ys, rfl, rfl, sqT_of (e _ _ h1), sqT_of (e _ _ h2), szM (by rw [t1.length, t2.length]; exact hl), fun z => ?_, fun _ z => ?_, fun _ _ => NewT.of (Grow.refl e) (t1.append t2) q⟩))
      · subst z
        cases t1
        exact q _ Hs H (Grow.refl e) (.tup n2 h2 t2)
      · subst z
        cases t2
        rw [List.append_nil] at q
        exact q _ Hs H (Grow.refl e) (.tup n1 h1 t1)
    | _ => cases hf
  | @lst a1 xs ds h1 t1 =>
    cases b with
    | @lst a2 ys es h2 t2 =>
      obtain ⟨hl, rfl⟩ := ite_some hf
      refine .inr (.inr (.inr ⟨a1, a2, xs, ys, rfl, rfl, e _ _ h1, e _ _ h2, szM (by rw [t1.length, t2.length]; exact hl), fun p hp => ?_⟩))
      have g2 : Grow Hs H (upd Hs p (.lst (xs ++ ys))) (upd H p (.lst (xs ++ ys))) := Grow.alloc e hp
      exact q _ _ _ g2 (.lst upd_same ((t1.append t2).mono g2.exs))
    | _ => cases hf
  | _ => cases hf

/-! ### * -/
/-- a tuple times an int: nothing, itself, or anew -/
theorem flat_rep_nil {α : Type} (n : Nat) : (List.replicate n ([] : List α)).flatten = [] := by
  induction n with
  | zero => rfl
  | succ n ih => rw [List.replicate_succ, List.flatten_cons, ih]; rfl
/-! ### ==, != of data; is; in -/
def gEq (neg : Bool) : PyData → PyData → Option PyData := fun x y => if SeqAt.shaped x = true ∧ SeqAt.shaped y = true then some (.bool (xor neg (PyData.eqv x y))) else none
theorem od_eq {k : Nat} (hr : Room k X.A) (hK : X.K = K := by rfl) : OD K X (compareOp .Eq) (rEqD K) (gEq false) := by
  subst hK
  refine ⟨op_eqD hr.units, fun {Hs H x y dx dy d Q} e a b hf q => ?_⟩
  obtain ⟨⟨c1, c2⟩, rfl⟩ := ite_some hf
  refine ⟨dx, dy, (a.mono e).dp (SeqAt.canLay_of_shaped c1), (b.mono e).dp (SeqAt.canLay_of_shaped c2), c1, c2, ?_⟩
  have := q (.bl (xor false (PyData.eqv dx dy))) Hs H (Grow.refl e) (.bl _)
  rwa [Bool.false_xor] at this
theorem od_ne {k : Nat} (hr : Room k X.A) (hK : X.K = K := by rfl) : OD K X (compareOp .NotEq) (rNeD K) (gEq true) := by
  subst hK
  refine ⟨op_neD hr.units, fun {Hs H x y dx dy d Q} e a b hf q => ?_⟩
  obtain ⟨⟨c1, c2⟩, rfl⟩ := ite_some hf
  refine ⟨dx, dy, (a.mono e).dp (SeqAt.canLay_of_shaped c1), (b.mono e).dp (SeqAt.canLay_of_shaped c2), c1, c2, ?_⟩
  have := q (.bl (xor true (PyData.eqv dx dy))) Hs H (Grow.refl e) (.bl _)
  rwa [Bool.true_xor] at this
/-- is, is not: of truths, or with None on the right -/
@[simp] def gIs (neg : Bool) : PyData → PyData → Option PyData
  | .bool a, .bool b => some (.bool (xor neg (decide (a = b))))
  | .none, .none => some (.bool (xor neg true))
  | .bool _, .none => some (.bool (xor neg false))
  | .int _, .none => some (.bool (xor neg false))
  | .str _, .none => some (.bool (xor neg false))
  | .tuple _, .none => some (.bool (xor neg false))
  | .list _, .none => some (.bool (xor neg false))
  | _, _ => none
def rIsD (neg : Bool) : R2 := fun x y H Q => (∃ a b, x = .bl a ∧ y = .bl b ∧ Q (.bl (xor neg (decide (a = b)))) H) ∨ (y = .non ∧ Q (.bl (xor neg (decide (x = .non)))) H)
theorem is_sm {neg : Bool} {Hs H : Hp} {x y : V} {dx dy d : PyData} {Q : VK} (e : Same Hs H) (a : Dd K Hs x dx) (b : Dd K Hs y dy) (hf : gIs neg dx dy = some d) (q : ∀ v Hs' H', Grow Hs H Hs' H' → Dd K Hs' v d → Q v H') : rIsD neg x y H Q := by
  cases b with
  | bl k =>
    cases a <;> first
      | (cases hf; done)
      | (rename_i j
         obtain rfl := Option.some.inj hf
         exact .inl ⟨j, k, rfl, rfl, q _ Hs H (Grow.refl e) (.bl _)⟩)
  | non =>
    refine .inr ⟨rfl, ?_⟩
    have z : ∀ (u : V), u ≠ .non → decide (u = .non) = false := fun u hu => decide_eq_false hu
    cases a with
    | non =>
      obtain rfl := Option.some.inj hf
      exact q _ Hs H (Grow.refl e) (.bl _)
    | bl j =>
      obtain rfl := Option.some.inj hf
      rw [z (.bl j) (fun w => nomatch w)]
      exact q _ Hs H (Grow.refl e) (.bl _)
    | int j =>
      obtain rfl := Option.some.inj hf
      rw [z (.int j) (fun w => nomatch w)]
      exact q _ Hs H (Grow.refl e) (.bl _)
    | str j =>
      obtain rfl := Option.some.inj hf
      rw [z (.str j) (fun w => nomatch w)]
      exact q _ Hs H (Grow.refl e) (.bl _)
    | lst h t =>
      obtain rfl := Option.some.inj hf
      rw [z (.ref _) (fun w => nomatch w)]
      exact q _ Hs H (Grow.refl e) (.bl _)
    | tup n h t =>
      obtain rfl := Option.some.inj hf
      rw [z (.ref _) (fun w => nomatch w)]
      exact q _ Hs H (Grow.refl e) (.bl _)
    | scr h => cases hf
  | _ => cases a <;> cases hf
theorem od_is : OD K X (compareOp .Is) (rIsD false) (gIs false) :=
  ⟨fun pins s σ H x y v u Q I rx ry h => by
    rcases h with ⟨a, b, rfl, rfl, q⟩ | ⟨rfl, q⟩
    · exact op_isBl pins s σ H _ _ v u Q I rx ry ⟨a, b, rfl, rfl, by rwa [Bool.false_xor] at q⟩
    · exact op_isN pins s σ H _ _ v u Q I rx ry ⟨rfl, by rwa [Bool.false_xor] at q⟩, is_sm⟩
theorem od_isNot : OD K X (compareOp .IsNot) (rIsD true) (gIs true) :=
  ⟨fun pins s σ H x y v u Q I rx ry h => by
    rcases h with ⟨a, b, rfl, rfl, q⟩ | ⟨rfl, q⟩
    · exact op_notBl pins s σ H _ _ v u Q I rx ry ⟨a, b, rfl, rfl, by rwa [Bool.true_xor] at q⟩
    · exact op_notN pins s σ H _ _ v u Q I rx ry ⟨rfl, by rwa [Bool.true_xor] at q⟩, is_sm⟩

@[simp] def flatD : PyData → Bool
  | .none => true
  | .bool _ => true
  | .int _ => true
  | .str _ => true
  | _ => false
theorem flat_dv {H : Hp} {v : V} {d : PyData} (a : Dd K H v d) (f : flatD d = true) : flatV v = true := by
  cases a <;> first | rfl | cases f
theorem flats_dv {H : Hp} : ∀ {vs : List V} {ds : List PyData}, DdAll K H vs ds → ds.all flatD = true → vs.all flatV = true
  | _, _, .nil, _ => rfl
  | _, _, .cons a r, f => by
    rw [List.all_cons, Bool.and_eq_true] at f ⊢
    exact ⟨flat_dv a f.1, flats_dv r f.2⟩
theorem eqV_dv {H : Hp} {v u : V} {d e : PyData} (a : Dd K H v d) (b : Dd K H u e) (fd : flatD d = true) (fe : flatD e = true) : eqV v u = PyData.eqv d e := by
  cases a <;> cases b <;> first | rfl | cases fd | cases fe
theorem inV_dv {H : Hp} {x : V} {d : PyData} (a : Dd K H x d) (fd : flatD d = true) : ∀ {vs : List V} {ds : List PyData}, DdAll K H vs ds → ds.all flatD = true → inV x vs = ds.any fun z => PyData.eqv z d
  | _, _, .nil, _ => rfl
  | _, _, .cons b r, f => by
    rw [List.all_cons, Bool.and_eq_true] at f
    show (eqV _ x || inV x _) = _
    rw [List.any_cons, eqV_dv b a f.1 fd, inV_dv a fd r f.2]
def gIn (neg : Bool) : PyData → PyData → Option PyData := fun x y => match y with
  | .list ds => if (flatD x = true ∧ ds.all flatD = true) ∨ (SeqAt.shaped x = true ∧ SeqAt.shaped (.list ds) = true) then some (.bool (xor neg (ds.any fun z => PyData.eqv z x))) else none
  | .tuple ds => if flatD x = true ∧ ds.all flatD = true then some (.bool (xor neg (ds.any fun z => PyData.eqv z x))) else none
  | _ => none
def rInN (K : PySem.W.Frag) (neg : Bool) : R2 := fun x y H Q => rIn K neg x y H Q ∨ (if neg = true then rNotInD K x y H Q else rInD K x y H Q)
theorem in_sm {neg : Bool} {Hs H : Hp} {x y : V} {dx dy d : PyData} {Q : VK} (e : Same Hs H) (a : Dd K Hs x dx) (b : Dd K Hs y dy) (hf : gIn neg dx dy = some d) (q : ∀ v Hs' H', Grow Hs H Hs' H' → Dd K Hs' v d → Q v H') : rInN K neg x y H Q := by
  cases b with
  | @lst p ys ds h t =>
    obtain ⟨hc, rfl⟩ := ite_some hf
    rcases hc with ⟨c1, c2⟩ | ⟨c1, c2⟩
    · refine .inl ⟨p, ys, rfl, .inl (sqL_of (e _ _ h)), flat_dv a c1, flats_dv t c2, ?_⟩
      rw [inV_dv a c1 t c2]
      cases neg with
      | true => have := q (.bl (xor true (ds.any fun z => PyData.eqv z dx))) Hs H (Grow.refl e) (.bl _); rwa [Bool.true_xor] at this
      | false => have := q (.bl (xor false (ds.any fun z => PyData.eqv z dx))) Hs H (Grow.refl e) (.bl _); rwa [Bool.false_xor] at this
    · refine .inr ?_
      have d1 : Dp K H x dx := (a.mono e).dp (SeqAt.canLay_of_shaped c1)
      have d2 : Dp K H (.ref p) (.list ds) := ((Dd.lst h t : Dd K Hs (.ref p) (.list ds)).mono e).dp (SeqAt.canLay_of_shaped c2)
      cases neg with
      | true => rw [if_pos rfl]; exact ⟨dx, ds, d1, d2, c1, c2, by have := q (.bl (xor true (ds.any fun z => PyData.eqv z dx))) Hs H (Grow.refl e) (.bl _); rwa [Bool.true_xor] at this⟩
      | false => rw [if_neg Bool.false_ne_true]; exact ⟨dx, ds, d1, d2, c1, c2, by have := q (.bl (xor false (ds.any fun z => PyData.eqv z dx))) Hs H (Grow.refl e) (.bl _); rwa [Bool.false_xor] at this⟩
  | @tup p ob ys ds n h t =>
    obtain ⟨⟨c1, c2⟩, rfl⟩ := ite_some hf
    refine .inl ⟨p, ys, rfl, .inr (sqT_of (e _ _ h)), flat_dv a c1, flats_dv t c2, ?_⟩
    rw [inV_dv a c1 t c2]
    cases neg with
    | true => have := q (.bl (xor true (ds.any fun z => PyData.eqv z dx))) Hs H (Grow.refl e) (.bl _); rwa [Bool.true_xor] at this
    | false => have := q (.bl (xor false (ds.any fun z => PyData.eqv z dx))) Hs H (Grow.refl e) (.bl _); rwa [Bool.false_xor] at this
  | _ => cases hf
theorem od_in {k : Nat} (hr : Room k X.A) (hK : X.K = K := by rfl) : OD K X (compareOp .In) (rInN K false) (gIn false) := by
  subst hK
  exact ⟨fun pins s σ H x y v u Q I rx ry h => by
    rcases h with h | h
    · exact op_in_seq pins s σ H x y v u Q I rx ry h
    · rw [if_neg Bool.false_ne_true] at h
      exact op_inD (by have := hr.un; omega) pins s σ H x y v u Q I rx ry h, in_sm⟩
theorem od_notIn {k : Nat} (hr : Room k X.A) (hK : X.K = K := by rfl) : OD K X (compareOp .NotIn) (rInN K true) (gIn true) := by
  subst hK
  exact ⟨fun pins s σ H x y v u Q I rx ry h => by
    rcases h with h | h
    · exact op_notIn_seq pins s σ H x y v u Q I rx ry h
    · rw [if_pos rfl] at h
      exact op_notInD (by have := hr.un; omega) pins s σ H x y v u Q I rx ry h, in_sm⟩
end
end DL

namespace DL
open PySem PySem.Spec PyProof.Rows L2
section
variable {K : PySem.W.Frag} {X : Cx} {M : List Nat} {a b c e : Expr} {es : List Expr} {ta tb tc te : TE} {t u : TT} {fa fb fc f : Fn} {pos p pos' : Pos} {ba : Rho → Option Bool}

/-! ### subscripts, slices -/
def cutA {α : Type} (xs : List α) (lo hi : Option Int) : List α := (xs.drop (HT.sIx xs.length 0 lo)).take (HT.sIx xs.length xs.length hi - HT.sIx xs.length 0 lo)
theorem DdAll.at {H : Hp} {vs : List V} {ds : List PyData} {i : Int} {d : PyData} (t : DdAll K H vs ds) (h : atI ds i = some d) : ∃ v, atI vs i = some v ∧ Dd K H v d := by
  unfold atI at h ⊢
  rw [t.length]
  obtain ⟨j, h1, h2⟩ := bind_some h
  obtain ⟨v, h3, h4⟩ := t.get h2
  exact ⟨v, by rw [h1]; exact h3, h4⟩
theorem DdAll.cut {H : Hp} {vs : List V} {ds : List PyData} (t : DdAll K H vs ds) (lo hi : Option Int) : DdAll K H (cutV vs lo hi) (cutA ds lo hi) := by
  unfold cutV cutA
  rw [t.length]
  exact (t.drop _).take _
theorem scr_fst (ns : List Int) : (scrK ns).map (·.1) = ns.map PyData.int := by
  unfold scrK
  rw [List.map_map]
  rfl
def gIx : PyData → PyData → Option PyData := fun x y => match y with
  | .int i => (match x with
    | .list ds => atI ds i
    | .tuple ds => atI ds i
    | .dict kvs => atI (kvs.map (·.1)) i
    | .str z => if z.length ≤ 1000000 then (atI z.cps.toList i).map fun c => .str ⟨#[c]⟩ else none
    | _ => none)
  | _ => none
@[simp] theorem gIx_list (ds : List PyData) (i : Int) : gIx (.list ds) (.int i) = atI ds i := rfl
@[simp] theorem gIx_tuple (ds : List PyData) (i : Int) : gIx (.tuple ds) (.int i) = atI ds i := rfl
@[simp] theorem gIx_scr (kvs : List (PyData × PyData)) (i : Int) : gIx (.dict kvs) (.int i) = atI (kvs.map (·.1)) i := rfl
theorem ix_sm {Hs H : Hp} {x y : V} {dx dy d : PyData} {Q : VK} (e : Same Hs H) (a : Dd K Hs x dx) (b : Dd K Hs y dy) (hf : gIx dx dy = some d) (q : ∀ v Hs' H', Grow Hs H Hs' H' → Dd K Hs' v d → Q v H') : rIx K x y H Q := by
  cases b with
  | int i =>
    cases a with
    | @lst p xs ds h t =>
      obtain ⟨v, h1, h2⟩ := t.at hf
      exact .inl ⟨p, xs, i, v, rfl, rfl, sqL_of (e _ _ h), h1, q v Hs H (Grow.refl e) h2⟩
    | @tup p ob xs ds n h t =>
      obtain ⟨v, h1, h2⟩ := t.at hf
      exact .inr (.inl ⟨p, xs, i, v, rfl, rfl, sqT_of (e _ _ h), h1, q v Hs H (Grow.refl e) h2⟩)
    | @scr p ns h =>
      have hf : atI ((scrK ns).map (·.1)) i = some d := hf
      rw [scr_fst] at hf
      obtain ⟨v, h1, h2⟩ := (DdAll.ints (K := K) (H := Hs) ns).at hf
      exact .inl ⟨p, _, i, v, rfl, rfl, e.seq h, h1, q v Hs H (Grow.refl e) h2⟩
    | str z =>
      have hf : (if z.length ≤ 1000000 then (atI z.cps.toList i).map fun c => PyData.str ⟨#[c]⟩ else none) = some d := hf
      by_cases hl : z.length ≤ 1000000
      · rw [if_pos hl] at hf
        cases h1 : atI z.cps.toList i with
        | none => rw [h1] at hf; cases hf
        | some c =>
          rw [h1] at hf
          cases hf
          exact .inr (.inr ⟨z, i, c, rfl, rfl, szM hl, h1, q _ Hs H (Grow.refl e) (.str _)⟩)
      · rw [if_neg hl] at hf; cases hf
    | _ => cases hf
  | _ => cases hf
theorem ed_ix (ha : ED K X M a ta fa) (hb : ED K X M b tb fb) (hK : X.K = K := by rfl) (hs : PlainIx b := by exact fun _ _ => rfl) : ED K X M (.Subscript a b pos) (tOp (rIx K) ta tb) (f2 gIx fa fb) := by
  subst hK
  exact ⟨pe_ix ix_seq ha.pe hb.pe hs, fun R hf q => two_sm ix_sm ha hb R hf q⟩

structure PD (K : PySem.W.Frag) (X : Cx) (M : List Nat) (e : Option Expr) (t : TO) (f : Rho → Option (Option Int)) : Prop where
  po : PO X e t
  sm : ∀ {Hs0 H0 Hs H : Hp} {σ : L2.St} {ρ : Rho} {o : Option Int} {Q : Option Int → Hp → Prop}, SR K M Hs0 H0 Hs H σ ρ → f ρ = some o → (∀ Hs' H', Grow Hs H Hs' H' → Q o H') → t σ H Q
@[simp] def pNone : Rho → Option (Option Int) := fun _ => some none
@[simp] def pSome (f : Fn) : Rho → Option (Option Int) := fun ρ => (f ρ).bind fun d => match d with
  | .int i => some (some i)
  | _ => none
theorem pd_none : PD K X M none tNoPart pNone := ⟨po_none, fun {Hs0 H0 Hs H σ ρ o Q} R hf q => by cases hf; exact q Hs H (Grow.refl R.sub)⟩
theorem pd_some (h : ED K X M e te f) : PD K X M (some e) (tPart te) (pSome f) :=
  ⟨po_some h.pe, fun {Hs0 H0 Hs H σ ρ o Q} R hf q => by
    obtain ⟨d, h1, h2⟩ := bind_some hf
    refine h.sm R h1 fun v Hs1 H1 g1 d1 => ?_
    cases d1 <;> first
      | (cases h2; done)
      | (obtain rfl := Option.some.inj h2
         exact ⟨_, rfl, q Hs1 H1 g1⟩)⟩
def rSlN (K : PySem.W.Frag) : V → Option Int → Option Int → Hp → VK → Prop := fun x lo hi H Q => ∃ a xs, x = .ref a ∧ SqT K H a xs ∧
  (HT.sIx xs.length 0 lo = 0 ∧ HT.sIx xs.length xs.length hi = xs.length → Q (.ref a) H) ∧ (¬ (HT.sIx xs.length 0 lo = 0 ∧ HT.sIx xs.length xs.length hi = xs.length) → NewT Q H (cutV xs lo hi))
theorem sl_tupN : SlR X (rSlN X.K) := by
  intro pins s σ H x v vl vu lo hi sl Q I rx hs pl pu h
  obtain ⟨a, xs, rfl, hx, q1, q2⟩ := h
  cases rx
  obtain ⟨its, r, ht, hz⟩ := I.tuple hx
  have hlen : its.toArray.size = xs.length := by rw [List.size_toArray]; exact r.length.symm
  by_cases hw : HT.sIx xs.length 0 lo = 0 ∧ HT.sIx xs.length xs.length hi = xs.length
  · refine ⟨"tuple", _, PyProof.Rows.slot_tuple_getitem.lookup, ht.typeIs, ?_⟩
    exact getItem_tuple_whole ht hs pl pu (by rw [hlen]; exact hw) ⟨.ref a, H, I, rfl, q1 hw⟩
  · refine ⟨"tuple", _, PyProof.Rows.slot_tuple_getitem.lookup, ht.typeIs, ?_⟩
    refine HT.getItem_tuple_cut ht hs pl pu (by rw [hlen]; exact hw) ?_ (by rw [hlen]; exact hz)
    rw [hlen]
    exact ⟨.ref s.heap.objs.size, _, Inv.tupN (t' := s.toks) I ((r.drop (HT.sIx xs.length 0 lo)).take (HT.sIx xs.length xs.length hi - HT.sIx xs.length 0 lo)) (Nat.le_trans (cutV_length xs lo hi) hz), rfl, q2 hw _ _ rfl (I.hok.fresh (Nat.le_refl _))⟩
def rSlD (K : PySem.W.Frag) : V → Option Int → Option Int → Hp → VK → Prop := fun x lo hi H Q => rSlL K x lo hi H Q ∨ rSlN K x lo hi H Q ∨ rSlS x lo hi H Q
@[simp] def gSl (x : PyData) (lo hi : Option Int) : Option PyData := match x with
  | .list ds => some (.list (cutA ds lo hi))
  | .tuple ds => some (.tuple (cutA ds lo hi))
  | .dict kvs => some (.list (cutA (kvs.map (·.1)) lo hi))
  | .str z => if z.length ≤ 1000000 then some (.str (cutS z lo hi)) else none
  | _ => none
@[simp] def fSl (f : Fn) (fl fh : Rho → Option (Option Int)) : Fn := fun ρ => (f ρ).bind fun x => (fl ρ).bind fun lo => (fh ρ).bind fun hi => gSl x lo hi
theorem newL {Q : VK} {Hs Hs1 H H1 : Hp} {vs : List V} {ds : List PyData} (g1 : Grow Hs H Hs1 H1) (d1 : DdAll K Hs1 vs ds) (q : ∀ v Hs' H', Grow Hs H Hs' H' → Dd K Hs' v (.list ds) → Q v H') : ∀ p, H1 p = none → Q (.ref p) (upd H1 p (.lst vs)) := fun p hp => by
  have g2 : Grow Hs1 H1 (upd Hs1 p (.lst vs)) (upd H1 p (.lst vs)) := Grow.alloc g1.sub hp
  exact q _ _ _ (g1.trans g2) (.lst upd_same (d1.mono g2.exs))
theorem cutA_whole {α : Type} {xs : List α} {lo hi : Option Int} (h : HT.sIx xs.length 0 lo = 0 ∧ HT.sIx xs.length xs.length hi = xs.length) : cutA xs lo hi = xs := by
  unfold cutA
  rw [h.1, h.2, List.drop_zero, Nat.sub_zero, List.take_length]
theorem ed_sl {lo hi : Option Expr} {tl th : TO} {fl fh : Rho → Option (Option Int)} {p2 : Pos} (he : ED K X M e te f) (hl : PD K X M lo tl fl) (hh : PD K X M hi th fh) (hK : X.K = K := by rfl) :
    ED K X M (.Subscript e (.Slice lo hi none p2) pos) (tSl (rSlD K) te tl th) (fSl f fl fh) := by
  subst hK
  refine ⟨pe_slice (sl_list.or (sl_tupN.or sl_str)) he.pe hl.po hh.po, fun {Hs0 H0 Hs H σ ρ d Q} R hf q => ?_⟩
  obtain ⟨x, h1, hf⟩ := bind_some hf
  obtain ⟨l, h2, hf⟩ := bind_some hf
  obtain ⟨h, h3, hf⟩ := bind_some hf
  refine he.sm R h1 fun v Hs1 H1 g1 d1 => ?_
  refine hl.sm (R.grow g1) h2 fun Hs2 H2 g2 => ?_
  refine hh.sm ((R.grow g1).grow g2) h3 fun Hs3 H3 g3 => ?_
  have g := (g1.trans g2).trans g3
  have d3 := (d1.mono g2.exs).mono g3.exs
  cases d3 with
  | @lst p xs ds hp t =>
    obtain rfl := Option.some.inj hf
    exact .inl ⟨p, xs, rfl, sqL_of (g3.sub _ _ hp), newL g (t.cut l h) q⟩
  | @scr p ns hp =>
    have hf : some (PyData.list (cutA ((scrK ns).map (·.1)) l h)) = some d := hf
    rw [scr_fst] at hf
    obtain rfl := Option.some.inj hf
    exact .inl ⟨p, _, rfl, g3.sub.seq hp, newL g ((DdAll.ints (K := X.K) (H := Hs3) ns).cut l h) q⟩
  | @tup p ob xs ds n hp t =>
    obtain rfl := Option.some.inj hf
    refine .inr (.inl ⟨p, xs, rfl, sqT_of (g3.sub _ _ hp), fun z => ?_, fun _ => NewT.of g (t.cut l h) q⟩)
    rw [t.length] at z
    rw [cutA_whole z] at q
    exact q _ Hs3 H3 g (.tup n hp t)
  | str z =>
    obtain ⟨hl, rfl⟩ := ite_some hf
    exact .inr (.inr ⟨z, rfl, szM hl, q _ Hs3 H3 g (.str _)⟩)
  | _ => cases hf

/-! ### built-ins -/
structure BD (K : PySem.W.Frag) (X : Cx) (fv : Value) (r : List V → Hp → VK → Prop) (g : List PyData → Option PyData) : Prop where
  cr : CallR X fv r
  sm : ∀ {Hs H : Hp} {xs : List V} {ds : List PyData} {d : PyData} {Q : VK}, Same Hs H → DdAll K Hs xs ds → g ds = some d → (∀ v Hs' H', Grow Hs H Hs' H' → Dd K Hs' v d → Q v H') → r xs H Q
@[simp] def fBi (g : List PyData → Option PyData) (fa : Rho → Option (List PyData)) : Fn := fun ρ => (fa ρ).bind g
variable {tr : TA} {fr : Rho → Option (List PyData)} {x : Str} {r : List V → Hp → VK → Prop} {g : List PyData → Option PyData} {id T : String}
theorem bi_sm {fv : Value} (h : BD K X fv r g) (ha : AD K X M es tr fr) {Hs0 H0 Hs H : Hp} {σ : L2.St} {ρ : Rho} {d : PyData} {Q : VK} (R : SR K M Hs0 H0 Hs H σ ρ) (hf : fBi g fr ρ = some d) (q : ∀ v Hs' H', Grow Hs H Hs' H' → Dd K Hs' v d → Q v H') : tCB r tr σ H Q := by
  obtain ⟨ds, h1, h2⟩ := bind_some hf
  exact ha.sm R h1 fun vs Hs1 H1 g1 d1 => h.sm g1.sub d1 h2 fun v Hs2 H2 g2 d2 => q v Hs2 H2 (g1.trans g2) d2
theorem ed_bi (h : BD K X (.builtin id) r g) (hm : X.mg x = none) (hv : bootBuiltins x = some (.builtin id)) (ha : AD K X M (e :: es) tr fr) (hg : Gl X x := by rfl) (hn : x ≠ "__name__" := by decide) (hdb : (x == ("__debug__" : Str)) = false := by decide)
    (he : starEach (e :: es) X.env = (false, eval e X.env) :: starEach es X.env := by rfl) (hpl : (backTo pos (starEach es X.env)).any (·.1) = false := by rfl) : ED K X M (.Call (.Name x p) (e :: es) [] pos) (tCB r tr) (fBi g fr) :=
  ⟨pe_callB h.cr hg hm hv ha.pa hn hdb he hpl, fun R hf q => bi_sm h ha R hf q⟩
theorem ed_ty (h : BD K X (.type T) r g) (hm : X.mg x = none) (hv : bootBuiltins x = some (.type T)) (ha : AD K X M (e :: es) tr fr) (hg : Gl X x := by rfl) (hn : x ≠ "__name__" := by decide) (hdb : (x == ("__debug__" : Str)) = false := by decide)
    (he : starEach (e :: es) X.env = (false, eval e X.env) :: starEach es X.env := by rfl) (hpl : (backTo pos (starEach es X.env)).any (·.1) = false := by rfl) : ED K X M (.Call (.Name x p) (e :: es) [] pos) (tCB r tr) (fBi g fr) :=
  ⟨pe_callTy h.cr hg hm hv ha.pa hn hdb he hpl, fun R hf q => bi_sm h ha R hf q⟩
theorem all1 {H : Hp} {xs : List V} {d : PyData} (h : DdAll K H xs [d]) : ∃ v, xs = [v] ∧ Dd K H v d := by
  cases h with
  | cons a r => cases r; exact ⟨_, rfl, a⟩
theorem all2 {H : Hp} {xs : List V} {d d' : PyData} (h : DdAll K H xs [d, d']) : ∃ v w, xs = [v, w] ∧ Dd K H v d ∧ Dd K H w d' := by
  cases h with
  | cons a r =>
    obtain ⟨w, rfl, b⟩ := all1 r
    exact ⟨_, _, rfl, a, b⟩
@[simp] def gLen : List PyData → Option PyData := fun xs => match xs with
  | [.str z] => if z.length ≤ 1000000 then some (.int z.length) else none
  | [.list ds] => some (.int ds.length)
  | [.tuple ds] => some (.int ds.length)
  | [.dict kvs] => some (.int kvs.length)
  | _ => none
theorem bd_len (hK : X.K = K := by rfl) : BD K X (.builtin "len") (fun xs H Q => ∃ x n, xs = [x] ∧ LenV K x H n ∧ Q (.int n) H) gLen := by
  subst hK
  refine ⟨call_len, fun {Hs H xs ds d Q} e h hf q => ?_⟩
  unfold gLen at hf
  split at hf
  · obtain ⟨v, rfl, a⟩ := all1 h
    obtain ⟨hl, rfl⟩ := ite_some hf
    cases a
    exact ⟨_, _, rfl, ⟨szM hl, rfl⟩, q _ Hs H (Grow.refl e) (.int _)⟩
  · obtain ⟨v, rfl, a⟩ := all1 h
    obtain rfl := Option.some.inj hf
    cases a with
    | lst hp t => exact ⟨_, _, rfl, .inl ⟨_, sqL_of (e _ _ hp), rfl⟩, by rw [t.length]; exact q _ Hs H (Grow.refl e) (.int _)⟩
  · obtain ⟨v, rfl, a⟩ := all1 h
    obtain rfl := Option.some.inj hf
    cases a with
    | tup n hp t => exact ⟨_, _, rfl, .inr ⟨_, sqT_of (e _ _ hp), rfl⟩, by rw [t.length]; exact q _ Hs H (Grow.refl e) (.int _)⟩
  · obtain ⟨v, rfl, a⟩ := all1 h
    obtain rfl := Option.some.inj hf
    cases a with
    | @scr p ns hp => exact ⟨_, _, rfl, .inl ⟨_, e.seq hp, rfl⟩, by
        have := q (.int ((scrK ns).length : Nat)) Hs H (Grow.refl e) (.int _)
        unfold scrK at this
        rw [List.length_map] at this ⊢
        exact this⟩
  · cases hf
/-- tuple(list), tuple(tuple) -/
theorem call_tupN : CallR X (.type "tuple") (fun xs H Q => ∃ p ys, xs = [.ref p] ∧ ((SqL X.K H p ys ∧ NewT Q H ys) ∨ (SqT X.K H p ys ∧ Q (.ref p) H))) := by
  intro pins s σ H xs us Q I r h
  obtain ⟨p, ys, rfl, h⟩ := h
  obtain ⟨u, rfl, rx⟩ := vals1 r
  cases rx
  rcases h with ⟨hq, q⟩ | ⟨hq, q⟩
  · obtain ⟨its, r', pl, hz⟩ := I.list hq
    have hlen := r'.length
    refine call_tuple_list pl.isList (fun h' kp => ?_) (by simp only [List.size_toArray] <;> omega)
    have I1 : Inv X pins σ H { s with heap := h' } := I.kept (t' := s.toks) kp
    exact ⟨.ref h'.objs.size, _, Inv.tupN (s := { s with heap := h' }) (t' := s.toks) I1 r' hz, rfl, q _ _ rfl (I1.hok.fresh (Nat.le_refl _))⟩
  · obtain ⟨its, r', pl, hz⟩ := I.tuple hq
    exact call_tuple_same pl ⟨.ref p, H, I, rfl, q⟩
@[simp] def gTuple : List PyData → Option PyData := fun xs => match xs with
  | [.list ds] => some (.tuple ds)
  | [.tuple ds] => some (.tuple ds)
  | _ => none
theorem bd_tuple (hK : X.K = K := by rfl) : BD K X (.type "tuple") (fun xs H Q => ∃ p ys, xs = [.ref p] ∧ ((SqL K H p ys ∧ NewT Q H ys) ∨ (SqT K H p ys ∧ Q (.ref p) H))) gTuple := by
  subst hK
  refine ⟨call_tupN, fun {Hs H xs ds d Q} e h hf q => ?_⟩
  unfold gTuple at hf
  split at hf
  · obtain ⟨v, rfl, a⟩ := all1 h
    obtain rfl := Option.some.inj hf
    cases a with
    | lst hp t => exact ⟨_, _, rfl, .inl ⟨sqL_of (e _ _ hp), NewT.of (Grow.refl e) t q⟩⟩
  · obtain ⟨v, rfl, a⟩ := all1 h
    obtain rfl := Option.some.inj hf
    cases a with
    | tup n hp t => exact ⟨_, _, rfl, .inr ⟨sqT_of (e _ _ hp), q _ Hs H (Grow.refl e) (.tup n hp t)⟩⟩
  · cases hf
@[simp] def gListOf : List PyData → Option PyData := fun xs => match xs with
  | [.list ds] => some (.list ds)
  | [.tuple ds] => some (.list ds)
  | _ => none
theorem bd_list (hK : X.K = K := by rfl) : BD K X (.type "list") (fun xs H Q => ∃ p ys, xs = [.ref p] ∧ (SqL K H p ys ∨ SqT K H p ys) ∧ ∀ l, H l = none → Q (.ref l) (upd H l (.lst ys))) gListOf := by
  subst hK
  refine ⟨call_list_of, fun {Hs H xs ds d Q} e h hf q => ?_⟩
  unfold gListOf at hf
  split at hf
  · obtain ⟨v, rfl, a⟩ := all1 h
    obtain rfl := Option.some.inj hf
    cases a with
    | lst hp t => exact ⟨_, _, rfl, .inl (sqL_of (e _ _ hp)), newL (Grow.refl e) t q⟩
  · obtain ⟨v, rfl, a⟩ := all1 h
    obtain rfl := Option.some.inj hf
    cases a with
    | tup n hp t => exact ⟨_, _, rfl, .inr (sqT_of (e _ _ hp)), newL (Grow.refl e) t q⟩
  · cases hf
/-- all of truths -/
@[simp] def bools : List PyData → Option (List Bool)
  | [] => some []
  | .bool b :: r => (bools r).map (b :: ·)
  | _ => none
theorem bools_dv {H : Hp} : ∀ {vs : List V} {ds : List PyData} {bs : List Bool}, DdAll K H vs ds → bools ds = some bs → vs = bs.map V.bl
  | _, _, _, .nil, h => by cases h; rfl
  | _, _, bs, .cons a r, h => by
    cases a <;> first
      | (cases h; done)
      | (rename_i b
         unfold bools at h
         cases h1 : bools _ with
         | none => rw [h1] at h; cases h
         | some cs =>
           rw [h1] at h
           cases h
           rw [bools_dv r h1]
           rfl)
@[simp] def gAll : List PyData → Option PyData := fun xs => match xs with
  | [.list ds] => (bools ds).map fun bs => .bool (bs.all _root_.id)
  | _ => none
theorem bd_all (hc : X.calm = true := by rfl) (hK : X.K = K := by rfl) : BD K X (.builtin "all") (rAll K) gAll := by
  subst hK
  refine ⟨cr_all hc, fun {Hs H xs ds d Q} e h hf q => ?_⟩
  unfold gAll at hf
  split at hf
  · obtain ⟨v, rfl, a⟩ := all1 h
    cases h1 : bools _ with
    | none => rw [h1] at hf; cases hf
    | some bs =>
      rw [h1] at hf
      cases hf
      cases a with
      | lst hp t =>
        have := bools_dv t h1
        subst this
        exact ⟨_, bs, rfl, sqL_of (e _ _ hp), q _ Hs H (Grow.refl e) (.bl _)⟩
  · cases hf
/-- ints of a list -/
@[simp] def intsD : List PyData → Option (List Int)
  | [] => some []
  | .int b :: r => (intsD r).map (b :: ·)
  | _ => none
theorem ints_dv {H : Hp} : ∀ {vs : List V} {ds : List PyData} {bs : List Int}, DdAll K H vs ds → intsD ds = some bs → vs = bs.map V.int
  | _, _, _, .nil, h => by cases h; rfl
  | _, _, bs, .cons a r, h => by
    cases a <;> first
      | (cases h; done)
      | (rename_i b
         unfold intsD at h
         cases h1 : intsD _ with
         | none => rw [h1] at h; cases h
         | some cs =>
           rw [h1] at h
           cases h
           rw [ints_dv r h1]
           rfl)
theorem intsD_map : ∀ ns : List Int, intsD (ns.map PyData.int) = some ns
  | [] => rfl
  | n :: ns => by
    rw [List.map_cons]
    unfold intsD
    rw [intsD_map ns]
    rfl
@[simp] def gMin2 : List PyData → Option PyData := fun xs => match xs with
  | [.int i, .int j] => some (.int (if j < i then j else i))
  | _ => none
@[simp] def gMax2 : List PyData → Option PyData := fun xs => match xs with
  | [.int i, .int j] => some (.int (if j > i then j else i))
  | _ => none
theorem bd_min2 (hc : X.calm = true := by rfl) : BD K X (.builtin "min") (fun xs H Q => ∃ i j, xs = [.int i, .int j] ∧ Q (.int (if j < i then j else i)) H) gMin2 :=
  ⟨call_min2 hc, fun {Hs H xs ds d Q} e h hf q => by
    unfold gMin2 at hf
    split at hf
    · obtain ⟨v, w, rfl, a, b⟩ := all2 h
      cases a; cases b
      obtain rfl := Option.some.inj hf
      exact ⟨_, _, rfl, q _ Hs H (Grow.refl e) (.int _)⟩
    · cases hf⟩
theorem bd_max2 (hc : X.calm = true := by rfl) : BD K X (.builtin "max") (fun xs H Q => ∃ i j, xs = [.int i, .int j] ∧ Q (.int (if j > i then j else i)) H) gMax2 :=
  ⟨call_max2 hc, fun {Hs H xs ds d Q} e h hf q => by
    unfold gMax2 at hf
    split at hf
    · obtain ⟨v, w, rfl, a, b⟩ := all2 h
      cases a; cases b
      obtain rfl := Option.some.inj hf
      exact ⟨_, _, rfl, q _ Hs H (Grow.refl e) (.int _)⟩
    · cases hf⟩
/-- the greatest, the least of a list of ints -/
def maxI : List Int → Int
  | [] => 0
  | [a] => a
  | a :: b :: r => max a (maxI (b :: r))
def minI : List Int → Int
  | [] => 0
  | [a] => a
  | a :: b :: r => min a (minI (b :: r))
theorem maxI_spec : ∀ {l : List Int}, l ≠ [] → maxI l ∈ l ∧ ∀ y ∈ l, y ≤ maxI l
  | [a], _ => by simp [maxI]
  | a :: b :: r, _ => by
    obtain ⟨h1, h2⟩ := maxI_spec (l := b :: r) (by simp)
    unfold maxI
    refine ⟨?_, fun y hy => ?_⟩
    · by_cases h : a ≤ maxI (b :: r)
      · rw [Int.max_eq_right h]; exact List.mem_cons_of_mem _ h1
      · rw [Int.max_eq_left (by omega)]; exact List.mem_cons_self
    · rcases List.mem_cons.mp hy with rfl | hy
      · exact Int.le_max_left _ _
      · exact Int.le_trans (h2 y hy) (Int.le_max_right _ _)
theorem minI_spec : ∀ {l : List Int}, l ≠ [] → minI l ∈ l ∧ ∀ y ∈ l, minI l ≤ y
  | [a], _ => by simp [minI]
  | a :: b :: r, _ => by
    obtain ⟨h1, h2⟩ := minI_spec (l := b :: r) (by simp)
    unfold minI
    refine ⟨?_, fun y hy => ?_⟩
    · by_cases h : minI (b :: r) ≤ a
      · rw [Int.min_eq_right h]; exact List.mem_cons_of_mem _ h1
      · rw [Int.min_eq_left (by omega)]; exact List.mem_cons_self
    · rcases List.mem_cons.mp hy with rfl | hy
      · exact Int.min_le_left _ _
      · exact Int.le_trans (Int.min_le_right _ _) (h2 y hy)
@[simp] def gMaxL : List PyData → Option PyData := fun xs => match xs with
  | [.list ds] => (intsD ds).bind fun ns => if ns ≠ [] then some (.int (maxI ns)) else none
  | _ => none
@[simp] def gMinL : List PyData → Option PyData := fun xs => match xs with
  | [.list ds] => (intsD ds).bind fun ns => if ns ≠ [] then some (.int (minI ns)) else none
  | _ => none
theorem bd_maxL (hc : X.calm = true := by rfl) (hK : X.K = K := by rfl) : BD K X (.builtin "max") (rMax K) gMaxL := by
  subst hK
  refine ⟨cr_max hc, fun {Hs H xs ds d Q} e h hf q => ?_⟩
  unfold gMaxL at hf
  split at hf
  · obtain ⟨v, rfl, a⟩ := all1 h
    obtain ⟨ns, h1, h2⟩ := bind_some hf
    obtain ⟨hne, rfl⟩ := ite_some h2
    cases a with
    | lst hp t =>
      have := ints_dv t h1
      subst this
      refine ⟨_, ns, rfl, sqL_of (e _ _ hp), List.length_pos_iff.mpr hne, fun m hm hle => ?_⟩
      obtain ⟨s1, s2⟩ := maxI_spec hne
      have : m = maxI ns := Int.le_antisymm (s2 m hm) (hle _ s1)
      rw [this]
      exact q _ Hs H (Grow.refl e) (.int _)
  · cases hf
theorem bd_minL (hc : X.calm = true := by rfl) (hK : X.K = K := by rfl) : BD K X (.builtin "min") (rMin K) gMinL := by
  subst hK
  refine ⟨cr_min hc, fun {Hs H xs ds d Q} e h hf q => ?_⟩
  unfold gMinL at hf
  split at hf
  · obtain ⟨v, rfl, a⟩ := all1 h
    obtain ⟨ns, h1, h2⟩ := bind_some hf
    obtain ⟨hne, rfl⟩ := ite_some h2
    cases a with
    | lst hp t =>
      have := ints_dv t h1
      subst this
      refine ⟨_, ns, rfl, sqL_of (e _ _ hp), List.length_pos_iff.mpr hne, fun m hm hle => ?_⟩
      obtain ⟨s1, s2⟩ := minI_spec hne
      have : m = minI ns := Int.le_antisymm (hle _ s1) (s2 m hm)
      rw [this]
      exact q _ Hs H (Grow.refl e) (.int _)
  · cases hf
@[simp] def gSum : List PyData → Option PyData := fun xs => match xs with
  | [.list ds] => (intsD ds).map fun ns => .int ns.sum
  | _ => none
theorem bd_sum (hc : X.calm = true := by rfl) (hK : X.K = K := by rfl) : BD K X (.builtin "sum") (rSum K) gSum := by
  subst hK
  refine ⟨cr_sum hc, fun {Hs H xs ds d Q} e h hf q => ?_⟩
  unfold gSum at hf
  split at hf
  · obtain ⟨v, rfl, a⟩ := all1 h
    cases h1 : intsD _ with
    | none => rw [h1] at hf; cases hf
    | some ns =>
      rw [h1] at hf
      cases hf
      cases a with
      | lst hp t =>
        have := ints_dv t h1
        subst this
        exact ⟨_, ns, rfl, sqL_of (e _ _ hp), q _ Hs H (Grow.refl e) (.int _)⟩
  · cases hf
@[simp] def gStr : List PyData → Option PyData := fun xs => match xs with
  | [.int i] => if i.natAbs.log2 < 1920 then some (.str (toString i)) else none
  | _ => none
theorem bd_str : BD K X (.type "str") (fun xs H Q => ∃ i : Int, xs = [.int i] ∧ i.natAbs.log2 < 1920 ∧ Q (.str (toString i)) H) gStr :=
  ⟨call_str_int, fun {Hs H xs ds d Q} e h hf q => by
    unfold gStr at hf
    split at hf
    · obtain ⟨v, rfl, a⟩ := all1 h
      cases a
      obtain ⟨hl, rfl⟩ := ite_some hf
      exact ⟨_, rfl, hl, q _ Hs H (Grow.refl e) (.str _)⟩
    · cases hf⟩
/-- isinstance(x, T), T one built-in type -/
@[simp] def tyD : PyData → String
  | .none => "NoneType"
  | .bool _ => "bool"
  | .int _ => "int"
  | .str _ => "str"
  | .list _ => "list"
  | .tuple _ => "tuple"
  | .dict _ => "list"
@[simp] def gIsi (T : String) : PyData → Option PyData := fun x => match x with
  | .dict _ => none
  | x => (kitB (tyD x) T).map .bool
theorem ed_isi {T : String} {x : Str} {p1 p2 : Pos} (ha : ED K X M a ta fa) (hm : X.mg "isinstance" = none) (hmT : X.mg x = none) (hvT : bootBuiltins x = some (.type T)) (hg : Gl X "isinstance" := by rfl) (hgT : Gl X x := by rfl) (hK : X.K = K := by rfl)
    (hn : x ≠ "__name__" := by decide) (hdb : (x == ("__debug__" : Str)) = false := by decide)
    (hs1 : starEach [a, .Name x p2] X.env = (false, eval a X.env) :: starEach [.Name x p2] X.env := by rfl) (hs2 : starEach [.Name x p2] X.env = (false, eval (.Name x p2) X.env) :: starEach [] X.env := by rfl) (hpl : (backTo pos (starEach [.Name x p2] X.env)).any (·.1) = false := by rfl) :
    ED K X M (.Call (.Name "isinstance" p1) [a, .Name x p2] [] pos) (tCB (rIsi K) (tCons ta (tCons (tC (.ty T)) tNil))) (f1 (gIsi T) fa) := by
  subst hK
  refine ⟨pe_callB call_isi hg hm boot_isinstance (pa_cons ha.pe (pa_cons (pe_bltn hgT hmT hvT rfl hn hdb) pa_nil hs2) hs1) (by decide) (by decide) hs1 hpl, fun {Hs0 H0 Hs H σ ρ d Q} R hf q => ?_⟩
  obtain ⟨dx, h1, h2⟩ := bind_some hf
  refine ha.sm R h1 fun v Hs1 H1 g1 d1 => ?_
  have key : ∀ {ty : String} {b : Bool}, kitB ty T = some b → TyX X.K H1 v (.type ty) → Q (.bl b) H1 → rIsi X.K [v, .ty T] H1 Q := fun hk ht hq => ⟨v, .ty T, _, _, _, rfl, .ty T, ht, kit_ty hk, hq⟩
  cases d1 with
  | non => cases hk : kitB "NoneType" T with
    | none => simp [gIsi, tyD, hk] at h2
    | some b => simp [gIsi, tyD, hk] at h2; subst h2; exact key hk (.base .non) (q _ Hs1 H1 g1 (.bl _))
  | bl k => cases hk : kitB "bool" T with
    | none => simp [gIsi, tyD, hk] at h2
    | some b => simp [gIsi, tyD, hk] at h2; subst h2; exact key hk (.base (.bl _)) (q _ Hs1 H1 g1 (.bl _))
  | int k => cases hk : kitB "int" T with
    | none => simp [gIsi, tyD, hk] at h2
    | some b => simp [gIsi, tyD, hk] at h2; subst h2; exact key hk (.base (.int _)) (q _ Hs1 H1 g1 (.bl _))
  | str k => cases hk : kitB "str" T with
    | none => simp [gIsi, tyD, hk] at h2
    | some b => simp [gIsi, tyD, hk] at h2; subst h2; exact key hk (.base (.str _)) (q _ Hs1 H1 g1 (.bl _))
  | lst hp t => cases hk : kitB "list" T with
    | none => simp [gIsi, tyD, hk] at h2
    | some b => simp [gIsi, tyD, hk] at h2; subst h2; exact key hk (.base (.lst (g1.sub _ _ hp))) (q _ Hs1 H1 g1 (.bl _))
  | tup n hp t => cases hk : kitB "tuple" T with
    | none => simp [gIsi, tyD, hk] at h2
    | some b => simp [gIsi, tyD, hk] at h2; subst h2; exact key hk (.fTuple (g1.sub _ _ hp)) (q _ Hs1 H1 g1 (.bl _))
  | scr hp => simp [gIsi] at h2

/-! ### calls of own defs -/
def spX (K : PySem.W.Frag) (n : Nat) (xc : Nat → Addr) (φ : List PyData → Option (Except Nat PyData)) : Sp := fun vs H Q E => vs.length = n ∧ ∃ Hs ds r, Same Hs H ∧ DdAll K Hs vs ds ∧ φ ds = some r ∧
  match r with
  | .ok d => ∀ v Hs' H', Grow Hs H Hs' H' → Dd K Hs' v d → Q v H'
  | .error c => ∀ H', Same H H' → E (.ref (xc c)) none H'
@[simp] def fCall (φ : List PyData → Option (Except Nat PyData)) (fa : Rho → Option (List PyData)) : Fn := fun ρ => (fa ρ).bind fun ds => (φ ds).bind fun r => match r with
  | .ok d => some d
  | .error _ => none
theorem AD.len : ∀ {es : List Expr} {tr : TA} {fr : Rho → Option (List PyData)} {ρ : Rho} {ds : List PyData} (n : Nat), fr ρ = some ds → ds.length = n → ds.length = n := fun _ _ h => h
theorem ed_call {k n : Nat} {fA : Addr} {fd : FuncData} {ps : List Str} {xc : Nat → Addr} {φ : List PyData → Option (Except Nat PyData)} (F : FnOk X.prog X.w X.K X.mg X.base (L2.CX X.prog X.w) k fA fd ps (spX K n xc φ)) (hr : Room k X.A) (hm : X.mg x = some (.ref fA))
    (hk : PySem.W.keepIn X.K (.ref fA) = true) (hb : Binds X.K fd ps []) (hn : ∀ ds r, φ ds = some r → ds.length = n) (ha : AD K X M (e :: es) tr fr) (hg : Gl X x := by rfl) (hdb : (x == ("__debug__" : Str)) = false := by decide) (he : starEach (e :: es) X.env = (false, eval e X.env) :: starEach es X.env := by rfl)
    (hpl : (backTo pos (starEach es X.env)).any (·.1) = false := by rfl) : ED K X M (.Call (.Name x p) (e :: es) [] pos) (tCall (spX K n xc φ) [] E0 tr) (fCall φ fr) :=
  ⟨pe_call F hr hg hm hk hb .nil passL ha.pa hdb he hpl, fun {Hs0 H0 Hs H σ ρ d Q} R hf q => by
    obtain ⟨ds, h1, h2⟩ := bind_some hf
    obtain ⟨r, h2, h3⟩ := bind_some h2
    refine ha.sm R h1 fun vs Hs1 H1 g1 d1 => ?_
    show spX K n xc φ (vs ++ []) H1 Q E0
    rw [List.append_nil]
    refine ⟨by rw [d1.length]; exact hn _ _ h2, Hs1, ds, r, g1.sub, d1, h2, ?_⟩
    cases r with
    | error c => cases h3
    | ok d' =>
      obtain rfl := Option.some.inj h3
      exact fun v Hs2 H2 g2 d2 => q v Hs2 H2 (g1.trans g2) d2⟩
end
end DL

namespace DL
open PySem PySem.Spec PyProof.Rows L2
abbrev YR := Hp → V → PyData → Prop
/-- a pair that an iterator makes -/
def Dy (K : PySem.W.Frag) : YR := fun H x d => ∃ a xs ds, x = .ref a ∧ d = .tuple ds ∧ H a = some (.tup xs) ∧ DdAll K H xs ds
section
variable {K : PySem.W.Frag} {X : Cx} {M : List Nat} {a b c e tg : Expr} {es : List Expr} {ta tb tc te : TE} {t u : TT} {fa fb fc f : Fn} {pos p pos' : Pos} {ba : Rho → Option Bool} {Rl : YR}

/-! ### what is walked -/
structure Yields (K : PySem.W.Frag) (Rl : YR) (J : It) (Hs : Hp) (ds : List PyData) : Prop where
  go : ∀ i H, Same Hs H → i < ds.length → J.go i H
  stop : ∀ i H, Same Hs H → ds.length ≤ i → J.stop i H
  yld : ∀ i H x H' Hs2, i < ds.length → Same Hs Hs2 → Same Hs2 H → J.yld i H x H' → ∃ Hs3, Grow Hs2 H Hs3 H' ∧ ∃ d, ds[i]? = some d ∧ Rl Hs3 x d
structure ID (K : PySem.W.Frag) (X : Cx) (M : List Nat) (Rl : YR) (tg iter : Expr) (wi : TI) (h : Rho → Option (List PyData)) : Prop where
  pi : PI X tg iter wi
  sm : ∀ {Hs0 H0 Hs H : Hp} {σ : L2.St} {ρ : Rho} {ds : List PyData} {R : It → Hp → Prop}, SR K M Hs0 H0 Hs H σ ρ → h ρ = some ds → (∀ J Hs' H', Grow Hs H Hs' H' → Yields K Rl J Hs' ds → R J H') → wi σ H R

theorem yields_list {K : PySem.W.Frag} {Hs : Hp} {p : Addr} {xs : List V} {ds : List PyData} (hq : ∀ H, Same Hs H → SqL K H p xs) (t : DdAll K Hs xs ds) : Yields K (Dd K) (Itl K p) Hs ds where
  go := fun i H e hi => by
    obtain ⟨v, h1, _⟩ := t.get (i := i) (d := ds[i]) (List.getElem?_eq_getElem hi)
    exact ⟨xs, v, hq H e, h1⟩
  stop := fun i H e hi => ⟨xs, hq H e, by rw [t.length]; exact hi⟩
  yld := fun i H x H' Hs2 hi e1 e2 h => by
    obtain ⟨rfl, h2⟩ := h
    obtain ⟨d, h3, h4⟩ := t.getv (h2 xs (hq _ (e1.trans e2)))
    exact ⟨Hs2, Grow.refl e2, d, h3, h4.mono e1⟩
theorem yields_tup {K : PySem.W.Frag} {Hs : Hp} {p : Addr} {xs : List V} {ds : List PyData} (hq : ∀ H, Same Hs H → SqT K H p xs) (t : DdAll K Hs xs ds) : Yields K (Dd K) (Itt K p) Hs ds where
  go := fun i H e hi => by
    obtain ⟨v, h1, _⟩ := t.get (i := i) (d := ds[i]) (List.getElem?_eq_getElem hi)
    exact ⟨xs, v, hq H e, h1⟩
  stop := fun i H e hi => ⟨xs, hq H e, by rw [t.length]; exact hi⟩
  yld := fun i H x H' Hs2 hi e1 e2 h => by
    obtain ⟨rfl, h2⟩ := h
    obtain ⟨d, h3, h4⟩ := t.getv (h2 xs (hq _ (e1.trans e2)))
    exact ⟨Hs2, Grow.refl e2, d, h3, h4.mono e1⟩
/-- a list, a tuple, the script -/
def iSeq (K : PySem.W.Frag) (tl : TE) : TI := fun σ H R => tl σ H fun x H1 => ∃ a, x = .ref a ∧ (((∃ xs, SqL K H1 a xs) ∧ R (Itl K a) H1) ∨ ((∃ xs, SqT K H1 a xs) ∧ R (Itt K a) H1))
theorem pi_seq {l : Expr} {tl : TE} (hl : PE X l tl) : PI X tg l (iSeq X.K tl) := by
  refine ⟨fun pins s σ H R I h => ?_⟩
  refine thn (hl.run pins s σ H _ I h) fun v s1 ⟨x, H1, I1, r1, q1⟩ => ?_
  obtain ⟨a, e, h⟩ := q1
  subst e
  cases r1
  rcases h with ⟨⟨xs, hq⟩, q⟩ | ⟨⟨xs, hq⟩, q⟩
  · obtain ⟨its, rv, p, hz⟩ := I1.list hq
    refine wpAny_pyIter_list p.isList ?_
    refine ⟨s1.heap.objs.size, [s1.heap.objs.size], _, _, H1, rfl, I1.kept (t' := s1.toks) fun b o e => Heap.get?_push_of_some _ e, turn_list a _, ⟨_, Heap.get?_push_size _ rfl, rfl, rfl⟩, fun b hb => ?_, q⟩
    have e : b = s1.heap.objs.size := by simpa using hb
    subst e
    exact I1.fpOk (Nat.le_refl _) (I1.hok.fresh (Nat.le_refl _))
  · obtain ⟨its, rv, p, hz⟩ := I1.tuple hq
    refine wpAny_pyIter_tuple (show s1.heap.IsTuple a its.toArray from p) ?_
    refine ⟨s1.heap.objs.size, [s1.heap.objs.size], _, _, H1, rfl, I1.kept (t' := s1.toks) fun b o e => Heap.get?_push_of_some _ e, turn_tuple a _, ⟨_, Heap.get?_push_size _ rfl, rfl, rfl⟩, fun b hb => ?_, q⟩
    have e : b = s1.heap.objs.size := by simpa using hb
    subst e
    exact I1.fpOk (Nat.le_refl _) (I1.hok.fresh (Nat.le_refl _))
@[simp] def seqD : PyData → Option (List PyData)
  | .list ds => some ds
  | .tuple ds => some ds
  | .dict kvs => some (kvs.map (·.1))
  | _ => none
@[simp] def iSq (f : Fn) : Rho → Option (List PyData) := fun ρ => (f ρ).bind seqD
theorem id_seq {l : Expr} (hl : ED K X M l ta f) (hK : X.K = K := by rfl) : ID K X M (Dd K) tg l (iSeq K ta) (iSq f) := by
  subst hK
  refine ⟨pi_seq hl.pe, fun {Hs0 H0 Hs H σ ρ ds R} r hf q => ?_⟩
  obtain ⟨d, h1, h2⟩ := bind_some hf
  refine hl.sm r h1 fun v Hs1 H1 g1 d1 => ?_
  cases d1 with
  | @lst p xs ds' hp t =>
    obtain rfl := Option.some.inj h2
    exact ⟨p, rfl, .inl ⟨⟨xs, sqL_of (g1.sub _ _ hp)⟩, q _ Hs1 H1 g1 (yields_list (fun H e => sqL_of (e _ _ hp)) t)⟩⟩
  | @scr p ns hp =>
    have h2 : some ((scrK ns).map (·.1)) = some ds := h2
    rw [scr_fst] at h2
    obtain rfl := Option.some.inj h2
    exact ⟨p, rfl, .inl ⟨⟨_, g1.sub.seq hp⟩, q _ Hs1 H1 g1 (yields_list (fun H e => e.seq hp) (DdAll.ints ns))⟩⟩
  | @tup p ob xs ds' n hp t =>
    obtain rfl := Option.some.inj h2
    exact ⟨p, rfl, .inr ⟨⟨xs, sqT_of (g1.sub _ _ hp)⟩, q _ Hs1 H1 g1 (yields_tup (fun H e => sqT_of (e _ _ hp)) t)⟩⟩
  | _ => cases h2
/-- range(n), range(m, n) -/
def rgD (lo : Int) (n : Nat) : List PyData := (List.range n).map fun (i : Nat) => PyData.int (lo + i)
theorem rgD_get {lo : Int} {n i : Nat} (h : i < n) : (rgD lo n)[i]? = some (.int (lo + i)) := by
  unfold rgD
  rw [List.getElem?_map, List.getElem?_range h]
  rfl
theorem rgD_len {lo : Int} {n : Nat} : (rgD lo n).length = n := by
  unfold rgD
  rw [List.length_map, List.length_range]
theorem yields_rg {K : PySem.W.Frag} {Hs : Hp} {lo : Int} {n : Nat} : Yields K (Dd K) (Itr lo n) Hs (rgD lo n) where
  go := fun i H e hi => by rw [rgD_len] at hi; exact hi
  stop := fun i H e hi => by rw [rgD_len] at hi; exact hi
  yld := fun i H x H' Hs2 hi e1 e2 h => ⟨Hs2, by
    obtain ⟨rfl, rfl⟩ := h
    rw [rgD_len] at hi
    exact ⟨Grow.refl e2, _, rgD_get hi, .int _⟩⟩
def B62 (i : Int) : Prop := -(2 ^ 62) ≤ i ∧ i < 2 ^ 62
noncomputable instance : DecidablePred B62 := fun _ => Classical.propDecidable _
@[simp] noncomputable def iR1 (f : Fn) : Rho → Option (List PyData) := fun ρ => (f ρ).bind fun d => match d with
  | .int j => if B62 j then some (rgD 0 j.toNat) else none
  | _ => none
theorem id_range1 {p pos : Pos} (ha : ED K X M a ta f) (hm : X.mg "range" = none) (hg : Gl X "range" := by rfl) (hs : starEach [a] X.env = [(false, eval a X.env)] := by rfl) : ID K X M (Dd K) tg (.Call (.Name "range" p) [a] [] pos) (iRng1 (tCons ta tNil)) (iR1 f) :=
  ⟨pi_range1 hg hm (pa_cons ha.pe pa_nil hs) hs, fun {Hs0 H0 Hs H σ ρ ds R} r hf q => by
    obtain ⟨d, h1, h2⟩ := bind_some hf
    refine ha.sm r h1 fun v Hs1 H1 g1 d1 => ?_
    cases d1 with
    | int j =>
      obtain ⟨hb, rfl⟩ := ite_some h2
      exact ⟨j, rfl, hb.1, hb.2, q _ Hs1 H1 g1 yields_rg⟩
    | _ => cases h2⟩
@[simp] noncomputable def iR2 (f f' : Fn) : Rho → Option (List PyData) := fun ρ => (f ρ).bind fun d => (f' ρ).bind fun d' => match d, d' with
  | .int i, .int j => if B62 i ∧ B62 j then some (rgD i (j - i).toNat) else none
  | _, _ => none
theorem id_range2 {p pos : Pos} (ha : ED K X M a ta fa) (hb : ED K X M b tb fb) (hm : X.mg "range" = none) (hg : Gl X "range" := by rfl) (hs : starEach [a, b] X.env = [(false, eval a X.env), (false, eval b X.env)] := by rfl) (hs2 : starEach [b] X.env = [(false, eval b X.env)] := by rfl) :
    ID K X M (Dd K) tg (.Call (.Name "range" p) [a, b] [] pos) (iRng2 (tCons ta (tCons tb tNil))) (iR2 fa fb) :=
  ⟨pi_range2 hg hm (pa_cons ha.pe (pa_cons hb.pe pa_nil hs2) (by rw [hs, hs2])) hs hs2, fun {Hs0 H0 Hs H σ ρ ds R} r hf q => by
    obtain ⟨d, h1, h2⟩ := bind_some hf
    obtain ⟨d', h2, h3⟩ := bind_some h2
    refine ha.sm r h1 fun v Hs1 H1 g1 d1 => ?_
    refine hb.sm (r.grow g1) h2 fun w Hs2 H2 g2 d2 => ?_
    cases d1 with
    | int i =>
      cases d2 with
      | int j =>
        obtain ⟨⟨b1, b2⟩, rfl⟩ := ite_some h3
        exact ⟨i, j, rfl, ⟨b1.1, b1.2, b2.1, b2.2⟩, q _ Hs2 H2 (g1.trans g2) yields_rg⟩
      | _ => cases h3
    | _ => cases h3⟩
/-- tuple(range(n)), list(range(n)), reversed(range(n)) -/
@[simp] def gRg (w : List PyData → PyData) (f : Fn) : Fn := fun ρ => (f ρ).bind fun d => match d with
  | .int j => if 0 ≤ j ∧ j ≤ 1000000 then some (w (rgD 0 j.toNat)) else none
  | _ => none
theorem rgV_rgD {H : Hp} {j : Int} : DdAll K H (rgV 0 j) (rgD 0 j.toNat) := by
  unfold rgV rgD
  rw [Int.sub_zero]
  have : ∀ l : List Nat, DdAll K H (l.map fun i => V.int (0 + (i : Nat))) (l.map fun (i : Nat) => PyData.int (0 + i)) := fun l => by
    induction l with
    | nil => exact .nil
    | cons a r ih => exact .cons (.int _) ih
  exact this _
def tTupRgN (te : L2.St → Hp → (Int → Int → Hp → Prop) → Prop) : TE := fun σ H Q => te σ H fun a b H1 => RgOk a b ∧ NewT Q H1 (rgV a b)
theorem pe_tupRgN {te : L2.St → Hp → (Int → Int → Hp → Prop) → Prop} {p pos : Pos} (hc : X.calm = true) (hg : Gl X "tuple") (hm : X.mg "tuple" = none) (he : PRg X e te) (na : starEach [e] X.env = (false, eval e X.env) :: starEach [] X.env := by rfl) : PE X (.Call (.Name "tuple" p) [e] [] pos) (tTupRgN te) := by
  refine ⟨fun pins s σ H Q I h => ?_⟩
  refine Call_ (ld_blt I hg hm boot_tuple (PyProof.Rows.callWith_type1 (args_cons (thn (he pins s σ H _ I h) fun x s1 ⟨r, a, b, t, u, v, H1, ex, hr, I1, ok, q⟩ => args_nil ?_) na) na))
  subst ex
  obtain ⟨b1, b2, b3, b4, b5⟩ := ok
  refine call_tuple_range (n := (b - a).toNat) (I1.ok.hd hc) hr (small_one b1 b2 b3 b4) (rangeSize_nat a b) b5 fun h' tk acc hk hi => ?_
  have I2 : Inv X pins σ H1 { s1 with heap := h', toks := tk } := I1.kept hk
  have := Inv.tupN (t' := tk) I2 (vals_rg hi) (by rw [rgV_length, sizeLine_eq]; omega)
  rw [Array.toArray_toList] at this
  exact ⟨.ref h'.objs.size, _, this, rfl, q _ _ rfl (I2.hok.fresh (Nat.le_refl _))⟩
theorem ed_tupRg {p1 p2 pos1 : Pos} (ha : ED K X M a ta f) (hmr : X.mg "range" = none) (hm : X.mg "tuple" = none) (hgr : Gl X "range" := by rfl) (hg : Gl X "tuple" := by rfl) (hc : X.calm = true := by rfl)
    (n1 : starEach [a] X.env = (false, eval a X.env) :: starEach [] X.env := by rfl) (na : starEach [.Call (.Name "range" p1) [a] [] pos1] X.env = (false, eval (.Call (.Name "range" p1) [a] [] pos1) X.env) :: starEach [] X.env := by rfl) :
    ED K X M (.Call (.Name "tuple" p2) [.Call (.Name "range" p1) [a] [] pos1] [] pos) (tTupRgN (tRg1 ta)) (gRg .tuple f) :=
  ⟨pe_tupRgN hc hg hm (prg_1 hgr hmr ha.pe n1) na, fun {Hs0 H0 Hs H σ ρ d Q} r hf q => by
    obtain ⟨d, h1, h2⟩ := bind_some hf
    refine ha.sm r h1 fun v Hs1 H1 g1 d1 => ?_
    cases d1 with
    | int j =>
      obtain ⟨⟨b1, b2⟩, rfl⟩ := ite_some h2
      exact ⟨j, rfl, RgOk.of_le (by omega) (by omega) (by omega) b1, NewT.of g1 rgV_rgD q⟩
    | _ => cases h2⟩
@[simp] def gRgL (f : Fn) : Rho → Option (List PyData) := fun ρ => (f ρ).bind fun d => match d with
  | .int j => if 0 ≤ j ∧ j ≤ 1000000 then some (rgD 0 j.toNat) else none
  | _ => none
theorem fd_listRg {p1 p2 pos1 : Pos} (ha : ED K X M a ta f) (hmr : X.mg "range" = none) (hm : X.mg "list" = none) (hgr : Gl X "range" := by rfl) (hg : Gl X "list" := by rfl) (hc : X.calm = true := by rfl)
    (n1 : starEach [a] X.env = (false, eval a X.env) :: starEach [] X.env := by rfl) (na : starEach [.Call (.Name "range" p1) [a] [] pos1] X.env = (false, eval (.Call (.Name "range" p1) [a] [] pos1) X.env) :: starEach [] X.env := by rfl) :
    FD K X M (.Call (.Name "list" p2) [.Call (.Name "range" p1) [a] [] pos1] [] pos) (tLstRg (tRg1 ta)) (gRgL f) :=
  ⟨pe_listRg hc hg hm (prg_1 hgr hmr ha.pe n1) na, fun {Hs0 H0 Hs H σ ρ ds Q} r hf q => by
    obtain ⟨d, h1, h2⟩ := bind_some hf
    refine ha.sm r h1 fun v Hs1 H1 g1 d1 => ?_
    cases d1 with
    | int j =>
      obtain ⟨⟨b1, b2⟩, rfl⟩ := ite_some h2
      refine ⟨j, rfl, RgOk.of_le (by omega) (by omega) (by omega) b1, fun p hp => ?_⟩
      exact q p _ Hs1 _ (g1.trans (Grow.alloc0 g1.sub hp)) (g1.ex.free hp) (g1.sub.free hp) upd_same rgV_rgD
    | _ => cases h2⟩

/-! ### targets -/
structure GD (K : PySem.W.Frag) (X : Cx) (M : List Nat) (Rl : YR) (vs : List Nat) (tg : Expr) (g : TG) (h : PyData → Rho → Option Rho) : Prop where
  pg : PG X tg g
  sm : ∀ {Hs0 H0 Hs H : Hp} {σ : L2.St} {ρ ρ' : Rho} {v : V} {d : PyData} {Q : L2.St → Hp → Prop}, SR K M Hs0 H0 Hs H σ ρ → Rl Hs v d → h d ρ = some ρ' → (∀ σ', SR K M Hs0 H0 Hs H σ' ρ' → (∀ ws, (∀ i ∈ vs, i ∈ ws) → wipe σ' ws = wipe σ ws) → Q σ' H) → g v σ H Q
theorem wipe_set {σ : L2.St} {i : Nat} {x : Option V} : ∀ {ws : List Nat}, i ∈ ws → wipe (σ.set i x) ws = wipe σ ws
  | w :: ws, h => by
    unfold wipe
    by_cases hw : i ∈ ws
    · rw [wipe_set hw]
    · have hi : i = w := by
        rcases List.mem_cons.mp h with z | z
        · exact z
        · exact absurd z hw
      subst hi
      have out : ∀ (vs : List Nat) (τ : L2.St), i ∉ vs → (wipe (τ.set i x) vs).set i none = (wipe τ vs).set i none := fun vs => by
        induction vs with
        | nil => intro τ _; unfold wipe; rw [List.set_set]
        | cons v vs ih =>
          intro τ hv
          unfold wipe
          have hne : v ≠ i := fun z => hv (by rw [z]; exact List.mem_cons_self)
          rw [List.set_comm _ _ hne, ih τ (fun z => hv (List.mem_cons_of_mem _ z)), List.set_comm _ _ hne.symm]
      exact out ws σ hw
theorem SR.set {Hs0 H0 Hs H : Hp} {σ : L2.St} {ρ : Rho} {i : Nat} {v : V} {d : PyData} (r : SR K M Hs0 H0 Hs H σ ρ) (hM : M.contains i = false) (a : Dd K Hs v d) : SR K M Hs0 H0 Hs H (σ.set i (some v)) (ρ.set i (some d)) where
  g := r.g
  len := by rw [List.length_set, List.length_set]; exact r.len
  frz := fun j e h m => by
    by_cases hj : i = j
    · subst hj
      have hi : i < ρ.length := by
        have := (List.getElem?_eq_some_iff.mp h).1
        rwa [List.length_set] at this
      rw [List.getElem?_set_self hi] at h
      cases h
      exact ⟨v, List.getElem?_set_self (by rw [r.len]; exact hi), a⟩
    · rw [List.getElem?_set_ne hj] at h ⊢
      exact r.frz j e h m
  own := fun j e h m => by
    have hj : i ≠ j := fun z => by rw [z, m] at hM; cases hM
    rw [List.getElem?_set_ne hj] at h ⊢
    exact r.own j e h m
  sep := fun j k dj dk p h1 h2 m1 m2 h3 h4 => by
    have hj : i ≠ j := fun z => by rw [z, m1] at hM; cases hM
    have hk : i ≠ k := fun z => by rw [z, m2] at hM; cases hM
    rw [List.getElem?_set_ne hj] at h1 h3
    rw [List.getElem?_set_ne hk] at h2 h4
    exact r.sep j k dj dk p h1 h2 m1 m2 h3 h4
@[simp] def hName (i : Nat) : PyData → Rho → Option Rho := fun d ρ => some (ρ.set i (some d))
theorem gd_name (i : Nat) {x : Str} (hN : X.N.Nodup) (hi : X.N[i]? = some x := by rfl) (hx : Loc X.env.scope x := by first | exact Or.inl rfl | exact Or.inr rfl) (hM : M.contains i = false := by rfl)
    (hf : X.fn x = true ∨ X.env.scope.names.lookup x = some .local := by first | exact .inl rfl | exact .inr rfl) : GD K X M (Dd K) [i] (.Name x pos) (gName i) (hName i) :=
  ⟨pg_name hN hi hx hf, fun {Hs0 H0 Hs H σ ρ ρ' v d Q} r a h q => by
    cases h
    exact q _ (r.set hM a) fun ws hw => wipe_set (hw i (by simp))⟩
/-- several targets -/
structure GsD (K : PySem.W.Frag) (X : Cx) (M : List Nat) (vs : List Nat) (ts : List Expr) (g : TGs) (h : List PyData → Rho → Option Rho) : Prop where
  pg : PGs X ts g
  sm : ∀ {Hs0 H0 Hs H : Hp} {σ : L2.St} {ρ ρ' : Rho} {xs : List V} {ds : List PyData} {Q : L2.St → Hp → Prop}, SR K M Hs0 H0 Hs H σ ρ → DdAll K Hs xs ds → h ds ρ = some ρ' → (∀ σ', SR K M Hs0 H0 Hs H σ' ρ' → (∀ ws, (∀ i ∈ vs, i ∈ ws) → wipe σ' ws = wipe σ ws) → Q σ' H) → g xs σ H Q
@[simp] def hNil : List PyData → Rho → Option Rho := fun ds ρ => match ds with
  | [] => some ρ
  | _ => none
@[simp] def hCons (h : PyData → Rho → Option Rho) (hs : List PyData → Rho → Option Rho) : List PyData → Rho → Option Rho := fun ds ρ => match ds with
  | [] => none
  | d :: r => (h d ρ).bind fun ρ' => hs r ρ'
theorem gsd_nil : GsD K X M [] [] gNil hNil :=
  ⟨pgs_nil, fun {Hs0 H0 Hs H σ ρ ρ' xs ds Q} r a h q => by
    cases a with
    | nil => cases h; exact ⟨rfl, q _ r fun _ _ => rfl⟩
    | cons _ _ => cases h⟩
theorem gsd_cons {vs ws : List Nat} {g : TG} {gs : TGs} {h : PyData → Rho → Option Rho} {hs : List PyData → Rho → Option Rho} {ts : List Expr} (h1 : GD K X M (Dd K) vs e g h) (h2 : GsD K X M ws ts gs hs)
    (hst : (assignEach (e :: ts) X.env).map (·.2) = assign e X.env :: (assignEach ts X.env).map (·.2) := by rfl) : GsD K X M (vs ++ ws) (e :: ts) (gCons g gs) (hCons h hs) :=
  ⟨pgs_cons h1.pg h2.pg hst, fun {Hs0 H0 Hs H σ ρ ρ' xs ds Q} r a hf q => by
    cases a with
    | nil => cases hf
    | cons a1 a2 =>
      obtain ⟨ρ1, e1, e2⟩ := bind_some hf
      refine ⟨_, _, rfl, h1.sm r a1 e1 fun σ1 r1 w1 => h2.sm r1 a2 e2 fun σ2 r2 w2 => q σ2 r2 fun wl hw => ?_⟩
      rw [w2 wl (fun i hi => hw i (List.mem_append_right _ hi)), w1 wl (fun i hi => hw i (List.mem_append_left _ hi))]⟩
/-- a tuple or list of that length, unpacked -/
def gSeq (K : PySem.W.Frag) (n : Nat) (t : TGs) : TG := fun v σ H Q => gTup K n t v σ H Q ∨ gUnl K n t v σ H Q
@[simp] def hSeq (n : Nat) (h : List PyData → Rho → Option Rho) : PyData → Rho → Option Rho := fun d ρ => match d with
  | .tuple ds => if ds.length = n then h ds ρ else none
  | .list ds => if ds.length = n then h ds ρ else none
  | _ => none
theorem ite_get {α : Type} {c : Prop} [Decidable c] {a : Option α} {b : α} (h : (if c then a else none) = some b) : c ∧ a = some b := by
  by_cases hc : c
  · rw [if_pos hc] at h; exact ⟨hc, h⟩
  · rw [if_neg hc] at h; cases h
theorem pg_seq {es : List Expr} {k : Nat} {t : TGs} {n : Nat} (hc : X.calm = true) (h : PGs X es t) (hn : (assignEach es X.env).length = n) (hst : (assignEach es X.env).findIdx? (·.1) = none) : PG X (.Tuple es k pos) (gSeq X.K n t) :=
  ⟨fun pins s σ H v u Q I r hw => by
    rcases hw with hw | hw
    · exact (pg_tup hc h hn hst).run pins s σ H v u Q I r hw
    · exact (pg_unl hc h hn hst).run pins s σ H v u Q I r hw⟩
theorem gd_seq {vs : List Nat} {g : TGs} {h : List PyData → Rho → Option Rho} {k n : Nat} (hs : GsD K X M vs es g h) (hc : X.calm = true := by rfl) (hn : (assignEach es X.env).length = n := by rfl) (hst : (assignEach es X.env).findIdx? (·.1) = none := by rfl) (hK : X.K = K := by rfl) :
    GD K X M (Dd K) vs (.Tuple es k pos) (gSeq K n g) (hSeq n h) := by
  subst hK
  refine ⟨pg_seq hc hs.pg hn hst, fun {Hs0 H0 Hs H σ ρ ρ' v d Q} r a hf q => ?_⟩
  cases a with
  | @tup p ob xs ds nn hp t =>
    obtain ⟨hl, hf⟩ := ite_get hf
    exact .inl ⟨p, xs, rfl, sqT_of (r.sub _ _ hp), by rw [t.length]; exact hl, hs.sm r t hf q⟩
  | @lst p xs ds hp t =>
    obtain ⟨hl, hf⟩ := ite_get hf
    exact .inr ⟨p, xs, rfl, sqL_of (r.sub _ _ hp), by rw [t.length]; exact hl, hs.sm r t hf q⟩
  | _ => cases hf
/-- a pair that an iterator hands out -/
theorem gd_pair {vs : List Nat} {g : TGs} {h : List PyData → Rho → Option Rho} {k n : Nat} (hs : GsD K X M vs es g h) (hc : X.calm = true := by rfl) (hn : (assignEach es X.env).length = n := by rfl) (hst : (assignEach es X.env).findIdx? (·.1) = none := by rfl) (hK : X.K = K := by rfl) :
    GD K X M (Dy K) vs (.Tuple es k pos) (gSeq K n g) (hSeq n h) := by
  subst hK
  refine ⟨pg_seq hc hs.pg hn hst, fun {Hs0 H0 Hs H σ ρ ρ' v d Q} r a hf q => ?_⟩
  obtain ⟨p, xs, ds, rfl, rfl, hp, t⟩ := a
  obtain ⟨hl, hf⟩ := ite_get hf
  exact .inl ⟨p, xs, rfl, .inl (.inl (r.sub _ _ hp)), by rw [t.length]; exact hl, hs.sm r t hf q⟩
end
end DL

namespace DL
open PySem PySem.Spec PyProof.Rows L2

/-! ### comprehensions -/
@[simp] def wipeR (ρ : Rho) : List Nat → Rho
  | [] => ρ
  | v :: vs => (wipeR ρ vs).set v none
theorem wipeR_length (ρ : Rho) : ∀ vs : List Nat, (wipeR ρ vs).length = ρ.length
  | [] => rfl
  | v :: vs => by unfold wipeR; rw [List.length_set, wipeR_length ρ vs]
theorem wipeR_some {ρ : Rho} {i : Nat} {x : PyData} : ∀ {vs : List Nat}, (wipeR ρ vs)[i]? = some (some x) → ρ[i]? = some (some x) ∧ i ∉ vs
  | [], h => ⟨h, by simp⟩
  | v :: vs, h => by
    unfold wipeR at h
    by_cases hi : v = i
    · subst hi
      by_cases hv : v < (wipeR ρ vs).length
      · rw [List.getElem?_set_self hv] at h; cases h
      · rw [List.getElem?_eq_none (by simpa using hv)] at h; cases h
    · rw [List.getElem?_set_ne hi] at h
      obtain ⟨h1, h2⟩ := wipeR_some h
      exact ⟨h1, by simp only [List.mem_cons, not_or]; exact ⟨fun e => hi e.symm, h2⟩⟩
theorem wipe_in {i : Nat} : ∀ {vs : List Nat} (τ : L2.St), i ∈ vs → (L2.wipe τ vs)[i]? = if i < τ.length then some none else none
  | v :: vs, τ, h => by
    unfold L2.wipe
    by_cases hv : v = i
    · subst hv
      by_cases hl : v < τ.length
      · rw [if_pos hl, List.getElem?_set_self (by rw [wipe_length]; exact hl)]
      · rw [if_neg hl, List.getElem?_eq_none (by rw [List.length_set, wipe_length]; omega)]
    · rw [List.getElem?_set_ne hv]
      exact wipe_in τ ((List.mem_cons.mp h).resolve_left fun z => hv z.symm)
theorem wipe_wipe (σ : L2.St) (vs : List Nat) : L2.wipe (L2.wipe σ vs) vs = L2.wipe σ vs := by
  refine List.ext_getElem? fun i => ?_
  by_cases hi : i ∈ vs
  · rw [wipe_in _ hi, wipe_in _ hi, wipe_length]
  · rw [wipe_out hi]
section
variable {K : PySem.W.Frag} {X : Cx} {M : List Nat} {Rl : YR}
theorem SR.wipe {Hs0 H0 Hs H : Hp} {σ : L2.St} {ρ : Rho} (r : SR K M Hs0 H0 Hs H σ ρ) (vs : List Nat) : SR K M Hs0 H0 Hs H (L2.wipe σ vs) (wipeR ρ vs) where
  g := r.g
  len := by rw [wipe_length, wipeR_length]; exact r.len
  frz := fun i d h m => by
    obtain ⟨h1, h2⟩ := wipeR_some h
    rw [wipe_out h2]
    exact r.frz i d h1 m
  own := fun i d h m => by
    obtain ⟨h1, h2⟩ := wipeR_some h
    rw [wipe_out h2]
    exact r.own i d h1 m
  sep := fun i j di dj p h1 h2 m1 m2 h3 h4 => by
    obtain ⟨a1, a2⟩ := wipeR_some h1
    obtain ⟨b1, b2⟩ := wipeR_some h2
    rw [wipe_out a2] at h3
    rw [wipe_out b2] at h4
    exact r.sep i j di dj p a1 b1 m1 m2 h3 h4
structure CTD (K : PySem.W.Frag) (X : Cx) (M : List Nat) (ifs : List Expr) (t : TT) (f : Rho → Option Bool) : Prop where
  pt : PTs X ifs t
  sm : ∀ {Hs0 H0 Hs H : Hp} {σ : L2.St} {ρ : Rho} {b : Bool} {Q : Bool → Hp → Prop}, SR K M Hs0 H0 Hs H σ ρ → f ρ = some b → (∀ H', Same H H' → Q b H') → t σ H Q
@[simp] def cYes : Rho → Option Bool := fun _ => some true
theorem ctd_nil : CTD K X M [] tYes cYes := ⟨pts_nil, fun {Hs0 H0 Hs H σ ρ b Q} r h q => by cases h; exact q H (Same.refl _)⟩
theorem ctd_one {e : Expr} {t : TT} {f : Rho → Option Bool} (h : TD K X M e t f) : CTD K X M [e] t f := ⟨pts_one h.pt, h.sm⟩
/-- what a comprehension makes -/
def compF (tg : PyData → Rho → Option Rho) (c : Rho → Option Bool) (f : Fn) (ρ : Rho) : List PyData → Option (List PyData)
  | [] => some []
  | d :: ds => (tg d ρ).bind fun ρ1 => (c ρ1).bind fun b => if b = true then (f ρ1).bind fun y => (compF tg c f ρ ds).bind fun ys => some (y :: ys) else compF tg c f ρ ds
def fLc (vs : List Nat) (h : Rho → Option (List PyData)) (tg : PyData → Rho → Option Rho) (c : Rho → Option Bool) (f : Fn) : Rho → Option (List PyData) :=
  fun ρ => (h ρ).bind fun ds => if ds.length ≤ 1000000 then compF tg c f (wipeR ρ vs) ds else none
theorem fd_lc {elt tg iter : Expr} {ifs : List Expr} {scope : Scope} {pos : Pos} {wi : TI} {g : TG} {tt : TT} {te : TE} {ws : List Nat} {h : Rho → Option (List PyData)} {hg' : PyData → Rho → Option Rho} {c : Rho → Option Bool} {f : Fn}
    (own : List (Str × Nat)) (hN : X.N.Nodup) (hi : ID K X M Rl tg iter wi h) (ok : BlkOk X.N X.env.scope scope own)
    (hg : ∀ (s : Shared) (H : Hp) (C : Addr) (cl : List (Str × Addr)) (fp : List Addr), GD K (X.blk s H scope (compEnvC scope cl C X.env) fp) M Rl ws tg g hg')
    (ht : ∀ (s : Shared) (H : Hp) (C : Addr) (cl : List (Str × Addr)) (fp : List Addr), CTD K (X.blk s H scope (compEnvC scope cl C X.env) fp) M ifs tt c)
    (he : ∀ (s : Shared) (H : Hp) (C : Addr) (cl : List (Str × Addr)) (fp : List Addr), ED K (X.blk s H scope (compEnvC scope cl C X.env) fp) M elt te f)
    (hws : ws.all (fun i => (own.map (·.2)).contains i) = true := by rfl) (hc : X.calm = true := by rfl) (hs : ∀ x, foldedSetIterable iter X.env x = pure x := by intro _; rfl) :
    FD K X M (.ListComp elt [⟨tg, iter, ifs, 0⟩] scope pos) (tLc wi g tt te (own.map (·.2))) (fLc (own.map (·.2)) h hg' c f) := by
  have hws' : ∀ i ∈ ws, i ∈ own.map (·.2) := fun i hi => by
    have := List.all_eq_true.mp hws i hi
    simpa using this
  refine ⟨pe_lc hc hN hi.pi ok (fun s H C cl fp => (hg s H C cl fp).pg) (fun s H C cl fp => (ht s H C cl fp).pt) (fun s H C cl fp => (he s H C cl fp).pe) hs, fun {Hs0 H0 Hs H σ ρ res Q} R hf q => ?_⟩
  obtain ⟨ds, h1, h2⟩ := bind_some hf
  obtain ⟨hl, h2⟩ := ite_get h2
  refine hi.sm R h1 fun J Hs1 H1 g1 Y D hD => ?_
  have nD : Hs1 D = none := g1.sub.free hD
  refine ⟨fun i m H' => m = ds.length - i ∧ i ≤ ds.length ∧ ∃ Hsi acc accd tail, Grow Hs1 H1 Hsi H' ∧ Hsi D = none ∧ H' D = some (.lst acc) ∧ DdAll K Hsi acc accd ∧ acc.length ≤ i ∧ compF hg' c f (wipeR ρ (own.map (·.2))) (ds.drop i) = some tail ∧ accd ++ tail = res,
    ⟨ds.length, by simp, Nat.zero_le _, Hs1, [], [], res, Grow.alloc0 g1.sub hD, nD, upd_same, .nil, Nat.le_refl _, h2, rfl⟩, ?_⟩
  rintro i m H2 ⟨rfl, hle, Hsi, acc, accd, tail, g2, n2, hD2, d2, hacc, hcf, hres⟩
  by_cases hlt : i < ds.length
  · refine .inr ⟨Y.go i H2 (g2.exs.trans g2.sub) hlt, fun H' => i + 1 ≤ ds.length ∧ ∃ Hsi acc accd tail, Grow Hs1 H1 Hsi H' ∧ Hsi D = none ∧ H' D = some (.lst acc) ∧ DdAll K Hsi acc accd ∧ acc.length ≤ i + 1 ∧ compF hg' c f (wipeR ρ (own.map (·.2))) (ds.drop (i + 1)) = some tail ∧ accd ++ tail = res,
      fun H' ⟨a, b⟩ => ⟨ds.length - (i + 1), by omega, rfl, a, b⟩, fun x H3 hy => ?_⟩
    obtain ⟨Hs3, g3, d, hd, ad⟩ := Y.yld i H2 x H3 Hsi hlt g2.exs g2.sub hy
    have ed : ds.drop i = d :: ds.drop (i + 1) := by
      have e1 := List.drop_eq_getElem_cons hlt
      have e2 : ds[i] = d := (List.getElem?_eq_some_iff.mp hd).2
      rw [e1, e2]
    rw [ed] at hcf
    unfold compF at hcf
    obtain ⟨ρ1, c1, hcf⟩ := bind_some hcf
    obtain ⟨b, c2, hcf⟩ := bind_some hcf
    have R3 : SR K M Hs0 H0 Hs3 H3 (L2.wipe σ (own.map (·.2))) (wipeR ρ (own.map (·.2))) := (((R.grow g1).wipe _).grow g2).grow g3
    refine (hg X.s_0 (fun _ => none) 0 [] []).sm R3 ad c1 fun σ4 R4 w4 => ⟨?_, ?_⟩
    · rw [w4 _ hws']
      exact wipe_wipe σ _
    · refine (ht X.s_0 (fun _ => none) 0 [] []).sm R4 c2 fun H5 e5 => ?_
      have hD5 : H5 D = some (.lst acc) := e5 _ _ (g3.ex _ _ hD2)
      have n3 : Hs3 D = none := g3.new D n2 (by rw [hD2]; simp)
      cases b with
      | false =>
        rw [if_neg Bool.false_ne_true] at hcf ⊢
        exact ⟨hlt, Hs3, acc, accd, tail, (g2.trans g3).trans (Grow.idle g3.sub e5), n3, hD5, d2.mono g3.exs, Nat.le_succ_of_le hacc, hcf, hres⟩
      | true =>
        rw [if_pos rfl] at hcf ⊢
        obtain ⟨y, c3, hcf⟩ := bind_some hcf
        obtain ⟨ys, c4, hcf⟩ := bind_some hcf
        obtain rfl := Option.some.inj hcf
        refine (he X.s_0 (fun _ => none) 0 [] []).sm (R4.same e5) c3 fun v Hs6 H6 g6 d6 => ?_
        have hD6 : H6 D = some (.lst acc) := g6.ex _ _ hD5
        have n6 : Hs6 D = none := g6.new D n3 (by rw [hD5]; simp)
        have gg := ((g2.trans g3).trans (Grow.idle g3.sub e5)).trans g6
        refine ⟨acc, hD6, szL (by omega), hlt, Hs6, acc ++ [v], accd ++ [y], ys, ⟨fun b o e => ?_, gg.exs, fun b o e => ?_, gg.new⟩, n6, upd_same, ((d2.mono g3.exs).mono g6.exs).append (.cons d6 .nil), ?_, c4, ?_⟩
        · have hb : b ≠ D := fun z => by rw [z, hD] at e; cases e
          rw [upd_ne hb]
          exact gg.ex _ _ e
        · have hb : b ≠ D := fun z => by rw [z, n6] at e; cases e
          rw [upd_ne hb]
          exact gg.sub _ _ e
        · rw [List.length_append, List.length_singleton]
          omega
        · rw [List.append_assoc]
          exact hres
  · have ei : i = ds.length := by omega
    subst ei
    rw [List.drop_length] at hcf
    unfold compF at hcf
    cases hcf
    rw [List.append_nil] at hres
    subst hres
    exact .inl ⟨Y.stop _ H2 (g2.exs.trans g2.sub) (Nat.le_refl _), q D acc Hsi H2 (g1.trans g2) (g1.ex.free hD) n2 hD2 d2⟩
end
end DL

namespace DL
open PySem PySem.Spec PyProof.Rows L2
inductive Out where
  | nx (ρ : Rho) | ret (d : PyData) | brk (ρ : Rho) | ct (ρ : Rho) | exc (c : Nat) (ρ : Rho)
abbrev Gn := Rho → Option Out
section
variable {K : PySem.W.Frag} {X : Cx} {M : List Nat} {Rl : YR} {xc : Nat → Addr} {W : WX} {Hs0 H0 Hs H Hs1 : Hp} {D : Ends}
def OutOk (K : PySem.W.Frag) (xc : Nat → Addr) (M : List Nat) (Hs0 H0 Hs : Hp) (W : WX) (D : Ends) : Out → Prop
  | .nx ρ' => ∀ Hs' H' σ', Same Hs Hs' → SR K M Hs0 H0 Hs' H' σ' ρ' → D.nx σ' H'
  | .ret d => ∀ v Hs' H', Grow Hs0 H0 Hs' H' → Dd K Hs' v d → D.rt v H'
  | .brk ρ' => ∀ Hs' H' σ', Same Hs Hs' → SR K M Hs0 H0 Hs' H' σ' ρ' → D.bk σ' H'
  | .ct ρ' => ∀ Hs' H' σ', Same Hs Hs' → SR K M Hs0 H0 Hs' H' σ' ρ' → D.ct σ' H'
  | .exc c ρ' => ∀ Hs' H' σ', Same Hs Hs' → SR K M Hs0 H0 Hs' H' σ' ρ' → W (.ref (xc c)) none σ' H'
theorem OutOk.up {r : Out} (e : Same Hs Hs1) (h : OutOk K xc M Hs0 H0 Hs W D r) : OutOk K xc M Hs0 H0 Hs1 W D r := by
  cases r with
  | nx ρ => exact fun Hs' H' σ' e' => h Hs' H' σ' (e.trans e')
  | ret d => exact h
  | brk ρ => exact fun Hs' H' σ' e' => h Hs' H' σ' (e.trans e')
  | ct ρ => exact fun Hs' H' σ' e' => h Hs' H' σ' (e.trans e')
  | exc c ρ => exact fun Hs' H' σ' e' => h Hs' H' σ' (e.trans e')
structure SD (K : PySem.W.Frag) (xc : Nat → Addr) (X : Cx) (M : List Nat) (W : WX) (st : Stmt) (t : TS) (g : Gn) : Prop where
  ps : PS X st t
  sm : ∀ {Hs0 H0 Hs H : Hp} {σ : L2.St} {ρ : Rho} {r : Out} {D : Ends}, SR K M Hs0 H0 Hs H σ ρ → g ρ = some r → OutOk K xc M Hs0 H0 Hs W D r → t D σ H
structure SS (K : PySem.W.Frag) (xc : Nat → Addr) (X : Cx) (M : List Nat) (W : WX) (st : List Stmt) (t : TS) (g : Gn) : Prop where
  ps : PSs X st t
  sm : ∀ {Hs0 H0 Hs H : Hp} {σ : L2.St} {ρ : Rho} {r : Out} {D : Ends}, SR K M Hs0 H0 Hs H σ ρ → g ρ = some r → OutOk K xc M Hs0 H0 Hs W D r → t D σ H

/-! ### blocks -/
@[simp] def gNx : Gn := fun ρ => some (.nx ρ)
@[simp] def gBlk (g1 g2 : Gn) : Gn := fun ρ => (g1 ρ).bind fun r => match r with
  | .nx ρ' => g2 ρ'
  | r => some r
variable {st : Stmt} {rest : List Stmt} {t u : TS} {g1 g2 : Gn} {e : Expr} {te : TE} {f : Fn} {pos pos' : Pos}
theorem ss_nil : SS K xc X M W [] tNext gNx := ⟨pss_nil, fun {Hs0 H0 Hs H σ ρ r D} R h o => by cases h; exact o Hs H σ (Same.refl _) R⟩
theorem seq_sm {t1 t2 : TS} (h1 : ∀ {Hs0 H0 Hs H : Hp} {σ : L2.St} {ρ : Rho} {r : Out} {D : Ends}, SR K M Hs0 H0 Hs H σ ρ → g1 ρ = some r → OutOk K xc M Hs0 H0 Hs W D r → t1 D σ H)
    (h2 : ∀ {Hs0 H0 Hs H : Hp} {σ : L2.St} {ρ : Rho} {r : Out} {D : Ends}, SR K M Hs0 H0 Hs H σ ρ → g2 ρ = some r → OutOk K xc M Hs0 H0 Hs W D r → t2 D σ H)
    {σ : L2.St} {ρ : Rho} {r : Out} (R : SR K M Hs0 H0 Hs H σ ρ) (h : gBlk g1 g2 ρ = some r) (o : OutOk K xc M Hs0 H0 Hs W D r) : tSeq t1 t2 D σ H := by
  obtain ⟨r1, a, b⟩ := bind_some h
  refine h1 (D := { D with nx := t2 D }) R a ?_
  cases r1 with
  | nx ρ1 => exact fun Hs' H' σ' e' R' => h2 R' b (o.up e')
  | ret d => obtain rfl := Option.some.inj b; exact o
  | brk ρ1 => obtain rfl := Option.some.inj b; exact o
  | ct ρ1 => obtain rfl := Option.some.inj b; exact o
  | exc c ρ1 => obtain rfl := Option.some.inj b; exact o
theorem ss_cons (h1 : SD K xc X M W st t g1) (h2 : SS K xc X M W rest u g2) : SS K xc X M W (st :: rest) (tSeq t u) (gBlk g1 g2) :=
  ⟨pss_cons h1.ps h2.ps, fun R h o => seq_sm h1.sm h2.sm R h o⟩
theorem ss_one (h1 : SD K xc X M W st t g1) : SS K xc X M W [st] t g1 := ⟨pss_one h1.ps, h1.sm⟩

/-! ### small statements -/
@[simp] def gRet (f : Fn) : Gn := fun ρ => (f ρ).bind fun d => some (.ret d)
theorem sd_ret (h : ED K X [] e te f) : SD K xc X M W (.Return (some e) pos) (tRet te) (gRet f) :=
  ⟨ps_ret h.pe, fun {Hs0 H0 Hs H σ ρ r D} R hf o => by
    obtain ⟨d, h1, h2⟩ := bind_some hf
    obtain rfl := Option.some.inj h2
    obtain ⟨Hp', e1, R1, _⟩ := R.thaw
    exact h.sm R1 h1 fun v Hs2 H2 g2 d2 => o v Hs2 H2 (R1.g.trans g2) d2⟩
@[simp] def gAsg (f : Fn) (tg : PyData → Rho → Option Rho) : Gn := fun ρ => (f ρ).bind fun d => (tg d ρ).bind fun ρ' => some (.nx ρ')
theorem asg_sm {g : TG} {vs : List Nat} {tg : Expr} {hg : PyData → Rho → Option Rho} (h : ED K X M e te f) (hG : GD K X M (Dd K) vs tg g hg) {σ : L2.St} {ρ : Rho} {r : Out} (R : SR K M Hs0 H0 Hs H σ ρ) (hf : gAsg f hg ρ = some r) (o : OutOk K xc M Hs0 H0 Hs W D r) : tAsg te g D σ H := by
  obtain ⟨d, h1, h2⟩ := bind_some hf
  obtain ⟨ρ', h4, h3⟩ := bind_some h2
  obtain rfl := Option.some.inj h3
  exact h.sm R h1 fun v Hs1 H1 g1 d1 => hG.sm (R.grow g1) d1 h4 fun σ' R' _ => o Hs1 H1 σ' g1.exs R'
/-- name = e -/
theorem sd_set (i : Nat) {x : Str} (hN : X.N.Nodup) (h : ED K X M e te f) (hi : X.N[i]? = some x := by rfl) (hx : Loc X.env.scope x := by first | exact Or.inl rfl | exact Or.inr rfl) (hM : M.contains i = false := by rfl)
    (hs : swapsWith e (some (.Name x pos')) pos.line X.env = pure false := by rfl) (hf : X.fn x = true ∨ X.env.scope.names.lookup x = some .local := by first | exact .inl rfl | exact .inr rfl) :
    SD K xc X M W (.Assign [.Name x pos'] e pos) (tAsg te (gName i)) (gAsg f (hName i)) :=
  ⟨ps_set hN hi hx h.pe hs hf, fun R hf' o => asg_sm h (gd_name (pos := pos) i hN hi hx hM hf) R hf' o⟩
/-- targets = e -/
theorem sd_tgt {tg : Expr} {g : TG} {vs : List Nat} {hg : PyData → Rho → Option Rho} (h : ED K X M e te f) (hG : GD K X M (Dd K) vs tg g hg) (hs : swapsWithSole [tg] e pos.line X.env = pure false := by rfl) (hw : swappedStores [tg] e X.env = pure none := by rfl)
    (h1 : (assignEach [tg] X.env).map (·.2) = [assign tg X.env] := by rfl) : SD K xc X M W (.Assign [tg] e pos) (tAsg te g) (gAsg f hg) :=
  ⟨ps_asg h.pe hG.pg hs hw h1, fun R hf' o => asg_sm h hG R hf' o⟩
/-- name = [..], on one line -/
theorem sd_setLc {elt tg iter : Expr} {ifs : List Expr} {scope : Scope} {pos1 py : Pos} {wi : TI} {g : TG} {tt : TT} {ws : List Nat} {h : Rho → Option (List PyData)} {hg' : PyData → Rho → Option Rho} {c : Rho → Option Bool} (i : Nat) {y : Str}
    (own : List (Str × Nat)) (hN : X.N.Nodup) (hi : ID K X M Rl tg iter wi h) (ok : BlkOk X.N X.env.scope scope own)
    (hg : ∀ (s : Shared) (H : Hp) (C : Addr) (cl : List (Str × Addr)) (fp : List Addr), GD K (X.blk s H scope (compEnvC scope cl C X.env) fp) M Rl ws tg g hg')
    (ht : ∀ (s : Shared) (H : Hp) (C : Addr) (cl : List (Str × Addr)) (fp : List Addr), CTD K (X.blk s H scope (compEnvC scope cl C X.env) fp) M ifs tt c)
    (he : ∀ (s : Shared) (H : Hp) (C : Addr) (cl : List (Str × Addr)) (fp : List Addr), ED K (X.blk s H scope (compEnvC scope cl C X.env) fp) M elt te f)
    (hsw : swapsWith (.ListComp elt [⟨tg, iter, ifs, 0⟩] scope pos1) (some (.Name y py)) pos.line X.env = pure true)
    (hy : X.N[i]? = some y := by rfl) (hyl : X.env.scope.names.lookup y = some .local := by rfl) (hM : M.contains i = false := by rfl)
    (hws : ws.all (fun i => (own.map (·.2)).contains i) = true := by rfl) (hc : X.calm = true := by rfl) (hs : ∀ x, foldedSetIterable iter X.env x = pure x := by intro _; rfl) :
    SD K xc X M W (.Assign [.Name y py] (.ListComp elt [⟨tg, iter, ifs, 0⟩] scope pos1) pos) (tAsg (tLc wi g tt te (own.map (·.2))) (gName i)) (gAsg (fFr (fLc (own.map (·.2)) h hg' c f)) (hName i)) :=
  ⟨ps_setLc hc hN hy hyl hsw hi.pi ok (fun s H C cl fp => (hg s H C cl fp).pg) (fun s H C cl fp => (ht s H C cl fp).pt) (fun s H C cl fp => (he s H C cl fp).pe) hs,
    fun R hf' o => asg_sm (ed_fr (fd_lc (pos := pos1) own hN hi ok hg ht he hws hc hs)) (gd_name (pos := py) i hN hy (.inl hyl) hM (.inr hyl)) R hf' o⟩
/-- if -/
@[simp] def gIf (c : Rho → Option Bool) (g1 g2 : Gn) : Gn := fun ρ => (c ρ).bind fun b => if b = true then g1 ρ else g2 ρ
theorem sd_if {c : Expr} {a b : List Stmt} {tc : TT} {bc : Rho → Option Bool} (hc : TD K X [] c tc bc) (ha : SS K xc X M W a t g1) (hb : SS K xc X M W b u g2) : SD K xc X M W (.If c a b pos) (tIfS tc t u) (gIf bc g1 g2) :=
  ⟨ps_if hc.pt ha.ps hb.ps, fun {Hs0 H0 Hs H σ ρ r D} R hf o => by
    obtain ⟨k, h1, h2⟩ := bind_some hf
    obtain ⟨Hp', e1, R1, _⟩ := R.thaw
    refine hc.sm R1 h1 fun H1 e2 => ?_
    cases k with
    | true => rw [if_pos rfl] at h2 ⊢; exact ha.sm (R.same e2) h2 o
    | false => rw [if_neg Bool.false_ne_true] at h2 ⊢; exact hb.sm (R.same e2) h2 o⟩
/-- for -/
def forF (tg : PyData → Rho → Option Rho) (body : Gn) : List PyData → Gn
  | [], ρ => some (.nx ρ)
  | d :: ds, ρ => (tg d ρ).bind fun ρ1 => (body ρ1).bind fun r => match r with
    | .nx ρ' => forF tg body ds ρ'
    | .ct ρ' => forF tg body ds ρ'
    | .brk ρ' => some (.nx ρ')
    | .ret d => some (.ret d)
    | .exc c ρ' => some (.exc c ρ')
@[simp] def gFor (h : Rho → Option (List PyData)) (tg : PyData → Rho → Option Rho) (body : Gn) : Gn := fun ρ => (h ρ).bind fun ds => forF tg body ds ρ
theorem sd_for {iter tg : Expr} {body : List Stmt} {wi : TI} {g : TG} {tb : TS} {gb : Gn} {vs : List Nat} {h : Rho → Option (List PyData)} {hg : PyData → Rho → Option Rho} (hp : PassesOwn (model X.prog X.w) X.A X.env X.xe)
    (hi : ID K X M Rl tg iter wi h) (hG : GD K X M Rl vs tg g hg) (hb : SS K xc X M W body tb gb) (hc : X.calm = true := by rfl) (hs : ∀ x, foldedSetIterable iter X.env x = pure x := by intro _; rfl) :
    SD K xc X M W (.For tg iter body [] pos) (tFor wi g tb) (gFor h hg gb) :=
  ⟨ps_for hp hc hi.pi hG.pg hb.ps hs, fun {Hs0 H0 Hs H σ ρ r D} R hf o => by
    obtain ⟨ds, h1, h2⟩ := bind_some hf
    refine hi.sm R h1 fun J Hs1 H1 g1 Y => ?_
    refine ⟨fun i m σ' H' => m = ds.length - i ∧ i ≤ ds.length ∧ ∃ Hsi ρi, Same Hs1 Hsi ∧ SR K M Hs0 H0 Hsi H' σ' ρi ∧ forF hg gb (ds.drop i) ρi = some r, ⟨ds.length, by simp, Nat.zero_le _, Hs1, ρ, Same.refl _, R.grow g1, h2⟩, ?_⟩
    rintro i m σ2 H2 ⟨rfl, hle, Hsi, ρi, e2, R2, hF⟩
    by_cases hlt : i < ds.length
    · refine .inr ⟨Y.go i H2 (e2.trans R2.sub) hlt, fun σ' H' => i + 1 ≤ ds.length ∧ ∃ Hsi ρi, Same Hs1 Hsi ∧ SR K M Hs0 H0 Hsi H' σ' ρi ∧ forF hg gb (ds.drop (i + 1)) ρi = some r,
        fun σ' H' ⟨a, b⟩ => ⟨ds.length - (i + 1), by omega, rfl, a, b⟩, fun x H3 hy => ?_⟩
      obtain ⟨Hs3, g3, d, hd, ad⟩ := Y.yld i H2 x H3 Hsi hlt e2 R2.sub hy
      have ed : ds.drop i = d :: ds.drop (i + 1) := by
        have e1 := List.drop_eq_getElem_cons hlt
        have e2 : ds[i] = d := (List.getElem?_eq_some_iff.mp hd).2
        rw [e1, e2]
      rw [ed] at hF
      unfold forF at hF
      obtain ⟨ρ1, c1, hF⟩ := bind_some hF
      obtain ⟨r1, c2, hF⟩ := bind_some hF
      refine hG.sm (R2.grow g3) ad c1 fun σ4 R4 _ => ?_
      refine hb.sm R4 c2 ?_
      cases r1 with
      | nx ρ' => exact fun Hs' H' σ' e' R' => ⟨hlt, Hs', ρ', (e2.trans g3.exs).trans e', R', hF⟩
      | ct ρ' => exact fun Hs' H' σ' e' R' => ⟨hlt, Hs', ρ', (e2.trans g3.exs).trans e', R', hF⟩
      | brk ρ' =>
        obtain rfl := Option.some.inj hF
        exact fun Hs' H' σ' e' R' => o Hs' H' σ' (((g1.exs.trans e2).trans g3.exs).trans e') R'
      | ret d' =>
        obtain rfl := Option.some.inj hF
        exact o
      | exc c ρ' =>
        obtain rfl := Option.some.inj hF
        exact fun Hs' H' σ' e' R' => o Hs' H' σ' (((g1.exs.trans e2).trans g3.exs).trans e') R'
    · have ei : i = ds.length := by omega
      subst ei
      rw [List.drop_length] at hF
      unfold forF at hF
      obtain rfl := Option.some.inj hF
      exact .inl ⟨Y.stop _ H2 (e2.trans R2.sub) (Nat.le_refl _), o Hsi H2 σ2 (g1.exs.trans e2) R2⟩⟩
/-- while -/
def whileF (c : Rho → Option Bool) (body : Gn) : Nat → Gn
  | 0, _ => none
  | n + 1, ρ => (c ρ).bind fun b => if b = true then (body ρ).bind fun r => match r with
    | .nx ρ' => whileF c body n ρ'
    | .ct ρ' => whileF c body n ρ'
    | .brk ρ' => some (.nx ρ')
    | .ret d => some (.ret d)
    | .exc c ρ' => some (.exc c ρ')
    else some (.nx ρ)
theorem sd_while (n : Nat) {c : Expr} {body : List Stmt} {tc : TT} {bc : Rho → Option Bool} {tb : TS} {gb : Gn} (hp : PassesOwn (model X.prog X.w) X.A X.env X.xe) (hc : TD K X [] c tc bc) (hb : SS K xc X M W body tb gb) :
    SD K xc X M W (.While c body [] pos) (tWhile tc tb) (whileF bc gb n) :=
  ⟨ps_while hp hc.pt hb.ps, fun {Hs0 H0 Hs H σ ρ r D} R hf o => by
    refine ⟨fun m σ' H' => ∃ Hsi ρi, Same Hs Hsi ∧ SR K M Hs0 H0 Hsi H' σ' ρi ∧ whileF bc gb m ρi = some r, ⟨n, Hs, ρ, Same.refl _, R, hf⟩, ?_⟩
    rintro m σ2 H2 ⟨Hsi, ρi, e2, R2, hF⟩
    cases m with
    | zero => cases hF
    | succ m =>
      unfold whileF at hF
      obtain ⟨k, h1, hF⟩ := bind_some hF
      obtain ⟨Hp', e1, R1, _⟩ := R2.thaw
      refine hc.sm R1 h1 fun H3 e3 => ?_
      cases k with
      | false =>
        rw [if_neg Bool.false_ne_true] at hF ⊢
        obtain rfl := Option.some.inj hF
        exact o Hsi H3 σ2 e2 (R2.same e3)
      | true =>
        rw [if_pos rfl] at hF ⊢
        obtain ⟨r1, c2, hF⟩ := bind_some hF
        refine ⟨fun σ' H' => ∃ Hsi ρi, Same Hs Hsi ∧ SR K M Hs0 H0 Hsi H' σ' ρi ∧ whileF bc gb m ρi = some r, fun σ' H' h => ⟨m, Nat.lt_succ_self m, h⟩, ?_⟩
        refine hb.sm (R2.same e3) c2 ?_
        cases r1 with
        | nx ρ' => exact fun Hs' H' σ' e' R' => ⟨Hs', ρ', e2.trans e', R', hF⟩
        | ct ρ' => exact fun Hs' H' σ' e' R' => ⟨Hs', ρ', e2.trans e', R', hF⟩
        | brk ρ' =>
          obtain rfl := Option.some.inj hF
          exact fun Hs' H' σ' e' R' => o Hs' H' σ' (e2.trans e') R'
        | ret d' =>
          obtain rfl := Option.some.inj hF
          exact o
        | exc c ρ' =>
          obtain rfl := Option.some.inj hF
          exact fun Hs' H' σ' e' R' => o Hs' H' σ' (e2.trans e') R'⟩

/-! ### calls that may raise, as statements -/
variable {tr : TA} {fr : Rho → Option (List PyData)} {es : List Expr} {x : Str} {p : Pos}
/-- a call of a def: what it gives or raises -/
structure QD (K : PySem.W.Frag) (xc : Nat → Addr) (X : Cx) (M : List Nat) (W : WX) (e : Expr) (t : TE) (f : Rho → Option (Except Nat PyData)) : Prop where
  pe : PE X e t
  sm : ∀ {Hs0 H0 Hs H : Hp} {σ : L2.St} {ρ : Rho} {r : Except Nat PyData} {Q : VK}, SR K M Hs0 H0 Hs H σ ρ → f ρ = some r →
    (match r with
      | .ok d => ∀ v Hs' H', Grow Hs H Hs' H' → Dd K Hs' v d → Q v H'
      | .error c => ∀ H', Same H H' → W (.ref (xc c)) none σ H') → t σ H Q
@[simp] def qCall (φ : List PyData → Option (Except Nat PyData)) (fa : Rho → Option (List PyData)) : Rho → Option (Except Nat PyData) := fun ρ => (fa ρ).bind φ
theorem qd_call {k n : Nat} {fA : Addr} {fd : FuncData} {ps : List Str} {φ : List PyData → Option (Except Nat PyData)} (F : FnOk X.prog X.w X.K X.mg X.base (L2.CX X.prog X.w) k fA fd ps (spX K n xc φ)) (hr : Room k X.A) (hm : X.mg x = some (.ref fA))
    (hk : PySem.W.keepIn X.K (.ref fA) = true) (hb : Binds X.K fd ps []) (hn : ∀ ds r, φ ds = some r → ds.length = n) (tk : Takes X W) (ha : AD K X M (e :: es) tr fr) (hg : Gl X x := by rfl) (hdb : (x == ("__debug__" : Str)) = false := by decide) (he : starEach (e :: es) X.env = (false, eval e X.env) :: starEach es X.env := by rfl)
    (hpl : (backTo pos (starEach es X.env)).any (·.1) = false := by rfl) : QD K xc X M W (.Call (.Name x p) (e :: es) [] pos) (tCallS (spX K n xc φ) (WE W) tr) (qCall φ fr) :=
  ⟨pe_callS F hr hg hm hk hb (fun σ => passAt tk σ) ha.pa hdb he hpl, fun {Hs0 H0 Hs H σ ρ r Q} R hf q => by
    obtain ⟨ds, h1, h2⟩ := bind_some hf
    refine ha.sm R h1 fun vs Hs1 H1 g1 d1 => ?_
    refine ⟨by rw [d1.length]; exact hn _ _ h2, Hs1, ds, r, g1.sub, d1, h2, ?_⟩
    cases r with
    | error c => exact fun H2 e2 => q H2 (g1.ex.trans e2)
    | ok d => exact fun v Hs2 H2 g2 d2 => q v Hs2 H2 (g1.trans g2) d2⟩
@[simp] def gExprQ (f : Rho → Option (Except Nat PyData)) : Gn := fun ρ => (f ρ).bind fun r => match r with
  | .ok _ => some (.nx ρ)
  | .error c => some (.exc c ρ)
theorem sd_exprQ {f : Rho → Option (Except Nat PyData)} (h : QD K xc X M W e te f) (hs : swapsWith e none pos.line X.env = pure false := by rfl) : SD K xc X M W (.Expr e pos) (tDrop te) (gExprQ f) :=
  ⟨ps_expr h.pe hs, fun {Hs0 H0 Hs H σ ρ r D} R hf o => by
    obtain ⟨q, h1, h2⟩ := bind_some hf
    refine h.sm R h1 ?_
    cases q with
    | ok d =>
      obtain rfl := Option.some.inj h2
      exact fun v Hs1 H1 g1 d1 => o Hs1 H1 σ g1.exs (R.grow g1)
    | error c =>
      obtain rfl := Option.some.inj h2
      exact fun H1 e1 => o Hs H1 σ (Same.refl _) (R.same e1)⟩
@[simp] def gSetQ (i : Nat) (f : Rho → Option (Except Nat PyData)) : Gn := fun ρ => (f ρ).bind fun r => match r with
  | .ok d => some (.nx (ρ.set i (some d)))
  | .error c => some (.exc c ρ)
theorem sd_setQ (i : Nat) {x : Str} {f : Rho → Option (Except Nat PyData)} (hN : X.N.Nodup) (h : QD K xc X M W e te f) (hi : X.N[i]? = some x := by rfl) (hx : Loc X.env.scope x := by first | exact Or.inl rfl | exact Or.inr rfl) (hM : M.contains i = false := by rfl)
    (hs : swapsWith e (some (.Name x pos')) pos.line X.env = pure false := by rfl) (hf : X.fn x = true ∨ X.env.scope.names.lookup x = some .local := by first | exact .inl rfl | exact .inr rfl) :
    SD K xc X M W (.Assign [.Name x pos'] e pos) (tAsg te (gName i)) (gSetQ i f) :=
  ⟨ps_set hN hi hx h.pe hs hf, fun {Hs0 H0 Hs H σ ρ r D} R hf o => by
    obtain ⟨q, h1, h2⟩ := bind_some hf
    refine h.sm R h1 ?_
    cases q with
    | ok d =>
      obtain rfl := Option.some.inj h2
      exact fun v Hs1 H1 g1 d1 => o Hs1 H1 _ g1.exs ((R.grow g1).set hM d1)
    | error c =>
      obtain rfl := Option.some.inj h2
      exact fun H1 e1 => o Hs H1 σ (Same.refl _) (R.same e1)⟩
@[simp] def gRetQ (f : Rho → Option (Except Nat PyData)) : Gn := fun ρ => (f ρ).bind fun r => match r with
  | .ok d => some (.ret d)
  | .error c => some (.exc c ρ)

/-! ### raise of an own class made with a text -/
@[simp] def gRaise (c : Nat) : Gn := fun ρ => some (.exc c ρ)
theorem sd_raise (c : Nat) {m : Str} {j : Nat} {p2 : Pos} (q : PySem.W.excIn X.K (xc c) [.type "ValueError", .type "Exception", .type "BaseException", .type "object"] "ValueError.__new__" = true) (gC : X.mg x = some (.ref (xc c))) (kC : PySem.W.keepIn X.K (.ref (xc c)) = true)
    (r : Raises X (.ref (xc c))) (tk : Takes X W) (hg : Gl X x := by rfl) (hc : X.calm = true := by rfl) (hdb : (x == ("__debug__" : Str)) = false := by decide) : SD K xc X M W (.Raise (some (.Call (.Name x p) [.Constant (.str m) j p2] [] pos')) none pos) (fun _ σ H => W (.ref (xc c)) none σ H) (gRaise c) :=
  ⟨ps_raise hc tk (pmk_own PySem.F.excBase_ValueError q gC kC r hg hdb), fun {Hs0 H0 Hs H σ ρ r D} R hf o => by
    cases hf
    exact o Hs H σ (Same.refl _) R⟩
end

/-! ### a def -/
@[simp] def runDef (N : Nat) (g : Gn) : List PyData → Option (Except Nat PyData) := fun ds => match g (ds.map some ++ List.replicate (N - ds.length) none) with
  | some (.ret d) => some (.ok d)
  | some (.nx _) => some (.ok .none)
  | some (.exc c _) => some (.error c)
  | _ => none
/-- .. of just so many arguments -/
@[simp] def defN (n N : Nat) (g : Gn) : List PyData → Option (Except Nat PyData) := fun ds => if ds.length = n then runDef N g ds else none
theorem defN_len {n N : Nat} {g : Gn} : ∀ ds r, defN n N g ds = some r → ds.length = n := fun ds r h => (ite_get h).1
section
variable {K : PySem.W.Frag} {P : Program} {w : World} {mg : Str → Option Value} {base : Heap} {xc : Nat → Addr}
theorem ok_def {x qual : Str} {st : Stmt} {f : Addr} {fd : FuncData} {N ps : List Str} {k n : Nat} (M : List Nat) {g : Gn} (F : Fun K x qual st f fd) (S : FnScope N ps (defScope st)) (hn : ps.length = n)
    (hb : ∀ (cdv : Value) (A : Around) (outer : List Env) (s : Shared) (H : Hp) (E : XK), Room k (A.deeper (envOfC qual (defScope st) s.heap.objs.size f cdv)) →
      PassesOwn (model P w) (cxOf (L2.CX P w) P w K mg base N qual (defScope st) f cdv A outer s H E).A (cxOf (L2.CX P w) P w K mg base N qual (defScope st) f cdv A outer s H E).env (cxOf (L2.CX P w) P w K mg base N qual (defScope st) f cdv A outer s H E).xe →
      Takes (cxOf (L2.CX P w) P w K mg base N qual (defScope st) f cdv A outer s H E) (fun cls d _ H' => E cls d H') →
      ∃ t, SS K xc (cxOf (L2.CX P w) P w K mg base N qual (defScope st) f cdv A outer s H E) M (fun cls d _ H' => E cls d H') (defBody st) t g)
    (hM : M.all (fun i => decide (n ≤ i)) = true := by rfl) :
    FnOk P w K mg base (L2.CX P w) (k + 1) f fd ps (spX K n xc (defN n N.length g)) := by
  refine F.okX S (fun vs H Q E h => by rw [hn]; exact h.1) (fun cdv A outer s H vs Q E hr h => ?_)
  obtain ⟨hl, Hs, ds, r, e, dd, hφ, hq⟩ := h
  obtain ⟨hds, hφ⟩ := ite_get hφ
  obtain ⟨t, hS⟩ := hb cdv A outer s H E hr (passes_of rfl) (takes_of rfl rfl rfl rfl)
  refine ⟨t, hS.ps, ?_⟩
  have hlen := dd.length
  have R : SR K M Hs H Hs H (L2.start N vs) (ds.map some ++ List.replicate (N.length - ds.length) none) := by
    have get : ∀ {i : Nat} {d : PyData}, (ds.map some ++ List.replicate (N.length - ds.length) none)[i]? = some (some d) → ds[i]? = some d := fun {i d} h => by
      by_cases hi : i < ds.length
      · rw [List.getElem?_append_left (by simpa using hi), List.getElem?_map] at h
        rw [List.getElem?_eq_getElem hi] at h ⊢
        cases h; rfl
      · rw [List.getElem?_append_right (by simpa using hi), List.getElem?_replicate] at h
        split at h <;> cases h
    refine ⟨Grow.refl e, ?_, fun i d h _ => ?_, fun i d h m => ?_, fun i j di dj p h1 h2 m1 m2 h3 h4 => ?_⟩
    · unfold L2.start
      rw [List.length_append, List.length_append, List.length_map, List.length_map, List.length_replicate, List.length_replicate, hlen]
    · obtain ⟨v, h1, h2⟩ := dd.get (get h)
      refine ⟨v, ?_, h2⟩
      unfold L2.start
      have hi : i < vs.length := (List.getElem?_eq_some_iff.mp h1).1
      rw [List.getElem?_append_left (by simpa using hi), List.getElem?_map, h1]
      rfl
    · have := (List.getElem?_eq_some_iff.mp (get h)).1
      have hi : i ∈ M := by simpa using m
      have := of_decide_eq_true (List.all_eq_true.mp hM i hi)
      omega
    · have := (List.getElem?_eq_some_iff.mp (get h1)).1
      have hi : i ∈ M := by simpa using m1
      have := of_decide_eq_true (List.all_eq_true.mp hM i hi)
      omega
  unfold runDef at hφ
  cases hg : g (ds.map some ++ List.replicate (N.length - ds.length) none) with
  | none => rw [hg] at hφ; cases hφ
  | some o =>
    rw [hg] at hφ
    refine hS.sm R hg ?_
    cases o with
    | nx ρ =>
      obtain rfl := Option.some.inj hφ
      exact fun Hs' H' σ' e' R' => hq _ Hs' H' R'.g .non
    | ret d =>
      obtain rfl := Option.some.inj hφ
      exact fun v Hs' H' g' d' => hq v Hs' H' g' d'
    | exc c ρ =>
      obtain rfl := Option.some.inj hφ
      exact fun Hs' H' σ' e' R' => hq H' R'.g.ex
    | brk ρ => cases hφ
    | ct ρ => cases hφ
end
end DL

namespace DL
open PySem PySem.Spec PyProof.Rows L2
/-! ### tuple * int -/
theorem tuple_mul1 (l : Addr) (items : Array Value) (n : Nat) (dd : Option Addr) (sl : Array (Option Value)) (x : Int) (u : Tok) (c0 : (decide (x < -(2 ^ 63)) || decide (x ≥ 2 ^ 63)) = false) (c1 : (items.isEmpty || x == 1) = true) :
    Meets (Builtin.«tuple.__mul__» ⟨[.ref l, .int x u], []⟩) (fun _ R s => s.heap.get? l = some { cls := .type "tuple", dict := dd, data := .seq items n, slots := sl } ∧ R (.ok (.ret (Value.ref l))) s) :=
  .of_wp fun prog w A R s h => by
    obtain ⟨hp, g, d, tk, os⟩ := s
    obtain ⟨hl, h⟩ := h
    have f1 := AutoSeq1.idx_int
    wp_walk using wpAny_loadPart' hl
    repeat (first
      | (refine wpAny_ite_false (decide_eq_false (by rw [c0]; exact Bool.false_ne_true)) ?_; wp_walk using wpAny_loadPart' hl)
      | (refine wpAny_ite_true (decide_eq_true (by rw [c1])) ?_; wp_walk using wpAny_loadPart' hl))
    exact ⟨_, rfl, h⟩
theorem tuple_mul0 (l : Addr) (items : Array Value) (n : Nat) (dd : Option Addr) (sl : Array (Option Value)) (x : Int) (u : Tok) (c0 : (decide (x < -(2 ^ 63)) || decide (x ≥ 2 ^ 63)) = false) (c1 : (items.isEmpty || x == 1) = false) (c2 : (decide (x ≤ 0) || items.isEmpty) = true) :
    Meets (Builtin.«tuple.__mul__» ⟨[.ref l, .int x u], []⟩) (fun _ R s => s.heap.get? l = some { cls := .type "tuple", dict := dd, data := .seq items n, slots := sl } ∧
      R (.ok (.ret (Value.ref s.heap.objs.size))) { s with heap := s.heap.push { cls := Value.type "tuple", data := Data.seq #[] }, toks := s.toks }) :=
  .of_wp fun prog w A R s h => by
    obtain ⟨hp, g, d, tk, os⟩ := s
    obtain ⟨hl, h⟩ := h
    have f1 := AutoSeq1.idx_int
    wp_walk using wpAny_loadPart' hl
    repeat (first
      | (refine wpAny_ite_false (decide_eq_false (by rw [c0]; exact Bool.false_ne_true)) ?_; wp_walk using wpAny_loadPart' hl)
      | (refine wpAny_ite_false (decide_eq_false (by rw [c1]; exact Bool.false_ne_true)) ?_; wp_walk using wpAny_loadPart' hl)
      | (refine wpAny_ite_true (decide_eq_true (by rw [c2])) ?_; wp_walk using wpAny_loadPart' hl))
    exact ⟨_, rfl, h⟩

def rRepN (K : PySem.W.Frag) : R2 := fun x y H Q => ∃ l k xs, x = .ref l ∧ y = .int k ∧ SqT K H l xs ∧ -1000 ≤ k ∧ k ≤ 1000 ∧ xs.length ≤ 1000 ∧ (xs = [] ∨ k = 1 → Q (.ref l) H) ∧ (¬ (xs = [] ∨ k = 1) → NewT Q H (List.replicate k.toNat xs).flatten)
section
variable {X : Cx} {K : PySem.W.Frag}
theorem op_repN : OpR X (binaryOp .Mult) (rRepN X.K) := by
  intro pins s σ H x y v u Q I rx ry h
  obtain ⟨l, k, xs, rfl, rfl, hT, h1, h2, hz, q1, q2⟩ := h
  cases rx
  obtain ⟨t, rfl⟩ := ry
  obtain ⟨its, r, ⟨⟨cls, dd, data, sl⟩, ho, hc, n, hd⟩, hs⟩ := I.tuple hT
  simp only at hc hd
  subst hc hd
  have hle : its.length = xs.length := r.length.symm
  have c0 : (decide (k < -(2 ^ 63)) || decide (k ≥ 2 ^ 63)) = false := by
    rw [decide_eq_false (by omega), decide_eq_false (by omega)] <;> rfl
  have ie : its.toArray.isEmpty = decide (xs = []) := by
    cases xs with
    | nil => cases r; rfl
    | cons a b => cases r; rfl
  by_cases hc1 : xs = [] ∨ k = 1
  · have c1 : (its.toArray.isEmpty || k == 1) = true := by
      rw [ie]
      rcases hc1 with z | z
      · rw [decide_eq_true z, Bool.true_or]
      · rw [z]; simp
    exact wpAny_binaryOp_repeat_ref (T := "tuple") (U := "int") (by decide) ⟨_, ho, rfl⟩ (fun s' => typeIs_int s' k t) noFill_tuple_mul F.fills_int_mul F.slot_int_rmul repeat_tuple F.slot_int_index.lookup
      (call_meets F.slot_int_rmul (typeIs_int s k t) F.entry_int_rmul (F.args_int_rmul_2 _ _) (int_rmul_tuple k t l its.toArray n dd sl)
        ⟨ho, rfl, ⟨_, ho, rfl⟩, call_meets F.slot_tuple_mul ⟨_, ho, rfl⟩ F.entry_tuple_mul (F.args_tuple_mul_2 _ _) (tuple_mul1 l its.toArray n dd sl k t c0 c1) ⟨ho, .ref l, H, I, rfl, q1 hc1⟩⟩)
  · have hx : xs ≠ [] := fun z => hc1 (.inl z)
    have hk : k ≠ 1 := fun z => hc1 (.inr z)
    have hi : its.toArray.isEmpty = false := by rw [ie, decide_eq_false hx]
    have c1 : (its.toArray.isEmpty || k == 1) = false := by
      rw [hi, Bool.false_or]
      exact beq_eq_false_iff_ne.mpr hk
    have q := q2 hc1
    by_cases hk0 : k ≤ 0
    · have c2 : (decide (k ≤ 0) || its.toArray.isEmpty) = true := by rw [decide_eq_true hk0, Bool.true_or]
      have e0 : (List.replicate k.toNat xs).flatten = [] := by
        have : k.toNat = 0 := by omega
        rw [this]
        rfl
      rw [e0] at q
      exact wpAny_binaryOp_repeat_ref (T := "tuple") (U := "int") (by decide) ⟨_, ho, rfl⟩ (fun s' => typeIs_int s' k t) noFill_tuple_mul F.fills_int_mul F.slot_int_rmul repeat_tuple F.slot_int_index.lookup
        (call_meets F.slot_int_rmul (typeIs_int s k t) F.entry_int_rmul (F.args_int_rmul_2 _ _) (int_rmul_tuple k t l its.toArray n dd sl)
          ⟨ho, rfl, ⟨_, ho, rfl⟩, call_meets F.slot_tuple_mul ⟨_, ho, rfl⟩ F.entry_tuple_mul (F.args_tuple_mul_2 _ _) (tuple_mul0 l its.toArray n dd sl k t c0 c1 c2) ⟨ho, .ref s.heap.objs.size, _, Inv.tupN (its := []) (t' := s.toks) I .nil (Nat.zero_le _), rfl, q _ _ rfl (I.hok.fresh (Nat.le_refl _))⟩⟩)
    · have hsz0 : its.toArray.size = xs.length := by rw [List.size_toArray, hle]
      have hm : ((its.toArray.size : Nat) : Int) * k ≤ 1000000 := by
        rw [hsz0]
        have a1 : ((xs.length : Nat) : Int) * k ≤ 1000 * k := Int.mul_le_mul_of_nonneg_right (by omega) (by omega)
        omega
      have flen : (List.replicate k.toNat its).flatten.length ≤ sizeLine := by
        rw [PyProof.Rows.lm_len_rep_flat, hle, sizeLine_eq]
        have a1 : k.toNat * xs.length ≤ 1000 * 1000 := Nat.mul_le_mul (by omega) hz
        omega
      have c2 : (decide (k ≤ 0) || its.toArray.isEmpty) = false := by
        rw [hi, Bool.or_false]
        exact decide_eq_false hk0
      have c4 : Builtin.Tuple.tupleTooMany (((its.toArray.size : Nat) : Int) * k) = false := by
        unfold Builtin.Tuple.tupleTooMany
        rw [sizeLine_eq]
        exact decide_eq_false (by omega)
      refine wpAny_binaryOp_repeat_ref (T := "tuple") (U := "int") (by decide) ⟨_, ho, rfl⟩ (fun s' => typeIs_int s' k t) noFill_tuple_mul F.fills_int_mul F.slot_int_rmul repeat_tuple F.slot_int_index.lookup
        (call_meets F.slot_int_rmul (typeIs_int s k t) F.entry_int_rmul (F.args_int_rmul_2 _ _) (int_rmul_tuple k t l its.toArray n dd sl)
          ⟨ho, rfl, ⟨_, ho, rfl⟩, call_meets F.slot_tuple_mul ⟨_, ho, rfl⟩ F.entry_tuple_mul (F.args_tuple_mul_2 _ _) (tuple_mulW l its.toArray n dd sl k t c0 c1 c2 (by omega) c4 (by rw [size_rep, List.size_toArray]; exact flen)) ⟨ho, ?_⟩⟩)
      rw [size_rep]
      exact ⟨.ref s.heap.objs.size, _, Inv.tupN (t' := s.toks) I (r.rep k.toNat) (by rw [PyProof.Rows.lm_len_rep_flat, sizeLine_eq]; have a1 : k.toNat * xs.length ≤ 1000 * 1000 := Nat.mul_le_mul (by omega) hz; omega), rfl, q _ _ rfl (I.hok.fresh (Nat.le_refl _))⟩
def rMulD (K : PySem.W.Frag) : R2 := fun x y H Q => rI MulOk (fun i j => .int (i * j)) x y H Q ∨ rRepN K x y H Q
@[simp] noncomputable def gMulD : PyData → PyData → Option PyData
  | .int a, .int b => if MulOk a b then some (.int (a * b)) else none
  | .tuple ds, .int k => if -1000 ≤ k ∧ k ≤ 1000 ∧ ds.length ≤ 1000 then some (.tuple (List.replicate k.toNat ds).flatten) else none
  | _, _ => none
theorem DdAll.repl {H : Hp} {vs : List V} {ds : List PyData} (t : DdAll K H vs ds) : ∀ n, DdAll K H (List.replicate n vs).flatten (List.replicate n ds).flatten
  | 0 => .nil
  | n + 1 => by
    rw [List.replicate_succ, List.replicate_succ, List.flatten_cons, List.flatten_cons]
    exact t.append (DdAll.repl t n)
theorem od_mulD (hK : X.K = K := by rfl) : OD K X (binaryOp .Mult) (rMulD K) gMulD := by
  subst hK
  refine ⟨op_mulO.or op_repN, fun {Hs H x y dx dy d Q} e a b hf q => ?_⟩
  cases a with
  | int i =>
    cases b with
    | int j =>
      obtain ⟨hc, rfl⟩ := ite_some hf
      exact .inl ⟨i, j, rfl, rfl, hc, q _ Hs H (Grow.refl e) (.int _)⟩
    | _ => cases hf
  | @tup p ob xs ds n hp t =>
    cases b with
    | int k =>
      obtain ⟨⟨c1, c2, c3⟩, rfl⟩ := ite_some hf
      refine .inr ⟨p, k, xs, rfl, rfl, sqT_of (e _ _ hp), c1, c2, by rw [t.length]; exact c3, fun z => ?_, fun z => NewT.of (Grow.refl e) (t.repl _) q⟩
      have e1 : (List.replicate k.toNat ds).flatten = ds := by
        rcases z with z | z
        · subst z
          cases t
          exact flat_rep_nil _
        · subst z
          show ds ++ [] = ds
          rw [List.append_nil]
      rw [e1] at q
      exact q _ Hs H (Grow.refl e) (.tup n hp t)
    | _ => cases hf
  | _ => cases hf

/-! ### lists that change -/
variable {M : List Nat} {xc : Nat → Addr} {W : WX} {Hs0 H0 Hs H : Hp} {σ : L2.St} {ρ : Rho} {e o : Expr} {te ta : TE} {f : Fn} {pos pos' apos : Pos}
/-- a slot's list is written -/
theorem SR.upd {i : Nat} {p : Addr} {ys : List V} {es : List PyData} (r : SR K M Hs0 H0 Hs H σ ρ) (hM : M.contains i = true) (hs : σ[i]? = some (some (.ref p))) (hd : ∃ d, ρ[i]? = some (some d)) (hn : Hs p = none) (h0 : H0 p = none) (t : DdAll K Hs ys es) :
    SR K M Hs0 H0 Hs (L2.upd H p (.lst ys)) σ (ρ.set i (some (.list es))) where
  g := ⟨fun b o h => by
      have hb : b ≠ p := fun z => by rw [z, h0] at h; cases h
      rw [upd_ne hb]; exact r.g.ex _ _ h, r.g.exs, fun b o h => by
      have hb : b ≠ p := fun z => by rw [z, hn] at h; cases h
      rw [upd_ne hb]; exact r.g.sub _ _ h, r.g.new⟩
  len := by rw [List.length_set]; exact r.len
  frz := fun j d h m => by
    have hj : i ≠ j := fun z => by rw [← z, hM] at m; cases m
    rw [List.getElem?_set_ne hj] at h
    exact r.frz j d h m
  own := fun j d h m => by
    by_cases hj : i = j
    · subst hj
      have hi : i < ρ.length := by
        have := (List.getElem?_eq_some_iff.mp h).1
        rwa [List.length_set] at this
      rw [List.getElem?_set_self hi] at h
      cases h
      exact ⟨p, ys, es, rfl, hs, upd_same, hn, h0, t⟩
    · rw [List.getElem?_set_ne hj] at h
      obtain ⟨p', xs', ds', e1, e2, e3, e4, e5, e6⟩ := r.own j d h m
      have hp : p' ≠ p := fun z => by
        obtain ⟨di, hdi⟩ := hd
        exact hj (r.sep i j di d p hdi h hM m hs (by rw [← z]; exact e2))
      exact ⟨p', xs', ds', e1, e2, by rw [upd_ne hp]; exact e3, e4, e5, e6⟩
  sep := fun j k dj dk q h1 h2 m1 m2 h3 h4 => by
    have old : ∀ {j : Nat} {dj : PyData}, (ρ.set i (some (.list es)))[j]? = some (some dj) → ∃ d, ρ[j]? = some (some d) := fun {j dj} h => by
      by_cases hj : i = j
      · subst hj; exact hd
      · rw [List.getElem?_set_ne hj] at h; exact ⟨_, h⟩
    obtain ⟨a, ha⟩ := old h1
    obtain ⟨b, hb⟩ := old h2
    exact r.sep j k a b q ha hb m1 m2 h3 h4
/-- a slot takes a fresh list -/
theorem SR.take {i : Nat} {p : Addr} {xs : List V} {ds : List PyData} (r : SR K M Hs0 H0 Hs H σ ρ) {Hs1 H1 : Hp} (g : Grow Hs H Hs1 H1) (hM : M.contains i = true) (hf : H p = none) (hn : Hs1 p = none) (hH : H1 p = some (.lst xs)) (t : DdAll K Hs1 xs ds) :
    SR K M Hs0 H0 Hs1 H1 (σ.set i (some (.ref p))) (ρ.set i (some (.list ds))) := by
  have r1 := r.grow g
  have h0 : H0 p = none := r.g.ex.free hf
  have ne : ∀ j d, ρ[j]? = some (some d) → M.contains j = true → σ[j]? ≠ some (some (.ref p)) := fun j d h m z => by
    obtain ⟨p', xs', ds', e1, e2, e3, _⟩ := r.own j d h m
    rw [e2] at z
    cases z
    rw [hf] at e3
    cases e3
  refine ⟨r1.g, by rw [List.length_set, List.length_set]; exact r.len, fun j d h m => ?_, fun j d h m => ?_, fun j k dj dk q h1 h2 m1 m2 h3 h4 => ?_⟩
  · have hj : i ≠ j := fun z => by rw [← z, hM] at m; cases m
    rw [List.getElem?_set_ne hj] at h ⊢
    exact r1.frz j d h m
  · by_cases hj : i = j
    · subst hj
      have hi : i < ρ.length := by
        have := (List.getElem?_eq_some_iff.mp h).1
        rwa [List.length_set] at this
      rw [List.getElem?_set_self hi] at h
      cases h
      exact ⟨p, xs, ds, rfl, List.getElem?_set_self (by rw [r.len]; exact hi), hH, hn, h0, t⟩
    · rw [List.getElem?_set_ne hj] at h ⊢
      exact r1.own j d h m
  · by_cases hj : i = j
    · by_cases hk : i = k
      · exact hj.symm.trans hk
      · subst hj
        have hi : i < σ.length := by
          have := (List.getElem?_eq_some_iff.mp h3).1
          rwa [List.length_set] at this
        rw [List.getElem?_set_self hi] at h3
        cases h3
        rw [List.getElem?_set_ne hk] at h2 h4
        exact absurd h4 (ne k dk h2 m2)
    · by_cases hk : i = k
      · subst hk
        have hi : i < σ.length := by
          have := (List.getElem?_eq_some_iff.mp h4).1
          rwa [List.length_set] at this
        rw [List.getElem?_set_self hi] at h4
        cases h4
        rw [List.getElem?_set_ne hj] at h1 h3
        exact absurd h3 (ne j dj h1 m1)
      · rw [List.getElem?_set_ne hj] at h1 h3
        rw [List.getElem?_set_ne hk] at h2 h4
        exact r.sep j k dj dk q h1 h2 m1 m2 h3 h4
@[simp] def gOwn (i : Nat) (f : Rho → Option (List PyData)) : Gn := fun ρ => (f ρ).bind fun ds => some (.nx (ρ.set i (some (.list ds))))
/-- name = a fresh list, the name one of M -/
theorem sd_own (i : Nat) {x : Str} {f : Rho → Option (List PyData)} (hN : X.N.Nodup) (h : FD K X M e te f) (hi : X.N[i]? = some x := by rfl) (hx : Loc X.env.scope x := by first | exact Or.inl rfl | exact Or.inr rfl) (hM : M.contains i = true := by rfl)
    (hs : swapsWith e (some (.Name x pos')) pos.line X.env = pure false := by rfl) (hf : X.fn x = true ∨ X.env.scope.names.lookup x = some .local := by first | exact .inl rfl | exact .inr rfl) :
    SD K xc X M W (.Assign [.Name x pos'] e pos) (tAsg te (gName i)) (gOwn i f) :=
  ⟨ps_set hN hi hx h.pe hs hf, fun {Hs0 H0 Hs H σ ρ r D} R hf o => by
    obtain ⟨ds, h1, h2⟩ := bind_some hf
    obtain rfl := Option.some.inj h2
    exact h.sm R h1 fun p xs Hs1 H1 g1 hp hn hH t => o Hs1 H1 _ g1.exs (R.take g1 hM hp hn hH t)⟩
/-- .. by a comprehension on one line -/
theorem sd_ownLc {Rl : YR} {elt tg iter : Expr} {ifs : List Expr} {scope : Scope} {pos1 py : Pos} {wi : TI} {g : TG} {tt : TT} {ws : List Nat} {h : Rho → Option (List PyData)} {hg' : PyData → Rho → Option Rho} {c : Rho → Option Bool} (i : Nat) {y : Str}
    (own : List (Str × Nat)) (hN : X.N.Nodup) (hi : ID K X M Rl tg iter wi h) (ok : BlkOk X.N X.env.scope scope own)
    (hg : ∀ (s : Shared) (H : Hp) (C : Addr) (cl : List (Str × Addr)) (fp : List Addr), GD K (X.blk s H scope (compEnvC scope cl C X.env) fp) M Rl ws tg g hg')
    (ht : ∀ (s : Shared) (H : Hp) (C : Addr) (cl : List (Str × Addr)) (fp : List Addr), CTD K (X.blk s H scope (compEnvC scope cl C X.env) fp) M ifs tt c)
    (he : ∀ (s : Shared) (H : Hp) (C : Addr) (cl : List (Str × Addr)) (fp : List Addr), ED K (X.blk s H scope (compEnvC scope cl C X.env) fp) M elt te f)
    (hsw : swapsWith (.ListComp elt [⟨tg, iter, ifs, 0⟩] scope pos1) (some (.Name y py)) pos.line X.env = pure true)
    (hy : X.N[i]? = some y := by rfl) (hyl : X.env.scope.names.lookup y = some .local := by rfl) (hM : M.contains i = true := by rfl)
    (hws : ws.all (fun i => (own.map (·.2)).contains i) = true := by rfl) (hc : X.calm = true := by rfl) (hs : ∀ x, foldedSetIterable iter X.env x = pure x := by intro _; rfl) :
    SD K xc X M W (.Assign [.Name y py] (.ListComp elt [⟨tg, iter, ifs, 0⟩] scope pos1) pos) (tAsg (tLc wi g tt te (own.map (·.2))) (gName i)) (gOwn i (fLc (own.map (·.2)) h hg' c f)) :=
  ⟨ps_setLc hc hN hy hyl hsw hi.pi ok (fun s H C cl fp => (hg s H C cl fp).pg) (fun s H C cl fp => (ht s H C cl fp).pt) (fun s H C cl fp => (he s H C cl fp).pe) hs, fun {Hs0 H0 Hs H σ ρ r D} R hf o => by
    obtain ⟨ds, h1, h2⟩ := bind_some hf
    obtain rfl := Option.some.inj h2
    exact (fd_lc (pos := pos1) own hN hi ok hg ht he hws hc hs).sm R h1 fun p xs Hs1 H1 g1 hp hn hH t => o Hs1 H1 _ g1.exs (R.take g1 hM hp hn hH t)⟩
@[simp] def lstAt (i : Nat) : Rho → Option (List PyData) := fun ρ => match ρ[i]? with
  | some (some (.list ds)) => some ds
  | _ => none
theorem lstAt_some {i : Nat} {ds : List PyData} (h : lstAt i ρ = some ds) : ρ[i]? = some (some (.list ds)) := by
  unfold lstAt at h
  split at h
  · rename_i e; cases h; exact e
  · cases h
/-- x.append(e) -/
@[simp] def gApp (i : Nat) (f : Fn) : Gn := fun ρ => (lstAt i ρ).bind fun ds => (f ρ).bind fun d => if ds.length < 1000000 then some (.nx (ρ.set i (some (.list (ds ++ [d]))))) else none
theorem SR.ownAt {i : Nat} {ds : List PyData} (r : SR K M Hs0 H0 Hs H σ ρ) (h : ρ[i]? = some (some (.list ds))) (hM : M.contains i = true) : ∃ p xs, σ[i]? = some (some (.ref p)) ∧ H p = some (.lst xs) ∧ Hs p = none ∧ H0 p = none ∧ DdAll K Hs xs ds := by
  obtain ⟨p, xs, ds', e1, e2, e3, e4, e5, e6⟩ := r.own i _ h hM
  cases e1
  exact ⟨p, xs, e2, e3, e4, e5, e6⟩
theorem sd_append (i : Nat) {x : Str} (h : ED K X M e te f) (hN : X.N[i]? = some x := by rfl) (hv : Vis X.env.scope x := by first | exact Or.inl rfl | exact Or.inr (Or.inl rfl) | exact Or.inr (Or.inr rfl)) (hM : M.contains i = true := by rfl)
    (hbase : attributeBase (.Name x pos') "append" X.env (eval (.Name x pos') X.env) = eval (.Name x pos') X.env := by rfl)
    (hfew : ((backTo pos (starEach [e] X.env)).all (fun x => !x.1) && (backToKw pos (keywordEach [] X.env)).all (fun x => x.1.isSome)
      && decide ([e].length + ([] : List Keyword).length + (if ([] : List Keyword).isEmpty then 0 else 1) < 30)) = true := by rfl)
    (hline : (apos.endLine == pos.line) = true := by rfl) (hst : starEach [e] X.env = (false, eval e X.env) :: starEach [] X.env := by rfl) {pos2 : Pos} (hs : swapsWith (.Call (.Attribute (.Name x pos') "append" apos) [e] [] pos) none pos2.line X.env = pure false := by rfl) (hd : (x == ("__debug__" : Str)) = false := by decide) (hcd : (x == ("__classdict__" : Str)) = false := by decide) :
    SD K xc X M W (.Expr (.Call (.Attribute (.Name x pos') "append" apos) [e] [] pos) pos2) (tDrop (tBM X.K "list" rAppend (tVar i) (tCons te tNil))) (gApp i f) :=
  ⟨ps_expr (pe_bm PySem.F.plainAttrs_list PySem.F.slot_list_append PySem.F.type_list_append mt_append (pe_var hN hv hd hcd) (pa_cons h.pe pa_nil hst) hbase hfew hline hst rfl) hs, fun {Hs0 H0 Hs H σ ρ r D} R hf o => by
    obtain ⟨ds, h1, h2⟩ := bind_some hf
    obtain ⟨d, h3, h4⟩ := bind_some h2
    obtain ⟨hl, rfl⟩ := ite_some h4
    have hρ := lstAt_some h1
    obtain ⟨p, xs, e1, e2, e3, e4, e5⟩ := R.ownAt hρ hM
    refine ⟨.ref p, e1, .inl ⟨rfl, _, sqL_of e2⟩, h.sm R h3 fun v Hs1 H1 g1 d1 => ?_⟩
    refine ⟨p, xs, v, rfl, rfl, g1.ex _ _ e2, szL (by rw [e5.length]; exact hl), ?_⟩
    exact o Hs1 _ σ g1.exs ((R.grow g1).upd hM e1 ⟨_, hρ⟩ (g1.new p e3 (by rw [e2]; simp)) e4 ((e5.mono g1.exs).append (.cons d1 .nil)))⟩
/-- x[e1] = e2 -/
@[simp] def gSet (i : Nat) (fi f : Fn) : Gn := fun ρ => (f ρ).bind fun d => (lstAt i ρ).bind fun ds => (fi ρ).bind fun k => match k with
  | .int k => (ixN ds.length k).bind fun j => some (.nx (ρ.set i (some (.list (ds.set j d)))))
  | _ => none
theorem sd_setItem (i : Nat) {x : Str} {b : Expr} {tb : TE} {fb : Fn} {ps : Pos} (h : ED K X M e te f) (hb : ED K X M b tb fb) (hN : X.N[i]? = some x := by rfl) (hv : Vis X.env.scope x := by first | exact Or.inl rfl | exact Or.inr (Or.inl rfl) | exact Or.inr (Or.inr rfl)) (hM : M.contains i = true := by rfl)
    (ha : ∀ v, assign (.Subscript (.Name x pos') b ps) X.env v = (do
      let ov ← holding [v] (eval (.Name x pos') X.env)
      let iv ← holding [v, ov] (eval b X.env)
      standAt ps
      holding [v, ov, iv] (setItem ov iv v)
      release [v, ov, iv] []) := by intro _; rfl)
    (hs : swapsWithSole [.Subscript (.Name x pos') b ps] e pos.line X.env = pure false := by rfl) (hw : swappedStores [.Subscript (.Name x pos') b ps] e X.env = pure none := by rfl)
    (h1 : (assignEach [.Subscript (.Name x pos') b ps] X.env).map (·.2) = [assign (.Subscript (.Name x pos') b ps) X.env] := by rfl) (hd : (x == ("__debug__" : Str)) = false := by decide) (hcd : (x == ("__classdict__" : Str)) = false := by decide) :
    SD K xc X M W (.Assign [.Subscript (.Name x pos') b ps] e pos) (tAsg te (gSub (tVar i) tb rSetL)) (gSet i fb f) :=
  ⟨ps_asg h.pe (pg_sub (pe_var hN hv hd hcd) hb.pe set_list ha) hs hw h1, fun {Hs0 H0 Hs H σ ρ r D} R hf o => by
    obtain ⟨d, h1, hf⟩ := bind_some hf
    obtain ⟨ds, h2, hf⟩ := bind_some hf
    obtain ⟨k, h3, hf⟩ := bind_some hf
    have hρ := lstAt_some h2
    obtain ⟨p, xs, e1, e2, e3, e4, e5⟩ := R.ownAt hρ hM
    refine h.sm R h1 fun v Hs1 H1 g1 d1 => ⟨.ref p, e1, hb.sm (R.grow g1) h3 fun w Hs2 H2 g2 d2 => ?_⟩
    cases d2 with
    | int k =>
      obtain ⟨j, h4, h5⟩ := bind_some hf
      obtain rfl := Option.some.inj h5
      have g := g1.trans g2
      refine ⟨p, xs, k, j, rfl, rfl, g.ex _ _ e2, by rw [e5.length]; exact h4, ?_⟩
      exact o Hs2 _ σ g.exs ((R.grow g).upd (ys := xs.set j v) hM e1 ⟨_, hρ⟩ (g.new p e3 (by rw [e2]; simp)) e4 (DdAll.set (d1.mono g2.exs) j (e5.mono g.exs)))
    | _ => cases hf⟩
end
end DL

namespace DL
open PySem PySem.Spec PyProof.Rows L2
/-! ### [x.pop(e) for k in ..]: a comprehension that empties a list of the def -/
def B63 (k : Int) : Prop := -(2 ^ 63) ≤ k ∧ k < 2 ^ 63
noncomputable instance : DecidablePred B63 := fun _ => Classical.propDecidable _
noncomputable def popF (j iL : Nat) (fe : Fn) : List PyData → Rho → Option (List PyData)
  | [], _ => some []
  | d :: ds, ρ => (lstAt iL (ρ.set j (some d))).bind fun L => (fe (ρ.set j (some d))).bind fun k => match k with
    | .int k => if B63 k then (seqIndex? k L.length).bind fun n => (L[n]?).bind fun y => (popF j iL fe ds (ρ.set iL (some (.list (L.eraseIdx n))))).bind fun ys => some (y :: ys) else none
    | _ => none
section
variable {K : PySem.W.Frag} {X : Cx} {M : List Nat} {xc : Nat → Addr} {W : WX} {Hs0 H0 Hs H Hs1 H1 : Hp} {σ : L2.St} {ρ : Rho} {e : Expr} {te : TE} {fe : Fn} {pos pos' apos : Pos}
/-- an object that no slot owns is written -/
theorem SR.other {D : Addr} {o : HO} (r : SR K M Hs0 H0 Hs H σ ρ) (hn : Hs D = none) (h0 : H0 D = none) (ne : ∀ i d p, ρ[i]? = some (some d) → M.contains i = true → σ[i]? = some (some (.ref p)) → p ≠ D) : SR K M Hs0 H0 Hs (L2.upd H D o) σ ρ where
  g := ⟨fun b o h => by
      have hb : b ≠ D := fun z => by rw [z, h0] at h; cases h
      rw [upd_ne hb]; exact r.g.ex _ _ h, r.g.exs, fun b o h => by
      have hb : b ≠ D := fun z => by rw [z, hn] at h; cases h
      rw [upd_ne hb]; exact r.g.sub _ _ h, r.g.new⟩
  len := r.len
  frz := r.frz
  own := fun j d h m => by
    obtain ⟨p', xs', ds', e1, e2, e3, e4, e5, e6⟩ := r.own j d h m
    exact ⟨p', xs', ds', e1, e2, by rw [upd_ne (ne j d p' h m e2)]; exact e3, e4, e5, e6⟩
  sep := r.sep
/-- a slot is forgotten -/
theorem SR.forget {i : Nat} (r : SR K M Hs0 H0 Hs H σ ρ) : SR K M Hs0 H0 Hs H σ (ρ.set i none) := by
  have old : ∀ {j : Nat} {d : PyData}, (ρ.set i none)[j]? = some (some d) → ρ[j]? = some (some d) := fun {j d} h => by
    by_cases hj : i = j
    · subst hj
      by_cases hi : i < ρ.length
      · rw [List.getElem?_set_self hi] at h; cases h
      · rw [List.getElem?_eq_none (by simpa using hi)] at h; cases h
    · rwa [List.getElem?_set_ne hj] at h
  exact ⟨r.g, by rw [List.length_set]; exact r.len, fun j d h => r.frz j d (old h), fun j d h => r.own j d (old h), fun j k dj dk p h1 h2 => r.sep j k dj dk p (old h1) (old h2)⟩
def tPop (K : PySem.W.Frag) (iL : Nat) (te : TE) : TE := tBM K "list" rPopAt (tVar iL) (tCons te tNil)
theorem lcPop {h : Rho → Option (List PyData)} {tg iter : Expr} {wi : TI} {j iL : Nat} {vs : List Nat} {ds res : List PyData} {Q : VK} (hi : ID K X M (Dd K) tg iter wi h) (Y : Cx) (he : ED K Y M e te fe) (hML : M.contains iL = true) (hMj : M.contains j = false) (hj : j ∈ vs) (hvs : vs.all (fun i => !M.contains i) = true)
    (R : SR K M Hs0 H0 Hs H σ ρ) (h1 : h ρ = some ds) (hl : ds.length ≤ 1000000) (hp : popF j iL fe ds (wipeR ρ vs) = some res)
    (q : ∀ D acc Hs' H', Same Hs Hs' → SR K M Hs0 H0 Hs' H' σ (ρ.set iL none) → H D = none → Hs' D = none → H0 D = none → H' D = some (.lst acc) → DdAll K Hs' acc res → (∀ i d p, ρ[i]? = some (some d) → M.contains i = true → σ[i]? = some (some (.ref p)) → p ≠ D) → Q (.ref D) H') :
    tLc wi (gName j) tYes (tPop K iL te) vs σ H Q := by
  have hMv : ∀ i, M.contains i = true → i ∉ vs := fun i m hi => by
    have := List.all_eq_true.mp hvs i hi
    rw [m] at this
    cases this
  refine hi.sm R h1 fun J Hs1 H1 g1 Yl D hD => ?_
  have nD : Hs1 D = none := g1.sub.free hD
  have R1 := R.grow g1
  have h0D : H0 D = none := R1.g.ex.free hD
  have own0 : ∀ i d p, ρ[i]? = some (some d) → M.contains i = true → σ[i]? = some (some (.ref p)) → p ≠ D := fun i d p h m hs z => by
    obtain ⟨p', xs', ds', e1, e2, e3, _⟩ := R1.own i d h m
    rw [hs] at e2
    cases e2
    rw [z, hD] at e3
    cases e3
  refine ⟨fun i m H' => m = ds.length - i ∧ i ≤ ds.length ∧ ∃ Hsi ρi acc accd tail, Same Hs1 Hsi ∧ Hsi D = none ∧ SR K M Hs0 H0 Hsi H' (L2.wipe σ vs) ρi ∧ (∀ i d, ρi[i]? = some (some d) → M.contains i = true → ∃ d', ρ[i]? = some (some d')) ∧ (∀ i, i ≠ iL → ρi[i]? = (wipeR ρ vs)[i]?) ∧ H' D = some (.lst acc) ∧ DdAll K Hsi acc accd ∧ acc.length ≤ i ∧ popF j iL fe (ds.drop i) ρi = some tail ∧ accd ++ tail = res,
    ⟨ds.length, by simp, Nat.zero_le _, Hs1, wipeR ρ vs, [], [], res, Same.refl _, nD, ?_, fun i d h m => ⟨d, (wipeR_some h).1⟩, fun _ _ => rfl, upd_same, .nil, Nat.le_refl _, hp, rfl⟩, ?_⟩
  · refine (R1.wipe vs).other nD h0D fun i d p h m hs => ?_
    obtain ⟨a1, a2⟩ := wipeR_some h
    rw [wipe_out a2] at hs
    exact own0 i d p a1 m hs
  · rintro i m H2 ⟨rfl, hle, Hsi, ρi, acc, accd, tail, e2, n2, R2, hown, hsame, hD2, d2, hacc, hcf, hres⟩
    by_cases hlt : i < ds.length
    · refine .inr ⟨Yl.go i H2 (e2.trans R2.sub) hlt, fun H' => i + 1 ≤ ds.length ∧ ∃ Hsi ρi acc accd tail, Same Hs1 Hsi ∧ Hsi D = none ∧ SR K M Hs0 H0 Hsi H' (L2.wipe σ vs) ρi ∧ (∀ i d, ρi[i]? = some (some d) → M.contains i = true → ∃ d', ρ[i]? = some (some d')) ∧ (∀ i, i ≠ iL → ρi[i]? = (wipeR ρ vs)[i]?) ∧ H' D = some (.lst acc) ∧ DdAll K Hsi acc accd ∧ acc.length ≤ i + 1 ∧ popF j iL fe (ds.drop (i + 1)) ρi = some tail ∧ accd ++ tail = res,
        fun H' ⟨a, b⟩ => ⟨ds.length - (i + 1), by omega, rfl, a, b⟩, fun x H3 hy => ?_⟩
      obtain ⟨Hs3, g3, d, hd, ad⟩ := Yl.yld i H2 x H3 Hsi hlt e2 R2.sub hy
      have ed : ds.drop i = d :: ds.drop (i + 1) := by
        have e1 := List.drop_eq_getElem_cons hlt
        have e2 : ds[i] = d := (List.getElem?_eq_some_iff.mp hd).2
        rw [e1, e2]
      rw [ed] at hcf
      unfold popF at hcf
      obtain ⟨L, c1, hcf⟩ := bind_some hcf
      obtain ⟨k, c2, hcf⟩ := bind_some hcf
      have R3 := R2.grow g3
      have R4 := R3.set (i := j) hMj ad
      have hρL := lstAt_some c1
      refine ⟨?_, ?_⟩
      · show L2.wipe ((L2.wipe σ vs).set j (some x)) vs = L2.wipe σ vs
        rw [wipe_set hj]
        exact wipe_wipe σ vs
      · unfold tYes
        dsimp only
        rw [if_pos rfl]
        obtain ⟨pL, xsL, f1, f2, f3, f4, f5⟩ := R4.ownAt hρL hML
        refine ⟨.ref pL, f1, .inl ⟨rfl, _, sqL_of f2⟩, he.sm R4 c2 fun v Hs5 H5 g5 d5 => ?_⟩
        cases d5 with
        | int k =>
          obtain ⟨hB, hcf⟩ := ite_get hcf
          obtain ⟨n, c3, hcf⟩ := bind_some hcf
          obtain ⟨y, c4, hcf⟩ := bind_some hcf
          obtain ⟨ys, c5, hcf⟩ := bind_some hcf
          obtain rfl := Option.some.inj hcf
          obtain ⟨yv, c6, c7⟩ := f5.get c4
          have hD5 : H5 D = some (.lst acc) := g5.ex _ _ (g3.ex _ _ hD2)
          have hpD : pL ≠ D := by
            have hneJ : j ≠ iL := fun z => by rw [z, hML] at hMj; cases hMj
            rw [List.getElem?_set_ne hneJ] at hρL f1
            obtain ⟨d', hd'⟩ := hown _ _ hρL hML
            rw [wipe_out (hMv _ hML)] at f1
            exact own0 _ _ _ hd' hML f1
          refine ⟨pL, xsL, k, n, yv, rfl, rfl, g5.ex _ _ f2, hB.1, hB.2, by rw [f5.length]; exact c3, c6, ?_⟩
          have n5 : Hs5 D = none := g5.new D (g3.new D n2 (by rw [hD2]; simp)) (by rw [g3.ex _ _ hD2]; simp)
          have R5 : SR K M Hs0 H0 Hs5 (L2.upd H5 pL (.lst (xsL.eraseIdx n))) (L2.wipe σ vs) (ρi.set iL (some (.list (L.eraseIdx n)))) := by
            have hneJ : j ≠ iL := fun z => by rw [z, hML] at hMj; cases hMj
            rw [List.getElem?_set_ne hneJ] at hρL f1
            exact (R3.grow g5).upd hML f1 ⟨_, hρL⟩ (g5.new pL f3 (by rw [f2]; simp)) f4 ((f5.mono g5.exs).erase n)
          have own5 : ∀ i d, (ρi.set iL (some (.list (L.eraseIdx n))))[i]? = some (some d) → M.contains i = true → ∃ d', ρ[i]? = some (some d') := fun i d h m => by
            by_cases hiL : iL = i
            · subst hiL
              have hneJ : j ≠ iL := fun z => by rw [z, hML] at hMj; cases hMj
              rw [List.getElem?_set_ne hneJ] at hρL
              exact hown _ _ hρL hML
            · rw [List.getElem?_set_ne hiL] at h
              exact hown i d h m
          refine ⟨acc, by rw [upd_ne hpD.symm]; exact hD5, szL (by omega), hlt, Hs5, ρi.set iL (some (.list (L.eraseIdx n))), acc ++ [yv], accd ++ [y], ys, (e2.trans g3.exs).trans g5.exs, n5, R5.other n5 h0D ?_, own5, fun i hi => ?_, upd_same, ((d2.mono g3.exs).mono g5.exs).append (.cons (c7.mono g5.exs) .nil), ?_, c5, ?_⟩
          · intro i d p h m hs
            obtain ⟨d', hd'⟩ := own5 i d h m
            rw [wipe_out (hMv _ m)] at hs
            exact own0 _ _ _ hd' m hs
          · rw [List.getElem?_set_ne (fun z => hi z.symm)]
            exact hsame i hi
          · rw [List.length_append, List.length_singleton]
            omega
          · rw [List.append_assoc]
            exact hres
        | _ => cases hcf
    · have ei : i = ds.length := by omega
      subst ei
      rw [List.drop_length] at hcf
      unfold popF at hcf
      cases hcf
      rw [List.append_nil] at hres
      subst hres
      refine .inl ⟨Yl.stop _ H2 (e2.trans R2.sub) (Nat.le_refl _), q D acc Hsi H2 (g1.exs.trans e2) ?_ (g1.ex.free hD) n2 h0D hD2 d2 own0⟩
      have setNone : ∀ {i : Nat} {d : PyData}, (ρ.set iL none)[i]? = some (some d) → i ≠ iL ∧ ρ[i]? = some (some d) := fun {i d} h => by
        by_cases hj : iL = i
        · subst hj
          by_cases hi : iL < ρ.length
          · rw [List.getElem?_set_self hi] at h; cases h
          · rw [List.getElem?_eq_none (by simpa using hi)] at h; cases h
        · rw [List.getElem?_set_ne hj] at h
          exact ⟨fun z => hj z.symm, h⟩
      have wr : ∀ i, i ∉ vs → (wipeR ρ vs)[i]? = ρ[i]? := fun i => by
        have : ∀ (ws : List Nat), i ∉ ws → (wipeR ρ ws)[i]? = ρ[i]? := fun ws => by
          induction ws with
          | nil => intro _; rfl
          | cons w ws ih =>
            intro hw
            unfold wipeR
            rw [List.getElem?_set_ne (fun z => hw (by rw [z]; exact List.mem_cons_self)), ih (fun z => hw (List.mem_cons_of_mem _ z))]
        exact this vs
      refine ⟨R2.g, by rw [List.length_set]; exact R.len, fun i d h m => ?_, fun i d h m => ?_, fun i k di dk p h1 h2 m1 m2 h3 h4 => ?_⟩
      · obtain ⟨hne, h⟩ := setNone h
        obtain ⟨v, a, b⟩ := R.frz i d h m
        exact ⟨v, a, (b.mono g1.exs).mono e2⟩
      · obtain ⟨hne, h⟩ := setNone h
        have hi2 : ρi[i]? = some (some d) := by rw [hsame i hne, wr i (hMv i m)]; exact h
        obtain ⟨p', xs', ds', a1, a2, a3⟩ := R2.own i d hi2 m
        rw [wipe_out (hMv i m)] at a2
        exact ⟨p', xs', ds', a1, a2, a3⟩
      · exact R.sep i k di dk p (setNone h1).2 (setNone h2).2 m1 m2 h3 h4
/-- the fresh list at D, forgotten as such: it stands with the data -/
theorem SR.show {D : Addr} {acc : List V} {ds : List PyData} (r : SR K M Hs0 H0 Hs H σ ρ) (hn : Hs D = none) (h0 : H0 D = none) (hD : H D = some (.lst acc)) (t : DdAll K Hs acc ds) (ne : ∀ i d p, ρ[i]? = some (some d) → M.contains i = true → σ[i]? = some (some (.ref p)) → p ≠ D) :
    ∃ Hs', Same Hs Hs' ∧ SR K M Hs0 H0 Hs' H σ ρ ∧ Dd K Hs' (.ref D) (.list ds) := by
  have e1 : Same Hs (L2.upd Hs D (.lst acc)) := same_new hn
  refine ⟨L2.upd Hs D (.lst acc), e1, ⟨⟨r.g.ex, r.g.exs.trans e1, fun b o z => ?_, fun a z n => ?_⟩, r.len, fun i d h m => ?_, fun i d h m => ?_, r.sep⟩, .lst upd_same (t.mono e1)⟩
  · by_cases hb : b = D
    · subst hb; rw [upd_same] at z; rw [hD]; exact z
    · rw [upd_ne hb] at z; exact r.g.sub _ _ z
  · have : a ≠ D := fun y => n (by rw [y]; exact h0)
    rw [upd_ne this]; exact r.g.new a z n
  · obtain ⟨v, a, b⟩ := r.frz i d h m
    exact ⟨v, a, b.mono e1⟩
  · obtain ⟨p', xs', ds', a1, a2, a3, a4, a5, a6⟩ := r.own i d h m
    exact ⟨p', xs', ds', a1, a2, a3, by rw [upd_ne (ne i d p' h m a2)]; exact a4, a5, a6.mono e1⟩
@[simp] noncomputable def gSetPop (i j iL : Nat) (vs : List Nat) (h : Rho → Option (List PyData)) (fe : Fn) : Gn := fun ρ => (h ρ).bind fun ds => if ds.length ≤ 1000000 then (popF j iL fe ds (wipeR ρ vs)).bind fun ys => some (.nx ((ρ.set iL none).set i (some (.list ys)))) else none
/-- y = [x.pop(e) for k in ..] -/
theorem sd_setPop {tg iter : Expr} {scope : Scope} {pos1 py px cpos : Pos} {wi : TI} {h : Rho → Option (List PyData)} (i iL : Nat) {j : Nat} {y x : Str}
    (own : List (Str × Nat)) (hN : X.N.Nodup) (hi : ID K X M (Dd K) tg iter wi h) (ok : BlkOk X.N X.env.scope scope own)
    (hg : ∀ (s : Shared) (H : Hp) (C : Addr) (cl : List (Str × Addr)) (fp : List Addr), GD K (X.blk s H scope (compEnvC scope cl C X.env) fp) M (Dd K) [j] tg (gName j) (hName j))
    (hx : ∀ (s : Shared) (H : Hp) (C : Addr) (cl : List (Str × Addr)) (fp : List Addr), PE (X.blk s H scope (compEnvC scope cl C X.env) fp) (.Name x px) (tVar iL))
    (he : ∀ (s : Shared) (H : Hp) (C : Addr) (cl : List (Str × Addr)) (fp : List Addr), ED K (X.blk s H scope (compEnvC scope cl C X.env) fp) M e te fe)
    (hsw : swapsWith (.ListComp (.Call (.Attribute (.Name x px) "pop" apos) [e] [] cpos) [⟨tg, iter, [], 0⟩] scope pos1) (some (.Name y py)) pos.line X.env = pure true)
    (hy : X.N[i]? = some y := by rfl) (hyl : X.env.scope.names.lookup y = some .local := by rfl) (hM : M.contains i = false := by rfl) (hML : M.contains iL = true := by rfl) (hMj : M.contains j = false := by rfl) (hj : j ∈ own.map (·.2) := by decide) (hvs : (own.map (·.2)).all (fun i => !M.contains i) = true := by rfl)
    (hc : X.calm = true := by rfl) (hs : ∀ x, foldedSetIterable iter X.env x = pure x := by intro _; rfl)
    (hbase : ∀ (s : Shared) (H : Hp) (C : Addr) (cl : List (Str × Addr)) (fp : List Addr), attributeBase (.Name x px) "pop" (compEnvC scope cl C X.env) (eval (.Name x px) (compEnvC scope cl C X.env)) = eval (.Name x px) (compEnvC scope cl C X.env) := by intros; rfl)
    (hfew : ∀ (s : Shared) (H : Hp) (C : Addr) (cl : List (Str × Addr)) (fp : List Addr), ((backTo cpos (starEach [e] (compEnvC scope cl C X.env))).all (fun x => !x.1) && (backToKw cpos (keywordEach [] (compEnvC scope cl C X.env))).all (fun x => x.1.isSome)
      && decide ([e].length + ([] : List Keyword).length + (if ([] : List Keyword).isEmpty then 0 else 1) < 30)) = true := by intros; rfl)
    (hline : (apos.endLine == cpos.line) = true := by rfl) (hst : ∀ (s : Shared) (H : Hp) (C : Addr) (cl : List (Str × Addr)) (fp : List Addr), starEach [e] (compEnvC scope cl C X.env) = (false, eval e (compEnvC scope cl C X.env)) :: starEach [] (compEnvC scope cl C X.env) := by intros; rfl) (hK : X.K = K := by rfl) :
    SD K xc X M W (.Assign [.Name y py] (.ListComp (.Call (.Attribute (.Name x px) "pop" apos) [e] [] cpos) [⟨tg, iter, [], 0⟩] scope pos1) pos) (tAsg (tLc wi (gName j) tYes (tPop K iL te) (own.map (·.2))) (gName i)) (gSetPop i j iL (own.map (·.2)) h fe) := by
  subst hK
  refine ⟨ps_setLc hc hN hy hyl hsw hi.pi ok (fun s H C cl fp => (hg s H C cl fp).pg) (fun s H C cl fp => pts_nil)
    (fun s H C cl fp => pe_bm PySem.F.plainAttrs_list PySem.F.slot_list_pop PySem.F.type_list_pop mt_popAt (hx s H C cl fp) (pa_cons (he s H C cl fp).pe pa_nil (hst s H C cl fp)) (hbase s H C cl fp) (hfew s H C cl fp) hline (hst s H C cl fp) rfl) hs, fun {Hs0 H0 Hs H σ ρ r D} R hf o => ?_⟩
  obtain ⟨ds, h1, hf⟩ := bind_some hf
  obtain ⟨hl, hf⟩ := ite_get hf
  obtain ⟨ys, h2, hf⟩ := bind_some hf
  obtain rfl := Option.some.inj hf
  refine lcPop hi _ (he X.s_0 (fun _ => none) 0 [] []) hML hMj hj hvs R h1 hl h2 fun Da acc Hs' H' e1 R' hD hn h0 hD' t ne => ?_
  obtain ⟨Hs2, e2, R2, d2⟩ := R'.show hn h0 hD' t fun i d p h m hs => by
    by_cases hiL : iL = i
    · subst hiL
      by_cases hi : iL < ρ.length
      · rw [List.getElem?_set_self hi] at h; cases h
      · rw [List.getElem?_eq_none (by simpa using hi)] at h; cases h
    · rw [List.getElem?_set_ne hiL] at h
      exact ne i d p h m hs
  exact o Hs2 H' _ (e1.trans e2) (R2.set hM d2)
/-- return tuple([x.pop(e) for k in ..]) -/
@[simp] noncomputable def gRetPop (j iL : Nat) (vs : List Nat) (h : Rho → Option (List PyData)) (fe : Fn) : Gn := fun ρ => (h ρ).bind fun ds => if ds.length ≤ 1000000 then (popF j iL fe ds (wipeR ρ vs)).bind fun ys => some (.ret (.tuple ys)) else none
theorem sd_retPop {tg iter : Expr} {scope : Scope} {pos1 px cpos tp p2 : Pos} {wi : TI} {h : Rho → Option (List PyData)} (iL : Nat) {j : Nat} {x : Str}
    (own : List (Str × Nat)) (hN : X.N.Nodup) (hi : ID K X M (Dd K) tg iter wi h) (ok : BlkOk X.N X.env.scope scope own)
    (hg : ∀ (s : Shared) (H : Hp) (C : Addr) (cl : List (Str × Addr)) (fp : List Addr), GD K (X.blk s H scope (compEnvC scope cl C X.env) fp) M (Dd K) [j] tg (gName j) (hName j))
    (hx : ∀ (s : Shared) (H : Hp) (C : Addr) (cl : List (Str × Addr)) (fp : List Addr), PE (X.blk s H scope (compEnvC scope cl C X.env) fp) (.Name x px) (tVar iL))
    (he : ∀ (s : Shared) (H : Hp) (C : Addr) (cl : List (Str × Addr)) (fp : List Addr), ED K (X.blk s H scope (compEnvC scope cl C X.env) fp) M e te fe)
    (hm : X.mg "tuple" = none) (hgl : Gl X "tuple" := by rfl)
    (hML : M.contains iL = true := by rfl) (hMj : M.contains j = false := by rfl) (hj : j ∈ own.map (·.2) := by decide) (hvs : (own.map (·.2)).all (fun i => !M.contains i) = true := by rfl)
    (hc : X.calm = true := by rfl) (hs : ∀ x, foldedSetIterable iter X.env x = pure x := by intro _; rfl)
    (hbase : ∀ (s : Shared) (H : Hp) (C : Addr) (cl : List (Str × Addr)) (fp : List Addr), attributeBase (.Name x px) "pop" (compEnvC scope cl C X.env) (eval (.Name x px) (compEnvC scope cl C X.env)) = eval (.Name x px) (compEnvC scope cl C X.env) := by intros; rfl)
    (hfew : ∀ (s : Shared) (H : Hp) (C : Addr) (cl : List (Str × Addr)) (fp : List Addr), ((backTo cpos (starEach [e] (compEnvC scope cl C X.env))).all (fun x => !x.1) && (backToKw cpos (keywordEach [] (compEnvC scope cl C X.env))).all (fun x => x.1.isSome)
      && decide ([e].length + ([] : List Keyword).length + (if ([] : List Keyword).isEmpty then 0 else 1) < 30)) = true := by intros; rfl)
    (hline : (apos.endLine == cpos.line) = true := by rfl) (hst : ∀ (s : Shared) (H : Hp) (C : Addr) (cl : List (Str × Addr)) (fp : List Addr), starEach [e] (compEnvC scope cl C X.env) = (false, eval e (compEnvC scope cl C X.env)) :: starEach [] (compEnvC scope cl C X.env) := by intros; rfl) (hK : X.K = K := by rfl)
    (hes : starEach [.ListComp (.Call (.Attribute (.Name x px) "pop" apos) [e] [] cpos) [⟨tg, iter, [], 0⟩] scope pos1] X.env = (false, eval (.ListComp (.Call (.Attribute (.Name x px) "pop" apos) [e] [] cpos) [⟨tg, iter, [], 0⟩] scope pos1) X.env) :: starEach [] X.env := by rfl) :
    SD K xc X M W (.Return (some (.Call (.Name "tuple" tp) [.ListComp (.Call (.Attribute (.Name x px) "pop" apos) [e] [] cpos) [⟨tg, iter, [], 0⟩] scope pos1] [] p2)) pos)
      (tRet (tCB (fun xs H Q => ∃ p ys, xs = [.ref p] ∧ ((SqL K H p ys ∧ NewT Q H ys) ∨ (SqT K H p ys ∧ Q (.ref p) H))) (tCons (tLc wi (gName j) tYes (tPop K iL te) (own.map (·.2))) tNil))) (gRetPop j iL (own.map (·.2)) h fe) := by
  subst hK
  refine ⟨ps_ret (pe_callTy call_tupN hgl hm boot_tuple (pa_cons (pe_lc hc hN hi.pi ok (fun s H C cl fp => (hg s H C cl fp).pg) (fun s H C cl fp => pts_nil)
    (fun s H C cl fp => pe_bm PySem.F.plainAttrs_list PySem.F.slot_list_pop PySem.F.type_list_pop mt_popAt (hx s H C cl fp) (pa_cons (he s H C cl fp).pe pa_nil (hst s H C cl fp)) (hbase s H C cl fp) (hfew s H C cl fp) hline (hst s H C cl fp) rfl) hs) pa_nil hes) (by decide) (by decide) hes rfl), fun {Hs0 H0 Hs H σ ρ r D} R hf o => ?_⟩
  obtain ⟨ds, h1, hf⟩ := bind_some hf
  obtain ⟨hl, hf⟩ := ite_get hf
  obtain ⟨ys, h2, hf⟩ := bind_some hf
  obtain rfl := Option.some.inj hf
  show tLc wi (gName j) tYes (tPop X.K iL te) (own.map (·.2)) σ H (fun x H1 => ∃ p ys, [x] = [V.ref p] ∧ ((SqL X.K H1 p ys ∧ NewT D.rt H1 ys) ∨ (SqT X.K H1 p ys ∧ D.rt (.ref p) H1)))
  refine lcPop hi _ (he X.s_0 (fun _ => none) 0 [] []) hML hMj hj hvs R h1 hl h2 fun Da acc Hs' H' e1 R' hD hn h0 hD' t ne => ?_
  exact ⟨Da, acc, rfl, .inl ⟨sqL_of hD', NewT.of (Hs := Hs0) (H := H0) R'.g t fun v Hs3 H3 g3 d3 => o v Hs3 H3 g3 d3⟩⟩
end
end DL

namespace DL
open PySem PySem.Spec PyProof.Rows L2
/-! ### the law's end -/
def spLaw (K : PySem.W.Frag) : Sp := fun vs H Q _ => ∃ (a : Addr) (ns : List Int), vs = [.ref a] ∧ SqL K H a (ns.map V.int) ∧ ns.length ≤ 63 ∧ ∀ H', Q (.bl true) H'
theorem spLaw_of {K : PySem.W.Frag} {xc : Nat → Addr} {φ : List PyData → Option (Except Nat PyData)} (h : ∀ ns : List Int, ns.length ≤ 63 → φ [.dict (scrK ns)] = some (.ok (.bool true))) : ∀ vs H Q E, spLaw K vs H Q E → spX K 1 xc φ vs H Q E := fun vs H Q E hs => by
  obtain ⟨a, ns, rfl, hS, hl, q⟩ := hs
  refine ⟨rfl, H, _, _, Same.refl _, .cons (.scr hS) .nil, h ns hl, fun v Hs' H' g d => ?_⟩
  cases d
  exact q H'
theorem no_cx {P : Program} {w : World} {H : Hp} {s : Shared} {e : Value} {s' : Shared} (h : L2.CX P w [] H s (fun _ _ _ => False) e s') : False := by
  obtain ⟨_, _, _, _, _, _, _, _, _, _, _, _, z⟩ := h
  exact z

/-! ### what the combinators reckon -/
def mapD (to : Int) (row : List Int) : PyData := .tuple [.int to, .tuple (row.map .int)]
theorem compF_map {tg : PyData → Rho → Option Rho} {c : Rho → Option Bool} {f : Fn} {ρ : Rho} {g : PyData → PyData} : ∀ {ds : List PyData}, (∀ d ∈ ds, ∃ ρ1, tg d ρ = some ρ1 ∧ c ρ1 = some true ∧ f ρ1 = some (g d)) → compF tg c f ρ ds = some (ds.map g)
  | [], _ => rfl
  | d :: ds, h => by
    obtain ⟨ρ1, h1, h2, h3⟩ := h d List.mem_cons_self
    unfold compF
    rw [h1, Option.bind_some, h2, Option.bind_some, if_pos rfl, h3, Option.bind_some, compF_map (fun x hx => h x (List.mem_cons_of_mem _ hx)), Option.bind_some]
    rfl
theorem compF_filter {tg : PyData → Rho → Option Rho} {c : Rho → Option Bool} {f : Fn} {ρ : Rho} {g : PyData → PyData} {p : PyData → Bool} : ∀ {ds : List PyData}, (∀ d ∈ ds, ∃ ρ1, tg d ρ = some ρ1 ∧ c ρ1 = some (p d) ∧ (p d = true → f ρ1 = some (g d))) → compF tg c f ρ ds = some ((ds.filter p).map g)
  | [], _ => rfl
  | d :: ds, h => by
    obtain ⟨ρ1, h1, h2, h3⟩ := h d List.mem_cons_self
    have ih := compF_filter (f := f) (c := c) (tg := tg) (ρ := ρ) (g := g) (p := p) (fun x hx => h x (List.mem_cons_of_mem _ hx))
    unfold compF
    rw [h1, Option.bind_some, h2, Option.bind_some]
    cases hp : p d with
    | true =>
      rw [if_pos rfl, h3 hp, Option.bind_some, ih, Option.bind_some, List.filter_cons_of_pos hp]
      rfl
    | false =>
      rw [if_neg Bool.false_ne_true, ih, List.filter_cons_of_neg (by rw [hp]; exact Bool.false_ne_true)]
/-- a loop whose turns all go on -/
theorem forF_nx {tg : PyData → Rho → Option Rho} {b : Gn} (P : Rho → Prop) : ∀ {ds : List PyData} {ρ : Rho}, (∀ d ∈ ds, ∀ ρ, P ρ → ∃ ρ1 ρ', tg d ρ = some ρ1 ∧ b ρ1 = some (.nx ρ') ∧ P ρ') → P ρ → ∃ ρ', forF tg b ds ρ = some (.nx ρ') ∧ P ρ'
  | [], ρ, _, h => ⟨ρ, rfl, h⟩
  | d :: ds, ρ, h, hp => by
    obtain ⟨ρ1, ρ2, h1, h2, h3⟩ := h d List.mem_cons_self ρ hp
    obtain ⟨ρ', h4, h5⟩ := forF_nx P (fun x hx => h x (List.mem_cons_of_mem _ hx)) h3
    refine ⟨ρ', ?_, h5⟩
    unfold forF
    rw [h1, Option.bind_some, h2, Option.bind_some]
    exact h4
theorem scr_get (ns : List Int) (k : Nat) : (scrK ns)[k]? = (ns[k]?).map fun n => (PyData.int n, PyData.none) := by
  unfold scrK
  rw [List.getElem?_map]
theorem blk_nx {g1 g2 : Gn} {ρ ρ' : Rho} (h : g1 ρ = some (.nx ρ')) : gBlk g1 g2 ρ = g2 ρ' := by
  unfold gBlk
  rw [h]
  rfl
theorem blk_ret {g1 g2 : Gn} {ρ : Rho} {d : PyData} (h : g1 ρ = some (.ret d)) : gBlk g1 g2 ρ = some (.ret d) := by
  unfold gBlk
  rw [h]
  rfl
theorem blk_exc {g1 g2 : Gn} {ρ ρ' : Rho} {c : Nat} (h : g1 ρ = some (.exc c ρ')) : gBlk g1 g2 ρ = some (.exc c ρ') := by
  unfold gBlk
  rw [h]
  rfl
theorem if_t {c : Rho → Option Bool} {g1 g2 : Gn} {ρ : Rho} (h : c ρ = some true) : gIf c g1 g2 ρ = g1 ρ := by
  unfold gIf
  rw [h]
  rfl
theorem if_f {c : Rho → Option Bool} {g1 g2 : Gn} {ρ : Rho} (h : c ρ = some false) : gIf c g1 g2 ρ = g2 ρ := by
  unfold gIf
  rw [h]
  rfl
theorem rgD_zero (n : Nat) : rgD 0 n = (List.range n).map fun (i : Nat) => PyData.int i := by
  unfold rgD
  refine List.map_congr_left fun i _ => ?_
  rw [Int.zero_add]
theorem rgD_mem {lo : Int} {n : Nat} {d : PyData} (h : d ∈ rgD lo n) : ∃ i : Nat, i < n ∧ d = .int (lo + i) := by
  unfold rgD at h
  obtain ⟨i, h1, h2⟩ := List.mem_map.mp h
  exact ⟨i, List.mem_range.mp h1, h2.symm⟩
theorem compF_list {tg : PyData → Rho → Option Rho} {f : Fn} {ρ : Rho} {α : Type} {w : α → PyData} {g : α → PyData} : ∀ {l : List α}, (∀ a ∈ l, ∃ ρ1, tg (w a) ρ = some ρ1 ∧ f ρ1 = some (g a)) → compF tg cYes f ρ (l.map w) = some (l.map g)
  | [], _ => rfl
  | a :: l, h => by
    obtain ⟨ρ1, h1, h2⟩ := h a List.mem_cons_self
    rw [List.map_cons, List.map_cons]
    unfold compF
    rw [h1, Option.bind_some]
    unfold cYes
    rw [Option.bind_some, if_pos rfl, h2, Option.bind_some]
    have ih := compF_list (tg := tg) (f := f) (ρ := ρ) (w := w) (g := g) (fun x hx => h x (List.mem_cons_of_mem _ hx))
    unfold cYes at ih
    rw [ih, Option.bind_some]
theorem compF_listF {tg : PyData → Rho → Option Rho} {c : Rho → Option Bool} {f : Fn} {ρ : Rho} {α : Type} {w : α → PyData} {g : α → PyData} {p : α → Bool} : ∀ {l : List α}, (∀ a ∈ l, ∃ ρ1, tg (w a) ρ = some ρ1 ∧ c ρ1 = some (p a) ∧ (p a = true → f ρ1 = some (g a))) → compF tg c f ρ (l.map w) = some ((l.filter p).map g)
  | [], _ => rfl
  | a :: l, h => by
    obtain ⟨ρ1, h1, h2, h3⟩ := h a List.mem_cons_self
    have ih := compF_listF (tg := tg) (c := c) (f := f) (ρ := ρ) (w := w) (g := g) (p := p) (fun x hx => h x (List.mem_cons_of_mem _ hx))
    rw [List.map_cons]
    unfold compF
    rw [h1, Option.bind_some, h2, Option.bind_some]
    cases hp : p a with
    | true => rw [if_pos rfl, h3 hp, Option.bind_some, ih, Option.bind_some, List.filter_cons_of_pos hp]; rfl
    | false => rw [if_neg Bool.false_ne_true, ih, List.filter_cons_of_neg (by rw [hp]; exact Bool.false_ne_true)]
/-- [.. for x in range(n)] -/
theorem lc_rg {vs : List Nat} {j : Nat} {fn f : Fn} {ρ : Rho} {n : Int} {g : Nat → PyData} (h1 : fn ρ = some (.int n)) (hn : -1000000 ≤ n ∧ n ≤ 1000000) (h : ∀ i : Nat, (i : Int) < n → f ((wipeR ρ vs).set j (some (.int i))) = some (g i)) :
    fLc vs (iR1 fn) (hName j) cYes f ρ = some ((List.range n.toNat).map g) := by
  have hb : B62 n := ⟨by omega, by omega⟩
  unfold fLc iR1
  rw [h1, Option.bind_some]
  show (if B62 n then some (rgD 0 n.toNat) else none).bind _ = _
  rw [if_pos hb, Option.bind_some, if_pos (by rw [rgD_len]; omega), rgD_zero]
  refine compF_list fun i hi => ⟨_, rfl, h i ?_⟩
  have := List.mem_range.mp hi
  omega
theorem lc_rgF {vs : List Nat} {j : Nat} {fn f : Fn} {c : Rho → Option Bool} {ρ : Rho} {n : Int} {g : Nat → PyData} {p : Nat → Bool} (h1 : fn ρ = some (.int n)) (hn : -1000000 ≤ n ∧ n ≤ 1000000) (h : ∀ i : Nat, (i : Int) < n → c ((wipeR ρ vs).set j (some (.int i))) = some (p i) ∧ (p i = true → f ((wipeR ρ vs).set j (some (.int i))) = some (g i))) :
    fLc vs (iR1 fn) (hName j) c f ρ = some (((List.range n.toNat).filter p).map g) := by
  have hb : B62 n := ⟨by omega, by omega⟩
  unfold fLc iR1
  rw [h1, Option.bind_some]
  show (if B62 n then some (rgD 0 n.toNat) else none).bind _ = _
  rw [if_pos hb, Option.bind_some, if_pos (by rw [rgD_len]; omega), rgD_zero]
  refine compF_listF fun i hi => ⟨_, rfl, h i ?_⟩
  have := List.mem_range.mp hi
  omega
/-- [.. for x in a tuple or list of things] -/
theorem lc_sq {vs : List Nat} {j : Nat} {fs f : Fn} {ρ : Rho} {α : Type} {w : α → PyData} {l : List α} {g : α → PyData} {d : PyData} (h1 : fs ρ = some d) (hd : seqD d = some (l.map w)) (hl : l.length ≤ 1000000) (h : ∀ a ∈ l, f ((wipeR ρ vs).set j (some (w a))) = some (g a)) :
    fLc vs (iSq fs) (hName j) cYes f ρ = some (l.map g) := by
  unfold fLc iSq
  rw [h1, Option.bind_some, hd, Option.bind_some, if_pos (by rw [List.length_map]; exact hl)]
  exact compF_list fun a ha => ⟨_, rfl, h a ha⟩
theorem lc_sqF {vs : List Nat} {j : Nat} {fs f : Fn} {c : Rho → Option Bool} {ρ : Rho} {α : Type} {w : α → PyData} {l : List α} {g : α → PyData} {p : α → Bool} {d : PyData} (h1 : fs ρ = some d) (hd : seqD d = some (l.map w)) (hl : l.length ≤ 1000000) (h : ∀ a ∈ l, c ((wipeR ρ vs).set j (some (w a))) = some (p a) ∧ (p a = true → f ((wipeR ρ vs).set j (some (w a))) = some (g a))) :
    fLc vs (iSq fs) (hName j) c f ρ = some ((l.filter p).map g) := by
  unfold fLc iSq
  rw [h1, Option.bind_some, hd, Option.bind_some, if_pos (by rw [List.length_map]; exact hl)]
  exact compF_listF fun a ha => ⟨_, rfl, h a ha⟩
theorem erase_map {α β : Type} (f : α → β) : ∀ (L : List α) (k : Nat), (L.map f).eraseIdx k = (L.eraseIdx k).map f
  | [], _ => rfl
  | _ :: _, 0 => rfl
  | a :: L, k + 1 => by
    show f a :: (L.map f).eraseIdx k = f a :: (L.eraseIdx k).map f
    rw [erase_map f L k]
/-- what popping leaves and gives -/
theorem popF_ok {j iL : Nat} {fe : Fn} (hne : j ≠ iL) : ∀ {ds : List PyData} {ρ : Rho} {L : List Int}, ρ[iL]? = some (some (.list (L.map PyData.int))) → ds.length ≤ L.length → L.length ≤ 1000000 →
    (∀ (i : Nat) d, ds[i]? = some d → ∀ L' : List Int, L'.length = L.length - i → ∃ k : Int, fe ((ρ.set iL (some (.list (L'.map PyData.int)))).set j (some d)) = some (.int k) ∧ 0 ≤ k ∧ k < L'.length) →
    ∃ ys rest : List Int, popF j iL fe ds ρ = some (ys.map PyData.int) ∧ ys.length = ds.length ∧ (ys ++ rest).Perm L
  | [], ρ, L, _, _, _, _ => ⟨[], L, rfl, rfl, List.Perm.refl _⟩
  | d :: ds, ρ, L, hL, hlen, hz, h => by
    have hi : iL < ρ.length := (List.getElem?_eq_some_iff.mp hL).1
    have e0 : ρ.set iL (some (.list (L.map PyData.int))) = ρ := by
      refine List.ext_getElem? fun i => ?_
      by_cases hii : iL = i
      · subst hii
        rw [List.getElem?_set_self hi, hL]
      · rw [List.getElem?_set_ne hii]
    obtain ⟨k, hk, k0, k1⟩ := h 0 d rfl L (by omega)
    rw [e0] at hk
    have hB : B63 k := ⟨by omega, by omega⟩
    have hget : lstAt iL (ρ.set j (some d)) = some (L.map PyData.int) := by
      unfold lstAt
      rw [List.getElem?_set_ne hne, hL]
    have hix : seqIndex? k (L.map PyData.int).length = some k.toNat := PySem.StrLaws.seqIndex_nonneg k0 (by rw [List.length_map]; exact k1)
    have hkl : k.toNat < L.length := by omega
    have hat : (L.map PyData.int)[k.toNat]? = some (.int L[k.toNat]) := by
      rw [List.getElem?_map, List.getElem?_eq_getElem hkl]
      rfl
    have hlen' : ds.length + 1 ≤ L.length := hlen
    have el : (L.eraseIdx k.toNat).length = L.length - 1 := List.length_eraseIdx_of_lt hkl
    obtain ⟨ys, rest, h1, h2, h3⟩ := popF_ok hne (ds := ds) (ρ := ρ.set iL (some (.list ((L.eraseIdx k.toNat).map PyData.int)))) (L := L.eraseIdx k.toNat) (List.getElem?_set_self hi) (by omega) (by omega) (fun i d' hd' L' hL' => by
      rw [List.set_set]
      exact h (i + 1) d' hd' L' (by omega))
    refine ⟨L[k.toNat] :: ys, rest, ?_, by rw [List.length_cons, List.length_cons, h2], ?_⟩
    · unfold popF
      rw [hget, Option.bind_some, hk, Option.bind_some]
      show (if B63 k then (seqIndex? k (L.map PyData.int).length).bind _ else none) = _
      rw [if_pos hB, hix, Option.bind_some, hat, Option.bind_some]
      have em : (L.map PyData.int).eraseIdx k.toNat = (L.eraseIdx k.toNat).map PyData.int := by
        rw [erase_map]
      rw [em, h1, Option.bind_some]
      rfl
    · rw [List.cons_append]
      refine (List.Perm.cons _ h3).trans ?_
      have : (L[k.toNat] :: L.eraseIdx k.toNat).Perm L := by
        have e1 : L = L.take k.toNat ++ L[k.toNat] :: L.drop (k.toNat + 1) := by
          rw [← List.drop_eq_getElem_cons hkl, List.take_append_drop]
        have e2 : L.eraseIdx k.toNat = L.take k.toNat ++ L.drop (k.toNat + 1) := List.eraseIdx_eq_take_drop_succ L k.toNat
        rw [e2]
        refine List.Perm.trans ?_ (List.Perm.of_eq e1.symm)
        exact List.perm_middle.symm
      exact this
theorem def_ret {n N : Nat} {g : Gn} {ds : List PyData} {d : PyData} (hl : ds.length = n) (h : g (ds.map some ++ List.replicate (N - ds.length) none) = some (.ret d)) : defN n N g ds = some (.ok d) := by
  unfold defN runDef
  rw [if_pos hl, h]
theorem def_nx {n N : Nat} {g : Gn} {ds : List PyData} {ρ : Rho} (hl : ds.length = n) (h : g (ds.map some ++ List.replicate (N - ds.length) none) = some (.nx ρ)) : defN n N g ds = some (.ok .none) := by
  unfold defN runDef
  rw [if_pos hl, h]
theorem def_exc {n N : Nat} {g : Gn} {ds : List PyData} {ρ : Rho} {c : Nat} (hl : ds.length = n) (h : g (ds.map some ++ List.replicate (N - ds.length) none) = some (.exc c ρ)) : defN n N g ds = some (.error c) := by
  unfold defN runDef
  rw [if_pos hl, h]
theorem bi1 {g : List PyData → Option PyData} {f : Fn} {ρ : Rho} {d : PyData} (h : f ρ = some d) : fBi g (fCons f fNil) ρ = g [d] := by
  unfold fBi fCons fNil
  rw [h]
  rfl
theorem fFr_of {fl : Rho → Option (List PyData)} {ρ : Rho} {l : List PyData} (h : fl ρ = some l) : fFr fl ρ = some (.list l) := by
  unfold fFr
  rw [h]
  rfl
end DL

namespace DL
open PySem PySem.Spec PyProof.Rows L2
section
variable {K : PySem.W.Frag} {X : Cx} {M : List Nat} {xc : Nat → Addr} {W W' : WX} {Hs0 H0 Hs H Hs1 : Hp} {D : Ends}
/-! ### try, one clause without a name -/
theorem outOk_w {r : Out} (hne : ∀ c ρ, r ≠ .exc c ρ) (o : OutOk K xc M Hs0 H0 Hs W D r) : OutOk K xc M Hs0 H0 Hs W' D r := by
  cases r with
  | exc c ρ => exact absurd rfl (hne c ρ)
  | nx ρ => exact o
  | ret d => exact o
  | brk ρ => exact o
  | ct ρ => exact o
@[simp] def noExc : Out → Option Out
  | .exc _ _ => none
  | r => some r
theorem noExc_some {r r' : Out} (h : noExc r = some r') : r' = r ∧ ∀ c ρ, r ≠ .exc c ρ := by
  cases r with
  | exc c ρ => cases h
  | _ => cases h; exact ⟨rfl, fun _ _ z => by cases z⟩
@[simp] def gTry (c : Nat) (gb gs : Gn) : Gn := fun ρ => (gb ρ).bind fun r => match r with
  | .exc c' ρ' => if c' = c then (gs ρ').bind noExc else none
  | r => some r
variable {body suite : List Stmt} {b₀ : Stmt} {np pos pos' : Pos} {x : Str} {C : Value} {tb : WX → TS} {ts : TS} {gb gs : Gn}
theorem sd_tryOnly (c : Nat) (hc : Names X x C) (tk : Takes X W) (hxm : PySem.W.exmOne X.K (.ref (xc c)) C = some true)
    (hb : ∀ (W : WX) (pn : List (Addr × Obj)) (xe : Value → Shared → Prop), Takes (X.tr pn xe) W → SS K xc (X.tr pn xe) M W body (tb W) gb)
    (hsu : ∀ (a : Addr) (oe : Obj) (pn : List (Addr × Obj)), SS K xc (X.suite a ((a, oe) :: pn)) M (fun _ _ _ _ => False) (b₀ :: suite) ts gs)
    (hs : X.stack = X.env :: X.outer := by rfl) (hf : X.env.frame = some X.env.locals := by rfl) :
    SD K xc X M W (.Try body [.ExceptHandler (some (.Name x np)) none (b₀ :: suite) pos'] [] [] pos) (fun D σ H => tb (wOnly X.K C (fun _ _ _ => ts) W D) D σ H) (gTry c gb gs) :=
  ⟨ps_try_only (ts := fun _ _ _ => ts) hs hf hc tk (fun W pn xe t _ => (hb W pn xe t).ps) (fun a oe cls d pn _ _ => (hsu a oe pn).ps), fun {Hs0 H0 Hs H σ ρ r D} R hf' o => by
    obtain ⟨r1, h1, h2⟩ := bind_some hf'
    refine (hb (wOnly X.K C (fun _ _ _ => ts) W D) [] (fun _ _ => True) (fun _ _ _ => trivial)).sm R h1 ?_
    cases r1 with
    | exc c' ρ' =>
      obtain ⟨hcc, h5⟩ := ite_get h2
      subst hcc
      obtain ⟨r2, h3, h4⟩ := bind_some h5
      obtain ⟨rfl, hne⟩ := noExc_some h4
      exact fun Hs' H' σ' e' R' => ⟨true, hxm, fun _ a _ => (hsu 0 ⟨.none, none, .fields #[], #[]⟩ []).sm R' h3 (outOk_w hne (o.up e')), fun z => by cases z⟩
    | nx ρ => obtain rfl := Option.some.inj h2; exact o
    | ret d => obtain rfl := Option.some.inj h2; exact o
    | brk ρ => obtain rfl := Option.some.inj h2; exact o
    | ct ρ => obtain rfl := Option.some.inj h2; exact o⟩

/-! ### try, one clause with a name: the suite asks isinstance of it -/
structure SX (K : PySem.W.Frag) (xc : Nat → Addr) (X : Cx) (M : List Nat) (i c : Nat) (st : List Stmt) (t : Addr → Value → Option Addr → TS) (g : Gn) : Prop where
  ps : ∀ (a : Addr) (oe : Obj) (cls : Value) (d : Option Addr) (pn : List (Addr × Obj)), Zc cls d oe → (∃ vs, oe.data = .fields vs) → PSs (X.suite a ((a, oe) :: pn)) st (t a cls d)
  sm : ∀ {Hs0 H0 Hs H : Hp} {σ : L2.St} {ρ : Rho} {r : Out} {D : Ends} (a : Addr), SR K M Hs0 H0 Hs H σ ρ → ρ[i]? = some none → σ[i]? = some (some (.ref a)) → g ρ = some r → OutOk K xc M Hs0 H0 Hs (fun _ _ _ _ => False) D r → t a (.ref (xc c)) none D σ H
@[simp] def isN : Option (Option PyData) → Bool
  | some none => true
  | _ => false
theorem isN_some {o : Option (Option PyData)} (h : isN o = true) : o = some none := by
  cases o with
  | none => cases h
  | some a =>
    cases a with
    | none => rfl
    | some b => cases h
@[simp] def keepN (i : Nat) : Out → Option Out
  | .nx ρ => if isN ρ[i]? = true then some (.nx ρ) else none
  | _ => none
@[simp] def gTryAs (c i : Nat) (gb gs : Gn) : Gn := fun ρ => (gb ρ).bind fun r => match r with
  | .exc c' ρ' => if c' = c then (if isN ρ'[i]? = true then (gs ρ').bind (keepN i) else none) else none
  | r => some r
theorem SR.none {σ : L2.St} {ρ : Rho} {i : Nat} (R : SR K M Hs0 H0 Hs H σ ρ) (h : ρ[i]? = some none) (y : Option V) : SR K M Hs0 H0 Hs H (σ.set i y) ρ := by
  have ne : ∀ {j : Nat} {d : PyData}, ρ[j]? = some (some d) → i ≠ j := fun {j d} e z => by subst z; rw [h] at e; cases e
  refine ⟨R.g, by rw [List.length_set]; exact R.len, fun j d e m => ?_, fun j d e m => ?_, fun j k dj dk p e1 e2 m1 m2 s1 s2 => ?_⟩
  · obtain ⟨v, a, b⟩ := R.frz j d e m
    exact ⟨v, by rw [List.getElem?_set_ne (ne e)]; exact a, b⟩
  · obtain ⟨p, xs, ds, a, b, c⟩ := R.own j d e m
    exact ⟨p, xs, ds, a, by rw [List.getElem?_set_ne (ne e)]; exact b, c⟩
  · rw [List.getElem?_set_ne (ne e1)] at s1
    rw [List.getElem?_set_ne (ne e2)] at s2
    exact R.sep j k dj dk p e1 e2 m1 m2 s1 s2
theorem sd_tryAs (c i : Nat) {n : Str} {tx : Addr → Value → Option Addr → TS} (hN : X.N.Nodup) (hc : Names X x C) (tk : Takes X W) (hxm : PySem.W.exmOne X.K (.ref (xc c)) C = some true)
    (hb : ∀ (W : WX) (pn : List (Addr × Obj)) (xe : Value → Shared → Prop), Takes (X.tr pn xe) W → SS K xc (X.tr pn xe) M W body (tb W) gb)
    (hsu : SX K xc X M i c (b₀ :: suite) tx gs)
    (hi : X.N[i]? = some n := by rfl) (hln : X.env.kindOf n = some .local := by rfl) (hs : X.stack = X.env :: X.outer := by rfl) (hf : X.env.frame = some X.env.locals := by rfl) :
    SD K xc X M W (.Try body [.ExceptHandler (some (.Name x np)) (some n) (b₀ :: suite) pos'] [] [] pos) (fun D σ H => tb (wAs X.K C i tx W D) D σ H) (gTryAs c i gb gs) :=
  ⟨ps_try_as (ts := tx) hs hf hN hi hln hc tk (fun W pn xe t _ => (hb W pn xe t).ps) hsu.ps, fun {Hs0 H0 Hs H σ ρ r D} R hf' o => by
    obtain ⟨r1, h1, h2⟩ := bind_some hf'
    refine (hb (wAs X.K C i tx W D) [] (fun _ _ => True) (fun _ _ _ => trivial)).sm R h1 ?_
    cases r1 with
    | exc c' ρ' =>
      obtain ⟨hcc, h5⟩ := ite_get h2
      subst hcc
      obtain ⟨hn, h6⟩ := ite_get h5
      replace hn := isN_some hn
      obtain ⟨r2, h3, h4⟩ := bind_some h6
      refine fun Hs' H' σ' e' R' => ⟨true, hxm, fun _ a _ => ?_, fun z => by cases z⟩
      have hlt : i < σ'.length := by rw [R'.len]; exact (List.getElem?_eq_some_iff.mp hn).1
      refine hsu.sm a (R'.none hn (some (.ref a))) hn (List.getElem?_set_self hlt) h3 ?_
      cases r2 with
      | nx ρ2 =>
        obtain ⟨hn2, h7⟩ := ite_get h4
        replace hn2 := isN_some hn2
        obtain rfl := Option.some.inj h7
        exact fun Hs2 H2 σ2 e2 R2 => o Hs2 H2 _ (e'.trans e2) (R2.none hn2 none)
      | _ => cases h4
    | nx ρ => obtain rfl := Option.some.inj h2; exact o
    | ret d => obtain rfl := Option.some.inj h2; exact o
    | brk ρ => obtain rfl := Option.some.inj h2; exact o
    | ct ρ => obtain rfl := Option.some.inj h2; exact o⟩
/-- isinstance of the caught one, one class or a tuple of such -/
def rE1 (K : PySem.W.Frag) (cls : Value) (d : Option Addr) (a : Addr) : List V → Hp → VK → Prop := fun xs H Q => ∃ E, cls = .ref E ∧ d = none ∧ ExcC K E ∧ rIsE K E a xs H Q
def rE2 (K : PySem.W.Frag) (cls : Value) (d : Option Addr) (a : Addr) : List V → Hp → VK → Prop := fun xs H Q => ∃ (E tp : Addr) (cs : List V) (us : List Value) (b : Bool), cls = .ref E ∧ d = none ∧ ExcC K E ∧ xs = [.ref a, .ref tp] ∧ H tp = some (.tup cs) ∧ Paired ClsV cs us ∧ PySem.W.kitAny K (.ref E) us = some b ∧ Q (.bl b) H
theorem inst_of {a E : Addr} {oe : Obj} {h : Heap} (hz : Zc (.ref E) none oe) (hf : ∃ vs, oe.data = .fields vs) (hget : h.get? a = some oe) : PySem.W.InstAt h a oe E none := by
  obtain ⟨vs, hv⟩ := hf
  obtain ⟨oc, od, oda, osl⟩ := oe
  obtain ⟨h1, h2⟩ := hz
  dsimp only at h1 h2 hv
  subst h1 h2 hv
  exact ⟨hget, rfl, rfl, trivial⟩
theorem call_e1 {a : Addr} {oe : Obj} {cls : Value} {d : Option Addr} {pn : List (Addr × Obj)} (hz : Zc cls d oe) (hf : ∃ vs, oe.data = .fields vs) : CallR (X.suite a ((a, oe) :: pn)) (.builtin "isinstance") (rE1 X.K cls d a) := by
  intro pins s σ H xs us Q I r h
  obtain ⟨E, rfl, rfl, hE, h⟩ := h
  exact call_isE hE hz hf pins s σ H xs us Q I r h
theorem call_e2 {a : Addr} {oe : Obj} {cls : Value} {d : Option Addr} {pn : List (Addr × Obj)} (hz : Zc cls d oe) (hf : ∃ vs, oe.data = .fields vs) : CallR (X.suite a ((a, oe) :: pn)) (.builtin "isinstance") (rE2 X.K cls d a) := by
  intro pins s σ H xs us Q I r h
  obtain ⟨E, tp, cs, ws, b, rfl, rfl, hE, rfl, hT, k, e, q⟩ := h
  obtain ⟨u1, u2, rfl, r1, r2⟩ := vals2 r
  cases (show u2 = Value.ref tp from r2)
  cases (show u1 = Value.ref a from r1)
  obtain ⟨_, its, rv, o, h1, h2, n, h3⟩ := (show ObjOk X.prog X.w H s.heap tp (.tup cs) from I.hok tp _ hT)
  have e3 := ClsV.all k rv
  subst e3
  obtain ⟨oc, od, dt, sl⟩ := o
  simp only at h2 h3
  subst h2 h3
  obtain ⟨hget, _⟩ := I.pin (a, oe) (List.mem_append.mpr (.inl List.mem_cons_self))
  exact PySem.W.kia_tup (PySem.W.handS_kitx_exc hE.hg hE.hk hE.hs hE.hd hE.ha hE.hn hE.ht hE.hm) I.kIn (inst_of hz hf hget) h1 e (fun z => nomatch z) fun tk => ⟨.bl b, H, I.tok tk, rfl, q⟩
def t1E (K : PySem.W.Frag) (cls : Value) (d : Option Addr) (a : Addr) (i : Nat) (v : V) : TE := tCB (rE1 K cls d a) (tCons (tVar i) (tCons (tC v) tNil))
def t2E (K : PySem.W.Frag) (cls : Value) (d : Option Addr) (a : Addr) (i : Nat) (v1 v2 : V) : TE := tCB (rE2 K cls d a) (tCons (tVar i) (tCons (tTup (tCons (tC v1) (tCons (tC v2) tNil))) tNil))
/-- what the class raised, cr, must say to the three questions: cA, c1, c2 -/
structure AskOk (K : PySem.W.Frag) (xc : Nat → Addr) (cr cA c1 c2 : Nat) : Prop where
  ex : ExcC K (xc cr)
  yA : PySem.W.kitOne K (.ref (xc cr)) (.ref (xc cA)) = some true
  no : PySem.W.kitAny K (.ref (xc cr)) [.ref (xc c1), .ref (xc c2)] = some false
  yZ : PySem.W.kitOne K (.ref (xc cr)) (.type "ValueError") = some true
theorem t1E_sm {cr i : Nat} {a : Addr} {v : V} {u : Value} {b : Bool} {σ : L2.St} {Q : VK} (hE : ExcC K (xc cr)) (hσ : σ[i]? = some (some (.ref a))) (hv : ∀ w, RelV v w → w = u) (hk : PySem.W.kitOne K (.ref (xc cr)) u = some b) (q : Q (.bl b) H) : t1E K (.ref (xc cr)) none a i v σ H Q :=
  ⟨_, hσ, xc cr, rfl, rfl, hE, v, u, b, rfl, fun w r => (hv w r), hk, q⟩
theorem t2E_sm {cr i c1 c2 : Nat} {a : Addr} {b : Bool} {σ : L2.St} {Q : VK} (hE : ExcC K (xc cr)) (hσ : σ[i]? = some (some (.ref a))) (hk : PySem.W.kitAny K (.ref (xc cr)) [.ref (xc c1), .ref (xc c2)] = some b) (q : ∀ H', Same H H' → Q (.bl b) H') : t2E K (.ref (xc cr)) none a i (.ref (xc c1)) (.ref (xc c2)) σ H Q :=
  ⟨_, hσ, szM (n := 2) (by decide), fun p hp => ⟨xc cr, p, _, _, b, rfl, rfl, hE, rfl, upd_same, .cons (.own _) (.cons (.own _) .nil), hk, q _ (same_new hp)⟩⟩
theorem askV_sm {cr cA c1 c2 i : Nat} {a : Addr} {σ : L2.St} {Q : VK} (A : AskOk K xc cr cA c1 c2) (hσ : σ[i]? = some (some (.ref a))) (q : ∀ H', Same H H' → Q (.bl true) H') :
    tAndV (t1E K (.ref (xc cr)) none a i (.ref (xc cA))) (tAndV (tNotV (t2E K (.ref (xc cr)) none a i (.ref (xc c1)) (.ref (xc c2)))) (t1E K (.ref (xc cr)) none a i (.ty "ValueError"))) σ H Q :=
  t1E_sm A.ex hσ (u := .ref (xc cA)) (fun w r => r) A.yA ⟨true, rfl, by
    rw [if_pos rfl]
    exact t2E_sm A.ex hσ A.no fun H1 e1 => ⟨false, rfl, true, rfl, by
      rw [if_pos rfl]
      exact t1E_sm A.ex hσ (u := .type "ValueError") (fun w r => r) A.yZ (q H1 e1)⟩⟩
theorem pe_e1 {cls : Value} {d : Option Addr} {a : Addr} {oe : Obj} {pn : List (Addr × Obj)} {i cA : Nat} {n A : Str} {p1 p2 p3 : Pos} (hz : Zc cls d oe) (hf : ∃ vs, oe.data = .fields vs) (hm : X.mg "isinstance" = none) (hA : X.mg A = some (.ref (xc cA)))
    (hN : X.N[i]? = some n := by rfl) (hv : Vis X.env.scope n := by first | exact Or.inl rfl | exact Or.inr (Or.inl rfl) | exact Or.inr (Or.inr rfl)) (hg : Gl X "isinstance" := by rfl) (hgA : Gl X A := by rfl)
    (hd : (n == ("__debug__" : Str)) = false := by decide) (hcd : (n == ("__classdict__" : Str)) = false := by decide) (hdA : (A == ("__debug__" : Str)) = false := by decide)
    (hs1 : starEach [.Name n p2, .Name A p3] X.env = (false, eval (.Name n p2) X.env) :: starEach [.Name A p3] X.env := by rfl) (hs2 : starEach [.Name A p3] X.env = (false, eval (.Name A p3) X.env) :: starEach [] X.env := by rfl) (hpl : (backTo pos (starEach [.Name A p3] X.env)).any (·.1) = false := by rfl) :
    PE (X.suite a ((a, oe) :: pn)) (.Call (.Name "isinstance" p1) [.Name n p2, .Name A p3] [] pos) (t1E X.K cls d a i (.ref (xc cA))) :=
  pe_callB (X := X.suite a ((a, oe) :: pn)) (call_e1 hz hf) hg hm boot_isinstance (pa_cons (pe_var hN hv hd hcd) (pa_cons (pe_glob hgA hA rfl hdA) pa_nil hs2) hs1) (by decide) (by decide) hs1 hpl
theorem pe_eZ {cls : Value} {d : Option Addr} {a : Addr} {oe : Obj} {pn : List (Addr × Obj)} {i : Nat} {n : Str} {p1 p2 p3 : Pos} (hz : Zc cls d oe) (hf : ∃ vs, oe.data = .fields vs) (hm : X.mg "isinstance" = none) (hZ : X.mg "ValueError" = none)
    (hN : X.N[i]? = some n := by rfl) (hv : Vis X.env.scope n := by first | exact Or.inl rfl | exact Or.inr (Or.inl rfl) | exact Or.inr (Or.inr rfl)) (hg : Gl X "isinstance" := by rfl) (hgA : Gl X "ValueError" := by rfl)
    (hd : (n == ("__debug__" : Str)) = false := by decide) (hcd : (n == ("__classdict__" : Str)) = false := by decide)
    (hs1 : starEach [.Name n p2, .Name "ValueError" p3] X.env = (false, eval (.Name n p2) X.env) :: starEach [.Name "ValueError" p3] X.env := by rfl) (hs2 : starEach [.Name "ValueError" p3] X.env = (false, eval (.Name "ValueError" p3) X.env) :: starEach [] X.env := by rfl) (hpl : (backTo pos (starEach [.Name "ValueError" p3] X.env)).any (·.1) = false := by rfl) :
    PE (X.suite a ((a, oe) :: pn)) (.Call (.Name "isinstance" p1) [.Name n p2, .Name "ValueError" p3] [] pos) (t1E X.K cls d a i (.ty "ValueError")) :=
  pe_callB (X := X.suite a ((a, oe) :: pn)) (call_e1 hz hf) hg hm boot_isinstance (pa_cons (pe_var hN hv hd hcd) (pa_cons (pe_bltn (u := .type "ValueError") hgA hZ rfl rfl (by decide) (by decide)) pa_nil hs2) hs1) (by decide) (by decide) hs1 hpl
theorem pe_e2 {cls : Value} {d : Option Addr} {a : Addr} {oe : Obj} {pn : List (Addr × Obj)} {i c1 c2 k : Nat} {n B1 B2 : Str} {p1 p2 p3 p4 p5 : Pos} (hz : Zc cls d oe) (hf : ∃ vs, oe.data = .fields vs) (hm : X.mg "isinstance" = none) (hA : X.mg B1 = some (.ref (xc c1))) (hB : X.mg B2 = some (.ref (xc c2)))
    (hN : X.N[i]? = some n := by rfl) (hv : Vis X.env.scope n := by first | exact Or.inl rfl | exact Or.inr (Or.inl rfl) | exact Or.inr (Or.inr rfl)) (hg : Gl X "isinstance" := by rfl) (hgA : Gl X B1 := by rfl) (hgB : Gl X B2 := by rfl)
    (hd : (n == ("__debug__" : Str)) = false := by decide) (hcd : (n == ("__classdict__" : Str)) = false := by decide) (hdA : (B1 == ("__debug__" : Str)) = false := by decide) (hdB : (B2 == ("__debug__" : Str)) = false := by decide)
    (hs1 : starEach [.Name n p2, .Tuple [.Name B1 p3, .Name B2 p4] k p5] X.env = (false, eval (.Name n p2) X.env) :: starEach [.Tuple [.Name B1 p3, .Name B2 p4] k p5] X.env := by rfl) (hs2 : starEach [.Tuple [.Name B1 p3, .Name B2 p4] k p5] X.env = (false, eval (.Tuple [.Name B1 p3, .Name B2 p4] k p5) X.env) :: starEach [] X.env := by rfl) (hpl : (backTo pos (starEach [.Tuple [.Name B1 p3, .Name B2 p4] k p5] X.env)).any (·.1) = false := by rfl)
    (hs3 : starEach [.Name B1 p3, .Name B2 p4] X.env = (false, eval (.Name B1 p3) X.env) :: starEach [.Name B2 p4] X.env := by rfl) (hs4 : starEach [.Name B2 p4] X.env = (false, eval (.Name B2 p4) X.env) :: starEach [] X.env := by rfl) :
    PE (X.suite a ((a, oe) :: pn)) (.Call (.Name "isinstance" p1) [.Name n p2, .Tuple [.Name B1 p3, .Name B2 p4] k p5] [] pos) (t2E X.K cls d a i (.ref (xc c1)) (.ref (xc c2))) :=
  pe_callB (X := X.suite a ((a, oe) :: pn)) (call_e2 hz hf) hg hm boot_isinstance (pa_cons (pe_var hN hv hd hcd) (pa_cons (pe_tup (pa_cons (pe_glob hgA hA rfl hdA) (pa_cons (pe_glob hgB hB rfl hdB) pa_nil hs4) hs3)) pa_nil hs2) hs1) (by decide) (by decide) hs1 hpl
/-- told = the three questions -/
abbrev tAsk (K : PySem.W.Frag) (xc : Nat → Addr) (i cA c1 c2 : Nat) (cls : Value) (d : Option Addr) (a : Addr) : TE := tAndV (t1E K cls d a i (.ref (xc cA))) (tAndV (tNotV (t2E K cls d a i (.ref (xc c1)) (.ref (xc c2)))) (t1E K cls d a i (.ty "ValueError")))
theorem sx_set {i cr cA c1 c2 : Nat} (j : Nat) {y : Str} {B : Expr} (A : AskOk K xc cr cA c1 c2) (hN : X.N.Nodup) (hB : ∀ (a : Addr) (oe : Obj) (cls : Value) (d : Option Addr) (pn : List (Addr × Obj)), Zc cls d oe → (∃ vs, oe.data = .fields vs) → PE (X.suite a ((a, oe) :: pn)) B (tAsk X.K xc i cA c1 c2 cls d a))
    (hj : X.N[j]? = some y := by rfl) (hx : Loc X.env.scope y := by first | exact Or.inl rfl | exact Or.inr rfl) (hM : M.contains j = false := by rfl) (hK : X.K = K := by rfl)
    (hs : swapsWith B (some (.Name y pos')) pos.line X.env = pure false := by rfl) (hf : X.fn y = true ∨ X.env.scope.names.lookup y = some .local := by first | exact .inl rfl | exact .inr rfl) :
    SX K xc X M i cr [.Assign [.Name y pos'] B pos] (fun a cls d => tAsg (tAsk K xc i cA c1 c2 cls d a) (gName j)) (gAsg (fC (.bool true)) (hName j)) := by
  subst hK
  refine ⟨fun a oe cls d pn hz hv => pss_one (ps_set (X := X.suite a ((a, oe) :: pn)) hN hj hx (hB a oe cls d pn hz hv) hs hf), fun {Hs0 H0 Hs H σ ρ r D} a R hn hσ hg o => ?_⟩
  cases hg
  refine askV_sm A hσ fun H1 e1 => ?_
  exact (gd_name (X := X) (pos := pos) j hN hj hx hM hf).sm (R.same e1) (.bl true) rfl fun σ' R' _ => o Hs H1 σ' (Same.refl _) R'
/-- if the three questions: y = None -/
theorem ask_t {i cr cA c1 c2 : Nat} {a : Addr} {σ : L2.St} {Q : Bool → Hp → Prop} (A : AskOk K xc cr cA c1 c2) (hσ : σ[i]? = some (some (.ref a))) (q : ∀ H', Same H H' → Q true H') :
    tAnd (fun σ H Q => t1E K (.ref (xc cr)) none a i (.ref (xc cA)) σ H fun x H' => ∃ k, TruV K x H' k ∧ Q k H') (tAnd (tNot (fun σ H Q => t2E K (.ref (xc cr)) none a i (.ref (xc c1)) (.ref (xc c2)) σ H fun x H' => ∃ k, TruV K x H' k ∧ Q k H')) (fun σ H Q => t1E K (.ref (xc cr)) none a i (.ty "ValueError") σ H fun x H' => ∃ k, TruV K x H' k ∧ Q k H')) σ H Q :=
  t1E_sm A.ex hσ (u := .ref (xc cA)) (fun w r => r) A.yA ⟨true, rfl, by
    show (if true = true then _ else _)
    rw [if_pos rfl]
    exact t2E_sm A.ex hσ A.no fun H1 e1 => ⟨false, rfl, by
      show (if true = true then _ else _)
      rw [if_pos rfl]
      exact t1E_sm A.ex hσ (u := .type "ValueError") (fun w r => r) A.yZ ⟨true, rfl, q H1 e1⟩⟩⟩
abbrev tAskT (K : PySem.W.Frag) (xc : Nat → Addr) (i cA c1 c2 : Nat) (cls : Value) (d : Option Addr) (a : Addr) : TT := tAnd (fun σ H Q => t1E K cls d a i (.ref (xc cA)) σ H fun x H' => ∃ k, TruV K x H' k ∧ Q k H') (tAnd (tNot (fun σ H Q => t2E K cls d a i (.ref (xc c1)) (.ref (xc c2)) σ H fun x H' => ∃ k, TruV K x H' k ∧ Q k H')) (fun σ H Q => t1E K cls d a i (.ty "ValueError") σ H fun x H' => ∃ k, TruV K x H' k ∧ Q k H'))
theorem sx_if {i cr cA c1 c2 : Nat} {B : Expr} {ss : List Stmt} {t2 : TS} {gs : Gn} (A : AskOk K xc cr cA c1 c2) (hB : ∀ (a : Addr) (oe : Obj) (cls : Value) (d : Option Addr) (pn : List (Addr × Obj)), Zc cls d oe → (∃ vs, oe.data = .fields vs) → PT (X.suite a ((a, oe) :: pn)) B (tAskT X.K xc i cA c1 c2 cls d a))
    (hsu : ∀ (a : Addr) (oe : Obj) (pn : List (Addr × Obj)), SS K xc (X.suite a ((a, oe) :: pn)) M (fun _ _ _ _ => False) ss t2 gs) (hK : X.K = K := by rfl) :
    SX K xc X M i cr [.If B ss [] pos] (fun a cls d => tIfS (tAskT K xc i cA c1 c2 cls d a) t2 tNext) gs := by
  subst hK
  refine ⟨fun a oe cls d pn hz hv => pss_one (ps_if (X := X.suite a ((a, oe) :: pn)) (hB a oe cls d pn hz hv) (hsu a oe pn).ps pss_nil), fun {Hs0 H0 Hs H σ ρ r D} a R hn hσ hg o => ?_⟩
  refine ask_t A hσ fun H1 e1 => ?_
  rw [if_pos rfl]
  exact (hsu 0 ⟨.none, none, .fields #[], #[]⟩ []).sm (R.same e1) hg o
end
theorem ref_ne {a b : Addr} (h : a ≠ b) : (Value.ref a == Value.ref b) = false := beq_eq_false_iff_ne.mpr fun z => h (Value.ref.inj z)
theorem kit_cls_own {K : PySem.W.Frag} {C : Addr} {t : Value} {b : Bool} (hd : PySem.W.hasDictIn K C = true) (ht : PySem.W.typeIn K (.ref C) = some (.type "type")) (hs : PySem.W.subIn K t (.ref C) = some b) (hne : (t == .ref C) = false) : PySem.W.kitOne K t (.ref C) = some b := by
  obtain ⟨cd, hc, _⟩ := PySem.W.any_some hd
  have e : ((PySem.W.clsIn K C).isSome && PySem.W.typeIn K (.ref C) == some (.type "type")) = true := by rw [hc, ht] <;> rfl
  unfold PySem.W.kitOne
  rw [if_neg (by rw [hne]; exact Bool.false_ne_true)]
  show (if ((PySem.W.clsIn K C).isSome && PySem.W.typeIn K (.ref C) == some (.type "type")) = true then PySem.W.subIn K t (.ref C) else none) = some b
  rw [if_pos e]
  exact hs
theorem kit_cls_ty {K : PySem.W.Frag} {E : Addr} {T : String} {b : Bool} (hm : PySem.W.kitMeta T = true) (hs : PySem.W.subIn K (.ref E) (.type T) = some b) : PySem.W.kitOne K (.ref E) (.type T) = some b := by
  unfold PySem.W.kitOne
  have hne : (Value.ref E == Value.type T) = false := beq_eq_false_iff_ne.mpr fun z => nomatch z
  rw [if_neg (by rw [hne]; exact Bool.false_ne_true)]
  show (if PySem.W.kitMeta T = true then PySem.W.subIn K (.ref E) (.type T) else none) = some b
  rw [if_pos hm]
  exact hs
theorem kit_two_no {K : PySem.W.Frag} {t a b : Value} (h1 : PySem.W.kitOne K t a = some false) (h2 : PySem.W.kitOne K t b = some false) : PySem.W.kitAny K t [a, b] = some false := by
  unfold PySem.W.kitAny
  rw [h1]
  show PySem.W.kitAny K t [b] = some false
  unfold PySem.W.kitAny
  rw [h2]
  rfl
end DL

namespace DL
open PySem PySem.Spec PyProof.Rows L2
/-! ### the members of a list of ints, each once, rising -/
def insS (k : Int) : List Int → List Int
  | [] => [k]
  | a :: r => if k < a then k :: a :: r else if k = a then a :: r else a :: insS k r
def sset (ns : List Int) : List Int := ns.foldr insS []
theorem insS_mem {k x : Int} : ∀ {l : List Int}, x ∈ insS k l ↔ x = k ∨ x ∈ l
  | [] => by simp [insS]
  | a :: r => by
    unfold insS
    by_cases h1 : k < a
    · rw [if_pos h1]; simp
    · rw [if_neg h1]
      by_cases h2 : k = a
      · rw [if_pos h2]; subst h2; simp
      · rw [if_neg h2, List.mem_cons, List.mem_cons, insS_mem (l := r)]
        constructor
        · rintro (h | h | h)
          · exact .inr (.inl h)
          · exact .inl h
          · exact .inr (.inr h)
        · rintro (h | h | h)
          · exact .inr (.inl h)
          · exact .inl h
          · exact .inr (.inr h)
theorem insS_lt {k : Int} : ∀ {l : List Int}, l.Pairwise (· < ·) → (insS k l).Pairwise (· < ·)
  | [], _ => by simp [insS]
  | a :: r, h => by
    obtain ⟨h1, h2⟩ := List.pairwise_cons.mp h
    unfold insS
    by_cases c1 : k < a
    · rw [if_pos c1]
      refine List.pairwise_cons.mpr ⟨fun x hx => ?_, h⟩
      rcases List.mem_cons.mp hx with rfl | hx
      · exact c1
      · exact Int.lt_trans c1 (h1 x hx)
    · rw [if_neg c1]
      by_cases c2 : k = a
      · rw [if_pos c2]; exact h
      · rw [if_neg c2]
        refine List.pairwise_cons.mpr ⟨fun x hx => ?_, insS_lt h2⟩
        rcases insS_mem.mp hx with rfl | hx
        · omega
        · exact h1 x hx
theorem sset_mem {x : Int} : ∀ {ns : List Int}, x ∈ sset ns ↔ x ∈ ns
  | [] => by simp [sset]
  | a :: r => by
    show x ∈ insS a (sset r) ↔ _
    rw [insS_mem, sset_mem (ns := r), List.mem_cons]
theorem sset_lt : ∀ (ns : List Int), (sset ns).Pairwise (· < ·)
  | [] => List.Pairwise.nil
  | a :: r => insS_lt (sset_lt r)
theorem rise_eq : ∀ {l m : List Int}, l.Pairwise (· < ·) → m.Pairwise (· < ·) → (∀ x, x ∈ l ↔ x ∈ m) → l = m
  | [], [], _, _, _ => rfl
  | [], b :: m, _, _, h => by have := (h b).mpr List.mem_cons_self; cases this
  | a :: l, [], _, _, h => by have := (h a).mp List.mem_cons_self; cases this
  | a :: l, b :: m, h1, h2, h => by
    obtain ⟨a1, a2⟩ := List.pairwise_cons.mp h1
    obtain ⟨b1, b2⟩ := List.pairwise_cons.mp h2
    have e : a = b := by
      rcases List.mem_cons.mp ((h a).mp List.mem_cons_self) with e | e
      · exact e
      · rcases List.mem_cons.mp ((h b).mpr List.mem_cons_self) with e2 | e2
        · exact e2.symm
        · have := b1 a e; have := a1 b e2; omega
    subst e
    have := rise_eq a2 b2 (fun x => ⟨fun hx => by
      rcases List.mem_cons.mp ((h x).mp (List.mem_cons_of_mem _ hx)) with e | e
      · have := a1 x hx; omega
      · exact e, fun hx => by
      rcases List.mem_cons.mp ((h x).mpr (List.mem_cons_of_mem _ hx)) with e | e
      · have := b1 x hx; omega
      · exact e⟩)
    rw [this]
theorem rise_nodup {l : List Int} (h : l.Pairwise (· < ·)) : l.Nodup := h.imp fun h => by omega
theorem nodup_len : ∀ {l m : List Int}, l.Nodup → m.Nodup → (∀ x, x ∈ l → x ∈ m) → l.length ≤ m.length
  | [], _, _, _, _ => Nat.zero_le _
  | a :: l, m, h1, h2, h => by
    obtain ⟨a1, a2⟩ := List.nodup_cons.mp h1
    have hm := h a List.mem_cons_self
    have := nodup_len (m := m.erase a) a2 (h2.erase a) fun x hx => (List.mem_erase_of_ne (fun e => a1 (by rw [← e]; exact hx))).mpr (h x (List.mem_cons_of_mem _ hx))
    rw [List.length_erase_of_mem hm] at this
    have : 0 < m.length := List.length_pos_of_mem hm
    rw [List.length_cons]
    omega
theorem sset_len {l ns : List Int} (h1 : l.Nodup) (h2 : ∀ x, x ∈ l ↔ x ∈ ns) : l.length = (sset ns).length :=
  Nat.le_antisymm (nodup_len h1 (rise_nodup (sset_lt ns)) fun x hx => sset_mem.mpr ((h2 x).mp hx)) (nodup_len (rise_nodup (sset_lt ns)) h1 fun x hx => (h2 x).mpr (sset_mem.mp hx))
/-! ### set(a tuple of ints), its number, its members in order -/
section
variable {K : PySem.W.Frag} {X : Cx} {M : List Nat} {a : Expr} {ta : TE} {f : Fn} {pos p p2 q : Pos}
def rSetI (K : PySem.W.Frag) (w : World) : List V → Hp → VK → Prop := fun xs H Q => ∃ (p : Addr) (ns : List Int), xs = [.ref p] ∧ SqT K H p (ns.map V.int) ∧ ns.length ≤ 1000 ∧ ∀ a, H a = none → Q (.ref a) (upd H a (SetO w a (fun j => decide (j ∈ ns)) (sset ns).length))
theorem cr_setI (hc : X.calm = true) : CallR X (.type "set") (rSetI X.K X.w) := by
  intro pins s σ H xs us Q I r h
  obtain ⟨p0, ns, rfl, hq, hl, q⟩ := h
  obtain ⟨u, rfl, rx⟩ := vals1 r
  cases rx
  obtain ⟨its, rv, pt, hz⟩ := I.tuple hq
  have hi : IntsAre its.toArray.toList ns := ints_of_vals rv
  refine call_set_tupI ns (I.ok.hd hc) (show s.heap.IsTuple p0 its.toArray from pt) hi (by unfold scanBound; omega) fun h' tk c R1 hcn k => ?_
  have hlt := R1.lt
  have en : c = (sset ns).length := by
    obtain ⟨o, es, ep, t, ho, hex, hdt, g, nd, hm2, hb, hf, hn, hr, hl2⟩ := id R1
    have := sset_len (ns := ns) nd fun x => by rw [← hm2 x, decide_eq_true_eq]
    rw [List.length_map, Array.length_toList] at this
    exact hn.symm.trans this
  subst en
  have hn : H s.heap.objs.size = none := I.hok.fresh (Nat.le_refl _)
  exact ⟨.ref _, upd H s.heap.objs.size (SetO X.w s.heap.objs.size _ _), I.laid (t' := tk) k (Nat.le_refl _) (setO_new R1), rfl, q _ hn⟩
def rLenS (w : World) : List V → Hp → VK → Prop := fun xs H Q => ∃ (a : Addr) (S : Int → Bool) (n : Nat), xs = [.ref a] ∧ H a = some (SetO w a S n) ∧ Q (.int n) H
theorem cr_lenS : CallR X (.builtin "len") (rLenS X.w) := by
  intro pins s σ H xs us Q I r h
  obtain ⟨a, S, n, rfl, ha, q⟩ := h
  obtain ⟨u, rfl, rx⟩ := vals1 r
  cases rx
  obtain ⟨o, es, ep, t, ho, hex, hdt, g, nd, hm2, hb, hf, hn, hr, hl2⟩ := setO_get I ha
  refine call_len_set ho hex hdt hf (by unfold scanBound at hb; omega) ⟨.int n, H, I.tok _, ⟨_, by rw [hn]⟩, q⟩
def gLenSet : PyData → Option PyData
  | .tuple ds => (intsD ds).bind fun ns => if ns.length ≤ 1000 then some (.int (sset ns).length) else none
  | _ => none
theorem ed_lenSet (ha : ED K X M a ta f) (hm : X.mg "len" = none) (hm2 : X.mg "set" = none) (hg : Gl X "len" := by rfl) (hg2 : Gl X "set" := by rfl) (hc : X.calm = true := by rfl) (hK : X.K = K := by rfl)
    (na : starEach [a] X.env = (false, eval a X.env) :: starEach [] X.env := by rfl) (nb : starEach [.Call (.Name "set" p2) [a] [] q] X.env = (false, eval (.Call (.Name "set" p2) [a] [] q) X.env) :: starEach [] X.env := by rfl)
    (pa : (backTo q (starEach [] X.env)).any (·.1) = false := by rfl) (pb : (backTo pos (starEach [] X.env)).any (·.1) = false := by rfl) :
    ED K X M (.Call (.Name "len" p) [.Call (.Name "set" p2) [a] [] q] [] pos) (tCB (rLenS X.w) (tCons (tCB (rSetI K X.w) (tCons ta tNil)) tNil)) (f1 gLenSet f) := by
  subst hK
  refine ⟨pe_callB cr_lenS hg hm boot_len (pa_cons (pe_callTy (cr_setI hc) hg2 hm2 boot_set (pa_cons ha.pe pa_nil na) (by decide) (by decide) na pa) pa_nil nb) (by decide) (by decide) nb pb, fun {Hs0 H0 Hs H σ ρ d Q} R hf qq => ?_⟩
  obtain ⟨dx, h1, h2⟩ := bind_some hf
  refine ha.sm R h1 fun v Hs1 H1 g1 d1 => ?_
  cases d1 with
  | @tup l ob xs ds hn hp t =>
    obtain ⟨ns, h3, h4⟩ := bind_some h2
    obtain ⟨hl, rfl⟩ := ite_some h4
    have e := ints_dv t h3
    subst e
    exact ⟨l, ns, rfl, sqT_of (g1.sub _ _ hp), hl, fun p0 hp0 => ⟨p0, _, _, rfl, upd_same, qq _ Hs1 _ (g1.trans (Grow.alloc0 g1.sub hp0)) (.int _)⟩⟩
  | _ => cases h2
def gSortSet : PyData → Option (List PyData)
  | .tuple ds => (intsD ds).bind fun ns => if ns.length < 64 then some ((sset ns).map .int) else none
  | _ => none
theorem insS_le {k : Int} : ∀ l : List Int, (insS k l).length ≤ l.length + 1
  | [] => Nat.le_refl _
  | a :: r => by
    unfold insS
    split
    · exact Nat.le_refl _
    · split
      · exact Nat.le_succ _
      · have := insS_le (k := k) r
        rw [List.length_cons, List.length_cons]
        omega
theorem sset_le : ∀ ns : List Int, (sset ns).length ≤ ns.length
  | [] => Nat.le_refl _
  | a :: r => by
    have := sset_le r
    have := insS_le (k := a) (sset r)
    show (insS a (sset r)).length ≤ _
    rw [List.length_cons]
    omega
theorem fd_sortSet (ha : ED K X M a ta f) (hm : X.mg "sorted" = none) (hm2 : X.mg "set" = none) (hg : Gl X "sorted" := by rfl) (hg2 : Gl X "set" := by rfl) (hc : X.calm = true := by rfl) (hK : X.K = K := by rfl)
    (na : starEach [a] X.env = (false, eval a X.env) :: starEach [] X.env := by rfl) (nb : starEach [.Call (.Name "set" p2) [a] [] q] X.env = (false, eval (.Call (.Name "set" p2) [a] [] q) X.env) :: starEach [] X.env := by rfl)
    (pa : (backTo q (starEach [] X.env)).any (·.1) = false := by rfl) (pb : (backTo pos (starEach [] X.env)).any (·.1) = false := by rfl) :
    FD K X M (.Call (.Name "sorted" p) [.Call (.Name "set" p2) [a] [] q] [] pos) (tCB (rSortedSet X.w) (tCons (tCB (rSetI K X.w) (tCons ta tNil)) tNil)) (fun ρ => (f ρ).bind gSortSet) := by
  subst hK
  refine ⟨pe_callB (cr_sortedSet hc) hg hm boot_sorted (pa_cons (pe_callTy (cr_setI hc) hg2 hm2 boot_set (pa_cons ha.pe pa_nil na) (by decide) (by decide) na pa) pa_nil nb) (by decide) (by decide) nb pb, fun {Hs0 H0 Hs H σ ρ d Q} R hf qq => ?_⟩
  obtain ⟨dx, h1, h2⟩ := bind_some hf
  refine ha.sm R h1 fun v Hs1 H1 g1 d1 => ?_
  cases d1 with
  | @tup l ob xs ds hn hp t =>
    obtain ⟨ns, h3, h4⟩ := bind_some h2
    obtain ⟨hl, rfl⟩ := ite_some h4
    have e := ints_dv t h3
    subst e
    have hle := sset_le ns
    refine ⟨l, ns, rfl, sqT_of (g1.sub _ _ hp), by omega, fun p0 hp0 => ⟨p0, _, _, rfl, upd_same, by omega, fun ns' p1 hs hmm hlen hp1 => ?_⟩⟩
    have e : ns' = sset ns := rise_eq hs (sset_lt ns) fun x => by rw [hmm, decide_eq_true_eq, sset_mem]
    subst e
    have g2 : Grow Hs1 H1 Hs1 (upd H1 p0 (SetO X.w p0 (fun j => decide (j ∈ ns)) (sset ns).length)) := Grow.alloc0 g1.sub hp0
    have g3 := Grow.alloc0 (o := .lst ((sset ns).map V.int)) g2.sub hp1
    have g := (g1.trans g2).trans g3
    exact qq p1 _ Hs1 _ g (g1.ex.free (g2.ex.free hp1)) (g2.sub.free hp1) upd_same (DdAll.ints _)
  | _ => cases h2
end
end DL

namespace DL
open PySem PySem.Spec PyProof.Rows L2
/-! ### enumerate(a tuple): made, and its turns -/
theorem enumT_new {v : Value} {o : Obj} {Hv : Heap → Prop} (B : Begins v o Hv) :
    Meets (Builtin.«enumerate.__new__» ⟨[.type "enumerate", v], []⟩) (fun _ R s => Hv s.heap ∧
      R (.ok (.ret (.ref (s.heap.push o).objs.size))) { s with heap := (s.heap.push o).push { cls := .type "enumerate", data := .fields #[.none, .bool false, .ref s.heap.objs.size, rawInt 0, .none, .none] } }) :=
  .of_wp fun prog w A R s h => by
    obtain ⟨hp, g, d, tk, os⟩ := s
    obtain ⟨hv, hr⟩ := h
    have sub := sub_enumerate
    have it : ∀ {A' : Around} {E Q : Value → Shared → Prop}, Q (.ref hp.objs.size) ⟨hp.push o, g, d, tk, os⟩ → wpAny (model prog w) A' (pyIter v) Q E ⟨hp, g, d, tk, os⟩ := fun q => B.iter prog w _ _ ⟨hp, g, d, tk, os⟩ _ hv q
    wp_walk using it
    refine wpAny_stack_any fun st => wpAny_pure ?_
    split
    · rename_i c _ _ _ _ _
      cases (c == Value.type "enumerate") <;> (wp_walk using it; exact ⟨_, rfl, hr⟩)
    · wp_walk using it
      exact ⟨_, rfl, hr⟩
theorem enumT_call {prog : Program} {w : World} {A : Around} {E : Value → Shared → Prop} {s : Shared} {v : Value} {o : Obj} {Hv : Heap → Prop} {Q : Value → Shared → Prop} (B : Begins v o Hv) (hv : Hv s.heap)
    (q : ∀ h', IsEnum h' (s.heap.objs.size + 1) s.heap.objs.size 0 .none → h'.get? s.heap.objs.size = some o → (∀ b u, s.heap.get? b = some u → h'.get? b = some u) → Q (.ref (s.heap.objs.size + 1)) { s with heap := h' }) :
    wpAny (model prog w) A (call (.type "enumerate") [v]) Q E s := by
  refine callType_new F.called_enumerate (by decide) (F.typeCall_enumerate_1 _) (F.newCall_enumerate_1 _) (fun obj => F.args_object_init_2 obj _) F.entry_enumerate_new (enumT_new B) ⟨hv, ?_⟩
  have z : (s.heap.push o).objs.size = s.heap.objs.size + 1 := Heap.size_push ..
  rw [z]
  have ie : IsEnum ((s.heap.push o).push { cls := .type "enumerate", data := .fields #[.none, .bool false, .ref s.heap.objs.size, rawInt 0, .none, .none] }) (s.heap.objs.size + 1) s.heap.objs.size 0 .none := by
    have y := Heap.get?_push_size (s.heap.push o) (o := { cls := .type "enumerate", data := .fields #[.none, .bool false, .ref s.heap.objs.size, rawInt 0, .none, .none] }) rfl
    rw [z] at y
    exact y
  exact ⟨⟨_, ie, rfl⟩, q _ ie (Heap.get?_push_of_some _ (Heap.get?_push_size _ B.free)) fun b u e => Heap.get?_push_of_some _ (Heap.get?_push_of_some _ e)⟩
/-- the tuple at a, each item in a new pair with its place -/
def IteT (K : PySem.W.Frag) (a : Addr) : It :=
  ⟨fun i H => ∃ xs x, SqT K H a xs ∧ xs[i]? = some x, fun i H v H' => ∃ T x, v = .ref T ∧ H T = none ∧ H' = upd H T (.tup [.int (i : Nat), x]) ∧ ∀ xs, SqT K H a xs → xs[i]? = some x, fun i H => ∃ xs, SqT K H a xs ∧ xs.length ≤ i⟩
theorem turn_enumT {P : Program} {w : World} {K : PySem.W.Frag} {elts : List Expr} {kk : Nat} {tpos : Pos} (a e it : Addr) (hei : e ≠ it) (hea : e ≠ a) (hai : a ≠ it) :
    Turn P w K (.Tuple elts kk tpos) (IteT K a) [e, it] e (fun i h => (∃ old, IsEnum h e it ((i : Nat) : Int) old) ∧ h.IsTupleIter it a i) where
  mem := List.mem_cons_self
  obj := fun i h st b hb => by
    obtain ⟨⟨old, he⟩, o, ho, hc, hd⟩ := st
    rcases List.mem_cons.mp hb with rfl | hb
    · exact ⟨_, he, fun v z => nomatch z⟩
    · rw [List.mem_singleton.mp hb]; exact ⟨o, ho, fun v z => by rw [hd] at z; cases z⟩
  keep := fun i h h' st k => by
    obtain ⟨⟨old, he⟩, hi⟩ := st
    exact ⟨⟨old, k e (by simp) _ he⟩, hi.at fun o q => k it (by simp) o q⟩
  item := by
    intro X hP hw hK hc i pins s σ H E I hf st hg
    subst hP hw hK
    obtain ⟨⟨old, he⟩, hit⟩ := st
    obtain ⟨xs, x, hq, hx⟩ := hg
    obtain ⟨its, rv, p, hz⟩ := I.tuple hq
    obtain ⟨u, hu, ru⟩ := rv.get hx
    have hlt : i < its.toArray.size := by
      have := (List.getElem?_eq_some_iff.mp hu).1
      simpa using this
    have eL : e < s.heap.objs.size := Heap.lt_size he
    have iL : it < s.heap.objs.size := by obtain ⟨_, q, _⟩ := hit; exact Heap.lt_size q
    have DT := Draws.tuple (prog := X.prog) (w := X.w) (A := X.A.in1) (by rw [show X.A.in1.handled = X.A.handled from rfl]; exact I.ok.hd hc) it a hai its.toArray
    refine wpAny_pyNext_enum_itemD DT he (show s.heap.IsTupleIter it a i ∧ s.heap.IsTuple a its.toArray from ⟨hit, p⟩) hlt hei (by simp [hei, hea]) fun y h' tk hy ho st' hT hsz hk => ?_
    have ey : y = u := by
      have hu' : its.toArray[i]? = some u := by simpa using hu
      rw [hy] at hu'
      exact Option.some.inj hu'
    subst ey
    refine ⟨_, rfl, wpAny_letOwnedTupleGo_enum (s := { s with heap := h', toks := tk + 1 }) ho fun h2 he2 sb => ?_⟩
    have hT2 : h2.get? s.heap.objs.size = some { cls := .type "tuple", data := .seq #[.int i tk, y] } := (sb.2 _ (Nat.ne_of_gt eL)).trans hT
    have nw : ObjOk X.prog X.w (upd H s.heap.objs.size (.tup [.int (i : Nat), x])) h2 s.heap.objs.size (.tup [.int (i : Nat), x]) :=
      ⟨by show 2 ≤ sizeLine; decide, [.int i tk, y], .cons ⟨_, rfl⟩ (.cons ru .nil), ⟨_, hT2, rfl, _, rfl⟩⟩
    have I1 : Inv X pins σ (upd H s.heap.objs.size (.tup [.int (i : Nat), x])) { s with heap := h2, toks := tk + 1 } :=
      I.turnedNew (ch := [e, it]) (fun b ob hb q => (sb.2 b (fun z => hb (by simp [z]))).trans (hk b ob (fun z => hb (by simp [z])) (fun z => hb (by simp [z])) q)) hf (Nat.le_refl _) nw
    refine ⟨.ref s.heap.objs.size, _, I1, rfl, ⟨_, x, rfl, I.hok.fresh (Nat.le_refl _), rfl, fun ys hy2 => by rw [I.tuple_inj hy2 hq]; exact hx⟩, ⟨⟨y, ?_⟩, st'.1.at fun o q => (sb.2 it (Ne.symm hei)).trans q⟩, fun b hb => ?_⟩
    · have e1 : ((i + 1 : Nat) : Int) = (i : Int) + 1 := by omega
      rw [e1]
      exact he2
    · have hb' : b < s.heap.objs.size := by
        rcases List.mem_cons.mp hb with rfl | hb
        · exact eL
        · rw [List.mem_singleton.mp hb]; exact iL
      rw [upd_ne (Nat.ne_of_lt hb')]
      exact (hf b hb).1
  done := by
    intro X hP hw hK hc i pins s σ H E I hf st hg
    subst hP hw hK
    obtain ⟨⟨old, he⟩, hit⟩ := st
    obtain ⟨xs, hq, hx⟩ := hg
    obtain ⟨its, rv, p, hz⟩ := I.tuple hq
    obtain ⟨f0, f1, f2, f3, f4, f5⟩ := hf it (by simp)
    have hl := rv.length
    have hout : its.toArray[i]? = none := by simp; omega
    have DE : Draws X.prog X.w X.A.in1 it [it, a] i (fun _ _ => True) (fun j h => j = i ∧ h.IsTupleIter it a i ∧ h.IsTuple a its.toArray) :=
      { live := fun j h st => by obtain ⟨_, ⟨o, ho, _⟩, _⟩ := st; exact ⟨o, ho⟩
        frame := fun j h h' st k => ⟨st.1, st.2.1.at fun o q => k it (by simp) o q, st.2.2.at fun o q => k a (by simp) o q⟩
        item := fun j s' Q' E' hj st _ => absurd st.1 (Nat.ne_of_lt hj)
        done := fun s' Q' E' st hE => wpAny_nextOf_tuple_end (by rw [show X.A.in1.handled = X.A.handled from rfl]; exact I.ok.hd hc) st.2.1 st.2.2 hout hE }
    exact wpAny_pyNext_enum_endD DE he ⟨rfl, hit, p⟩ fun h' eb => ⟨rfl, I.turned (t' := s.toks) (fun b o hb q => eb b o hb q) f0 f1 f3 f4 f5⟩
  self := fun A i s Q E st h => by
    obtain ⟨⟨_, he⟩, _⟩ := st
    exact wpAny_pyIter_enum he h
def iEnumT (K : PySem.W.Frag) (ta : TA) : TI := fun σ H R => ta σ H fun vs H1 => ∃ a, vs = [.ref a] ∧ ((∃ xs, SqL K H1 a xs) ∧ R (Ite K a) H1 ∨ (∃ xs, SqT K H1 a xs) ∧ R (IteT K a) H1)
theorem pi_enumT {X : Cx} {e : Expr} {ta : TA} {p pos tpos : Pos} {elts : List Expr} {kk : Nat} (hg : Gl X "enumerate") (hm : X.mg "enumerate" = none) (ha : PA X [e] ta) (hs : starEach [e] X.env = [(false, eval e X.env)] := by rfl) :
    PI X (.Tuple elts kk tpos) (.Call (.Name "enumerate" p) [e] [] pos) (iEnumT X.K ta) := by
  refine ⟨fun pins s σ H R I h => ?_⟩
  refine Call_ (ld_blt I hg hm PyProof.Rows.boot_enumerate (PyProof.Rows.callWith_type1 (thn (ha.run pos pins s σ H _ I h) fun us s1 ⟨vs, H1, I1, r1, q1⟩ => ?_) hs rfl))
  obtain ⟨a, ex, q1⟩ := q1
  subst ex
  obtain ⟨v0, ev0, rv0⟩ := vals1 r1
  cases rv0
  subst ev0
  have fresh : ∀ b, b ∈ [s1.heap.objs.size + 1, s1.heap.objs.size] → FpOk X pins H1 b := fun b hb => by
    have hle : s1.heap.objs.size ≤ b := by
      rcases List.mem_cons.mp hb with z | z
      · rw [z]; exact Nat.le_add_right _ _
      · rw [List.mem_singleton.mp z]; exact Nat.le_refl _
    exact I1.fpOk hle (I1.hok.fresh hle)
  rcases q1 with ⟨⟨xs, hq⟩, q⟩ | ⟨⟨xs, hq⟩, q⟩
  · obtain ⟨its, rv, p', hz⟩ := I1.list hq
    refine enumT_call (begins_list a its.toArray) p'.isList fun h' he hit hk => wpAny_pyIter_enum he ?_
    exact ⟨s1.heap.objs.size + 1, [s1.heap.objs.size + 1, s1.heap.objs.size], _, _, H1, rfl, I1.kept (t' := s1.toks) hk, turn_enum a (s1.heap.objs.size + 1) s1.heap.objs.size, ⟨⟨.none, he⟩, ⟨_, hit, rfl, rfl⟩, Nat.succ_ne_self _⟩, fresh, q⟩
  · obtain ⟨its, rv, p', hz⟩ := I1.tuple hq
    have hT : s1.heap.IsTuple a its.toArray := p'
    refine enumT_call (begins_tuple a its.toArray) hT fun h' he hit hk => wpAny_pyIter_enum he ?_
    have hal : a < s1.heap.objs.size := by obtain ⟨o, ho, _⟩ := hT; exact Heap.lt_size ho
    exact ⟨s1.heap.objs.size + 1, [s1.heap.objs.size + 1, s1.heap.objs.size], _, _, H1, rfl, I1.kept (t' := s1.toks) hk, turn_enumT a (s1.heap.objs.size + 1) s1.heap.objs.size (Nat.succ_ne_self _) (fun z => Nat.lt_irrefl _ (Nat.lt_trans (Nat.lt_succ_self s1.heap.objs.size) (show s1.heap.objs.size.succ < s1.heap.objs.size by rw [show s1.heap.objs.size.succ = a from z]; exact hal))) (Nat.ne_of_lt hal), ⟨⟨.none, he⟩, ⟨_, hit, rfl, rfl⟩⟩, fresh, q⟩
/-! ### their readings -/
def enD (ds : List PyData) : List PyData := ds.zipIdx.map fun p => .tuple [.int (p.2 : Nat), p.1]
theorem enD_len (ds : List PyData) : (enD ds).length = ds.length := by unfold enD; rw [List.length_map, List.length_zipIdx]
theorem enD_get {ds : List PyData} {i : Nat} {d : PyData} (h : ds[i]? = some d) : (enD ds)[i]? = some (.tuple [.int (i : Nat), d]) := by
  unfold enD
  rw [List.getElem?_map, List.getElem?_zipIdx, h]
  simp
theorem yields_enumT {K : PySem.W.Frag} {Hs : Hp} {p : Addr} {xs : List V} {ds : List PyData} (hq : ∀ H, Same Hs H → SqT K H p xs) (t : DdAll K Hs xs ds) : Yields K (Dy K) (IteT K p) Hs (enD ds) where
  go := fun i H e hi => by
    rw [enD_len] at hi
    obtain ⟨v, h1, _⟩ := t.get (i := i) (d := ds[i]) (List.getElem?_eq_getElem hi)
    exact ⟨xs, v, hq H e, h1⟩
  stop := fun i H e hi => ⟨xs, hq H e, by rw [enD_len] at hi; rw [t.length]; exact hi⟩
  yld := fun i H x H' Hs2 hi e1 e2 h => by
    obtain ⟨T, y, rfl, hT, rfl, h2⟩ := h
    obtain ⟨d, h3, h4⟩ := t.getv (h2 xs (hq _ (e1.trans e2)))
    exact ⟨upd Hs2 T (.tup [.int (i : Nat), y]), Grow.alloc e2 hT, _, enD_get h3, T, _, _, rfl, rfl, upd_same, .cons (.int _) (.cons ((h4.mono e1).mono (same_new (e2.free hT))) .nil)⟩
theorem yields_enumL {K : PySem.W.Frag} {Hs : Hp} {p : Addr} {xs : List V} {ds : List PyData} (hq : ∀ H, Same Hs H → SqL K H p xs) (t : DdAll K Hs xs ds) : Yields K (Dy K) (Ite K p) Hs (enD ds) where
  go := fun i H e hi => by
    rw [enD_len] at hi
    obtain ⟨v, h1, _⟩ := t.get (i := i) (d := ds[i]) (List.getElem?_eq_getElem hi)
    exact ⟨xs, v, hq H e, h1⟩
  stop := fun i H e hi => ⟨xs, hq H e, by rw [enD_len] at hi; rw [t.length]; exact hi⟩
  yld := fun i H x H' Hs2 hi e1 e2 h => by
    obtain ⟨T, y, rfl, hT, rfl, h2⟩ := h
    obtain ⟨d, h3, h4⟩ := t.getv (h2 xs (hq _ (e1.trans e2)))
    exact ⟨upd Hs2 T (.tup [.int (i : Nat), y]), Grow.alloc e2 hT, _, enD_get h3, T, _, _, rfl, rfl, upd_same, .cons (.int _) (.cons ((h4.mono e1).mono (same_new (e2.free hT))) .nil)⟩
@[simp] def iEn (f : Fn) : Rho → Option (List PyData) := fun ρ => (f ρ).bind fun d => match d with
  | .list ds => some (enD ds)
  | .tuple ds => some (enD ds)
  | _ => none
section
variable {K : PySem.W.Frag} {X : Cx} {M : List Nat} {a b : Expr} {ta tb : TE} {fa fb : Fn} {pos p tpos : Pos} {elts : List Expr} {kk : Nat}
theorem id_enum (ha : ED K X M a ta fa) (hm : X.mg "enumerate" = none) (hg : Gl X "enumerate" := by rfl) (hs : starEach [a] X.env = [(false, eval a X.env)] := by rfl) (hK : X.K = K := by rfl) :
    ID K X M (Dy K) (.Tuple elts kk tpos) (.Call (.Name "enumerate" p) [a] [] pos) (iEnumT K (tCons ta tNil)) (iEn fa) := by
  subst hK
  refine ⟨pi_enumT hg hm (pa_cons ha.pe pa_nil hs) hs, fun {Hs0 H0 Hs H σ ρ ds R} r hf q => ?_⟩
  obtain ⟨d, h1, h2⟩ := bind_some hf
  refine ha.sm r h1 fun v Hs1 H1 g1 d1 => ?_
  cases d1 with
  | @lst p0 xs ds' hp t =>
    obtain rfl := Option.some.inj h2
    exact ⟨p0, rfl, .inl ⟨⟨xs, sqL_of (g1.sub _ _ hp)⟩, q _ Hs1 H1 g1 (yields_enumL (fun H e => sqL_of (e _ _ hp)) t)⟩⟩
  | @tup p0 ob xs ds' n hp t =>
    obtain rfl := Option.some.inj h2
    exact ⟨p0, rfl, .inr ⟨⟨xs, sqT_of (g1.sub _ _ hp)⟩, q _ Hs1 H1 g1 (yields_enumT (fun H e => sqT_of (e _ _ hp)) t)⟩⟩
  | _ => cases h2
/-- zip of two -/
def zpD (xs ys : List PyData) : List PyData := (xs.zip ys).map fun p => .tuple [p.1, p.2]
theorem zpD_len (xs ys : List PyData) : (zpD xs ys).length = min xs.length ys.length := by unfold zpD; rw [List.length_map, List.length_zip]
theorem zpD_get {xs ys : List PyData} {i : Nat} {x y : PyData} (h1 : xs[i]? = some x) (h2 : ys[i]? = some y) : (zpD xs ys)[i]? = some (.tuple [x, y]) := by
  unfold zpD
  have e : (xs.zip ys)[i]? = some (x, y) := List.getElem?_zip_eq_some.mpr ⟨h1, h2⟩
  rw [List.getElem?_map, e]
  rfl
theorem yields_zipT {Hs : Hp} {p1 p2 : Addr} {xs ys : List V} {ds es : List PyData} (hq : ∀ H, Same Hs H → SqT K H p1 xs) (hq2 : ∀ H, Same Hs H → SqT K H p2 ys) (t : DdAll K Hs xs ds) (t2 : DdAll K Hs ys es) : Yields K (Dy K) (RZ.ItzT K p1 p2) Hs (zpD ds es) where
  go := fun i H e hi => by
    rw [zpD_len] at hi
    obtain ⟨v, h1, _⟩ := t.get (i := i) (d := ds[i]) (List.getElem?_eq_getElem (by omega))
    obtain ⟨v2, h2, _⟩ := t2.get (i := i) (d := es[i]) (List.getElem?_eq_getElem (by omega))
    exact ⟨xs, ys, v, v2, hq H e, hq2 H e, h1, h2⟩
  stop := fun i H e hi => ⟨xs, ys, hq H e, hq2 H e, by rw [zpD_len] at hi; rw [t.length, t2.length]; omega⟩
  yld := fun i H x H' Hs2 hi e1 e2 h => by
    obtain ⟨T, y, z, rfl, hT, rfl, h2, h3⟩ := h
    obtain ⟨d, h4, h5⟩ := t.getv (h2 xs (hq _ (e1.trans e2)))
    obtain ⟨d2, h6, h7⟩ := t2.getv (h3 ys (hq2 _ (e1.trans e2)))
    have nw := same_new (o := .tup [y, z]) (e2.free hT)
    exact ⟨upd Hs2 T (.tup [y, z]), Grow.alloc e2 hT, _, zpD_get h4 h6, T, _, _, rfl, rfl, upd_same, .cons ((h5.mono e1).mono nw) (.cons ((h7.mono e1).mono nw) .nil)⟩
theorem yields_zipL {Hs : Hp} {p1 p2 : Addr} {xs ys : List V} {ds es : List PyData} (hq : ∀ H, Same Hs H → SqL K H p1 xs) (hq2 : ∀ H, Same Hs H → SqL K H p2 ys) (t : DdAll K Hs xs ds) (t2 : DdAll K Hs ys es) : Yields K (Dy K) (Itz K p1 p2) Hs (zpD ds es) where
  go := fun i H e hi => by
    rw [zpD_len] at hi
    obtain ⟨v, h1, _⟩ := t.get (i := i) (d := ds[i]) (List.getElem?_eq_getElem (by omega))
    obtain ⟨v2, h2, _⟩ := t2.get (i := i) (d := es[i]) (List.getElem?_eq_getElem (by omega))
    exact ⟨xs, ys, v, v2, hq H e, hq2 H e, h1, h2⟩
  stop := fun i H e hi => ⟨xs, ys, hq H e, hq2 H e, by rw [zpD_len] at hi; rw [t.length, t2.length]; omega⟩
  yld := fun i H x H' Hs2 hi e1 e2 h => by
    obtain ⟨T, y, z, rfl, hT, rfl, h2, h3⟩ := h
    obtain ⟨d, h4, h5⟩ := t.getv (h2 xs (hq _ (e1.trans e2)))
    obtain ⟨d2, h6, h7⟩ := t2.getv (h3 ys (hq2 _ (e1.trans e2)))
    have nw := same_new (o := .tup [y, z]) (e2.free hT)
    exact ⟨upd Hs2 T (.tup [y, z]), Grow.alloc e2 hT, _, zpD_get h4 h6, T, _, _, rfl, rfl, upd_same, .cons ((h5.mono e1).mono nw) (.cons ((h7.mono e1).mono nw) .nil)⟩
@[simp] def iZp (f g : Fn) : Rho → Option (List PyData) := fun ρ => (f ρ).bind fun d => (g ρ).bind fun d2 => match d, d2 with
  | .list ds, .list es => some (zpD ds es)
  | .tuple ds, .tuple es => some (zpD ds es)
  | _, _ => none
theorem id_zip (ha : ED K X M a ta fa) (hb : ED K X M b tb fb) (hm : X.mg "zip" = none) (hg : Gl X "zip" := by rfl) (hs : starEach [a, b] X.env = (false, eval a X.env) :: starEach [b] X.env := by rfl) (hs2 : starEach [b] X.env = (false, eval b X.env) :: starEach [] X.env := by rfl)
    (hpl : (backTo pos (starEach [b] X.env)).any (·.1) = false := by rfl) (hK : X.K = K := by rfl) :
    ID K X M (Dy K) (.Tuple elts kk tpos) (.Call (.Name "zip" p) [a, b] [] pos) (RZ.iZipA K (tCons ta (tCons tb tNil))) (iZp fa fb) := by
  subst hK
  refine ⟨RZ.pi_zipA hg hm (pa_cons ha.pe (pa_cons hb.pe pa_nil hs2) hs) hs hpl, fun {Hs0 H0 Hs H σ ρ ds R} r hf q => ?_⟩
  obtain ⟨d, h1, h2⟩ := bind_some hf
  obtain ⟨d2, h3, h4⟩ := bind_some h2
  refine ha.sm r h1 fun v Hs1 H1 g1 d1 => ?_
  refine hb.sm (r.grow g1) h3 fun v2 Hs2 H2 g2 e1 => ?_
  cases d1 with
  | @lst p0 xs ds' hp t =>
    cases e1 with
    | @lst p1 ys es' hp2 t2 =>
      obtain rfl := Option.some.inj h4
      have hp' := g2.exs _ _ hp
      exact ⟨p0, p1, xs, ys, rfl, .inl ⟨sqL_of (g2.sub _ _ hp'), sqL_of (g2.sub _ _ hp2), q _ Hs2 H2 (g1.trans g2) (yields_zipL (fun H e => sqL_of (e _ _ hp')) (fun H e => sqL_of (e _ _ hp2)) (t.mono g2.exs) t2)⟩⟩
    | _ => cases h4
  | @tup p0 ob xs ds' n hp t =>
    cases e1 with
    | @tup p1 ob2 ys es' n2 hp2 t2 =>
      obtain rfl := Option.some.inj h4
      have hp' := g2.exs _ _ hp
      exact ⟨p0, p1, xs, ys, rfl, .inr ⟨sqT_of (g2.sub _ _ hp'), sqT_of (g2.sub _ _ hp2), q _ Hs2 H2 (g1.trans g2) (yields_zipT (fun H e => sqT_of (e _ _ hp')) (fun H e => sqT_of (e _ _ hp2)) (t.mono g2.exs) t2)⟩⟩
    | _ => cases h4
  | _ => cases h4
end
end DL

namespace DL
open PySem PySem.Spec PyProof.Rows L2
/-! ### what == says of data -/
def shK (k : Nat) (d : PyData) : Prop := d.canLay0 = true ∧ d.depth ≤ k
theorem shK_int {k : Nat} (hk : 1 ≤ k) (i : Int) : shK k (.int i) := ⟨by simp [PyData.canLay0], by simp [PyData.depth] <;> omega⟩
theorem shK_bool {k : Nat} (hk : 1 ≤ k) (i : Bool) : shK k (.bool i) := ⟨by simp [PyData.canLay0], by simp [PyData.depth] <;> omega⟩
theorem shK_none {k : Nat} (hk : 1 ≤ k) : shK k .none := ⟨by simp [PyData.canLay0], by simp [PyData.depth] <;> omega⟩
theorem shK_all {k : Nat} : ∀ {xs : List PyData}, (∀ x ∈ xs, shK k x) → PyData.canLayAll0 xs = true ∧ PyData.depthAll xs ≤ k
  | [], _ => ⟨by simp [PyData.canLayAll0], by simp [PyData.depthAll]⟩
  | x :: xs, h => by
    obtain ⟨h1, h2⟩ := h x List.mem_cons_self
    obtain ⟨h3, h4⟩ := shK_all (xs := xs) fun y hy => h y (List.mem_cons_of_mem _ hy)
    exact ⟨by simp [PyData.canLayAll0, h1, h3], by simp only [PyData.depthAll]; omega⟩
theorem shK_tup {k : Nat} {xs : List PyData} (h : ∀ x ∈ xs, shK k x) : shK (k + 1) (.tuple xs) := by
  obtain ⟨h1, h2⟩ := shK_all h
  exact ⟨by simp [PyData.canLay0, h1], by simp only [PyData.depth]; omega⟩
theorem shK_lst {k : Nat} {xs : List PyData} (h : ∀ x ∈ xs, shK k x) : shK (k + 1) (.list xs) := by
  obtain ⟨h1, h2⟩ := shK_all h
  exact ⟨by simp [PyData.canLay0, h1], by simp only [PyData.depth]; omega⟩
theorem shaped_of {k : Nat} {d : PyData} (h : shK k d) (hk : k ≤ 64 := by decide) : SeqAt.shaped d = true := by
  unfold SeqAt.shaped
  rw [h.1, Bool.true_and, decide_eq_true_eq]
  exact Nat.le_trans h.2 hk
/-- data told by things that == tells apart -/
def Emb {α : Type} [DecidableEq α] (w : α → PyData) : Prop := ∀ a b, PyData.eqv (w a) (w b) = decide (a = b)
theorem emb_int : Emb PyData.int := fun i j => by
  show (i == j) = _
  rw [Bool.beq_eq_decide_eq]
theorem emb_bool : Emb PyData.bool := fun i j => by
  show (i == j) = _
  rw [Bool.beq_eq_decide_eq]
theorem emb_all {α : Type} [DecidableEq α] {w : α → PyData} (h : Emb w) : ∀ l m : List α, PyData.eqvAll (l.map w) (m.map w) = decide (l = m)
  | [], [] => by simp [PyData.eqvAll]
  | [], b :: m => by simp [PyData.eqvAll]
  | a :: l, [] => by simp [PyData.eqvAll]
  | a :: l, b :: m => by
    simp only [List.map_cons, PyData.eqvAll]
    rw [h a b, emb_all h l m]
    by_cases e : a = b <;> by_cases e2 : l = m <;> simp [e, e2]
theorem emb_tup {α : Type} [DecidableEq α] {w : α → PyData} (h : Emb w) : Emb fun l : List α => PyData.tuple (l.map w) := fun l m => by
  rw [PyData.eqv]
  exact emb_all h l m
theorem emb_lst {α : Type} [DecidableEq α] {w : α → PyData} (h : Emb w) : Emb fun l : List α => PyData.list (l.map w) := fun l m => by
  rw [PyData.eqv]
  exact emb_all h l m
theorem emb_pair {α β : Type} [DecidableEq α] [DecidableEq β] {w : α → PyData} {v : β → PyData} (h : Emb w) (h2 : Emb v) : Emb fun p : α × β => PyData.tuple [w p.1, v p.2] := fun p q => by
  obtain ⟨a, b⟩ := p
  obtain ⟨c, d⟩ := q
  simp only [PyData.eqv, PyData.eqvAll]
  rw [h a c, h2 b d]
  by_cases e : a = c <;> by_cases e2 : b = d <;> simp [e, e2]
/-- a map, told -/
abbrev Mp := Int × List Int
def mpD (m : Mp) : PyData := mapD m.1 m.2
theorem emb_map : Emb mpD := emb_pair emb_int (emb_tup emb_int)
theorem shK_ints {r : List Int} : shK 2 (.tuple (r.map PyData.int)) := shK_tup fun x hx => by
  obtain ⟨i, _, rfl⟩ := List.mem_map.mp hx
  exact shK_int (by decide) i
theorem shK_intsL {r : List Int} : shK 2 (.list (r.map PyData.int)) := shK_lst fun x hx => by
  obtain ⟨i, _, rfl⟩ := List.mem_map.mp hx
  exact shK_int (by decide) i
theorem shK.up {k m : Nat} {d : PyData} (h : shK k d) (hm : k ≤ m) : shK m d := ⟨h.1, Nat.le_trans h.2 hm⟩
theorem shK_map (m : Mp) : shK 3 (mpD m) := shK_tup fun x hx => by
  rcases List.mem_cons.mp hx with rfl | hx
  · exact shK_int (by decide) _
  · rcases List.mem_cons.mp hx with rfl | hx
    · exact shK_ints
    · cases hx
theorem gEq_of {α : Type} [DecidableEq α] {w : α → PyData} (h : Emb w) {k : Nat} (hs : ∀ a, shK k (w a)) (hk : k ≤ 64) (neg : Bool) (a b : α) : gEq neg (w a) (w b) = some (.bool (xor neg (decide (a = b)))) := by
  unfold gEq
  rw [if_pos ⟨shaped_of (hs a) hk, shaped_of (hs b) hk⟩, h a b]
@[simp] theorem gEq_map (neg : Bool) (a b : Mp) : gEq neg (mpD a) (mpD b) = some (.bool (xor neg (decide (a = b)))) := gEq_of emb_map shK_map (by decide) neg a b
@[simp] theorem gEq_int (neg : Bool) (a b : Int) : gEq neg (.int a) (.int b) = some (.bool (xor neg (decide (a = b)))) := gEq_of (w := PyData.int) (k := 1) emb_int (shK_int (by decide)) (by decide) neg a b
@[simp] theorem gEq_intsT (neg : Bool) (a b : List Int) : gEq neg (.tuple (a.map .int)) (.tuple (b.map .int)) = some (.bool (xor neg (decide (a = b)))) := gEq_of (w := fun l : List Int => PyData.tuple (l.map .int)) (k := 2) (emb_tup emb_int) (fun _ => shK_ints) (by decide) neg a b
@[simp] theorem gEq_intsL (neg : Bool) (a b : List Int) : gEq neg (.list (a.map .int)) (.list (b.map .int)) = some (.bool (xor neg (decide (a = b)))) := gEq_of (w := fun l : List Int => PyData.list (l.map .int)) (k := 2) (emb_lst emb_int) (fun _ => shK_intsL) (by decide) neg a b
theorem flat_ints (r : List Int) : (r.map PyData.int).all flatD = true := by
  rw [List.all_eq_true]
  intro x hx
  obtain ⟨i, _, rfl⟩ := List.mem_map.mp hx
  rfl
theorem any_ints (r : List Int) (k : Int) : ((r.map PyData.int).any fun z => PyData.eqv z (.int k)) = decide (k ∈ r) := by
  induction r with
  | nil => rfl
  | cons a r ih =>
    rw [List.map_cons, List.any_cons, ih, emb_int a k]
    by_cases e : a = k
    · subst e; simp
    · have e' : k ≠ a := fun z => e z.symm
      simp [e, e', List.mem_cons]
@[simp] theorem gIn_ints (neg : Bool) (r : List Int) (k : Int) : gIn neg (.int k) (.tuple (r.map .int)) = some (.bool (xor neg (decide (k ∈ r)))) := by
  unfold gIn
  simp only
  rw [if_pos ⟨rfl, flat_ints r⟩, any_ints]
@[simp] theorem gIn_intsL (neg : Bool) (r : List Int) (k : Int) : gIn neg (.int k) (.list (r.map .int)) = some (.bool (xor neg (decide (k ∈ r)))) := by
  unfold gIn
  simp only
  rw [if_pos (.inl ⟨rfl, flat_ints r⟩), any_ints]
theorem gLenSet_ints {r : List Int} (h : r.length ≤ 1000) : gLenSet (.tuple (r.map .int)) = some (.int (sset r).length) := by
  unfold gLenSet
  simp only [intsD_map, Option.bind_some]
  rw [if_pos h]
/-- subscripts -/
theorem gIx_tup {xs : List PyData} {i : Nat} {d : PyData} (h : xs[i]? = some d) : gIx (.tuple xs) (.int i) = some d := by
  unfold gIx
  simp only
  exact atI_nat h
@[simp] theorem at0 {a b : PyData} : atI [a, b] 0 = some a := rfl
@[simp] theorem at1 {a b : PyData} : atI [a, b] 1 = some b := rfl
structure Wf (m : Mp) : Prop where
  len : m.2.length ≤ 1000
  rng : 0 ≤ m.1 ∧ m.1 ≤ 1000
  lt : ∀ x ∈ m.2, 0 ≤ x ∧ x < m.1
/-- one, and then other, by hand -/
def thn (a b : Mp) : Mp := (b.1, a.2.map fun x => b.2.getD x.toNat 0)
theorem thn_len (a b : Mp) : (thn a b).2.length = a.2.length := List.length_map _
theorem getD_mem {l : List Int} {k : Nat} (h : k < l.length) : l.getD k 0 ∈ l := by
  rw [List.getD_eq_getElem?_getD, List.getElem?_eq_getElem h]
  exact List.getElem_mem h
theorem Wf.thn {a b : Mp} (ha : Wf a) (hb : Wf b) (h : a.1 = b.2.length) : Wf (thn a b) where
  len := by rw [thn_len]; exact ha.len
  rng := hb.rng
  lt := fun x hx => by
    obtain ⟨i, hi, rfl⟩ := List.mem_map.mp hx
    have := ha.lt i hi
    exact hb.lt _ (getD_mem (by omega))
theorem atI_ints {r : List Int} {x : Int} (h : 0 ≤ x ∧ x < r.length) : atI (r.map PyData.int) x = some (.int (r.getD x.toNat 0)) := by
  have e : x = ((x.toNat : Nat) : Int) := by omega
  have hl : x.toNat < r.length := by omega
  have g : (r.map PyData.int)[x.toNat]? = some (.int (r.getD x.toNat 0)) := by
    rw [List.getElem?_map, List.getElem?_eq_getElem hl, List.getD_eq_getElem?_getD, List.getElem?_eq_getElem hl]
    rfl
  have := atI_nat g
  rwa [← e] at this
@[simp] theorem gIx_m0 (a : Mp) : gIx (mpD a) (.int 0) = some (.int a.1) := rfl
@[simp] theorem gIx_m1 (a : Mp) : gIx (mpD a) (.int 1) = some (.tuple (a.2.map .int)) := rfl
@[simp] theorem gIs_map (neg : Bool) (a : Mp) : gIs neg (mpD a) .none = some (.bool (xor neg false)) := rfl
@[simp] theorem gIs_mapD (neg : Bool) (t : Int) (r : List Int) : gIs neg (mapD t r) .none = some (.bool (xor neg false)) := rfl
/-- a number for each: 0, 1, .. -/
def idr (n : Nat) : List Int := (List.range n).map fun (i : Nat) => (i : Int)
theorem idr_len (n : Nat) : (idr n).length = n := by unfold idr; rw [List.length_map, List.length_range]
theorem idr_get {n i : Nat} (h : i < n) : (idr n)[i]? = some (i : Int) := by
  unfold idr
  rw [List.getElem?_map, List.getElem?_range h]
  rfl
theorem idr_mem {n : Nat} {x : Int} (h : x ∈ idr n) : 0 ≤ x ∧ x < n := by
  unfold idr at h
  obtain ⟨i, hi, rfl⟩ := List.mem_map.mp h
  have := List.mem_range.mp hi
  omega
theorem Wf.same {n : Int} (h : 0 ≤ n ∧ n ≤ 1000) : Wf (n, idr n.toNat) where
  len := by rw [idr_len]; omega
  rng := h
  lt := fun x hx => by have := idr_mem hx; show 0 ≤ x ∧ x < n; omega
theorem thn_same_r {a : Mp} (ha : Wf a) : thn a (a.1, idr a.1.toNat) = a := by
  unfold thn
  refine Prod.ext rfl ?_
  show a.2.map _ = a.2
  refine (List.map_congr_left fun x hx => ?_).trans (List.map_id _)
  have := ha.lt x hx
  rw [List.getD_eq_getElem?_getD, idr_get (by omega)]
  show ((x.toNat : Nat) : Int) = x
  omega
theorem thn_same_l (a : Mp) : thn ((a.2.length : Nat), idr a.2.length) a = a := by
  unfold thn
  refine Prod.ext rfl ?_
  show (idr a.2.length).map _ = a.2
  refine List.ext_getElem? fun i => ?_
  by_cases h : i < a.2.length
  · rw [List.getElem?_map, idr_get h]
    show some (a.2.getD ((i : Int)).toNat 0) = _
    rw [List.getD_eq_getElem?_getD, show ((i : Int)).toNat = i by omega, List.getElem?_eq_getElem h]
    rfl
  · rw [List.getElem?_eq_none (by rw [List.length_map, idr_len]; omega), List.getElem?_eq_none (by omega)]
theorem thn_assoc {a b c : Mp} (ha : Wf a) (h : a.1 = b.2.length) : thn (thn a b) c = thn a (thn b c) := by
  unfold thn
  refine Prod.ext rfl ?_
  show (a.2.map _).map _ = a.2.map _
  rw [List.map_map]
  refine List.map_congr_left fun x hx => ?_
  have := ha.lt x hx
  have hl : x.toNat < b.2.length := by omega
  show c.2.getD (b.2.getD x.toNat 0).toNat 0 = (b.2.map fun y => c.2.getD y.toNat 0).getD x.toNat 0
  rw [List.getD_eq_getElem?_getD (l := b.2.map _), List.getElem?_map, List.getElem?_eq_getElem hl, List.getD_eq_getElem?_getD (l := b.2), List.getElem?_eq_getElem hl]
  rfl
theorem rgD_idr (n : Nat) : rgD 0 n = (idr n).map PyData.int := by
  rw [rgD_zero]
  unfold idr
  rw [List.map_map]
  rfl
theorem enD_ints (r : List Int) : enD (r.map PyData.int) = (List.range r.length).map fun (i : Nat) => PyData.tuple [.int i, .int (r.getD i 0)] := by
  refine List.ext_getElem? fun i => ?_
  by_cases h : i < r.length
  · have e : (r.map PyData.int)[i]? = some (.int (r.getD i 0)) := by
      rw [List.getElem?_map, List.getElem?_eq_getElem h, List.getD_eq_getElem?_getD, List.getElem?_eq_getElem h]
      rfl
    rw [enD_get e, List.getElem?_map, List.getElem?_range h]
    rfl
  · rw [List.getElem?_eq_none (by rw [enD_len, List.length_map]; omega), List.getElem?_eq_none (by rw [List.length_map, List.length_range]; omega)]
/-- [.. for i, x in enumerate(row) if ..] -/
theorem lc_enF {vs : List Nat} {j1 j2 : Nat} {fs f : Fn} {c : Rho → Option Bool} {ρ : Rho} {r : List Int} {g : Nat → PyData} {p : Nat → Bool} {d : PyData} (h1 : fs ρ = some d) (hd : d = .tuple (r.map .int) ∨ d = .list (r.map .int)) (hl : r.length ≤ 1000000)
    (h : ∀ i, i < r.length → c (((wipeR ρ vs).set j1 (some (.int i))).set j2 (some (.int (r.getD i 0)))) = some (p i) ∧ (p i = true → f (((wipeR ρ vs).set j1 (some (.int i))).set j2 (some (.int (r.getD i 0)))) = some (g i))) :
    fLc vs (iEn fs) (hSeq 2 (hCons (hName j1) (hCons (hName j2) hNil))) c f ρ = some (((List.range r.length).filter p).map g) := by
  have e : iEn fs ρ = some ((List.range r.length).map fun (i : Nat) => PyData.tuple [.int i, .int (r.getD i 0)]) := by
    unfold iEn
    rw [h1, Option.bind_some]
    rcases hd with rfl | rfl <;> simp only [enD_ints]
  unfold fLc
  rw [e, Option.bind_some, if_pos (by rw [List.length_map, List.length_range]; exact hl)]
  refine compF_listF fun i hi => ⟨_, rfl, ?_, ?_⟩
  · exact (h i (List.mem_range.mp hi)).1
  · exact (h i (List.mem_range.mp hi)).2
theorem insS_len {k : Int} : ∀ {l : List Int}, l.Pairwise (· < ·) → (insS k l).length = if k ∈ l then l.length else l.length + 1
  | [], _ => by simp [insS]
  | a :: r, h => by
    obtain ⟨h1, h2⟩ := List.pairwise_cons.mp h
    unfold insS
    by_cases c1 : k < a
    · have : ¬ k ∈ a :: r := fun hm => by
        rcases List.mem_cons.mp hm with e | e
        · omega
        · have := h1 k e; omega
      rw [if_pos c1, if_neg this]
      rfl
    · rw [if_neg c1]
      by_cases c2 : k = a
      · rw [if_pos c2, if_pos (by rw [c2]; exact List.mem_cons_self)]
      · rw [if_neg c2, List.length_cons, insS_len h2, List.length_cons]
        by_cases c3 : k ∈ r
        · rw [if_pos c3, if_pos (List.mem_cons_of_mem _ c3)]
        · rw [if_neg c3, if_neg (fun hm => by rcases List.mem_cons.mp hm with e | e; exact c2 e; exact c3 e)]
theorem sset_nodup : ∀ {r : List Int}, (sset r).length = r.length ↔ r.Nodup
  | [] => by simp [sset]
  | a :: r => by
    have e : sset (a :: r) = insS a (sset r) := rfl
    rw [e, insS_len (sset_lt r), List.nodup_cons, List.length_cons, ← sset_nodup (r := r)]
    have hle := sset_le r
    by_cases c : a ∈ r
    · rw [if_pos (sset_mem.mpr c)]
      constructor
      · intro z; omega
      · rintro ⟨z, _⟩; exact absurd c z
    · rw [if_neg (fun z => c (sset_mem.mp z))]
      constructor
      · intro z; exact ⟨c, by omega⟩
      · rintro ⟨_, z⟩; omega
theorem met_nodup {r : List Int} : ((List.range r.length).filter fun i => decide (r.getD i 0 ∈ r.take i)).length = 0 ↔ r.Nodup := by
  rw [List.length_eq_zero_iff, List.filter_eq_nil_iff]
  constructor
  · intro h
    refine List.pairwise_iff_getElem.mpr fun i j hi hj hij => ?_
    have := h j (List.mem_range.mpr hj)
    rw [decide_eq_true_eq] at this
    intro e
    refine this ?_
    rw [List.getD_eq_getElem?_getD, List.getElem?_eq_getElem hj]
    show r[j] ∈ _
    rw [← e]
    refine List.mem_iff_getElem?.mpr ⟨i, ?_⟩
    rw [List.getElem?_take, if_pos hij, List.getElem?_eq_getElem hi]
  · intro h i hi
    have hi := List.mem_range.mp hi
    rw [decide_eq_true_eq, List.getD_eq_getElem?_getD, List.getElem?_eq_getElem hi]
    intro hm
    obtain ⟨j, hj⟩ := List.mem_iff_getElem?.mp hm
    rw [List.getElem?_take] at hj
    by_cases hji : j < i
    · rw [if_pos hji] at hj
      obtain ⟨hjl, ej⟩ := List.getElem?_eq_some_iff.mp hj
      exact List.pairwise_iff_getElem.mp h j i hjl hi hji ej
    · rw [if_neg hji] at hj
      cases hj
theorem idr_lt (n : Nat) : (idr n).Pairwise (· < ·) := by
  unfold idr
  rw [List.pairwise_map]
  exact List.pairwise_lt_range.imp fun h => by omega
theorem mem_idr {n : Nat} {x : Int} : x ∈ idr n ↔ 0 ≤ x ∧ x < n := by
  refine ⟨idr_mem, fun h => ?_⟩
  refine List.mem_iff_getElem?.mpr ⟨x.toNat, ?_⟩
  rw [idr_get (by omega)]
  congr 1
  omega
theorem left_all {n : Nat} {r : List Int} (hr : ∀ x ∈ r, 0 ≤ x ∧ x < n) : ((List.range n).filter fun (i : Nat) => decide ((i : Int) ∉ r)).length = 0 ↔ (sset r).length = n := by
  rw [List.length_eq_zero_iff, List.filter_eq_nil_iff]
  have hle : (sset r).length ≤ (idr n).length := nodup_len (rise_nodup (sset_lt r)) (rise_nodup (idr_lt n)) fun x hx => mem_idr.mpr (hr x (sset_mem.mp hx))
  rw [idr_len] at hle
  constructor
  · intro h
    refine Nat.le_antisymm hle ?_
    have := nodup_len (rise_nodup (idr_lt n)) (rise_nodup (sset_lt r)) fun x hx => by
      have := mem_idr.mp hx
      have h2 := h x.toNat (List.mem_range.mpr (by omega))
      rw [decide_eq_true_eq, Classical.not_not] at h2
      rw [show ((x.toNat : Nat) : Int) = x by omega] at h2
      exact sset_mem.mpr h2
    rwa [idr_len] at this
  · intro h i hi
    have hi := List.mem_range.mp hi
    rw [decide_eq_true_eq, Classical.not_not]
    refine Classical.byContradiction fun hn => ?_
    have := nodup_len (l := (i : Int) :: sset r) (m := idr n) (List.nodup_cons.mpr ⟨fun z => hn (sset_mem.mp z), rise_nodup (sset_lt r)⟩) (rise_nodup (idr_lt n)) fun x hx => by
      rcases List.mem_cons.mp hx with rfl | hx
      · exact mem_idr.mpr (by omega)
      · exact mem_idr.mpr (hr x (sset_mem.mp hx))
    rw [List.length_cons, idr_len] at this
    omega
def Parts (a : Mp) : Prop := (sset a.2).length = a.2.length
def Comes (a : Mp) : Prop := ((sset a.2).length : Int) = a.1
instance (a : Mp) : Decidable (Parts a) := inferInstanceAs (Decidable (_ = _))
instance (a : Mp) : Decidable (Comes a) := inferInstanceAs (Decidable (_ = _))
theorem parts_nodup {a : Mp} : Parts a ↔ a.2.Nodup := sset_nodup
theorem getD_inj {l : List Int} (h : l.Nodup) {i j : Nat} (hi : i < l.length) (hj : j < l.length) (e : l.getD i 0 = l.getD j 0) : i = j := by
  rw [List.getD_eq_getElem?_getD, List.getD_eq_getElem?_getD, List.getElem?_eq_getElem hi, List.getElem?_eq_getElem hj] at e
  have e : l[i] = l[j] := e
  rcases Nat.lt_trichotomy i j with z | z | z
  · exact absurd e (List.pairwise_iff_getElem.mp h i j hi hj z)
  · exact z
  · exact absurd e.symm (List.pairwise_iff_getElem.mp h j i hj hi z)
theorem nodup_map {f : Int → Int} : ∀ {l : List Int}, l.Nodup → (∀ x ∈ l, ∀ y ∈ l, f x = f y → x = y) → (l.map f).Nodup
  | [], _, _ => List.Pairwise.nil
  | a :: l, h, hf => by
    obtain ⟨h1, h2⟩ := List.nodup_cons.mp h
    rw [List.map_cons, List.nodup_cons]
    refine ⟨fun hm => ?_, nodup_map h2 fun x hx y hy => hf x (List.mem_cons_of_mem _ hx) y (List.mem_cons_of_mem _ hy)⟩
    obtain ⟨y, hy, e⟩ := List.mem_map.mp hm
    have := hf a List.mem_cons_self y (List.mem_cons_of_mem _ hy) e.symm
    exact h1 (by rw [this]; exact hy)
theorem thn_parts {a b : Mp} (ha : Wf a) (h : a.1 = b.2.length) (pa : Parts a) (pb : Parts b) : Parts (thn a b) := by
  rw [parts_nodup] at *
  refine nodup_map pa fun x hx y hy e => ?_
  have h1 := ha.lt x hx
  have h2 := ha.lt y hy
  have := getD_inj pb (by omega) (by omega) e
  omega
/-- all below to are come to -/
theorem comes_mem {a : Mp} (ha : Wf a) (ca : Comes a) {x : Int} (h : 0 ≤ x ∧ x < a.1) : x ∈ a.2 := by
  have hr := ha.rng
  have := (left_all (n := a.1.toNat) (r := a.2) fun y hy => by have := ha.lt y hy; omega).mpr (by unfold Comes at ca; omega)
  rw [List.length_eq_zero_iff, List.filter_eq_nil_iff] at this
  have := this x.toNat (List.mem_range.mpr (by omega))
  rw [decide_eq_true_eq, Classical.not_not, show ((x.toNat : Nat) : Int) = x by omega] at this
  exact this
theorem comes_of {a : Mp} (ha : Wf a) (h : ∀ x, 0 ≤ x ∧ x < a.1 → x ∈ a.2) : Comes a := by
  have hr := ha.rng
  have := (left_all (n := a.1.toNat) (r := a.2) fun y hy => by have := ha.lt y hy; omega).mp (by
    rw [List.length_eq_zero_iff, List.filter_eq_nil_iff]
    intro i hi
    have := List.mem_range.mp hi
    rw [decide_eq_true_eq, Classical.not_not]
    exact h _ (by omega))
  unfold Comes
  omega
theorem thn_comes {a b : Mp} (ha : Wf a) (hb : Wf b) (h : a.1 = b.2.length) (ca : Comes a) (cb : Comes b) : Comes (thn a b) := by
  refine comes_of (ha.thn hb h) fun x hx => ?_
  have hm := comes_mem hb cb (x := x) hx
  obtain ⟨i, hi⟩ := List.mem_iff_getElem?.mp hm
  obtain ⟨hil, ei⟩ := List.getElem?_eq_some_iff.mp hi
  have hm2 := comes_mem ha ca (x := (i : Int)) (by omega)
  refine List.mem_map.mpr ⟨(i : Int), hm2, ?_⟩
  rw [show ((i : Int)).toNat = i by omega, List.getD_eq_getElem?_getD, hi]
  rfl
end DL

namespace DL
open PySem PySem.Spec PyProof.Rows L2
/-! ### comprehensions of ints -/
theorem map_int {α : Type} (l : List α) (g : α → Int) : l.map (fun a => PyData.int (g a)) = (l.map g).map PyData.int := by
  rw [List.map_map]
  rfl
variable {vs : List Nat} {j j1 j2 : Nat} {fn fs fs2 f : Fn} {c : Rho → Option Bool} {ρ : Rho} {n : Int}
theorem lc_rgI {g : Nat → Int} (h1 : fn ρ = some (.int n)) (hn : -1000000 ≤ n ∧ n ≤ 1000000) (h : ∀ i : Nat, (i : Int) < n → f ((wipeR ρ vs).set j (some (.int i))) = some (.int (g i))) :
    fLc vs (iR1 fn) (hName j) cYes f ρ = some (((List.range n.toNat).map g).map .int) := by
  rw [lc_rg (g := fun i => .int (g i)) h1 hn h, map_int]
theorem lc_rgIF {g : Nat → Int} {p : Nat → Bool} (h1 : fn ρ = some (.int n)) (hn : -1000000 ≤ n ∧ n ≤ 1000000) (h : ∀ i : Nat, (i : Int) < n → c ((wipeR ρ vs).set j (some (.int i))) = some (p i) ∧ (p i = true → f ((wipeR ρ vs).set j (some (.int i))) = some (.int (g i)))) :
    fLc vs (iR1 fn) (hName j) c f ρ = some ((((List.range n.toNat).filter p).map g).map .int) := by
  rw [lc_rgF (g := fun i => .int (g i)) h1 hn h, map_int]
theorem lc_sqI {l : List Int} {g : Int → Int} {d : PyData} (h1 : fs ρ = some d) (hd : seqD d = some (l.map .int)) (hl : l.length ≤ 1000000) (h : ∀ x ∈ l, f ((wipeR ρ vs).set j (some (.int x))) = some (.int (g x))) :
    fLc vs (iSq fs) (hName j) cYes f ρ = some ((l.map g).map .int) := by
  rw [lc_sq (w := PyData.int) (g := fun i => .int (g i)) h1 hd hl h, map_int]
theorem lc_sqIF {l : List Int} {g : Int → Int} {p : Int → Bool} {d : PyData} (h1 : fs ρ = some d) (hd : seqD d = some (l.map .int)) (hl : l.length ≤ 1000000) (h : ∀ x ∈ l, c ((wipeR ρ vs).set j (some (.int x))) = some (p x) ∧ (p x = true → f ((wipeR ρ vs).set j (some (.int x))) = some (.int (g x)))) :
    fLc vs (iSq fs) (hName j) c f ρ = some (((l.filter p).map g).map .int) := by
  rw [lc_sqF (w := PyData.int) (g := fun i => .int (g i)) h1 hd hl h, map_int]
theorem lc_enIF {r : List Int} {g : Nat → Int} {p : Nat → Bool} {d : PyData} (h1 : fs ρ = some d) (hd : d = .tuple (r.map .int) ∨ d = .list (r.map .int)) (hl : r.length ≤ 1000000)
    (h : ∀ i, i < r.length → c (((wipeR ρ vs).set j1 (some (.int i))).set j2 (some (.int (r.getD i 0)))) = some (p i) ∧ (p i = true → f (((wipeR ρ vs).set j1 (some (.int i))).set j2 (some (.int (r.getD i 0)))) = some (.int (g i)))) :
    fLc vs (iEn fs) (hSeq 2 (hCons (hName j1) (hCons (hName j2) hNil))) c f ρ = some ((((List.range r.length).filter p).map g).map .int) := by
  rw [lc_enF (g := fun i => .int (g i)) h1 hd hl h, map_int]
theorem zpD_ints (l m : List Int) : zpD (l.map PyData.int) (m.map PyData.int) = (l.zip m).map fun p => PyData.tuple [.int p.1, .int p.2] := by
  unfold zpD
  rw [List.zip_map, List.map_map]
  rfl
theorem lc_zpI {l m : List Int} {g : Int → Int → Int} (h1 : fs ρ = some (.tuple (l.map .int))) (h2 : fs2 ρ = some (.tuple (m.map .int))) (hl : l.length ≤ 1000000)
    (h : ∀ x y, (x, y) ∈ l.zip m → f (((wipeR ρ vs).set j1 (some (.int x))).set j2 (some (.int y))) = some (.int (g x y))) :
    fLc vs (iZp fs fs2) (hSeq 2 (hCons (hName j1) (hCons (hName j2) hNil))) cYes f ρ = some (((l.zip m).map fun p => g p.1 p.2).map .int) := by
  have e : iZp fs fs2 ρ = some ((l.zip m).map fun p => PyData.tuple [.int p.1, .int p.2]) := by
    unfold iZp
    rw [h1, h2]
    simp only [Option.bind_some, zpD_ints]
  unfold fLc
  rw [e, Option.bind_some, if_pos (by rw [List.length_map, List.length_zip]; omega), ← map_int]
  exact compF_list (α := Int × Int) (w := fun p => PyData.tuple [.int p.1, .int p.2]) (g := fun p => .int (g p.1 p.2)) fun p hp => ⟨_, rfl, h p.1 p.2 hp⟩
/-! ### maps told by their parts -/
theorem mp_fold (x : Int) (l : List Int) : PyData.tuple [.int x, .tuple (l.map .int)] = mpD (x, l) := rfl
@[simp] theorem gEq_mapL (neg : Bool) (a : Mp) (x : Int) (l : List Int) : gEq neg (mpD a) (.tuple [.int x, .tuple (l.map .int)]) = some (.bool (xor neg (decide (a = (x, l))))) := gEq_map neg a (x, l)
@[simp] theorem gEq_mapA (neg : Bool) (a : Mp) (x : Int) (l m : List Int) : gEq neg (mpD a) (.tuple [.int x, .tuple (l.map .int ++ m.map .int)]) = some (.bool (xor neg (decide (a = (x, l ++ m))))) := by
  rw [← List.map_append]
  exact gEq_map neg a (x, l ++ m)
theorem mulOk {x y : Int} (hx : -1000000 ≤ x ∧ x ≤ 1000000) (hy : -1000000 ≤ y ∧ y ≤ 1000000) : MulOk x y := .inl (.inl ⟨by omega, by omega⟩)
theorem zip_range (l m : List Int) (h : l.length = m.length) (g : Int → Int → Int) : (l.zip m).map (fun p => g p.1 p.2) = (List.range l.length).map fun i => g (l.getD i 0) (m.getD i 0) := by
  refine List.ext_getElem? fun i => ?_
  by_cases hi : i < l.length
  · have e : (l.zip m)[i]? = some (l.getD i 0, m.getD i 0) := List.getElem?_zip_eq_some.mpr ⟨by show l[i]? = some (l.getD i 0); rw [List.getD_eq_getElem?_getD, List.getElem?_eq_getElem hi]; rfl, by show m[i]? = some (m.getD i 0); rw [List.getD_eq_getElem?_getD, List.getElem?_eq_getElem (show i < m.length by omega)]; rfl⟩
    rw [List.getElem?_map, e, List.getElem?_map, List.getElem?_range hi]
    rfl
  · rw [List.getElem?_eq_none (by rw [List.length_map, List.length_zip]; omega), List.getElem?_eq_none (by rw [List.length_map, List.length_range]; omega)]
theorem map_range_getD (l : List Int) : (List.range l.length).map (fun i => l.getD i 0) = l := by
  refine List.ext_getElem? fun i => ?_
  by_cases hi : i < l.length
  · rw [List.getElem?_map, List.getElem?_range hi]
    show some (l.getD i 0) = _
    rw [List.getD_eq_getElem?_getD, List.getElem?_eq_getElem hi]
    rfl
  · rw [List.getElem?_eq_none (by rw [List.length_map, List.length_range]; omega), List.getElem?_eq_none (by omega)]
theorem getD_range {g : Nat → Int} {n i : Nat} (h : i < n) : ((List.range n).map g).getD i 0 = g i := by
  rw [List.getD_eq_getElem?_getD, List.getElem?_map, List.getElem?_range h]
  rfl
/-- a good step: goes on, P holds -/
def Good (P : Rho → Prop) (g : Gn) (ρ : Rho) : Prop := ∃ ρ', g ρ = some (.nx ρ') ∧ P ρ'
theorem Good.step {P : Rho → Prop} {g1 g2 : Gn} {ρ ρ1 : Rho} (h1 : g1 ρ = some (.nx ρ1)) (h2 : Good P g2 ρ1) : Good P (gBlk g1 g2) ρ := by
  obtain ⟨ρ', h, hp⟩ := h2
  exact ⟨ρ', by rw [blk_nx h1]; exact h, hp⟩
theorem Good.last {P : Rho → Prop} {g : Gn} {ρ ρ1 : Rho} (h1 : g ρ = some (.nx ρ1)) (h2 : P ρ1) : Good P g ρ := ⟨ρ1, h1, h2⟩
/-- a loop of good turns -/
theorem Good.loop {P : Rho → Prop} {tg : PyData → Rho → Option Rho} {b : Gn} {h : Rho → Option (List PyData)} {ds : List PyData} {ρ : Rho} (he : h ρ = some ds) (hb : ∀ d ∈ ds, ∀ ρ, P ρ → ∃ ρ1, tg d ρ = some ρ1 ∧ Good P b ρ1) (h0 : P ρ) : Good P (gFor h tg b) ρ := by
  unfold Good gFor
  rw [he, Option.bind_some]
  refine forF_nx P (fun d hd ρ hp => ?_) h0
  obtain ⟨ρ1, h1, ρ', h2, h3⟩ := hb d hd ρ hp
  exact ⟨ρ1, ρ', h1, h2, h3⟩
theorem getD_app_l {l m : List Int} {i : Nat} (h : i < l.length) : (l ++ m).getD i 0 = l.getD i 0 := by
  rw [List.getD_eq_getElem?_getD, List.getD_eq_getElem?_getD, List.getElem?_append_left h]
theorem getD_app_r {l m : List Int} {i : Nat} : (l ++ m).getD (l.length + i) 0 = m.getD i 0 := by
  rw [List.getD_eq_getElem?_getD, List.getD_eq_getElem?_getD, List.getElem?_append_right (by omega), Nat.add_sub_cancel_left]
theorem row_wf {to : Int} {n : Nat} {g : Nat → Int} (ht : 0 ≤ to ∧ to ≤ 1000) (hn : n ≤ 1000) (h : ∀ i, i < n → 0 ≤ g i ∧ g i < to) : Wf (to, (List.range n).map g) where
  len := by show ((List.range n).map g).length ≤ 1000; rw [List.length_map, List.length_range]; exact hn
  rng := ht
  lt := fun x hx => by
    obtain ⟨i, hi, rfl⟩ := List.mem_map.mp hx
    exact h i (List.mem_range.mp hi)
theorem thn_row {to : Int} {n : Nat} {g : Nat → Int} {b : Mp} : thn (to, (List.range n).map g) b = (b.1, (List.range n).map fun i => b.2.getD (g i).toNat 0) := by
  unfold thn
  rw [List.map_map]
  rfl
theorem row_eq {n : Nat} {l : List Int} {g : Nat → Int} (hn : n = l.length) (h : ∀ i, i < n → g i = l.getD i 0) : (List.range n).map g = l := by
  subst hn
  exact (List.map_congr_left fun i hi => h i (List.mem_range.mp hi)).trans (map_range_getD l)
theorem getD_lt {a : Mp} (ha : Wf a) {i : Nat} (h : i < a.2.length) : 0 ≤ a.2.getD i 0 ∧ a.2.getD i 0 < a.1 := ha.lt _ (getD_mem h)
end DL

namespace DL
open PySem PySem.Spec PyProof.Rows L2
section
variable {K : PySem.W.Frag} {X : Cx} {M : List Nat} {xc : Nat → Addr} {W : WX} {a b c d e o : Expr} {ta tb tc td te to : TE} {fa fb fc fd f fo : Fn} {pos pos' apos cpos : Pos}
/-! ### a op b op c op d, as a test -/
def tChain3 (r r' r'' : R2) (ta tb tc td : TE) : TT := fun σ H Q => ta σ H fun x H1 => tb σ H1 fun y H2 => r x y H2 fun z H3 => ∃ k, z = .bl k ∧
  (if k = true then tc σ H3 fun y' H4 => r' y y' H4 fun z' H5 => ∃ k, z' = .bl k ∧ (if k = true then td σ H5 fun y2 H6 => r'' y' y2 H6 fun z2 H7 => ∃ k, z2 = .bl k ∧ Q k H7 else Q false H5) else Q false H3)
theorem pt_chain3 {op op' op'' : CmpOp} {r r' r'' : R2} (ho : OpR X (compareOp op) r) (ho' : OpR X (compareOp op') r') (ho'' : OpR X (compareOp op'') r'') (ha : PE X a ta) (hb : PE X b tb) (hc : PE X c tc) (hd : PE X d td)
    (hm : lastMarks [op, op', op''] [b, c, d] = false := by with_unfolding_all rfl) : PT X (.Compare a [op, op', op''] [b, c, d] pos) (tChain3 r r' r'' ta tb tc td) := by
  refine ⟨fun pins s σ H Q I h => ?_⟩
  refine isTrue_chain (L2.thn (ha.run pins s σ H _ I h) fun v s1 ⟨x, H1, I1, r1, q1⟩ => test_link (L2.thn (hb.run pins s1 σ H1 _ I1 q1) fun u s2 ⟨y, H2, I2, r2, q2⟩ =>
    L2.thn (ho pins s2 σ H2 x y v u _ I2 r1 r2 q2) fun d1 s3 ⟨z, H3, I3, r3, k, ez, q3⟩ => ?_)) hm
  subst ez
  cases r3
  refine wpAny_truthy_bool ?_
  cases k with
  | false => exact ite_ff ⟨H3, I3, q3⟩
  | true =>
    refine ite_tt (test_link (L2.thn (hc.run pins s3 σ H3 _ I3 q3) fun u2 s4 ⟨y2, H4, I4, r4, q4⟩ => L2.thn (ho' pins s4 σ H4 y y2 u u2 _ I4 r2 r4 q4) fun d2 s5 ⟨z2, H5, I5, r5, k2, ez2, q5⟩ => ?_))
    subst ez2
    cases r5
    refine wpAny_truthy_bool ?_
    cases k2 with
    | false => exact ite_ff ⟨H5, I5, q5⟩
    | true =>
      refine ite_tt (test_last (L2.thn (hd.run pins s5 σ H5 _ I5 q5) fun u3 s6 ⟨y3, H6, I6, r6, q6⟩ => L2.thn (ho'' pins s6 σ H6 y2 y3 u2 u3 _ I6 r4 r6 q6) fun d3 s7 ⟨z3, H7, I7, r7, k3, ez3, q7⟩ => ?_))
      subst ez3
      cases r7
      exact wpAny_truthy_bool ⟨H7, I7, q7⟩
@[simp] def bChain3 (g g' g'' : PyData → PyData → Option PyData) (fa fb fc fd : Fn) : Rho → Option Bool := fun ρ => (fa ρ).bind fun x => (fb ρ).bind fun y => (g x y).bind fun z => match z with
  | .bool true => (fc ρ).bind fun y2 => (g' y y2).bind fun z2 => match z2 with
    | .bool true => (fd ρ).bind fun y3 => (g'' y2 y3).bind fun z3 => match z3 with
      | .bool k => some k
      | _ => none
    | .bool false => some false
    | _ => none
  | .bool false => some false
  | _ => none
theorem td_chain3 {op op' op'' : CmpOp} {r r' r'' : R2} {g g' g'' : PyData → PyData → Option PyData} (ho : OD K X (compareOp op) r g) (ho' : OD K X (compareOp op') r' g') (ho'' : OD K X (compareOp op'') r'' g'') (ha : ED K X M a ta fa) (hb : ED K X M b tb fb) (hc : ED K X M c tc fc) (hd : ED K X M d td fd)
    (hm : lastMarks [op, op', op''] [b, c, d] = false := by with_unfolding_all rfl) : TD K X M (.Compare a [op, op', op''] [b, c, d] pos) (tChain3 r r' r'' ta tb tc td) (bChain3 g g' g'' fa fb fc fd) :=
  ⟨pt_chain3 ho.op ho'.op ho''.op ha.pe hb.pe hc.pe hd.pe hm, fun {Hs0 H0 Hs H σ ρ k Q} R hf q => by
    obtain ⟨x, h1, hf⟩ := bind_some hf
    obtain ⟨y, h2, hf⟩ := bind_some hf
    obtain ⟨z, h3, hf⟩ := bind_some hf
    refine ha.sm R h1 fun v Hs1 H1 g1 d1 => ?_
    refine hb.sm (R.grow g1) h2 fun u Hs2 H2 g2 d2 => ?_
    refine ho.sm g2.sub (d1.mono g2.exs) d2 h3 fun w Hs3 H3 g3 d3 => ?_
    cases z with
    | bool k1 =>
      cases d3
      refine ⟨k1, rfl, ?_⟩
      cases k1 with
      | false =>
        rw [if_neg Bool.false_ne_true]
        obtain rfl := Option.some.inj hf
        exact q H3 (g1.ex.trans (g2.ex.trans g3.ex))
      | true =>
        rw [if_pos rfl]
        obtain ⟨y2, h4, hf⟩ := bind_some hf
        obtain ⟨z2, h5, hf⟩ := bind_some hf
        refine hc.sm (((R.grow g1).grow g2).grow g3) h4 fun u2 Hs4 H4 g4 d4 => ?_
        refine ho'.sm g4.sub ((d2.mono g3.exs).mono g4.exs) d4 h5 fun w2 Hs5 H5 g5 d5 => ?_
        cases z2 with
        | bool k2 =>
          cases d5
          refine ⟨k2, rfl, ?_⟩
          cases k2 with
          | false =>
            rw [if_neg Bool.false_ne_true]
            obtain rfl := Option.some.inj hf
            exact q H5 (g1.ex.trans (g2.ex.trans (g3.ex.trans (g4.ex.trans g5.ex))))
          | true =>
            rw [if_pos rfl]
            obtain ⟨y3, h6, hf⟩ := bind_some hf
            obtain ⟨z3, h7, hf⟩ := bind_some hf
            refine hd.sm (((((R.grow g1).grow g2).grow g3).grow g4).grow g5) h6 fun u3 Hs6 H6 g6 d6 => ?_
            refine ho''.sm g6.sub ((d4.mono g5.exs).mono g6.exs) d6 h7 fun w3 Hs7 H7 g7 d7 => ?_
            cases z3 with
            | bool k3 =>
              cases d7
              obtain rfl := Option.some.inj hf
              exact ⟨_, rfl, q H7 (g1.ex.trans (g2.ex.trans (g3.ex.trans (g4.ex.trans (g5.ex.trans (g6.ex.trans g7.ex))))))⟩
            | _ => cases hf
        | _ => cases hf
    | _ => cases hf⟩

/-! ### s.index(x), s a list or a tuple of plain things -/
def rIdxT (K : PySem.W.Frag) : V → List V → Hp → VK → Prop := fun x xs H Q => ∃ (p : Addr) (ys : List V) (y : V) (j : Nat) (z : V), x = V.ref p ∧ xs = [y] ∧ SqT K H p ys ∧ flatV y = true ∧ ys.all flatV = true ∧ ys[j]? = some z ∧ eqV z y = true ∧
  (∀ (m : Nat) (z' : V), m < j → ys[m]? = some z' → eqV z' y = false) ∧ Q (.int (j : Nat)) H
theorem mt_idxT : MtR X "tuple.index" (rIdxT X.K) := by
  intro pins s σ H x xs v us Q I rx rs h
  obtain ⟨p, ys, y, j, z, rfl, rfl, hq, fy, fys, hz, hzj, hno, q⟩ := h
  cases rx
  obtain ⟨uy, rfl, ry⟩ := vals1 rs
  obtain ⟨its, rv, pl, hlen⟩ := I.tuple hq
  obtain ⟨⟨cls, dd, dt, sl⟩, ho, hc, n, hd⟩ := pl
  simp only at hc hd
  subst hc hd
  obtain ⟨u, hu, ru⟩ := rv.get hz
  obtain ⟨hjl, hje⟩ := List.getElem?_eq_some_iff.mp hu
  have hvl := rv.length
  have hj : j < its.toArray.size := by simpa using hjl
  refine call_meets PySem.F.slot_tuple_index ⟨_, ho, rfl⟩ PySem.F.entry_tuple_index (PySem.F.args_tuple_index_2 _ _) (TI.tuple_indexAt p its.toArray n dd sl uy (eqU y) j hj ?_ ?_)
    ⟨ho, fun w hw => mem_eqAt ry fy rv fys w (by simpa using hw), ⟨.int (j : Nat), H, I.tok _, ⟨_, rfl⟩, q⟩⟩
  · have e1 : its.toArray[j] = u := by simpa using hje
    rw [e1, eqU_of ru (flat_at fys hz)]
    exact hzj
  · intro m hm hmj
    have hml : m < its.length := by simpa using hm
    have hmy : m < ys.length := by omega
    have hy' : ys[m]? = some ys[m] := List.getElem?_eq_getElem hmy
    obtain ⟨u2, hu2, ru2⟩ := rv.get hy'
    obtain ⟨_, hme⟩ := List.getElem?_eq_some_iff.mp hu2
    have e1 : its.toArray[m] = u2 := by simpa using hme
    rw [e1, eqU_of ru2 (flat_at fys hy')]
    exact hno m _ hmj hy'
def tIdx (K : PySem.W.Frag) (to : TE) (t : TA) : TE := fun σ H Q => to σ H fun x H1 => ∃ p, x = .ref p ∧ (((∃ ys, SqL K H1 p ys) ∧ t σ H1 fun vs H2 => rIndex K x vs H2 Q) ∨ ((∃ ob ys, ob.dict = none ∧ H1 p = some (.frz ob (.tup ys))) ∧ t σ H1 fun vs H2 => rIdxT K x vs H2 Q))
theorem pe_idx {es : List Expr} {t : TA} (ho : PE X o to) (ha : PA X (e :: es) t)
    (hbase : attributeBase o "index" X.env (eval o X.env) = eval o X.env := by rfl)
    (hfew : ((backTo cpos (starEach (e :: es) X.env)).all (fun x => !x.1) && (backToKw cpos (keywordEach [] X.env)).all (fun x => x.1.isSome)
      && decide ((e :: es).length + ([] : List Keyword).length + (if ([] : List Keyword).isEmpty then 0 else 1) < 30)) = true := by rfl)
    (hline : (apos.endLine == cpos.line) = true := by rfl) (hs : starEach (e :: es) X.env = (false, eval e X.env) :: starEach es X.env := by rfl) (hplain : (backTo cpos (starEach es X.env)).any (·.1) = false := by rfl) :
    PE X (.Call (.Attribute o "index" apos) (e :: es) [] cpos) (tIdx X.K to t) := by
  refine ⟨fun pins s σ H Q I h => ?_⟩
  refine wpAny_Call_method_late hbase hfew hline rfl (L2.thn (ho.run pins s σ H _ I h) fun v s1 ⟨x, H1, I1, r1, p, ex, q1⟩ => ?_)
  subst ex
  rcases q1 with ⟨⟨ys, hq⟩, q1⟩ | ⟨⟨ob, ys, hn, hq⟩, q1⟩
  · obtain ⟨h1, h2⟩ := tyV_is (T := "list") I1 r1 (.inl ⟨rfl, ys, hq⟩)
    refine ⟨"list", "list.index", PySem.F.plainAttrs_list, PySem.F.slot_list_index, PySem.F.type_list_index, h1, h2, ?_⟩
    have hA := ha.run cpos pins s1 σ H1 _ I1 q1
    rw [hs] at hA ⊢
    refine Calls.callWith_builtin (by show (false || (backTo cpos (starEach es X.env)).any (·.1)) = false; rw [hplain] <;> rfl) (Calls.evalArgs_plain ?_)
    exact L2.thn hA fun us s2 ⟨vs, H2, I2, r2, q2⟩ => mt_index pins s2 σ H2 (.ref p) vs v us Q I2 r1 r2 q2
  · cases r1
    obtain ⟨_, _, _, _, o', h1, h2, _⟩ := (show ObjOk X.prog X.w H1 s1.heap p (.frz ob (.tup ys)) from I1.hok p _ hq)
    have hob : s1.heap.get? p = some ob := by
      have := I1.hok p _ hq
      exact this.1
    refine ⟨"tuple", "tuple.index", PySem.F.plainAttrs_tuple, PySem.F.slot_tuple_index, PySem.F.type_tuple_index, ⟨o', h1, h2⟩, fun a e => by cases e; exact ⟨ob, hob, hn⟩, ?_⟩
    have hA := ha.run cpos pins s1 σ H1 _ I1 q1
    rw [hs] at hA ⊢
    refine Calls.callWith_builtin (by show (false || (backTo cpos (starEach es X.env)).any (·.1)) = false; rw [hplain] <;> rfl) (Calls.evalArgs_plain ?_)
    exact L2.thn hA fun us s2 ⟨vs, H2, I2, r2, q2⟩ => mt_idxT pins s2 σ H2 (.ref p) vs (.ref p) us Q I2 rfl r2 q2
def idxF (ds : List PyData) (d : PyData) : Option PyData := if flatD d = true ∧ ds.all flatD = true then (ds.findIdx? fun z => PyData.eqv z d).map fun j => .int (j : Nat) else none
def gIdx : PyData → PyData → Option PyData
  | .list ds, d => idxF ds d
  | .tuple ds, d => idxF ds d
  | _, _ => none
theorem idxF_some {ds : List PyData} {d x : PyData} (h : idxF ds d = some x) : flatD d = true ∧ ds.all flatD = true ∧ ∃ (j : Nat) (z : PyData), x = .int (j : Nat) ∧ ds[j]? = some z ∧ PyData.eqv z d = true ∧ ∀ (m : Nat) (z' : PyData), m < j → ds[m]? = some z' → PyData.eqv z' d = false := by
  unfold idxF at h
  obtain ⟨⟨c1, c2⟩, h⟩ := ite_get h
  refine ⟨c1, c2, ?_⟩
  cases hf : ds.findIdx? (fun z => PyData.eqv z d) with
  | none => rw [hf] at h; cases h
  | some j =>
    rw [hf] at h
    cases h
    obtain ⟨hl, h1, h2⟩ := List.findIdx?_eq_some_iff_getElem.mp hf
    refine ⟨j, ds[j], rfl, List.getElem?_eq_getElem hl, h1, fun m z' hm hz => ?_⟩
    obtain ⟨hml, ez⟩ := List.getElem?_eq_some_iff.mp hz
    have := h2 m hm
    rw [← ez]
    exact Bool.eq_false_iff.mpr (by simpa using this)
theorem ed_index (ho : ED K X M o to fo) (ha : ED K X M a ta fa)
    (hs1 : starEach [a] X.env = (false, eval a X.env) :: starEach [] X.env := by rfl)
    (hbase : attributeBase o "index" X.env (eval o X.env) = eval o X.env := by rfl)
    (hfew : ((backTo cpos (starEach [a] X.env)).all (fun x => !x.1) && (backToKw cpos (keywordEach [] X.env)).all (fun x => x.1.isSome)
      && decide ([a].length + ([] : List Keyword).length + (if ([] : List Keyword).isEmpty then 0 else 1) < 30)) = true := by rfl)
    (hline : (apos.endLine == cpos.line) = true := by rfl) (hplain : (backTo cpos (starEach [] X.env)).any (·.1) = false := by rfl) (hK : X.K = K := by rfl) :
    ED K X M (.Call (.Attribute o "index" apos) [a] [] cpos) (tIdx K to (tCons ta tNil)) (f2 gIdx fo fa) := by
  subst hK
  refine ⟨pe_idx ho.pe (pa_cons ha.pe pa_nil hs1) hbase hfew hline hs1 hplain, fun {Hs0 H0 Hs H σ ρ d Q} R hf q => ?_⟩
  obtain ⟨x, h1, hf⟩ := bind_some hf
  obtain ⟨y, h2, hf⟩ := bind_some hf
  refine ho.sm R h1 fun v Hs1 H1 g1 d1 => ?_
  cases d1 with
  | @lst p xs ds hp t =>
    obtain ⟨c1, c2, j, z, rfl, hj, hz, hm⟩ := idxF_some hf
    refine ⟨p, rfl, .inl ⟨⟨xs, sqL_of (g1.sub _ _ hp)⟩, ha.sm (R.grow g1) h2 fun u Hs2 H2 g2 d2 => ?_⟩⟩
    have t2 := t.mono g2.exs
    obtain ⟨zv, hzv, dz⟩ := t2.get hj
    refine ⟨p, xs, u, j, zv, rfl, rfl, sqL_of (g2.sub _ _ (g2.exs _ _ hp)), flat_dv d2 c1, flats_dv t2 c2, hzv, ?_, fun m z' hmj hz' => ?_, q _ Hs2 H2 (g1.trans g2) (.int _)⟩
    · rw [eqV_dv dz d2 (List.all_eq_true.mp c2 z (List.mem_of_getElem? hj)) c1]; exact hz
    · obtain ⟨dm, h3, h4⟩ := t2.getv hz'
      rw [eqV_dv h4 d2 (List.all_eq_true.mp c2 dm (List.mem_of_getElem? h3)) c1]
      exact hm m dm hmj h3
  | @tup p ob xs ds hn hp t =>
    obtain ⟨c1, c2, j, z, rfl, hj, hz, hm⟩ := idxF_some hf
    refine ⟨p, rfl, .inr ⟨⟨ob, xs, hn, g1.sub _ _ hp⟩, ha.sm (R.grow g1) h2 fun u Hs2 H2 g2 d2 => ?_⟩⟩
    have t2 := t.mono g2.exs
    obtain ⟨zv, hzv, dz⟩ := t2.get hj
    refine ⟨p, xs, u, j, zv, rfl, rfl, sqT_of (g2.sub _ _ (g2.exs _ _ hp)), flat_dv d2 c1, flats_dv t2 c2, hzv, ?_, fun m z' hmj hz' => ?_, q _ Hs2 H2 (g1.trans g2) (.int _)⟩
    · rw [eqV_dv dz d2 (List.all_eq_true.mp c2 z (List.mem_of_getElem? hj)) c1]; exact hz
    · obtain ⟨dm, h3, h4⟩ := t2.getv hz'
      rw [eqV_dv h4 d2 (List.all_eq_true.mp c2 dm (List.mem_of_getElem? h3)) c1]
      exact hm m dm hmj h3
  | _ => cases hf

/-! ### own lists: extend, an item of one, and the rest that only reads -/
@[simp] def gExt (i : Nat) (f : Rho → Option (List PyData)) : Gn := fun ρ => (lstAt i ρ).bind fun ds => (f ρ).bind fun es => if ds.length + es.length ≤ 1000000 then some (.nx (ρ.set i (some (.list (ds ++ es))))) else none
theorem sd_extend (i : Nat) {x : Str} {f : Rho → Option (List PyData)} (h : FD K X M e te f) (hN : X.N[i]? = some x := by rfl) (hv : Vis X.env.scope x := by first | exact Or.inl rfl | exact Or.inr (Or.inl rfl) | exact Or.inr (Or.inr rfl)) (hM : M.contains i = true := by rfl)
    (hbase : attributeBase (.Name x pos') "extend" X.env (eval (.Name x pos') X.env) = eval (.Name x pos') X.env := by rfl)
    (hfew : ((backTo pos (starEach [e] X.env)).all (fun x => !x.1) && (backToKw pos (keywordEach [] X.env)).all (fun x => x.1.isSome)
      && decide ([e].length + ([] : List Keyword).length + (if ([] : List Keyword).isEmpty then 0 else 1) < 30)) = true := by rfl)
    (hline : (apos.endLine == pos.line) = true := by rfl) (hst : starEach [e] X.env = (false, eval e X.env) :: starEach [] X.env := by rfl) {pos2 : Pos} (hs : swapsWith (.Call (.Attribute (.Name x pos') "extend" apos) [e] [] pos) none pos2.line X.env = pure false := by rfl) (hd : (x == ("__debug__" : Str)) = false := by decide) (hcd : (x == ("__classdict__" : Str)) = false := by decide) :
    SD K xc X M W (.Expr (.Call (.Attribute (.Name x pos') "extend" apos) [e] [] pos) pos2) (tDrop (tBM X.K "list" rExtend (tVar i) (tCons te tNil))) (gExt i f) :=
  ⟨ps_expr (pe_bm PySem.F.plainAttrs_list PySem.F.slot_list_extend PySem.F.type_list_extend mt_extend (pe_var hN hv hd hcd) (pa_cons h.pe pa_nil hst) hbase hfew hline hst rfl) hs, fun {Hs0 H0 Hs H σ ρ r D} R hf o => by
    obtain ⟨ds, h1, h2⟩ := bind_some hf
    obtain ⟨es, h3, h4⟩ := bind_some h2
    obtain ⟨hl, rfl⟩ := ite_some h4
    have hρ := lstAt_some h1
    obtain ⟨p, xs, e1, e2, e3, e4, e5⟩ := R.ownAt hρ hM
    refine ⟨.ref p, e1, .inl ⟨rfl, _, sqL_of e2⟩, h.sm R h3 fun q zs Hs1 H1 g1 hq hsq hH d1 => ?_⟩
    refine ⟨p, q, xs, zs, rfl, rfl, g1.ex _ _ e2, hH, szM (by rw [e5.length, d1.length]; exact hl), ?_⟩
    exact o Hs1 _ σ g1.exs ((R.grow g1).upd hM e1 ⟨_, hρ⟩ (g1.new p e3 (by rw [e2]; simp)) e4 ((e5.mono g1.exs).append d1))⟩
/-- an item of an own list -/
@[simp] def fOwnIx (i : Nat) (fb : Fn) : Fn := fun ρ => (lstAt i ρ).bind fun ds => (fb ρ).bind fun k => match k with
  | .int k => atI ds k
  | _ => none
@[simp] def gRets (g : Gn) : Gn := fun ρ => (g ρ).bind fun r => match r with
  | .ret d => some (.ret d)
  | _ => none
theorem ss_rets {rest : List Stmt} {t : TS} {g : Gn} (h : SS K xc X [] W rest t g) : SS K xc X M W rest t (gRets g) :=
  ⟨h.ps, fun {Hs0 H0 Hs H σ ρ r D} R hf o => by
    obtain ⟨r1, h1, h2⟩ := bind_some hf
    cases r1 with
    | ret d =>
      obtain rfl := Option.some.inj h2
      obtain ⟨Hp', e1, R1, _⟩ := R.thaw
      exact h.sm R1 h1 o
    | _ => cases h2⟩
end
end DL

namespace DL
open PySem PySem.Spec PyProof.Rows L2
/-! ### the first place of a number -/
def ixI : List Int → Int → Nat
  | [], _ => 0
  | a :: l, x => if a = x then 0 else ixI l x + 1
theorem findIdx_ints (x : Int) : ∀ l : List Int, x ∈ l → (l.map PyData.int).findIdx? (fun z => PyData.eqv z (.int x)) = some (ixI l x)
  | [], h => by cases h
  | a :: l, h => by
    rw [List.map_cons, List.findIdx?_cons, emb_int a x]
    unfold ixI
    by_cases e : a = x
    · rw [if_pos e]; simp [e]
    · have h' : x ∈ l := by
        rcases List.mem_cons.mp h with z | z
        · exact absurd z.symm e
        · exact z
      rw [if_neg e, findIdx_ints x l h']
      simp [e]
theorem ixI_get {x : Int} : ∀ {l : List Int}, x ∈ l → l[ixI l x]? = some x
  | [], h => by cases h
  | a :: l, h => by
    unfold ixI
    by_cases e : a = x
    · rw [if_pos e]; simp [e]
    · have h' : x ∈ l := by
        rcases List.mem_cons.mp h with z | z
        · exact absurd z.symm e
        · exact z
      rw [if_neg e, List.getElem?_cons_succ]
      exact ixI_get h'
theorem ixI_lt {x : Int} {l : List Int} (h : x ∈ l) : ixI l x < l.length := (List.getElem?_eq_some_iff.mp (ixI_get h)).1
theorem ixI_getD {x : Int} {l : List Int} (h : x ∈ l) : l.getD (ixI l x) 0 = x := by
  rw [List.getD_eq_getElem?_getD, ixI_get h]
  rfl
theorem ixI_of {l : List Int} (h : l.Nodup) {i : Nat} (hi : i < l.length) : ixI l (l.getD i 0) = i :=
  getD_inj h (ixI_lt (getD_mem hi)) hi (ixI_getD (getD_mem hi))
theorem gIdx_list {l : List Int} {x : Int} (h : x ∈ l) : gIdx (.list (l.map .int)) (.int x) = some (.int (ixI l x)) := by
  show idxF _ _ = _
  unfold idxF
  rw [if_pos ⟨rfl, flat_ints l⟩, findIdx_ints x l h]
  rfl
theorem gIdx_tup {l : List Int} {x : Int} (h : x ∈ l) : gIdx (.tuple (l.map .int)) (.int x) = some (.int (ixI l x)) := by
  show idxF _ _ = _
  unfold idxF
  rw [if_pos ⟨rfl, flat_ints l⟩, findIdx_ints x l h]
  rfl
/-- the numbers below to that are met, in order -/
theorem met_sset {a : Mp} (h : Wf a) : ((List.range a.1.toNat).filter (fun (i : Nat) => decide ((i : Int) ∈ a.2))).map (fun (i : Nat) => (i : Int)) = sset a.2 := by
  refine rise_eq ?_ (sset_lt a.2) fun x => ?_
  · rw [List.pairwise_map]
    exact (List.pairwise_lt_range.filter _).imp fun h => by omega
  · rw [sset_mem, List.mem_map]
    constructor
    · rintro ⟨i, hi, rfl⟩
      exact of_decide_eq_true (List.mem_filter.mp hi).2
    · intro hx
      have := h.lt x hx
      have hr := h.rng
      refine ⟨x.toNat, List.mem_filter.mpr ⟨List.mem_range.mpr (by omega), ?_⟩, by omega⟩
      rw [decide_eq_true_eq, show ((x.toNat : Nat) : Int) = x by omega]
      exact hx
theorem sset_le_to {a : Mp} (h : Wf a) : ((sset a.2).length : Int) ≤ a.1 := by
  have hr := h.rng
  have := nodup_len (rise_nodup (sset_lt a.2)) (rise_nodup (idr_lt a.1.toNat)) fun x hx => mem_idr.mpr (by have := h.lt x (sset_mem.mp hx); omega)
  rw [idr_len] at this
  omega
end DL

namespace DL
open PySem PySem.Spec PyProof.Rows L2
/-- a loop that goes on or returns -/
theorem forF_ix {tg : PyData → Rho → Option Rho} {b : Gn} (P : Nat → Rho → Prop) (R : PyData → Prop) : ∀ (ds : List PyData) (n : Nat) (ρ : Rho), (∀ i d, ds[i]? = some d → ∀ ρ, P (n + i) ρ → ∃ ρ1, tg d ρ = some ρ1 ∧ ((∃ ρ', b ρ1 = some (.nx ρ') ∧ P (n + i + 1) ρ') ∨ ∃ r, b ρ1 = some (.ret r) ∧ R r)) → P n ρ →
    (∃ ρ', forF tg b ds ρ = some (.nx ρ') ∧ P (n + ds.length) ρ') ∨ ∃ r, forF tg b ds ρ = some (.ret r) ∧ R r
  | [], n, ρ, _, h => .inl ⟨ρ, rfl, h⟩
  | d :: ds, n, ρ, h, hp => by
    obtain ⟨ρ1, h1, h2⟩ := h 0 d rfl ρ hp
    rcases h2 with ⟨ρ2, h2, h3⟩ | ⟨r, h2, h3⟩
    · have ih := forF_ix P R ds (n + 1) ρ2 (fun i d' hd ρ hp => by
        have := h (i + 1) d' hd ρ (by rw [show n + (i + 1) = n + 1 + i by omega]; exact hp)
        rwa [show n + (i + 1) = n + 1 + i by omega] at this) h3
      unfold forF
      rw [h1, Option.bind_some, h2, Option.bind_some]
      rw [show n + 1 + ds.length = n + (d :: ds).length by rw [List.length_cons]; omega] at ih
      exact ih
    · refine .inr ⟨r, ?_, h3⟩
      unfold forF
      rw [h1, Option.bind_some, h2]
      rfl
/-- .. over the ints of a row with their places -/
theorem for_en {fs : Fn} {j1 j2 : Nat} {b : Gn} {ρ : Rho} {r : List Int} {d : PyData} (P : Nat → Rho → Prop) (R : PyData → Prop) (h1 : fs ρ = some d) (hd : d = .tuple (r.map .int) ∨ d = .list (r.map .int))
    (h : ∀ i, i < r.length → ∀ ρ, P i ρ → (∃ ρ', b ((ρ.set j1 (some (.int i))).set j2 (some (.int (r.getD i 0)))) = some (.nx ρ') ∧ P (i + 1) ρ') ∨ ∃ x, b ((ρ.set j1 (some (.int i))).set j2 (some (.int (r.getD i 0)))) = some (.ret x) ∧ R x) (h0 : P 0 ρ) :
    (∃ ρ', gFor (iEn fs) (hSeq 2 (hCons (hName j1) (hCons (hName j2) hNil))) b ρ = some (.nx ρ') ∧ P r.length ρ') ∨ ∃ x, gFor (iEn fs) (hSeq 2 (hCons (hName j1) (hCons (hName j2) hNil))) b ρ = some (.ret x) ∧ R x := by
  have e : iEn fs ρ = some ((List.range r.length).map fun (i : Nat) => PyData.tuple [.int i, .int (r.getD i 0)]) := by
    unfold iEn
    rw [h1, Option.bind_some]
    rcases hd with rfl | rfl <;> simp only [enD_ints]
  have := forF_ix (tg := hSeq 2 (hCons (hName j1) (hCons (hName j2) hNil))) (b := b) P R ((List.range r.length).map fun (i : Nat) => PyData.tuple [.int i, .int (r.getD i 0)]) 0 ρ (fun i d hd ρ hp => by
    have hi : i < r.length := by
      have := (List.getElem?_eq_some_iff.mp hd).1
      rwa [List.length_map, List.length_range] at this
    rw [List.getElem?_map, List.getElem?_range hi] at hd
    cases hd
    rw [Nat.zero_add] at hp ⊢
    exact ⟨_, rfl, h i hi ρ hp⟩) h0
  rw [List.length_map, List.length_range, Nat.zero_add] at this
  unfold gFor
  rw [e, Option.bind_some]
  exact this
/-- .. over a range -/
theorem for_rg {h' : Rho → Option (List PyData)} {j : Nat} {b : Gn} {ρ : Rho} {lo : Int} {n : Nat} (P : Nat → Rho → Prop) (R : PyData → Prop) (h1 : h' ρ = some (rgD lo n))
    (h : ∀ i, i < n → ∀ ρ, P i ρ → (∃ ρ', b (ρ.set j (some (.int (lo + i)))) = some (.nx ρ') ∧ P (i + 1) ρ') ∨ ∃ x, b (ρ.set j (some (.int (lo + i)))) = some (.ret x) ∧ R x) (h0 : P 0 ρ) :
    (∃ ρ', gFor h' (hName j) b ρ = some (.nx ρ') ∧ P n ρ') ∨ ∃ x, gFor h' (hName j) b ρ = some (.ret x) ∧ R x := by
  have := forF_ix (tg := hName j) (b := b) P R (rgD lo n) 0 ρ (fun i d hd ρ hp => by
    have hi : i < n := by
      have := (List.getElem?_eq_some_iff.mp hd).1
      rwa [rgD_len] at this
    rw [rgD_get hi] at hd
    cases hd
    rw [Nat.zero_add] at hp ⊢
    exact ⟨_, rfl, h i hi ρ hp⟩) h0
  rw [rgD_len, Nat.zero_add] at this
  unfold gFor
  rw [h1, Option.bind_some]
  exact this
theorem shK_str {k : Nat} (hk : 1 ≤ k) {x : Str} (h : PyData.canLay0 (.str x) = true) : shK k (.str x) := ⟨h, by simp [PyData.depth] <;> omega⟩
theorem gEq_str (neg : Bool) {x y : Str} (hx : PyData.canLay0 (.str x) = true) (hy : PyData.canLay0 (.str y) = true) : gEq neg (.str x) (.str y) = some (.bool (xor neg (x == y))) := by
  unfold gEq
  rw [if_pos ⟨shaped_of (shK_str (k := 1) (by decide) hx), shaped_of (shK_str (k := 1) (by decide) hy)⟩]
  rfl
theorem ixN_of {n : Nat} {x : Int} (h : 0 ≤ x ∧ x < n) : ixN n x = some x.toNat := by
  unfold ixN
  rw [if_pos h.1, if_pos h.2]
theorem ix_row {m : Mp} {i : Nat} (h : i < m.2.length) : gIx (.tuple (m.2.map .int)) (.int i) = some (.int (m.2.getD i 0)) := by
  rw [gIx_tuple, atI_ints (by omega), show ((i : Int)).toNat = i by omega]
end DL

namespace DL
open PySem PySem.Spec PyProof.Rows L2
section
variable {K : PySem.W.Frag} {X : Cx} {M : List Nat} {xc : Nat → Addr} {W : WX} {a b e o tg : Expr} {ta tb te to : TE} {fa fb f fo : Fn} {pos p p2 pos' apos cpos : Pos}
/-! ### x.bit_length() -/
@[simp] def gBits : PyData → Option PyData
  | .int i => some (.int (Builtin.Int.intBits i : Nat))
  | _ => none
theorem ed_bits (ho : ED K X M o to fo) (hbase : attributeBase o "bit_length" X.env (eval o X.env) = eval o X.env := by rfl) (hline : (apos.endLine == pos.line) = true := by rfl) : ED K X M (.Call (.Attribute o "bit_length" apos) [] [] pos) (tBits to) (f1 gBits fo) :=
  ⟨pe_bits ho.pe hbase hline, fun {Hs0 H0 Hs H σ ρ d Q} R hf q => by
    obtain ⟨x, h1, h2⟩ := bind_some hf
    refine ho.sm R h1 fun v Hs1 H1 g1 d1 => ?_
    cases d1 with
    | int i =>
      obtain rfl := Option.some.inj h2
      exact ⟨i, rfl, q _ Hs1 H1 g1 (.int _)⟩
    | _ => cases h2⟩
/-! ### for x in reversed(range(n)) -/
def rvD (n : Nat) : List PyData := (List.range n).map fun (i : Nat) => PyData.int ((n : Int) - 1 - i)
theorem rvD_len (n : Nat) : (rvD n).length = n := by unfold rvD; rw [List.length_map, List.length_range]
theorem rvD_get {n i : Nat} (h : i < n) : (rvD n)[i]? = some (.int ((n : Int) - 1 - i)) := by
  unfold rvD
  rw [List.getElem?_map, List.getElem?_range h]
  rfl
theorem yields_rv {Hs : Hp} {n : Nat} {lo : Int} (hlo : lo = (n : Int) - 1) : Yields K (Dd K) (Itc lo (-1) n) Hs (rvD n) where
  go := fun i H e hi => by rw [rvD_len] at hi; exact hi
  stop := fun i H e hi => by rw [rvD_len] at hi; exact hi
  yld := fun i H x H' Hs2 hi e1 e2 h => by
    obtain ⟨rfl, rfl⟩ := h
    rw [rvD_len] at hi
    refine ⟨Hs2, Grow.refl e2, _, rvD_get hi, ?_⟩
    rw [show lo + (i : Nat) * (-1) = (n : Int) - 1 - i by omega]
    exact .int _
@[simp] noncomputable def iRv (f : Fn) : Rho → Option (List PyData) := fun ρ => (f ρ).bind fun d => match d with
  | .int j => if B62 j then some (rvD j.toNat) else none
  | _ => none
theorem id_revR {pos2 : Pos} (ha : ED K X M a ta f) (hm : X.mg "range" = none) (hm2 : X.mg "reversed" = none) (hg : Gl X "range" := by rfl) (hg2 : Gl X "reversed" := by rfl) (na : starEach [a] X.env = (false, eval a X.env) :: starEach [] X.env := by rfl)
    (hs : starEach [.Call (.Name "range" p) [a] [] pos] X.env = (false, eval (.Call (.Name "range" p) [a] [] pos) X.env) :: starEach [] X.env := by rfl) :
    ID K X M (Dd K) tg (.Call (.Name "reversed" p2) [.Call (.Name "range" p) [a] [] pos] [] pos2) (iRevR (tRg1 ta)) (iRv f) :=
  ⟨pi_revR hg2 hm2 (prg_1 hg hm ha.pe na) hs, fun {Hs0 H0 Hs H σ ρ ds R} r hf q => by
    obtain ⟨d, h1, h2⟩ := bind_some hf
    refine ha.sm r h1 fun v Hs1 H1 g1 d1 => ?_
    cases d1 with
    | int j =>
      obtain ⟨hb, rfl⟩ := ite_some h2
      refine ⟨j, rfl, by decide, by decide, hb.1, hb.2, q _ Hs1 H1 g1 ?_⟩
      rw [show (j - 0).toNat = j.toNat by omega]
      exact yields_rv (by omega)
    | _ => cases h2⟩
/-! ### x, y = a, b -/
@[simp] def gPar (i j : Nat) (fa fb : Fn) : Gn := fun ρ => (fa ρ).bind fun d => (fb ρ).bind fun d' => some (.nx ((ρ.set i (some d)).set j (some d')))
theorem sd_par (i j : Nat) {x y : Str} {px py pt pt2 : Pos} {kt k2 : Nat} (hN : X.N.Nodup) (ha : ED K X M a ta fa) (hb : ED K X M b tb fb)
    (hi : X.N[i]? = some x := by rfl) (hj : X.N[j]? = some y := by rfl) (hij : i ≠ j := by decide) (hMi : M.contains i = false := by rfl) (hMj : M.contains j = false := by rfl)
    (hx : X.env.scope.names.lookup x = some .local := by rfl) (hy : X.env.scope.names.lookup y = some .local := by rfl) (hc : X.calm = true := by rfl)
    (hw : swappedStores [.Tuple [.Name x px, .Name y py] kt pt] (.Tuple [a, b] k2 pt2) X.env = pure (some [x, y]) := by rfl)
    (hs : swapsWithSole [.Tuple [.Name x px, .Name y py] kt pt] (.Tuple [a, b] k2 pt2) pos.line X.env = pure false := by rfl)
    (n1 : starEach [a, b] X.env = (false, eval a X.env) :: starEach [b] X.env := by rfl) (n2 : starEach [b] X.env = (false, eval b X.env) :: starEach [] X.env := by rfl) :
    SD K xc X M W (.Assign [.Tuple [.Name x px, .Name y py] kt pt] (.Tuple [a, b] k2 pt2) pos) (tPar i j (tCons ta (tCons tb tNil))) (gPar i j fa fb) :=
  ⟨ps_par hc hN hi hj hij hx hy (pa_cons ha.pe (pa_cons hb.pe pa_nil n2) n1) hw hs, fun {Hs0 H0 Hs H σ ρ r D} R hf o => by
    obtain ⟨d, h1, hf⟩ := bind_some hf
    obtain ⟨d', h2, hf⟩ := bind_some hf
    obtain rfl := Option.some.inj hf
    refine ha.sm R h1 fun v Hs1 H1 g1 d1 => ?_
    refine hb.sm (R.grow g1) h2 fun u Hs2 H2 g2 d2 => ?_
    exact ⟨v, u, rfl, o Hs2 H2 _ (g1.exs.trans g2.exs) ((((R.grow g1).grow g2).set hMi (d1.mono g2.exs)).set hMj d2)⟩⟩
/-! ### an item of an own list -/
theorem ed_ownIx (i : Nat) {x : Str} (hb : ED K X M b tb fb) (hN : X.N[i]? = some x := by rfl) (hv : Vis X.env.scope x := by first | exact Or.inl rfl | exact Or.inr (Or.inl rfl) | exact Or.inr (Or.inr rfl)) (hM : M.contains i = true := by rfl)
    (hd : (x == ("__debug__" : Str)) = false := by decide) (hcd : (x == ("__classdict__" : Str)) = false := by decide) (hs : PlainIx b := by exact fun _ _ => rfl) (hK : X.K = K := by rfl) :
    ED K X M (.Subscript (.Name x pos') b pos) (tOp (rIx K) (tVar i) tb) (fOwnIx i fb) := by
  subst hK
  refine ⟨pe_ix ix_seq (pe_var hN hv hd hcd) hb.pe hs, fun {Hs0 H0 Hs H σ ρ d Q} R hf q => ?_⟩
  obtain ⟨ds, h1, hf⟩ := bind_some hf
  obtain ⟨k, h2, hf⟩ := bind_some hf
  have hρ := lstAt_some h1
  obtain ⟨p0, xs, e1, e2, e3, e4, e5⟩ := R.ownAt hρ hM
  refine ⟨.ref p0, e1, hb.sm R h2 fun u Hs1 H1 g1 d1 => ?_⟩
  cases d1 with
  | int j =>
    obtain ⟨v, h3, h4⟩ := (e5.mono g1.exs).at hf
    exact .inl ⟨p0, xs, j, v, rfl, rfl, sqL_of (g1.ex _ _ e2), h3, q v Hs1 H1 g1 h4⟩
  | _ => cases hf
/-! ### a plain thing, read off with the own lists held still -/
@[simp] def fFlat (f : Fn) : Fn := fun ρ => (f ρ).bind fun d => if flatD d = true then some d else none
theorem dd_flat {Hs Hs' : Hp} {v : V} {d : PyData} (h : Dd K Hs v d) (hf : flatD d = true) : Dd K Hs' v d := by
  cases h <;> first | exact absurd hf Bool.false_ne_true | constructor
theorem ed_flat (h : ED K X [] e te f) : ED K X M e te (fFlat f) :=
  ⟨h.pe, fun {Hs0 H0 Hs H σ ρ d Q} R hf q => by
    obtain ⟨d', h1, h2⟩ := bind_some hf
    obtain ⟨hfl, rfl⟩ := ite_some h2
    obtain ⟨Hp', e1, _, R1⟩ := R.thaw
    exact h.sm R1 h1 fun v Hs1 H1 g1 d1 => q v Hs H1 (Grow.idle R.sub g1.ex) (dd_flat d1 hfl)⟩
theorem dds_flat {Hs Hs' : Hp} : ∀ {vs : List V} {ds : List PyData}, DdAll K Hs vs ds → ds.all flatD = true → DdAll K Hs' vs ds
  | _, _, .nil, _ => .nil
  | _, _, .cons a r, f => by
    rw [List.all_cons, Bool.and_eq_true] at f
    exact .cons (dd_flat a f.1) (dds_flat r f.2)
@[simp] def lFlat (f : Rho → Option (List PyData)) : Rho → Option (List PyData) := fun ρ => (f ρ).bind fun ds => if ds.all flatD = true then some ds else none
theorem fd_flat {f : Rho → Option (List PyData)} (h : FD K X [] e te f) : FD K X M e te (lFlat f) :=
  ⟨h.pe, fun {Hs0 H0 Hs H σ ρ d Q} R hf q => by
    obtain ⟨d', h1, h2⟩ := bind_some hf
    obtain ⟨hfl, rfl⟩ := ite_some h2
    obtain ⟨Hp', e1, _, R1⟩ := R.thaw
    exact h.sm R1 h1 fun p0 xs Hs1 H1 g1 hp hsp hH d1 => q p0 xs Hs H1 (Grow.idle R.sub g1.ex) hp (R.sub.free hp) hH (dds_flat d1 hfl)⟩
/-! ### x = y, y an own list that is not used after -/
@[simp] def gGive (j i : Nat) : Gn := fun ρ => (lstAt i ρ).bind fun ds => some (.nx ((ρ.set j (some (.list ds))).set i none))
/-! ### x = y.pop() -/
@[simp] def gPop (j i : Nat) : Gn := fun ρ => (lstAt i ρ).bind fun ds => (ds[ds.length - 1]?).bind fun d => some (.nx ((ρ.set i (some (.list ds.dropLast))).set j (some d)))
end
end DL

namespace DL
open PySem PySem.Spec PyProof.Rows L2
/-! ### set(a list of ints), with its table in view -/
abbrev setOb (w : World) : Obj := { cls := .type "set", dict := none, data := .set #[] 0 (.fresh 0 0 (!w.params.followText "set-order")) }
theorem call_setL {P : Program} {w : World} {A : Around} {E : Value → Shared → Prop} {s : Shared} {q : Addr} {vs : Array Value} (ns : List Int) {Q : Value → Shared → Prop} (calm : A.handled = none) (isL : s.heap.IsList q vs) (hin : IntsAre vs.toList ns) (few : ns.length + 1 < scanBound)
    (done : ∀ (hp : Heap) (t n : Nat), SetR w hp s.heap.objs.size (fun j => decide (j ∈ ns)) n → n ≤ ns.length → (∀ b u, s.heap.get? b = some u → hp.get? b = some u) → Q (.ref s.heap.objs.size) { s with heap := hp, toks := t }) :
    wpAny (model P w) A (call (.type "set") [.ref q]) Q E s := by
  have nv : vs.size = ns.length := by
    have z := IntsAre.length hin
    rwa [Array.length_toList] at z
  obtain ⟨_, _, mro⟩ := F.called_set.mro
  have mk := F.called_set.made
  have sb := F.called_set.sub
  have nt := F.called_set.notType
  have cc := F.called_set.canCreate
  have tc := F.typeCall_set_1 (.ref q)
  refine wpAny_call (codeAny_of_tree ?_)
  show wpAny _ _ (callAny (.type "set") _) _ _ _
  refine wpAny_pure ⟨Code.quiet_builtin _ (by decide +kernel), codeAny_builtin F.entry_type_call ?_⟩
  rw [Around.under_plain (weight_type_call_type "set" [.ref q] []) rfl]
  repeat (any_goals (first | assumption | wp_step))
  refine codeAny_mono (code_set_led1 (.ref q) (E := E) (Q₁ := fun v s1 => v = .ref s.heap.objs.size ∧ s1 = { s with heap := s.heap.push (setOb w) }) ⟨rfl, rfl⟩) fun r s1 hr => ?_
  cases r with
  | error e => exact hr
  | ok fl =>
    cases fl with
    | ret v =>
      obtain ⟨rfl, rfl⟩ := hr
      have at0 : (s.heap.push (setOb w)).get? s.heap.objs.size = some (setOb w) := Heap.get?_push_size _ rfl
      have ty0 : Shared.TypeIs { s with heap := s.heap.push (setOb w) } (.ref s.heap.objs.size) "set" := ⟨_, at0, rfl⟩
      have lk := F.called_set.init.lookup
      have bd := F.called_set.init.bind (.ref s.heap.objs.size)
      repeat (any_goals (first | assumption | wp_step))
      refine codeAny_mono (codeAny_call_builtin (R := wants (fun r s2 => r = .none ∧ ∃ hp t n, s2 = { s with heap := hp, toks := t } ∧ SetR w hp s.heap.objs.size (fun j => decide (j ∈ ns)) n ∧ n ≤ ns.length ∧ (∀ b u, s.heap.get? b = some u → hp.get? b = some u)) E)
        F.called_set.init.plain F.entry_set_init (check_set_init_1 ty0 ?_)) fun r2 s2 hr2 => ?_
      · obtain ⟨⟨oc, od, odt, osl⟩, ho, e1, n0, e2⟩ := isL
        simp only at e1 e2
        subst e1 e2
        have ho1 : (s.heap.push (setOb w)).get? q = some { cls := .type "list", dict := od, data := .seq vs n0, slots := osl } := Heap.get?_push_of_some _ ho
        have ls := F.sub_list_set
        have lf := F.sub_list_frozenset
        have nd : (Value.type "list" == Value.type "dict") = false := by decide
        have isL1 : (s.heap.push (setOb w)).IsList q vs := ⟨_, ho1, rfl, n0, rfl⟩
        unfold Builtin.«set.__init__» noKeywords Builtin.Frozenset.updateFrom
        generalize gi : pyIter = it
        wp_walk
        subst gi
        refine wpAny_pyIter_list isL1 (wpAny_bind (wpAny_runValue ?_))
        have ql : q < s.heap.objs.size := Heap.lt_size ho
        have zz : (s.heap.push (setOb w)).objs.size = s.heap.objs.size + 1 := Heap.size_push ..
        have q1 : q ≠ (s.heap.push (setOb w)).objs.size := by rw [zz]; exact Nat.ne_of_lt (Nat.lt_succ_of_lt ql)
        have calm3 : A.in1.in1.in1.handled = none := by simp [calm]
        have out : s.heap.objs.size ∉ [(s.heap.push (setOb w)).objs.size, q] := by
          rw [zz]
          intro hm
          rcases List.mem_cons.mp hm with z | z
          · exact Nat.ne_of_lt (Nat.lt_succ_self _) z
          · exact Nat.ne_of_gt ql (List.mem_singleton.mp z)
        have val : ∀ (i : Nat) (v : Value), vs[i]? = some v → ∃ k t, ns[i]? = some k ∧ v = .int k t := fun i v hv => by
          have il : i < ns.length := by rw [← nv]; exact (Array.getElem?_eq_some_iff.mp hv).1
          obtain ⟨t, e⟩ := IntsAre.int_at hin i v (by rw [Array.getElem?_toList]; exact hv)
          exact ⟨ns[i], t, List.getElem?_eq_getElem il, by rw [e, List.getD_eq_getElem?_getD, List.getElem?_eq_getElem il] <;> rfl⟩
        refine set_update_ints ((Walks.list calm3 _ q q1 vs).toS) s.heap.objs.size out ns nv few val (vs.size - 0) 0 _ (by omega) (Nat.zero_le _) ⟨⟨_, Heap.get?_push_size _ rfl, rfl, rfl⟩, isL1.push _⟩ ?start ?fin
        case start =>
          exact ⟨0, Nat.le_refl 0, setR_new_at (Heap.get?_push_of_some _ at0)⟩
        case fin =>
          intro s' n mv hn hS
          obtain ⟨hp, g, d, t, os⟩ := s'
          have eg : g = s.gens := mv.gens
          have ed : d = s.drawn := mv.drawn
          have eo : os = s.os := mv.os
          subst eg ed eo
          show wpAny _ _ _ _ _ _
          refine wpAny_pure ?_
          show wpAny _ _ (ret Value.none) _ _ _
          rw [nv] at hn
          refine wpAny_pure ⟨rfl, hp, t, n, rfl, hS, hn, fun b u e => ?_⟩
          have bl := Heap.lt_size e
          refine mv.heap b u (fun hm => ?_) (Heap.get?_push_of_some _ (Heap.get?_push_of_some _ e))
          rcases List.mem_cons.mp hm with z | z
          · exact Nat.ne_of_lt bl z
          · have z := List.mem_singleton.mp z
            rw [zz] at z
            exact Nat.ne_of_lt (Nat.lt_succ_of_lt bl) z
      · cases r2 with
        | error e => exact hr2
        | ok fl2 =>
          cases fl2 with
          | ret r =>
            obtain ⟨rfl, hp, t, n, rfl, hS, hn, hk⟩ := hr2
            repeat (any_goals (first | assumption | wp_step))
            exact done _ _ _ hS hn hk
          | _ => exact hr2.elim
    | _ => exact hr.elim
section
variable {K : PySem.W.Frag} {X : Cx} {M : List Nat} {a : Expr} {ta : TE} {f : Fn} {pos p p2 q : Pos}
/-- set(a list or a tuple of ints) -/
def rSetA (K : PySem.W.Frag) (w : World) : List V → Hp → VK → Prop := fun xs H Q => ∃ (p : Addr) (ns : List Int), xs = [.ref p] ∧ (SqL K H p (ns.map V.int) ∨ SqT K H p (ns.map V.int)) ∧ ns.length ≤ 1000 ∧ ∀ a, H a = none → Q (.ref a) (upd H a (SetO w a (fun j => decide (j ∈ ns)) (sset ns).length))
theorem cr_setA (hc : X.calm = true) : CallR X (.type "set") (rSetA X.K X.w) := by
  intro pins s σ H xs us Q I r h
  obtain ⟨p0, ns, rfl, hq, hl, q⟩ := h
  rcases hq with hq | hq
  · obtain ⟨u, rfl, rx⟩ := vals1 r
    cases rx
    obtain ⟨its, rv, pt, hz⟩ := I.list hq
    have hi : IntsAre its.toArray.toList ns := ints_of_vals rv
    refine call_setL ns (I.ok.hd hc) pt.isList hi (by unfold scanBound; omega) fun h' tk c R1 hcn k => ?_
    have en : c = (sset ns).length := by
      obtain ⟨o, es, ep, t, ho, hex, hdt, g, nd, hm2, hb, hf, hn, hr, hl2⟩ := id R1
      have := sset_len (ns := ns) nd fun x => by rw [← hm2 x, decide_eq_true_eq]
      rw [List.length_map, Array.length_toList] at this
      exact hn.symm.trans this
    subst en
    exact ⟨.ref _, upd H s.heap.objs.size (SetO X.w s.heap.objs.size _ _), I.laid (t' := tk) k (Nat.le_refl _) (setO_new R1), rfl, q _ (I.hok.fresh (Nat.le_refl _))⟩
  · exact cr_setI hc pins s σ H _ us Q I r ⟨p0, ns, rfl, hq, hl, q⟩
def gSortSetA : PyData → Option (List PyData)
  | .tuple ds => (intsD ds).bind fun ns => if ns.length < 64 then some ((sset ns).map .int) else none
  | .list ds => (intsD ds).bind fun ns => if ns.length < 64 then some ((sset ns).map .int) else none
  | _ => none
theorem fd_sortSetA (ha : ED K X M a ta f) (hm : X.mg "sorted" = none) (hm2 : X.mg "set" = none) (hg : Gl X "sorted" := by rfl) (hg2 : Gl X "set" := by rfl) (hc : X.calm = true := by rfl) (hK : X.K = K := by rfl)
    (na : starEach [a] X.env = (false, eval a X.env) :: starEach [] X.env := by rfl) (nb : starEach [.Call (.Name "set" p2) [a] [] q] X.env = (false, eval (.Call (.Name "set" p2) [a] [] q) X.env) :: starEach [] X.env := by rfl)
    (pa : (backTo q (starEach [] X.env)).any (·.1) = false := by rfl) (pb : (backTo pos (starEach [] X.env)).any (·.1) = false := by rfl) :
    FD K X M (.Call (.Name "sorted" p) [.Call (.Name "set" p2) [a] [] q] [] pos) (tCB (rSortedSet X.w) (tCons (tCB (rSetA K X.w) (tCons ta tNil)) tNil)) (fun ρ => (f ρ).bind gSortSetA) := by
  subst hK
  refine ⟨pe_callB (cr_sortedSet hc) hg hm boot_sorted (pa_cons (pe_callTy (cr_setA hc) hg2 hm2 boot_set (pa_cons ha.pe pa_nil na) (by decide) (by decide) na pa) pa_nil nb) (by decide) (by decide) nb pb, fun {Hs0 H0 Hs H σ ρ d Q} R hf qq => ?_⟩
  obtain ⟨dx, h1, h2⟩ := bind_some hf
  refine ha.sm R h1 fun v Hs1 H1 g1 d1 => ?_
  have key : ∀ {l : Addr} {ns : List Int}, (SqL X.K H1 l (ns.map V.int) ∨ SqT X.K H1 l (ns.map V.int)) → ns.length < 64 → (sset ns).map PyData.int = d → rSetA X.K X.w [.ref l] H1 fun v2 H2 => rSortedSet X.w [v2] H2 Q := fun {l ns} hq hl hd => by
    subst hd
    have hle := sset_le ns
    refine ⟨l, ns, rfl, hq, by omega, fun p0 hp0 => ⟨p0, _, _, rfl, upd_same, by omega, fun ns' p1 hs hmm hlen hp1 => ?_⟩⟩
    have e : ns' = sset ns := rise_eq hs (sset_lt ns) fun x => by rw [hmm, decide_eq_true_eq, sset_mem]
    subst e
    have g2 : Grow Hs1 H1 Hs1 (upd H1 p0 (SetO X.w p0 (fun j => decide (j ∈ ns)) (sset ns).length)) := Grow.alloc0 g1.sub hp0
    have g3 := Grow.alloc0 (o := .lst ((sset ns).map V.int)) g2.sub hp1
    have g := (g1.trans g2).trans g3
    exact qq p1 _ Hs1 _ g (g1.ex.free (g2.ex.free hp1)) (g2.sub.free hp1) upd_same (DdAll.ints _)
  cases d1 with
  | @tup l ob xs ds hn hp t =>
    obtain ⟨ns, h3, h4⟩ := bind_some h2
    obtain ⟨hl, hd⟩ := ite_some h4
    have e := ints_dv t h3
    subst e
    exact key (.inr (sqT_of (g1.sub _ _ hp))) hl hd
  | @lst l xs ds hp t =>
    obtain ⟨ns, h3, h4⟩ := bind_some h2
    obtain ⟨hl, hd⟩ := ite_some h4
    have e := ints_dv t h3
    subst e
    exact key (.inl (sqL_of (g1.sub _ _ hp))) hl hd
  | _ => cases h2
end
end DL

namespace DL
open PySem PySem.Spec PyProof.Rows L2
section
variable {K : PySem.W.Frag} {X : Cx} {M : List Nat} {xc : Nat → Addr} {W : WX} {a b e o tg : Expr} {ta tb te to : TE} {fa fb f fo : Fn} {pos p p2 pos' apos cpos : Pos}
/-! ### x = y, y an own list that is let go -/
theorem giveSR {Hs0 H0 Hs H : Hp} {σ : L2.St} {ρ : Rho} {i j : Nat} {ds : List PyData} (r : SR K M Hs0 H0 Hs H σ ρ) (hMi : M.contains i = true) (hMj : M.contains j = false) (hρ : ρ[i]? = some (some (.list ds))) :
    ∃ p Hs', σ[i]? = some (some (.ref p)) ∧ Same Hs Hs' ∧ SR K M Hs0 H0 Hs' H (σ.set j (some (.ref p))) ((ρ.set j (some (.list ds))).set i none) := by
  obtain ⟨p, xs, e1, e2, e3, e4, e5⟩ := r.ownAt hρ hMi
  have sHs : Same Hs (L2.upd Hs p (.lst xs)) := same_new e3
  have hij : i ≠ j := fun z => by rw [z, hMj] at hMi; cases hMi
  have hj : ∀ {k : Nat} {d : PyData}, ((ρ.set j (some (.list ds))).set i none)[k]? = some (some d) → i ≠ k ∧ (if j = k then d = .list ds ∧ k < ρ.length else ρ[k]? = some (some d)) := fun {k d} h => by
    have hik : i ≠ k := fun z => by
      subst z
      have hl := (List.getElem?_eq_some_iff.mp h).1
      rw [List.length_set] at hl
      rw [List.getElem?_set_self hl] at h
      cases h
    rw [List.getElem?_set_ne hik] at h
    refine ⟨hik, ?_⟩
    by_cases hjk : j = k
    · subst hjk
      have hl := (List.getElem?_eq_some_iff.mp h).1
      rw [List.length_set] at hl
      rw [List.getElem?_set_self hl] at h
      rw [if_pos rfl]
      cases h
      exact ⟨rfl, hl⟩
    · rw [if_neg hjk]
      rwa [List.getElem?_set_ne hjk] at h
  refine ⟨p, L2.upd Hs p (.lst xs), e1, sHs, ⟨⟨r.g.ex, r.g.exs.trans sHs, fun c o z => ?_, fun c z n => ?_⟩, by rw [List.length_set, List.length_set, List.length_set]; exact r.len, fun k d h m => ?_, fun k d h m => ?_, fun k l dk dl q h1 h2 m1 m2 h3 h4 => ?_⟩⟩
  · by_cases hc : c = p
    · subst hc; rw [upd_same] at z; rw [e2]; exact z
    · rw [upd_ne hc] at z; exact r.sub c o z
  · have hc : c ≠ p := fun y => n (by rw [y]; exact e4)
    rw [upd_ne hc]
    exact r.g.new c z n
  · obtain ⟨hik, h⟩ := hj h
    by_cases hjk : j = k
    · subst hjk
      rw [if_pos rfl] at h
      obtain ⟨rfl, hl⟩ := h
      exact ⟨.ref p, List.getElem?_set_self (by rw [r.len]; exact hl), .lst upd_same (e5.mono sHs)⟩
    · rw [if_neg hjk] at h
      obtain ⟨v, h1, h2⟩ := r.frz k d h m
      exact ⟨v, by rw [List.getElem?_set_ne hjk]; exact h1, h2.mono sHs⟩
  · obtain ⟨hik, h⟩ := hj h
    have hjk : j ≠ k := fun z => by rw [z, m] at hMj; cases hMj
    rw [if_neg hjk] at h
    obtain ⟨q, ys, es, h1, h2, h3, h4, h5, h6⟩ := r.own k d h m
    have hqp : q ≠ p := fun z => hik (r.sep i k _ _ p hρ h hMi m e1 (by rw [← z]; exact h2))
    exact ⟨q, ys, es, h1, by rw [List.getElem?_set_ne hjk]; exact h2, h3, by rw [upd_ne hqp]; exact h4, h5, h6.mono sHs⟩
  · obtain ⟨_, h1⟩ := hj h1
    obtain ⟨_, h2⟩ := hj h2
    have hjk : j ≠ k := fun z => by rw [z, m1] at hMj; cases hMj
    have hjl : j ≠ l := fun z => by rw [z, m2] at hMj; cases hMj
    rw [if_neg hjk] at h1
    rw [if_neg hjl] at h2
    rw [List.getElem?_set_ne hjk] at h3
    rw [List.getElem?_set_ne hjl] at h4
    exact r.sep k l dk dl q h1 h2 m1 m2 h3 h4
theorem sd_give (j i : Nat) {x y : Str} (hN : X.N.Nodup) (hi : X.N[i]? = some y := by rfl) (hj : X.N[j]? = some x := by rfl) (hv : Vis X.env.scope y := by first | exact Or.inl rfl | exact Or.inr (Or.inl rfl) | exact Or.inr (Or.inr rfl)) (hx : Loc X.env.scope x := by first | exact Or.inl rfl | exact Or.inr rfl)
    (hMi : M.contains i = true := by rfl) (hMj : M.contains j = false := by rfl) (hd : (y == ("__debug__" : Str)) = false := by decide) (hcd : (y == ("__classdict__" : Str)) = false := by decide)
    (hs : swapsWith (.Name y p) (some (.Name x pos')) pos.line X.env = pure false := by rfl) (hf : X.fn x = true ∨ X.env.scope.names.lookup x = some .local := by first | exact .inl rfl | exact .inr rfl) :
    SD K xc X M W (.Assign [.Name x pos'] (.Name y p) pos) (tAsg (tVar i) (gName j)) (gGive j i) :=
  ⟨ps_set hN hj hx (pe_var hi hv hd hcd) hs hf, fun {Hs0 H0 Hs H σ ρ r D} R hf o => by
    obtain ⟨ds, h1, h2⟩ := bind_some hf
    obtain rfl := Option.some.inj h2
    obtain ⟨q, Hs', e1, e2, R'⟩ := giveSR R hMi hMj (lstAt_some h1)
    exact ⟨.ref q, e1, o Hs' H _ e2 R'⟩⟩
/-! ### a new list from two -/
@[simp] def lCat (fa fb : Fn) : Rho → Option (List PyData) := fun ρ => (fa ρ).bind fun x => (fb ρ).bind fun y => match x, y with
  | .list xs, .list ys => if xs.length + ys.length ≤ 1000000 then some (xs ++ ys) else none
  | _, _ => none
theorem fd_cat (ha : ED K X M a ta fa) (hb : ED K X M b tb fb) : FD K X M (.BinOp a .Add b pos) (tOp rCat ta tb) (lCat fa fb) :=
  ⟨pe_op op_cat ha.pe hb.pe, fun {Hs0 H0 Hs H σ ρ d Q} R hf q => by
    obtain ⟨x, h1, hf⟩ := bind_some hf
    obtain ⟨y, h2, hf⟩ := bind_some hf
    refine ha.sm R h1 fun v Hs1 H1 g1 d1 => ?_
    refine hb.sm (R.grow g1) h2 fun u Hs2 H2 g2 d2 => ?_
    cases d1 with
    | @lst p1 xs ds hp t =>
      cases d2 with
      | @lst p2 ys es hp2 t2 =>
        obtain ⟨hl, rfl⟩ := ite_some hf
        have t1 := t.mono g2.exs
        refine ⟨p1, p2, xs, ys, rfl, rfl, g2.sub _ _ (g2.exs _ _ hp), g2.sub _ _ hp2, szM (by rw [t1.length, t2.length]; exact hl), fun p0 hp0 => ?_⟩
        have g3 : Grow Hs2 H2 Hs2 (L2.upd H2 p0 (.lst (xs ++ ys))) := Grow.alloc0 g2.sub hp0
        exact q p0 _ Hs2 _ ((g1.trans g2).trans g3) (g1.ex.free (g2.ex.free hp0)) (g2.sub.free hp0) upd_same (t1.append t2)
      | _ => cases hf
    | _ => cases hf⟩
/-! ### x = y.pop() -/
theorem DdAll.init {Hs : Hp} : ∀ {vs : List V} {ds : List PyData}, DdAll K Hs vs ds → DdAll K Hs vs.dropLast ds.dropLast
  | _, _, .nil => .nil
  | _, _, .cons a .nil => .nil
  | _, _, .cons a (.cons b r) => .cons a (DdAll.init (.cons b r))
theorem sd_popS (j i : Nat) {x y : Str} (hN : X.N.Nodup) (hi : X.N[i]? = some y := by rfl) (hj : X.N[j]? = some x := by rfl) (hv : Vis X.env.scope y := by first | exact Or.inl rfl | exact Or.inr (Or.inl rfl) | exact Or.inr (Or.inr rfl)) (hx : Loc X.env.scope x := by first | exact Or.inl rfl | exact Or.inr rfl)
    (hMi : M.contains i = true := by rfl) (hMj : M.contains j = false := by rfl) (hd : (y == ("__debug__" : Str)) = false := by decide) (hcd : (y == ("__classdict__" : Str)) = false := by decide)
    (hbase : attributeBase (.Name y p) "pop" X.env (eval (.Name y p) X.env) = eval (.Name y p) X.env := by rfl) (hline : (apos.endLine == cpos.line) = true := by rfl)
    (hs : swapsWith (.Call (.Attribute (.Name y p) "pop" apos) [] [] cpos) (some (.Name x pos')) pos.line X.env = pure false := by rfl) (hf : X.fn x = true ∨ X.env.scope.names.lookup x = some .local := by first | exact .inl rfl | exact .inr rfl) :
    SD K xc X M W (.Assign [.Name x pos'] (.Call (.Attribute (.Name y p) "pop" apos) [] [] cpos) pos) (tAsg (tBM0 X.K "list" rPop (tVar i)) (gName j)) (gPop j i) :=
  ⟨ps_set hN hj hx (pe_bm0 PySem.F.plainAttrs_list PySem.F.slot_list_pop PySem.F.type_list_pop mt_pop (pe_var hi hv hd hcd) hbase hline) hs hf, fun {Hs0 H0 Hs H σ ρ r D} R hf o => by
    obtain ⟨ds, h1, h2⟩ := bind_some hf
    obtain ⟨d, h3, h4⟩ := bind_some h2
    obtain rfl := Option.some.inj h4
    have hρ := lstAt_some h1
    obtain ⟨q, xs, e1, e2, e3, e4, e5⟩ := R.ownAt hρ hMi
    obtain ⟨v, h5, h6⟩ := e5.get h3
    rw [← e5.length] at h5
    refine ⟨.ref q, e1, .inl ⟨rfl, _, sqL_of e2⟩, q, xs, v, rfl, rfl, e2, h5, ?_⟩
    have R' := R.upd hMi e1 ⟨_, hρ⟩ e3 e4 e5.init
    exact o Hs _ _ (Same.refl _) (R'.set hMj h6)⟩
/-! ### s.index(x), s a list of any data -/
def idxD (ds : List PyData) (d : PyData) : Option PyData := if SeqAt.shaped (.list ds) = true ∧ SeqAt.shaped d = true then (ds.findIdx? fun z => PyData.eqv z d).map fun j => .int (j : Nat) else none
def gIdxD : PyData → PyData → Option PyData
  | .list ds, d => idxD ds d
  | _, _ => none
theorem idxD_some {ds : List PyData} {d x : PyData} (h : idxD ds d = some x) : SeqAt.shaped (.list ds) = true ∧ SeqAt.shaped d = true ∧ ∃ (j : Nat) (z : PyData), x = .int (j : Nat) ∧ ds[j]? = some z ∧ PyData.eqv z d = true ∧ ∀ (m : Nat) (z' : PyData), m < j → ds[m]? = some z' → PyData.eqv z' d = false := by
  unfold idxD at h
  obtain ⟨⟨c1, c2⟩, h⟩ := ite_get h
  refine ⟨c1, c2, ?_⟩
  cases hf : ds.findIdx? (fun z => PyData.eqv z d) with
  | none => rw [hf] at h; cases h
  | some j =>
    rw [hf] at h
    cases h
    obtain ⟨hl, h1, h2⟩ := List.findIdx?_eq_some_iff_getElem.mp hf
    refine ⟨j, ds[j], rfl, List.getElem?_eq_getElem hl, h1, fun m z' hm hz => ?_⟩
    obtain ⟨hml, ez⟩ := List.getElem?_eq_some_iff.mp hz
    have := h2 m hm
    rw [← ez]
    exact Bool.eq_false_iff.mpr (by simpa using this)
theorem ed_indexD {k : Nat} (hr : Room k X.A) (ho : ED K X M o to fo) (ha : ED K X M a ta fa)
    (hs1 : starEach [a] X.env = (false, eval a X.env) :: starEach [] X.env := by rfl)
    (hbase : attributeBase o "index" X.env (eval o X.env) = eval o X.env := by rfl)
    (hfew : ((backTo cpos (starEach [a] X.env)).all (fun x => !x.1) && (backToKw cpos (keywordEach [] X.env)).all (fun x => x.1.isSome)
      && decide ([a].length + ([] : List Keyword).length + (if ([] : List Keyword).isEmpty then 0 else 1) < 30)) = true := by rfl)
    (hline : (apos.endLine == cpos.line) = true := by rfl) (hplain : (backTo cpos (starEach [] X.env)).any (·.1) = false := by rfl) (hK : X.K = K := by rfl) :
    ED K X M (.Call (.Attribute o "index" apos) [a] [] cpos) (tBM K "list" (rIndexD K) to (tCons ta tNil)) (f2 gIdxD fo fa) := by
  subst hK
  refine ⟨pe_bm PySem.F.plainAttrs_list PySem.F.slot_list_index PySem.F.type_list_index (mt_indexD (by have := hr.un; omega)) ho.pe (pa_cons ha.pe pa_nil hs1) hbase hfew hline hs1 hplain, fun {Hs0 H0 Hs H σ ρ d Q} R hf q => ?_⟩
  obtain ⟨x, h1, hf⟩ := bind_some hf
  obtain ⟨y, h2, hf⟩ := bind_some hf
  refine ho.sm R h1 fun v Hs1 H1 g1 d1 => ?_
  cases d1 with
  | @lst p1 xs ds hp t =>
    obtain ⟨c1, c2, j, z, rfl, hj, hz, hm⟩ := idxD_some hf
    refine ⟨.inl ⟨rfl, xs, sqL_of (g1.sub _ _ hp)⟩, ha.sm (R.grow g1) h2 fun u Hs2 H2 g2 d2 => ?_⟩
    have dl : Dp X.K H2 (.ref p1) (.list ds) := (((Dd.lst hp t : Dd X.K Hs1 (.ref p1) (.list ds)).mono g2.exs).mono g2.sub).dp (SeqAt.canLay_of_shaped c1)
    exact ⟨p1, u, y, ds, j, z, rfl, rfl, dl, (d2.mono g2.sub).dp (SeqAt.canLay_of_shaped c2), c1, c2, hj, hz, hm, q _ Hs2 H2 (g1.trans g2) (.int _)⟩
  | _ => cases hf
end
end DL

/-! list(zip(a, b)) of two tuples -/
namespace LZ
open PySem RZ
open PySem.Sem (wp)
theorem zip_no_len : typeLookup (.type "zip") "__len__" = pure none := by rw [typeLookup_type, builtinLookup_eq_fast]; kernel_rfl
theorem zip_no_hint : typeLookup (.type "zip") "__length_hint__" = pure none := by rw [typeLookup_type, builtinLookup_eq_fast]; kernel_rfl
section
variable {prog : Program} {w : World} {A : Around} {E : Value → Shared → Prop} {s : Shared} {z TI TO T i1 i2 l1 l2 : Addr} {k1 k2 : Nat} {xs ys : Array Value} {x y a b : Value} {f : Bool} {oT : Obj}
theorem next_item_held {Q : Value → Shared → Prop} (D : ZipApart z TI TO i1 i2 l1 l2)
    (hz : IsZipHeld s.heap z TI TO T f) (hT : s.heap.get? T = some oT) (hTI : IsPair s.heap TI (.ref i1) (.ref i2))
    (h1 : s.heap.IsTupleIter i1 l1 k1) (h2 : s.heap.IsTupleIter i2 l2 k2) (hl1 : s.heap.IsTuple l1 xs) (hl2 : s.heap.IsTuple l2 ys) (hx : xs[k1]? = some x) (hy : ys[k2]? = some y)
    (hQ : ∀ h', IsZipHeld h' z TI TO T true → h'.IsTupleIter i1 l1 (k1 + 1) → h'.IsTupleIter i2 l2 (k2 + 1) → IsPair h' s.heap.objs.size x y → h'.objs.size = s.heap.objs.size + 1 →
      (∀ c o, c ≠ z → c ≠ i1 → c ≠ i2 → s.heap.get? c = some o → h'.get? c = some o) → Q (.ref s.heap.objs.size) { s with heap := h' }) :
    wpAny (model prog w) A (Builtin.«zip.__next__» ⟨[.ref z], []⟩) (fun fin s' => ∃ v, fin = .done (.ret v) ∧ Q v s') E s := by
  show wpAny _ _ (field (.ref z) 2 >>= _) _ _ _
  refine wpAny_bind (wpAny_field hz rfl (x := .bool false) rfl ?_)
  show wpAny _ _ (field (.ref z) 3 >>= _) _ _ _
  refine wpAny_bind (wpAny_field hz rfl (x := .ref TI) rfl ?_)
  refine wpAny_bind (wpAny_seqItems hTI rfl ?_)
  show wpAny _ _ (Builtin.SmallTypes.ownedTupleIsFree (.ref z) >>= _) _ _ _
  refine wpAny_bind (wpAny_tupleHeld_zip hz hT fun h₁ hz₁ hs₁ => ?_)
  simp only [Bool.false_eq_true, if_false]
  refine wpAny_bind ?_
  rw [← Array.forIn_toList]
  simp only [List.forIn_cons, List.forIn_nil]
  refine wpAny_bind (wpAny_bind (wpAny_holding ?_))
  show wpAny _ _ (Builtin.SmallTypes.nextOf (.ref i1) >>= _) _ _ _
  refine wpAny_bind (nextOf_tuple_item (s := { s with heap := h₁ }) (h1.extBut hs₁.extBut D.i1z) (hl1.extBut hs₁.extBut D.l1z) hx fun h₂ h1₂ hs₂ => wpAny_pure ?_)
  refine wpAny_pure ?_
  refine wpAny_bind (wpAny_bind (wpAny_holding ?_))
  show wpAny _ _ (Builtin.SmallTypes.nextOf (.ref i2) >>= _) _ _ _
  refine wpAny_bind (nextOf_tuple_item (s := { s with heap := h₂ }) ((h2.extBut hs₁.extBut D.i2z).extBut hs₂.extBut D.i12.symm) ((hl2.extBut hs₁.extBut D.l2z).extBut hs₂.extBut D.l2i1) hy fun h₃ h2₃ hs₃ => wpAny_pure ?_)
  refine wpAny_pure (wpAny_pure ?_)
  show wpAny _ _ (newTuple [x, y] >>= _) _ _ _
  refine wpAny_bind (wpAny_newTuple ?_)
  have hsz : h₃.objs.size = s.heap.objs.size := by rw [hs₃.1, hs₂.1, hs₁.1]
  have hz₃ : IsZipHeld h₃ z TI TO T true := hs₃.extBut _ _ D.i2z.symm (hs₂.extBut _ _ D.i1z.symm hz₁)
  have hk : ∀ c o, c ≠ z → c ≠ i1 → c ≠ i2 → s.heap.get? c = some o → h₃.get? c = some o := fun c o c1 c2 c3 e => hs₃.extBut _ _ c3 (hs₂.extBut _ _ c2 (hs₁.extBut _ _ c1 e))
  have h1₃ : h₃.IsTupleIter i1 l1 (k1 + 1) := h1₂.extBut hs₃.extBut D.i12
  refine wpAny_pure ⟨_, rfl, ?_⟩
  show Q (.ref h₃.objs.size) _
  have hp : IsPair (h₃.push { cls := .type "tuple", data := .seq #[x, y] }) h₃.objs.size x y := Heap.get?_push_size _ rfl
  have hz4 : (h₃.push { cls := .type "tuple", data := .seq #[x, y] }).objs.size = h₃.objs.size + 1 := Heap.size_push ..
  rw [hsz] at hp hz4 ⊢
  exact hQ _ (Heap.get?_push_of_some _ hz₃) (h1₃.at fun o e => Heap.get?_push_of_some _ e) (h2₃.at fun o e => Heap.get?_push_of_some _ e) hp hz4 fun c o c1 c2 c3 e => Heap.get?_push_of_some _ (hk c o c1 c2 c3 e)
theorem next_end_held {Q : Fin → Shared → Prop} (hh : A.handled = none) (D : ZipApart z TI TO i1 i2 l1 l2)
    (hz : IsZipHeld s.heap z TI TO T f) (hT : s.heap.get? T = some oT) (hTI : IsPair s.heap TI (.ref i1) (.ref i2))
    (h1 : s.heap.IsTupleIter i1 l1 k1) (h2 : s.heap.IsTupleIter i2 l2 k2) (hl1 : s.heap.IsTuple l1 xs) (hl2 : s.heap.IsTuple l2 ys) (hend : xs[k1]? = none ∨ ys[k2]? = none)
    (hE : ∀ h' e, (∀ c o, c ≠ z → c ≠ i1 → c ≠ i2 → s.heap.get? c = some o → h'.get? c = some o) → (∃ o, h'.get? e = some o ∧ o.cls = .type "StopIteration") → E (.ref e) { s with heap := h' }) :
    wpAny (model prog w) A (Builtin.«zip.__next__» ⟨[.ref z], []⟩) Q E s := by
  show wpAny _ _ (field (.ref z) 2 >>= _) _ _ _
  refine wpAny_bind (wpAny_field hz rfl (x := .bool false) rfl ?_)
  show wpAny _ _ (field (.ref z) 3 >>= _) _ _ _
  refine wpAny_bind (wpAny_field hz rfl (x := .ref TI) rfl ?_)
  refine wpAny_bind (wpAny_seqItems hTI rfl ?_)
  show wpAny _ _ (Builtin.SmallTypes.ownedTupleIsFree (.ref z) >>= _) _ _ _
  refine wpAny_bind (wpAny_tupleHeld_zip hz hT fun h₁ hz₁ hs₁ => ?_)
  simp only [Bool.false_eq_true, if_false]
  refine wpAny_bind ?_
  rw [← Array.forIn_toList]
  simp only [List.forIn_cons, List.forIn_nil]
  refine wpAny_bind (wpAny_bind (wpAny_holding ?_))
  show wpAny _ _ (Builtin.SmallTypes.nextOf (.ref i1) >>= _) _ _ _
  cases hx : xs[k1]? with
  | none =>
    refine wpAny_bind (nextOf_tuple_end (s := { s with heap := h₁ }) hh (h1.extBut hs₁.extBut D.i1z) (hl1.extBut hs₁.extBut D.l1z) hx fun h₂ e hs₂ he => ?_)
    exact hE h₂ e (fun c o c1 c2 _ x => hs₂ _ _ c2 (hs₁.extBut _ _ c1 x)) he
  | some x =>
    have hy : ys[k2]? = none := by rcases hend with h | h; rw [hx] at h; cases h; exact h
    refine wpAny_bind (nextOf_tuple_item (s := { s with heap := h₁ }) (h1.extBut hs₁.extBut D.i1z) (hl1.extBut hs₁.extBut D.l1z) hx fun h₂ h1₂ hs₂ => wpAny_pure ?_)
    refine wpAny_pure ?_
    refine wpAny_bind (wpAny_bind (wpAny_holding ?_))
    show wpAny _ _ (Builtin.SmallTypes.nextOf (.ref i2) >>= _) _ _ _
    refine wpAny_bind (nextOf_tuple_end (s := { s with heap := h₂ }) hh ((h2.extBut hs₁.extBut D.i2z).extBut hs₂.extBut D.i12.symm) ((hl2.extBut hs₁.extBut D.l2z).extBut hs₂.extBut D.l2i1) hy fun h₃ e hs₃ he => ?_)
    exact hE h₃ e (fun c o c1 c2 c3 x => hs₃ _ _ c3 (hs₂.extBut _ _ c2 (hs₁.extBut _ _ c1 x))) he
theorem pyNext_item_held {Q : Option Value → Shared → Prop} (D : ZipApart z TI TO i1 i2 l1 l2)
    (hz : IsZipHeld s.heap z TI TO T f) (hT : s.heap.get? T = some oT) (hTI : IsPair s.heap TI (.ref i1) (.ref i2))
    (h1 : s.heap.IsTupleIter i1 l1 k1) (h2 : s.heap.IsTupleIter i2 l2 k2) (hl1 : s.heap.IsTuple l1 xs) (hl2 : s.heap.IsTuple l2 ys) (hx : xs[k1]? = some x) (hy : ys[k2]? = some y)
    (hQ : ∀ h', IsZipHeld h' z TI TO T true → h'.IsTupleIter i1 l1 (k1 + 1) → h'.IsTupleIter i2 l2 (k2 + 1) → IsPair h' s.heap.objs.size x y → h'.objs.size = s.heap.objs.size + 1 →
      (∀ c o, c ≠ z → c ≠ i1 → c ≠ i2 → s.heap.get? c = some o → h'.get? c = some o) → Q (some (.ref s.heap.objs.size)) { s with heap := h' }) :
    wpAny (model prog w) A (pyNext (.ref z)) Q E s := by
  have hTy : s.TypeIs (.ref z) "zip" := ⟨_, hz, rfl⟩
  unfold pyNext
  exact wpAny_bind (wpAny_attempt (wpAny_callSpecial?_slot (name := Str.ofString "__next__") hTy F.slot_zip_next
    (wpAny_call_entry F.slot_zip_next hTy F.entry_zip_next
      (next_item_held D hz hT hTI h1 h2 hl1 hl2 hx hy fun h' a1 a3 a4 a5 a6 a7 => wpAny_pure (hQ h' a1 a3 a4 a5 a6 a7)) (F.args_zip_next_1 _))))
theorem pyNext_end_held {Q : Option Value → Shared → Prop} (hh : A.handled = none) (D : ZipApart z TI TO i1 i2 l1 l2)
    (hz : IsZipHeld s.heap z TI TO T f) (hT : s.heap.get? T = some oT) (hTI : IsPair s.heap TI (.ref i1) (.ref i2))
    (h1 : s.heap.IsTupleIter i1 l1 k1) (h2 : s.heap.IsTupleIter i2 l2 k2) (hl1 : s.heap.IsTuple l1 xs) (hl2 : s.heap.IsTuple l2 ys) (hend : xs[k1]? = none ∨ ys[k2]? = none)
    (hQ : ∀ h', (∀ c o, c ≠ z → c ≠ i1 → c ≠ i2 → s.heap.get? c = some o → h'.get? c = some o) → Q none { s with heap := h' }) : wpAny (model prog w) A (pyNext (.ref z)) Q E s := by
  have hTy : s.TypeIs (.ref z) "zip" := ⟨_, hz, rfl⟩
  unfold pyNext
  refine wpAny_bind (wpAny_attempt (wpAny_callSpecial?_slot (name := Str.ofString "__next__") hTy F.slot_zip_next
    (wpAny_call_entry F.slot_zip_next hTy F.entry_zip_next (next_end_held hh D hz hT hTI h1 h2 hl1 hl2 hend fun h' e hk he => ?_) (F.args_zip_next_1 _))))
  obtain ⟨o, ho, hc⟩ := he
  refine wpAny_bind (wpAny_isInstance (T := "StopIteration") (b := true) ⟨o, ho, hc⟩ isSubtype_stop ?_)
  exact wpAny_pure (hQ _ hk)
/-- a zip that has given out i tuples, all of them held -/
def St (h : Heap) (z TI TO i1 i2 l1 l2 S : Addr) (i : Nat) : Prop :=
  IsPair h TI (.ref i1) (.ref i2) ∧ h.IsTupleIter i1 l1 i ∧ h.IsTupleIter i2 l2 i ∧ ((IsZip h z TI TO .none ∧ ∃ a b, IsPair h TO a b) ∨ ∃ T f oT, IsZipHeld h z TI TO T f ∧ h.get? T = some oT ∧ S < T)
structure Below (z TI TO i1 i2 l1 l2 S : Addr) : Prop where
  z : z < S
  TI : TI < S
  TO : TO < S
  i1 : i1 < S
  i2 : i2 < S
  l1 : l1 < S
  l2 : l2 < S
variable {S : Addr} {i : Nat}
theorem St.isZip {h : Heap} (x : St h z TI TO i1 i2 l1 l2 S i) : ∃ f0 f1, h.get? z = some { cls := .type "zip", dict := none, data := .fields #[f0, f1, .bool false, .ref TI, .ref TO], slots := #[] } := by
  obtain ⟨_, _, _, h1 | ⟨_, _, _, h1, _⟩⟩ := x
  · exact ⟨_, _, h1.1⟩
  · exact ⟨_, _, h1⟩
theorem St.keep {h h' : Heap} (x : St h z TI TO i1 i2 l1 l2 S i) (B : Below z TI TO i1 i2 l1 l2 S) (hk : ∀ b o, b ≠ S → h.get? b = some o → h'.get? b = some o) : St h' z TI TO i1 i2 l1 l2 S i := by
  obtain ⟨a1, a2, a3, a4⟩ := x
  refine ⟨hk _ _ (Nat.ne_of_lt B.TI) a1, a2.at fun o e => hk _ o (Nat.ne_of_lt B.i1) e, a3.at fun o e => hk _ o (Nat.ne_of_lt B.i2) e, ?_⟩
  rcases a4 with ⟨h1, a, b, h2⟩ | ⟨T, f, oT, h1, h2, h3⟩
  · exact .inl ⟨hk _ _ (Nat.ne_of_lt B.z) h1, a, b, hk _ _ (Nat.ne_of_lt B.TO) h2⟩
  · exact .inr ⟨T, f, oT, hk _ _ (Nat.ne_of_lt B.z) h1, hk _ _ (Nat.ne_of_gt h3) h2, h3⟩
theorem item (D : ZipApart z TI TO i1 i2 l1 l2) (B : Below z TI TO i1 i2 l1 l2 S) (x : St s.heap z TI TO i1 i2 l1 l2 S i) (hS : S < s.heap.objs.size) (hl1 : s.heap.IsTuple l1 xs) (hl2 : s.heap.IsTuple l2 ys) {u v : Value} (hx : xs[i]? = some u) (hy : ys[i]? = some v) {Q : Option Value → Shared → Prop}
    (hQ : ∀ h', St h' z TI TO i1 i2 l1 l2 S (i + 1) → IsPair h' s.heap.objs.size u v → h'.objs.size = s.heap.objs.size + 1 → (∀ c o, c ≠ z → c ≠ TO → c ≠ i1 → c ≠ i2 → s.heap.get? c = some o → h'.get? c = some o) → Q (some (.ref s.heap.objs.size)) { s with heap := h' }) :
    wpAny (model prog w) A (pyNext (.ref z)) Q E s := by
  obtain ⟨a1, a2, a3, a4⟩ := x
  rcases a4 with ⟨h1, a, b, h2⟩ | ⟨T, f, oT, h1, h2, h3⟩
  · refine pyNext_zipT_item D h1 a1 h2 a2 a3 hl1 hl2 hx hy fun h' b1 b2 b3 b4 b5 b6 b7 => hQ h' ⟨b7 _ _ D.TIz D.TITO D.TIi1 D.TIi2 a1, b3, b4, .inr ⟨s.heap.objs.size, false, _, b1, b5, hS⟩⟩ b5 b6 b7
  · refine pyNext_item_held D h1 h2 a1 a2 a3 hl1 hl2 hx hy fun h' b1 b3 b4 b5 b6 b7 => hQ h' ⟨b7 _ _ D.TIz D.TIi1 D.TIi2 a1, b3, b4, .inr ⟨T, true, oT, b1, b7 _ _ (Nat.ne_of_gt (Nat.lt_trans B.z h3)) (Nat.ne_of_gt (Nat.lt_trans B.i1 h3)) (Nat.ne_of_gt (Nat.lt_trans B.i2 h3)) h2, h3⟩⟩ b5 b6 fun c o c1 _ c3 c4 => b7 c o c1 c3 c4
theorem ends (hh : A.handled = none) (D : ZipApart z TI TO i1 i2 l1 l2) (x : St s.heap z TI TO i1 i2 l1 l2 S i) (hl1 : s.heap.IsTuple l1 xs) (hl2 : s.heap.IsTuple l2 ys) (hend : xs[i]? = none ∨ ys[i]? = none) {Q : Option Value → Shared → Prop}
    (hQ : ∀ h', (∀ c o, c ≠ z → c ≠ TO → c ≠ i1 → c ≠ i2 → s.heap.get? c = some o → h'.get? c = some o) → Q none { s with heap := h' }) : wpAny (model prog w) A (pyNext (.ref z)) Q E s := by
  obtain ⟨a1, a2, a3, a4⟩ := x
  rcases a4 with ⟨h1, a, b, h2⟩ | ⟨T, f, oT, h1, h2, h3⟩
  · exact pyNext_zipT_end hh D h1 a1 h2 a2 a3 hl1 hl2 hend hQ
  · exact pyNext_end_held hh D h1 h2 a1 a2 a3 hl1 hl2 hend fun h' hk => hQ h' fun c o c1 _ c3 c4 => hk c o c1 c3 c4
/-- the tuples given out -/
structure G (xs ys : Array Value) (lo : Addr) (h : Heap) (as : List Addr) : Prop where
  rise : as.Pairwise (· < ·)
  above : ∀ a ∈ as, lo < a
  pairs : ∀ (j : Nat) (a : Addr), as[j]? = some a → ∃ x y, xs[j]? = some x ∧ ys[j]? = some y ∧ h.get? a = some { cls := .type "tuple", data := .seq #[x, y] }
theorem G.there {lo : Addr} {h : Heap} {as : List Addr} (g : G xs ys lo h as) {a : Addr} (ha : a ∈ as) : a < h.objs.size := by
  obtain ⟨j, hj⟩ := List.mem_iff_getElem?.mp ha
  obtain ⟨_, _, _, _, e⟩ := g.pairs j a hj
  exact Heap.lt_size e
end
section
variable {prog : Program} {w : World} {A : Around} {s : Shared} {R : Result → Shared → Prop} {z TI TO i1 i2 l1 l2 S : Addr} {xs ys : Array Value}
theorem loop (hh : A.handled = none) (D : ZipApart z TI TO i1 i2 l1 l2) (B : Below z TI TO i1 i2 l1 l2 S) {n : Nat} (hnx : n = min xs.size ys.size) (hn : n ≤ sizeLine) (res : Value) {h₁ : Heap} (hl1 : h₁.IsTuple l1 xs) (hl2 : h₁.IsTuple l2 ys)
    (hR : ∀ h' tk acc c as, (∀ b o, b ≠ S → b ≠ z → b ≠ TO → b ≠ i1 → b ≠ i2 → h₁.get? b = some o → h'.get? b = some o) → h'.get? S = some { cls := .type "list", dict := none, data := .seq acc c, slots := #[] } → as.length = n → G xs ys S h' as →
      acc.toList = as.map Value.ref → R (.ok (.ret res)) { s with heap := h', toks := tk }) :
    ∀ (k i : Nat) (h : Heap) (tk c : Nat) (acc : Array Value) (as : List Addr), n - i = k → i ≤ n → St h z TI TO i1 i2 l1 l2 S i → (∀ b o, b ≠ S → b ≠ z → b ≠ TO → b ≠ i1 → b ≠ i2 → h₁.get? b = some o → h.get? b = some o) →
      h.get? S = some { cls := .type "list", dict := none, data := .seq acc c, slots := #[] } → acc.toList = as.map Value.ref → as.length = i → G xs ys S h as →
      codeAny (model prog w) A (.builtin "list.extend.loop" ⟨[.ref S, .ref z, res], []⟩) R { s with heap := h, toks := tk } := by
  have nS : ∀ {c : Addr}, c < S → S ≠ c := fun h => Nat.ne_of_gt h
  have tup : ∀ {h : Heap} {l : Addr} {vs : Array Value}, l < S → l ≠ z → l ≠ TO → l ≠ i1 → l ≠ i2 → h₁.IsTuple l vs → (∀ b o, b ≠ S → b ≠ z → b ≠ TO → b ≠ i1 → b ≠ i2 → h₁.get? b = some o → h.get? b = some o) → h.IsTuple l vs :=
    fun c0 c1 c2 c3 c4 hv hk => hv.at fun o e => hk _ o (Nat.ne_of_lt c0) c1 c2 c3 c4 e
  intro k
  induction k with
  | zero =>
    intro i h tk c acc as hk hi hst hkeep hS hacc hal hG
    have hin : i = n := by omega
    refine codeAny_builtin PySem.F.entry_extend_loop ?_
    rw [Around.under_plainId PySem.F.plain_extend_loop _]
    show wpAny _ A.in1 (pyNext (.ref z) >>= _) _ _ _
    refine wpAny_bind (ends (s := { s with heap := h, toks := tk }) (A := A.in1) hh D hst (tup B.l1 D.l1z D.l1TO D.l1i1 D.l1i2 hl1 hkeep) (tup B.l2 D.l2z D.l2TO D.l2i1 D.l2i2 hl2 hkeep) ?_ fun h' he => ?_)
    · rcases Nat.le_total xs.size ys.size with z | z
      · exact .inl (by simp; omega)
      · exact .inr (by simp; omega)
    refine wpAny_pure (hR h' tk acc c as (fun b o c0 c1 c2 c3 c4 e => he b o c1 c2 c3 c4 (hkeep b o c0 c1 c2 c3 c4 e)) (he S _ (nS B.z) (nS B.TO) (nS B.i1) (nS B.i2) hS) (by omega) ⟨hG.rise, hG.above, fun j a hj => ?_⟩ hacc)
    obtain ⟨x, y, e1, e2, e3⟩ := hG.pairs j a hj
    have ha := hG.above a (List.mem_of_getElem? hj)
    exact ⟨x, y, e1, e2, he a _ (Nat.ne_of_gt (Nat.lt_trans B.z ha)) (Nat.ne_of_gt (Nat.lt_trans B.TO ha)) (Nat.ne_of_gt (Nat.lt_trans B.i1 ha)) (Nat.ne_of_gt (Nat.lt_trans B.i2 ha)) e3⟩
  | succ k ih =>
    intro i h tk c acc as hk hi hst hkeep hS hacc hal hG
    have hlt : i < n := by omega
    have hx : xs[i]? = some xs[i] := Array.getElem?_eq_getElem (by omega)
    have hy : ys[i]? = some ys[i] := Array.getElem?_eq_getElem (by omega)
    have hsz : acc.size = i := by rw [← Array.length_toList, hacc, List.length_map, hal]
    refine codeAny_builtin PySem.F.entry_extend_loop ?_
    rw [Around.under_plainId PySem.F.plain_extend_loop _]
    show wpAny _ A.in1 (pyNext (.ref z) >>= _) _ _ _
    have hSl : S < h.objs.size := Heap.lt_size hS
    refine wpAny_bind (item (s := { s with heap := h, toks := tk }) D B hst hSl (tup B.l1 D.l1z D.l1TO D.l1i1 D.l1i2 hl1 hkeep) (tup B.l2 D.l2z D.l2TO D.l2i1 D.l2i2 hl2 hkeep) hx hy fun h' hst' ht hz hkp => ?_)
    dsimp only at ht hz hkp ⊢
    have hS' := hkp S _ (nS B.z) (nS B.TO) (nS B.i1) (nS B.i2) hS
    have up : ∀ b o, b ≠ S → h'.get? b = some o → (h'.update S (Obj.mapSeq (·.push (Value.ref h.objs.size)))).get? b = some o := fun b o hb e => (Heap.get?_update_other _ _ (Ne.symm hb)).trans e
    show wpAny _ A.in1 (updateSeq S (·.push (Value.ref h.objs.size)) >>= _) _ _ _
    refine wpAny_bind ?_
    refine wpAny_updateSeq hS' rfl (wpAny_pure ⟨plainId_quiet PySem.F.plain_extend_loop _, ih (i + 1) _ tk _ (acc.push (Value.ref h.objs.size)) (as ++ [h.objs.size]) (by omega) hlt (hst'.keep B up)
      (fun b o c0 c1 c2 c3 c4 e => up b o c0 (hkp b o c1 c2 c3 c4 (hkeep b o c0 c1 c2 c3 c4 e))) (Heap.get?_update_self _ hS' rfl) (by rw [Array.toList_push, hacc, List.map_append]; rfl) (by rw [List.length_append, hal]; rfl) ⟨?_, ?_, ?_⟩⟩) (by rw [hsz]; omega) (by show (acc.push (Value.ref h.objs.size)).size ≤ sizeLine + 1; rw [Array.size_push, hsz]; omega)
    · refine List.pairwise_append.mpr ⟨hG.rise, List.pairwise_singleton _ _, fun a ha b hb => ?_⟩
      rw [List.mem_singleton.mp hb]
      exact hG.there ha
    · intro a ha
      rcases List.mem_append.mp ha with ha | ha
      · exact hG.above a ha
      · rw [List.mem_singleton.mp ha]; exact hSl
    · intro j b hj
      rcases Nat.lt_trichotomy j as.length with h1 | h1 | h1
      · rw [List.getElem?_append_left h1] at hj
        obtain ⟨x', y', e1, e2, e3⟩ := hG.pairs j b hj
        have hb := hG.above b (List.mem_of_getElem? hj)
        exact ⟨x', y', e1, e2, up b _ (Nat.ne_of_gt hb) (hkp b _ (Nat.ne_of_gt (Nat.lt_trans B.z hb)) (Nat.ne_of_gt (Nat.lt_trans B.TO hb)) (Nat.ne_of_gt (Nat.lt_trans B.i1 hb)) (Nat.ne_of_gt (Nat.lt_trans B.i2 hb)) e3)⟩
      · subst h1
        have hb : h.objs.size = b := by simpa using hj
        subst hb
        exact ⟨xs[i], ys[i], by rw [hal]; exact hx, by rw [hal]; exact hy, up _ _ (Nat.ne_of_gt hSl) ht⟩
      · have hnone : (as ++ [h.objs.size])[j]? = none := List.getElem?_eq_none (by rw [List.length_append, List.length_singleton]; omega)
        rw [hnone] at hj; cases hj
theorem extend (hh : A.handled = none) (D : ZipApart z TI TO i1 i2 l1 l2) (B : Below z TI TO i1 i2 l1 l2 S) {n : Nat} (hnx : n = min xs.size ys.size) (hn : n ≤ sizeLine) (res : Value) (c₀ : Nat) (hl1 : s.heap.IsTuple l1 xs) (hl2 : s.heap.IsTuple l2 ys) (hz : IsZip s.heap z TI TO .none) (hst : St s.heap z TI TO i1 i2 l1 l2 S 0)
    (hS : s.heap.get? S = some { cls := .type "list", data := .seq #[] c₀ })
    (hR : ∀ h' tk acc c as, (∀ b o, b ≠ S → b ≠ z → b ≠ TO → b ≠ i1 → b ≠ i2 → s.heap.get? b = some o → h'.get? b = some o) → h'.get? S = some { cls := .type "list", dict := none, data := .seq acc c, slots := #[] } → as.length = n → G xs ys S h' as →
      acc.toList = as.map Value.ref → R (.ok (.ret res)) { s with heap := h', toks := tk }) :
    wpAny (model prog w) A.in1 (Builtin.List.listExtendWith (.ref S) (.ref z) res)
      (fun fin s' => match fin with | .done f => R (.ok f) s' | .again c' => c'.quiet = true ∧ codeAny (model prog w) A c' R s') (fun e s' => R (.error e) s') s := by
  have hSz : S ≠ z := Nat.ne_of_gt B.z
  have hT : s.TypeIs (.ref z) "zip" := ⟨_, hz, rfl⟩
  unfold Builtin.List.listExtendWith
  refine wpAny_bind (wpAny_typeOf hT ?_)
  have h1 : Builtin.List.listSameRef (.ref S) (.ref z) = false := by simp [Builtin.List.listSameRef, hSz]
  have h2 : (Value.type "zip" == Value.type "list") = false := by decide
  have h3 : (Value.type "zip" == Value.type "tuple") = false := by decide
  simp only [h1, h2, h3, Bool.or_false, Bool.false_eq_true, if_false]
  refine wpAny_bind (wpAny_pyIter_zip hz ?_)
  refine wpAny_bind (wpAny_holding ?_)
  unfold Builtin.List.listLengthHint
  refine wpAny_bind (wpAny_specialOf hT zip_no_len ?_)
  show wpAny _ A.in1 (specialOf (Value.ref z) (Str.ofString "__length_hint__") >>= _) _ _ _
  refine wpAny_bind (wpAny_specialOf hT zip_no_hint ?_)
  refine wpAny_pure ?_
  show wpAny _ A.in1 (rule "list.extend.makes-room" >>= fun _ => Builtin.List.listTouch (.ref S) >>= fun _ =>
    again (.builtin "list.extend.loop" ⟨[.ref S, .ref z, res], []⟩)) _ _ _
  refine wpAny_bind (wpAny_rule ?_)
  refine wpAny_bind ?_
  show wpAny _ A.in1 (updateSeq S (·.push .none) >>= fun _ => updateSeq S (·.pop)) _ _ _
  refine wpAny_bind (wpAny_updateSeq hS rfl ?_)
  have hS₂ := Heap.get?_update_self (Obj.mapSeq (·.push Value.none)) hS rfl
  refine wpAny_updateSeq (hz := by seq_fits) hS₂ rfl ?_
  have hS₃ := Heap.get?_update_self (Obj.mapSeq (·.pop)) hS₂ rfl
  have oth : ∀ b o, b ≠ S → s.heap.get? b = some o → ((s.heap.update S (Obj.mapSeq (·.push Value.none))).update S (Obj.mapSeq (·.pop))).get? b = some o :=
    fun b o hb e => (Heap.get?_update_other _ _ (Ne.symm hb)).trans ((Heap.get?_update_other _ _ (Ne.symm hb)).trans e)
  refine wpAny_pure ⟨plainId_quiet F.plain_extend_loop _, loop (s := s) (h₁ := s.heap) hh D B hnx hn res hl1 hl2 hR n 0 _ s.toks _ #[] [] (Nat.sub_zero _) (Nat.zero_le _) (hst.keep B oth) (fun b o c0 _ _ _ _ e => oth b o c0 e) hS₃ rfl rfl ⟨List.Pairwise.nil, (fun _ ha => nomatch ha), (fun j a hj => by simp at hj)⟩⟩
theorem init (hh : A.handled = none) (D : ZipApart z TI TO i1 i2 l1 l2) (B : Below z TI TO i1 i2 l1 l2 S) {n : Nat} (hnx : n = min xs.size ys.size) (hn : n ≤ sizeLine) (hl1 : s.heap.IsTuple l1 xs) (hl2 : s.heap.IsTuple l2 ys) (hz : IsZip s.heap z TI TO .none) (hst : St s.heap z TI TO i1 i2 l1 l2 S 0)
    (hS : s.heap.get? S = some { cls := .type "list", data := .seq #[] })
    (hR : ∀ h' tk acc c as, (∀ b o, b ≠ S → b ≠ z → b ≠ TO → b ≠ i1 → b ≠ i2 → s.heap.get? b = some o → h'.get? b = some o) → h'.get? S = some { cls := .type "list", dict := none, data := .seq acc c, slots := #[] } → as.length = n → G xs ys S h' as →
      acc.toList = as.map Value.ref → R (.ok (.ret .none)) { s with heap := h', toks := tk }) :
    wpAny (model prog w) A.in1 (Builtin.«list.__init__» ⟨[.ref S, .ref z], []⟩)
      (fun fin s' => match fin with | .done f => R (.ok f) s' | .again c' => c'.quiet = true ∧ codeAny (model prog w) A c' R s') (fun e s' => R (.error e) s') s := by
  show wpAny _ A.in1 (do let old ← Builtin.List.listItems (.ref S); Builtin.List.listUpdate (.ref S) (fun _ => #[]); letGo old.toList.reverse; Builtin.List.listExtendWith (.ref S) (.ref z) .none) _ _ s
  refine wpAny_bind ?_
  unfold Builtin.List.listItems
  refine wpAny_bind (wpAny_seqItems hS rfl (wpAny_pure ?_))
  show wpAny _ A.in1 (updateSeq S (fun _ => #[]) >>= fun _ => letGo (#[] : Array Value).toList.reverse >>= fun _ => Builtin.List.listExtendWith (.ref S) (.ref z) .none) _ _ s
  refine wpAny_bind (wpAny_updateSeq hS rfl ?_)
  have hS₂ := Heap.get?_update_self (Obj.mapSeq (fun _ => (#[] : Array Value))) hS rfl
  have oth : ∀ b o, b ≠ S → s.heap.get? b = some o → (s.heap.update S (Obj.mapSeq (fun _ => (#[] : Array Value)))).get? b = some o :=
    fun b o hb e => (Heap.get?_update_other _ _ (Ne.symm hb)).trans e
  refine wpAny_bind (wpAny_letGo ?_)
  refine extend (s := { s with heap := s.heap.update S (Obj.mapSeq (fun _ => (#[] : Array Value))) }) hh D B hnx hn .none _ (hl1.at fun o e => oth _ o (Nat.ne_of_lt B.l1) e) (hl2.at fun o e => oth _ o (Nat.ne_of_lt B.l2) e) (oth _ _ (Nat.ne_of_lt B.z) hz) (hst.keep B oth) hS₂ fun h' tk acc c as hk hS' hl hG hacc => ?_
  exact hR h' tk acc c as (fun b o c0 c1 c2 c3 c4 e => hk b o c0 c1 c2 c3 c4 (oth b o c0 e)) hS' hl hG hacc
end
section
variable {prog : Program} {w : World} {A : Around} {E : Value → Shared → Prop} {s : Shared} {z TI TO i1 i2 l1 l2 : Addr} {xs ys : Array Value}
theorem call_list {Q : Value → Shared → Prop} (hh : A.handled = none) (D : ZipApart z TI TO i1 i2 l1 l2) (B : Below z TI TO i1 i2 l1 l2 s.heap.objs.size) {n : Nat} (hnx : n = min xs.size ys.size) (hn : n ≤ sizeLine) (hl1 : s.heap.IsTuple l1 xs) (hl2 : s.heap.IsTuple l2 ys) (hz : IsZip s.heap z TI TO .none) (hst : St s.heap z TI TO i1 i2 l1 l2 s.heap.objs.size 0)
    (hQ : ∀ h' tk acc c as, (∀ b o, b ≠ z → b ≠ TO → b ≠ i1 → b ≠ i2 → s.heap.get? b = some o → h'.get? b = some o) → h'.get? s.heap.objs.size = some { cls := .type "list", dict := none, data := .seq acc c, slots := #[] } → as.length = n → G xs ys s.heap.objs.size h' as →
      acc.toList = as.map Value.ref → Q (.ref s.heap.objs.size) { s with heap := h', toks := tk }) :
    wpAny (model prog w) A (call (.type "list") [.ref z]) Q E s := by
  refine callType_codes (Q₁ := fun obj s₁ => obj = .ref s.heap.objs.size ∧ s₁ = { s with heap := s.heap.push { cls := .type "list", data := .seq #[] } }) PySem.F.called_list (PySem.F.typeCall_list_1 _) PySem.F.entry_list_init
    (code_list_new _ ⟨rfl, rfl⟩) fun obj s₁ h₁ => ?_
  obtain ⟨rfl, rfl⟩ := h₁
  have up : ∀ b o, s.heap.get? b = some o → (s.heap.push { cls := .type "list", data := .seq #[] }).get? b = some o := fun b o e => Heap.get?_push_of_some _ e
  have hS : (s.heap.push { cls := .type "list", data := .seq #[] }).get? s.heap.objs.size = some { cls := .type "list", data := .seq #[] } := Heap.get?_push_size _ rfl
  refine ⟨⟨_, hS, rfl⟩, PySem.F.args_list_init_2 _ _, init (A := A.in1) (s := { s with heap := s.heap.push { cls := .type "list", data := .seq #[] } }) hh D B hnx hn (hl1.at fun o e => up _ o e) (hl2.at fun o e => up _ o e) (up _ _ hz) (hst.keep B fun b o _ e => up b o e) hS fun h' tk acc c as hk hS' hl hG hacc => ?_⟩
  exact ⟨rfl, hQ h' tk acc c as (fun b o c1 c2 c3 c4 e => hk b o (Nat.ne_of_lt (Heap.lt_size e)) c1 c2 c3 c4 (up b o e)) hS' hl hG hacc⟩
end
end LZ
namespace DL
open PySem PySem.Spec PyProof.Rows L2
/-! ### new objects laid at their addresses -/
def putO : Hp → List Addr → List HO → Hp
  | H, a :: as, o :: os => putO (L2.upd H a o) as os
  | H, _, _ => H
theorem putO_off {b : Addr} : ∀ (as : List Addr) (os : List HO) (H : Hp), b ∉ as → putO H as os b = H b
  | [], _, _, _ => rfl
  | _ :: _, [], _, _ => rfl
  | a :: as, o :: os, H, h => by
    show putO (L2.upd H a o) as os b = H b
    rw [putO_off as os _ (fun z => h (List.mem_cons_of_mem _ z)), upd_ne (fun z => h (by rw [z]; exact List.mem_cons_self))]
theorem putO_at : ∀ (as : List Addr) (os : List HO) (H : Hp), as.length = os.length → as.Nodup → ∀ (j : Nat) (a : Addr) (o : HO), as[j]? = some a → os[j]? = some o → putO H as os a = some o
  | [], _, _, _, _, j, a, o, h, _ => by simp at h
  | _ :: _, [], _, h, _, _, _, _, _, _ => by cases h
  | b :: as, q :: os, H, hl, hn, 0, a, o, h1, h2 => by
    simp at h1 h2
    subst h1 h2
    show putO (L2.upd H b q) as os b = some q
    rw [putO_off as os _ (List.nodup_cons.mp hn).1, upd_same]
  | b :: as, q :: os, H, hl, hn, j + 1, a, o, h1, h2 => putO_at as os (L2.upd H b q) (Nat.succ.inj hl) (List.nodup_cons.mp hn).2 j a o (by simpa using h1) (by simpa using h2)
def pairO (xs ys : List V) (us vs : List Value) (j : Nat) : HO := .frz { cls := .type "tuple", data := .seq #[us.getD j .none, vs.getD j .none] } (.tup [xs.getD j .non, ys.getD j .non])
section
variable {X : Cx} {pins : List (Addr × Obj)} {σ : L2.St} {H : Hp} {s : Shared} {h' : Heap} {tk : Nat} {xs ys : List V} {us vs : List Value} {acc : Array Value} {c : Nat} {as : List Addr} {S : Addr}
theorem vals_refs' : ∀ as : List Addr, Vals (as.map V.ref) (as.map Value.ref)
  | [] => .nil
  | _ :: as => .cons rfl (vals_refs' as)
theorem zip_laid (I : Inv X pins σ H s) (hz : as.length ≤ sizeLine) (rx : Vals xs us) (ry : Vals ys vs) (hSs : s.heap.objs.size ≤ S)
    (hk : ∀ b o, s.heap.get? b = some o → h'.get? b = some o) (hS : h'.get? S = some { cls := .type "list", dict := none, data := .seq acc c, slots := #[] }) (hl : as.length = min us.length vs.length) (hG : LZ.G us.toArray vs.toArray S h' as) (hacc : acc.toList = as.map Value.ref) :
    ∃ H' : Hp, Same H H' ∧ H S = none ∧ (∀ t ∈ as, H t = none) ∧ S ∉ as ∧ H' S = some (.lst (as.map V.ref)) ∧ (∀ (j : Nat) (t : Addr), as[j]? = some t → ∃ ob x y, ob.dict = none ∧ xs[j]? = some x ∧ ys[j]? = some y ∧ H' t = some (.frz ob (.tup [x, y]))) ∧ Inv X pins σ H' { s with heap := h', toks := tk } := by
  have hSn : S ∉ as := fun z => Nat.lt_irrefl _ (hG.above _ z)
  have nd : as.Nodup := List.Pairwise.imp (fun {a b} (h : a < b) => Nat.ne_of_lt h) hG.rise
  have new : ∀ t ∈ as, H t = none := fun t ht => I.hok.fresh (Nat.le_trans hSs (Nat.le_of_lt (hG.above t ht)))
  have newS : H S = none := I.hok.fresh hSs
  have lx := rx.length
  have ly := ry.length
  have oget : ∀ (j : Nat) (t : Addr), as[j]? = some t → ((List.range as.length).map (pairO xs ys us vs))[j]? = some (pairO xs ys us vs j) := fun j t e => by
    have := (List.getElem?_eq_some_iff.mp e).1
    rw [List.getElem?_map, List.getElem?_range this]
    rfl
  have atP : ∀ (j : Nat) (t : Addr), as[j]? = some t → putO (L2.upd H S (.lst (as.map V.ref))) as ((List.range as.length).map (pairO xs ys us vs)) t = some (pairO xs ys us vs j) := fun j t e =>
    putO_at as _ _ (by rw [List.length_map, List.length_range]) nd j t _ e (oget j t e)
  generalize hos : (List.range as.length).map (pairO xs ys us vs) = os at atP oget
  have off : ∀ b, b ∉ as → b ≠ S → putO (L2.upd H S (.lst (as.map V.ref))) as os b = H b := fun b h1 h2 => by rw [putO_off as os _ h1, upd_ne h2]
  have low : ∀ b o, s.heap.get? b = some o → b ∉ as ∧ b ≠ S := fun b o e => ⟨fun z => absurd (Heap.lt_size e) (Nat.not_lt.mpr (Nat.le_trans hSs (Nat.le_of_lt (hG.above b z)))), fun z => absurd (Heap.lt_size e) (Nat.not_lt.mpr (by rw [z]; exact hSs))⟩
  have kp : ∀ b u, H b = some u → (putO (L2.upd H S (.lst (as.map V.ref))) as os) b = some u := fun b u e => by
    rw [off b (fun z => by rw [new b z] at e; cases e) (fun z => by rw [z, newS] at e; cases e)]
    exact e
  have eS : putO (L2.upd H S (.lst (as.map V.ref))) as os S = some (.lst (as.map V.ref)) := by rw [putO_off as os _ hSn, upd_same]
  have items : ∀ (j : Nat) (t : Addr), as[j]? = some t → ∃ x y u v, xs[j]? = some x ∧ ys[j]? = some y ∧ us[j]? = some u ∧ vs[j]? = some v ∧ RelV x u ∧ RelV y v ∧ pairO xs ys us vs j = .frz { cls := .type "tuple", data := .seq #[u, v] } (.tup [x, y]) ∧ h'.get? t = some { cls := .type "tuple", data := .seq #[u, v] } := fun j t e => by
    obtain ⟨u, v, e1, e2, e3⟩ := hG.pairs j t e
    have e1 : us[j]? = some u := by simpa using e1
    have e2 : vs[j]? = some v := by simpa using e2
    have hj1 := (List.getElem?_eq_some_iff.mp e1).1
    have hj2 := (List.getElem?_eq_some_iff.mp e2).1
    have x1 : xs[j]? = some xs[j] := List.getElem?_eq_getElem (by omega)
    have y1 : ys[j]? = some ys[j] := List.getElem?_eq_getElem (by omega)
    obtain ⟨u', f1, f2⟩ := rx.get x1
    obtain ⟨v', g1, g2⟩ := ry.get y1
    rw [e1] at f1
    rw [e2] at g1
    cases f1
    cases g1
    refine ⟨_, _, u, v, x1, y1, e1, e2, f2, g2, ?_, e3⟩
    unfold pairO
    rw [List.getD_eq_getElem?_getD, e1, List.getD_eq_getElem?_getD, e2, List.getD_eq_getElem?_getD, x1, List.getD_eq_getElem?_getD, y1]
    rfl
  refine ⟨putO (L2.upd H S (.lst (as.map V.ref))) as os, kp, newS, new, hSn, eS, fun j t e => ?_, ?_⟩
  · obtain ⟨x, y, u, v, e1, e2, _, _, _, _, e3, _⟩ := items j t e
    exact ⟨_, x, y, rfl, e1, e2, by rw [atP j t e, e3]⟩
  · refine I.call' (ch := []) rfl ⟨fun b o q _ _ _ => hk b o q, fun b o q _ _ _ => ⟨o.slots, hk b o q⟩, fun b o q n _ => ?_, fun b o q _ => ⟨o, hk b o q⟩, fun b xs q => kp b _ q, fun b o u q => kp b _ q, fun b ps q => ⟨#[], by rw [kp b _ q]; simp⟩⟩ (fun b u q => ?_) I.bare fun b z => by simp at z
    · obtain ⟨z1, z2⟩ := low b o q
      rw [off b z1 z2]
      exact n
    · by_cases hb : b ∈ as
      · obtain ⟨j, hj⟩ := List.mem_iff_getElem?.mp hb
        rw [atP j b hj] at q
        obtain ⟨x, y, u', v', _, _, _, _, r1, r2, e3, e4⟩ := items j b hj
        rw [e3] at q
        cases q
        exact ⟨e4, by show 2 ≤ sizeLine; decide, [u', v'], .cons r1 (.cons r2 .nil), ⟨_, e4, rfl, _, rfl⟩⟩
      · by_cases hb2 : b = S
        · rw [hb2] at q ⊢
          rw [eS] at q
          cases q
          refine ⟨by rw [List.length_map]; omega, acc.toList, c, by rw [hacc]; exact vals_refs' as, ?_⟩
          rw [Array.toArray_toList]
          exact hS
        · rw [off b hb hb2] at q
          exact (I.hok b u q).stay (fun d v _ y => hk d v y) (fun d y => kp d _ y) fun d xs y => kp d _ y
end
def tListZip (K : PySem.W.Frag) (ta : TA) : TE := fun σ H Q => ta σ H fun ws H1 => ∃ a b xs ys, ws = [.ref a, .ref b] ∧ SqT K H1 a xs ∧ SqT K H1 b ys ∧ xs.length ≤ 1000 ∧
  ∀ (H' : Hp) (S : Addr) (ts : List Addr), Same H1 H' → H1 S = none → (∀ t ∈ ts, H1 t = none) → S ∉ ts → H' S = some (.lst (ts.map V.ref)) → ts.length = min xs.length ys.length →
    (∀ (j : Nat) (t : Addr), ts[j]? = some t → ∃ ob x y, ob.dict = none ∧ xs[j]? = some x ∧ ys[j]? = some y ∧ H' t = some (.frz ob (.tup [x, y]))) → Q (.ref S) H'
section
variable {X : Cx} {K : PySem.W.Frag} {M : List Nat} {a b : Expr} {ta tb : TE} {tr : TA} {fa fb : Fn} {pos p p2 q : Pos}
theorem below_nat {n a b S : Nat} (ha : a < n) (hb : b < n) (hS : S = n + 5) : LZ.Below (n + 4) (n + 2) (n + 3) n (n + 1) a b S := by
  subst hS
  exact ⟨Nat.lt_succ_self (n + 4), Nat.lt_add_of_pos_right (n := n + 2) (k := 3) (by decide), Nat.lt_add_of_pos_right (n := n + 3) (k := 2) (by decide), Nat.lt_add_of_pos_right (n := n) (k := 5) (by decide), Nat.lt_add_of_pos_right (n := n + 1) (k := 4) (by decide), Nat.lt_of_lt_of_le ha (Nat.le_add_right n 5), Nat.lt_of_lt_of_le hb (Nat.le_add_right n 5)⟩
theorem off_nat {c n : Nat} (h : c < n) : c ≠ n + 4 ∧ c ≠ n + 3 ∧ c ≠ n ∧ c ≠ n + 1 := ⟨by omega, by omega, by omega, by omega⟩
theorem pe_listZip (hc : X.calm = true) (hg : Gl X "list") (hm : X.mg "list" = none) (hgz : Gl X "zip") (hmz : X.mg "zip" = none) (ha : PA X [a, b] tr)
    (hs : starEach [a, b] X.env = (false, eval a X.env) :: starEach [b] X.env := by rfl) (hpl : (backTo q (starEach [b] X.env)).any (·.1) = false := by rfl)
    (hs2 : starEach [.Call (.Name "zip" p2) [a, b] [] q] X.env = (false, eval (.Call (.Name "zip" p2) [a, b] [] q) X.env) :: starEach [] X.env := by rfl) :
    PE X (.Call (.Name "list" p) [.Call (.Name "zip" p2) [a, b] [] q] [] pos) (tListZip X.K tr) := by
  refine ⟨fun pins s σ H Q I h => ?_⟩
  refine Call_ (ld_blt I hg hm boot_list (PyProof.Rows.callWith_type1 (args_cons ?_ hs2) hs2))
  refine Call_ (ld_blt I hgz hmz PyProof.Rows.boot_zip (PyProof.Rows.callWith_type1 (L2.thn (ha.run q pins s σ H _ I h) fun us s1 ⟨vs, H1, I1, r1, q1⟩ => ?_) hs hpl))
  obtain ⟨a, b, xs, ys, ex, hqx, hqy, hxl, qq⟩ := q1
  subst ex
  cases r1 with
  | cons r rr =>
    cases rr with
    | cons r' rr =>
      cases rr
      cases r
      cases r'
      obtain ⟨its, rv, p1, _⟩ := I1.tuple hqx
      obtain ⟨its2, rv2, p2, _⟩ := I1.tuple hqy
      obtain ⟨o1, ho1, _⟩ := id p1
      obtain ⟨o2, ho2, _⟩ := id p2
      have la := Heap.lt_size ho1
      have lb := Heap.lt_size ho2
      have D := PySem.W.ktu_apart s1.heap.objs.size a b la lb
      refine RZ.call_zipT (show s1.heap.IsTuple a its.toArray from p1) (show s1.heap.IsTuple b its2.toArray from p2) fun h' hz hTI hTO h1 h2 hsz hk => args_nil ?_
      have B : LZ.Below (s1.heap.objs.size + 4) (s1.heap.objs.size + 2) (s1.heap.objs.size + 3) s1.heap.objs.size (s1.heap.objs.size + 1) a b h'.objs.size := below_nat la lb hsz
      refine LZ.call_list (s := { s1 with heap := h' }) (I.ok.hd hc) D B (n := min its.length its2.length) (by simp) (by have := rv.length; rw [sizeLine_eq]; omega) (Heap.IsTuple.at p1 fun o e => hk _ o e) (Heap.IsTuple.at p2 fun o e => hk _ o e) hz ⟨hTI, h1, h2, .inl ⟨hz, _, _, hTO⟩⟩ fun h2 tk acc c as hk2 hS hl hG hacc => ?_
      have lx := rv.length
      have ly := rv2.length
      have keep : ∀ b o, s1.heap.get? b = some o → h2.get? b = some o := fun c o e => by
        obtain ⟨n1, n2, n3, n4⟩ := off_nat (Heap.lt_size e)
        exact hk2 c o n1 n2 n3 n4 (hk c o e)
      obtain ⟨H', k1, k2, k3, k4, k5, k6, J⟩ := zip_laid (tk := tk) I1 (by rw [sizeLine_eq]; omega) rv rv2 (by show s1.heap.objs.size ≤ h'.objs.size; rw [hsz]; exact Nat.le_add_right _ 5) keep hS hl hG hacc
      exact ⟨.ref _, H', J, rfl, qq H' _ as k1 k2 k3 k4 k5 (by rw [hl]; omega) k6⟩
@[simp] def gListZip : PyData → PyData → Option PyData
  | .tuple xs, .tuple ys => if xs.length ≤ 1000 then some (.list (zpD xs ys)) else none
  | _, _ => none
open Classical in
theorem listZip_grow {Hs H H' : Hp} {S : Addr} {ts : List Addr} {xs ys : List V} {ds es : List PyData} (e : Same Hs H) (k1 : Same H H') (k2 : H S = none) (k3 : ∀ t ∈ ts, H t = none) (k4 : S ∉ ts) (k5 : H' S = some (.lst (ts.map V.ref))) (hl : ts.length = min xs.length ys.length)
    (k6 : ∀ (j : Nat) (t : Addr), ts[j]? = some t → ∃ ob x y, ob.dict = none ∧ xs[j]? = some x ∧ ys[j]? = some y ∧ H' t = some (.frz ob (.tup [x, y]))) (dx : DdAll K Hs xs ds) (dy : DdAll K Hs ys es) :
    ∃ Hs', Grow Hs H Hs' H' ∧ Dd K Hs' (.ref S) (.list (zpD ds es)) := by
  have ex : Same Hs (fun c => if c = S ∨ c ∈ ts then H' c else Hs c) := fun c o z => by
    show (if c = S ∨ c ∈ ts then H' c else Hs c) = some o
    rw [if_neg]
    · exact z
    · rintro (h | h)
      · have := e c o z; rw [h, k2] at this; cases this
      · have := e c o z; rw [k3 c h] at this; cases this
  have aS : (if S = S ∨ S ∈ ts then H' S else Hs S) = some (.lst (ts.map V.ref)) := by rw [if_pos (.inl rfl)]; exact k5
  refine ⟨fun c => if c = S ∨ c ∈ ts then H' c else Hs c, ⟨k1, ex, fun c o z => ?_, fun c z n => ?_⟩, .lst aS ?_⟩
  · have z : (if c = S ∨ c ∈ ts then H' c else Hs c) = some o := z
    by_cases h : c = S ∨ c ∈ ts
    · rw [if_pos h] at z; exact z
    · rw [if_neg h] at z; exact k1 c o (e c o z)
  · show (if c = S ∨ c ∈ ts then H' c else Hs c) = none
    rw [if_neg]
    · exact z
    · rintro (h | h)
      · rw [h] at n; exact n k2
      · exact n (k3 c h)
  · have lx := dx.length
    have ly := dy.length
    have key : ∀ (n : Nat), n ≤ ts.length → DdAll K (fun c => if c = S ∨ c ∈ ts then H' c else Hs c) ((ts.take n).map V.ref) ((zpD ds es).take n) := fun n => by
      induction n with
      | zero => intro _; exact .nil
      | succ n ih =>
        intro hn
        have hlt : n < ts.length := by omega
        have ht : ts[n]? = some ts[n] := List.getElem?_eq_getElem hlt
        obtain ⟨ob, x, y, o1, o2, o3, o4⟩ := k6 n ts[n] ht
        obtain ⟨d, h1, h2⟩ := dx.getv o2
        obtain ⟨d2, h3, h4⟩ := dy.getv o3
        have hz := zpD_get h1 h3
        rw [List.take_succ, ht, List.take_succ, hz, List.map_append]
        refine (ih (by omega)).append (.cons (.tup o1 ?_ (.cons (h2.mono ex) (.cons (h4.mono ex) .nil))) .nil)
        show (if ts[n] = S ∨ ts[n] ∈ ts then H' ts[n] else Hs ts[n]) = _
        rw [if_pos (.inr (List.getElem_mem hlt))]
        exact o4
    have := key ts.length (Nat.le_refl _)
    rw [List.take_length, List.take_of_length_le (by rw [zpD_len]; omega)] at this
    exact this
theorem ed_listZip (ha : ED K X M a ta fa) (hb : ED K X M b tb fb) (hmz : X.mg "zip" = none) (hm : X.mg "list" = none) (hg : Gl X "list" := by rfl) (hgz : Gl X "zip" := by rfl) (hc : X.calm = true := by rfl) (hK : X.K = K := by rfl)
    (hs : starEach [a, b] X.env = (false, eval a X.env) :: starEach [b] X.env := by rfl) (hsb : starEach [b] X.env = (false, eval b X.env) :: starEach [] X.env := by rfl) (hpl : (backTo q (starEach [b] X.env)).any (·.1) = false := by rfl)
    (hs2 : starEach [.Call (.Name "zip" p2) [a, b] [] q] X.env = (false, eval (.Call (.Name "zip" p2) [a, b] [] q) X.env) :: starEach [] X.env := by rfl) :
    ED K X M (.Call (.Name "list" p) [.Call (.Name "zip" p2) [a, b] [] q] [] pos) (tListZip K (tCons ta (tCons tb tNil))) (f2 gListZip fa fb) := by
  subst hK
  refine ⟨pe_listZip hc hg hm hgz hmz (pa_cons ha.pe (pa_cons hb.pe pa_nil hsb) hs) hs hpl hs2, fun {Hs0 H0 Hs H σ ρ d Q} R hf q => ?_⟩
  obtain ⟨x, h1, hf⟩ := bind_some hf
  obtain ⟨y, h2, hf⟩ := bind_some hf
  refine ha.sm R h1 fun v Hs1 H1 g1 d1 => ?_
  refine hb.sm (R.grow g1) h2 fun u Hs2 H2 g2 d2 => ?_
  cases d1 with
  | @tup p1 ob xs ds hn hp t =>
    cases d2 with
    | @tup p3 ob2 ys es hn2 hp2 t2 =>
      obtain ⟨hl, rfl⟩ := ite_some hf
      have t1 := t.mono g2.exs
      refine ⟨p1, p3, xs, ys, rfl, sqT_of (g2.sub _ _ (g2.exs _ _ hp)), sqT_of (g2.sub _ _ hp2), by rw [t.length]; exact hl, fun H' S ts k1 k2 k3 k4 k5 hl' k6 => ?_⟩
      obtain ⟨Hs', g3, dd⟩ := listZip_grow g2.sub k1 k2 k3 k4 k5 hl' k6 t1 t2
      exact q _ Hs' H' ((g1.trans g2).trans g3) dd
    | _ => cases hf
  | _ => cases hf
end
end DL

namespace DL
open PySem PySem.Spec PyProof.Rows L2
/-! ### a comprehension in a comprehension -/
theorem relabel_free {env : Env} {x : Str} : ∀ {names : List (Str × NameKind)}, (names.lookup x = some .cell ∨ names.lookup x = some .free) →
    let l := names.map fun (n, k) => if (k == .free && env.scope.kind == .function && env.kindOf n == some .cell) then (n, NameKind.cell) else (n, k)
    l.lookup x = some .cell ∨ l.lookup x = some .free
  | [], h => by simp at h
  | (n, k) :: r, h => by
    intro l
    show List.lookup x ((if (k == NameKind.free && env.scope.kind == .function && env.kindOf n == some .cell) = true then (n, NameKind.cell) else (n, k)) :: _) = _ ∨ List.lookup x ((if (k == NameKind.free && env.scope.kind == .function && env.kindOf n == some .cell) = true then (n, NameKind.cell) else (n, k)) :: _) = _
    rw [List.lookup_cons] at h
    cases hx : (x == n) with
    | false =>
      rw [hx] at h
      have ih := relabel_free (env := env) (x := x) (names := r) h
      split <;> rw [List.lookup_cons, hx] <;> exact ih
    | true =>
      rw [hx] at h
      split
      · rw [List.lookup_cons, hx]; exact .inl rfl
      · rw [List.lookup_cons, hx]; exact h
theorem blkOk_in {N : List Str} {sc scope : Scope} {own : List (Str × Nat)} {env : Env} (h : blkC N sc scope own = true) : BlkOk N (relabel sc env) scope own where
  kind := (blkOk_by h).kind
  uniq := (blkOk_by h).uniq
  ix := (blkOk_by h).ix
  free := fun y hy e => relabel_free ((blkOk_by h).free y hy e)
  own := (blkOk_by h).own
end DL

/-! [f(x) for x in xs] where f may raise: the exception leaves the comprehension and then the expression around it -/
namespace DL
open PySem PySem.Spec PyProof.Rows L2
section
variable {M : Model} {A : Around} {E : Value → Shared → Prop} {s : Shared} {env : Env}
/-- how a block may end: with its list, or by an exception that goes on -/
def lcEnds (M : Model) (A : Around) (E : Value → Shared → Prop) (Q : Value → Shared → Prop) (acc : Value) (ce : Env) (r : Result) (s' : Shared) : Prop :=
  match r with
  | .ok _ => ∃ m, s'.heap.Ns ce.locals m ∧ ∀ h', Heap.SameBut ce.locals s'.heap h' → Q acc { s' with heap := h' }
  | .error x => ∃ m, s'.heap.Ns ce.locals m ∧ ∀ h', Heap.SameBut ce.locals s'.heap h' → wpAny M A (PySem.passOn "comprehension.variables-let-go" x ce : Sem Value) (fun _ _ => False) E { s' with heap := h' }
theorem lc_runs {e : Expr} {scope : Scope} {pos : Pos} {newAcc first : Sem Value} {g : Comprehension} {gs : List Comprehension} {cl : List (Str × Addr)} {Q : Value → Shared → Prop}
    (hcl : clausesOf e = g :: gs) (hs : ∀ x, foldedSetIterable g.iter env x = pure x) (hclos : closureFor scope env = pure cl)
    (hkind : scope.kind = .function) (hnames : ∀ x ∈ scope.names, x.2 = .local → scope.names.lookup x.1 = some .local)
    (h : wpAny M A first (fun x s₁ => wpAny M A (pyIter x) (fun it s₂ => wpAny M A newAcc (fun acc s₃ =>
      wpAny M A (newFunctionEnv scope env.globals cl [] env.qual none .none (some env)) (fun cenv s₄ =>
        codeAny M A (.compStart e 0 it acc { cenv with scope := relabel scope env }) (lcEnds M A E Q acc { cenv with scope := relabel scope env }) s₄) E s₃) E s₂) E s₁) E s) :
    wpAny M A (comprehension e scope env pos newAcc false first none) Q E s := by
  unfold comprehension
  rw [hclos, hcl]
  refine wpAny_bind (wpAny_mono h (fun x s₁ h₁ => ?_) fun _ _ h' => h')
  refine wpAny_bind (wpAny_standAt (wpAny_bind (wpAny_of_eq (hs x) (wpAny_bind (wpAny_holding (wpAny_mono h₁ (fun it s₂ h₂ => ?_) fun _ _ h' => h'))))))
  refine wpAny_standIf (wpAny_bind (wpAny_mono h₂ (fun acc s₃ h₃ => ?_) fun _ _ h' => h'))
  refine wpAny_bind (wpAny_pure (wpAny_bind (wpAny_mono h₃ (fun cenv s₄ h₄ => ?_) fun _ _ h' => h')))
  dsimp only
  have hv : ∀ x ∈ (scope.names.filter fun x => (x.2 == .local || x.2 == .cell) && x.1 != (".0" : Str)).reverse, x.2 = .local → Env.kindOf { cenv with scope := relabel scope env } x.1 = some .local :=
    fun x hx hl => lookup_relabel_local (hnames x (List.mem_filter.mp (List.mem_reverse.mp hx)).1 hl)
  refine wpAny_holding (wpAny_bind (wpAny_attempt (wpAny_holding (wpAny_run (codeAny_mono h₄ fun r s' hr => ?_)))))
  cases r with
  | ok f =>
    obtain ⟨m, hn, hr⟩ := hr
    exact wpAny_bind (wpAny_holding (wpAny_comp_letGo (cenv := { cenv with scope := relabel scope env }) hkind _ s' m hv hn fun h' m' _ hs' => wpAny_pure (hr h' hs')))
  | error x =>
    obtain ⟨m, hn, hr⟩ := hr
    exact wpAny_bind (wpAny_holding (wpAny_comp_letGo (cenv := { cenv with scope := relabel scope env }) hkind _ s' m hv hn fun h' m' _ hs' => wpAny_mono (hr h' hs') (fun _ _ f => f.elim) fun _ _ y => y))
end
/-- the frame is noted by its number alone -/
theorem noteFrame_eq {e1 e2 : Env} (h : e1.frame = e2.frame) (u : Value) : noteFrame u e1 = noteFrame u e2 := by
  unfold noteFrame PySem.frameOf
  rw [h]
theorem funFrames_but {base h h' : Heap} {C : Addr} (sb : Heap.SameBut C h h') : ∀ {l : List Env}, h.FunFrames base l → C ∉ frs l → h'.FunFrames base l
  | [], _, _ => trivial
  | env :: l, x, hn => by
    obtain ⟨hk, ⟨L, o, hf, hb, ho, hd⟩, hr⟩ := x
    have hL : L ≠ C := fun z => hn (List.mem_filterMap.mpr ⟨env, List.mem_cons_self, by rw [hf, z]⟩)
    refine ⟨hk, ⟨L, o, hf, hb, (sb.2 L hL).trans ho, hd⟩, funFrames_but sb hr fun hm => hn ?_⟩
    obtain ⟨e, he, q⟩ := List.mem_filterMap.mp hm
    exact List.mem_filterMap.mpr ⟨e, List.mem_cons_of_mem _ he, q⟩
section
variable {X : Cx} {pins : List (Addr × Obj)} {σ : L2.St} {H H' : Hp} {s s' : Shared} {B : Heap} {W : WX} {a : Addr} {cls : Value} {d : Option Addr}
theorem Inv.xeTo {f : Value → Shared → Prop} (I : Inv X pins σ H s) : Inv { X with xe := f } pins σ H s :=
  ⟨⟨I.ok.mod, I.ok.kind, I.ok.glob, I.ok.blt, I.ok.above, I.ok.inj, I.ok.has, I.ok.cab, I.ok.hd, I.ok.frames, I.ok.stk, I.ok.exf, I.ok.bs, I.ok.bsz, I.ok.noex, I.ok.exfs, I.ok.funs, I.ok.frf⟩, I.os, I.bare, I.base, I.loc, I.cell, I.free, I.freeC, I.pin, I.hok, I.len⟩
/-- an exception over a ground that keeps what a call keeps -/
theorem XE.of_sky (I : Inv X pins σ H s) (sky : Sky B X.stack a (Zc cls d) X.env.locals s'.heap) (st : B.StaysIn s'.heap) (hok : HOk X.prog X.w H' B) (ub : UB (frs X.stack) H H' s.heap B s'.heap) (na : H' a = none) (os : s'.os = s.os) (ag : AllBare s'.gens) (w : W cls d σ H') : XE X W (.ref a) s' := by
  obtain ⟨G, g1, g2⟩ := restrict s'.heap fun b => (B.get? b).isSome || decide (b ∈ frs X.stack)
  have gB : ∀ b o, B.get? b = some o → G.get? b = some o := fun b o e => (g1 b (by simp [e])).trans (st b o e)
  have gF : ∀ b, b ∈ frs X.stack → G.get? b = s'.heap.get? b := fun b hb => g1 b (by simp [hb])
  have og : ∀ b o, G.get? b = some o → s'.heap.get? b = some o ∧ ((B.get? b).isSome = true ∨ b ∈ frs X.stack) := fun b o e => by
    by_cases q : ((B.get? b).isSome || decide (b ∈ frs X.stack)) = true
    · rw [g1 b q] at e
      exact ⟨e, by simpa [Bool.or_eq_true] using q⟩
    · rw [g2 b (by simpa using q)] at e
      cases e
  refine ⟨a, B, { s with heap := G, gens := s'.gens, drawn := s'.drawn, toks := s'.toks }, pins, σ, H', cls, d, rfl, ?_, fun b o e hb => ?_, Heap.UpToSlots.of_keeps fun b o e => (og b o e).1, sky, na, os, ag, w⟩
  · refine I.call (ch := []) ⟨fun b o e n hb _ => gB b o (ub.keep b o e n hb), fun b o e n hb _ => ?_, fun b o e n _ => ub.free b o e n, fun b o e _ => ?_, ub.tups, ub.frzs, ub.tbls⟩ (hok.kept gB) ag (fun _ z => nomatch z)
    · obtain ⟨sl, q⟩ := ub.slot b o e hb
      exact ⟨sl, (gF b hb).trans q⟩
    · by_cases hb : b ∈ frs X.stack
      · obtain ⟨sl, q⟩ := ub.slot b o e hb
        exact ⟨_, (gF b hb).trans q⟩
      · obtain ⟨o', q⟩ := ub.there b o e hb
        exact ⟨o', gB b o' q⟩
  · obtain ⟨e', h | h⟩ := og b o e
    · obtain ⟨o', q⟩ := Option.isSome_iff_exists.mp h
      have z := st b o' q
      rw [e'] at z
      cases z
      exact q
    · exact absurd h hb
end
/-- the block's context, its calls' exceptions kept in the air -/
abbrev blkQ (X : Cx) (s : Shared) (H : Hp) (scope : Scope) (cenv : Env) (fp : List Addr) (Ex : XK) : Cx :=
  { (X.blk s H scope cenv fp) with xe := fun u s' => ∃ pins σ H1 s1, Inv (X.blk s H scope cenv fp) pins σ H1 s1 ∧ L2.CX X.prog X.w X.stack H1 s1 Ex u s' }
theorem blkQ_passes {X : Cx} {s : Shared} {H : Hp} {scope : Scope} {cenv : Env} {fp : List Addr} {Ex : XK} (σ : L2.St) : PassesAt (L2.CX X.prog X.w) (blkQ X s H scope cenv fp Ex) σ Ex :=
  fun pins H1 s1 e s' I c => ⟨pins, σ, H1, s1, Inv.xeTo (f := fun _ _ => False) I, c⟩
section
variable {X : Cx} {pins : List (Addr × Obj)} {σ : L2.St} {s : Shared} {W : WX}
/-- an exception of a call in the block: noted, the block's names let go, it goes on -/
theorem blk_error {H1 : Hp} {s1 s' : Shared} {Ex : XK} {C : Addr} {u : Value} {ce : Env} (hst : X.stack = X.env :: X.outer) (hfr : X.env.frame = some X.env.locals) (tk : Takes X W) (hW : ∀ cls d H, Ex cls d H → W cls d σ H)
    (I : Inv X pins σ H1 s1) (hcf : ce.frame = X.env.frame) (hcl : ce.locals = C) (f : FpOk X pins H1 C) {m : Str → Option Value} (hn : s1.heap.Ns C m) (c : L2.CX X.prog X.w X.stack H1 s1 Ex u s') {Q : Value → Shared → Prop} {acc : Value} :
    notedBy (model X.prog X.w) X.A ce (fun e s' => lcEnds (model X.prog X.w) X.A X.xe Q acc ce (.error e) s') u s' := by
  obtain ⟨a, B, H', cls, d, rfl, fl, hok, ub, na, os, ag, hE⟩ := c
  obtain ⟨f0, f1, f2, f3, f4, f5⟩ := f
  have hCs : C ∉ frs X.stack := fun hm => by
    rw [hst] at hm
    obtain ⟨e, he, q⟩ := List.mem_filterMap.mp hm
    rcases List.mem_cons.mp he with z | z
    · rw [z, hfr] at q
      exact f1 (Option.some.inj q).symm
    · exact f2 (List.mem_filterMap.mpr ⟨e, z, q⟩)
  obtain ⟨oC, hoC⟩ : ∃ o, s1.heap.get? C = some o := by
    obtain ⟨o, _, _, ho, _⟩ := hn
    exact ⟨o, ho⟩
  have hBC : B.get? C = some oC := ub.keep C oC hoC f0 hCs
  have hHC : H' C = none := ub.free C oC hoC f0
  have hfrs : X.A.frames = some (X.env :: X.outer) := by rw [I.ok.frames, hst]
  unfold notedBy
  rw [noteFrame_eq hcf]
  rw [hst] at fl
  refine HandSPX.looks_onZ Zc.steady hfrs hfr fl fun h1 held up1 => ?_
  obtain ⟨st1, hBa, ff1, tr1⟩ := held
  refine ⟨m, ?_, fun h2 sb => ?_⟩
  · rw [hcl]
    refine hn.at' fun o e => ?_
    rw [hoC] at e
    cases e
    exact st1 C oC hBC
  rw [hcl] at sb
  -- the ground without the block's names
  obtain ⟨G, g1, g2⟩ := restrict B fun b => decide (b ≠ C)
  have gne : ∀ b, b ≠ C → G.get? b = B.get? b := fun b hb => g1 b (by simpa using hb)
  have gC : G.get? C = none := g2 C (by simp)
  have gsub : ∀ b o, G.get? b = some o → b ≠ C ∧ B.get? b = some o := fun b o e => by
    have hb : b ≠ C := fun z => by rw [z, gC] at e; cases e
    exact ⟨hb, (gne b hb).symm.trans e⟩
  have gnone : ∀ b, B.get? b = none → G.get? b = none := fun b e => by
    by_cases hb : b = C
    · rw [hb]; exact gC
    · rw [gne b hb]; exact e
  have haC : a ≠ C := fun z => by rw [z, hBC] at hBa; cases hBa
  obtain ⟨oe, vs, T, oT, ts, he, hz, hd, h1e, hnT, hTe, hT, hdT, h3⟩ := tr1
  have hTC : T ≠ C := fun z => by rw [z, hBC] at hnT; cases hnT
  have held2 : HandSPX.HeldZ G (X.env :: X.outer) a (Zc cls d) X.env.locals h2 := by
    refine ⟨fun b o e => ?_, gnone a hBa, ?_, oe, vs, T, oT, ts, (sb.2 a haC).trans he, hz, hd, h1e, gnone T hnT, hTe, (sb.2 T hTC).trans hT, hdT, h3⟩
    · obtain ⟨hb, e⟩ := gsub b o e
      exact (sb.2 b hb).trans (st1 b o e)
    · rw [← hst]
      rw [← hst] at ff1
      exact funFrames_none (funFrames_but sb ff1 hCs) fun L hL => gnone L (by
        obtain ⟨_, _, e, _⟩ := I.stack.mem hL
        by_cases hb : (B.get? L).isSome = true
        · exact absurd hL fun hm => by
            have := (ff1.mem hm).1
            rw [this] at hb
            cases hb
        · simpa using hb)
  -- it goes on
  unfold PySem.passOn
  refine wpAny_bind (wpAny_field ((sb.2 a haC).trans he) hd h1e ?_)
  rw [if_neg (by simp)]
  rw [hcf, hfr]
  refine wpAny_bind (HandSPX.setFlight_onZ held2 fun h3 held3 up3 => wpAny_throw (tk _ _ ?_))
  have nf : ∀ b ∈ frs X.stack, ∀ o, s'.heap.get? b = some o → ∃ sl, h3.get? b = some { o with slots := sl } := fun b hb o e => by
    have hbC : b ≠ C := fun z => hCs (by rw [← z]; exact hb)
    obtain ⟨_, o', e', hnf⟩ := fl.2.2.1.mem (by rw [← hst]; exact hb)
    rw [e] at e'
    cases e'
    obtain ⟨sl1, e1⟩ := up1 b o e hnf
    obtain ⟨sl2, e2⟩ := up3 b _ ((sb.2 b hbC).trans e1) hnf
    exact ⟨sl2, e2⟩
  -- the state without the block's names
  obtain ⟨S, q1, q2⟩ := restrict s1.heap fun b => decide (b ≠ C)
  have qne : ∀ b, b ≠ C → S.get? b = s1.heap.get? b := fun b hb => q1 b (by simpa using hb)
  have qsub : ∀ b o, S.get? b = some o → b ≠ C ∧ s1.heap.get? b = some o := fun b o e => by
    have hb : b ≠ C := fun z => by rw [z, q2 C (by simp)] at e; cases e
    exact ⟨hb, (qne b hb).symm.trans e⟩
  have J : Inv X pins σ H1 { s1 with heap := S } := I.turned (t' := s1.toks) (it := C) (fun b o hb e => (qne b hb).trans e) f0 f1 f3 f4 f5
  have hokG : HOk X.prog X.w H' G := fun b o q => (hok b o q).stay (fun x u hx r => by
    have hxC : x ≠ C := fun z => by
      rw [z] at hx
      rcases hx with hx | hx
      · rw [← hx, hHC] at q; cases q
      · rw [hHC] at hx; cases hx
    exact (gne x hxC).trans r) (fun _ r => r) fun _ _ r => r
  refine XE.of_sky J (B := G) (.inr (.inr (by rw [hst]; exact held3))) held3.1 hokG ⟨fun b o e n hb => ?_, fun b o e hb => ?_, fun b o e n => ub.free b o (qsub b o e).2 n, fun b o e hb => ?_, ub.tups, ub.frzs, ub.tbls⟩ na os ag (hW _ _ _ hE)
  · obtain ⟨hbC, e⟩ := qsub b o e
    exact (gne b hbC).trans (ub.keep b o e n hb)
  · obtain ⟨hbC, e⟩ := qsub b o e
    obtain ⟨sl, e1⟩ := ub.slot b o e hb
    obtain ⟨sl2, e2⟩ := nf b hb _ e1
    exact ⟨sl2, e2⟩
  · obtain ⟨hbC, e⟩ := qsub b o e
    obtain ⟨o', e1⟩ := ub.there b o e hb
    exact ⟨o', (gne b hbC).trans e1⟩
end
end DL
namespace DL
open PySem PySem.Spec PyProof.Rows L2
section
variable {X : Cx}
/-- .. for target in iter: elt may raise Ex -/
theorem pe_lcQ {W : WX} {elt tg iter : Expr} {ifs : List Expr} {scope : Scope} {own : List (Str × Nat)} {pos : Pos} {wi : TI} {g : TG} {tt : TT} {te : L2.St → XK → TE} (hc : X.calm = true) (hN : X.N.Nodup) (hst : X.stack = X.env :: X.outer) (hfr : X.env.frame = some X.env.locals) (tk : Takes X W) (hi : PI X tg iter wi) (ok : BlkOk X.N X.env.scope scope own)
    (hg : ∀ (s : Shared) (H : Hp) (C : Addr) (cl : List (Str × Addr)) (fp : List Addr) (Ex : XK), PG (blkQ X s H scope (compEnvC scope cl C X.env) fp Ex) tg g) (ht : ∀ (s : Shared) (H : Hp) (C : Addr) (cl : List (Str × Addr)) (fp : List Addr) (Ex : XK), PTs (blkQ X s H scope (compEnvC scope cl C X.env) fp Ex) ifs tt)
    (he : ∀ (s : Shared) (H : Hp) (C : Addr) (cl : List (Str × Addr)) (fp : List Addr) (Ex : XK) (σ : L2.St), PE (blkQ X s H scope (compEnvC scope cl C X.env) fp Ex) elt (te σ Ex)) (hs : ∀ x, foldedSetIterable iter X.env x = pure x := by intro _; rfl) :
    PE X (.ListComp elt [⟨tg, iter, ifs, 0⟩] scope pos) (fun σ H Q => tLc wi g tt (te σ fun cls d H => W cls d σ H) (own.map (·.2)) σ H Q) := by
  refine ⟨fun pins s σ H Q I h => ?_⟩
  rw [eval_ListComp]
  have hfree : ∀ y ∈ scope.names, y.2 = .free → ∃ c, X.env.cells.lookup y.1 = some c := fun y hy e => (ok.free y hy e).elim (fun k => I.ok.has _ (.inl k)) fun k => I.ok.has _ (.inr k)
  refine lc_runs rfl hs (closure_ok hfree) ok.kind (fun y hy e => by rw [ok.uniq y hy, e]) (L2.thn (hi.run pins s σ H _ I h) fun xv s1 hx => L2.thn hx fun itv s2 h2 => ?_)
  obtain ⟨it, fp, tn, J, H2, rfl, I2, T, st2, f2, q⟩ := h2
  refine wpAny_newObj_type (newEnv_comp ?_) (by show 0 ≤ sizeLine; decide)
  generalize hD : s2.heap.objs.size = D
  have hDn : H2 D = none := I2.hok.fresh (Nat.le_of_eq hD)
  obtain ⟨Wl, ⟨m0, w0⟩, turn⟩ := q D hDn
  generalize hs3 : ({ s2 with heap := s2.heap.push { cls := .type "list", data := .seq ([] : List Value).toArray } } : Shared) = s3
  have h3 : s3.heap = s2.heap.push { cls := .type "list", data := .seq ([] : List Value).toArray } := by rw [← hs3]
  have I3 : Inv X pins σ (L2.upd H2 D (.lst [])) s3 := by
    rw [← hs3]
    refine I2.laid (t' := s2.toks) (fun b o e => Heap.get?_push_of_some _ e) (Nat.le_of_eq hD) ⟨Nat.zero_le _, [], 0, .nil, ?_⟩
    rw [← hD]
    exact Heap.get?_push_size _ rfl
  have f3 : ∀ b ∈ fp, FpOk X pins (L2.upd H2 D (.lst [])) b ∧ b < s3.heap.objs.size := fun b hb => by
    obtain ⟨o, e, _⟩ := T.obj _ _ st2 b hb
    have hlt := Heap.lt_size e
    refine ⟨⟨?_, (f2 b hb).2⟩, by rw [h3, Heap.size_push]; exact Nat.lt_succ_of_lt hlt⟩
    rw [upd_ne (by rw [← hD]; exact Nat.ne_of_lt hlt)]
    exact (f2 b hb).1
  have st3 : tn 0 s3.heap := T.keep _ _ _ st2 fun b _ o e => by rw [h3]; exact Heap.get?_push_of_some _ e
  have I4 := block_start I3 ok hN f3
  have pg := hg s3 (L2.upd H2 D (.lst [])) s3.heap.objs.size (cellsFrom (s3.heap.objs.size + 1) scope.names (cloFrom X.env.cells scope.names [])) fp (fun cls d H => W cls d σ H)
  have pt := ht s3 (L2.upd H2 D (.lst [])) s3.heap.objs.size (cellsFrom (s3.heap.objs.size + 1) scope.names (cloFrom X.env.cells scope.names [])) fp (fun cls d H => W cls d σ H)
  have pe := he s3 (L2.upd H2 D (.lst [])) s3.heap.objs.size (cellsFrom (s3.heap.objs.size + 1) scope.names (cloFrom X.env.cells scope.names [])) fp (fun cls d H => W cls d σ H) σ
  show codeAny _ _ (.compStart (.ListComp elt [⟨tg, iter, ifs, 0⟩] scope pos) 0 (.ref it) (.ref D) (compEnvC scope (cellsFrom (s3.heap.objs.size + 1) scope.names (cloFrom X.env.cells scope.names [])) s3.heap.objs.size X.env)) (lcEnds (model X.prog X.w) X.A X.xe _ (.ref D) (compEnvC scope (cellsFrom (s3.heap.objs.size + 1) scope.names (cloFrom X.env.cells scope.names [])) s3.heap.objs.size X.env)) { s3 with heap := pushCells (s3.heap.push { cls := .type "dict", data := .dict #[] }) scope.names }
  have nfp : ∀ b ∈ fp, (L2.upd H2 D (.lst [])) b = none := fun b hb => (f3 b hb).1.1
  generalize hce : compEnvC scope (cellsFrom (s3.heap.objs.size + 1) scope.names (cloFrom X.env.cells scope.names [])) s3.heap.objs.size X.env = ce at I4 pg pt pe ⊢
  have cL : ce.locals = s3.heap.objs.size := by rw [← hce]; rfl
  have cF : ce.frame = X.env.frame := by rw [← hce]; rfl
  generalize hH3 : L2.upd H2 D (.lst []) = H3 at I3 I4 pg pt pe w0 nfp f3
  generalize hs4 : ({ s3 with heap := pushCells (s3.heap.push { cls := .type "dict", data := .dict #[] }) scope.names } : Shared) = s4 at I4 ⊢
  have st4 : tn 0 s4.heap := T.keep _ _ _ st3 fun b _ o e => by rw [← hs4]; exact pushCells_keeps _ _ _ _ (Heap.get?_push_of_some _ e)
  generalize hXB : blkQ X s3 H3 scope ce fp (fun cls d H => W cls d σ H) = XB at pg pt pe
  have I4 : Inv XB [] (wipe σ (own.map (·.2))) H3 s4 := by rw [← hXB]; exact Inv.xeTo I4
  have xP : XB.prog = X.prog := by rw [← hXB]
  have xw : XB.w = X.w := by rw [← hXB]
  have xK : XB.K = X.K := by rw [← hXB]
  have xA : XB.A = X.A := by rw [← hXB]
  have xc : XB.calm = true := by rw [← hXB]; exact hc
  have xe : XB.env = ce := by rw [← hXB]
  have stat : ∀ {σ' : L2.St} {H' : Hp} {s' : Shared}, Inv XB [] σ' H' s' → (∀ b ∈ fp, H' b = none) → ∀ b ∈ fp, FpOk XB [] H' b := by
    subst hXB
    exact fun {σ' H' s'} I' hn b hb => ⟨hn b hb, (I'.ok.exf b hb).1, I'.ok.exfs b hb, .inl hb, fun x c e => (I'.ok.exf b hb).2 x c e, fun p hp => absurd (show p ∈ ([] : List (Addr × Obj)) ++ [] from hp) (by simp)⟩
  -- the def's own context at a state of the block
  have back : ∀ {pinsB : List (Addr × Obj)} {σ' : L2.St} {H' : Hp} {s' : Shared}, Inv XB pinsB σ' H' s' → Inv X pins σ H' s' ∧ FpOk X pins H' s3.heap.objs.size ∧ ∃ m, s'.heap.Ns s3.heap.objs.size m := by
    subst hXB
    intro pinsB σ' H' s' I'
    have nC : H' s3.heap.objs.size = none := by
      have z : H' ce.locals = none := I'.free
      rw [cL] at z
      exact z
    refine ⟨I3.call' (ch := fp) I'.os I'.base I'.hok I'.bare fun b hb => ⟨(f3 b hb).1.2.2.2.1, (f3 b hb).1.2.1, (f3 b hb).1.2.2.2.2.1, (f3 b hb).1.2.2.2.2.2⟩, I3.fpOk (Nat.le_refl _) nC, ?_⟩
    obtain ⟨m, hn, _⟩ := I'.loc
    have hn : s'.heap.Ns ce.locals m := hn
    rw [cL] at hn
    exact ⟨m, hn⟩
  have bad : ∀ (u : Value) (s' : Shared), XB.xe u s' → notedBy (model X.prog X.w) X.A ce (fun e s' => lcEnds (model X.prog X.w) X.A X.xe (EP X pins σ Q) (.ref D) ce (.error e) s') u s' := by
    subst hXB
    intro u s' hx
    obtain ⟨pinsB, σB, H5, s5, IB, c⟩ := hx
    obtain ⟨I7, f7, m, hn⟩ := back (Inv.xeTo IB)
    exact blk_error hst hfr tk (fun cls d H h => h) I7 cF cL f7 hn c
  have loop : codeAny (model X.prog X.w) X.A (.compLoop (.ListComp elt [⟨tg, iter, ifs, 0⟩] scope pos) 0 (.ref it) (.ref D) ce) (lcEnds (model X.prog X.w) X.A X.xe (EP X pins σ Q) (.ref D) ce) s4 := by
    refine compLoop_any (fun n s' => ∃ i H', Inv XB [] (wipe σ (own.map (·.2))) H' s' ∧ tn i s'.heap ∧ (∀ b ∈ fp, H' b = none) ∧ Wl i n H') ?_ m0 ⟨0, H3, I4, st4, nfp, w0⟩
    rintro n s5 ⟨i, H5, I5, st5, n5, w5⟩
    rcases turn i n H5 w5 with ⟨stop, qq⟩ | ⟨go, Nx, hNx, step⟩
    · have td := T.done XB xP xw xK xc i [] s5 _ H5 (fun _ _ => False) I5 (stat I5 n5) st5 stop
      rw [xA] at td
      refine thnF td fun r s6 ⟨hr, I6⟩ => ?_
      subst hr
      obtain ⟨I7, ⟨f0, f1, f2, f3', f4, f5⟩, m, hn⟩ := back I6
      refine ⟨m, by rw [cL]; exact hn, fun h'' sb => ?_⟩
      rw [cL] at sb
      exact ⟨.ref D, H5, I7.turned (t' := s6.toks) (fun b o hb e => (sb.2 b hb).trans e) f0 f1 f3' f4 f5, rfl, qq⟩
    · have ti := T.item XB xP xw xK xc i [] s5 _ H5 (fun _ _ => False) I5 (stat I5 n5) st5 go
      rw [xA] at ti
      refine thnF ti fun r s6 ⟨u, hr, h6⟩ => ?_
      subst hr
      refine thnF h6 fun _ s7 ⟨x, H7, I7, r7, y7, st7, n7⟩ => ?_
      have I7' := I7.pinned (stat I7 n7) (T.obj _ _ st7)
      have r1 := pg.run _ s7 _ H7 x u _ I7' r7 (step x H7 y7)
      rw [xP, xw, xA, xe] at r1
      refine wpAny_mono r1 (fun _ s8 ⟨σ8, H8, I8, hw8, q8⟩ => ?_) bad
      have r2 := pt.run _ s8 σ8 H8 _ I8 q8
      rw [xP, xw, xA, xe] at r2
      refine wpAny_mono r2 (fun b s9 ⟨H9, I9, q9⟩ => ?_) bad
      have fin : ∀ {s' : Shared} {H' : Hp}, Inv XB ([] ++ pinsAt fp s7.heap) σ8 H' s' → Nx H' → ∃ m, m < n ∧ ∃ i H', Inv XB [] (wipe σ (own.map (·.2))) H' s' ∧ tn i s'.heap ∧ (∀ b ∈ fp, H' b = none) ∧ Wl i m H' := fun {s' H'} I' nx => by
        obtain ⟨m', hm, w'⟩ := hNx H' nx
        have pin' : ∀ b ∈ fp, ∀ o, s7.heap.get? b = some o → s'.heap.get? b = some o ∧ H' b = none := fun b hb o e =>
          let z := I'.pin (b, o) (List.mem_append_right _ (List.mem_append_right _ (mem_pinsAt hb e)))
          ⟨z.1, z.2.1⟩
        have hl : (wipe σ (own.map (·.2))).length = σ8.length := by rw [← hw8, wipe_length]
        refine ⟨m', hm, i + 1, H', (I'.unpinned (pins := [])).weak hl (fun j v e => (wipe_some (hw8 ▸ e)).1), T.keep _ _ _ st7 fun b hb o e => (pin' b hb o e).1, fun b hb => ?_, w'⟩
        obtain ⟨o, e, _⟩ := T.obj _ _ st7 b hb
        exact (pin' b hb o e).2
      cases b with
      | false =>
        simp only [Bool.false_eq_true, if_false] at q9 ⊢
        exact fin I9 q9
      | true =>
        simp only [if_true] at q9 ⊢
        have r3 := pe.run _ s9 σ8 H9 _ I9 q9
        rw [xP, xw, xA, xe] at r3
        refine wpAny_mono r3 (fun z s10 ⟨yv, H10, I10, r10, acc, hD10, hz10, nx⟩ => ?_) bad
        have ap := app_ok (X := XB) (Q := fun _ s' => ∃ m, m < n ∧ ∃ i H', Inv XB [] (wipe σ (own.map (·.2))) H' s' ∧ tn i s'.heap ∧ (∀ b ∈ fp, H' b = none) ∧ Wl i m H') (E := notedBy (model X.prog X.w) X.A ce fun e s' => lcEnds (model X.prog X.w) X.A X.xe (EP X pins σ Q) (.ref D) ce (.error e) s') I10 hD10 hz10 r10 fun s11 I11 => fin I11 nx
        rw [xP, xw, xA] at ap
        exact ap
  exact codeAny_compStart_list loop (T.self X.A 0 _ _ _ st4 loop)
end
end DL

namespace DL
open PySem PySem.Spec PyProof.Rows L2
section
variable {K : PySem.W.Frag} {X : Cx} {M : List Nat} {xc : Nat → Addr} {W : WX} {a b e o : Expr} {es : List Expr} {ta tb te to : TE} {fa fb f fo : Fn} {pos p apos : Pos}
/-! ### a text so often -/
theorem op_mulS : OpR X (binaryOp .Mult) (fun x y H Q => ∃ z n, x = .str z ∧ y = .int n ∧ 2 ≤ n ∧ n ≤ 1000 ∧ 1 ≤ z.length ∧ z.length ≤ 1000 ∧ Q (.str ⟨(List.replicate n.toNat z.cps).foldl (· ++ ·) #[]⟩) H) := by
  intro pins s σ H x y v u Q I rx ry h
  obtain ⟨z, n, rfl, rfl, h1, h2, h3, h4, q⟩ := h
  obtain ⟨t, rfl⟩ := rx
  obtain ⟨t', rfl⟩ := ry
  have c1 : ¬ n < 1 := by omega
  have c2 : ¬ (n == 1 || z.length == 0) = true := by
    rw [Bool.or_eq_true, beq_iff_eq, beq_iff_eq]
    omega
  have hmul : z.length * n.toNat ≤ 1000 * 1000 := Nat.mul_le_mul h4 (by omega)
  have hl : Builtin.Str.tooLong (z.length * n.toNat) = false := by
    unfold Builtin.Str.tooLong
    rw [decide_eq_false_iff_not]
    have := sizeLine_eq
    omega
  have hsz : (⟨(List.replicate n.toNat z.cps).foldl (· ++ ·) #[]⟩ : Str).length ≤ sizeLine := by
    have key : ∀ (k : Nat) (acc : Array Nat), ((List.replicate k z.cps).foldl (· ++ ·) acc).size = acc.size + k * z.length := fun k => by
      induction k with
      | zero => intro acc; simp
      | succ k ih =>
        intro acc
        rw [List.replicate_succ, List.foldl_cons, ih, Array.size_append, Nat.succ_mul]
        show acc.size + z.length + _ = _
        omega
    show ((List.replicate n.toNat z.cps).foldl (· ++ ·) #[]).size ≤ sizeLine
    rw [key, sizeLine_eq, Nat.mul_comm]
    have e0 : (#[] : Array Nat).size = 0 := rfl
    omega
  refine P.mul_str (by
    have g1 : ¬ n < -(2 ^ 63 : Int) := by omega
    have g2 : ¬ n ≥ 2 ^ 63 := by omega
    rw [decide_eq_false g1, decide_eq_false g2]
    rfl) (fun _ _ => ?_) (fun _ _ => hl) ?_
  · have : (1000 : Int) ≤ (2 ^ 63 - 1) / n := (Int.le_ediv_iff_mul_le (by omega)).mpr (by omega)
    omega
  · rw [if_neg c1, if_neg c2]
    exact ⟨hsz, ⟨.str _, H, I.tok _, ⟨_, rfl⟩, q⟩⟩
@[simp] def gMulS : PyData → PyData → Option PyData := fun x y => match x, y with
  | .str z, .int n => if 2 ≤ n ∧ n ≤ 1000 ∧ 1 ≤ z.length ∧ z.length ≤ 1000 then some (.str ⟨(List.replicate n.toNat z.cps).foldl (· ++ ·) #[]⟩) else none
  | _, _ => none
theorem od_mulS : OD K X (binaryOp .Mult) (fun x y H Q => ∃ z n, x = .str z ∧ y = .int n ∧ 2 ≤ n ∧ n ≤ 1000 ∧ 1 ≤ z.length ∧ z.length ≤ 1000 ∧ Q (.str ⟨(List.replicate n.toNat z.cps).foldl (· ++ ·) #[]⟩) H) gMulS :=
  ⟨op_mulS, fun {Hs H x y dx dy d Q} e a b hf q => by
    cases a <;> cases b <;> first
      | (cases hf; done)
      | (obtain ⟨⟨h1, h2, h3, h4⟩, rfl⟩ := ite_some hf
         exact ⟨_, _, rfl, rfl, h1, h2, h3, h4, q _ Hs H (Grow.refl e) (.str _)⟩)⟩
/-! ### lists of texts -/
def strsD : List PyData → Option (List Str)
  | [] => some []
  | .str x :: r => (strsD r).map (x :: ·)
  | _ :: _ => none
theorem strsD_map : ∀ ys : List Str, strsD (ys.map PyData.str) = some ys
  | [] => rfl
  | y :: ys => by
    rw [List.map_cons]
    unfold strsD
    rw [strsD_map ys]
    rfl
theorem strs_dv {H : Hp} : ∀ {vs : List V} {ds : List PyData} {ys : List Str}, DdAll K H vs ds → strsD ds = some ys → vs = ys.map V.str
  | _, _, _, .nil, h => by cases h; rfl
  | _, _, _, .cons a r, h => by
    cases a with
    | str x =>
      unfold strsD at h
      cases hr : strsD _ with
      | none => rw [hr] at h; cases h
      | some ys =>
        rw [hr] at h
        cases h
        rw [strs_dv r hr]
        rfl
    | _ => cases h
theorem DdAll.strs {H : Hp} : ∀ ys : List Str, DdAll K H (ys.map V.str) (ys.map PyData.str)
  | [] => .nil
  | y :: ys => .cons (.str y) (DdAll.strs ys)
@[simp] def gSplit : PyData → PyData → Option PyData
  | .str x, .str y => if 1 ≤ y.length ∧ x.length ≤ 1000000 then some (.list ((Txt.split x y).map .str)) else none
  | _, _ => none
theorem ed_split (ho : ED K X M o to fo) (ha : ED K X M a ta fa) (hs : starEach [a] X.env = [(false, eval a X.env)] := by rfl) (hbase : attributeBase o "split" X.env (eval o X.env) = eval o X.env := by rfl) (hline : (apos.endLine == pos.line) = true := by rfl) :
    ED K X M (.Call (.Attribute o "split" apos) [a] [] pos) (tM1 (fun x xs H Q => ∃ a b, x = .str a ∧ xs = [.str b] ∧ (b.length == 0) = false ∧ a.length + 2 ≤ sizeLine ∧ rNewStrs (Txt.split a b) H Q) to ta) (f2 gSplit fo fa) :=
  ⟨pe_split ho.pe ha.pe hs hbase hline, fun {Hs0 H0 Hs H σ ρ d Q} R hf q => by
    obtain ⟨x, h1, hf⟩ := bind_some hf
    obtain ⟨y, h2, hf⟩ := bind_some hf
    refine ho.sm R h1 fun v Hs1 H1 g1 d1 => ?_
    cases d1 with
    | str x =>
      refine ⟨⟨x, rfl⟩, ha.sm (R.grow g1) h2 fun u Hs2 H2 g2 d2 => ?_⟩
      cases d2 with
      | str y =>
        obtain ⟨⟨hy, hx⟩, rfl⟩ := ite_some hf
        refine ⟨x, y, rfl, rfl, ?_, by rw [sizeLine_eq]; omega, fun p hp => ?_⟩
        · rw [beq_eq_false_iff_ne]; omega
        · have g3 : Grow Hs2 H2 (L2.upd Hs2 p (.lst ((Txt.split x y).map V.str))) (L2.upd H2 p (.lst ((Txt.split x y).map V.str))) := Grow.alloc g2.sub hp
          exact q _ _ _ ((g1.trans g2).trans g3) (.lst upd_same (DdAll.strs _))
      | _ => cases hf
    | _ => cases hf⟩
@[simp] def gJoin : PyData → PyData → Option PyData
  | .str x, .list ds => (strsD ds).bind fun ys => if (ys.map (·.length)).sum + ys.length * x.length ≤ 1000000 then some (.str (Txt.join x ys)) else none
  | _, _ => none
theorem ed_join (ho : ED K X M o to fo) (ha : ED K X M a ta fa) (hs : starEach [a] X.env = [(false, eval a X.env)] := by rfl) (hbase : attributeBase o "join" X.env (eval o X.env) = eval o X.env := by rfl) (hline : (apos.endLine == pos.line) = true := by rfl) (hK : X.K = K := by rfl) :
    ED K X M (.Call (.Attribute o "join" apos) [a] [] pos) (tM1 (fun x xs H Q => ∃ a p, ∃ ys : List Str, x = .str a ∧ xs = [.ref p] ∧ (SqL K H p (ys.map V.str) ∨ SqT K H p (ys.map V.str)) ∧
      (ys.map (·.length)).sum + ys.length * a.length ≤ 16777216 ∧ Q (.str (Txt.join a ys)) H) to ta) (f2 gJoin fo fa) := by
  subst hK
  exact ⟨pe_join ho.pe ha.pe hs hbase hline, fun {Hs0 H0 Hs H σ ρ d Q} R hf q => by
    obtain ⟨x, h1, hf⟩ := bind_some hf
    obtain ⟨y, h2, hf⟩ := bind_some hf
    refine ho.sm R h1 fun v Hs1 H1 g1 d1 => ?_
    cases d1 with
    | str x =>
      refine ⟨⟨x, rfl⟩, ha.sm (R.grow g1) h2 fun u Hs2 H2 g2 d2 => ?_⟩
      cases d2 with
      | @lst p1 xs ds hp t =>
        obtain ⟨ys, h3, hf⟩ := bind_some hf
        obtain ⟨hl, rfl⟩ := ite_some hf
        have e := strs_dv t h3
        subst e
        exact ⟨x, p1, ys, rfl, rfl, .inl (sqL_of (g2.sub _ _ hp)), by omega, q _ Hs2 H2 (g1.trans g2) (.str _)⟩
      | _ => cases hf
    | _ => cases hf⟩
/-! ### f'{x}..' of two parts, x an int -/
@[simp] def gFmt2 : PyData → PyData → Option PyData
  | .int i, .str y => if i.natAbs.log2 < 1920 ∧ (toString i : Str).length + y.length ≤ 1000000 then some (.str ((toString i : Str) ++ y)) else none
  | _, _ => none
theorem ed_fmt2 {x : Str} {j : Nat} {p1 p2 : Pos} (ha : ED K X M a ta fa) : ED K X M (.JoinedStr [.FormattedValue a (-1) none p1, .Constant (.str x) j p2] pos) (fun σ H Q => tJs [tFmt ta, tC (.str x)] Str.empty σ H fun out H1 => Q (.str out) H1) (f2 gFmt2 fa (fC (.str x))) :=
  ⟨pe_joined (.cons (pe_fmt ha.pe) (.cons pe_str .nil)), fun {Hs0 H0 Hs H σ ρ d Q} R hf q => by
    obtain ⟨y, h1, hf⟩ := bind_some hf
    refine ha.sm R h1 fun v Hs1 H1 g1 d1 => ?_
    cases d1 with
    | int i =>
      obtain ⟨⟨hi, hl⟩, rfl⟩ := ite_some hf
      have e0 : Str.empty ++ (toString i : Str) = (toString i : Str) := by
        show (⟨#[] ++ (toString i : Str).cps⟩ : Str) = _
        rw [Array.empty_append]
      refine .inr ⟨i, rfl, hi, (toString i : Str), rfl, ?_, ?_⟩
      · rw [e0]; exact Nat.le_trans (Nat.le_trans (Nat.le_add_right _ _) hl) (by rw [sizeLine_eq]; omega)
      · rw [e0]
        refine ⟨x, rfl, ?_, q _ Hs1 H1 g1 (.str _)⟩
        show ((toString i : Str).cps ++ x.cps).size ≤ sizeLine
        rw [Array.size_append]
        exact Nat.le_trans hl (by rw [sizeLine_eq]; omega)
    | _ => cases hf⟩
/-! ### what may raise: fresh lists, tuples -/
structure QL (K : PySem.W.Frag) (xc : Nat → Addr) (X : Cx) (M : List Nat) (W : WX) (e : Expr) (t : TE) (f : Rho → Option (Except Nat (List PyData))) : Prop where
  pe : PE X e t
  sm : ∀ {Hs0 H0 Hs H : Hp} {σ : L2.St} {ρ : Rho} {r : Except Nat (List PyData)} {Q : VK}, SR K M Hs0 H0 Hs H σ ρ → f ρ = some r →
    (match r with
      | .ok ds => ∀ p xs Hs' H', Grow Hs H Hs' H' → H p = none → Hs' p = none → H' p = some (.lst xs) → DdAll K Hs' xs ds → Q (.ref p) H'
      | .error c => ∀ H', Same H H' → W (.ref (xc c)) none σ H') → t σ H Q
/-- an item of a block, a call that may raise -/
structure LQ (K : PySem.W.Frag) (xc : Nat → Addr) (X : Cx) (M : List Nat) (scope : Scope) (elt : Expr) (te : XK → TE) (f : Rho → Option (Except Nat PyData)) : Prop where
  pe : ∀ (s : Shared) (H : Hp) (C : Addr) (cl : List (Str × Addr)) (fp : List Addr) (Ex : XK), PE (blkQ X s H scope (compEnvC scope cl C X.env) fp Ex) elt (te Ex)
  sm : ∀ {Hs0 H0 Hs H : Hp} {σ : L2.St} {ρ : Rho} {r : Except Nat PyData} {Q : VK} {Ex : XK}, SR K M Hs0 H0 Hs H σ ρ → f ρ = some r →
    (match r with
      | .ok d => ∀ v Hs' H', Grow Hs H Hs' H' → Dd K Hs' v d → Q v H'
      | .error c => ∀ H', Same H H' → Ex (.ref (xc c)) none H') → te Ex σ H Q
theorem lq_call {x : Str} {k n : Nat} {fA : Addr} {fd : FuncData} {ps : List Str} {scope : Scope} {tr : TA} {fr : Rho → Option (List PyData)} {φ : List PyData → Option (Except Nat PyData)} (F : FnOk X.prog X.w X.K X.mg X.base (L2.CX X.prog X.w) k fA fd ps (spX K n xc φ)) (hr : Room k X.A) (hm : X.mg x = some (.ref fA))
    (hk : PySem.W.keepIn X.K (.ref fA) = true) (hb : Binds X.K fd ps []) (hn : ∀ ds r, φ ds = some r → ds.length = n)
    (ha : ∀ (s : Shared) (H : Hp) (C : Addr) (cl : List (Str × Addr)) (fp : List Addr) (Ex : XK), AD K (blkQ X s H scope (compEnvC scope cl C X.env) fp Ex) M (e :: es) tr fr)
    (hg : ∀ (s : Shared) (H : Hp) (C : Addr) (cl : List (Str × Addr)) (fp : List Addr) (Ex : XK), Gl (blkQ X s H scope (compEnvC scope cl C X.env) fp Ex) x := by intros; rfl) (hdb : (x == ("__debug__" : Str)) = false := by decide)
    (he : ∀ (s : Shared) (H : Hp) (C : Addr) (cl : List (Str × Addr)) (fp : List Addr) (Ex : XK), starEach (e :: es) (blkQ X s H scope (compEnvC scope cl C X.env) fp Ex).env = (false, eval e (blkQ X s H scope (compEnvC scope cl C X.env) fp Ex).env) :: starEach es (blkQ X s H scope (compEnvC scope cl C X.env) fp Ex).env := by intros; rfl)
    (hpl : ∀ (s : Shared) (H : Hp) (C : Addr) (cl : List (Str × Addr)) (fp : List Addr) (Ex : XK), (backTo pos (starEach es (blkQ X s H scope (compEnvC scope cl C X.env) fp Ex).env)).any (·.1) = false := by intros; rfl) :
    LQ K xc X M scope (.Call (.Name x p) (e :: es) [] pos) (fun Ex => tCallS (spX K n xc φ) (fun _ => Ex) tr) (qCall φ fr) :=
  ⟨fun s H C cl fp Ex => pe_callS (X := blkQ X s H scope (compEnvC scope cl C X.env) fp Ex) F hr (hg s H C cl fp Ex) hm hk hb (fun σ => blkQ_passes σ) (ha s H C cl fp Ex).pa hdb (he s H C cl fp Ex) (hpl s H C cl fp Ex),
    fun {Hs0 H0 Hs H σ ρ r Q Ex} R hf q => by
      obtain ⟨ds, h1, h2⟩ := bind_some hf
      refine (ha X.s_0 (fun _ => none) 0 [] [] Ex).sm R h1 fun vs Hs1 H1 g1 d1 => ?_
      refine ⟨by rw [d1.length]; exact hn _ _ h2, Hs1, ds, r, g1.sub, d1, h2, ?_⟩
      cases r with
      | error c => exact fun H2 e2 => q H2 (g1.ex.trans e2)
      | ok d => exact fun v Hs2 H2 g2 d2 => q v Hs2 H2 (g1.trans g2) d2⟩
def compQ (tg : PyData → Rho → Option Rho) (f : Rho → Option (Except Nat PyData)) (ρ : Rho) : List PyData → Option (Except Nat (List PyData))
  | [] => some (.ok [])
  | d :: ds => (tg d ρ).bind fun ρ1 => (f ρ1).bind fun r => match r with
    | .error c => some (.error c)
    | .ok y => (compQ tg f ρ ds).bind fun z => match z with
      | .error c => some (.error c)
      | .ok ys => some (.ok (y :: ys))
def fLq (vs : List Nat) (h : Rho → Option (List PyData)) (tg : PyData → Rho → Option Rho) (f : Rho → Option (Except Nat PyData)) : Rho → Option (Except Nat (List PyData)) :=
  fun ρ => (h ρ).bind fun ds => if ds.length ≤ 1000000 then compQ tg f (wipeR ρ vs) ds else none
/-- what is said of the whole by what is said of the rest -/
def joinQ (acc : List PyData) : Except Nat (List PyData) → Except Nat (List PyData)
  | .error c => .error c
  | .ok ys => .ok (acc ++ ys)
theorem ql_lc {Rl : YR} {elt tg iter : Expr} {scope : Scope} {wi : TI} {g : TG} {te : XK → TE} {ws : List Nat} {h : Rho → Option (List PyData)} {hg' : PyData → Rho → Option Rho} {fq : Rho → Option (Except Nat PyData)}
    (own : List (Str × Nat)) (hN : X.N.Nodup) (tk : Takes X W) (hi : ID K X M Rl tg iter wi h) (ok : BlkOk X.N X.env.scope scope own)
    (hg : ∀ (s : Shared) (H : Hp) (C : Addr) (cl : List (Str × Addr)) (fp : List Addr) (Ex : XK), GD K (blkQ X s H scope (compEnvC scope cl C X.env) fp Ex) M Rl ws tg g hg')
    (he : LQ K xc X M scope elt te fq) (hst : X.stack = X.env :: X.outer := by rfl) (hfr : X.env.frame = some X.env.locals := by rfl)
    (hws : ws.all (fun i => (own.map (·.2)).contains i) = true := by rfl) (hc : X.calm = true := by rfl) (hs : ∀ x, foldedSetIterable iter X.env x = pure x := by intro _; rfl) :
    QL K xc X M W (.ListComp elt [⟨tg, iter, [], 0⟩] scope pos) (fun σ H Q => tLc wi g tYes (te fun cls d H => W cls d σ H) (own.map (·.2)) σ H Q) (fLq (own.map (·.2)) h hg' fq) := by
  have hws' : ∀ i ∈ ws, i ∈ own.map (·.2) := fun i hi => by
    have := List.all_eq_true.mp hws i hi
    simpa using this
  refine ⟨pe_lcQ (te := fun _ Ex => te Ex) hc hN hst hfr tk hi.pi ok (fun s H C cl fp Ex => (hg s H C cl fp Ex).pg) (fun s H C cl fp Ex => pts_nil) (fun s H C cl fp Ex _ => he.pe s H C cl fp Ex) hs, fun {Hs0 H0 Hs H σ ρ res Q} R hf q => ?_⟩
  obtain ⟨ds, h1, h2⟩ := bind_some hf
  obtain ⟨hl, h2⟩ := ite_get h2
  refine hi.sm R h1 fun J Hs1 H1 g1 Y D hD => ?_
  have nD : Hs1 D = none := g1.sub.free hD
  refine ⟨fun i m H' => m = ds.length - i ∧ i ≤ ds.length ∧ ∃ Hsi acc accd tail, Grow Hs1 H1 Hsi H' ∧ Hsi D = none ∧ H' D = some (.lst acc) ∧ DdAll K Hsi acc accd ∧ acc.length ≤ i ∧ compQ hg' fq (wipeR ρ (own.map (·.2))) (ds.drop i) = some tail ∧ joinQ accd tail = res,
    ⟨ds.length, by simp, Nat.zero_le _, Hs1, [], [], res, Grow.alloc0 g1.sub hD, nD, upd_same, .nil, Nat.le_refl _, h2, by cases res <;> rfl⟩, ?_⟩
  rintro i m H2 ⟨rfl, hle, Hsi, acc, accd, tail, g2, n2, hD2, d2, hacc, hcf, hres⟩
  by_cases hlt : i < ds.length
  · refine .inr ⟨Y.go i H2 (g2.exs.trans g2.sub) hlt, fun H' => i + 1 ≤ ds.length ∧ ∃ Hsi acc accd tail, Grow Hs1 H1 Hsi H' ∧ Hsi D = none ∧ H' D = some (.lst acc) ∧ DdAll K Hsi acc accd ∧ acc.length ≤ i + 1 ∧ compQ hg' fq (wipeR ρ (own.map (·.2))) (ds.drop (i + 1)) = some tail ∧ joinQ accd tail = res,
      fun H' ⟨a, b⟩ => ⟨ds.length - (i + 1), by omega, rfl, a, b⟩, fun x H3 hy => ?_⟩
    obtain ⟨Hs3, g3, d, hd, ad⟩ := Y.yld i H2 x H3 Hsi hlt g2.exs g2.sub hy
    have ed : ds.drop i = d :: ds.drop (i + 1) := by
      rw [List.drop_eq_getElem_cons hlt, (List.getElem?_eq_some_iff.mp hd).2]
    rw [ed] at hcf
    unfold compQ at hcf
    obtain ⟨ρ1, c1, hcf⟩ := bind_some hcf
    obtain ⟨r1, c2, hcf⟩ := bind_some hcf
    have R3 : SR K M Hs0 H0 Hs3 H3 (L2.wipe σ (own.map (·.2))) (wipeR ρ (own.map (·.2))) := (((R.grow g1).wipe _).grow g2).grow g3
    refine (hg X.s_0 (fun _ => none) 0 [] [] fun _ _ _ => True).sm R3 ad c1 fun σ4 R4 w4 => ⟨?_, ?_⟩
    · rw [w4 _ hws']
      exact wipe_wipe σ _
    · unfold L2.tYes
      dsimp only
      rw [if_pos rfl]
      have hD5 : H3 D = some (.lst acc) := g3.ex _ _ hD2
      have n3 : Hs3 D = none := g3.new D n2 (by rw [hD2]; simp)
      refine he.sm R4 c2 ?_
      cases r1 with
      | error c =>
        cases hcf
        subst hres
        exact fun H6 e6 => q H6 (((g1.trans g2).trans g3).ex.trans e6)
      | ok y =>
        obtain ⟨z, c4, hcf⟩ := bind_some hcf
        refine fun v Hs6 H6 g6 d6 => ?_
        have hD6 : H6 D = some (.lst acc) := g6.ex _ _ hD5
        have n6 : Hs6 D = none := g6.new D n3 (by rw [hD5]; simp)
        have gg := (g2.trans g3).trans g6
        refine ⟨acc, hD6, szL (by omega), hlt, Hs6, acc ++ [v], accd ++ [y], z, ⟨fun b o e => ?_, gg.exs, fun b o e => ?_, gg.new⟩, n6, upd_same, ((d2.mono g3.exs).mono g6.exs).append (.cons d6 .nil), ?_, c4, ?_⟩
        · have hb : b ≠ D := fun z => by rw [z, hD] at e; cases e
          rw [upd_ne hb]
          exact gg.ex _ _ e
        · have hb : b ≠ D := fun z => by rw [z, n6] at e; cases e
          rw [upd_ne hb]
          exact gg.sub _ _ e
        · rw [List.length_append, List.length_singleton]
          omega
        · cases z with
          | error c => cases hcf; exact hres
          | ok ys =>
            cases hcf
            rw [← hres]
            show Except.ok ((accd ++ [y]) ++ ys) = Except.ok (accd ++ (y :: ys))
            rw [List.append_assoc]
            rfl
  · have ei : i = ds.length := by omega
    subst ei
    rw [List.drop_length] at hcf
    unfold compQ at hcf
    cases hcf
    have hres : Except.ok (accd ++ []) = res := hres
    rw [List.append_nil] at hres
    subst hres
    exact .inl ⟨Y.stop _ H2 (g2.exs.trans g2.sub) (Nat.le_refl _), q D acc Hsi H2 (g1.trans g2) (g1.ex.free hD) n2 hD2 d2⟩
@[simp] def fTupQ (f : Rho → Option (Except Nat (List PyData))) : Rho → Option (Except Nat PyData) := fun ρ => (f ρ).bind fun r => match r with
  | .error c => some (.error c)
  | .ok ds => some (.ok (.tuple ds))
/-- tuple([.. that may raise ..]) -/
theorem qd_tupleOf {fq : Rho → Option (Except Nat (List PyData))} (h : QL K xc X M W e te fq) (hm : X.mg "tuple" = none) (hg : Gl X "tuple" := by rfl)
    (he : starEach [e] X.env = (false, eval e X.env) :: starEach [] X.env := by rfl) (hpl : (backTo pos (starEach [] X.env)).any (·.1) = false := by rfl) (hK : X.K = K := by rfl) :
    QD K xc X M W (.Call (.Name "tuple" p) [e] [] pos) (tCB (fun xs H Q => ∃ p ys, xs = [.ref p] ∧ ((SqL K H p ys ∧ NewT Q H ys) ∨ (SqT K H p ys ∧ Q (.ref p) H))) (tCons te tNil)) (fTupQ fq) := by
  subst hK
  refine ⟨pe_callTy call_tupN hg hm boot_tuple (pa_cons h.pe pa_nil he) (by decide) (by decide) he hpl, fun {Hs0 H0 Hs H σ ρ r Q} R hf q => ?_⟩
  obtain ⟨r1, h1, h2⟩ := bind_some hf
  refine h.sm R h1 ?_
  cases r1 with
  | error c =>
    cases h2
    exact fun H' e' => q H' e'
  | ok ds =>
    cases h2
    intro p0 xs Hs1 H1 g1 hp hsp hH d1
    exact ⟨p0, xs, rfl, .inl ⟨sqL_of hH, NewT.of g1 d1 q⟩⟩
@[simp] def fPairQ (f g : Rho → Option (Except Nat PyData)) : Rho → Option (Except Nat PyData) := fun ρ => (f ρ).bind fun r => match r with
  | .error c => some (.error c)
  | .ok x => (g ρ).bind fun r2 => match r2 with
    | .error c => some (.error c)
    | .ok y => some (.ok (.tuple [x, y]))
/-- (a, b), each of which may raise -/
theorem qd_pair {k : Nat} {fq gq : Rho → Option (Except Nat PyData)} (ha : QD K xc X M W a ta fq) (hb : QD K xc X M W b tb gq) (n1 : starEach [a, b] X.env = (false, eval a X.env) :: starEach [b] X.env := by rfl) (n2 : starEach [b] X.env = (false, eval b X.env) :: starEach [] X.env := by rfl) :
    QD K xc X M W (.Tuple [a, b] k pos) (tTupN (tCons ta (tCons tb tNil))) (fPairQ fq gq) :=
  ⟨pe_tupN (pa_cons ha.pe (pa_cons hb.pe pa_nil n2) n1), fun {Hs0 H0 Hs H σ ρ r Q} R hf q => by
    obtain ⟨r1, h1, hf⟩ := bind_some hf
    refine ha.sm R h1 ?_
    cases r1 with
    | error c =>
      cases hf
      exact fun H' e' => q H' e'
    | ok x =>
      obtain ⟨r2, h2, hf⟩ := bind_some hf
      intro v Hs1 H1 g1 d1
      refine hb.sm (R.grow g1) h2 ?_
      cases r2 with
      | error c =>
        cases hf
        exact fun H' e' => q H' (g1.ex.trans e')
      | ok y =>
        cases hf
        intro u Hs2 H2 g2 d2
        exact ⟨szM (by show 2 ≤ 1000000; decide), NewT.of (g1.trans g2) (.cons (d1.mono g2.exs) (.cons d2 .nil)) q⟩⟩
end
end DL

namespace DL
open PySem PySem.Spec PyProof.Rows L2
/-! ### a set's table, reckoned ahead: one more hash -/
def simLay (t1 : SetTable) (hs1 : List Int) : Option (SetTable × List Int) :=
  if t1.fits hs1.length = true ∧ SetTable.sizeAbove (SetTable.grown hs1.length) ≤ 100000 then
    (t1.relaid hs1.toArray (SetTable.grown hs1.length)).bind fun r => if r.2.toList.isPerm (List.range hs1.length) = true then some (r.1, r.2.toList.filterMap fun i => hs1[i]?) else none
  else none
def simPut (t : SetTable) (hs : List Int) (h : Int) (j : Nat) : Option (SetTable × List Int) :=
  if (t.put j).1.tooFull = true then simLay (t.put j).1 (hs.take (t.put j).2 ++ h :: hs.drop (t.put j).2)
  else some ((t.put j).1, hs.take (t.put j).2 ++ h :: hs.drop (t.put j).2)
def simStep (t : SetTable) (hs : List Int) (h : Int) : Option (SetTable × List Int) :=
  if t.gaveWay = false ∧ t.fits hs.length = true ∧ hs.length < 4000 then
    match t.probe (fun i => (hs[i]?).getD 0) h (t.probeStart h) with
    | some (.empty j none) => simPut t hs h j
    | _ => none
  else none
def simRun : SetTable → List Int → List Int → Option (SetTable × List Int)
  | t, hs, [] => some (t, hs)
  | t, hs, h :: r => (simStep t hs h).bind fun q => simRun q.1 q.2 r
theorem ite_some2 {α : Type} {c : Prop} [Decidable c] {o : Option α} {b : α} (h : (if c then o else none) = some b) : c ∧ o = some b := by
  by_cases hc : c
  · rw [if_pos hc] at h; exact ⟨hc, h⟩
  · rw [if_neg hc] at h; cases h
theorem simRun_snoc : ∀ (r : List Int) (t : SetTable) (hs : List Int) (h : Int), simRun t hs (r ++ [h]) = (simRun t hs r).bind fun q => simStep q.1 q.2 h
  | [], t, hs, h => by
    show (simStep t hs h).bind (fun q => some (q.1, q.2)) = simStep t hs h
    cases simStep t hs h with
    | none => rfl
    | some q => rfl
  | x :: r, t, hs, h => by
    show (simStep t hs x).bind _ = ((simStep t hs x).bind _).bind _
    cases simStep t hs x with
    | none => rfl
    | some q => exact simRun_snoc r q.1 q.2 h
/-- the set at a stands as reckoned, with the values vs in it -/
structure SimAt (w : World) (h : Heap) (a : Addr) (t : SetTable) (hs : List Int) (vs : List Value) : Prop where
  ob : ∃ (es : Array (Int × Value)) (ep : Nat), (∃ o, h.get? a = some o ∧ o.ExactSet ∧ o.data = .set es ep t) ∧ es.toList.map (·.1) = hs ∧ (es.toList.map (·.2)).Perm vs
  plain : t.plain = true
  led : w.params.followText "set-order" = true ∨ t.led = true
theorem take_map {α β : Type} (f : α → β) (l : List α) (p : Nat) (x : α) : (l.take p ++ x :: l.drop p).map f = (l.map f).take p ++ f x :: (l.map f).drop p := by
  rw [List.map_append, List.map_cons, List.map_take, List.map_drop]
theorem fits_room {t : SetTable} {n : Nat} (h : t.fits n = true) : t.place.size = n ∧ t.fill ≤ t.mask := by
  unfold SetTable.fits at h
  rw [Bool.and_eq_true, beq_iff_eq, decide_eq_true_eq] at h
  exact h
theorem pick_perm {α : Type} {order : List Nat} {l : List α} (h : order.Perm (List.range l.length)) : (order.filterMap fun i => l[i]?).Perm l := by
  have := h.filterMap fun i => l[i]?
  rwa [List.filterMap_getElem?_range_length] at this
theorem pick_map {α β : Type} (f : α → β) (order : List Nat) (l : List α) : (order.filterMap fun i => l[i]?).map f = order.filterMap fun i => (l.map f)[i]? := by
  rw [List.map_filterMap]
  congr 1
  funext i
  rw [List.getElem?_map]
theorem relaid_flags {t t2 : SetTable} {hs : Array Int} {n : Nat} {o : Array Nat} (e : t.relaid hs n = some (t2, o)) : t2.plain = t.plain ∧ t2.led = t.led := by
  unfold SetTable.relaid SetTable.laid at e
  obtain ⟨ow, _, e⟩ := bind_some e
  cases e
  exact ⟨rfl, rfl⟩
section
variable {P : Program} {w : World} {A : Around} {E : Value → Shared → Prop} {s : Shared}
theorem lay_sim {a : Addr} {o : Obj} {es : Array (Int × Value)} {ep : Nat} {t t2 : SetTable} {hs2 : List Int} {vs : List Value} {Q : Unit → Shared → Prop} (ho : s.heap.get? a = some o) (hx : o.ExactSet) (hd : o.data = .set es ep t) (hv : (es.toList.map (·.2)).Perm vs)
    (pl : t.plain = true) (ld : w.params.followText "set-order" = true ∨ t.led = true) (e : simLay t (es.toList.map (·.1)) = some (t2, hs2)) (hz : es.size ≤ 100000)
    (q : ∀ h', Heap.SameBut a s.heap h' → SimAt w h' a t2 hs2 vs → Q () { s with heap := h' }) : wpAny (model P w) A (setRelay a (SetTable.grown es.size)) Q E s := by
  have hl : (es.toList.map (·.1)).length = es.size := by rw [List.length_map, Array.length_toList]
  unfold simLay at e
  rw [hl] at e
  obtain ⟨⟨c1, c2⟩, e⟩ := ite_some2 e
  obtain ⟨⟨t3, order⟩, e1, e⟩ := bind_some e
  obtain ⟨c3, e⟩ := ite_some2 e
  cases e
  have hp := List.isPerm_iff.mp c3
  have he : (es.toList.map (·.1)).toArray = es.map (·.1) := by
    apply Array.toList_inj.mp
    rw [Array.toList_map]
  rw [he] at e1
  have ek : (order.filterMap (es[·]?)).toList = order.toList.filterMap fun i => es.toList[i]? := by
    rw [Array.toList_filterMap]
    congr 1
    funext i
    rw [Array.getElem?_toList]
  have pk : (order.toList.filterMap fun i => es.toList[i]?).Perm es.toList := pick_perm (by rw [Array.length_toList]; exact hp)
  have sz2 : (order.filterMap (es[·]?)).size = es.size := by
    rw [← Array.length_toList, ek, pk.length_eq, Array.length_toList]
  obtain ⟨f1, f2⟩ := relaid_flags e1
  rw [setRelay_eq]
  refine wpAny_bind (wpAny_setState_of ho hd c1 ?_)
  dsimp only
  refine wp_if_neg (by rw [sizeLine_eq]; omega) ?_
  try refine wpAny_bind (wpAny_pure ?_)
  rw [e1]
  dsimp only
  refine wpAny_bind ?_
  refine wp_if_neg (by rw [sz2]; simp) ?_
  try refine wpAny_bind (wpAny_pure ?_)
  refine wpAny_pure ?_
  dsimp only
  refine wpAny_storeSet_of ho hd ?_ (by rw [sz2, sizeLine_eq]; omega)
  refine q _ (Heap.SameBut.update ..) ⟨⟨_, ep + 1, ⟨_, store_at ho hd, ⟨hx.1, hx.2.1, hx.2.2⟩, rfl⟩, ?_, ?_⟩, by rw [f1]; exact pl, by rw [f2]; exact ld⟩
  · rw [ek, pick_map]
  · rw [ek]
    exact (pk.map _).trans hv
theorem add_sim {a : Addr} {t t2 : SetTable} {hs hs2 : List Int} {vs : List Value} (R : SimAt w s.heap a t hs vs) {x : Addr} {k : List Int} (hx : IsT P w s.heap k x) (e : simStep t hs (thash P w k) = some (t2, hs2)) {Q : Bool → Shared → Prop}
    (q : ∀ h', Heap.SameBut a s.heap h' → SimAt w h' a t2 hs2 (.ref x :: vs) → Q true { s with heap := h' }) : wpAny (model P w) A (setAddHashed a (.ref x) (thash P w k)) Q E s := by
  obtain ⟨es, ep, ⟨o, ho, hex, hd⟩, hh, hv⟩ := R.ob
  have hl : es.size = hs.length := by rw [← hh, List.length_map, Array.length_toList]
  unfold simStep at e
  obtain ⟨⟨c1, c2, c3⟩, e⟩ := ite_some2 e
  rw [← hl] at c2 c3
  have hat : (fun (i : Nat) => (hs[i]?).getD 0) = fun (i : Nat) => ((es[i]?).map fun (y : Int × Value) => y.1).getD 0 := by
    funext i
    rw [← hh, List.getElem?_map, Array.getElem?_toList]
  rw [hat] at e
  cases hp : t.probe (fun i => (es[i]?.map (·.1)).getD 0) (thash P w k) (t.probeStart (thash P w k)) with
  | none => rw [hp] at e; cases e
  | some m =>
    rw [hp] at e
    cases m with
    | candidate _ _ _ => cases e
    | empty j d =>
      cases d with
      | some _ => cases e
      | none =>
        replace e : simPut t hs (thash P w k) j = some (t2, hs2) := e
        unfold setAddHashed
        refine wpAny_holding ?_
        rw [show (100000 : Nat) = 99999 + 1 from rfl, setAddHashedIn_succ]
        refine wpAny_bind (wpAny_setState_of ho hd c2 ?_)
        dsimp only
        refine wp_if_neg (by simp [byScan, Value.scannable]) ?_
        try refine wpAny_bind (wpAny_pure ?_)
        unfold setSearch
        rw [show (100000 : Nat) = 99999 + 1 from rfl, setSearchFrom_succ]
        refine wpAny_bind (wpAny_bind (wpAny_setState_of ho hd c2 ?_))
        dsimp only
        refine wp_if_neg (by rw [c1]; decide) ?_
        try refine wpAny_bind (wpAny_pure ?_)
        rw [show (none : Option SetTable.Probe).getD (t.probeStart (thash P w k)) = t.probeStart (thash P w k) from rfl, hp]
        dsimp only
        refine wpAny_pure ?_
        dsimp only
        refine wpAny_bind (wpAny_setState_of ho hd c2 ?_)
        dsimp only
        have pp : (t.put j).1.plain = true := R.plain
        have pl : (t.put j).1.led = t.led := rfl
        unfold simPut at e
        generalize t.put j = pt at e pp pl ⊢
        obtain ⟨t1, p⟩ := pt
        dsimp only at e pp pl ⊢
        first
          | (refine wpAny_bind ?_; refine wp_if_pos pp ?_; refine hashBy_tup hx ?_)
          | refine wp_if_pos pp (wpAny_bind (hashBy_tup hx ?_))
        simp only [if_true]
        have i1 : (SetTable.insertAt es p (thash P w k, Value.ref x)).toList = es.toList.take p ++ (thash P w k, Value.ref x) :: es.toList.drop p := SetTable.toList_insertAt _ _ _
        have i2 : (SetTable.insertAt es p (thash P w k, Value.ref x)).toList.map (·.1) = hs.take p ++ thash P w k :: hs.drop p := by rw [i1, take_map, hh]
        have i3 : ((SetTable.insertAt es p (thash P w k, Value.ref x)).toList.map (·.2)).Perm (.ref x :: vs) := by
          have z : (es.toList.take p ++ (thash P w k, Value.ref x) :: es.toList.drop p).Perm ((thash P w k, Value.ref x) :: es.toList) := put_perm es.toList p _
          rw [i1]
          exact (z.map _).trans (List.Perm.cons _ hv)
        have i4 : (SetTable.insertAt es p (thash P w k, Value.ref x)).size = es.size + 1 := by
          rw [← Array.length_toList, i1, (put_perm es.toList p (thash P w k, Value.ref x)).length_eq, List.length_cons, Array.length_toList]
        generalize SetTable.insertAt es p (thash P w k, Value.ref x) = es1 at i2 i3 i4 ⊢
        refine wpAny_bind (wpAny_storeSet_of ho hd ?_ (by rw [i4, sizeLine_eq]; omega))
        have sb : Heap.SameBut a s.heap (s.heap.update a (Obj.putSet es1 t1)) := Heap.SameBut.update ..
        have ho1 := store_at (es' := es1) (t' := t1) ho hd
        generalize s.heap.update a (Obj.putSet es1 t1) = h1 at sb ho1 ⊢
        have ld : w.params.followText "set-order" = true ∨ t1.led = true := by rw [pl]; exact R.led
        by_cases hf : t1.tooFull = true
        · rw [if_pos hf, ← i2] at e
          first
            | (refine wpAny_bind ?_; refine wp_if_pos (by simp [hf]) ?_)
            | (refine wp_if_pos (by simp [hf]) ?_; refine wpAny_bind ?_)
          rw [← i4]
          refine lay_sim (s := { s with heap := h1 }) ho1 ⟨hex.1, hex.2.1, hex.2.2⟩ rfl i3 pp ld e (by omega) fun h2 sb2 R2 => ?_
          exact wpAny_pure (q h2 (sb.trans sb2) R2)
        · rw [if_neg hf, ← i2] at e
          cases e
          first
            | refine wp_if_neg (by simp [hf]) ?_
            | (refine wpAny_bind ?_; refine wp_if_neg (by simp [hf]) ?_; refine wpAny_pure ?_)
          exact wpAny_pure (q h1 sb ⟨⟨es1, ep + 1, ⟨_, ho1, ⟨hex.1, hex.2.1, hex.2.2⟩, rfl⟩, rfl, i3⟩, pp, ld⟩)
end

/-! ### the same with less work: the slots as bits, the hashes by their slots -/
def ffree (m bits : Nat) : Nat → SetTable.Probe → Option Nat
  | 0, _ => none
  | f + 1, p => if bits.testBit p.j = true then ffree m bits f (adv m p) else some p.j
def fins (j : Nat) (h : Int) : List (Nat × Int) → List (Nat × Int)
  | [] => [(j, h)]
  | x :: r => if x.1 < j then x :: fins j h r else (j, h) :: x :: r
def bitsOf : List Nat → Nat
  | [] => 0
  | j :: r => bitsOf r ||| 2 ^ j
structure FS where
  mask : Nat
  bits : Nat
  n : Nat
  tab : List (Nat × Int)
def liveL : Nat → List (Option Nat) → List (Nat × Nat)
  | _, [] => []
  | j, none :: r => liveL (j + 1) r
  | j, some k :: r => (j, k) :: liveL (j + 1) r
def fpick (hs1 : List Int) (M : Nat) (live : List (Nat × Nat)) : Option FS :=
  if (live.map (·.2)).isPerm (List.range hs1.length) = true ∧ ((live.map (·.2)).filterMap fun i => hs1[i]?).length = live.length ∧ (live.map (·.1)).Pairwise (· < ·) then some ⟨M, bitsOf (live.map (·.1)), hs1.length, (live.map (·.1)).zip ((live.map (·.2)).filterMap fun i => hs1[i]?)⟩ else none
def frelay (hs1 : List Int) (M : Nat) : Option FS :=
  (SetTable.layClean M hs1.toArray).bind fun owner => if owner.size = M + 1 then fpick hs1 M (liveL 0 owner.toList) else none
def fstep (S : FS) (h : Int) : Option FS :=
  if S.mask % 2 = 1 ∧ S.n < 4000 ∧ S.n + 1 ≤ S.mask ∧ (S.tab.all fun x => x.2 != h) = true ∧ SetTable.sizeAbove (SetTable.grown (S.n + 1)) ≤ 100000 then
    (ffree S.mask S.bits 150 (runAt S.mask (SetTable.bits h % (S.mask + 1)) (SetTable.bits h))).bind fun j =>
      if (S.n + 1) * 5 ≥ S.mask * 3 then frelay ((fins j h S.tab).map (·.2)) (SetTable.sizeAbove (SetTable.grown (S.n + 1)) - 1)
      else some ⟨S.mask, S.bits ||| 2 ^ j, S.n + 1, fins j h S.tab⟩
  else none
def frun : FS → List Int → Option FS
  | S, [] => some S
  | S, h :: r => (fstep S h).bind fun S2 => frun S2 r
structure FRel (S : FS) (t : SetTable) (hs : List Int) : Prop where
  mask : t.mask = S.mask
  dm : t.dummies = #[]
  place : t.place.toList = S.tab.map (·.1)
  hs : hs = S.tab.map (·.2)
  ris : Ris (S.tab.map (·.1))
  bits : ∀ j, S.bits.testBit j = decide (j ∈ S.tab.map (·.1))
  n : S.n = S.tab.length
theorem ffree_spec {m bits : Nat} : ∀ {f : Nat} {p : SetTable.Probe} {j : Nat}, ffree m bits f p = some j → ∃ K, K < f ∧ (nth m p K).j = j ∧ bits.testBit j = false ∧ ∀ k, k < K → bits.testBit (nth m p k).j = true
  | 0, _, _, e => by cases e
  | f + 1, p, j, e => by
    unfold ffree at e
    by_cases c : bits.testBit p.j = true
    · rw [if_pos c] at e
      obtain ⟨K, h1, h2, h3, h4⟩ := ffree_spec e
      refine ⟨K + 1, by omega, h2, h3, fun k hk => ?_⟩
      cases k with
      | zero => exact c
      | succ k => exact h4 k (by omega)
    · rw [if_neg c] at e
      cases e
      exact ⟨0, by omega, rfl, by simpa using c, fun k hk => absurd hk (by omega)⟩
theorem fins_eq {j : Nat} {h : Int} : ∀ {tab : List (Nat × Int)} {p : Nat}, p ≤ tab.length → (∀ i x, tab[i]? = some x → i < p → x.1 < j) → (∀ i x, tab[i]? = some x → p ≤ i → j ≤ x.1) → fins j h tab = tab.take p ++ (j, h) :: tab.drop p
  | [], p, hp, _, _ => by
    simp [fins]
  | x :: r, 0, _, _, c3 => by
    have := c3 0 x rfl (Nat.zero_le _)
    unfold fins
    rw [if_neg (by omega)]
    rfl
  | x :: r, p + 1, hp, c2, c3 => by
    have := c2 0 x rfl (by omega)
    unfold fins
    rw [if_pos this, fins_eq (p := p) (by simpa using hp) (fun i y hy hi => c2 (i + 1) y hy (by omega)) (fun i y hy hi => c3 (i + 1) y hy (by omega))]
    rfl
theorem fins_mem {j : Nat} {h : Int} {x : Nat × Int} : ∀ {tab : List (Nat × Int)}, x ∈ fins j h tab ↔ x = (j, h) ∨ x ∈ tab
  | [] => by simp [fins]
  | y :: r => by
    unfold fins
    split
    · rw [List.mem_cons, fins_mem, List.mem_cons]
      constructor
      · rintro (h | h | h)
        · exact .inr (.inl h)
        · exact .inl h
        · exact .inr (.inr h)
      · rintro (h | h | h)
        · exact .inr (.inl h)
        · exact .inl h
        · exact .inr (.inr h)
    · rw [List.mem_cons]
theorem fins_ris {j : Nat} {h : Int} : ∀ {tab : List (Nat × Int)}, Ris (tab.map (·.1)) → j ∉ tab.map (·.1) → Ris ((fins j h tab).map (·.1))
  | [], _, _ => by
    unfold Ris
    simp [fins]
  | x :: r, hr, hj => by
    have hr' : Ris (r.map (·.1)) := (List.pairwise_cons.mp hr).2
    have h1 := (List.pairwise_cons.mp hr).1
    rw [List.map_cons, List.mem_cons, not_or] at hj
    unfold fins
    split
    · rename_i c
      refine List.pairwise_cons.mpr ⟨fun y hy => ?_, fins_ris hr' hj.2⟩
      obtain ⟨z, hz, rfl⟩ := List.mem_map.mp hy
      rcases fins_mem.mp hz with rfl | hz
      · exact c
      · exact h1 _ (List.mem_map_of_mem hz)
    · rename_i c
      refine List.pairwise_cons.mpr ⟨fun y hy => ?_, hr⟩
      have hx : j < x.1 := by omega
      rcases List.mem_cons.mp hy with rfl | hy
      · exact hx
      · exact Nat.lt_trans hx (h1 y hy)
theorem fins_len {j : Nat} {h : Int} : ∀ {tab : List (Nat × Int)}, (fins j h tab).length = tab.length + 1
  | [] => rfl
  | x :: r => by
    unfold fins
    split
    · rw [List.length_cons, fins_len, List.length_cons]
    · rfl
theorem bitsOf_iff : ∀ (l : List Nat) (i : Nat), (bitsOf l).testBit i = decide (i ∈ l)
  | [], i => by simp [bitsOf]
  | j :: r, i => by
    unfold bitsOf
    rw [Nat.testBit_or, bitsOf_iff r, Nat.testBit_two_pow]
    by_cases h1 : i ∈ r <;> by_cases h2 : j = i <;> simp [h1, h2, eq_comm]
theorem liveL_eq : ∀ (l : List (Option Nat)) (j : Nat), liveL j l = (List.range l.length).filterMap fun i => (l.getD i none).map (j + i, ·)
  | [], _ => rfl
  | o :: r, j => by
    have ih := liveL_eq r (j + 1)
    rw [List.length_cons, List.range_succ_eq_map, List.filterMap_cons, List.filterMap_map]
    have e : ((fun i => ((o :: r).getD i none).map (fun x => (j + i, x))) ∘ Nat.succ) = fun i => (r.getD i none).map (fun x => (j + 1 + i, x)) := by
      funext i
      show ((o :: r).getD (i + 1) none).map _ = _
      rw [List.getD_cons_succ, show j + Nat.succ i = j + 1 + i by omega]
    rw [e, ← ih]
    cases o <;> rfl
theorem live_arr {owner : Array (Option Nat)} {M : Nat} (h : owner.size = M + 1) : ((List.range (M + 1)).filterMap fun j => (owner.getD j none).map (j, ·)) = liveL 0 owner.toList := by
  rw [liveL_eq, Array.length_toList, h]
  congr 1
  funext j
  rw [Nat.zero_add, Array.getD_eq_getD_getElem?, List.getD_eq_getElem?_getD, Array.getElem?_toList]

theorem fstep_sim {S S2 : FS} {t : SetTable} {hs : List Int} {h : Int} (R : FRel S t hs) (e : fstep S h = some S2) : ∃ t2 hs2, simStep t hs h = some (t2, hs2) ∧ FRel S2 t2 hs2 := by
  unfold fstep at e
  obtain ⟨⟨c1, c2, c3, c4, c5⟩, e⟩ := ite_some2 e
  obtain ⟨j, e1, e⟩ := bind_some e
  obtain ⟨K, hK, ej, hb, hbk⟩ := ffree_spec e1
  have hlen : hs.length = S.n := by rw [R.hs, List.length_map, R.n]
  have hpl : t.place.size = hs.length := by rw [← Array.length_toList, R.place, R.hs, List.length_map, List.length_map]
  have hris : Ris t.place.toList := by rw [R.place]; exact R.ris
  have hgw : t.gaveWay = false := by
    unfold SetTable.gaveWay
    rw [R.mask, c1]
    rfl
  have hfit : t.fits hs.length = true := by
    unfold SetTable.fits SetTable.fill
    rw [R.dm, Bool.and_eq_true, beq_iff_eq, decide_eq_true_eq, R.mask, hpl]
    exact ⟨rfl, by show hs.length + 0 ≤ _; omega⟩
  have hj : j ∉ S.tab.map (·.1) := by
    have := R.bits j
    rw [hb] at this
    simpa using this.symm
  have hnew : ∀ x ∈ hs, x ≠ h := fun x hx z => by
    rw [R.hs] at hx
    obtain ⟨y, hy, rfl⟩ := List.mem_map.mp hx
    have := List.all_eq_true.mp c4 y hy
    simp [z] at this
  have hpr : t.probe (fun i => (hs[i]?).getD 0) h (t.probeStart h) = some (.empty j none) := by
    have hst : t.probeStart h = runAt S.mask (SetTable.bits h % (S.mask + 1)) (SetTable.bits h) := by
      rw [start_run, R.mask]
    unfold SetTable.probe
    rw [hst]
    have sp := go_spec t hris R.dm (fun i => (hs[i]?).getD 0) h (10 * SetTable.turns t.mask) K (runAt S.mask (SetTable.bits h % (S.mask + 1)) (SetTable.bits h)) rfl (by unfold SetTable.turns; omega)
      (fun k hk => by
        have b := hbk k hk
        rw [R.bits, decide_eq_true_iff] at b
        rw [R.place, R.mask]
        exact b)
      (by rw [R.mask, ej, R.place]; exact hj)
    rcases sp with ⟨k, i, h1, h2, h3, _⟩ | ⟨_, h2⟩
    · exfalso
      have hi : i < hs.length := by
        have := (List.getElem?_eq_some_iff.mp h2).1
        rw [Array.length_toList] at this
        omega
      rw [List.getElem?_eq_getElem hi] at h3
      exact hnew _ (List.getElem_mem hi) h3
    · rw [h2, R.mask, ej]
  have hcut := below_cut hris j
  have q2 : (t.put j).2 = SetTable.below t.place j := rfl
  obtain ⟨d1, d2, d3⟩ := hcut
  have hpj : (t.put j).2 ≤ S.tab.length := by
    rw [q2]
    have : t.place.toList.length = S.tab.length := by rw [R.place, List.length_map]
    first
      | omega
      | (rw [Array.length_toList] at this; omega)
  have hat : ∀ i (x : Nat × Int), S.tab[i]? = some x → t.place.toList[i]? = some x.1 := fun i x hx => by
    rw [R.place, List.getElem?_map, hx]
    rfl
  have ef : fins j h S.tab = S.tab.take (t.put j).2 ++ (j, h) :: S.tab.drop (t.put j).2 := fins_eq hpj (fun i x hx hi => d2 i x.1 (hat i x hx) hi) (fun i x hx hi => d3 i x.1 (hat i x hx) hi)
  have g1 : (fins j h S.tab).map (·.1) = (t.put j).1.place.toList := by
    rw [ef, take_map, put_place, R.place]
    rfl
  have g2 : (fins j h S.tab).map (·.2) = hs.take (t.put j).2 ++ h :: hs.drop (t.put j).2 := by
    rw [ef, take_map, R.hs]
  have g3 := put_dm R.dm j
  have g4 : (t.put j).1.mask = S.mask := R.mask
  have gl : (t.put j).1.place.size = S.n + 1 := by
    rw [← Array.length_toList, ← g1, List.length_map, fins_len, R.n]
  have gf : (t.put j).1.tooFull = decide ((S.n + 1) * 5 ≥ S.mask * 3) := by
    unfold SetTable.tooFull SetTable.fill
    rw [g3, g4, gl]
    rfl
  have hsim : simStep t hs h = simPut t hs h j := by
    unfold simStep
    rw [if_pos ⟨hgw, hfit, by omega⟩, hpr]
  rw [hsim]
  unfold simPut
  rw [gf, ← g2]
  by_cases hf : (S.n + 1) * 5 ≥ S.mask * 3
  · rw [if_pos hf] at e
    rw [if_pos (by simpa using hf)]
    have hl1 : ((fins j h S.tab).map (·.2)).length = S.n + 1 := by rw [List.length_map, fins_len, R.n]
    generalize (fins j h S.tab).map (·.2) = hs1 at e hl1
    unfold frelay at e
    obtain ⟨owner, e2, e⟩ := bind_some e
    obtain ⟨c6, e⟩ := ite_some2 e
    unfold fpick at e
    obtain ⟨⟨c7, c8, c9⟩, e⟩ := ite_some2 e
    cases e
    unfold simLay
    rw [hl1, if_pos ⟨by
      unfold SetTable.fits SetTable.fill
      rw [g3, g4, gl, Bool.and_eq_true, beq_iff_eq, decide_eq_true_eq]
      exact ⟨rfl, by show S.n + 1 + 0 ≤ _; omega⟩, c5⟩]
    have el := live_arr c6
    rw [← el] at c7 c8 c9 ⊢
    generalize hL : ((List.range (SetTable.sizeAbove (SetTable.grown (S.n + 1)) - 1 + 1)).filterMap fun j => (owner.getD j none).map (j, ·)) = L at c7 c8 c9 ⊢
    have er : (t.put j).1.relaid hs1.toArray (SetTable.grown (S.n + 1)) = some ({ mask := SetTable.sizeAbove (SetTable.grown (S.n + 1)) - 1, place := (L.map (·.1)).toArray, dummies := #[], finger := (t.put j).1.finger, led := (t.put j).1.led, moves := (t.put j).1.movedTo (SetTable.sizeAbove (SetTable.grown (S.n + 1)) - 1), plain := (t.put j).1.plain }, (L.map (·.2)).toArray) := by
      unfold SetTable.relaid SetTable.laid
      rw [e2, ← hL]
      rfl
    rw [er, Option.bind_some]
    rw [hl1] at c7
    refine ⟨_, _, if_pos c7, ?_⟩
    have z1 : ((L.map (·.1)).zip ((L.map (·.2)).filterMap fun i => hs1[i]?)).map (·.1) = L.map (·.1) := List.map_fst_zip (by rw [c8, List.length_map]; exact Nat.le_refl _)
    have z2 : ((L.map (·.1)).zip ((L.map (·.2)).filterMap fun i => hs1[i]?)).map (·.2) = (L.map (·.2)).filterMap fun i => hs1[i]? := List.map_snd_zip (by rw [c8, List.length_map]; exact Nat.le_refl _)
    refine ⟨rfl, rfl, ?_, ?_, ?_, fun i => ?_, ?_⟩
    · exact z1.symm
    · exact z2.symm
    · rw [z1]; exact c9
    · rw [z1]; exact bitsOf_iff _ _
    · have := (List.isPerm_iff.mp c7).length_eq
      rw [List.length_map, List.length_range] at this
      show S.n + 1 = _
      rw [List.length_zip, c8, List.length_map]
      omega
  · rw [if_neg hf] at e
    cases e
    rw [if_neg (by simpa using hf)]
    refine ⟨_, _, rfl, ⟨g4, g3, g1.symm, rfl, fins_ris R.ris hj, fun i => ?_, by rw [fins_len, R.n]⟩⟩
    show (S.bits ||| 2 ^ j).testBit i = _
    rw [Nat.testBit_or, R.bits, Nat.testBit_two_pow]
    have : (i ∈ (fins j h S.tab).map (·.1)) ↔ (i ∈ S.tab.map (·.1) ∨ j = i) := by
      rw [List.mem_map, List.mem_map]
      constructor
      · rintro ⟨x, hx, rfl⟩
        rcases fins_mem.mp hx with rfl | hx
        · exact .inr rfl
        · exact .inl ⟨x, hx, rfl⟩
      · rintro (⟨x, hx, rfl⟩ | rfl)
        · exact ⟨x, fins_mem.mpr (.inr hx), rfl⟩
        · exact ⟨(j, h), fins_mem.mpr (.inl rfl), rfl⟩
    rw [← Bool.decide_or]
    exact decide_eq_decide.mpr this.symm
theorem frun_sim : ∀ {r : List Int} {S S2 : FS} {t : SetTable} {hs : List Int}, FRel S t hs → frun S r = some S2 → ∃ t2 hs2, simRun t hs r = some (t2, hs2) ∧ FRel S2 t2 hs2
  | [], S, S2, t, hs, R, e => by
    cases e
    exact ⟨t, hs, rfl, R⟩
  | h :: r, S, S2, t, hs, R, e => by
    obtain ⟨S1, e1, e2⟩ := bind_some (show ((fstep S h).bind fun S2 => frun S2 r) = some S2 from e)
    obtain ⟨t1, hs1, e3, R1⟩ := fstep_sim R e1
    obtain ⟨t2, hs2, e4, R2⟩ := frun_sim R1 e2
    refine ⟨t2, hs2, ?_, R2⟩
    show ((simStep t hs h).bind fun q => simRun q.1 q.2 r) = _
    rw [e3]
    exact e4
theorem frel_new (b : Bool) : FRel ⟨7, 0, 0, []⟩ (.fresh 0 0 b) [] := ⟨rfl, rfl, rfl, rfl, List.Pairwise.nil, fun j => by simp, rfl⟩
def hashT (k : List Int) : Int := reduceHash (Builtin.Tuple.tupleHashOf (k.map hashInt))
theorem thash_eq (P : Program) (w : World) (k : List Int) : thash P w k = hashT k := rfl
/-- set() takes these tuples of ints one after the other -/
def setTakes (kss : List (List Int)) : Bool := (frun ⟨7, 0, 0, []⟩ (kss.map hashT)).any fun S => decide (S.n ≤ S.mask) && decide (S.n < 4000)

/-! ### the set at work -/
theorem simRun_some : ∀ {r q : List Int} {t : SetTable} {hs : List Int} {u : SetTable × List Int}, simRun t hs (r ++ q) = some u → ∃ v, simRun t hs r = some v
  | [], _, t, hs, _, _ => ⟨_, rfl⟩
  | h :: r, q, t, hs, u, e => by
    obtain ⟨a, e1, e2⟩ := bind_some (show ((simStep t hs h).bind fun z => simRun z.1 z.2 (r ++ q)) = some u from e)
    obtain ⟨v, e3⟩ := simRun_some e2
    refine ⟨v, ?_⟩
    show ((simStep t hs h).bind fun z => simRun z.1 z.2 r) = _
    rw [e1]
    exact e3
section
variable {P : Program} {w : World} {A : Around} {E : Value → Shared → Prop} {s : Shared}
theorem SimAt.keep {h h' : Heap} {a : Addr} {t : SetTable} {hs : List Int} {vs : List Value} (R : SimAt w h a t hs vs) (k : ∀ o, h.get? a = some o → h'.get? a = some o) : SimAt w h' a t hs vs := by
  obtain ⟨es, ep, ⟨o, ho, r⟩, q⟩ := R.ob
  exact ⟨⟨es, ep, ⟨o, k o ho, r⟩, q⟩, R.plain, R.led⟩
/-- what stands in the set after the first i -/
def Upto (w : World) (h : Heap) (a : Addr) (ks : List (Addr × List Int)) (i : Nat) : Prop := ∃ t hs vs, simRun (.fresh 0 0 (!w.params.followText "set-order")) [] ((ks.take i).map fun p => hashT p.2) = some (t, hs) ∧ SimAt w h a t hs vs ∧ vs.Perm ((ks.take i).map fun p => Value.ref p.1)
theorem upto_loop {I : Addr} {fp wr : List Addr} {G : Array GenState → Array GenState → Prop} {n : Nat} {Pv : Nat → Value → Prop} {St : Nat → Shared → Prop} {R : Result → Shared → Prop} (W : WalksS P w A.in1 I fp wr G n Pv St) (S : Addr) (hSf : S ∉ fp) (ks : List (Addr × List Int)) (hn : n = ks.length)
    (hsim : ∃ u, simRun (.fresh 0 0 (!w.params.followText "set-order")) [] (ks.map fun p => hashT p.2) = some u) (hval : ∀ i v, Pv i v → ∃ p, ks[i]? = some p ∧ v = .ref p.1) (h0 : Heap) (hk : ∀ p ∈ ks, IsT P w h0 p.2 p.1) (hS0 : h0.get? S = none) (hw0 : ∀ b ∈ wr, h0.get? b = none) (hu : A.in1.units < cLine) :
    ∀ (k i : Nat) (s : Shared), n - i = k → i ≤ n → St i s → (∀ b o, h0.get? b = some o → s.heap.get? b = some o) → Upto w s.heap S ks i →
      (∀ s', Moved (S :: wr) G s s' → Upto w s'.heap S ks n → (∀ b o, h0.get? b = some o → s'.heap.get? b = some o) → R (.ok (.ret .none)) s') →
      codeAny (model P w) A (.builtin "set.update.loop" ⟨[.ref S, .ref I], []⟩) R s := by
  have nS : S ∉ wr := fun z => hSf (W.sub _ z)
  have up : ∀ b ∈ wr, b ∈ S :: wr := fun b z => List.mem_cons_of_mem _ z
  have still : ∀ {s s' : Shared}, Moved wr G s s' → (∀ b o, h0.get? b = some o → s.heap.get? b = some o) → ∀ b o, h0.get? b = some o → s'.heap.get? b = some o := fun m kp b o e => m.heap b o (fun z => by rw [hw0 b z] at e; cases e) (kp b o e)
  intro k
  induction k with
  | zero =>
    intro i s hk' hi hst kp U done
    have : i = n := by omega
    subst this
    refine codeAny_builtin F.entry_set_update_loop ?_
    rw [Around.under_plainId F.plain_set_update_loop _]
    show wpAny _ A.in1 (pyNext (.ref I) >>= _) _ _ s
    refine wpAny_bind (W.done s _ _ hst fun s' m => ?_)
    show wpAny _ A.in1 (ret Value.none) _ _ s'
    obtain ⟨t, hs, vs, e, r, p⟩ := U
    exact wpAny_pure (done s' (m.mono up) ⟨t, hs, vs, e, r.keep fun o z => m.heap S o nS z, p⟩ (still m kp))
  | succ k ih =>
    intro i s hk' hi hst kp U done
    have hlt : i < n := by omega
    refine codeAny_builtin F.entry_set_update_loop ?_
    rw [Around.under_plainId F.plain_set_update_loop _]
    show wpAny _ A.in1 (pyNext (.ref I) >>= _) _ _ s
    refine wpAny_bind (W.item i s _ _ hlt hst fun v s' hP hst' m => ?_)
    obtain ⟨p, hp, rfl⟩ := hval i v hP
    have kp' := still m kp
    obtain ⟨t, hs, vs, e, r, pm⟩ := U
    have r' : SimAt w s'.heap S t hs vs := r.keep fun o z => m.heap S o nS z
    have hx : IsT P w s'.heap p.2 p.1 := isT_keep (hk p (List.mem_of_getElem? hp)) kp'
    have tn : ks.take (i + 1) = ks.take i ++ [p] := by rw [List.take_succ, hp] <;> rfl
    have next : ∃ t2 hs2, simStep t hs (thash P w p.2) = some (t2, hs2) ∧ simRun (.fresh 0 0 (!w.params.followText "set-order")) [] ((ks.take (i + 1)).map fun p => hashT p.2) = some (t2, hs2) := by
      obtain ⟨u, hu⟩ := hsim
      rw [← List.take_append_drop (i + 1) ks, List.map_append] at hu
      obtain ⟨⟨t2, hs2⟩, e2⟩ := simRun_some hu
      refine ⟨t2, hs2, ?_, e2⟩
      rw [tn, List.map_append, List.map_cons, List.map_nil, simRun_snoc, e] at e2
      exact e2
    obtain ⟨t2, hs2, e2, e3⟩ := next
    show wpAny _ A.in1 (holding [Value.ref p.1] (setAdd S (.ref p.1)) >>= _) _ _ s'
    refine wpAny_bind (wpAny_holding ?_)
    unfold setAdd
    refine wpAny_holding (wpAny_bind (wpAny_pyHash_tuple hu hx ?_))
    refine add_sim (s := { s' with toks := s'.toks + (p.2.length + 1) }) r' hx e2 fun h' sb R2 => ?_
    have kp2 : ∀ b o, h0.get? b = some o → h'.get? b = some o := fun b o z => (sb.2 b (fun y => by rw [y, hS0] at z; cases z)).trans (kp' b o z)
    have U2 : Upto w h' S ks (i + 1) := ⟨t2, hs2, _, e3, R2, by
      rw [tn, List.map_append]
      exact (List.Perm.cons _ pm).trans (List.perm_append_singleton _ _).symm⟩
    refine wpAny_pure ⟨plainId_quiet F.plain_set_update_loop _, ih (i + 1) _ (by omega) hlt (W.frame _ s' _ _ hst' (Nat.le_add_right _ _) fun b hb o z => ?_) kp2 U2 fun s'' m2 U3 kp3 => ?_⟩
    · rw [sb.2 b fun y => hSf (by rw [← y]; exact hb)]
      exact z
    · refine done s'' (Moved.trans W.gtrans ((m.mono up).then_heap (Nat.le_add_right _ _) fun b o hb z => ?_) m2) U3 kp3
      rw [sb.2 b fun y => hb (by rw [y]; exact List.mem_cons_self)]
      exact z
theorem upto_new {h : Heap} {a : Addr} (ks : List (Addr × List Int)) (ho : h.get? a = some (setOb w)) : Upto w h a ks 0 :=
  ⟨_, [], [], rfl, ⟨⟨#[], 0, ⟨_, ho, ⟨rfl, rfl, rfl⟩, rfl⟩, rfl, List.Perm.nil⟩, rfl, by
    show _ ∨ (!w.params.followText "set-order") = true
    cases w.params.followText "set-order"
    · exact .inr rfl
    · exact .inl rfl⟩, List.Perm.nil⟩
/-- set(a list of tuples of ints) -/
theorem call_setT {q : Addr} {vs : Array Value} (ks : List (Addr × List Int)) {Q : Value → Shared → Prop} (calm : A.handled = none) (isL : s.heap.IsList q vs) (hin : vs.toList = ks.map fun p => Value.ref p.1) (hk : ∀ p ∈ ks, IsT P w s.heap p.2 p.1)
    (hsim : ∃ u, simRun (.fresh 0 0 (!w.params.followText "set-order")) [] (ks.map fun p => hashT p.2) = some u) (hu : A.units + 3 < cLine)
    (done : ∀ (hp : Heap) (t : Nat), Upto w hp s.heap.objs.size ks ks.length → (∀ b u, s.heap.get? b = some u → hp.get? b = some u) → Q (.ref s.heap.objs.size) { s with heap := hp, toks := t }) :
    wpAny (model P w) A (call (.type "set") [.ref q]) Q E s := by
  have nv : vs.size = ks.length := by
    have z := congrArg List.length hin
    rwa [Array.length_toList, List.length_map] at z
  obtain ⟨_, _, mro⟩ := F.called_set.mro
  have mk := F.called_set.made
  have sb := F.called_set.sub
  have nt := F.called_set.notType
  have cc := F.called_set.canCreate
  have tc := F.typeCall_set_1 (.ref q)
  refine wpAny_call (codeAny_of_tree ?_)
  show wpAny _ _ (callAny (.type "set") _) _ _ _
  refine wpAny_pure ⟨Code.quiet_builtin _ (by decide +kernel), codeAny_builtin F.entry_type_call ?_⟩
  rw [Around.under_plain (weight_type_call_type "set" [.ref q] []) rfl]
  repeat (any_goals (first | assumption | wp_step))
  refine codeAny_mono (code_set_led1 (.ref q) (E := E) (Q₁ := fun v s1 => v = .ref s.heap.objs.size ∧ s1 = { s with heap := s.heap.push (setOb w) }) ⟨rfl, rfl⟩) fun r s1 hr => ?_
  cases r with
  | error e => exact hr
  | ok fl =>
    cases fl with
    | ret v =>
      obtain ⟨rfl, rfl⟩ := hr
      have at0 : (s.heap.push (setOb w)).get? s.heap.objs.size = some (setOb w) := Heap.get?_push_size _ rfl
      have ty0 : Shared.TypeIs { s with heap := s.heap.push (setOb w) } (.ref s.heap.objs.size) "set" := ⟨_, at0, rfl⟩
      have lk := F.called_set.init.lookup
      have bd := F.called_set.init.bind (.ref s.heap.objs.size)
      repeat (any_goals (first | assumption | wp_step))
      refine codeAny_mono (codeAny_call_builtin (R := wants (fun r s2 => r = .none ∧ ∃ hp t, s2 = { s with heap := hp, toks := t } ∧ Upto w hp s.heap.objs.size ks ks.length ∧ (∀ b u, s.heap.get? b = some u → hp.get? b = some u)) E)
        F.called_set.init.plain F.entry_set_init (check_set_init_1 ty0 ?_)) fun r2 s2 hr2 => ?_
      · obtain ⟨⟨oc, od, odt, osl⟩, ho, e1, n0, e2⟩ := isL
        simp only at e1 e2
        subst e1 e2
        have ho1 : (s.heap.push (setOb w)).get? q = some { cls := .type "list", dict := od, data := .seq vs n0, slots := osl } := Heap.get?_push_of_some _ ho
        have ls := F.sub_list_set
        have lf := F.sub_list_frozenset
        have nd : (Value.type "list" == Value.type "dict") = false := by decide
        have isL1 : (s.heap.push (setOb w)).IsList q vs := ⟨_, ho1, rfl, n0, rfl⟩
        unfold Builtin.«set.__init__» noKeywords Builtin.Frozenset.updateFrom
        generalize gi : pyIter = it
        wp_walk
        subst gi
        refine wpAny_pyIter_list isL1 (wpAny_bind (wpAny_runValue ?_))
        have ql : q < s.heap.objs.size := Heap.lt_size ho
        have zz : (s.heap.push (setOb w)).objs.size = s.heap.objs.size + 1 := Heap.size_push ..
        have q1 : q ≠ (s.heap.push (setOb w)).objs.size := by rw [zz]; exact Nat.ne_of_lt (Nat.lt_succ_of_lt ql)
        have calm3 : A.in1.in1.in1.handled = none := by simp [calm]
        have out : s.heap.objs.size ∉ [(s.heap.push (setOb w)).objs.size, q] := by
          rw [zz]
          intro hm
          rcases List.mem_cons.mp hm with z | z
          · exact Nat.ne_of_lt (Nat.lt_succ_self _) z
          · exact Nat.ne_of_gt ql (List.mem_singleton.mp z)
        have val : ∀ (i : Nat) (v : Value), vs[i]? = some v → ∃ p, ks[i]? = some p ∧ v = .ref p.1 := fun i v hv => by
          have z : vs.toList[i]? = some v := by rw [Array.getElem?_toList]; exact hv
          rw [hin, List.getElem?_map] at z
          cases hq : ks[i]? with
          | none => rw [hq] at z; cases z
          | some p =>
            rw [hq] at z
            exact ⟨p, rfl, (Option.some.inj z).symm⟩
        have far : ∀ b, s.heap.objs.size ≤ b → s.heap.get? b = none := fun b hb => by
          cases z : s.heap.get? b with
          | none => rfl
          | some o => exact absurd (Nat.lt_of_lt_of_le (Heap.lt_size z) hb) (Nat.lt_irrefl _)
        refine upto_loop ((Walks.list calm3 _ q q1 vs).toS) s.heap.objs.size out ks nv hsim val s.heap hk (far _ (Nat.le_refl _)) (fun b hb => far b (by
          rw [List.mem_singleton.mp hb, zz]
          exact Nat.le_succ _)) hu (vs.size - 0) 0 _ (by omega) (Nat.zero_le _) ⟨⟨_, Heap.get?_push_size _ rfl, rfl, rfl⟩, isL1.push _⟩ (fun b o e => Heap.get?_push_of_some _ (Heap.get?_push_of_some _ e)) ?start ?fin
        case start => exact upto_new ks (Heap.get?_push_of_some _ at0)
        case fin =>
          intro s' mv U kp
          obtain ⟨hp, g, d, t, os⟩ := s'
          have eg : g = s.gens := mv.gens
          have ed : d = s.drawn := mv.drawn
          have eo : os = s.os := mv.os
          subst eg ed eo
          show wpAny _ _ _ _ _ _
          refine wpAny_pure ?_
          show wpAny _ _ (ret Value.none) _ _ _
          rw [nv] at U
          exact wpAny_pure ⟨rfl, hp, t, rfl, U, kp⟩
      · cases r2 with
        | error e => exact hr2
        | ok fl2 =>
          cases fl2 with
          | ret r =>
            obtain ⟨rfl, hp, t, rfl, U, hk⟩ := hr2
            repeat (any_goals (first | assumption | wp_step))
            exact done _ _ U hk
          | _ => exact hr2.elim
    | _ => exact hr.elim
end
end DL

namespace DL
open PySem PySem.Spec PyProof.Rows L2
/-! ### sorted of such a set -/
theorem perm_back {α β : Type} {f : α → β} {l m : List β} (h : l.Perm m) : ∀ {ks : List α}, m = ks.map f → ∃ L : List α, L.Perm ks ∧ l = L.map f := by
  induction h with
  | nil =>
    intro ks e
    exact ⟨[], by rw [List.map_eq_nil_iff.mp e.symm], rfl⟩
  | cons x _ ih =>
    intro ks e
    obtain ⟨k, r, rfl, h1, h2⟩ := List.map_eq_cons_iff.mp e.symm
    obtain ⟨L, p, e2⟩ := ih h2.symm
    exact ⟨k :: L, List.Perm.cons k p, by rw [List.map_cons, h1, e2]⟩
  | swap x y l =>
    intro ks e
    obtain ⟨a, r, rfl, h1, h2⟩ := List.map_eq_cons_iff.mp e.symm
    obtain ⟨b, q, rfl, h3, h4⟩ := List.map_eq_cons_iff.mp h2
    exact ⟨b :: a :: q, List.Perm.swap _ _ _, by rw [List.map_cons, List.map_cons, h1, h3, h4]⟩
  | trans _ _ ih1 ih2 =>
    intro ks e
    obtain ⟨L, p, e2⟩ := ih2 e
    obtain ⟨L2, p2, e3⟩ := ih1 e2
    exact ⟨L2, p2.trans p, e3⟩
theorem sorted_one {α : Type} {f : α → List Int} : ∀ {ks L : List α}, L.Perm ks → ks.Pairwise (fun q r => f q < f r) → L.Pairwise (fun q r => f q ≤ f r) → L = ks
  | [], L, p, _, _ => p.eq_nil
  | k :: r, L, p, hk, hL => by
    cases L with
    | nil => exact absurd p.symm.eq_nil (by simp)
    | cons x L0 =>
      have hx := p.mem_iff.mp (List.mem_cons_self (a := x) (l := L0))
      have hxk : x = k := by
        rcases List.mem_cons.mp hx with e | e
        · exact e
        · have h1 := (List.pairwise_cons.mp hk).1 x e
          rcases List.mem_cons.mp (p.mem_iff.mpr (List.mem_cons_self (a := k) (l := r))) with e2 | e2
          · exact e2.symm
          · exact absurd h1 ((List.pairwise_cons.mp hL).1 k e2)
      subst hxk
      rw [sorted_one (List.Perm.cons_inv p) (List.pairwise_cons.mp hk).2 (List.pairwise_cons.mp hL).2]
section
variable {P : Program} {w : World} {A : Around} {E : Value → Shared → Prop} {s : Shared}
theorem reads_ints {h : Heap} : ∀ {k : List Int} {vs : List Value}, ItemsAre (intKind P w) k vs → ReadsAll h vs (k.map .int) []
  | _, _, .nil => .nil
  | _, _, .cons h1 h2 => by
    obtain ⟨t, rfl⟩ := Value.isInt_shape h1
    exact .cons (.int _ t) (reads_ints h2)
theorem reads_tup {h : Heap} {k : List Int} {b : Addr} (x : IsT P w h k b) : Reads h (.ref b) (.tuple (k.map .int)) [] := by
  obtain ⟨o, its, n, ho, hc, hd, hi⟩ := x
  exact .tuple ho hc hd (reads_ints hi)
theorem each_ref : ∀ L : List (Addr × List Int), PySem.W.EachIs (fun v (q : Addr × List Int) => v = Value.ref q.1) (L.map fun q => Value.ref q.1) L
  | [] => .nil
  | q :: L => .cons rfl (each_ref L)
theorem each_ref_inv : ∀ {out : List Value} {L : List (Addr × List Int)}, PySem.W.EachIs (fun v (q : Addr × List Int) => v = Value.ref q.1) out L → out = L.map fun q => Value.ref q.1
  | _, _, .nil => rfl
  | _, _, .cons h1 h2 => by rw [h1, each_ref_inv h2, List.map_cons]
theorem each_reads {h : Heap} {a : Addr} : ∀ {L : List (Addr × List Int)}, (∀ q ∈ L, IsT P w h q.2 q.1) → PySem.W.EachIs (fun v (q : Addr × List Int) => ∃ as, Reads h v (.tuple (q.2.map .int)) as ∧ a ∉ as) (L.map fun q => Value.ref q.1) L
  | [], _ => .nil
  | q :: L, h => .cons ⟨[], reads_tup (h q List.mem_cons_self), List.not_mem_nil⟩ (each_reads fun r hr => h r (List.mem_cons_of_mem _ hr))
abbrev rowEnc (q : Addr × List Int) : PyData := .tuple (q.2.map .int)
theorem rowLe : PySem.W.dataLe false rowEnc = fun p q => decide (p.2 ≤ q.2) := PySem.W.dataLe_rows (fun q : Addr × List Int => q.2)
theorem row_sorted (L : List (Addr × List Int)) : (L.mergeSort (PySem.W.dataLe false rowEnc)).Pairwise fun q r => q.2 ≤ r.2 := by
  rw [rowLe]
  have := List.pairwise_mergeSort (le := fun (p q : Addr × List Int) => decide (p.2 ≤ q.2)) (fun a b c h1 h2 => by
    rw [decide_eq_true_iff] at h1 h2 ⊢
    exact List.le_trans h1 h2) (fun a b => by
    rw [Bool.or_eq_true, decide_eq_true_iff, decide_eq_true_iff]
    exact List.le_total _ _) L
  exact this.imp fun h => by simpa using h

/-- the set at rest: all the tuples ks, its slots rising -/
structure SetAll (w : World) (h : Heap) (a : Addr) (ks : List (Addr × List Int)) : Prop where
  ob : ∃ (es : Array (Int × Value)) (ep : Nat) (t : SetTable), (∃ o, h.get? a = some o ∧ o.ExactSet ∧ o.data = .set es ep t) ∧ (es.toList.map (·.2)).Perm (ks.map fun p => Value.ref p.1) ∧ t.fits es.size = true ∧ es.size < 4000 ∧ Ris t.place.toList ∧ (w.params.followText "set-order" = true ∨ t.led = true)
theorem setAll_of {h : Heap} {a : Addr} {ks : List (Addr × List Int)} (ht : setTakes (ks.map (·.2)) = true) (U : Upto w h a ks ks.length) : SetAll w h a ks := by
  obtain ⟨t, hs, vs, e, R, pm⟩ := U
  unfold setTakes at ht
  rw [List.map_map] at ht
  rw [List.take_length] at e pm
  cases hf : frun ⟨7, 0, 0, []⟩ (ks.map (hashT ∘ fun p => p.2)) with
  | none => rw [hf] at ht; cases ht
  | some S =>
    rw [hf] at ht
    have ht : (decide (S.n ≤ S.mask) && decide (S.n < 4000)) = true := ht
    rw [Bool.and_eq_true, decide_eq_true_iff, decide_eq_true_iff] at ht
    obtain ⟨t2, hs2, e2, F⟩ := frun_sim (frel_new (!w.params.followText "set-order")) hf
    have e3 : simRun (.fresh 0 0 (!w.params.followText "set-order")) [] (ks.map (hashT ∘ fun p => p.2)) = some (t, hs) := e
    rw [e3] at e2
    cases e2
    obtain ⟨es, ep, ob, h1, h2⟩ := R.ob
    have hl : es.size = S.n := by
      rw [F.n, ← Array.length_toList, ← List.length_map (f := fun x : Int × Value => x.1), h1, F.hs, List.length_map]
    have hp : t.place.size = S.n := by rw [← Array.length_toList, F.place, List.length_map, F.n]
    refine ⟨es, ep, t, ob, h2.trans pm, ?_, by omega, by rw [F.place]; exact F.ris, R.led⟩
    unfold SetTable.fits SetTable.fill
    rw [F.dm, Bool.and_eq_true, beq_iff_eq, decide_eq_true_eq, hp, hl, F.mask]
    exact ⟨rfl, by show S.n + 0 ≤ _; omega⟩
theorem sim_of {ks : List (Addr × List Int)} (ht : setTakes (ks.map (·.2)) = true) (b : Bool) : ∃ u, simRun (.fresh 0 0 b) [] (ks.map fun p => hashT p.2) = some u := by
  unfold setTakes at ht
  rw [List.map_map] at ht
  cases hf : frun ⟨7, 0, 0, []⟩ (ks.map (hashT ∘ fun p => p.2)) with
  | none => rw [hf] at ht; cases ht
  | some S =>
    obtain ⟨t2, hs2, e2, _⟩ := frun_sim (frel_new b) hf
    exact ⟨_, e2⟩
theorem sorted_T {a : Addr} {ks : List (Addr × List Int)} {Q : Value → Shared → Prop} (R : SetAll w s.heap a ks) (hh : A.handled = none) (hk : ∀ p ∈ ks, IsT P w s.heap p.2 p.1) (hs : (ks.map (·.2)).Pairwise (· < ·)) (ne : 2 ≤ ks.length → ∀ p ∈ ks, p.2 ≠ []) (hu : A.units + 64 < cLine)
    (hQ : ∀ s' p (out : Array Value) (c : Nat), (∀ b o, s.heap.get? b = some o → s'.heap.get? b = some o) → s'.gens = s.gens → s'.os = s.os → s.heap.objs.size ≤ p → s'.heap.get? p = some (seqObj "list" out c) → out.toList = ks.map (fun q => Value.ref q.1) → Q (.ref p) s') :
    wpAny (model P w) A (call (.builtin "sorted") [.ref a]) Q E s := by
  obtain ⟨es, ep, t, ⟨o, ho, hex, hd⟩, pm0, hf, h4, hr, hl⟩ := R.ob
  have hz0 : es.size = ks.length := by
    have := pm0.length_eq
    rwa [List.length_map, List.length_map, Array.length_toList] at this
  refine Calls.call_function_entry kind_sorted plain_sorted entry_sorted (args_sorted1 _) ?_
  unfold Builtin.«sorted»
  refine wpAny_bind (m := checkCount "sorted" 1 1 _) (wpAny_pure ?_)
  refine wpAny_bind (collect_set (A := A.in1) hh ⟨o, ho, hex.1, hd⟩ hf (by unfold scanBound; omega) hr hl fun s1 vs k1 hz g1 o1 pm => ?_)
  obtain ⟨L, pL, rfl⟩ := perm_back (f := fun q : Addr × List Int => Value.ref q.1) (pm.trans pm0) rfl
  have hL : L.length = ks.length := pL.length_eq
  refine wpAny_bind (wpAny_newList ?_ (by rw [List.length_map, sizeLine_eq]; omega))
  generalize hvs : (L.map fun q => Value.ref q.1) = vs at *
  have hoL : (s1.heap.push (seqObj "list" vs.toArray 0)).get? s1.heap.objs.size = some (seqObj "list" vs.toArray 0) := Heap.get?_push_size _ rfl
  have fin : ∀ out : List Value, out = ks.map (fun q => Value.ref q.1) → Q (.ref s1.heap.objs.size) { s1 with heap := sortedHeap (s1.heap.push (seqObj "list" vs.toArray 0)) s1.heap.objs.size vs out.toArray } := fun out e => by
    obtain ⟨c, hc⟩ := sortedHeap_at (vs := vs) (out := out.toArray) hoL
    refine hQ _ s1.heap.objs.size out.toArray c (fun b u z => ?_) g1 o1 hz hc e
    have q := k1 b u z
    have lt := Heap.lt_size q
    show (sortedHeap (s1.heap.push (seqObj "list" vs.toArray 0)) s1.heap.objs.size vs out.toArray).get? b = some u
    rw [sortedHeap_old (Nat.ne_of_lt lt) (by rw [size_push']; exact Nat.lt_succ_of_lt lt)]
    exact Heap.get?_push_of_some _ q
  have tk : ∀ q ∈ L, IsT P w (s1.heap.push (seqObj "list" vs.toArray 0)) q.2 q.1 := fun q hq => isT_keep (hk q (pL.mem_iff.mp hq)) fun b u z => Heap.get?_push_of_some _ (k1 b u z)
  by_cases h2 : 2 ≤ ks.length
  · have srt : (L.map rowEnc) = L.map fun q => rowEnc q := rfl
    have e1 : PySem.W.EachIs (fun v (q : Addr × List Int) => v = Value.ref q.1) vs L := by rw [← hvs]; exact each_ref L
    have e2 : PySem.W.EachIs (fun v (q : Addr × List Int) => ∃ as, Reads (s1.heap.push (seqObj "list" vs.toArray 0)) v (rowEnc q) as ∧ s1.heap.objs.size ∉ as) vs L := by
      have := each_reads (P := P) (w := w) (a := s1.heap.objs.size) tk
      rwa [hvs] at this
    refine wpAny_bind (wpAny_holding (PySem.W.list_sort_data (s := { s1 with heap := s1.heap.push (seqObj "list" vs.toArray 0) }) (enc := rowEnc) hoL e1 e2 (PySem.W.AllAlike.of fun b b' => by
      show PySem.W.alike (.tuple _) (.tuple _) = true
      simp only [PySem.W.alike]
      exact PySem.W.alike_ints _ _) (.inl fun d hd => by
      obtain ⟨q, hq, rfl⟩ := List.mem_map.mp hd
      have := ne h2 q (pL.mem_iff.mp hq)
      cases hq2 : q.2 with
      | nil => exact absurd hq2 this
      | cons x r => exact ⟨.int x, r.map .int, by show PyData.tuple (q.2.map .int) = _; rw [hq2]; rfl⟩) (by rw [hL, sizeLine_eq]; omega) (fun q _ => by
      have hdp : (rowEnc q).depth ≤ 2 := by
        show PyData.depth (.tuple (q.2.map .int)) ≤ 2
        simp only [PyData.depth]
        rw [PySem.W.depth_ints]
        decide
      show A.units + 1 + 1 + (rowEnc q).depth < cLine
      omega) fun out ho2 eo => ?_))
    have hsrt : L.mergeSort (PySem.W.dataLe false rowEnc) = ks := sorted_one (f := fun q : Addr × List Int => q.2) ((List.mergeSort_perm _ _).trans pL) (List.pairwise_map.mp hs) (row_sorted L)
    rw [hsrt] at eo
    exact wpAny_pure ⟨_, rfl, fin out (each_ref_inv eo)⟩
  · have hone : L = ks := by
      have : ks.length = 0 ∨ ks.length = 1 := by omega
      rcases this with z | z
      · have := List.eq_nil_of_length_eq_zero z
        subst this
        exact pL.eq_nil
      · obtain ⟨k, rfl⟩ := List.length_eq_one_iff.mp z
        exact pL.eq_singleton
    refine wpAny_bind (wpAny_holding (wpAny_call_entry slot_list_sort ⟨_, hoL, rfl⟩ entry_list_sort (Srt.list_sort_any (s := { s1 with heap := s1.heap.push (seqObj "list" vs.toArray 0) }) hoL (by rw [← hvs, List.length_map, hL, sizeLine_eq]; omega) (fun z => by
      rw [← hvs, List.length_map, hL] at z
      exact absurd z h2) fun out po => ⟨.none, rfl, ?_⟩) (args_list_sort _)))
    have eo : out = ks.map fun q => Value.ref q.1 := by
      rw [← hvs, hone] at po
      have : ks.length = 0 ∨ ks.length = 1 := by omega
      rcases this with z | z
      · have := List.eq_nil_of_length_eq_zero z
        subst this
        exact po.eq_nil
      · obtain ⟨k, rfl⟩ := List.length_eq_one_iff.mp z
        exact po.eq_singleton
    exact wpAny_pure ⟨_, rfl, fin out eo⟩
end

def SetAO (w : World) (a : Addr) (ks : List (Addr × List Int)) : HO := .ext fun h => SetAll w h a ks
theorem setAO_new {P : Program} {w : World} {H : Hp} {h : Heap} {a : Addr} {ks : List (Addr × List Int)} (R : SetAll w h a ks) : ObjOk P w H h a (SetAO w a ks) := by
  have ⟨es, ep, t, ⟨o, ho, r⟩, q⟩ := R.ob
  refine ⟨R, ⟨o, ho⟩, fun h1 h2 p k => ?_⟩
  have ⟨es', ep', t', ⟨o', ho', r'⟩, q'⟩ := SetAll.ob p
  exact ⟨es', ep', t', ⟨o', k o' ho', r'⟩, q'⟩
section
variable {K : PySem.W.Frag} {X : Cx} {M : List Nat} {a : Expr} {ta : TE} {f : Fn} {pos p p2 q : Pos}
def rSetTs (K : PySem.W.Frag) (w : World) : List V → Hp → VK → Prop := fun xs H Q => ∃ (l : Addr) (ks : List (Addr × List Int)), xs = [V.ref l] ∧ SqL K H l (ks.map fun p => V.ref p.1) ∧ (∀ p ∈ ks, SqT K H p.1 (p.2.map V.int)) ∧ setTakes (ks.map (·.2)) = true ∧
  ∀ a, H a = none → Q (.ref a) (upd H a (SetAO w a ks))
theorem cr_setTs (hc : X.calm = true) (hu : X.A.units + 64 < cLine) : CallR X (.type "set") (rSetTs X.K X.w) := by
  intro pins s σ H xs us Q I r h
  obtain ⟨l, ks, rfl, hl, hk, ht, q⟩ := h
  rw [Vals.ref1 r]
  obtain ⟨its, rv, pl, hz⟩ := I.list hl
  have hn : H s.heap.objs.size = none := I.hok.fresh (Nat.le_refl _)
  refine call_setT (P := X.prog) (w := X.w) ks (I.ok.hd hc) pl.isList (by simpa using refs_of_vals rv) (fun p hp => I.isT (hk p hp)) (sim_of ht _) (by omega) fun h' tk U k => ?_
  exact ⟨.ref s.heap.objs.size, upd H s.heap.objs.size (SetAO X.w s.heap.objs.size ks), I.laid (t' := tk) k (Nat.le_refl _) (setAO_new (setAll_of ht U)), rfl, q _ hn⟩
def rSortedTs (K : PySem.W.Frag) (w : World) : List V → Hp → VK → Prop := fun vs H Q => ∃ (a : Addr) (ks : List (Addr × List Int)), vs = [V.ref a] ∧ H a = some (SetAO w a ks) ∧ (∀ p ∈ ks, SqT K H p.1 (p.2.map V.int)) ∧ (ks.map (·.2)).Pairwise (· < ·) ∧ (2 ≤ ks.length → ∀ p ∈ ks, p.2 ≠ []) ∧
  ∀ (p : Addr), H p = none → Q (.ref p) (upd H p (.lst (ks.map fun q => V.ref q.1)))
theorem cr_sortedTs (hc : X.calm = true) (hu : X.A.units + 64 < cLine) : CallR X (.builtin "sorted") (rSortedTs X.K X.w) := by
  intro pins s σ H vs us Q I r h
  obtain ⟨a, ks, rfl, ha, hk, hs, ne, q⟩ := h
  have R : SetAll X.w s.heap a ks := (I.hok a _ ha).1
  rw [Vals.ref1 r]
  refine sorted_T R (I.ok.hd hc) (fun p hp => I.isT (hk p hp)) hs ne hu fun s' p out c k g o hp hg hout => ?_
  have hfew : ks.length < 4000 := by
    have ⟨es, _, _, _, pm, _, h4, _⟩ := R.ob
    have := pm.length_eq
    rw [List.length_map, List.length_map, Array.length_toList] at this
    omega
  have hlen : (ks.map fun q => V.ref q.1).length ≤ sizeLine := by rw [List.length_map, sizeLine_eq]; omega
  have hn : H p = none := I.hok.fresh hp
  have hv : Vals (ks.map fun q => V.ref q.1) out.toList := by rw [hout]; exact vals_of_refs ks
  have J : Inv X pins σ (upd H p (.lst (ks.map fun q => V.ref q.1))) { s with heap := s'.heap, gens := s'.gens, drawn := s'.drawn, toks := s'.toks } :=
    I.call (ch := []) (Un.laid k hp hn) (I.hok.laid k hp ⟨hlen, out.toList, c, hv, hg⟩) (by rw [g]; exact I.bare) (fun _ z => nomatch z)
  have e : s' = { s with heap := s'.heap, gens := s'.gens, drawn := s'.drawn, toks := s'.toks } := by
    cases s'
    cases s
    cases o
    rfl
  rw [e]
  exact ⟨.ref p, _, J, rfl, q p hn⟩
def rowsD : List PyData → Option (List (List Int))
  | [] => some []
  | .tuple ds :: r => (intsD ds).bind fun k => (rowsD r).bind fun ks => some (k :: ks)
  | _ :: _ => none
theorem rowsD_map : ∀ kss : List (List Int), rowsD (kss.map fun k => .tuple (k.map .int)) = some kss
  | [] => rfl
  | k :: kss => by
    rw [List.map_cons]
    unfold rowsD
    rw [intsD_map, rowsD_map kss]
    rfl
theorem rows_dv {H : Hp} : ∀ {vs : List V} {ds : List PyData} {kss : List (List Int)}, DdAll K H vs ds → rowsD ds = some kss → ∃ ks : List (Addr × List Int), vs = (ks.map fun p => V.ref p.1) ∧ ks.map (·.2) = kss ∧ ∀ p ∈ ks, ∃ ob, H p.1 = some (.frz ob (.tup (p.2.map V.int)))
  | _, _, _, .nil, h => by
    cases h
    exact ⟨[], rfl, rfl, fun p hp => by cases hp⟩
  | _, _, kss, .cons (v := v) (d := d) a t, h => by
    cases a with
    | @tup l ob xs ds hn hp t2 =>
      unfold rowsD at h
      obtain ⟨k, h1, h⟩ := bind_some h
      obtain ⟨kr, h2, h⟩ := bind_some h
      cases h
      obtain ⟨ks, rfl, rfl, hk⟩ := rows_dv t h2
      have e := ints_dv t2 h1
      subst e
      refine ⟨(l, k) :: ks, rfl, rfl, fun p hp' => ?_⟩
      rcases List.mem_cons.mp hp' with rfl | hp'
      · exact ⟨ob, hp⟩
      · exact hk p hp'
    | _ => cases h
/-- sorted(set(..)) of a list of tuples of ints that stand in order, each once -/
def gSortSetT : PyData → Option (List PyData)
  | .list ds => (rowsD ds).bind fun kss => if setTakes kss = true ∧ kss.Pairwise (· < ·) ∧ (2 ≤ kss.length → ∀ k ∈ kss, k ≠ []) then some ds else none
  | _ => none
theorem fd_sortSetT {k : Nat} (ha : ED K X M a ta f) (hr : Room k X.A) (hm : X.mg "sorted" = none) (hm2 : X.mg "set" = none) (hg : Gl X "sorted" := by rfl) (hg2 : Gl X "set" := by rfl) (hc : X.calm = true := by rfl) (hK : X.K = K := by rfl)
    (na : starEach [a] X.env = (false, eval a X.env) :: starEach [] X.env := by rfl) (nb : starEach [.Call (.Name "set" p2) [a] [] q] X.env = (false, eval (.Call (.Name "set" p2) [a] [] q) X.env) :: starEach [] X.env := by rfl)
    (pa : (backTo q (starEach [] X.env)).any (·.1) = false := by rfl) (pb : (backTo pos (starEach [] X.env)).any (·.1) = false := by rfl) :
    FD K X M (.Call (.Name "sorted" p) [.Call (.Name "set" p2) [a] [] q] [] pos) (tCB (rSortedTs K X.w) (tCons (tCB (rSetTs K X.w) (tCons ta tNil)) tNil)) (fun ρ => (f ρ).bind gSortSetT) := by
  subst hK
  have hu : X.A.units + 64 < cLine := by have := hr.un; omega
  refine ⟨pe_callB (cr_sortedTs hc hu) hg hm boot_sorted (pa_cons (pe_callTy (cr_setTs hc hu) hg2 hm2 boot_set (pa_cons ha.pe pa_nil na) (by decide) (by decide) na pa) pa_nil nb) (by decide) (by decide) nb pb, fun {Hs0 H0 Hs H σ ρ d Q} R hf qq => ?_⟩
  obtain ⟨dx, h1, h2⟩ := bind_some hf
  refine ha.sm R h1 fun v Hs1 H1 g1 d1 => ?_
  cases d1 with
  | @lst l xs ds hp t =>
    obtain ⟨kss, h3, h4⟩ := bind_some h2
    obtain ⟨⟨c1, c2, c3⟩, rfl⟩ := ite_some h4
    obtain ⟨ks, rfl, rfl, hk⟩ := rows_dv t h3
    have sub := g1.sub
    have hk1 : ∀ p ∈ ks, SqT X.K H1 p.1 (p.2.map V.int) := fun p hp => by
      obtain ⟨ob, e⟩ := hk p hp
      exact sqT_of (sub _ _ e)
    refine ⟨l, ks, rfl, sqL_of (sub _ _ hp), hk1, c1, fun p0 hp0 => ?_⟩
    have g2 : Grow Hs1 H1 Hs1 (upd H1 p0 (SetAO X.w p0 ks)) := Grow.alloc0 sub hp0
    refine ⟨p0, ks, rfl, upd_same, fun p hp => (hk p hp).elim fun ob e => sqT_of (g2.sub _ _ e), c2, fun z p hp => c3 (by rw [List.length_map]; exact z) _ (List.mem_map_of_mem hp), fun p1 hp1 => ?_⟩
    have g3 := Grow.alloc0 (o := .lst (ks.map fun q => V.ref q.1)) g2.sub hp1
    have g := (g1.trans g2).trans g3
    exact qq p1 _ Hs1 _ g (g1.ex.free (g2.ex.free hp1)) (g2.sub.free hp1) upd_same t
  | _ => cases h2
end
end DL

namespace Lw
open PySem PySem.Spec PyProof.Rows L2 DL
def topS (i : Nat) : Stmt := PySem.Challenge.pw_mapweave_k11_whole_maps_counted.main.body.getD i (.Pass ⟨0, 0, 0, 0⟩)
abbrev s_all_maps : Stmt := topS 1
abbrev N_all_maps : List Str := ["many", "to", "rows", "k", "more", "row", "number"]
theorem nd_all_maps : (N_all_maps).Nodup := by decide +kernel
theorem sc_all_maps : FnScope N_all_maps ["many", "to"] (defScope s_all_maps) := ⟨rfl, rfl, rfl, by decide +kernel, rfl, by decide +kernel, by decide +kernel⟩
abbrev s_power : Stmt := topS 2
abbrev N_power : List Str := ["number", "times", "found", "k"]
theorem nd_power : (N_power).Nodup := by decide +kernel
theorem sc_power : FnScope N_power ["number", "times"] (defScope s_power) := ⟨rfl, rfl, rfl, by decide +kernel, rfl, by decide +kernel, by decide +kernel⟩
abbrev s_choices : Stmt := topS 3
abbrev N_choices : List Str := ["many", "some", "found", "k"]
theorem nd_choices : (N_choices).Nodup := by decide +kernel
theorem sc_choices : FnScope N_choices ["many", "some"] (defScope s_choices) := ⟨rfl, rfl, rfl, by decide +kernel, rfl, by decide +kernel, by decide +kernel⟩
abbrev s_count : Stmt := topS 4
abbrev N_count : List Str := ["many", "to", "kind", "found", "k"]
theorem nd_count : (N_count).Nodup := by decide +kernel
theorem sc_count : FnScope N_count ["many", "to", "kind"] (defScope s_count) := ⟨rfl, rfl, rfl, by decide +kernel, rfl, by decide +kernel, by decide +kernel⟩
abbrev s_count_still : Stmt := topS 5
abbrev N_count_still : List Str := ["many", "k"]
theorem nd_count_still : (N_count_still).Nodup := by decide +kernel
theorem sc_count_still : FnScope N_count_still ["many"] (defScope s_count_still) := ⟨rfl, rfl, rfl, by decide +kernel, rfl, by decide +kernel, by decide +kernel⟩
abbrev s_must : Stmt := topS 10
abbrev N_must : List Str := ["fits"]
theorem nd_must : (N_must).Nodup := by decide +kernel
theorem sc_must : FnScope N_must ["fits"] (defScope s_must) := ⟨rfl, rfl, rfl, by decide +kernel, rfl, by decide +kernel, by decide +kernel⟩
abbrev s_then : Stmt := topS 11
abbrev N_then : List Str := ["one", "other", "number"]
theorem nd_then : (N_then).Nodup := by decide +kernel
theorem sc_then : FnScope N_then ["one", "other"] (defScope s_then) := ⟨rfl, rfl, rfl, by decide +kernel, rfl, by decide +kernel, by decide +kernel⟩
abbrev s_same : Stmt := topS 12
abbrev N_same : List Str := ["many"]
theorem nd_same : (N_same).Nodup := by decide +kernel
theorem sc_same : FnScope N_same ["many"] (defScope s_same) := ⟨rfl, rfl, rfl, by decide +kernel, rfl, by decide +kernel, by decide +kernel⟩
abbrev s_parts_all : Stmt := topS 13
abbrev N_parts_all : List Str := ["one"]
theorem nd_parts_all : (N_parts_all).Nodup := by decide +kernel
theorem sc_parts_all : FnScope N_parts_all ["one"] (defScope s_parts_all) := ⟨rfl, rfl, rfl, by decide +kernel, rfl, by decide +kernel, by decide +kernel⟩
abbrev s_comes_to_all : Stmt := topS 14
abbrev N_comes_to_all : List Str := ["one"]
theorem nd_comes_to_all : (N_comes_to_all).Nodup := by decide +kernel
theorem sc_comes_to_all : FnScope N_comes_to_all ["one"] (defScope s_comes_to_all) := ⟨rfl, rfl, rfl, by decide +kernel, rfl, by decide +kernel, by decide +kernel⟩
abbrev s_must_be_inner : Stmt := topS 16
abbrev N_must_be_inner : List Str := ["one"]
theorem nd_must_be_inner : (N_must_be_inner).Nodup := by decide +kernel
theorem sc_must_be_inner : FnScope N_must_be_inner ["one"] (defScope s_must_be_inner) := ⟨rfl, rfl, rfl, by decide +kernel, rfl, by decide +kernel, by decide +kernel⟩
abbrev s_often : Stmt := topS 17
abbrev N_often : List Str := ["one", "times", "found", "k"]
theorem nd_often : (N_often).Nodup := by decide +kernel
theorem sc_often : FnScope N_often ["one", "times"] (defScope s_often) := ⟨rfl, rfl, rfl, by decide +kernel, rfl, by decide +kernel, by decide +kernel⟩
abbrev s__law_cell : Stmt := topS 19
abbrev N__law_cell : List Str := ["_law_script", "_law_k"]
theorem nd__law_cell : (N__law_cell).Nodup := by decide +kernel
theorem sc__law_cell : FnScope N__law_cell ["_law_script", "_law_k"] (defScope s__law_cell) := ⟨rfl, rfl, rfl, by decide +kernel, rfl, by decide +kernel, by decide +kernel⟩
abbrev s__law_mix : Stmt := topS 20
abbrev N__law_mix : List Str := ["_law_cell_here", "_law_prime", "_law_many"]
theorem nd__law_mix : (N__law_mix).Nodup := by decide +kernel
theorem sc__law_mix : FnScope N__law_mix ["_law_cell_here", "_law_prime", "_law_many"] (defScope s__law_mix) := ⟨rfl, rfl, rfl, by decide +kernel, rfl, by decide +kernel, by decide +kernel⟩
abbrev s__law_map : Stmt := topS 21
abbrev N__law_map : List Str := ["_law_cell_here", "_law_many", "_law_to", "_law_row", "_law_left", "_law_k"]
theorem nd__law_map : (N__law_map).Nodup := by decide +kernel
theorem sc__law_map : FnScope N__law_map ["_law_cell_here", "_law_many", "_law_to"] (defScope s__law_map) := ⟨rfl, rfl, rfl, by decide +kernel, rfl, by decide +kernel, by decide +kernel⟩
abbrev s__law_sizes : Stmt := topS 22
abbrev N__law_sizes : List Str := ["_law_script", "_law_k", "_law_seed"]
theorem nd__law_sizes : (N__law_sizes).Nodup := by decide +kernel
theorem sc__law_sizes : FnScope N__law_sizes ["_law_script", "_law_k"] (defScope s__law_sizes) := ⟨rfl, rfl, rfl, by decide +kernel, rfl, by decide +kernel, by decide +kernel⟩
abbrev s__law_whole : Stmt := topS 23
abbrev N__law_whole : List Str := ["_law_found"]
theorem nd__law_whole : (N__law_whole).Nodup := by decide +kernel
theorem sc__law_whole : FnScope N__law_whole ["_law_found"] (defScope s__law_whole) := ⟨rfl, rfl, rfl, by decide +kernel, rfl, by decide +kernel, by decide +kernel⟩
abbrev s__law_choices : Stmt := topS 24
abbrev N__law_choices : List Str := ["_law_many", "_law_some", "_law_found", "_law_k"]
theorem nd__law_choices : (N__law_choices).Nodup := by decide +kernel
theorem sc__law_choices : FnScope N__law_choices ["_law_many", "_law_some"] (defScope s__law_choices) := ⟨rfl, rfl, rfl, by decide +kernel, rfl, by decide +kernel, by decide +kernel⟩
abbrev s__law_small_right : Stmt := topS 25
abbrev N__law_small_right : List Str := ["_law_many", "_law_to", "_law_found", "_law_rows", "_law_due", "_law_k", "_law_row", "_law_one", "_law_number"]
theorem nd__law_small_right : (N__law_small_right).Nodup := by decide +kernel
theorem sc__law_small_right : FnScope N__law_small_right ["_law_many", "_law_to"] (defScope s__law_small_right) := ⟨rfl, rfl, rfl, by decide +kernel, rfl, by decide +kernel, by decide +kernel⟩
abbrev s_law : Stmt := topS 26
abbrev N_law : List Str := ["_law_script", "_law_many", "_law_to", "_law_still", "_law_kind", "_law_due", "_law_k", "_law_one"]
theorem nd_law : (N_law).Nodup := by decide +kernel
theorem sc_law : FnScope N_law ["_law_script"] (defScope s_law) := ⟨rfl, rfl, rfl, by decide +kernel, rfl, by decide +kernel, by decide +kernel⟩
noncomputable def g_all_maps_0 : Gn := (gAsg (fFr (fList (fCons (fTup fNil) fNil))) (hName 2))
noncomputable def g_all_maps_1b0 : Gn := (gOwn 4 (fList fNil))
noncomputable def g_all_maps_1b1b0 : Gn := (gExt 4 (fLc [6] (iR1 (fVar 1)) (hName 6) cYes (f2 gAdd (fVar 5) (fTup (fCons (fVar 6) fNil)))))
noncomputable def g_all_maps_1b1 : Gn := (gFor (iSq (fVar 2)) (hName 5)
      g_all_maps_1b1b0)
noncomputable def g_all_maps_1b2 : Gn := (gGive 2 4)
noncomputable def g_all_maps_1b : Gn := (gBlk g_all_maps_1b0 (gBlk g_all_maps_1b1 g_all_maps_1b2))
noncomputable def g_all_maps_1 : Gn := (gFor (iR1 (fVar 0)) (hName 3)
      g_all_maps_1b)
noncomputable def g_all_maps_2 : Gn := (gRet (fBi gTuple (fCons (fFr (fLc [5] (iSq (fVar 2)) (hName 5) cYes (fTup (fCons (fVar 1) (fCons (fVar 5) fNil))))) fNil)))
noncomputable def g_all_maps : Gn := (gBlk g_all_maps_0 (gBlk g_all_maps_1 g_all_maps_2))
noncomputable def phi_all_maps := defN 2 7 g_all_maps
noncomputable def g_power_0 : Gn := (gAsg (fC (.int 1)) (hName 2))
noncomputable def g_power_1b0 : Gn := (gAsg (f2 gMulD (fVar 2) (fVar 0)) (hName 2))
noncomputable def g_power_1 : Gn := (gFor (iR1 (fVar 1)) (hName 3)
      g_power_1b0)
noncomputable def g_power_2 : Gn := (gRet (fVar 2))
noncomputable def g_power : Gn := (gBlk g_power_0 (gBlk g_power_1 g_power_2))
noncomputable def phi_power := defN 2 4 g_power
noncomputable def g_choices_0 : Gn := (gAsg (fC (.int 1)) (hName 2))
noncomputable def g_choices_1b0 : Gn := (gAsg (f2 (gIc CDiv fun i j => i / j) (f2 gMulD (fVar 2) (f2 (gI fun i j => i - j) (fVar 0) (fVar 3))) (f2 gAdd (fVar 3) (fC (.int 1)))) (hName 2))
noncomputable def g_choices_1 : Gn := (gFor (iR1 (fVar 1)) (hName 3)
      g_choices_1b0)
noncomputable def g_choices_2 : Gn := (gRet (fVar 2))
noncomputable def g_choices : Gn := (gBlk g_choices_0 (gBlk g_choices_1 g_choices_2))
noncomputable def phi_choices := defN 2 4 g_choices
noncomputable def g_count_0t0 : Gn := (gRet (fCall phi_power (fCons (fVar 1) (fCons (fVar 0) fNil))))
noncomputable def g_count_0 : Gn := (gIf (fB (f2 (gEq false) (fVar 2) (fC (.str (PySem.Str.ofString "any")))))
      g_count_0t0 gNx)
noncomputable def g_count_1t0 : Gn := (gAsg (fC (.int 1)) (hName 3))
noncomputable def g_count_1t1b0 : Gn := (gAsg (f2 gMulD (fVar 3) (fBi gMax2 (fCons (fC (.int 0)) (fCons (f2 (gI fun i j => i - j) (fVar 1) (fVar 4)) fNil)))) (hName 3))
noncomputable def g_count_1t1 : Gn := (gFor (iR1 (fVar 0)) (hName 4)
      g_count_1t1b0)
noncomputable def g_count_1t2 : Gn := (gRet (fVar 3))
noncomputable def g_count_1t : Gn := (gBlk g_count_1t0 (gBlk g_count_1t1 g_count_1t2))
noncomputable def g_count_1 : Gn := (gIf (fB (f2 (gEq false) (fVar 2) (fC (.str (PySem.Str.ofString "parts")))))
      g_count_1t gNx)
noncomputable def g_count_2 : Gn := (gRet (fBi gSum (fCons (fFr (fLc [4] (iR1 (f2 gAdd (fVar 1) (fC (.int 1)))) (hName 4) cYes (f2 gMulD (f2 gMulD (fCall phi_power (fCons (f2 (gI fun i j => i - j) (fVar 1) (fVar 4)) (fCons (fVar 0) fNil))) (fCall phi_choices (fCons (fVar 1) (fCons (fVar 4) fNil)))) (f2 (gI fun i j => i - j) (fC (.int 1)) (f2 gMulD (fC (.int 2)) (f2 (gIc (fun _ j => 0 < j) fun i j => i % j) (fVar 4) (fC (.int 2)))))))) fNil)))
noncomputable def g_count : Gn := (gBlk g_count_0 (gBlk g_count_1 g_count_2))
noncomputable def phi_count := defN 3 5 g_count
noncomputable def g_count_still_0 : Gn := (gRet (fBi gSum (fCons (fFr (fLc [1] (iR1 (f2 gAdd (fVar 0) (fC (.int 1)))) (hName 1) cYes (f2 gMulD (fCall phi_choices (fCons (fVar 0) (fCons (fVar 1) fNil))) (fCall phi_power (fCons (fVar 1) (fCons (f2 (gI fun i j => i - j) (fVar 0) (fVar 1)) fNil)))))) fNil)))
noncomputable def g_count_still : Gn := g_count_still_0
noncomputable def phi_count_still := defN 1 2 g_count_still
noncomputable def g_must_0t0 : Gn := (gRaise 2)
noncomputable def g_must_0 : Gn := (gIf (bNot (fTru (fVar 0)))
      g_must_0t0 gNx)
noncomputable def g_must : Gn := g_must_0
noncomputable def phi_must := defN 1 1 g_must
noncomputable def g_then_0 : Gn := (gExprQ (qCall phi_must (fCons (f2 (gEq false) (f2 gIx (fVar 0) (fC (.int 0))) (fBi gLen (fCons (f2 gIx (fVar 1) (fC (.int 1))) fNil))) fNil)))
noncomputable def g_then_1 : Gn := (gRet (fTup (fCons (f2 gIx (fVar 1) (fC (.int 0))) (fCons (fBi gTuple (fCons (fFr (fLc [2] (iSq (f2 gIx (fVar 0) (fC (.int 1)))) (hName 2) cYes (f2 gIx (f2 gIx (fVar 1) (fC (.int 1))) (fVar 2)))) fNil)) fNil))))
noncomputable def g_then : Gn := (gBlk g_then_0 g_then_1)
noncomputable def phi_then := defN 2 3 g_then
noncomputable def g_same_0 : Gn := (gRet (fTup (fCons (fVar 0) (fCons (gRg .tuple (fVar 0)) fNil))))
noncomputable def g_same : Gn := g_same_0
noncomputable def phi_same := defN 1 1 g_same
noncomputable def g_parts_all_0 : Gn := (gRet (f2 (gEq false) (f1 gLenSet (f2 gIx (fVar 0) (fC (.int 1)))) (fBi gLen (fCons (f2 gIx (fVar 0) (fC (.int 1))) fNil))))
noncomputable def g_parts_all : Gn := g_parts_all_0
noncomputable def phi_parts_all := defN 1 1 g_parts_all
noncomputable def g_comes_to_all_0 : Gn := (gRet (f2 (gEq false) (f1 gLenSet (f2 gIx (fVar 0) (fC (.int 1)))) (f2 gIx (fVar 0) (fC (.int 0)))))
noncomputable def g_comes_to_all : Gn := g_comes_to_all_0
noncomputable def phi_comes_to_all := defN 1 1 g_comes_to_all
noncomputable def g_must_be_inner_0 : Gn := (gExprQ (qCall phi_must (fCons (fAnd (f2 (gEq false) (f2 gIx (fVar 0) (fC (.int 0))) (fBi gLen (fCons (f2 gIx (fVar 0) (fC (.int 1))) fNil))) (f2 (gIb fun i j => decide (j < i)) (f2 gIx (fVar 0) (fC (.int 0))) (fC (.int 0)))) fNil)))
noncomputable def g_must_be_inner : Gn := g_must_be_inner_0
noncomputable def phi_must_be_inner := defN 1 1 g_must_be_inner
noncomputable def g_often_0 : Gn := (gExprQ (qCall phi_must_be_inner (fCons (fVar 0) fNil)))
noncomputable def g_often_1 : Gn := (gAsg (fCall phi_same (fCons (f2 gIx (fVar 0) (fC (.int 0))) fNil)) (hName 2))
noncomputable def g_often_2b0 : Gn := (gSetQ 2 (qCall phi_then (fCons (fVar 2) (fCons (fVar 2) fNil))))
noncomputable def g_often_2b1t0 : Gn := (gSetQ 2 (qCall phi_then (fCons (fVar 2) (fCons (fVar 0) fNil))))
noncomputable def g_often_2b1 : Gn := (gIf (fB (f2 (gEq false) (f2 (gI fun i j => Builtin.bitAnd i j) (f2 (gIc (fun _ j => 0 ≤ j) fun i j => i / 2 ^ j.toNat) (fVar 1) (fVar 3)) (fC (.int 1))) (fC (.int 1))))
      g_often_2b1t0 gNx)
noncomputable def g_often_2b : Gn := (gBlk g_often_2b0 g_often_2b1)
noncomputable def g_often_2 : Gn := (gFor (iRv (f1 gBits (fVar 1))) (hName 3)
      g_often_2b)
noncomputable def g_often_3 : Gn := (gRet (fVar 2))
noncomputable def g_often : Gn := (gBlk g_often_0 (gBlk g_often_1 (gBlk g_often_2 g_often_3)))
noncomputable def phi_often := defN 2 4 g_often
noncomputable def g__law_cell_0t0 : Gn := (gRet (f2 gIx (fVar 0) (fVar 1)))
noncomputable def g__law_cell_0 : Gn := (gIf (fB (f2 (gIb fun i j => decide (i < j)) (fVar 1) (fBi gLen (fCons (fVar 0) fNil))))
      g__law_cell_0t0 gNx)
noncomputable def g__law_cell_1 : Gn := (gRet (fC (.int 0)))
noncomputable def g__law_cell : Gn := (gBlk g__law_cell_0 g__law_cell_1)
noncomputable def phi__law_cell := defN 2 2 g__law_cell
noncomputable def g__law_mix_0 : Gn := (gRet (f2 (gIc (fun _ j => 0 < j) fun i j => i % j) (f2 (gIc (fun _ j => 0 < j) fun i j => i % j) (f2 gMulD (fVar 0) (fC (.int 48271))) (fVar 1)) (fVar 2)))
noncomputable def g__law_mix : Gn := g__law_mix_0
noncomputable def phi__law_mix := defN 3 3 g__law_mix
noncomputable def g__law_map_0 : Gn := (gAsg (fFr (fList fNil)) (hName 3))
noncomputable def g__law_map_1t0 : Gn := (gAsg (fFr (fLc [5] (iR1 (fVar 1)) (hName 5) cYes (fCall phi__law_mix (fCons (f2 gAdd (fVar 0) (f2 gMulD (fC (.int 31)) (fVar 5))) (fCons (fC (.int 9973)) (fCons (fVar 2) fNil)))))) (hName 3))
noncomputable def g__law_map_1 : Gn := (gIf (fB (f2 (gIb fun i j => decide (j < i)) (fVar 2) (fC (.int 0))))
      g__law_map_1t0 gNx)
noncomputable def g__law_map_2t0 : Gn := (gAsg (fFr (fLc [5] (iR1 (fVar 1)) (hName 5) cYes (f2 (gIc (fun _ j => 0 < j) fun i j => i % j) (fVar 5) (fVar 2)))) (hName 3))
noncomputable def g__law_map_2t1 : Gn := (gAsg (f2 gAdd (fSl (fVar 3) (pSome (f2 (gIc (fun _ j => 0 < j) fun i j => i % j) (f2 (gIc CDiv fun i j => i / j) (fVar 0) (fC (.int 4))) (fVar 1))) pNone) (fSl (fVar 3) pNone (pSome (f2 (gIc (fun _ j => 0 < j) fun i j => i % j) (f2 (gIc CDiv fun i j => i / j) (fVar 0) (fC (.int 4))) (fVar 1))))) (hName 3))
noncomputable def g__law_map_2t : Gn := (gBlk g__law_map_2t0 g__law_map_2t1)
noncomputable def g__law_map_2 : Gn := (gIf (bAnd (fB (f2 (gEq false) (f2 (gIc (fun _ j => 0 < j) fun i j => i % j) (fVar 0) (fC (.int 4))) (fC (.int 0)))) (fB (fChain (gIb fun i j => decide (i < j)) (gIb fun i j => decide (i ≤ j)) (fC (.int 0)) (fVar 2) (fVar 1))))
      g__law_map_2t gNx)
noncomputable def g__law_map_3t0 : Gn := (gOwn 4 (gRgL (fVar 2)))
noncomputable def g__law_map_3t1 : Gn := (gSetPop 3 5 4 [5] (iR1 (fVar 1)) (fCall phi__law_mix (fCons (f2 gAdd (fVar 0) (f2 gMulD (fC (.int 7)) (fVar 5))) (fCons (fC (.int 9967)) (fCons (f2 (gI fun i j => i - j) (fVar 2) (fVar 5)) fNil)))))
noncomputable def g__law_map_3t : Gn := (gBlk g__law_map_3t0 g__law_map_3t1)
noncomputable def g__law_map_3 : Gn := (gIf (bAnd (fB (f2 (gEq false) (f2 (gIc (fun _ j => 0 < j) fun i j => i % j) (fVar 0) (fC (.int 4))) (fC (.int 1)))) (fB (fChain (gIb fun i j => decide (i < j)) (gIb fun i j => decide (i ≤ j)) (fC (.int 0)) (fVar 1) (fVar 2))))
      g__law_map_3t gNx)
noncomputable def g__law_map_4 : Gn := (gRet (fTup (fCons (fVar 2) (fCons (fBi gTuple (fCons (fVar 3) fNil)) fNil))))
noncomputable def g__law_map : Gn := (gBlk g__law_map_0 (gBlk g__law_map_1 (gBlk g__law_map_2 (gBlk g__law_map_3 g__law_map_4))))
noncomputable def phi__law_map := defN 3 6 g__law_map
noncomputable def g__law_sizes_0 : Gn := (gAsg (fCall phi__law_cell (fCons (fVar 0) (fCons (fVar 1) fNil))) (hName 2))
noncomputable def g__law_sizes_1 : Gn := (gRet (fFr (fList (fCons (fCall phi__law_mix (fCons (fVar 2) (fCons (fC (.int 9949)) (fCons (fC (.int 7)) fNil)))) (fCons (fCall phi__law_mix (fCons (fVar 2) (fCons (fC (.int 9941)) (fCons (fC (.int 7)) fNil)))) (fCons (fCall phi__law_mix (fCons (fVar 2) (fCons (fC (.int 9931)) (fCons (fC (.int 7)) fNil)))) (fCons (fCall phi__law_mix (fCons (fVar 2) (fCons (fC (.int 9929)) (fCons (fC (.int 7)) fNil)))) fNil)))))))
noncomputable def g__law_sizes : Gn := (gBlk g__law_sizes_0 g__law_sizes_1)
noncomputable def phi__law_sizes := defN 2 3 g__law_sizes
noncomputable def g__law_whole_0 : Gn := (gRet (fAnd (f1 (gIsi "int") (fVar 0)) (fNot (f1 (gIsi "bool") (fVar 0)))))
noncomputable def g__law_whole : Gn := g__law_whole_0
noncomputable def phi__law_whole := defN 1 1 g__law_whole
noncomputable def g__law_choices_0 : Gn := (gAsg (fC (.int 1)) (hName 2))
noncomputable def g__law_choices_1b0 : Gn := (gAsg (f2 (gIc CDiv fun i j => i / j) (f2 gMulD (fVar 2) (f2 (gI fun i j => i - j) (fVar 0) (fVar 3))) (f2 gAdd (fVar 3) (fC (.int 1)))) (hName 2))
noncomputable def g__law_choices_1 : Gn := (gFor (iR1 (fVar 1)) (hName 3)
      g__law_choices_1b0)
noncomputable def g__law_choices_2 : Gn := (gRet (fVar 2))
noncomputable def g__law_choices : Gn := (gBlk g__law_choices_0 (gBlk g__law_choices_1 g__law_choices_2))
noncomputable def phi__law_choices := defN 2 4 g__law_choices
noncomputable def g__law_small_right_0 : Gn := (gAsg (fCall phi_all_maps (fCons (fVar 0) (fCons (fVar 1) fNil))) (hName 2))
noncomputable def g__law_small_right_1 : Gn := (gAsg (fFr (fLc [6] (iSq (fVar 2)) (hName 6) cYes (f2 gIx (fVar 6) (fC (.int 1))))) (hName 3))
noncomputable def g__law_small_right_2t0 : Gn := (gRet (fC (.bool false)))
noncomputable def g__law_small_right_2 : Gn := (gIf (bOr (bNot (fTru (f1 (gIsi "tuple") (fVar 2)))) (bOr (fB (f2 (gEq true) (fVar 3) (fFr (fun ρ => ((fVar 3) ρ).bind gSortSetT)))) (fTru (fFr (fLc [7] (iSq (fVar 2)) (hName 7) (fB (f2 (gEq true) (f2 gIx (fVar 7) (fC (.int 0))) (fVar 1))) (fVar 7))))))
      g__law_small_right_2t0 gNx)
noncomputable def g__law_small_right_3t0 : Gn := (gRet (fC (.bool false)))
noncomputable def g__law_small_right_3 : Gn := (gIf (fTru (fFr (fLc [6] (iSq (fVar 3)) (hName 6) (bOr (fB (f2 (gEq true) (fBi gLen (fCons (fVar 6) fNil)) (fVar 0))) (fTru (fFr (fLc [8] (iSq (fVar 6)) (hName 8) (bNot (fB (fChain (gIb fun i j => decide (i ≤ j)) (gIb fun i j => decide (i < j)) (fC (.int 0)) (fVar 8) (fVar 1)))) (fVar 8))))) (fVar 6))))
      g__law_small_right_3t0 gNx)
noncomputable def g__law_small_right_4 : Gn := (gAsg (fC (.int 1)) (hName 4))
noncomputable def g__law_small_right_5b0 : Gn := (gAsg (f2 gMulD (fVar 4) (fVar 1)) (hName 4))
noncomputable def g__law_small_right_5 : Gn := (gFor (iR1 (fVar 0)) (hName 5)
      g__law_small_right_5b0)
noncomputable def g__law_small_right_6t0 : Gn := (gRet (fC (.bool false)))
noncomputable def g__law_small_right_6 : Gn := (gIf (bOr (fB (f2 (gEq true) (fBi gLen (fCons (fVar 2) fNil)) (fVar 4))) (fB (f2 (gEq true) (fCall phi_count (fCons (fVar 0) (fCons (fVar 1) (fCons (fC (.str (PySem.Str.ofString "any"))) fNil)))) (fVar 4))))
      g__law_small_right_6t0 gNx)
noncomputable def g__law_small_right_7t0 : Gn := (gRet (fC (.bool false)))
noncomputable def g__law_small_right_7 : Gn := (gIf (fB (f2 (gEq true) (fCall phi_count (fCons (fVar 0) (fCons (fVar 1) (fCons (fC (.str (PySem.Str.ofString "parts"))) fNil)))) (fBi gLen (fCons (fFr (fLc [7] (iSq (fVar 2)) (hName 7) (fTru (fCall phi_parts_all (fCons (fVar 7) fNil))) (fVar 7))) fNil))))
      g__law_small_right_7t0 gNx)
noncomputable def g__law_small_right_8 : Gn := (gRet (f2 (gEq false) (fCall phi_count (fCons (fVar 0) (fCons (fVar 1) (fCons (fC (.str (PySem.Str.ofString "all"))) fNil)))) (fBi gLen (fCons (fFr (fLc [7] (iSq (fVar 2)) (hName 7) (fTru (fCall phi_comes_to_all (fCons (fVar 7) fNil))) (fVar 7))) fNil))))
noncomputable def g__law_small_right : Gn := (gBlk g__law_small_right_0 (gBlk g__law_small_right_1 (gBlk g__law_small_right_2 (gBlk g__law_small_right_3 (gBlk g__law_small_right_4 (gBlk g__law_small_right_5 (gBlk g__law_small_right_6 (gBlk g__law_small_right_7 g__law_small_right_8))))))))
noncomputable def phi__law_small_right := defN 2 9 g__law_small_right
noncomputable def g_law_0 : Gn := (gAsg (f2 (gIc (fun _ j => 0 < j) fun i j => i % j) (fCall phi__law_cell (fCons (fVar 0) (fCons (fC (.int 0)) fNil))) (fC (.int 5))) (hName 1))
noncomputable def g_law_1 : Gn := (gAsg (f2 (gIc (fun _ j => 0 < j) fun i j => i % j) (fCall phi__law_cell (fCons (fVar 0) (fCons (fC (.int 1)) fNil))) (fC (.int 5))) (hName 2))
noncomputable def g_law_2t0 : Gn := (gRet (fC (.bool false)))
noncomputable def g_law_2 : Gn := (gIf (bNot (fTru (fCall phi__law_small_right (fCons (fVar 1) (fCons (fVar 2) fNil)))))
      g_law_2t0 gNx)
noncomputable def g_law_3 : Gn := (gAsg (fFr (fLc [7] (iSq (fCall phi_all_maps (fCons (fVar 1) (fCons (fVar 1) fNil)))) (hName 7) (bAnd (fB (f2 (gIb fun i j => decide (j < i)) (fVar 1) (fC (.int 0)))) (fB (f2 (gEq false) (fCall phi_often (fCons (fVar 7) (fCons (fC (.int 2)) fNil))) (fVar 7)))) (fVar 7))) (hName 3))
noncomputable def g_law_4t0 : Gn := (gRet (fC (.bool false)))
noncomputable def g_law_4 : Gn := (gIf (bAnd (fB (f2 (gIb fun i j => decide (j < i)) (fVar 1) (fC (.int 0)))) (fB (f2 (gEq true) (fCall phi_count_still (fCons (fVar 1) fNil)) (fBi gLen (fCons (fVar 3) fNil)))))
      g_law_4t0 gNx)
noncomputable def g_law_5 : Gn := (gAsg (f2 (gIc (fun _ j => 0 < j) fun i j => i % j) (fCall phi__law_cell (fCons (fVar 0) (fCons (fC (.int 2)) fNil))) (fC (.int 30))) (hName 1))
noncomputable def g_law_6 : Gn := (gAsg (f2 (gIc (fun _ j => 0 < j) fun i j => i % j) (fCall phi__law_cell (fCons (fVar 0) (fCons (fC (.int 3)) fNil))) (fC (.int 31))) (hName 2))
noncomputable def g_law_7b0t0 : Gn := (gRet (fC (.bool false)))
noncomputable def g_law_7b0 : Gn := (gIf (bNot (fTru (fCall phi__law_whole (fCons (fCall phi_count (fCons (fVar 1) (fCons (fVar 2) (fCons (fVar 4) fNil)))) fNil))))
      g_law_7b0t0 gNx)
noncomputable def g_law_7 : Gn := (gFor (iSq (fFr (fList (fCons (fC (.str (PySem.Str.ofString "any"))) (fCons (fC (.str (PySem.Str.ofString "parts"))) (fCons (fC (.str (PySem.Str.ofString "all"))) fNil)))))) (hName 4)
      g_law_7b0)
noncomputable def g_law_8t0 : Gn := (gRet (fC (.bool false)))
noncomputable def g_law_8 : Gn := (gIf (fB (f2 (gEq true) (fCall phi_count (fCons (f2 gAdd (fVar 1) (fC (.int 1))) (fCons (fVar 2) (fCons (fC (.str (PySem.Str.ofString "any"))) fNil)))) (f2 gMulD (fVar 2) (fCall phi_count (fCons (fVar 1) (fCons (fVar 2) (fCons (fC (.str (PySem.Str.ofString "any"))) fNil)))))))
      g_law_8t0 gNx)
noncomputable def g_law_9t0 : Gn := (gRet (fC (.bool false)))
noncomputable def g_law_9 : Gn := (gIf (fB (f2 (gEq true) (fCall phi_count (fCons (f2 gAdd (fVar 1) (fC (.int 1))) (fCons (fVar 2) (fCons (fC (.str (PySem.Str.ofString "parts"))) fNil)))) (f2 gMulD (fBi gMax2 (fCons (fC (.int 0)) (fCons (f2 (gI fun i j => i - j) (fVar 2) (fVar 1)) fNil))) (fCall phi_count (fCons (fVar 1) (fCons (fVar 2) (fCons (fC (.str (PySem.Str.ofString "parts"))) fNil)))))))
      g_law_9t0 gNx)
noncomputable def g_law_10 : Gn := (gAsg (fBi gSum (fCons (fFr (fLc [6] (iR1 (f2 gAdd (fVar 2) (fC (.int 1)))) (hName 6) cYes (f2 gMulD (fCall phi__law_choices (fCons (fVar 2) (fCons (fVar 6) fNil))) (fCall phi_count (fCons (fVar 1) (fCons (fVar 6) (fCons (fC (.str (PySem.Str.ofString "all"))) fNil))))))) fNil)) (hName 5))
noncomputable def g_law_11t0 : Gn := (gRet (fC (.bool false)))
noncomputable def g_law_11 : Gn := (gIf (fB (f2 (gEq true) (fVar 5) (fCall phi_count (fCons (fVar 1) (fCons (fVar 2) (fCons (fC (.str (PySem.Str.ofString "any"))) fNil))))))
      g_law_11t0 gNx)
noncomputable def g_law_12 : Gn := (gAsg (fC (.int 0)) (hName 5))
noncomputable def g_law_13b0 : Gn := (gAsg (f2 gAdd (fVar 5) (f2 gMulD (fCall phi__law_choices (fCons (fVar 1) (fCons (fVar 6) fNil))) (fCall phi_count (fCons (f2 (gI fun i j => i - j) (fVar 1) (fVar 6)) (fCons (fVar 6) (fCons (fC (.str (PySem.Str.ofString "any"))) fNil)))))) (hName 5))
noncomputable def g_law_13 : Gn := (gFor (iR1 (f2 gAdd (fVar 1) (fC (.int 1)))) (hName 6)
      g_law_13b0)
noncomputable def g_law_14 : Gn := (gRet (fAnd (fCall phi__law_whole (fCons (fCall phi_count_still (fCons (fVar 1) fNil)) fNil)) (fAnd (f2 (gEq false) (fCall phi_count_still (fCons (fVar 1) fNil)) (fVar 5)) (f2 (gEq false) (fCall phi_count_still (fCons (fC (.int 0)) fNil)) (fC (.int 1))))))
noncomputable def g_law : Gn := (gBlk g_law_0 (gBlk g_law_1 (gBlk g_law_2 (gBlk g_law_3 (gBlk g_law_4 (gBlk g_law_5 (gBlk g_law_6 (gBlk g_law_7 (gBlk g_law_8 (gBlk g_law_9 (gBlk g_law_10 (gBlk g_law_11 (gBlk g_law_12 (gBlk g_law_13 g_law_14))))))))))))))
noncomputable def phi_law := defN 1 8 g_law
structure Cs where
  a : Nat → Addr
  d : Nat → FuncData
  c : Nat → Addr
structure Txt (K : PySem.W.Frag) (mg : Str → Option Value) (A : Cs) : Prop where
  F0 : Fun K "all_maps" "all_maps" s_all_maps (A.a 0) (A.d 0)
  g0 : mg "all_maps" = some (.ref (A.a 0))
  b0 : Binds K (A.d 0) ["many", "to"] []
  F1 : Fun K "power" "power" s_power (A.a 1) (A.d 1)
  g1 : mg "power" = some (.ref (A.a 1))
  b1 : Binds K (A.d 1) ["number", "times"] []
  F2 : Fun K "choices" "choices" s_choices (A.a 2) (A.d 2)
  g2 : mg "choices" = some (.ref (A.a 2))
  b2 : Binds K (A.d 2) ["many", "some"] []
  F3 : Fun K "count" "count" s_count (A.a 3) (A.d 3)
  g3 : mg "count" = some (.ref (A.a 3))
  b3 : Binds K (A.d 3) ["many", "to", "kind"] []
  F4 : Fun K "count_still" "count_still" s_count_still (A.a 4) (A.d 4)
  g4 : mg "count_still" = some (.ref (A.a 4))
  b4 : Binds K (A.d 4) ["many"] []
  F5 : Fun K "must" "must" s_must (A.a 5) (A.d 5)
  g5 : mg "must" = some (.ref (A.a 5))
  b5 : Binds K (A.d 5) ["fits"] []
  F6 : Fun K "then" "then" s_then (A.a 6) (A.d 6)
  g6 : mg "then" = some (.ref (A.a 6))
  b6 : Binds K (A.d 6) ["one", "other"] []
  F7 : Fun K "same" "same" s_same (A.a 7) (A.d 7)
  g7 : mg "same" = some (.ref (A.a 7))
  b7 : Binds K (A.d 7) ["many"] []
  F8 : Fun K "parts_all" "parts_all" s_parts_all (A.a 8) (A.d 8)
  g8 : mg "parts_all" = some (.ref (A.a 8))
  b8 : Binds K (A.d 8) ["one"] []
  F9 : Fun K "comes_to_all" "comes_to_all" s_comes_to_all (A.a 9) (A.d 9)
  g9 : mg "comes_to_all" = some (.ref (A.a 9))
  b9 : Binds K (A.d 9) ["one"] []
  F10 : Fun K "must_be_inner" "must_be_inner" s_must_be_inner (A.a 10) (A.d 10)
  g10 : mg "must_be_inner" = some (.ref (A.a 10))
  b10 : Binds K (A.d 10) ["one"] []
  F11 : Fun K "often" "often" s_often (A.a 11) (A.d 11)
  g11 : mg "often" = some (.ref (A.a 11))
  b11 : Binds K (A.d 11) ["one", "times"] []
  F12 : Fun K "_law_cell" "_law_cell" s__law_cell (A.a 12) (A.d 12)
  g12 : mg "_law_cell" = some (.ref (A.a 12))
  b12 : Binds K (A.d 12) ["_law_script", "_law_k"] []
  F16 : Fun K "_law_whole" "_law_whole" s__law_whole (A.a 16) (A.d 16)
  g16 : mg "_law_whole" = some (.ref (A.a 16))
  b16 : Binds K (A.d 16) ["_law_found"] []
  F17 : Fun K "_law_choices" "_law_choices" s__law_choices (A.a 17) (A.d 17)
  g17 : mg "_law_choices" = some (.ref (A.a 17))
  b17 : Binds K (A.d 17) ["_law_many", "_law_some"] []
  F18 : Fun K "_law_small_right" "_law_small_right" s__law_small_right (A.a 18) (A.d 18)
  g18 : mg "_law_small_right" = some (.ref (A.a 18))
  b18 : Binds K (A.d 18) ["_law_many", "_law_to"] []
  F19 : Fun K "law" "law" s_law (A.a 19) (A.d 19)
  g19 : mg "law" = some (.ref (A.a 19))
  b19 : Binds K (A.d 19) ["_law_script"] []
  m_bool : mg "bool" = none
  m_int : mg "int" = none
  m_isinstance : mg "isinstance" = none
  m_len : mg "len" = none
  m_list : mg "list" = none
  m_max : mg "max" = none
  m_range : mg "range" = none
  m_reversed : mg "reversed" = none
  m_set : mg "set" = none
  m_sorted : mg "sorted" = none
  m_sum : mg "sum" = none
  m_tuple : mg "tuple" = none
  gC0 : mg "MapError" = some (.ref (A.c 0))
  x0 : PySem.W.excIn K (A.c 0) [.type "ValueError", .type "Exception", .type "BaseException", .type "object"] "ValueError.__new__" = true
  kC0 : PySem.W.keepIn K (.ref (A.c 0)) = true
  bC0 : PySem.W.subIn K (.ref (A.c 0)) (.type "BaseException") = some true
  tC0 : PySem.W.typeIn K (.ref (A.c 0)) = some (.type "type")
  gC2 : mg "NoFit" = some (.ref (A.c 2))
  x2 : PySem.W.excIn K (A.c 2) [.type "ValueError", .type "Exception", .type "BaseException", .type "object"] "ValueError.__new__" = true
  kC2 : PySem.W.keepIn K (.ref (A.c 2)) = true
  bC2 : PySem.W.subIn K (.ref (A.c 2)) (.type "BaseException") = some true
  tC2 : PySem.W.typeIn K (.ref (A.c 2)) = some (.type "type")
section
variable {P : Program} {w : World} {K : PySem.W.Frag} {mg : Str → Option Value} {base : Heap} {A : Cs}
theorem ok_all_maps (T : Txt K mg A) : FnOk P w K mg base (L2.CX P w) 1 (A.a 0) (A.d 0) ["many", "to"] (spX K 2 A.c phi_all_maps) := by
  exact ok_def [4] T.F0 sc_all_maps rfl (fun cdv Ar outer s H E hr hp tk => ⟨_, (ss_cons (sd_set 2 nd_all_maps (ed_fr (fd_lst (ad_cons (ed_tup ad_nil) ad_nil))))
    (ss_cons (sd_for hp (id_range1 (ed_var 0) T.m_range) (gd_name 3 nd_all_maps)
      (ss_cons (sd_own 4 nd_all_maps (fd_lst ad_nil))
    (ss_cons (sd_for hp (id_seq (ed_var 2)) (gd_name 5 nd_all_maps)
      (ss_one (sd_extend 4 (fd_lc [(("number" : Str), 6)] nd_all_maps (id_range1 (ed_var 1) T.m_range) (blkOk_by (N := N_all_maps) (sc := (defScope s_all_maps)) (by decide +kernel)) (fun _ _ _ _ _ => (gd_name 6 nd_all_maps)) (fun _ _ _ _ _ => ctd_nil) (fun _ _ _ _ _ => (ed_op od_add (ed_var 5) (ed_tup (ad_cons (ed_var 6) ad_nil))))))))
    (ss_one (sd_give 2 4 nd_all_maps)))))
    (ss_one (sd_ret (ed_ty bd_tuple T.m_tuple PyProof.Rows.boot_tuple (ad_cons (ed_fr (fd_lc [(("row" : Str), 5)] nd_all_maps (id_seq (ed_var 2)) (blkOk_by (N := N_all_maps) (sc := (defScope s_all_maps)) (by decide +kernel)) (fun _ _ _ _ _ => (gd_name 5 nd_all_maps)) (fun _ _ _ _ _ => ctd_nil) (fun _ _ _ _ _ => (ed_tup (ad_cons (ed_var 1) (ad_cons (ed_var 5) ad_nil)))))) ad_nil))))))⟩)
theorem ok_power (T : Txt K mg A) : FnOk P w K mg base (L2.CX P w) 1 (A.a 1) (A.d 1) ["number", "times"] (spX K 2 A.c phi_power) := by
  exact ok_def [] T.F1 sc_power rfl (fun cdv Ar outer s H E hr hp tk => ⟨_, (ss_cons (sd_set 2 nd_power ed_int)
    (ss_cons (sd_for hp (id_range1 (ed_var 1) T.m_range) (gd_name 3 nd_power)
      (ss_one (sd_set 2 nd_power (ed_op od_mulD (ed_var 2) (ed_var 0)))))
    (ss_one (sd_ret (ed_var 2)))))⟩)
theorem ok_choices (T : Txt K mg A) : FnOk P w K mg base (L2.CX P w) 1 (A.a 2) (A.d 2) ["many", "some"] (spX K 2 A.c phi_choices) := by
  exact ok_def [] T.F2 sc_choices rfl (fun cdv Ar outer s H E hr hp tk => ⟨_, (ss_cons (sd_set 2 nd_choices ed_int)
    (ss_cons (sd_for hp (id_range1 (ed_var 1) T.m_range) (gd_name 3 nd_choices)
      (ss_one (sd_set 2 nd_choices (ed_op od_fdiv (ed_op od_mulD (ed_var 2) (ed_op od_sub (ed_var 0) (ed_var 3))) (ed_op od_add (ed_var 3) ed_int)))))
    (ss_one (sd_ret (ed_var 2)))))⟩)
theorem ok_count (T : Txt K mg A) : FnOk P w K mg base (L2.CX P w) 2 (A.a 3) (A.d 3) ["many", "to", "kind"] (spX K 3 A.c phi_count) := by
  exact ok_def [] T.F3 sc_count rfl (fun cdv Ar outer s H E hr hp tk => ⟨_, (ss_cons (sd_if (td_cmp (od_eq hr) (ed_var 2) ed_str)
      (ss_one (sd_ret (ed_call (ok_power T) (hr.mono (by decide)) T.g1 T.F1.kp T.b1 defN_len (ad_cons (ed_var 1) (ad_cons (ed_var 0) ad_nil))))) ss_nil)
    (ss_cons (sd_if (td_cmp (od_eq hr) (ed_var 2) ed_str)
      (ss_cons (sd_set 3 nd_count ed_int)
    (ss_cons (sd_for hp (id_range1 (ed_var 0) T.m_range) (gd_name 4 nd_count)
      (ss_one (sd_set 3 nd_count (ed_op od_mulD (ed_var 3) (ed_bi bd_max2 T.m_max PyProof.Rows.boot_max (ad_cons ed_int (ad_cons (ed_op od_sub (ed_var 1) (ed_var 4)) ad_nil)))))))
    (ss_one (sd_ret (ed_var 3))))) ss_nil)
    (ss_one (sd_ret (ed_bi bd_sum T.m_sum PyProof.Rows.boot_sum (ad_cons (ed_fr (fd_lc [(("k" : Str), 4)] nd_count (id_range1 (ed_op od_add (ed_var 1) ed_int) T.m_range) (blkOk_by (N := N_count) (sc := (defScope s_count)) (by decide +kernel)) (fun _ _ _ _ _ => (gd_name 4 nd_count)) (fun _ _ _ _ _ => ctd_nil) (fun _ _ _ _ _ => (ed_op od_mulD (ed_op od_mulD (ed_call (ok_power T) (hr.mono (by decide)) T.g1 T.F1.kp T.b1 defN_len (ad_cons (ed_op od_sub (ed_var 1) (ed_var 4)) (ad_cons (ed_var 0) ad_nil))) (ed_call (ok_choices T) (hr.mono (by decide)) T.g2 T.F2.kp T.b2 defN_len (ad_cons (ed_var 1) (ad_cons (ed_var 4) ad_nil)))) (ed_op od_sub ed_int (ed_op od_mulD ed_int (ed_op od_mod (ed_var 4) ed_int))))))) ad_nil))))))⟩)
theorem ok_count_still (T : Txt K mg A) : FnOk P w K mg base (L2.CX P w) 2 (A.a 4) (A.d 4) ["many"] (spX K 1 A.c phi_count_still) := by
  exact ok_def [] T.F4 sc_count_still rfl (fun cdv Ar outer s H E hr hp tk => ⟨_, (ss_one (sd_ret (ed_bi bd_sum T.m_sum PyProof.Rows.boot_sum (ad_cons (ed_fr (fd_lc [(("k" : Str), 1)] nd_count_still (id_range1 (ed_op od_add (ed_var 0) ed_int) T.m_range) (blkOk_by (N := N_count_still) (sc := (defScope s_count_still)) (by decide +kernel)) (fun _ _ _ _ _ => (gd_name 1 nd_count_still)) (fun _ _ _ _ _ => ctd_nil) (fun _ _ _ _ _ => (ed_op od_mulD (ed_call (ok_choices T) (hr.mono (by decide)) T.g2 T.F2.kp T.b2 defN_len (ad_cons (ed_var 0) (ad_cons (ed_var 1) ad_nil))) (ed_call (ok_power T) (hr.mono (by decide)) T.g1 T.F1.kp T.b1 defN_len (ad_cons (ed_var 1) (ad_cons (ed_op od_sub (ed_var 0) (ed_var 1)) ad_nil))))))) ad_nil))))⟩)
theorem ok_must (T : Txt K mg A) : FnOk P w K mg base (L2.CX P w) 1 (A.a 5) (A.d 5) ["fits"] (spX K 1 A.c phi_must) := by
  exact ok_def [] T.F5 sc_must rfl (fun cdv Ar outer s H E hr hp tk => ⟨_, (ss_one (sd_if (td_not (td_truth (ed_var 0)))
      (ss_one (sd_raise 2 T.x2 T.gC2 T.kC2 (raises_own T.bC2 T.tC2) tk)) ss_nil))⟩)
theorem ok_then (T : Txt K mg A) : FnOk P w K mg base (L2.CX P w) 2 (A.a 6) (A.d 6) ["one", "other"] (spX K 2 A.c phi_then) := by
  exact ok_def [] T.F6 sc_then rfl (fun cdv Ar outer s H E hr hp tk => ⟨_, (ss_cons (sd_exprQ (qd_call (ok_must T) (hr.mono (by decide)) T.g5 T.F5.kp T.b5 defN_len tk (ad_cons (ed_cmp (od_eq hr) (ed_ix (ed_var 0) ed_int) (ed_bi bd_len T.m_len PySem.boot_len (ad_cons (ed_ix (ed_var 1) ed_int) ad_nil))) ad_nil)))
    (ss_one (sd_ret (ed_tup (ad_cons (ed_ix (ed_var 1) ed_int) (ad_cons (ed_ty bd_tuple T.m_tuple PyProof.Rows.boot_tuple (ad_cons (ed_fr (fd_lc [(("number" : Str), 2)] nd_then (id_seq (ed_ix (ed_var 0) ed_int)) (blkOk_by (N := N_then) (sc := (defScope s_then)) (by decide +kernel)) (fun _ _ _ _ _ => (gd_name 2 nd_then)) (fun _ _ _ _ _ => ctd_nil) (fun _ _ _ _ _ => (ed_ix (ed_ix (ed_var 1) ed_int) (ed_var 2))))) ad_nil)) ad_nil))))))⟩)
theorem ok_same (T : Txt K mg A) : FnOk P w K mg base (L2.CX P w) 1 (A.a 7) (A.d 7) ["many"] (spX K 1 A.c phi_same) := by
  exact ok_def [] T.F7 sc_same rfl (fun cdv Ar outer s H E hr hp tk => ⟨_, (ss_one (sd_ret (ed_tup (ad_cons (ed_var 0) (ad_cons (ed_tupRg (ed_var 0) T.m_range T.m_tuple) ad_nil)))))⟩)
theorem ok_parts_all (T : Txt K mg A) : FnOk P w K mg base (L2.CX P w) 1 (A.a 8) (A.d 8) ["one"] (spX K 1 A.c phi_parts_all) := by
  exact ok_def [] T.F8 sc_parts_all rfl (fun cdv Ar outer s H E hr hp tk => ⟨_, (ss_one (sd_ret (ed_cmp (od_eq hr) (ed_lenSet (ed_ix (ed_var 0) ed_int) T.m_len T.m_set) (ed_bi bd_len T.m_len PySem.boot_len (ad_cons (ed_ix (ed_var 0) ed_int) ad_nil)))))⟩)
theorem ok_comes_to_all (T : Txt K mg A) : FnOk P w K mg base (L2.CX P w) 1 (A.a 9) (A.d 9) ["one"] (spX K 1 A.c phi_comes_to_all) := by
  exact ok_def [] T.F9 sc_comes_to_all rfl (fun cdv Ar outer s H E hr hp tk => ⟨_, (ss_one (sd_ret (ed_cmp (od_eq hr) (ed_lenSet (ed_ix (ed_var 0) ed_int) T.m_len T.m_set) (ed_ix (ed_var 0) ed_int))))⟩)
theorem ok_must_be_inner (T : Txt K mg A) : FnOk P w K mg base (L2.CX P w) 2 (A.a 10) (A.d 10) ["one"] (spX K 1 A.c phi_must_be_inner) := by
  exact ok_def [] T.F10 sc_must_be_inner rfl (fun cdv Ar outer s H E hr hp tk => ⟨_, (ss_one (sd_exprQ (qd_call (ok_must T) (hr.mono (by decide)) T.g5 T.F5.kp T.b5 defN_len tk (ad_cons (ed_and (ed_cmp (od_eq hr) (ed_ix (ed_var 0) ed_int) (ed_bi bd_len T.m_len PySem.boot_len (ad_cons (ed_ix (ed_var 0) ed_int) ad_nil))) (ed_one (ed_cmp od_gt (ed_ix (ed_var 0) ed_int) ed_int))) ad_nil))))⟩)
theorem ok_often (T : Txt K mg A) : FnOk P w K mg base (L2.CX P w) 3 (A.a 11) (A.d 11) ["one", "times"] (spX K 2 A.c phi_often) := by
  exact ok_def [] T.F11 sc_often rfl (fun cdv Ar outer s H E hr hp tk => ⟨_, (ss_cons (sd_exprQ (qd_call (ok_must_be_inner T) (hr.mono (by decide)) T.g10 T.F10.kp T.b10 defN_len tk (ad_cons (ed_var 0) ad_nil)))
    (ss_cons (sd_set 2 nd_often (ed_call (ok_same T) (hr.mono (by decide)) T.g7 T.F7.kp T.b7 defN_len (ad_cons (ed_ix (ed_var 0) ed_int) ad_nil)))
    (ss_cons (sd_for hp (id_revR (ed_bits (ed_var 1)) T.m_range T.m_reversed) (gd_name 3 nd_often)
      (ss_cons (sd_setQ 2 nd_often (qd_call (ok_then T) (hr.mono (by decide)) T.g6 T.F6.kp T.b6 defN_len tk (ad_cons (ed_var 2) (ad_cons (ed_var 2) ad_nil))))
    (ss_one (sd_if (td_cmp (od_eq hr) (ed_op od_and (ed_op od_shr (ed_var 1) (ed_var 3)) ed_int) ed_int)
      (ss_one (sd_setQ 2 nd_often (qd_call (ok_then T) (hr.mono (by decide)) T.g6 T.F6.kp T.b6 defN_len tk (ad_cons (ed_var 2) (ad_cons (ed_var 0) ad_nil))))) ss_nil))))
    (ss_one (sd_ret (ed_var 2))))))⟩)
theorem ok__law_cell (T : Txt K mg A) : FnOk P w K mg base (L2.CX P w) 1 (A.a 12) (A.d 12) ["_law_script", "_law_k"] (spX K 2 A.c phi__law_cell) := by
  exact ok_def [] T.F12 sc__law_cell rfl (fun cdv Ar outer s H E hr hp tk => ⟨_, (ss_cons (sd_if (td_cmp od_lt (ed_var 1) (ed_bi bd_len T.m_len PySem.boot_len (ad_cons (ed_var 0) ad_nil)))
      (ss_one (sd_ret (ed_ix (ed_var 0) (ed_var 1)))) ss_nil)
    (ss_one (sd_ret ed_int)))⟩)
theorem ok__law_whole (T : Txt K mg A) : FnOk P w K mg base (L2.CX P w) 1 (A.a 16) (A.d 16) ["_law_found"] (spX K 1 A.c phi__law_whole) := by
  exact ok_def [] T.F16 sc__law_whole rfl (fun cdv Ar outer s H E hr hp tk => ⟨_, (ss_one (sd_ret (ed_and (ed_isi (T := "int") (ed_var 0) T.m_isinstance T.m_int PyProof.Rows.boot_int) (ed_one (ed_not (ed_isi (T := "bool") (ed_var 0) T.m_isinstance T.m_bool PyProof.Rows.boot_bool))))))⟩)
theorem ok__law_choices (T : Txt K mg A) : FnOk P w K mg base (L2.CX P w) 1 (A.a 17) (A.d 17) ["_law_many", "_law_some"] (spX K 2 A.c phi__law_choices) := by
  exact ok_def [] T.F17 sc__law_choices rfl (fun cdv Ar outer s H E hr hp tk => ⟨_, (ss_cons (sd_set 2 nd__law_choices ed_int)
    (ss_cons (sd_for hp (id_range1 (ed_var 1) T.m_range) (gd_name 3 nd__law_choices)
      (ss_one (sd_set 2 nd__law_choices (ed_op od_fdiv (ed_op od_mulD (ed_var 2) (ed_op od_sub (ed_var 0) (ed_var 3))) (ed_op od_add (ed_var 3) ed_int)))))
    (ss_one (sd_ret (ed_var 2)))))⟩)
theorem ok__law_small_right (T : Txt K mg A) : FnOk P w K mg base (L2.CX P w) 3 (A.a 18) (A.d 18) ["_law_many", "_law_to"] (spX K 2 A.c phi__law_small_right) := by
  exact ok_def [] T.F18 sc__law_small_right rfl (fun cdv Ar outer s H E hr hp tk => ⟨_, (ss_cons (sd_set 2 nd__law_small_right (ed_call (ok_all_maps T) (hr.mono (by decide)) T.g0 T.F0.kp T.b0 defN_len (ad_cons (ed_var 0) (ad_cons (ed_var 1) ad_nil))))
    (ss_cons (sd_setLc 3 [(("_law_row" : Str), 6)] nd__law_small_right (id_seq (ed_var 2)) (blkOk_by (N := N__law_small_right) (sc := (defScope s__law_small_right)) (by decide +kernel)) (fun _ _ _ _ _ => (gd_name 6 nd__law_small_right)) (fun _ _ _ _ _ => ctd_nil) (fun _ _ _ _ _ => (ed_ix (ed_var 6) ed_int)) (sw_true rfl rfl rfl (by decide +kernel)))
    (ss_cons (sd_if (td_w (wd_or (td_not (td_truth (ed_isi (T := "tuple") (ed_var 2) T.m_isinstance T.m_tuple PyProof.Rows.boot_tuple))) (wd_or (td_cmp (od_ne hr) (ed_var 3) (ed_fr (fd_sortSetT (ed_var 3) hr T.m_sorted T.m_set))) (wd_or1 (td_truth (ed_fr (fd_lc [(("_law_one" : Str), 7)] nd__law_small_right (id_seq (ed_var 2)) (blkOk_by (N := N__law_small_right) (sc := (defScope s__law_small_right)) (by decide +kernel)) (fun _ _ _ _ _ => (gd_name 7 nd__law_small_right)) (fun _ _ _ _ _ => (ctd_one (td_cmp (od_ne hr) (ed_ix (ed_var 7) ed_int) (ed_var 1)))) (fun _ _ _ _ _ => (ed_var 7)))))))))
      (ss_one (sd_ret ed_bl)) ss_nil)
    (ss_cons (sd_if (td_truth (ed_fr (fd_lc [(("_law_row" : Str), 6)] nd__law_small_right (id_seq (ed_var 3)) (blkOk_by (N := N__law_small_right) (sc := (defScope s__law_small_right)) (by decide +kernel)) (fun _ _ _ _ _ => (gd_name 6 nd__law_small_right)) (fun _ _ _ _ _ => (ctd_one (td_w (wd_or (td_cmp (od_ne hr) (ed_bi bd_len T.m_len PySem.boot_len (ad_cons (ed_var 6) ad_nil)) (ed_var 0)) (wd_or1 (td_truth (ed_fr (fd_lc [(("_law_number" : Str), 8)] nd__law_small_right (id_seq (ed_var 6)) (blkOk_in (N := N__law_small_right) (by decide +kernel)) (fun _ _ _ _ _ => (gd_name 8 nd__law_small_right)) (fun _ _ _ _ _ => (ctd_one (td_not (td_chain od_le od_lt ed_int (ed_var 8) (ed_var 1))))) (fun _ _ _ _ _ => (ed_var 8)))))))))) (fun _ _ _ _ _ => (ed_var 6)))))
      (ss_one (sd_ret ed_bl)) ss_nil)
    (ss_cons (sd_set 4 nd__law_small_right ed_int)
    (ss_cons (sd_for hp (id_range1 (ed_var 0) T.m_range) (gd_name 5 nd__law_small_right)
      (ss_one (sd_set 4 nd__law_small_right (ed_op od_mulD (ed_var 4) (ed_var 1)))))
    (ss_cons (sd_if (td_w (wd_or (td_cmp (od_ne hr) (ed_bi bd_len T.m_len PySem.boot_len (ad_cons (ed_var 2) ad_nil)) (ed_var 4)) (wd_or1 (td_cmp (od_ne hr) (ed_call (ok_count T) (hr.mono (by decide)) T.g3 T.F3.kp T.b3 defN_len (ad_cons (ed_var 0) (ad_cons (ed_var 1) (ad_cons ed_str ad_nil)))) (ed_var 4)))))
      (ss_one (sd_ret ed_bl)) ss_nil)
    (ss_cons (sd_if (td_cmp (od_ne hr) (ed_call (ok_count T) (hr.mono (by decide)) T.g3 T.F3.kp T.b3 defN_len (ad_cons (ed_var 0) (ad_cons (ed_var 1) (ad_cons ed_str ad_nil)))) (ed_bi bd_len T.m_len PySem.boot_len (ad_cons (ed_fr (fd_lc [(("_law_one" : Str), 7)] nd__law_small_right (id_seq (ed_var 2)) (blkOk_by (N := N__law_small_right) (sc := (defScope s__law_small_right)) (by decide +kernel)) (fun _ _ _ _ _ => (gd_name 7 nd__law_small_right)) (fun _ _ _ _ _ => (ctd_one (td_truth (ed_call (ok_parts_all T) (hr.mono (by decide)) T.g8 T.F8.kp T.b8 defN_len (ad_cons (ed_var 7) ad_nil))))) (fun _ _ _ _ _ => (ed_var 7)))) ad_nil)))
      (ss_one (sd_ret ed_bl)) ss_nil)
    (ss_one (sd_ret (ed_cmp (od_eq hr) (ed_call (ok_count T) (hr.mono (by decide)) T.g3 T.F3.kp T.b3 defN_len (ad_cons (ed_var 0) (ad_cons (ed_var 1) (ad_cons ed_str ad_nil)))) (ed_bi bd_len T.m_len PySem.boot_len (ad_cons (ed_fr (fd_lc [(("_law_one" : Str), 7)] nd__law_small_right (id_seq (ed_var 2)) (blkOk_by (N := N__law_small_right) (sc := (defScope s__law_small_right)) (by decide +kernel)) (fun _ _ _ _ _ => (gd_name 7 nd__law_small_right)) (fun _ _ _ _ _ => (ctd_one (td_truth (ed_call (ok_comes_to_all T) (hr.mono (by decide)) T.g9 T.F9.kp T.b9 defN_len (ad_cons (ed_var 7) ad_nil))))) (fun _ _ _ _ _ => (ed_var 7)))) ad_nil)))))))))))))⟩)
theorem ok_law (T : Txt K mg A) : FnOk P w K mg base (L2.CX P w) 4 (A.a 19) (A.d 19) ["_law_script"] (spX K 1 A.c phi_law) := by
  exact ok_def [] T.F19 sc_law rfl (fun cdv Ar outer s H E hr hp tk => ⟨_, (ss_cons (sd_set 1 nd_law (ed_op od_mod (ed_call (ok__law_cell T) (hr.mono (by decide)) T.g12 T.F12.kp T.b12 defN_len (ad_cons (ed_var 0) (ad_cons ed_int ad_nil))) ed_int))
    (ss_cons (sd_set 2 nd_law (ed_op od_mod (ed_call (ok__law_cell T) (hr.mono (by decide)) T.g12 T.F12.kp T.b12 defN_len (ad_cons (ed_var 0) (ad_cons ed_int ad_nil))) ed_int))
    (ss_cons (sd_if (td_not (td_truth (ed_call (ok__law_small_right T) (hr.mono (by decide)) T.g18 T.F18.kp T.b18 defN_len (ad_cons (ed_var 1) (ad_cons (ed_var 2) ad_nil)))))
      (ss_one (sd_ret ed_bl)) ss_nil)
    (ss_cons (sd_setLc 3 [(("_law_one" : Str), 7)] nd_law (id_seq (ed_call (ok_all_maps T) (hr.mono (by decide)) T.g0 T.F0.kp T.b0 defN_len (ad_cons (ed_var 1) (ad_cons (ed_var 1) ad_nil)))) (blkOk_by (N := N_law) (sc := (defScope s_law)) (by decide +kernel)) (fun _ _ _ _ _ => (gd_name 7 nd_law)) (fun _ _ _ _ _ => (ctd_one (td_w (wd_and (td_cmp od_gt (ed_var 1) ed_int) (wd_and1 (td_cmp (od_eq hr) (ed_call (ok_often T) (hr.mono (by decide)) T.g11 T.F11.kp T.b11 defN_len (ad_cons (ed_var 7) (ad_cons ed_int ad_nil))) (ed_var 7))))))) (fun _ _ _ _ _ => (ed_var 7)) (sw_true rfl rfl rfl (by decide +kernel)))
    (ss_cons (sd_if (td_w (wd_and (td_cmp od_gt (ed_var 1) ed_int) (wd_and1 (td_cmp (od_ne hr) (ed_call (ok_count_still T) (hr.mono (by decide)) T.g4 T.F4.kp T.b4 defN_len (ad_cons (ed_var 1) ad_nil)) (ed_bi bd_len T.m_len PySem.boot_len (ad_cons (ed_var 3) ad_nil))))))
      (ss_one (sd_ret ed_bl)) ss_nil)
    (ss_cons (sd_set 1 nd_law (ed_op od_mod (ed_call (ok__law_cell T) (hr.mono (by decide)) T.g12 T.F12.kp T.b12 defN_len (ad_cons (ed_var 0) (ad_cons ed_int ad_nil))) ed_int))
    (ss_cons (sd_set 2 nd_law (ed_op od_mod (ed_call (ok__law_cell T) (hr.mono (by decide)) T.g12 T.F12.kp T.b12 defN_len (ad_cons (ed_var 0) (ad_cons ed_int ad_nil))) ed_int))
    (ss_cons (sd_for hp (id_seq (ed_fr (fd_lst (ad_cons ed_str (ad_cons ed_str (ad_cons ed_str ad_nil)))))) (gd_name 4 nd_law)
      (ss_one (sd_if (td_not (td_truth (ed_call (ok__law_whole T) (hr.mono (by decide)) T.g16 T.F16.kp T.b16 defN_len (ad_cons (ed_call (ok_count T) (hr.mono (by decide)) T.g3 T.F3.kp T.b3 defN_len (ad_cons (ed_var 1) (ad_cons (ed_var 2) (ad_cons (ed_var 4) ad_nil)))) ad_nil))))
      (ss_one (sd_ret ed_bl)) ss_nil)))
    (ss_cons (sd_if (td_cmp (od_ne hr) (ed_call (ok_count T) (hr.mono (by decide)) T.g3 T.F3.kp T.b3 defN_len (ad_cons (ed_op od_add (ed_var 1) ed_int) (ad_cons (ed_var 2) (ad_cons ed_str ad_nil)))) (ed_op od_mulD (ed_var 2) (ed_call (ok_count T) (hr.mono (by decide)) T.g3 T.F3.kp T.b3 defN_len (ad_cons (ed_var 1) (ad_cons (ed_var 2) (ad_cons ed_str ad_nil))))))
      (ss_one (sd_ret ed_bl)) ss_nil)
    (ss_cons (sd_if (td_cmp (od_ne hr) (ed_call (ok_count T) (hr.mono (by decide)) T.g3 T.F3.kp T.b3 defN_len (ad_cons (ed_op od_add (ed_var 1) ed_int) (ad_cons (ed_var 2) (ad_cons ed_str ad_nil)))) (ed_op od_mulD (ed_bi bd_max2 T.m_max PyProof.Rows.boot_max (ad_cons ed_int (ad_cons (ed_op od_sub (ed_var 2) (ed_var 1)) ad_nil))) (ed_call (ok_count T) (hr.mono (by decide)) T.g3 T.F3.kp T.b3 defN_len (ad_cons (ed_var 1) (ad_cons (ed_var 2) (ad_cons ed_str ad_nil))))))
      (ss_one (sd_ret ed_bl)) ss_nil)
    (ss_cons (sd_set 5 nd_law (ed_bi bd_sum T.m_sum PyProof.Rows.boot_sum (ad_cons (ed_fr (fd_lc [(("_law_k" : Str), 6)] nd_law (id_range1 (ed_op od_add (ed_var 2) ed_int) T.m_range) (blkOk_by (N := N_law) (sc := (defScope s_law)) (by decide +kernel)) (fun _ _ _ _ _ => (gd_name 6 nd_law)) (fun _ _ _ _ _ => ctd_nil) (fun _ _ _ _ _ => (ed_op od_mulD (ed_call (ok__law_choices T) (hr.mono (by decide)) T.g17 T.F17.kp T.b17 defN_len (ad_cons (ed_var 2) (ad_cons (ed_var 6) ad_nil))) (ed_call (ok_count T) (hr.mono (by decide)) T.g3 T.F3.kp T.b3 defN_len (ad_cons (ed_var 1) (ad_cons (ed_var 6) (ad_cons ed_str ad_nil)))))))) ad_nil)))
    (ss_cons (sd_if (td_cmp (od_ne hr) (ed_var 5) (ed_call (ok_count T) (hr.mono (by decide)) T.g3 T.F3.kp T.b3 defN_len (ad_cons (ed_var 1) (ad_cons (ed_var 2) (ad_cons ed_str ad_nil)))))
      (ss_one (sd_ret ed_bl)) ss_nil)
    (ss_cons (sd_set 5 nd_law ed_int)
    (ss_cons (sd_for hp (id_range1 (ed_op od_add (ed_var 1) ed_int) T.m_range) (gd_name 6 nd_law)
      (ss_one (sd_set 5 nd_law (ed_op od_add (ed_var 5) (ed_op od_mulD (ed_call (ok__law_choices T) (hr.mono (by decide)) T.g17 T.F17.kp T.b17 defN_len (ad_cons (ed_var 1) (ad_cons (ed_var 6) ad_nil))) (ed_call (ok_count T) (hr.mono (by decide)) T.g3 T.F3.kp T.b3 defN_len (ad_cons (ed_op od_sub (ed_var 1) (ed_var 6)) (ad_cons (ed_var 6) (ad_cons ed_str ad_nil)))))))))
    (ss_one (sd_ret (ed_and (ed_call (ok__law_whole T) (hr.mono (by decide)) T.g16 T.F16.kp T.b16 defN_len (ad_cons (ed_call (ok_count_still T) (hr.mono (by decide)) T.g4 T.F4.kp T.b4 defN_len (ad_cons (ed_var 1) ad_nil)) ad_nil)) (ed_and (ed_cmp (od_eq hr) (ed_call (ok_count_still T) (hr.mono (by decide)) T.g4 T.F4.kp T.b4 defN_len (ad_cons (ed_var 1) ad_nil)) (ed_var 5)) (ed_one (ed_cmp (od_eq hr) (ed_call (ok_count_still T) (hr.mono (by decide)) T.g4 T.F4.kp T.b4 defN_len (ad_cons ed_int ad_nil)) ed_int))))))))))))))))))))⟩)
end
end Lw


namespace Lw
open PySem PySem.Spec PyProof.Rows L2 DL
/-! ### what the law's own helpers reckon (the same in every law) -/
theorem mix_eq {c p m : Int} (hp : 0 < p) (hm : 0 < m) : phi__law_mix [.int c, .int p, .int m] = some (.ok (.int (c * 48271 % p % m))) := by
  have h1 : MulOk c 48271 := .inl (.inr ⟨by omega, by omega⟩)
  simp [phi__law_mix, g__law_mix, g__law_mix_0, hp, hm, h1]
theorem mix_lt {c p m : Int} (hm : 0 < m) : 0 ≤ c * 48271 % p % m ∧ c * 48271 % p % m < m := ⟨Int.emod_nonneg _ (by omega), Int.emod_lt_of_pos _ hm⟩
/-- a row of many numbers below to -/
structure Vr (many to : Int) (r : List Int) : Prop where
  len : 0 < to → (r.length : Int) = many
  nil : to ≤ 0 → r = []
  lt : ∀ x ∈ r, 0 ≤ x ∧ x < to
theorem eqv_int (i j : Int) : PyData.eqv (.int i) (.int j) = decide (i = j) := by
  show (i == j) = _
  rw [Bool.beq_eq_decide_eq]
theorem shaped_int (i : Int) : SeqAt.shaped (.int i) = true := by
  simp [SeqAt.shaped, PyData.canLay0, PyData.depth]
abbrev mapRho (c many to : Int) (r : List Int) (x y : Option PyData) : Rho := [some (.int c), some (.int many), some (.int to), some (.list (r.map .int)), x, y]
theorem map_stage1 {c many to : Int} (hm : 0 ≤ many ∧ many ≤ 1000) (ht : 0 ≤ to ∧ to ≤ 1000) : ∃ r, Vr many to r ∧ g__law_map_1 (mapRho c many to [] none none) = some (.nx (mapRho c many to r none none)) := by
  unfold g__law_map_1
  by_cases h : 0 < to
  · rw [if_t (by simp [h])]
    unfold g__law_map_1t0 gAsg fFr
    rw [lc_rg (n := many) (g := fun i => .int ((c + 31 * i) * 48271 % 9973 % to)) rfl (by omega) fun i hi => ?_]
    · refine ⟨(List.range many.toNat).map fun (i : Nat) => (c + 31 * i) * 48271 % 9973 % to, ⟨fun _ => ?_, fun z => absurd h (by omega), fun x hx => ?_⟩, ?_⟩
      · rw [List.length_map, List.length_range]; omega
      · obtain ⟨i, _, rfl⟩ := List.mem_map.mp hx
        exact mix_lt h
      · simp [Function.comp_def]
    · have h1 : MulOk 31 (i : Int) := .inl (.inl ⟨by omega, by omega⟩)
      simp [h1, mix_eq (p := 9973) (by omega) h]
  · rw [if_f (by simp [h])]
    exact ⟨[], ⟨fun z => absurd z h, fun _ => rfl, fun x hx => by cases hx⟩, rfl⟩
theorem cond_eq {c z a b : Int} {ρ : Rho} {i j k : Nat} (hi : ρ[i]? = some (some (.int c))) (hj : ρ[j]? = some (some (.int a))) (hk : ρ[k]? = some (some (.int b))) :
    bAnd (fB (f2 (gEq false) (f2 (gIc (fun _ j => 0 < j) fun i j => i % j) (fVar i) (fC (.int 4))) (fC (.int z)))) (fB (fChain (gIb fun i j => decide (i < j)) (gIb fun i j => decide (i ≤ j)) (fC (.int 0)) (fVar j) (fVar k))) ρ = some (decide (c % 4 = z) && (decide (0 < a) && decide (a ≤ b))) := by
  have e : fVar i ρ = some (.int c) := by unfold fVar; rw [hi]
  have e1 : fVar j ρ = some (.int a) := by unfold fVar; rw [hj]
  have e2 : fVar k ρ = some (.int b) := by unfold fVar; rw [hk]
  unfold bAnd fB f2 fChain
  rw [e, e1, e2]
  simp only [fC, gIc, gEq, gIb, Option.bind_some, shaped_int, and_self, if_true, Bool.false_xor, eqv_int, show (0 : Int) < 4 from by decide]
  cases h1 : decide (c % 4 = z) with
  | false => simp
  | true =>
    cases h2 : decide (0 < a) with
    | false => simp
    | true => simp
theorem cutA_mem {α : Type} {xs : List α} {lo hi : Option Int} {x : α} (h : x ∈ cutA xs lo hi) : x ∈ xs := List.mem_of_mem_drop (List.mem_of_mem_take h)
theorem sIx_of {n d : Nat} {k : Int} (h : 0 ≤ k) : HT.sIx n d (some k) = min k.toNat n := by
  have e : k = ((k.toNat : Nat) : Int) := by omega
  rw [e, HT.sIx_nat]
  rfl
theorem cutA_map {α β : Type} (f : α → β) (xs : List α) (lo hi : Option Int) : cutA (xs.map f) lo hi = (cutA xs lo hi).map f := by
  unfold cutA
  rw [List.length_map, List.map_take, List.map_drop]
theorem cutA_to {α : Type} (xs : List α) {k : Int} (h : 0 ≤ k) : cutA xs none (some k) = xs.take k.toNat := by
  unfold cutA
  rw [HT.sIx_none, List.drop_zero, sIx_of h, Nat.sub_zero]
  by_cases hk : k.toNat ≤ xs.length
  · rw [Nat.min_eq_left hk]
  · rw [Nat.min_eq_right (by omega), List.take_of_length_le (Nat.le_refl _), List.take_of_length_le (by omega)]
theorem cutA_from {α : Type} (xs : List α) {k : Int} (h : 0 ≤ k) : cutA xs (some k) none = xs.drop k.toNat := by
  unfold cutA
  rw [HT.sIx_none, sIx_of h]
  by_cases hk : k.toNat ≤ xs.length
  · rw [Nat.min_eq_left hk, List.take_of_length_le (by rw [List.length_drop]; omega)]
  · rw [Nat.min_eq_right (by omega), List.drop_length, List.take_nil, List.drop_of_length_le (by omega)]
theorem map_stage2 {c many to : Int} {r : List Int} (hm : 0 ≤ many ∧ many ≤ 1000) (ht : 0 ≤ to ∧ to ≤ 1000) (hv : Vr many to r) : ∃ r', Vr many to r' ∧ g__law_map_2 (mapRho c many to r none none) = some (.nx (mapRho c many to r' none none)) := by
  unfold g__law_map_2
  have hc := cond_eq (c := c) (z := 0) (a := to) (b := many) (ρ := mapRho c many to r none none) (i := 0) (j := 2) (k := 1) rfl rfl rfl
  cases h : (decide (c % 4 = 0) && (decide (0 < to) && decide (to ≤ many))) with
  | false => exact ⟨r, hv, by rw [if_f (by rw [hc, h])]; rfl⟩
  | true =>
    rw [if_t (by rw [hc, h])]
    simp only [Bool.and_eq_true, decide_eq_true_eq] at h
    obtain ⟨_, h2, h3⟩ := h
    have h5 : 0 < many := by omega
    have e1 : g__law_map_2t0 (mapRho c many to r none none) = some (.nx (mapRho c many to ((List.range many.toNat).map fun (i : Nat) => (i : Int) % to) none none)) := by
      unfold g__law_map_2t0 gAsg fFr
      rw [lc_rg (n := many) (g := fun i => .int ((i : Int) % to)) rfl (by omega) fun i hi => ?_]
      · simp [Function.comp_def]
      · simp [h2]
    generalize hr1 : (List.range many.toNat).map (fun (i : Nat) => (i : Int) % to) = r1 at e1
    have hl1 : (r1.length : Int) = many := by rw [← hr1, List.length_map, List.length_range]; omega
    have hlt1 : ∀ x ∈ r1, 0 ≤ x ∧ x < to := fun x hx => by
      rw [← hr1] at hx
      obtain ⟨i, _, rfl⟩ := List.mem_map.mp hx
      exact ⟨Int.emod_nonneg _ (by omega), Int.emod_lt_of_pos _ h2⟩
    unfold g__law_map_2t
    rw [blk_nx e1]
    have hk : 0 ≤ c / 4 % many := Int.emod_nonneg _ (by omega)
    have hd : CDiv c 4 := ⟨by decide, by decide⟩
    have e2 : g__law_map_2t1 (mapRho c many to r1 none none) = some (.nx (mapRho c many to (r1.drop (c / 4 % many).toNat ++ r1.take (c / 4 % many).toNat) none none)) := by
      have hsz : r1.length - (c / 4 % many).toNat + min (c / 4 % many).toNat r1.length ≤ 1000000 := by omega
      simp [g__law_map_2t1, hd, h5, cutA_map, cutA_to r1 hk, cutA_from r1 hk, hsz]
    refine ⟨_, ⟨fun _ => ?_, fun z => absurd h2 (by omega), fun x hx => ?_⟩, e2⟩
    · rw [List.length_append, List.length_drop, List.length_take]; omega
    · rcases List.mem_append.mp hx with hx | hx
      · exact hlt1 x (List.mem_of_mem_drop hx)
      · exact hlt1 x (List.mem_of_mem_take hx)
theorem rg_ints (n : Nat) : rgD 0 n = ((List.range n).map fun (i : Nat) => (i : Int)).map PyData.int := by
  rw [rgD_zero, List.map_map]
  rfl
theorem map_stage3 {c many to : Int} {r : List Int} (hm : 0 ≤ many ∧ many ≤ 1000) (ht : 0 ≤ to ∧ to ≤ 1000) (hv : Vr many to r) : ∃ r' y, Vr many to r' ∧ g__law_map_3 (mapRho c many to r none none) = some (.nx (mapRho c many to r' y none)) := by
  unfold g__law_map_3
  have hc := cond_eq (c := c) (z := 1) (a := many) (b := to) (ρ := mapRho c many to r none none) (i := 0) (j := 1) (k := 2) rfl rfl rfl
  cases h : (decide (c % 4 = 1) && (decide (0 < many) && decide (many ≤ to))) with
  | false => exact ⟨r, none, hv, by rw [if_f (by rw [hc, h])]; rfl⟩
  | true =>
    rw [if_t (by rw [hc, h])]
    simp only [Bool.and_eq_true, decide_eq_true_eq] at h
    obtain ⟨_, h2, h3⟩ := h
    have hp : 0 < to := by omega
    have hrg := rg_ints to.toNat
    generalize hL : ((List.range to.toNat).map fun (i : Nat) => (i : Int)) = L at hrg
    have lL : L.length = to.toNat := by rw [← hL, List.length_map, List.length_range]
    have e1 : g__law_map_3t0 (mapRho c many to r none none) = some (.nx (mapRho c many to r (some (.list (L.map .int))) none)) := by
      have hz : 0 ≤ to ∧ to ≤ 1000000 := ⟨by omega, by omega⟩
      simp [g__law_map_3t0, hz, hrg]
    unfold g__law_map_3t
    rw [blk_nx e1]
    have hB : B62 many := ⟨by omega, by omega⟩
    obtain ⟨ys, rest, p1, p2, p3⟩ := popF_ok (j := 5) (iL := 4) (fe := fCall phi__law_mix (fCons (f2 gAdd (fVar 0) (f2 gMulD (fC (.int 7)) (fVar 5))) (fCons (fC (.int 9967)) (fCons (f2 (gI fun i j => i - j) (fVar 2) (fVar 5)) fNil)))) (by decide)
      (ds := rgD 0 many.toNat) (ρ := mapRho c many to r (some (.list (L.map .int))) none) (L := L) rfl (by rw [rgD_len, lL]; omega) (by rw [lL]; omega) (fun i d hd L' hL' => by
        have hi : i < many.toNat := by
          have := (List.getElem?_eq_some_iff.mp hd).1
          rwa [rgD_len] at this
        rw [rgD_get hi] at hd
        cases hd
        have hto : 0 < to - i := by omega
        have h1 : MulOk 7 ((0 : Int) + i) := .inl (.inl ⟨by omega, by omega⟩)
        refine ⟨(c + 7 * (0 + i)) * 48271 % 9967 % (to - (0 + i)), ?_, (mix_lt (by omega)).1, Int.lt_of_lt_of_le (mix_lt (by omega)).2 (by omega)⟩
        simp only [fCall, fCons, f2, fVar, fC, fNil, List.set_cons_succ, List.set_cons_zero, List.getElem?_cons_zero, List.getElem?_cons_succ, Option.bind_some, gAdd, gMulD, gI, if_pos h1]
        rw [mix_eq (by omega) (by omega)]
        rfl)
    refine ⟨ys, none, ⟨fun _ => by rw [p2, rgD_len]; omega, fun z => absurd hp (by omega), fun x hx => ?_⟩, ?_⟩
    · have : x ∈ L := p3.subset (List.mem_append_left _ hx)
      rw [← hL] at this
      obtain ⟨i, hi, rfl⟩ := List.mem_map.mp this
      have := List.mem_range.mp hi
      omega
    · unfold g__law_map_3t1 gSetPop
      have hw : wipeR (mapRho c many to r (some (.list (L.map .int))) none) [5] = mapRho c many to r (some (.list (L.map .int))) none := rfl
      have hi : iR1 (fVar 1) (mapRho c many to r (some (.list (L.map .int))) none) = some (rgD 0 many.toNat) := by simp [hB]
      rw [hi, Option.bind_some, if_pos (by rw [rgD_len]; omega), hw, p1]
      rfl
/-- the law's map: many numbers below to -/
theorem map_eq {c many to : Int} (hm : 0 ≤ many ∧ many ≤ 1000) (ht : 0 ≤ to ∧ to ≤ 1000) : ∃ r, Vr many to r ∧ phi__law_map [.int c, .int many, .int to] = some (.ok (mapD to r)) := by
  obtain ⟨r1, v1, e1⟩ := map_stage1 (c := c) hm ht
  obtain ⟨r2, v2, e2⟩ := map_stage2 (c := c) hm ht v1
  obtain ⟨r3, y, v3, e3⟩ := map_stage3 (c := c) hm ht v2
  refine ⟨r3, v3, ?_⟩
  have e0 : g__law_map_0 [some (.int c), some (.int many), some (.int to), none, none, none] = some (.nx (mapRho c many to [] none none)) := by simp [g__law_map_0]
  have e4 : g__law_map_4 (mapRho c many to r3 y none) = some (.ret (mapD to r3)) := by simp [g__law_map_4, mapD]
  have e : g__law_map [some (.int c), some (.int many), some (.int to), none, none, none] = some (.ret (mapD to r3)) := by
    unfold g__law_map
    rw [blk_nx e0, blk_nx e1, blk_nx e2, blk_nx e3, e4]
  exact def_ret rfl e
theorem cell_eq (ns : List Int) (k : Nat) (hl : ns.length ≤ 63) : phi__law_cell [.dict (scrK ns), .int k] = some (.ok (.int (ns.getD k 0))) := by
  have hlen : (scrK ns).length = ns.length := by unfold scrK; rw [List.length_map]
  by_cases h : k < ns.length
  · have h1 : (k : Int) < (ns.length : Int) := by omega
    have ha : atI (ns.map PyData.int) (k : Int) = some (.int ns[k]) := atI_nat (by rw [List.getElem?_map, List.getElem?_eq_getElem h]; rfl)
    have ha' : atI ((scrK ns).map (·.1)) (k : Int) = some (.int ns[k]) := by rw [scr_fst]; exact ha
    simp [phi__law_cell, g__law_cell, g__law_cell_0, g__law_cell_0t0, g__law_cell_1, hlen, h, ha']
  · simp [phi__law_cell, g__law_cell, g__law_cell_0, g__law_cell_0t0, g__law_cell_1, hlen, h, List.getElem?_eq_none (Nat.le_of_not_lt h)]
theorem sizes_eq (ns : List Int) (k : Nat) (hl : ns.length ≤ 63) : ∃ a b c d : Int, (0 ≤ a ∧ a < 7) ∧ (0 ≤ b ∧ b < 7) ∧ (0 ≤ c ∧ c < 7) ∧ (0 ≤ d ∧ d < 7) ∧ phi__law_sizes [.dict (scrK ns), .int k] = some (.ok (.list [.int a, .int b, .int c, .int d])) := by
  refine ⟨_, _, _, _, mix_lt (c := ns.getD k 0) (p := 9949) (by omega), mix_lt (c := ns.getD k 0) (p := 9941) (by omega), mix_lt (c := ns.getD k 0) (p := 9931) (by omega), mix_lt (c := ns.getD k 0) (p := 9929) (by omega), ?_⟩
  simp [phi__law_sizes, g__law_sizes, g__law_sizes_0, g__law_sizes_1, cell_eq ns k hl, mix_eq]
end Lw

namespace Lw
open PySem PySem.Spec PyProof.Rows L2 DL
theorem Vr.wf {many to : Int} {r : List Int} (h : Vr many to r) (hm : 0 ≤ many ∧ many ≤ 1000) (ht : 0 ≤ to ∧ to ≤ 1000) : Wf (to, r) where
  len := by
    by_cases z : 0 < to
    · have := h.len z; show r.length ≤ 1000; omega
    · rw [h.nil (by omega)]; exact Nat.zero_le _
  rng := ht
  lt := h.lt
theorem mp_eq {c many to : Int} (hm : 0 ≤ many ∧ many ≤ 1000) (ht : 0 ≤ to ∧ to ≤ 1000) : ∃ a : Mp, Wf a ∧ a.1 = to ∧ (a.2.length : Int) ≤ many ∧ (0 < to → (a.2.length : Int) = many) ∧ phi__law_map [.int c, .int many, .int to] = some (.ok (mpD a)) := by
  obtain ⟨r, hv, e⟩ := map_eq (c := c) hm ht
  refine ⟨(to, r), hv.wf hm ht, rfl, ?_, hv.len, e⟩
  by_cases z : 0 < to
  · have := hv.len z; show (r.length : Int) ≤ _; omega
  · rw [hv.nil (by omega)]; exact hm.1
theorem cell_at (ns : List Int) (k : Nat) (hl : ns.length ≤ 63) {i : Int} (h : i = k) : phi__law_cell [.dict (scrK ns), .int i] = some (.ok (.int (ns.getD k 0))) := by
  subst h
  exact cell_eq ns k hl
end Lw

namespace Lw
open PySem PySem.Spec PyProof.Rows L2 DL
theorem must_t : phi_must [.bool true] = some (.ok .none) := by simp [phi_must, g_must, g_must_0, g_must_0t0]
theorem must_f : phi_must [.bool false] = some (.error 2) := by simp [phi_must, g_must, g_must_0, g_must_0t0]
end Lw

namespace Lw
open PySem PySem.Spec PyProof.Rows L2 DL
theorem then_ok {a b : Mp} (ha : Wf a) (hb : Wf b) (h : a.1 = b.2.length) : phi_then [mpD a, mpD b] = some (.ok (mpD (thn a b))) := by
  obtain ⟨ta, ra⟩ := a
  obtain ⟨tb, rb⟩ := b
  have hl := ha.len
  have hlt := ha.lt
  have hbl := hb.len
  simp only at h hl hlt hbl
  refine def_ret rfl ?_
  show g_then [some (mapD ta ra), some (mapD tb rb), none] = some (.ret (mapD tb (ra.map fun x => rb.getD x.toNat 0)))
  have e0 : g_then_0 [some (mapD ta ra), some (mapD tb rb), none] = some (.nx [some (mapD ta ra), some (mapD tb rb), none]) := by
    have c : (gEq false) (.int ta) (.int (rb.length : Nat)) = some (.bool true) := by rw [gEq_int, h]; simp
    simp [g_then_0, mapD, c, must_t]
  unfold g_then
  rw [blk_nx e0]
  have e1 : fLc [2] (iSq (f2 gIx (fVar 0) (fC (.int 1)))) (hName 2) cYes (f2 gIx (f2 gIx (fVar 1) (fC (.int 1))) (fVar 2)) [some (mapD ta ra), some (mapD tb rb), none] = some (ra.map fun x => .int (rb.getD x.toNat 0)) := by
    refine lc_sq (w := PyData.int) (l := ra) (d := .tuple (ra.map .int)) (by simp [mapD]) rfl (by omega) fun x hx => ?_
    have := hlt x hx
    have e := atI_ints (r := rb) (x := x) ⟨this.1, by omega⟩
    simp [mapD, e]
  unfold g_then_1 gRet fTup
  have e2 := fFr_of e1
  simp only [fCons, fNil, fBi, e2, Option.bind_some]
  have hz : ra.length ≤ 1000000 := by omega
  simp [mapD, hz, Function.comp_def]
theorem then_no {a b : Mp} (hb : b.2.length ≤ 1000) (h : a.1 ≠ b.2.length) : phi_then [mpD a, mpD b] = some (.error 2) := by
  obtain ⟨ta, ra⟩ := a
  obtain ⟨tb, rb⟩ := b
  simp only at h hb
  have e0 : g_then_0 [some (mapD ta ra), some (mapD tb rb), none] = some (.exc 2 [some (mapD ta ra), some (mapD tb rb), none]) := by
    have c : (gEq false) (.int ta) (.int (rb.length : Nat)) = some (.bool false) := by rw [gEq_int]; simp [h]
    simp [g_then_0, mapD, c, must_f]
  have e : g_then [some (mapD ta ra), some (mapD tb rb), none] = some (.exc 2 [some (mapD ta ra), some (mapD tb rb), none]) := by
    unfold g_then
    rw [blk_exc e0]
  exact def_exc rfl e
end Lw

namespace Lw
open PySem PySem.Spec PyProof.Rows L2 DL
theorem parts_eq {a : Mp} (h : a.2.length ≤ 1000) : phi_parts_all [mpD a] = some (.ok (.bool (decide ((sset a.2).length = a.2.length)))) := by
  obtain ⟨ta, ra⟩ := a
  have h' : ra.length ≤ 1000 := h
  have e := gLenSet_ints h'
  have c : gEq false (.int ((sset ra).length : Nat)) (.int (ra.length : Nat)) = some (.bool (decide ((sset ra).length = ra.length))) := by
    rw [gEq_int]
    by_cases z : (sset ra).length = ra.length
    · simp [z]
    · have z' : ¬ (((sset ra).length : Int) = (ra.length : Int)) := by omega
      simp [z, z']
  simp [phi_parts_all, g_parts_all, g_parts_all_0, mpD, mapD, e, c]
end Lw

namespace Lw
open PySem PySem.Spec PyProof.Rows L2 DL
theorem comes_eq {a : Mp} (h : a.2.length ≤ 1000) : phi_comes_to_all [mpD a] = some (.ok (.bool (decide (((sset a.2).length : Int) = a.1)))) := by
  obtain ⟨ta, ra⟩ := a
  have h' : ra.length ≤ 1000 := h
  have e := gLenSet_ints h'
  have c : gEq false (.int ((sset ra).length : Nat)) (.int ta) = some (.bool (decide (((sset ra).length : Int) = ta))) := by
    rw [gEq_int, Bool.false_xor]
  simp [phi_comes_to_all, g_comes_to_all, g_comes_to_all_0, mpD, mapD, e, c]
end Lw

namespace Lw
open PySem PySem.Spec PyProof.Rows L2 DL
/-! ### the numbers -/
theorem for_rgN {h' : Rho → Option (List PyData)} {j : Nat} {b : Gn} {ρ : Rho} {n : Nat} (P : Nat → Rho → Prop) (h1 : h' ρ = some (rgD 0 n)) (h : ∀ i, i < n → ∀ ρ, P i ρ → ∃ ρ', b (ρ.set j (some (.int i))) = some (.nx ρ') ∧ P (i + 1) ρ') (h0 : P 0 ρ) : ∃ ρ', gFor h' (hName j) b ρ = some (.nx ρ') ∧ P n ρ' := by
  rcases for_rg (lo := 0) P (fun _ => False) h1 (fun i hi ρ hp => .inl (by rw [Int.zero_add]; exact h i hi ρ hp)) h0 with h | ⟨_, _, z⟩
  · exact h
  · exact z.elim
theorem power_eq {b : Int} {n : Nat} (hb : -(2 ^ 64) < b ∧ b < 2 ^ 64) (hn : n ≤ 1000000) : phi_power [.int b, .int n] = some (.ok (.int (b ^ n))) := by
  have hB : B62 (n : Int) := ⟨by omega, by omega⟩
  have hi : iR1 (fVar 1) [some (.int b), some (.int n), some (.int 1), none] = some (rgD 0 n) := by simp [hB]
  obtain ⟨ρ', e, o, rfl⟩ := for_rgN (j := 3) (b := g_power_1b0) (fun i ρ => ∃ o, ρ = [some (.int b), some (.int n), some (.int (b ^ i)), o]) hi (fun i hi ρ ⟨o, hρ⟩ => by
    subst hρ
    have hM : MulOk (b ^ i) b := .inl (.inr hb)
    refine ⟨[some (.int b), some (.int n), some (.int (b ^ (i + 1))), some (.int i)], ?_, _, rfl⟩
    simp [g_power_1b0, hM, Int.pow_succ]) ⟨none, by simp⟩
  have e0 : g_power_0 [some (.int b), some (.int n), none, none] = some (.nx [some (.int b), some (.int n), some (.int 1), none]) := rfl
  refine def_ret rfl (?_ : g_power [some (.int b), some (.int n), none, none] = _)
  unfold g_power
  rw [blk_nx e0, show g_power_1 = gFor (iR1 (fVar 1)) (hName 3) g_power_1b0 from rfl, blk_nx e]
  rfl
def ch (n : Int) : Nat → Int
  | 0 => 1
  | k + 1 => ch n k * (n - k) / (k + 1)
theorem choices_eq {n : Int} {k : Nat} (hn : 0 ≤ n ∧ n ≤ 1000) (hk : k ≤ 1000) : phi_choices [.int n, .int k] = some (.ok (.int (ch n k))) := by
  have hB : B62 (k : Int) := ⟨by omega, by omega⟩
  have hi : iR1 (fVar 1) [some (.int n), some (.int k), some (.int 1), none] = some (rgD 0 k) := by simp [hB]
  obtain ⟨ρ', e, o, rfl⟩ := for_rgN (j := 3) (b := g_choices_1b0) (fun i ρ => ∃ o, ρ = [some (.int n), some (.int k), some (.int (ch n i)), o]) hi (fun i hi ρ ⟨o, hρ⟩ => by
    subst hρ
    have hM : MulOk (ch n i) (n - i) := .inl (.inr ⟨by omega, by omega⟩)
    have hD : CDiv (ch n i * (n - i)) ((i : Int) + 1) := ⟨by omega, by omega⟩
    refine ⟨[some (.int n), some (.int k), some (.int (ch n (i + 1))), some (.int i)], ?_, _, rfl⟩
    simp [g_choices_1b0, hM, hD, ch]) ⟨none, rfl⟩
  have e0 : g_choices_0 [some (.int n), some (.int k), none, none] = some (.nx [some (.int n), some (.int k), some (.int 1), none]) := rfl
  refine def_ret rfl (?_ : g_choices [some (.int n), some (.int k), none, none] = _)
  unfold g_choices
  rw [blk_nx e0, show g_choices_1 = gFor (iR1 (fVar 1)) (hName 3) g_choices_1b0 from rfl, blk_nx e]
  rfl
theorem lchoices_eq {n : Int} {k : Nat} (hn : 0 ≤ n ∧ n ≤ 1000) (hk : k ≤ 1000) : phi__law_choices [.int n, .int k] = some (.ok (.int (ch n k))) := by
  have hB : B62 (k : Int) := ⟨by omega, by omega⟩
  have hi : iR1 (fVar 1) [some (.int n), some (.int k), some (.int 1), none] = some (rgD 0 k) := by simp [hB]
  obtain ⟨ρ', e, o, rfl⟩ := for_rgN (j := 3) (b := g__law_choices_1b0) (fun i ρ => ∃ o, ρ = [some (.int n), some (.int k), some (.int (ch n i)), o]) hi (fun i hi ρ ⟨o, hρ⟩ => by
    subst hρ
    have hM : MulOk (ch n i) (n - i) := .inl (.inr ⟨by omega, by omega⟩)
    have hD : CDiv (ch n i * (n - i)) ((i : Int) + 1) := ⟨by omega, by omega⟩
    refine ⟨[some (.int n), some (.int k), some (.int (ch n (i + 1))), some (.int i)], ?_, _, rfl⟩
    simp [g__law_choices_1b0, hM, hD, ch]) ⟨none, rfl⟩
  have e0 : g__law_choices_0 [some (.int n), some (.int k), none, none] = some (.nx [some (.int n), some (.int k), some (.int 1), none]) := rfl
  refine def_ret rfl (?_ : g__law_choices [some (.int n), some (.int k), none, none] = _)
  unfold g__law_choices
  rw [blk_nx e0, show g__law_choices_1 = gFor (iR1 (fVar 1)) (hName 3) g__law_choices_1b0 from rfl, blk_nx e]
  rfl
def fal (to : Int) : Nat → Int
  | 0 => 1
  | k + 1 => fal to k * (if to - k > 0 then to - k else 0)
def sgn (k : Nat) : Int := 1 - 2 * ((k : Int) % 2)
theorem sum_ints (l : List Int) : gSum [.list (l.map .int)] = some (.int l.sum) := by
  unfold gSum
  simp only [intsD_map]
  rfl
def srj (many to : Nat) : Int := ((List.range (to + 1)).map fun k => ((to : Int) - k) ^ many * ch to k * sgn k).sum
theorem tl_any : TL.tl (Str.ofString "any") = [97, 110, 121] := by decide +kernel
theorem tl_parts : TL.tl (Str.ofString "parts") = [112, 97, 114, 116, 115] := by decide +kernel
theorem tl_all : TL.tl (Str.ofString "all") = [97, 108, 108] := by decide +kernel
theorem eq_kinds : ∀ x ∈ [Str.ofString "any", Str.ofString "parts", Str.ofString "all"], ∀ y ∈ [Str.ofString "any", Str.ofString "parts", Str.ofString "all"], gEq false (.str x) (.str y) = some (.bool (decide (x = y))) := by
  have lay : ∀ x ∈ [Str.ofString "any", Str.ofString "parts", Str.ofString "all"], PyData.canLay0 (.str x) = true := by decide +kernel
  intro x hx y hy
  rw [gEq_str false (lay x hx) (lay y hy), Bool.false_xor]
  congr 2
theorem ne1 : Str.ofString "parts" ≠ Str.ofString "any" := by decide +kernel
theorem ne2 : Str.ofString "all" ≠ Str.ofString "any" := by decide +kernel
theorem ne3 : Str.ofString "all" ≠ Str.ofString "parts" := by decide +kernel
theorem k_any : gEq false (.str (Str.ofString "any")) (.str (Str.ofString "any")) = some (.bool true) := by rw [eq_kinds _ (by simp) _ (by simp)]; simp
theorem k_pa : gEq false (.str (Str.ofString "parts")) (.str (Str.ofString "any")) = some (.bool false) := by rw [eq_kinds _ (by simp) _ (by simp)]; simp [ne1]
theorem k_pp : gEq false (.str (Str.ofString "parts")) (.str (Str.ofString "parts")) = some (.bool true) := by rw [eq_kinds _ (by simp) _ (by simp)]; simp
theorem k_aa : gEq false (.str (Str.ofString "all")) (.str (Str.ofString "any")) = some (.bool false) := by rw [eq_kinds _ (by simp) _ (by simp)]; simp [ne2]
theorem k_ap : gEq false (.str (Str.ofString "all")) (.str (Str.ofString "parts")) = some (.bool false) := by rw [eq_kinds _ (by simp) _ (by simp)]; simp [ne3]
theorem count_any {many to : Nat} (hm : many ≤ 1000) (ht : to ≤ 1000) : phi_count [.int many, .int to, .str (Str.ofString "any")] = some (.ok (.int ((to : Int) ^ many))) := by
  have p := power_eq (b := to) (n := many) ⟨by omega, by omega⟩ (by omega)
  have e : g_count [some (.int many), some (.int to), some (.str (Str.ofString "any")), none, none] = some (.ret (.int ((to : Int) ^ many))) := by
    unfold g_count
    refine blk_ret ?_
    unfold g_count_0
    rw [if_t (by simp [k_any])]
    simp [g_count_0t0, p]
  exact def_ret rfl e
theorem count_parts {many to : Nat} (hm : many ≤ 1000) (ht : to ≤ 1000) : phi_count [.int many, .int to, .str (Str.ofString "parts")] = some (.ok (.int (fal to many))) := by
  have hB : B62 (many : Int) := ⟨by omega, by omega⟩
  have hi : iR1 (fVar 0) [some (.int many), some (.int to), some (.str (Str.ofString "parts")), some (.int 1), none] = some (rgD 0 many) := by simp [hB]
  obtain ⟨ρ', e, o, rfl⟩ := for_rgN (j := 4) (b := g_count_1t1b0) (fun i ρ => ∃ o, ρ = [some (.int many), some (.int to), some (.str (Str.ofString "parts")), some (.int (fal to i)), o]) hi (fun i hi ρ ⟨o, hρ⟩ => by
    subst hρ
    have hM : MulOk (fal to i) (if (to : Int) - i > 0 then (to : Int) - i else 0) := .inl (.inr (by split <;> constructor <;> omega))
    refine ⟨[some (.int many), some (.int to), some (.str (Str.ofString "parts")), some (.int (fal to (i + 1))), some (.int i)], ?_, _, rfl⟩
    simp only [g_count_1t1b0, gAsg, f2, fBi, fCons, fNil, fVar, fC, hName, List.set_cons_succ, List.set_cons_zero, List.getElem?_cons_succ, List.getElem?_cons_zero, Option.bind_some, gI, gMax2, gMulD, if_pos hM, fal]) ⟨none, rfl⟩
  have e : g_count [some (.int many), some (.int to), some (.str (Str.ofString "parts")), none, none] = some (.ret (.int (fal to many))) := by
    unfold g_count
    have e0 : g_count_0 [some (.int many), some (.int to), some (.str (Str.ofString "parts")), none, none] = some (.nx [some (.int many), some (.int to), some (.str (Str.ofString "parts")), none, none]) := by
      unfold g_count_0
      rw [if_f (by simp [k_pa])]
      rfl
    rw [blk_nx e0]
    refine blk_ret ?_
    unfold g_count_1
    rw [if_t (by simp [k_pp])]
    unfold g_count_1t
    have e1 : g_count_1t0 [some (.int many), some (.int to), some (.str (Str.ofString "parts")), none, none] = some (.nx [some (.int many), some (.int to), some (.str (Str.ofString "parts")), some (.int 1), none]) := rfl
    rw [blk_nx e1, show g_count_1t1 = gFor (iR1 (fVar 0)) (hName 4) g_count_1t1b0 from rfl, blk_nx e]
    rfl
  exact def_ret rfl e
theorem ch_small : ∀ n : Fin 32, ∀ k : Fin 33, -(2 ^ 64) < ch (n.val : Int) k.val ∧ ch (n.val : Int) k.val < 2 ^ 64 := by decide +kernel
theorem ch_bd {n k : Nat} (hn : n ≤ 31) (hk : k ≤ 32) : -(2 ^ 64) < ch (n : Int) k ∧ ch (n : Int) k < 2 ^ 64 := ch_small ⟨n, by omega⟩ ⟨k, by omega⟩
theorem count_all {many to : Nat} (hm : many ≤ 1000) (ht : to ≤ 31) : phi_count [.int many, .int to, .str (Str.ofString "all")] = some (.ok (.int (srj many to))) := by
  have e : g_count [some (.int many), some (.int to), some (.str (Str.ofString "all")), none, none] = some (.ret (.int (srj many to))) := by
    unfold g_count
    have e0 : g_count_0 [some (.int many), some (.int to), some (.str (Str.ofString "all")), none, none] = some (.nx [some (.int many), some (.int to), some (.str (Str.ofString "all")), none, none]) := by
      unfold g_count_0
      rw [if_f (by simp [k_aa])]
      rfl
    have e1 : g_count_1 [some (.int many), some (.int to), some (.str (Str.ofString "all")), none, none] = some (.nx [some (.int many), some (.int to), some (.str (Str.ofString "all")), none, none]) := by
      unfold g_count_1
      rw [if_f (by simp [k_ap])]
      rfl
    rw [blk_nx e0, blk_nx e1]
    have q := lc_rgI (vs := [4]) (j := 4) (fn := f2 gAdd (fVar 1) (fC (.int 1))) (f := f2 gMulD (f2 gMulD (fCall phi_power (fCons (f2 (gI fun i j => i - j) (fVar 1) (fVar 4)) (fCons (fVar 0) fNil))) (fCall phi_choices (fCons (fVar 1) (fCons (fVar 4) fNil)))) (f2 (gI fun i j => i - j) (fC (.int 1)) (f2 gMulD (fC (.int 2)) (f2 (gIc (fun _ j => 0 < j) fun i j => i % j) (fVar 4) (fC (.int 2))))))
      (ρ := [some (.int many), some (.int to), some (.str (Str.ofString "all")), none, none]) (n := (to : Int) + 1) (g := fun k => ((to : Int) - k) ^ many * ch to k * sgn k) (by simp) (by omega) (fun i hi => by
        have p := power_eq (b := (to : Int) - i) (n := many) ⟨by omega, by omega⟩ (by omega)
        have c := choices_eq (n := to) (k := i) ⟨by omega, by omega⟩ (by omega)
        have b := ch_bd (n := to) (k := i) ht (by omega)
        have hM1 : MulOk (((to : Int) - i) ^ many) (ch to i) := .inl (.inr b)
        have hM2 : MulOk 2 ((i : Int) % 2) := .inl (.inl ⟨by omega, by omega⟩)
        have hM3 : MulOk (((to : Int) - i) ^ many * ch to i) (1 - 2 * ((i : Int) % 2)) := .inl (.inr ⟨by omega, by omega⟩)
        simp [p, c, hM1, hM2, hM3, sgn])
    unfold g_count_2 gRet
    rw [bi1 (fFr_of q)]
    rw [sum_ints, show ((to : Int) + 1).toNat = to + 1 by omega]
    rfl
  exact def_ret rfl e
def still (n : Nat) : Int := ((List.range (n + 1)).map fun k => ch n k * (k : Int) ^ (n - k)).sum
theorem count_still_eq {n : Nat} (hn : n ≤ 31) : phi_count_still [.int n] = some (.ok (.int (still n))) := by
  have q := lc_rgI (vs := [1]) (j := 1) (fn := f2 gAdd (fVar 0) (fC (.int 1))) (f := f2 gMulD (fCall phi_choices (fCons (fVar 0) (fCons (fVar 1) fNil))) (fCall phi_power (fCons (fVar 1) (fCons (f2 (gI fun i j => i - j) (fVar 0) (fVar 1)) fNil))))
    (ρ := [some (.int n), none]) (n := (n : Int) + 1) (g := fun k => ch n k * (k : Int) ^ (n - k)) (by simp) (by omega) (fun i hi => by
      have c := choices_eq (n := n) (k := i) ⟨by omega, by omega⟩ (by omega)
      have p := power_eq (b := i) (n := n - i) ⟨by omega, by omega⟩ (by omega)
      have en : ((n - i : Nat) : Int) = (n : Int) - i := by omega
      rw [en] at p
      have hM : MulOk (ch n i) ((i : Int) ^ (n - i)) := .inl (.inl (ch_bd (n := n) (k := i) hn (by omega)))
      simp [c, p, hM])
  have e : g_count_still [some (.int n), none] = some (.ret (.int (still n))) := by
    unfold g_count_still g_count_still_0 gRet
    rw [bi1 (fFr_of q)]
    rw [sum_ints, show ((n : Int) + 1).toNat = n + 1 by omega]
    rfl
  exact def_ret rfl e
end Lw

namespace Lw
open PySem PySem.Spec PyProof.Rows L2 DL
/-! ### all the maps -/
theorem for_cons_nx {tg : PyData → Rho → Option Rho} {b : Gn} {x : PyData} {ds : List PyData} {ρ ρ1 ρ' : Rho} (h1 : tg x ρ = some ρ1) (h2 : b ρ1 = some (.nx ρ')) : forF tg b (x :: ds) ρ = forF tg b ds ρ' := by
  conv => lhs; unfold forF
  rw [h1, Option.bind_some, h2]
  rfl
theorem f2_of {g : PyData → PyData → Option PyData} {fa fb : Fn} {ρ : Rho} {x y : PyData} (ha : fa ρ = some x) (hb : fb ρ = some y) : f2 g fa fb ρ = g x y := by
  unfold f2
  rw [ha, Option.bind_some, hb, Option.bind_some]
def ext (m : Nat) (r : List Int) : List (List Int) := (List.range m).map fun (i : Nat) => r ++ [(i : Int)]
def rowsN (m : Nat) : Nat → List (List Int)
  | 0 => [[]]
  | n + 1 => (rowsN m n).flatMap (ext m)
theorem ext_len (m : Nat) (r : List Int) : (ext m r).length = m := by unfold ext; rw [List.length_map, List.length_range]
theorem flat_len {α β : Type} {f : α → List β} {m : Nat} (h : ∀ x, (f x).length = m) : ∀ l : List α, (l.flatMap f).length = l.length * m
  | [] => by simp
  | x :: l => by rw [List.flatMap_cons, List.length_append, h, flat_len h l, List.length_cons, Nat.succ_mul, Nat.add_comm]
theorem rowsN_len (m : Nat) : ∀ n, (rowsN m n).length = m ^ n
  | 0 => rfl
  | n + 1 => by
    show ((rowsN m n).flatMap (ext m)).length = _
    rw [flat_len (ext_len m), rowsN_len m n, Nat.pow_succ]
theorem rowsN_mem (m : Nat) : ∀ n, ∀ r ∈ rowsN m n, r.length = n ∧ ∀ x ∈ r, 0 ≤ x ∧ x < m
  | 0, r, h => by
    rw [show rowsN m 0 = [[]] from rfl, List.mem_singleton] at h
    subst h
    exact ⟨rfl, fun x hx => by cases hx⟩
  | n + 1, r, h => by
    obtain ⟨q, hq, hr⟩ := List.mem_flatMap.mp (show r ∈ (rowsN m n).flatMap (ext m) from h)
    obtain ⟨i, hi, rfl⟩ := List.mem_map.mp hr
    obtain ⟨h1, h2⟩ := rowsN_mem m n q hq
    have hi := List.mem_range.mp hi
    refine ⟨by rw [List.length_append, h1]; rfl, fun x hx => ?_⟩
    rcases List.mem_append.mp hx with hx | hx
    · exact h2 x hx
    · rw [List.mem_singleton] at hx
      omega
theorem small_pow {m n : Nat} (hm : m ≤ 4) (hn : n ≤ 4) : m ^ n ≤ 256 :=
  Nat.le_trans (Nat.pow_le_pow_left hm n) (Nat.pow_le_pow_right (n := 4) (by decide) hn)
abbrev rowD (r : List Int) : PyData := .tuple (r.map .int)
abbrev amRho (a t l o3 o4 o5 o6 : Option PyData) : Rho := [a, t, l, o3, o4, o5, o6]
theorem am_inner {a l o3 o6 : Option PyData} {m : Nat} (hm : m ≤ 4) : ∀ {rows : List (List Int)} {acc : List PyData} {o5 : Option PyData}, acc.length + rows.length * m ≤ 10000 → (∀ r ∈ rows, r.length ≤ 1000) →
    ∃ o5', forF (hName 5) g_all_maps_1b1b0 (rows.map rowD) (amRho a (some (.int m)) l o3 (some (.list acc)) o5 o6) = some (.nx (amRho a (some (.int m)) l o3 (some (.list (acc ++ (rows.flatMap (ext m)).map rowD))) o5' o6))
  | [], acc, o5, _, _ => ⟨o5, by
    show some (Out.nx _) = _
    simp⟩
  | r :: rows, acc, o5, h, hr => by
    rw [List.length_cons, Nat.succ_mul] at h
    have hl := hr r List.mem_cons_self
    have q := lc_rg (vs := [6]) (j := 6) (fn := fVar 1) (f := f2 gAdd (fVar 5) (fTup (fCons (fVar 6) fNil))) (ρ := amRho a (some (.int m)) l o3 (some (.list acc)) (some (rowD r)) o6) (n := m) (g := fun i => rowD (r ++ [(i : Int)])) rfl (by omega) (fun i hi => by
      have c : (r.map PyData.int).length + [PyData.int (i : Int)].length ≤ 1000000 := by
        rw [List.length_map, List.length_singleton]
        omega
      have e : gAdd (rowD r) (.tuple [.int i]) = some (rowD (r ++ [(i : Int)])) := by
        unfold gAdd
        simp only []
        rw [if_pos c]
        simp [rowD]
      refine (f2_of rfl ?_).trans e
      rfl)
    rw [Int.toNat_natCast] at q
    have el : ((List.range m).map fun (i : Nat) => rowD (r ++ [(i : Int)])) = (ext m r).map rowD := by
      unfold ext
      rw [List.map_map]
      rfl
    rw [el] at q
    have c2 : acc.length + ((ext m r).map rowD).length ≤ 1000000 := by
      rw [List.length_map, ext_len]
      omega
    have e : g_all_maps_1b1b0 (amRho a (some (.int m)) l o3 (some (.list acc)) (some (rowD r)) o6) = some (.nx (amRho a (some (.int m)) l o3 (some (.list (acc ++ (ext m r).map rowD))) (some (rowD r)) o6)) := by
      unfold g_all_maps_1b1b0 gExt
      rw [show lstAt 4 (amRho a (some (.int m)) l o3 (some (.list acc)) (some (rowD r)) o6) = some acc from rfl, Option.bind_some, q, Option.bind_some, if_pos c2]
      rfl
    obtain ⟨o5', e2⟩ := am_inner (a := a) (l := l) (o3 := o3) (o6 := o6) hm (rows := rows) (acc := acc ++ (ext m r).map rowD) (o5 := some (rowD r)) (by
      rw [List.length_append, List.length_map, ext_len]
      omega) (fun x hx => hr x (List.mem_cons_of_mem _ hx))
    refine ⟨o5', ?_⟩
    rw [List.map_cons, for_cons_nx rfl e, e2, List.flatMap_cons, List.map_append, List.append_assoc]
theorem all_maps_eq {many to : Nat} (hm : many ≤ 4) (ht : to ≤ 4) : phi_all_maps [.int many, .int to] = some (.ok (.tuple ((rowsN to many).map fun r => mpD (to, r)))) := by
  have hB : B62 (many : Int) := ⟨by omega, by omega⟩
  have e0 : g_all_maps_0 (amRho (some (.int many)) (some (.int to)) none none none none none) = some (.nx (amRho (some (.int many)) (some (.int to)) (some (.list ((rowsN to 0).map rowD))) none none none none)) := by
    simp [g_all_maps_0, rowsN]
  have hi : iR1 (fVar 0) (amRho (some (.int many)) (some (.int to)) (some (.list ((rowsN to 0).map rowD))) none none none none) = some (rgD 0 many) := by simp [hB]
  obtain ⟨ρ', e1, o3, o5, rfl⟩ := for_rgN (j := 3) (b := g_all_maps_1b) (fun i ρ => ∃ o3 o5, ρ = amRho (some (.int many)) (some (.int to)) (some (.list ((rowsN to i).map rowD))) o3 none o5 none) hi (fun i hi ρ ⟨o3, o5, hρ⟩ => by
    subst hρ
    have h1 := rowsN_len to i
    have h2 := small_pow ht (show i + 1 ≤ 4 by omega)
    have s0 : g_all_maps_1b0 (amRho (some (.int many)) (some (.int to)) (some (.list ((rowsN to i).map rowD))) (some (.int i)) none o5 none) = some (.nx (amRho (some (.int many)) (some (.int to)) (some (.list ((rowsN to i).map rowD))) (some (.int i)) (some (.list [])) o5 none)) := rfl
    obtain ⟨o5', s1⟩ := am_inner (a := some (.int many)) (l := some (.list ((rowsN to i).map rowD))) (o3 := some (.int i)) (o6 := none) ht (rows := rowsN to i) (acc := []) (o5 := o5) (by
      rw [h1, ← Nat.pow_succ]
      show 0 + _ ≤ _
      have : to ^ (i + 1) ≤ 256 := h2
      rw [Nat.succ_eq_add_one]
      omega) (fun r hr => by have := (rowsN_mem to i r hr).1; omega)
    have s1' : g_all_maps_1b1 (amRho (some (.int many)) (some (.int to)) (some (.list ((rowsN to i).map rowD))) (some (.int i)) (some (.list [])) o5 none) = some (.nx (amRho (some (.int many)) (some (.int to)) (some (.list ((rowsN to i).map rowD))) (some (.int i)) (some (.list ((rowsN to (i + 1)).map rowD))) o5' none)) := s1
    refine ⟨amRho (some (.int many)) (some (.int to)) (some (.list ((rowsN to (i + 1)).map rowD))) (some (.int i)) none o5' none, ?_, _, _, rfl⟩
    show g_all_maps_1b (amRho (some (.int many)) (some (.int to)) (some (.list ((rowsN to i).map rowD))) (some (.int i)) none o5 none) = _
    unfold g_all_maps_1b
    rw [blk_nx s0, blk_nx s1']
    rfl) ⟨none, none, rfl⟩
  refine def_ret rfl (?_ : g_all_maps (amRho (some (.int many)) (some (.int to)) none none none none none) = _)
  unfold g_all_maps
  rw [blk_nx e0, show g_all_maps_1 = gFor (iR1 (fVar 0)) (hName 3) g_all_maps_1b from rfl, blk_nx e1]
  have hl := rowsN_len to many
  have hs := small_pow ht hm
  have q := lc_sq (vs := [5]) (j := 5) (fs := fVar 2) (f := fTup (fCons (fVar 1) (fCons (fVar 5) fNil))) (ρ := amRho (some (.int many)) (some (.int to)) (some (.list ((rowsN to many).map rowD))) o3 none o5 none) (w := rowD) (l := rowsN to many) (d := .list ((rowsN to many).map rowD)) (g := fun r => mpD (to, r)) rfl rfl (by omega) (fun r hr => rfl)
  unfold g_all_maps_2 gRet
  rw [bi1 (fFr_of q)]
  rfl
end Lw

namespace Lw
open PySem PySem.Spec PyProof.Rows L2 DL
/-! ### what is seen by reckoning -/
def risB : List (List Int) → Bool
  | a :: b :: r => decide (a < b) && risB (b :: r)
  | _ => true
theorem risB_lt : ∀ {l : List (List Int)}, risB l = true → l.Pairwise (· < ·)
  | [], _ => List.Pairwise.nil
  | [_], _ => List.pairwise_singleton _ _
  | a :: b :: r, h => by
    unfold risB at h
    rw [Bool.and_eq_true, decide_eq_true_iff] at h
    have ih := risB_lt h.2
    refine List.pairwise_cons.mpr ⟨fun x hx => ?_, ih⟩
    rcases List.mem_cons.mp hx with rfl | hx
    · exact h.1
    · exact List.lt_trans h.1 ((List.pairwise_cons.mp ih).1 x hx)
def nP (rows : List (List Int)) : Nat := (rows.filter fun r => decide ((sset r).length = r.length)).length
def nA (to : Nat) (rows : List (List Int)) : Nat := (rows.filter fun r => decide (((sset r).length : Int) = (to : Int))).length
def chk (many to : Nat) : Bool :=
  setTakes (rowsN to many) && (risB (rowsN to many) && ((decide ((rowsN to many).length ≤ 1) || decide (1 ≤ many)) && (decide (fal to many = (nP (rowsN to many) : Int)) && decide (srj many to = (nA to (rowsN to many) : Int)))))
theorem chk_a : ∀ many : Fin 4, ∀ to : Fin 5, chk many.val to.val = true := by decide +kernel
theorem chk_b : ∀ to : Fin 3, chk 4 to.val = true := by decide +kernel
theorem chk_c : chk 4 3 = true := by decide +kernel
theorem chk_d : chk 4 4 = true := by decide +kernel
theorem chk_ok {many to : Nat} (hm : many ≤ 4) (ht : to ≤ 4) : chk many to = true := by
  by_cases h : many ≤ 3
  · exact chk_a ⟨many, by omega⟩ ⟨to, by omega⟩
  · have : many = 4 := by omega
    subst this
    by_cases h2 : to ≤ 2
    · exact chk_b ⟨to, by omega⟩
    · have : to = 3 ∨ to = 4 := by omega
      rcases this with rfl | rfl
      · exact chk_c
      · exact chk_d
def nS (n : Nat) : Nat := ((rowsN n n).filter fun r => decide (thn ((n : Int), r) ((n : Int), r) = ((n : Int), r))).length
theorem still_ok : ∀ n : Fin 5, 1 ≤ n.val → still n.val = (nS n.val : Int) := by decide +kernel
def sumOk (many : Nat) : Bool := (List.range 31).all fun to => decide (((List.range (to + 1)).map fun k => ch (to : Int) k * srj many k).sum = (to : Int) ^ many)
theorem sum_ok : ∀ many : Fin 30, sumOk many.val = true := by decide +kernel
end Lw

namespace Lw
open PySem PySem.Spec PyProof.Rows L2 DL
/-! ### done twice -/
theorem inner_okB {a : Mp} (h : a.1 = (a.2.length : Nat)) (hp : 0 < a.1) : phi_must_be_inner [mpD a] = some (.ok .none) := by
  have e : g_must_be_inner [some (mpD a)] = some (.nx [some (mpD a)]) := by
    have hp' : 0 < a.2.length := by omega
    simp [g_must_be_inner, g_must_be_inner_0, h, hp', must_t]
  exact def_nx rfl e
theorem bit1 : Builtin.bitAnd 1 1 = 1 := by decide +kernel
theorem bit0 : Builtin.bitAnd 2 1 = 0 := by decide +kernel
theorem bits2 : Builtin.Int.intBits 2 = 2 := by decide +kernel
theorem often_two {a : Mp} (w : Wf a) (h : a.1 = (a.2.length : Nat)) (hp : 0 < a.1) : phi_often [mpD a, .int 2] = some (.ok (mpD (thn a a))) := by
  have i0 := inner_okB h hp
  have hw := w.rng
  have e0 : g_often_0 [some (mpD a), some (.int 2), none, none] = some (.nx [some (mpD a), some (.int 2), none, none]) := by
    simp [g_often_0, i0]
  have sm : phi_same [.int a.1] = some (.ok (mpD (a.1, idr a.1.toNat))) := by
    have hz : 0 ≤ a.1 ∧ a.1 ≤ 1000000 := ⟨by omega, by omega⟩
    have e : g_same [some (.int a.1)] = some (.ret (.tuple [.int a.1, .tuple ((idr a.1.toNat).map .int)])) := by
      simp [g_same, g_same_0, rgD_idr, hz]
    exact def_ret rfl e
  have hS : Wf (a.1, idr a.1.toNat) := Wf.same hw
  have e1 : g_often_1 [some (mpD a), some (.int 2), none, none] = some (.nx [some (mpD a), some (.int 2), some (mpD (a.1, idr a.1.toNat)), none]) := by
    generalize (idr a.1.toNat) = Z at *
    simp [g_often_1, sm]
  have t1 := then_ok hS hS (by show a.1 = _; rw [idr_len]; omega)
  rw [show thn (a.1, idr a.1.toNat) (a.1, idr a.1.toNat) = (a.1, idr a.1.toNat) from thn_same_r hS] at t1
  have t2 := then_ok hS w h
  rw [show thn (a.1, idr a.1.toNat) a = a by
    have := thn_same_l a
    rw [show a.1.toNat = a.2.length by omega, h]
    exact this] at t2
  have t3 := then_ok w w h
  generalize (a.1, idr a.1.toNat) = S at *
  have s1 : g_often_2b [some (mpD a), some (.int 2), some (mpD S), some (.int 1)] = some (.nx [some (mpD a), some (.int 2), some (mpD a), some (.int 1)]) := by
    have hd : (2 : Int) / 2 ^ (1 : Int).toNat = 1 := by decide
    simp only [g_often_2b, g_often_2b0, g_often_2b1, g_often_2b1t0, gBlk, gSetQ, qCall, fCons, fNil, fVar, List.getElem?_cons_zero, List.getElem?_cons_succ, Option.bind_some, t1, t2, List.set_cons_succ, List.set_cons_zero, gIf, fB, f2, gIc, gI, if_pos (show (0 : Int) ≤ 1 by decide), hd, fC, bit1, gEq_int]
    simp
  have s2 : g_often_2b [some (mpD a), some (.int 2), some (mpD a), some (.int 0)] = some (.nx [some (mpD a), some (.int 2), some (mpD (thn a a)), some (.int 0)]) := by
    have hd : (2 : Int) / 2 ^ (0 : Int).toNat = 2 := by decide
    simp only [g_often_2b, g_often_2b0, g_often_2b1, g_often_2b1t0, gBlk, gSetQ, qCall, fCons, fNil, fVar, List.getElem?_cons_zero, List.getElem?_cons_succ, Option.bind_some, t3, List.set_cons_succ, List.set_cons_zero, gIf, fB, f2, gIc, gI, if_pos (show (0 : Int) ≤ 0 by decide), hd, fC, bit0, gEq_int]
    simp
  have e2 : g_often_2 [some (mpD a), some (.int 2), some (mpD S), none] = some (.nx [some (mpD a), some (.int 2), some (mpD (thn a a)), some (.int 0)]) := by
    unfold g_often_2 gFor
    have hB : B62 2 := ⟨by omega, by omega⟩
    have hi : iRv (f1 gBits (fVar 1)) [some (mpD a), some (.int 2), some (mpD S), none] = some [.int 1, .int 0] := by
      simp [bits2, hB, rvD, List.range_succ]
      decide
    rw [hi, Option.bind_some, for_cons_nx rfl s1, for_cons_nx rfl s2]
    rfl
  refine def_ret rfl (?_ : g_often [some (mpD a), some (.int 2), none, none] = _)
  unfold g_often
  rw [blk_nx e0, blk_nx e1, blk_nx e2]
  rfl
/-! ### the small ones -/
abbrev smRho (a t o2 o3 o4 o5 o6 o7 o8 : Option PyData) : Rho := [a, t, o2, o3, o4, o5, o6, o7, o8]
theorem rows_wf {m n : Nat} (hm : m ≤ 4) (hn : n ≤ 4) {r : List Int} (h : r ∈ rowsN m n) : Wf ((m : Int), r) where
  len := by have := (rowsN_mem m n r h).1; show r.length ≤ 1000; omega
  rng := by show 0 ≤ (m : Int) ∧ (m : Int) ≤ 1000; omega
  lt := (rowsN_mem m n r h).2
theorem emb_rows : Emb fun l : List (List Int) => PyData.list (l.map rowD) := emb_lst (emb_tup emb_int)
theorem gEq_rows (neg : Bool) (a b : List (List Int)) : gEq neg (.list (a.map rowD)) (.list (b.map rowD)) = some (.bool (xor neg (decide (a = b)))) :=
  gEq_of emb_rows (k := 3) (fun l => shK_lst fun x hx => by obtain ⟨r, _, rfl⟩ := List.mem_map.mp hx; exact shK_ints) (by decide) neg a b
theorem filter_none {α : Type} (l : List α) : l.filter (fun _ => false) = [] := by simp
theorem tru_nil {h : Rho → Option (List PyData)} {ρ : Rho} (e : h ρ = some []) : fTru (fFr h) ρ = some false := by
  unfold fTru
  rw [fFr_of e]
  rfl
theorem small_ok {many to : Nat} (hm : many ≤ 4) (ht : to ≤ 4) : phi__law_small_right [.int many, .int to] = some (.ok (.bool true)) := by
  have hc := chk_ok hm ht
  unfold chk at hc
  rw [Bool.and_eq_true, Bool.and_eq_true, Bool.and_eq_true, Bool.and_eq_true, Bool.or_eq_true, decide_eq_true_iff, decide_eq_true_iff, decide_eq_true_iff, decide_eq_true_iff] at hc
  obtain ⟨k1, k2, k3, k4, k5⟩ := hc
  have am := all_maps_eq hm ht
  have hl := rowsN_len to many
  have hs := small_pow ht hm
  have hmem := rowsN_mem to many
  have ca := count_any (many := many) (to := to) (by omega) (by omega)
  have cp := count_parts (many := many) (to := to) (by omega) (by omega)
  have cl := count_all (many := many) (to := to) (by omega) (by omega)
  rw [k4] at cp
  rw [k5] at cl
  have sT : gSortSetT (.list ((rowsN to many).map rowD)) = some ((rowsN to many).map rowD) := by
    unfold gSortSetT
    simp only []
    rw [rowsD_map, Option.bind_some, if_pos ⟨k1, risB_lt k2, fun z k hk => by
      rcases k3 with h | h
      · omega
      · intro e
        have := (hmem k hk).1
        rw [e] at this
        simp at this
        omega⟩]
  have hz : (rowsN to many).length ≤ 1000000 := by omega
  have ex : ∀ r ∈ rowsN to many, Wf ((to : Int), r) := fun r hr => rows_wf ht hm hr
  -- the steps
  let A : Option PyData := some (.int many)
  let T : Option PyData := some (.int to)
  let F : PyData := .tuple ((rowsN to many).map fun r => mpD ((to : Int), r))
  let Rw : PyData := .list ((rowsN to many).map rowD)
  have s0 : g__law_small_right_0 (smRho A T none none none none none none none) = some (.nx (smRho A T (some F) none none none none none none)) := by
    simp [g__law_small_right_0, A, T, F, am]
  have s1 : g__law_small_right_1 (smRho A T (some F) none none none none none none) = some (.nx (smRho A T (some F) (some Rw) none none none none none)) := by
    have q := lc_sq (vs := [6]) (j := 6) (fs := fVar 2) (f := f2 gIx (fVar 6) (fC (.int 1))) (ρ := smRho A T (some F) none none none none none none) (w := fun r => mpD ((to : Int), r)) (l := rowsN to many) (d := F) (g := rowD) rfl rfl hz (fun r hr => rfl)
    unfold g__law_small_right_1 gAsg
    rw [fFr_of q]
    rfl
  have s2 : g__law_small_right_2 (smRho A T (some F) (some Rw) none none none none none) = some (.nx (smRho A T (some F) (some Rw) none none none none none)) := by
    have q := lc_sqF (vs := [7]) (j := 7) (fs := fVar 2) (f := fVar 7) (c := fB (f2 (gEq true) (f2 gIx (fVar 7) (fC (.int 0))) (fVar 1))) (ρ := smRho A T (some F) (some Rw) none none none none none) (w := fun r => mpD ((to : Int), r)) (l := rowsN to many) (d := F) (g := fun r => mpD ((to : Int), r)) (p := fun _ => false) rfl rfl hz (fun r hr => by
      refine ⟨?_, fun z => by cases z⟩
      have e : f2 (gEq true) (f2 gIx (fVar 7) (fC (.int 0))) (fVar 1) ((wipeR (smRho A T (some F) (some Rw) none none none none none) [7]).set 7 (some (mpD ((to : Int), r)))) = some (.bool false) := by
        refine (f2_of (x := .int to) (y := .int to) rfl rfl).trans ?_
        rw [gEq_int]
        simp
      unfold fB
      rw [e]
      rfl)
    rw [filter_none] at q
    have q2 := fFr_of q
    have b1 : bNot (fTru (f1 (gIsi "tuple") (fVar 2))) (smRho A T (some F) (some Rw) none none none none none) = some false := by
      have : gIsi "tuple" F = some (.bool true) := by
        show gIsi "tuple" (.tuple _) = _
        have kt : kitB "tuple" "tuple" = some true := by decide +kernel
        simp [kt]
      unfold bNot fTru f1
      rw [show fVar 2 (smRho A T (some F) (some Rw) none none none none none) = some F from rfl, Option.bind_some, this]
      rfl
    have b2 : fB (f2 (gEq true) (fVar 3) (fFr (fun ρ => ((fVar 3) ρ).bind gSortSetT))) (smRho A T (some F) (some Rw) none none none none none) = some false := by
      have e3 : (fun ρ => ((fVar 3) ρ).bind gSortSetT) (smRho A T (some F) (some Rw) none none none none none) = some ((rowsN to many).map rowD) := sT
      unfold fB
      rw [f2_of (x := Rw) rfl (fFr_of e3), gEq_rows, decide_eq_true rfl]
      rfl
    unfold g__law_small_right_2
    rw [if_f (by
      unfold bOr
      rw [b1]
      show ((fB (f2 (gEq true) (fVar 3) (fFr (fun ρ => ((fVar 3) ρ).bind gSortSetT))) (smRho A T (some F) (some Rw) none none none none none)).bind _) = _
      rw [b2]
      show fTru _ _ = _
      unfold fTru
      rw [q2]
      rfl)]
    rfl
  have s3 : g__law_small_right_3 (smRho A T (some F) (some Rw) none none none none none) = some (.nx (smRho A T (some F) (some Rw) none none none none none)) := by
    have q := lc_sqF (vs := [6]) (j := 6) (fs := fVar 3) (f := fVar 6) (c := bOr (fB (f2 (gEq true) (fBi gLen (fCons (fVar 6) fNil)) (fVar 0))) (fTru (fFr (fLc [8] (iSq (fVar 6)) (hName 8) (bNot (fB (fChain (gIb fun i j => decide (i ≤ j)) (gIb fun i j => decide (i < j)) (fC (.int 0)) (fVar 8) (fVar 1)))) (fVar 8))))) (ρ := smRho A T (some F) (some Rw) none none none none none) (w := rowD) (l := rowsN to many) (d := Rw) (g := rowD) (p := fun _ => false) rfl rfl hz (fun r hr => by
      refine ⟨?_, fun z => by cases z⟩
      obtain ⟨h1, h2⟩ := hmem r hr
      have qi := lc_sqF (vs := [8]) (j := 8) (fs := fVar 6) (f := fVar 8) (c := bNot (fB (fChain (gIb fun i j => decide (i ≤ j)) (gIb fun i j => decide (i < j)) (fC (.int 0)) (fVar 8) (fVar 1)))) (ρ := smRho A T (some F) (some Rw) none none (some (rowD r)) none none) (w := PyData.int) (l := r) (d := rowD r) (g := PyData.int) (p := fun _ => false) rfl rfl (by omega) (fun x hx => by
        refine ⟨?_, fun z => by cases z⟩
        have := h2 x hx
        simp [A, T, this.1, this.2])
      rw [filter_none] at qi
      have b1 : fB (f2 (gEq true) (fBi gLen (fCons (fVar 6) fNil)) (fVar 0)) (smRho A T (some F) (some Rw) none none (some (rowD r)) none none) = some false := by
        unfold fB
        rw [f2_of (x := .int many) (y := .int many) (by
          rw [bi1 (d := rowD r) rfl]
          show some (PyData.int ((r.map PyData.int).length : Nat)) = _
          rw [List.length_map, h1]) rfl, gEq_int]
        simp
      show bOr _ _ (smRho A T (some F) (some Rw) none none (some (rowD r)) none none) = _
      unfold bOr
      rw [b1]
      show fTru _ _ = _
      unfold fTru
      rw [fFr_of qi]
      rfl)
    rw [filter_none] at q
    unfold g__law_small_right_3
    rw [if_f (tru_nil q)]
    rfl
  have s4 : g__law_small_right_4 (smRho A T (some F) (some Rw) none none none none none) = some (.nx (smRho A T (some F) (some Rw) (some (.int 1)) none none none none)) := rfl
  have hB : B62 (many : Int) := ⟨by omega, by omega⟩
  have hi : iR1 (fVar 0) (smRho A T (some F) (some Rw) (some (.int 1)) none none none none) = some (rgD 0 many) := by simp [A, hB]
  obtain ⟨ρ', s5, o5, rfl⟩ := for_rgN (j := 5) (b := g__law_small_right_5b0) (fun i ρ => ∃ o, ρ = smRho A T (some F) (some Rw) (some (.int ((to : Int) ^ i))) o none none none) hi (fun i hi ρ ⟨o, hρ⟩ => by
    subst hρ
    have hM : MulOk ((to : Int) ^ i) to := .inl (.inr ⟨by omega, by omega⟩)
    refine ⟨smRho A T (some F) (some Rw) (some (.int ((to : Int) ^ (i + 1)))) (some (.int i)) none none none, ?_, _, rfl⟩
    simp [g__law_small_right_5b0, A, T, hM, Int.pow_succ]) ⟨none, by simp⟩
  have hlF : ((rowsN to many).length : Int) = (to : Int) ^ many := by rw [hl]; norm_cast
  have c1 : gEq true (.int ((to : Int) ^ many)) (.int ((to : Int) ^ many)) = some (.bool false) := by rw [gEq_int]; simp
  have s6 : g__law_small_right_6 (smRho A T (some F) (some Rw) (some (.int ((to : Int) ^ many))) o5 none none none) = some (.nx (smRho A T (some F) (some Rw) (some (.int ((to : Int) ^ many))) o5 none none none)) := by
    have eL : fBi gLen (fCons (fVar 2) fNil) (smRho A T (some F) (some Rw) (some (.int ((to : Int) ^ many))) o5 none none none) = some (.int ((to : Int) ^ many)) := by
      rw [bi1 (d := F) rfl]
      show some (PyData.int (((rowsN to many).map fun r => mpD ((to : Int), r)).length : Nat)) = _
      rw [List.length_map, hlF]
    have eC : fCall phi_count (fCons (fVar 0) (fCons (fVar 1) (fCons (fC (.str (PySem.Str.ofString "any"))) fNil))) (smRho A T (some F) (some Rw) (some (.int ((to : Int) ^ many))) o5 none none none) = some (.int ((to : Int) ^ many)) := by
      unfold fCall fCons fVar fC fNil
      show ((phi_count [.int many, .int to, .str (Str.ofString "any")]).bind _) = _
      rw [ca]
      rfl
    unfold g__law_small_right_6
    rw [if_f (by
      unfold bOr fB
      rw [f2_of (y := .int ((to : Int) ^ many)) eL rfl, c1]
      show ((f2 (gEq true) (fCall phi_count (fCons (fVar 0) (fCons (fVar 1) (fCons (fC (.str (PySem.Str.ofString "any"))) fNil)))) (fVar 4) (smRho A T (some F) (some Rw) (some (.int ((to : Int) ^ many))) o5 none none none)).bind _) = _
      rw [f2_of (y := .int ((to : Int) ^ many)) eC rfl, c1]
      rfl)]
    rfl
  have s7 : g__law_small_right_7 (smRho A T (some F) (some Rw) (some (.int ((to : Int) ^ many))) o5 none none none) = some (.nx (smRho A T (some F) (some Rw) (some (.int ((to : Int) ^ many))) o5 none none none)) := by
    have q := lc_sqF (vs := [7]) (j := 7) (fs := fVar 2) (f := fVar 7) (c := fTru (fCall phi_parts_all (fCons (fVar 7) fNil))) (ρ := smRho A T (some F) (some Rw) (some (.int ((to : Int) ^ many))) o5 none none none) (w := fun r => mpD ((to : Int), r)) (l := rowsN to many) (d := F) (g := fun r => mpD ((to : Int), r)) (p := fun r => decide ((sset r).length = r.length)) rfl rfl hz (fun r hr => by
      refine ⟨?_, fun _ => rfl⟩
      have := parts_eq (ex r hr).len
      unfold fTru fCall fCons fVar fNil
      show (((phi_parts_all [mpD ((to : Int), r)]).bind _).bind _) = _
      rw [this]
      rfl)
    have eL : fBi gLen (fCons (fFr (fLc [7] (iSq (fVar 2)) (hName 7) (fTru (fCall phi_parts_all (fCons (fVar 7) fNil))) (fVar 7))) fNil) (smRho A T (some F) (some Rw) (some (.int ((to : Int) ^ many))) o5 none none none) = some (.int (nP (rowsN to many))) := by
      rw [bi1 (fFr_of q)]
      show some (PyData.int ((((rowsN to many).filter fun r => decide ((sset r).length = r.length)).map fun r => mpD ((to : Int), r)).length : Nat)) = _
      rw [List.length_map]
      rfl
    have eC : fCall phi_count (fCons (fVar 0) (fCons (fVar 1) (fCons (fC (.str (PySem.Str.ofString "parts"))) fNil))) (smRho A T (some F) (some Rw) (some (.int ((to : Int) ^ many))) o5 none none none) = some (.int (nP (rowsN to many))) := by
      unfold fCall fCons fVar fC fNil
      show ((phi_count [.int many, .int to, .str (Str.ofString "parts")]).bind _) = _
      rw [cp]
      rfl
    unfold g__law_small_right_7
    rw [if_f (by
      unfold fB
      rw [f2_of eC eL, gEq_int]
      simp)]
    rfl
  have s8 : g__law_small_right_8 (smRho A T (some F) (some Rw) (some (.int ((to : Int) ^ many))) o5 none none none) = some (.ret (.bool true)) := by
    have q := lc_sqF (vs := [7]) (j := 7) (fs := fVar 2) (f := fVar 7) (c := fTru (fCall phi_comes_to_all (fCons (fVar 7) fNil))) (ρ := smRho A T (some F) (some Rw) (some (.int ((to : Int) ^ many))) o5 none none none) (w := fun r => mpD ((to : Int), r)) (l := rowsN to many) (d := F) (g := fun r => mpD ((to : Int), r)) (p := fun r => decide (((sset r).length : Int) = (to : Int))) rfl rfl hz (fun r hr => by
      refine ⟨?_, fun _ => rfl⟩
      have := comes_eq (ex r hr).len
      unfold fTru fCall fCons fVar fNil
      show (((phi_comes_to_all [mpD ((to : Int), r)]).bind _).bind _) = _
      rw [this]
      rfl)
    have eL : fBi gLen (fCons (fFr (fLc [7] (iSq (fVar 2)) (hName 7) (fTru (fCall phi_comes_to_all (fCons (fVar 7) fNil))) (fVar 7))) fNil) (smRho A T (some F) (some Rw) (some (.int ((to : Int) ^ many))) o5 none none none) = some (.int (nA to (rowsN to many))) := by
      rw [bi1 (fFr_of q)]
      show some (PyData.int ((((rowsN to many).filter fun r => decide (((sset r).length : Int) = (to : Int))).map fun r => mpD ((to : Int), r)).length : Nat)) = _
      rw [List.length_map]
      rfl
    have eC : fCall phi_count (fCons (fVar 0) (fCons (fVar 1) (fCons (fC (.str (PySem.Str.ofString "all"))) fNil))) (smRho A T (some F) (some Rw) (some (.int ((to : Int) ^ many))) o5 none none none) = some (.int (nA to (rowsN to many))) := by
      unfold fCall fCons fVar fC fNil
      show ((phi_count [.int many, .int to, .str (Str.ofString "all")]).bind _) = _
      rw [cl]
      rfl
    unfold g__law_small_right_8 gRet
    rw [f2_of eC eL, gEq_int]
    simp
  refine def_ret rfl (?_ : g__law_small_right (smRho A T none none none none none none none) = _)
  unfold g__law_small_right
  rw [blk_nx s0, blk_nx s1, blk_nx s2, blk_nx s3, blk_nx s4, show g__law_small_right_5 = gFor (iR1 (fVar 0)) (hName 5) g__law_small_right_5b0 from rfl, blk_nx s5, blk_nx s6, blk_nx s7, s8]

/-! ### the law -/
abbrev lawRho (S : PyData) (o1 o2 o3 o4 o5 o6 o7 : Option PyData) : Rho := [some S, o1, o2, o3, o4, o5, o6, o7]
theorem whole_int (x : Int) : phi__law_whole [.int x] = some (.ok (.bool true)) := by
  have kii : kitB "int" "int" = some true := by decide +kernel
  have kib : kitB "int" "bool" = some false := by decide +kernel
  simp [phi__law_whole, g__law_whole, g__law_whole_0, kii, kib]
theorem sum_id {many to : Nat} (hm : many < 30) (ht : to < 31) : ((List.range (to + 1)).map fun k => ch (to : Int) k * srj many k).sum = (to : Int) ^ many := by
  have := List.all_eq_true.mp (sum_ok ⟨many, hm⟩) to (List.mem_range.mpr ht)
  exact of_decide_eq_true this
theorem eq_id (neg : Bool) (x : Int) : gEq neg (.int x) (.int x) = some (.bool (!neg)) := by
  rw [gEq_int, decide_eq_true rfl]
  cases neg <;> rfl
theorem call1 {φ : List PyData → Option (Except Nat PyData)} {fa : Rho → Option (List PyData)} {ρ : Rho} {ds : List PyData} {d : PyData} (h1 : fa ρ = some ds) (h2 : φ ds = some (.ok d)) : fCall φ fa ρ = some d := by
  unfold fCall
  rw [h1, Option.bind_some, h2]
  rfl
def psum (f : Nat → Int) (i : Nat) : Int := ((List.range i).map f).sum
theorem psum_succ (f : Nat → Int) (i : Nat) : psum f (i + 1) = psum f i + f i := by
  unfold psum
  rw [List.range_succ, List.map_append, List.sum_append]
  simp
theorem law_plain (ns : List Int) (hl : ns.length ≤ 63) : phi_law [.dict (scrK ns)] = some (.ok (.bool true)) := by
  have c0 : phi__law_cell [.dict (scrK ns), .int 0] = some (.ok (.int (ns.getD 0 0))) := cell_eq ns 0 hl
  have c1 : phi__law_cell [.dict (scrK ns), .int 1] = some (.ok (.int (ns.getD 1 0))) := cell_eq ns 1 hl
  have c2 : phi__law_cell [.dict (scrK ns), .int 2] = some (.ok (.int (ns.getD 2 0))) := cell_eq ns 2 hl
  have c3 : phi__law_cell [.dict (scrK ns), .int 3] = some (.ok (.int (ns.getD 3 0))) := cell_eq ns 3 hl
  obtain ⟨a, ea, ha⟩ : ∃ a : Nat, ns.getD 0 0 % 5 = (a : Int) ∧ a ≤ 4 := ⟨(ns.getD 0 0 % 5).toNat, by omega, by omega⟩
  obtain ⟨b, eb, hb⟩ : ∃ b : Nat, ns.getD 1 0 % 5 = (b : Int) ∧ b ≤ 4 := ⟨(ns.getD 1 0 % 5).toNat, by omega, by omega⟩
  obtain ⟨m, em, hm⟩ : ∃ m : Nat, ns.getD 2 0 % 30 = (m : Int) ∧ m < 30 := ⟨(ns.getD 2 0 % 30).toNat, by omega, by omega⟩
  obtain ⟨t, et, ht⟩ : ∃ t : Nat, ns.getD 3 0 % 31 = (t : Int) ∧ t < 31 := ⟨(ns.getD 3 0 % 31).toNat, by omega, by omega⟩
  generalize ns.getD 0 0 = n0 at c0 ea
  generalize ns.getD 1 0 = n1 at c1 eb
  generalize ns.getD 2 0 = n2 at c2 em
  generalize ns.getD 3 0 = n3 at c3 et
  let S : PyData := .dict (scrK ns)
  have s0 : g_law_0 (lawRho S none none none none none none none) = some (.nx (lawRho S (some (.int a)) none none none none none none)) := by
    simp [g_law_0, S, c0, ea]
  have s1 : g_law_1 (lawRho S (some (.int a)) none none none none none none) = some (.nx (lawRho S (some (.int a)) (some (.int b)) none none none none none)) := by
    simp [g_law_1, S, c1, eb]
  have sm := small_ok ha hb
  have s2 : g_law_2 (lawRho S (some (.int a)) (some (.int b)) none none none none none) = some (.nx (lawRho S (some (.int a)) (some (.int b)) none none none none none)) := by
    simp [g_law_2, sm]
  have am := all_maps_eq ha ha
  have hlen := rowsN_len a a
  have hsz := small_pow ha ha
  have hmem := rowsN_mem a a
  let F : PyData := .tuple ((rowsN a a).map fun r => mpD ((a : Int), r))
  let L : List (List Int) := (rowsN a a).filter fun r => decide (0 < a) && decide (thn ((a : Int), r) ((a : Int), r) = ((a : Int), r))
  have s3 : g_law_3 (lawRho S (some (.int a)) (some (.int b)) none none none none none) = some (.nx (lawRho S (some (.int a)) (some (.int b)) (some (.list (L.map fun r => mpD ((a : Int), r)))) none none none none)) := by
    have q := lc_sqF (vs := [7]) (j := 7) (fs := fCall phi_all_maps (fCons (fVar 1) (fCons (fVar 1) fNil))) (f := fVar 7) (c := bAnd (fB (f2 (gIb fun i j => decide (j < i)) (fVar 1) (fC (.int 0)))) (fB (f2 (gEq false) (fCall phi_often (fCons (fVar 7) (fCons (fC (.int 2)) fNil))) (fVar 7)))) (ρ := lawRho S (some (.int a)) (some (.int b)) none none none none none) (w := fun r => mpD ((a : Int), r)) (l := rowsN a a) (d := F) (g := fun r => mpD ((a : Int), r)) (p := fun r => decide (0 < a) && decide (thn ((a : Int), r) ((a : Int), r) = ((a : Int), r))) (call1 (ds := [.int a, .int a]) rfl am) rfl (by omega) (fun r hr => by
      refine ⟨?_, fun _ => rfl⟩
      have e1 : fB (f2 (gIb fun i j => decide (j < i)) (fVar 1) (fC (.int 0))) ((wipeR (lawRho S (some (.int a)) (some (.int b)) none none none none none) [7]).set 7 (some (mpD ((a : Int), r)))) = some (decide (0 < a)) := by
        show some (decide ((0 : Int) < a)) = _
        congr 1
        exact decide_eq_decide.mpr ⟨fun _ => by omega, fun _ => by omega⟩
      unfold bAnd
      rw [e1]
      by_cases h0 : 0 < a
      · have o := often_two (a := ((a : Int), r)) (rows_wf ha ha hr) (by show (a : Int) = (r.length : Nat); rw [(hmem r hr).1]) (by show (0 : Int) < a; omega)
        have e2 : fB (f2 (gEq false) (fCall phi_often (fCons (fVar 7) (fCons (fC (.int 2)) fNil))) (fVar 7)) ((wipeR (lawRho S (some (.int a)) (some (.int b)) none none none none none) [7]).set 7 (some (mpD ((a : Int), r)))) = some (decide (thn ((a : Int), r) ((a : Int), r) = ((a : Int), r))) := by
          unfold fB
          rw [f2_of (y := mpD ((a : Int), r)) (call1 (ds := [mpD ((a : Int), r), .int 2]) rfl o) rfl, gEq_map, Bool.false_xor]
          rfl
        rw [e2, decide_eq_true h0]
        rfl
      · rw [decide_eq_false h0]
        rfl)
    unfold g_law_3 gAsg
    rw [fFr_of q]
    rfl
  have s4 : g_law_4 (lawRho S (some (.int a)) (some (.int b)) (some (.list (L.map fun r => mpD ((a : Int), r)))) none none none none) = some (.nx (lawRho S (some (.int a)) (some (.int b)) (some (.list (L.map fun r => mpD ((a : Int), r)))) none none none none)) := by
    have e1 : fB (f2 (gIb fun i j => decide (j < i)) (fVar 1) (fC (.int 0))) (lawRho S (some (.int a)) (some (.int b)) (some (.list (L.map fun r => mpD ((a : Int), r)))) none none none none) = some (decide (0 < a)) := by
      show some (decide ((0 : Int) < a)) = _
      congr 1
      exact decide_eq_decide.mpr ⟨fun _ => by omega, fun _ => by omega⟩
    unfold g_law_4
    rw [if_f (by
      unfold bAnd
      rw [e1]
      by_cases h0 : 0 < a
      · rw [decide_eq_true h0]
        have eL : L.length = nS a := by
          show (List.filter _ _).length = (List.filter _ _).length
          congr 1
          refine List.filter_congr fun r _ => ?_
          rw [decide_eq_true h0, Bool.true_and]
        have es := still_ok ⟨a, by omega⟩ h0
        show fB _ _ = _
        unfold fB
        rw [f2_of (x := .int (still a)) (y := .int (still a)) (call1 (ds := [.int a]) rfl (count_still_eq (by omega))) (by
          rw [bi1 (d := .list (L.map fun r => mpD ((a : Int), r))) rfl]
          show some (PyData.int ((L.map fun r => mpD ((a : Int), r)).length : Nat)) = _
          rw [List.length_map, eL, es]), eq_id]
        rfl
      · rw [decide_eq_false h0]
        rfl)]
    rfl
  generalize (PyData.list (L.map fun r => mpD ((a : Int), r))) = X at s3 s4
  have s5 : g_law_5 (lawRho S (some (.int a)) (some (.int b)) (some X) none none none none) = some (.nx (lawRho S (some (.int m)) (some (.int b)) (some X) none none none none)) := by
    simp [g_law_5, S, c2, em]
  have s6 : g_law_6 (lawRho S (some (.int m)) (some (.int b)) (some X) none none none none) = some (.nx (lawRho S (some (.int m)) (some (.int t)) (some X) none none none none)) := by
    simp [g_law_6, S, c3, et]
  have ca := count_any (many := m) (to := t) (by omega) (by omega)
  have cp := count_parts (many := m) (to := t) (by omega) (by omega)
  have cl := count_all (many := m) (to := t) (by omega) (by omega)
  have ca1 := count_any (many := m + 1) (to := t) (by omega) (by omega)
  have cp1 := count_parts (many := m + 1) (to := t) (by omega) (by omega)
  have s7 : ∃ o4, g_law_7 (lawRho S (some (.int m)) (some (.int t)) (some X) none none none none) = some (.nx (lawRho S (some (.int m)) (some (.int t)) (some X) o4 none none none)) := by
    have turn : ∀ {x : Str} {v : Int} (o4 : Option PyData), phi_count [.int m, .int t, .str x] = some (.ok (.int v)) → g_law_7b0 (lawRho S (some (.int m)) (some (.int t)) (some X) (some (.str x)) none none none) = some (.nx (lawRho S (some (.int m)) (some (.int t)) (some X) (some (.str x)) none none none)) := fun o4 h => by
      simp [g_law_7b0, h, whole_int]
    refine ⟨some (.str (Str.ofString "all")), ?_⟩
    have hi : iSq (fFr (fList (fCons (fC (.str (PySem.Str.ofString "any"))) (fCons (fC (.str (PySem.Str.ofString "parts"))) (fCons (fC (.str (PySem.Str.ofString "all"))) fNil))))) (lawRho S (some (.int m)) (some (.int t)) (some X) none none none none) = some [.str (Str.ofString "any"), .str (Str.ofString "parts"), .str (Str.ofString "all")] := by
      simp [iSq, fFr, fList, fCons, fNil, fC]
    unfold g_law_7 gFor
    rw [hi, Option.bind_some, for_cons_nx rfl (turn none ca), for_cons_nx rfl (turn none cp), for_cons_nx rfl (turn none cl)]
    rfl
  obtain ⟨o4, s7⟩ := s7
  have hmc : ((m + 1 : Nat) : Int) = (m : Int) + 1 := by omega
  rw [hmc] at ca1 cp1
  have s8 : g_law_8 (lawRho S (some (.int m)) (some (.int t)) (some X) o4 none none none) = some (.nx (lawRho S (some (.int m)) (some (.int t)) (some X) o4 none none none)) := by
    have hM : MulOk (t : Int) ((t : Int) ^ m) := .inl (.inl ⟨by omega, by omega⟩)
    have hE : (t : Int) ^ (m + 1) = (t : Int) * (t : Int) ^ m := by rw [Int.pow_succ, Int.mul_comm]
    unfold g_law_8
    rw [if_f (by
      unfold fB
      rw [f2_of (x := .int ((t : Int) ^ (m + 1))) (y := .int ((t : Int) * (t : Int) ^ m)) (call1 (ds := [.int ((m : Int) + 1), .int t, .str (Str.ofString "any")]) rfl ca1)
        ((f2_of (x := .int t) (y := .int ((t : Int) ^ m)) rfl (call1 (ds := [.int m, .int t, .str (Str.ofString "any")]) rfl ca)).trans (by unfold gMulD; exact if_pos hM)), hE, eq_id]
      rfl)]
    rfl
  have s9 : g_law_9 (lawRho S (some (.int m)) (some (.int t)) (some X) o4 none none none) = some (.nx (lawRho S (some (.int m)) (some (.int t)) (some X) o4 none none none)) := by
    have hM : MulOk (if (t : Int) - m > 0 then (t : Int) - m else 0) (fal t m) := .inl (.inl (by split <;> constructor <;> omega))
    have hE : fal t (m + 1) = (if (t : Int) - m > 0 then (t : Int) - m else 0) * fal t m := by
      show fal t m * _ = _
      rw [Int.mul_comm]
    unfold g_law_9
    rw [if_f (by
      unfold fB
      rw [f2_of (x := .int (fal t (m + 1))) (y := .int ((if (t : Int) - m > 0 then (t : Int) - m else 0) * fal t m)) (call1 (ds := [.int ((m : Int) + 1), .int t, .str (Str.ofString "parts")]) rfl cp1)
        ((f2_of (x := .int (if (t : Int) - m > 0 then (t : Int) - m else 0)) (y := .int (fal t m)) rfl (call1 (ds := [.int m, .int t, .str (Str.ofString "parts")]) rfl cp)).trans (by unfold gMulD; exact if_pos hM)), hE, eq_id]
      rfl)]
    rfl
  have s10 : g_law_10 (lawRho S (some (.int m)) (some (.int t)) (some X) o4 none none none) = some (.nx (lawRho S (some (.int m)) (some (.int t)) (some X) o4 (some (.int ((t : Int) ^ m))) none none)) := by
    have q := lc_rgI (vs := [6]) (j := 6) (fn := f2 gAdd (fVar 2) (fC (.int 1))) (f := f2 gMulD (fCall phi__law_choices (fCons (fVar 2) (fCons (fVar 6) fNil))) (fCall phi_count (fCons (fVar 1) (fCons (fVar 6) (fCons (fC (.str (PySem.Str.ofString "all"))) fNil))))) (ρ := lawRho S (some (.int m)) (some (.int t)) (some X) o4 none none none) (n := (t : Int) + 1) (g := fun k => ch (t : Int) k * srj m k) (by simp) (by omega) (fun i hi => by
      have x1 := lchoices_eq (n := t) (k := i) ⟨by omega, by omega⟩ (by omega)
      have x2 := count_all (many := m) (to := i) (by omega) (by omega)
      have hM : MulOk (ch (t : Int) i) (srj m i) := .inl (.inl (ch_bd (n := t) (k := i) (by omega) (by omega)))
      exact (f2_of (x := .int (ch (t : Int) i)) (y := .int (srj m i)) (call1 (ds := [.int t, .int i]) rfl x1) (call1 (ds := [.int m, .int i, .str (Str.ofString "all")]) rfl x2)).trans (by unfold gMulD; exact if_pos hM))
    unfold g_law_10 gAsg
    rw [bi1 (fFr_of q), sum_ints, show ((t : Int) + 1).toNat = t + 1 by omega, sum_id hm ht]
    rfl
  have s11 : g_law_11 (lawRho S (some (.int m)) (some (.int t)) (some X) o4 (some (.int ((t : Int) ^ m))) none none) = some (.nx (lawRho S (some (.int m)) (some (.int t)) (some X) o4 (some (.int ((t : Int) ^ m))) none none)) := by
    unfold g_law_11
    rw [if_f (by
      unfold fB
      rw [f2_of (x := .int ((t : Int) ^ m)) (y := .int ((t : Int) ^ m)) rfl (call1 (ds := [.int m, .int t, .str (Str.ofString "any")]) rfl ca), eq_id]
      rfl)]
    rfl
  have s12 : g_law_12 (lawRho S (some (.int m)) (some (.int t)) (some X) o4 (some (.int ((t : Int) ^ m))) none none) = some (.nx (lawRho S (some (.int m)) (some (.int t)) (some X) o4 (some (.int 0)) none none)) := rfl
  have hB : B62 ((m : Int) + 1) := ⟨by omega, by omega⟩
  have hi : iR1 (f2 gAdd (fVar 1) (fC (.int 1))) (lawRho S (some (.int m)) (some (.int t)) (some X) o4 (some (.int 0)) none none) = some (rgD 0 (m + 1)) := by
    have : ((m : Int) + 1).toNat = m + 1 := by omega
    simp [hB, this]
  obtain ⟨ρ', s13, o6, rfl⟩ := for_rgN (j := 6) (b := g_law_13b0) (fun i ρ => ∃ o, ρ = lawRho S (some (.int m)) (some (.int t)) (some X) o4 (some (.int (psum (fun k => ch m k * (k : Int) ^ (m - k)) i))) o none) hi (fun i hi ρ ⟨o, hρ⟩ => by
    subst hρ
    have x1 := lchoices_eq (n := m) (k := i) ⟨by omega, by omega⟩ (by omega)
    have x2 := count_any (many := m - i) (to := i) (by omega) (by omega)
    rw [show ((m - i : Nat) : Int) = (m : Int) - i by omega] at x2
    have hM : MulOk (ch (m : Int) i) ((i : Int) ^ (m - i)) := .inl (.inl (ch_bd (n := m) (k := i) (by omega) (by omega)))
    refine ⟨lawRho S (some (.int m)) (some (.int t)) (some X) o4 (some (.int (psum (fun k => ch m k * (k : Int) ^ (m - k)) (i + 1)))) (some (.int i)) none, ?_, _, rfl⟩
    show g_law_13b0 (lawRho S (some (.int m)) (some (.int t)) (some X) o4 (some (.int (psum (fun k => ch m k * (k : Int) ^ (m - k)) i))) (some (.int i)) none) = _
    unfold g_law_13b0 gAsg
    rw [f2_of (x := .int (psum (fun k => ch m k * (k : Int) ^ (m - k)) i)) (y := .int (ch (m : Int) i * (i : Int) ^ (m - i))) rfl ((f2_of (x := .int (ch (m : Int) i)) (y := .int ((i : Int) ^ (m - i))) (call1 (ds := [.int m, .int i]) rfl x1) (call1 (ds := [.int ((m : Int) - i), .int i, .str (Str.ofString "any")]) rfl x2)).trans (by unfold gMulD; exact if_pos hM))]
    rw [psum_succ]
    rfl) ⟨none, rfl⟩
  have cs := count_still_eq (n := m) (by omega)
  have cs0 : phi_count_still [.int 0] = some (.ok (.int 1)) := count_still_eq (n := 0) (by omega)
  have s14 : g_law_14 (lawRho S (some (.int m)) (some (.int t)) (some X) o4 (some (.int (still m))) o6 none) = some (.ret (.bool true)) := by
    have q := eq_id false (still m)
    have q1 := eq_id false 1
    simp only [g_law_14, gRet, fAnd]
    rw [call1 (φ := phi__law_whole) (ds := [.int (still m)]) (by
      unfold fCons
      rw [call1 (φ := phi_count_still) (ds := [.int m]) rfl cs]
      rfl) (whole_int _)]
    rw [f2_of (x := .int (still m)) (y := .int (still m)) (call1 (φ := phi_count_still) (ds := [.int m]) rfl cs) rfl, q]
    rw [f2_of (x := .int 1) (y := .int 1) (call1 (φ := phi_count_still) (ds := [.int 0]) rfl cs0) rfl, q1]
    rfl
  refine def_ret rfl (?_ : g_law (lawRho S none none none none none none none) = _)
  unfold g_law
  rw [blk_nx s0, blk_nx s1, blk_nx s2, blk_nx s3, blk_nx s4, blk_nx s5, blk_nx s6, blk_nx s7, blk_nx s8, blk_nx s9, blk_nx s10, blk_nx s11, blk_nx s12, show g_law_13 = gFor (iR1 (f2 gAdd (fVar 1) (fC (.int 1)))) (hName 6) g_law_13b0 from rfl, blk_nx s13]
  exact s14
end Lw

namespace Lw
open PySem PySem.Spec PyProof.Rows L2 DL
theorem all_mk {l : PySem.W.OpenLaw} {w : World} {K : PySem.W.Frag} {h : Heap} {mg : Str → Option Value} {fa f0 f1 f2 f3 f4 f5 f6 f7 f8 f9 f10 f11 f12 f16 f17 f18 f19 e0 e2 : Addr} (X : K.In h) (G : h.Ns mainGlobals mg) (hfa : mg "law" = some (.ref fa))
    {od0 an0 od1 an1 od2 an2 od3 an3 od4 an4 od5 an5 od6 an6 od7 an7 od8 an8 od9 an9 od10 an10 od11 an11 od12 an12 od16 an16 od17 an17 od18 an18 od19 an19 : Option Addr} {sl0 sl1 sl2 sl3 sl4 sl5 sl6 sl7 sl8 sl9 sl10 sl11 sl12 sl16 sl17 sl18 sl19 : Array (Option Value)} {oc0 kV0 dc0 pm0 cd0 ct0 oc1 kV1 dc1 pm1 cd1 ct1 oc2 kV2 dc2 pm2 cd2 ct2 oc3 kV3 dc3 pm3 cd3 ct3 oc4 kV4 dc4 pm4 cd4 ct4 oc5 kV5 dc5 pm5 cd5 ct5 oc6 kV6 dc6 pm6 cd6 ct6 oc7 kV7 dc7 pm7 cd7 ct7 oc8 kV8 dc8 pm8 cd8 ct8 oc9 kV9 dc9 pm9 cd9 ct9 oc10 kV10 dc10 pm10 cd10 ct10 oc11 kV11 dc11 pm11 cd11 ct11 oc12 kV12 dc12 pm12 cd12 ct12 oc16 kV16 dc16 pm16 cd16 ct16 oc17 kV17 dc17 pm17 cd17 ct17 oc18 kV18 dc18 pm18 cd18 ct18 oc19 kV19 dc19 pm19 cd19 ct19 : Value}
    (a0 : PySem.W.nsIn K mainGlobals "all_maps" = some (some (.ref f0))) (l0 : K.lookup f0 = some ⟨oc0, od0, .func (PySem.W.fnOf "all_maps" "all_maps" (defArgs s_all_maps) (defBody s_all_maps) (defScope s_all_maps) .none kV0 dc0 pm0 an0 cd0 ct0), sl0⟩) (c0 : PySem.W.codeIn K cd0 "all_maps" = true) (k0 : PySem.W.keepIn K (.ref f0) = true)
    (a1 : PySem.W.nsIn K mainGlobals "power" = some (some (.ref f1))) (l1 : K.lookup f1 = some ⟨oc1, od1, .func (PySem.W.fnOf "power" "power" (defArgs s_power) (defBody s_power) (defScope s_power) .none kV1 dc1 pm1 an1 cd1 ct1), sl1⟩) (c1 : PySem.W.codeIn K cd1 "power" = true) (k1 : PySem.W.keepIn K (.ref f1) = true)
    (a2 : PySem.W.nsIn K mainGlobals "choices" = some (some (.ref f2))) (l2 : K.lookup f2 = some ⟨oc2, od2, .func (PySem.W.fnOf "choices" "choices" (defArgs s_choices) (defBody s_choices) (defScope s_choices) .none kV2 dc2 pm2 an2 cd2 ct2), sl2⟩) (c2 : PySem.W.codeIn K cd2 "choices" = true) (k2 : PySem.W.keepIn K (.ref f2) = true)
    (a3 : PySem.W.nsIn K mainGlobals "count" = some (some (.ref f3))) (l3 : K.lookup f3 = some ⟨oc3, od3, .func (PySem.W.fnOf "count" "count" (defArgs s_count) (defBody s_count) (defScope s_count) .none kV3 dc3 pm3 an3 cd3 ct3), sl3⟩) (c3 : PySem.W.codeIn K cd3 "count" = true) (k3 : PySem.W.keepIn K (.ref f3) = true)
    (a4 : PySem.W.nsIn K mainGlobals "count_still" = some (some (.ref f4))) (l4 : K.lookup f4 = some ⟨oc4, od4, .func (PySem.W.fnOf "count_still" "count_still" (defArgs s_count_still) (defBody s_count_still) (defScope s_count_still) .none kV4 dc4 pm4 an4 cd4 ct4), sl4⟩) (c4 : PySem.W.codeIn K cd4 "count_still" = true) (k4 : PySem.W.keepIn K (.ref f4) = true)
    (a5 : PySem.W.nsIn K mainGlobals "must" = some (some (.ref f5))) (l5 : K.lookup f5 = some ⟨oc5, od5, .func (PySem.W.fnOf "must" "must" (defArgs s_must) (defBody s_must) (defScope s_must) .none kV5 dc5 pm5 an5 cd5 ct5), sl5⟩) (c5 : PySem.W.codeIn K cd5 "must" = true) (k5 : PySem.W.keepIn K (.ref f5) = true)
    (a6 : PySem.W.nsIn K mainGlobals "then" = some (some (.ref f6))) (l6 : K.lookup f6 = some ⟨oc6, od6, .func (PySem.W.fnOf "then" "then" (defArgs s_then) (defBody s_then) (defScope s_then) .none kV6 dc6 pm6 an6 cd6 ct6), sl6⟩) (c6 : PySem.W.codeIn K cd6 "then" = true) (k6 : PySem.W.keepIn K (.ref f6) = true)
    (a7 : PySem.W.nsIn K mainGlobals "same" = some (some (.ref f7))) (l7 : K.lookup f7 = some ⟨oc7, od7, .func (PySem.W.fnOf "same" "same" (defArgs s_same) (defBody s_same) (defScope s_same) .none kV7 dc7 pm7 an7 cd7 ct7), sl7⟩) (c7 : PySem.W.codeIn K cd7 "same" = true) (k7 : PySem.W.keepIn K (.ref f7) = true)
    (a8 : PySem.W.nsIn K mainGlobals "parts_all" = some (some (.ref f8))) (l8 : K.lookup f8 = some ⟨oc8, od8, .func (PySem.W.fnOf "parts_all" "parts_all" (defArgs s_parts_all) (defBody s_parts_all) (defScope s_parts_all) .none kV8 dc8 pm8 an8 cd8 ct8), sl8⟩) (c8 : PySem.W.codeIn K cd8 "parts_all" = true) (k8 : PySem.W.keepIn K (.ref f8) = true)
    (a9 : PySem.W.nsIn K mainGlobals "comes_to_all" = some (some (.ref f9))) (l9 : K.lookup f9 = some ⟨oc9, od9, .func (PySem.W.fnOf "comes_to_all" "comes_to_all" (defArgs s_comes_to_all) (defBody s_comes_to_all) (defScope s_comes_to_all) .none kV9 dc9 pm9 an9 cd9 ct9), sl9⟩) (c9 : PySem.W.codeIn K cd9 "comes_to_all" = true) (k9 : PySem.W.keepIn K (.ref f9) = true)
    (a10 : PySem.W.nsIn K mainGlobals "must_be_inner" = some (some (.ref f10))) (l10 : K.lookup f10 = some ⟨oc10, od10, .func (PySem.W.fnOf "must_be_inner" "must_be_inner" (defArgs s_must_be_inner) (defBody s_must_be_inner) (defScope s_must_be_inner) .none kV10 dc10 pm10 an10 cd10 ct10), sl10⟩) (c10 : PySem.W.codeIn K cd10 "must_be_inner" = true) (k10 : PySem.W.keepIn K (.ref f10) = true)
    (a11 : PySem.W.nsIn K mainGlobals "often" = some (some (.ref f11))) (l11 : K.lookup f11 = some ⟨oc11, od11, .func (PySem.W.fnOf "often" "often" (defArgs s_often) (defBody s_often) (defScope s_often) .none kV11 dc11 pm11 an11 cd11 ct11), sl11⟩) (c11 : PySem.W.codeIn K cd11 "often" = true) (k11 : PySem.W.keepIn K (.ref f11) = true)
    (a12 : PySem.W.nsIn K mainGlobals "_law_cell" = some (some (.ref f12))) (l12 : K.lookup f12 = some ⟨oc12, od12, .func (PySem.W.fnOf "_law_cell" "_law_cell" (defArgs s__law_cell) (defBody s__law_cell) (defScope s__law_cell) .none kV12 dc12 pm12 an12 cd12 ct12), sl12⟩) (c12 : PySem.W.codeIn K cd12 "_law_cell" = true) (k12 : PySem.W.keepIn K (.ref f12) = true)
    (a16 : PySem.W.nsIn K mainGlobals "_law_whole" = some (some (.ref f16))) (l16 : K.lookup f16 = some ⟨oc16, od16, .func (PySem.W.fnOf "_law_whole" "_law_whole" (defArgs s__law_whole) (defBody s__law_whole) (defScope s__law_whole) .none kV16 dc16 pm16 an16 cd16 ct16), sl16⟩) (c16 : PySem.W.codeIn K cd16 "_law_whole" = true) (k16 : PySem.W.keepIn K (.ref f16) = true)
    (a17 : PySem.W.nsIn K mainGlobals "_law_choices" = some (some (.ref f17))) (l17 : K.lookup f17 = some ⟨oc17, od17, .func (PySem.W.fnOf "_law_choices" "_law_choices" (defArgs s__law_choices) (defBody s__law_choices) (defScope s__law_choices) .none kV17 dc17 pm17 an17 cd17 ct17), sl17⟩) (c17 : PySem.W.codeIn K cd17 "_law_choices" = true) (k17 : PySem.W.keepIn K (.ref f17) = true)
    (a18 : PySem.W.nsIn K mainGlobals "_law_small_right" = some (some (.ref f18))) (l18 : K.lookup f18 = some ⟨oc18, od18, .func (PySem.W.fnOf "_law_small_right" "_law_small_right" (defArgs s__law_small_right) (defBody s__law_small_right) (defScope s__law_small_right) .none kV18 dc18 pm18 an18 cd18 ct18), sl18⟩) (c18 : PySem.W.codeIn K cd18 "_law_small_right" = true) (k18 : PySem.W.keepIn K (.ref f18) = true)
    (a19 : PySem.W.nsIn K mainGlobals "law" = some (some (.ref f19))) (l19 : K.lookup f19 = some ⟨oc19, od19, .func (PySem.W.fnOf "law" "law" (defArgs s_law) (defBody s_law) (defScope s_law) .none kV19 dc19 pm19 an19 cd19 ct19), sl19⟩) (c19 : PySem.W.codeIn K cd19 "law" = true) (k19 : PySem.W.keepIn K (.ref f19) = true)
    (z_bool : PySem.W.nsIn K mainGlobals "bool" = some none)
    (z_int : PySem.W.nsIn K mainGlobals "int" = some none)
    (z_isinstance : PySem.W.nsIn K mainGlobals "isinstance" = some none)
    (z_len : PySem.W.nsIn K mainGlobals "len" = some none)
    (z_list : PySem.W.nsIn K mainGlobals "list" = some none)
    (z_max : PySem.W.nsIn K mainGlobals "max" = some none)
    (z_range : PySem.W.nsIn K mainGlobals "range" = some none)
    (z_reversed : PySem.W.nsIn K mainGlobals "reversed" = some none)
    (z_set : PySem.W.nsIn K mainGlobals "set" = some none)
    (z_sorted : PySem.W.nsIn K mainGlobals "sorted" = some none)
    (z_sum : PySem.W.nsIn K mainGlobals "sum" = some none)
    (z_tuple : PySem.W.nsIn K mainGlobals "tuple" = some none)
    (zgC0_0 : PySem.W.nsIn K mainGlobals "MapError" = some (some (.ref e0)))
    (zx0_0 : PySem.W.excIn K (e0) [.type "ValueError", .type "Exception", .type "BaseException", .type "object"] "ValueError.__new__" = true)
    (zkC0_0 : PySem.W.keepIn K (.ref (e0)) = true)
    (zbC0_0 : PySem.W.subIn K (.ref (e0)) (.type "BaseException") = some true)
    (ztC0_0 : PySem.W.typeIn K (.ref (e0)) = some (.type "type"))
    (zgC2_0 : PySem.W.nsIn K mainGlobals "NoFit" = some (some (.ref e2)))
    (zx2_0 : PySem.W.excIn K (e2) [.type "ValueError", .type "Exception", .type "BaseException", .type "object"] "ValueError.__new__" = true)
    (zkC2_0 : PySem.W.keepIn K (.ref (e2)) = true)
    (zbC2_0 : PySem.W.subIn K (.ref (e2)) (.type "BaseException") = some true)
    (ztC2_0 : PySem.W.typeIn K (.ref (e2)) = some (.type "type"))
    (hpl : ∀ ns : List Int, ns.length ≤ 63 → phi_law [.dict (scrK ns)] = some (.ok (.bool true))) :
    ∃ fd : FuncData, (∀ (s : Shared) (v : Value), BindsTo s fd ⟨[v], []⟩ [("_law_script", v)]) ∧ ∀ base : Heap, K.In base → base.Ns mainGlobals mg → FnOk l.prog w K mg base (L2.CX l.prog w) 4 fa fd ["_law_script"] (spLaw K) := by
  have e := hfa.symm.trans (PySem.W.mg_of X G a19)
  cases e
  have F0 := fun_mk (st := s_all_maps) l0 c0 k0
  have F1 := fun_mk (st := s_power) l1 c1 k1
  have F2 := fun_mk (st := s_choices) l2 c2 k2
  have F3 := fun_mk (st := s_count) l3 c3 k3
  have F4 := fun_mk (st := s_count_still) l4 c4 k4
  have F5 := fun_mk (st := s_must) l5 c5 k5
  have F6 := fun_mk (st := s_then) l6 c6 k6
  have F7 := fun_mk (st := s_same) l7 c7 k7
  have F8 := fun_mk (st := s_parts_all) l8 c8 k8
  have F9 := fun_mk (st := s_comes_to_all) l9 c9 k9
  have F10 := fun_mk (st := s_must_be_inner) l10 c10 k10
  have F11 := fun_mk (st := s_often) l11 c11 k11
  have F12 := fun_mk (st := s__law_cell) l12 c12 k12
  have F16 := fun_mk (st := s__law_whole) l16 c16 k16
  have F17 := fun_mk (st := s__law_choices) l17 c17 k17
  have F18 := fun_mk (st := s__law_small_right) l18 c18 k18
  have F19 := fun_mk (st := s_law) l19 c19 k19
  have T : Txt K mg ⟨fun i => match i with | 0 => f0 | 1 => f1 | 2 => f2 | 3 => f3 | 4 => f4 | 5 => f5 | 6 => f6 | 7 => f7 | 8 => f8 | 9 => f9 | 10 => f10 | 11 => f11 | 12 => f12 | 16 => f16 | 17 => f17 | 18 => f18 | 19 => fa | _ => 0, fun i => match i with | 0 => PySem.W.fnOf "all_maps" "all_maps" (defArgs s_all_maps) (defBody s_all_maps) (defScope s_all_maps) .none kV0 dc0 pm0 an0 cd0 ct0 | 1 => PySem.W.fnOf "power" "power" (defArgs s_power) (defBody s_power) (defScope s_power) .none kV1 dc1 pm1 an1 cd1 ct1 | 2 => PySem.W.fnOf "choices" "choices" (defArgs s_choices) (defBody s_choices) (defScope s_choices) .none kV2 dc2 pm2 an2 cd2 ct2 | 3 => PySem.W.fnOf "count" "count" (defArgs s_count) (defBody s_count) (defScope s_count) .none kV3 dc3 pm3 an3 cd3 ct3 | 4 => PySem.W.fnOf "count_still" "count_still" (defArgs s_count_still) (defBody s_count_still) (defScope s_count_still) .none kV4 dc4 pm4 an4 cd4 ct4 | 5 => PySem.W.fnOf "must" "must" (defArgs s_must) (defBody s_must) (defScope s_must) .none kV5 dc5 pm5 an5 cd5 ct5 | 6 => PySem.W.fnOf "then" "then" (defArgs s_then) (defBody s_then) (defScope s_then) .none kV6 dc6 pm6 an6 cd6 ct6 | 7 => PySem.W.fnOf "same" "same" (defArgs s_same) (defBody s_same) (defScope s_same) .none kV7 dc7 pm7 an7 cd7 ct7 | 8 => PySem.W.fnOf "parts_all" "parts_all" (defArgs s_parts_all) (defBody s_parts_all) (defScope s_parts_all) .none kV8 dc8 pm8 an8 cd8 ct8 | 9 => PySem.W.fnOf "comes_to_all" "comes_to_all" (defArgs s_comes_to_all) (defBody s_comes_to_all) (defScope s_comes_to_all) .none kV9 dc9 pm9 an9 cd9 ct9 | 10 => PySem.W.fnOf "must_be_inner" "must_be_inner" (defArgs s_must_be_inner) (defBody s_must_be_inner) (defScope s_must_be_inner) .none kV10 dc10 pm10 an10 cd10 ct10 | 11 => PySem.W.fnOf "often" "often" (defArgs s_often) (defBody s_often) (defScope s_often) .none kV11 dc11 pm11 an11 cd11 ct11 | 12 => PySem.W.fnOf "_law_cell" "_law_cell" (defArgs s__law_cell) (defBody s__law_cell) (defScope s__law_cell) .none kV12 dc12 pm12 an12 cd12 ct12 | 16 => PySem.W.fnOf "_law_whole" "_law_whole" (defArgs s__law_whole) (defBody s__law_whole) (defScope s__law_whole) .none kV16 dc16 pm16 an16 cd16 ct16 | 17 => PySem.W.fnOf "_law_choices" "_law_choices" (defArgs s__law_choices) (defBody s__law_choices) (defScope s__law_choices) .none kV17 dc17 pm17 an17 cd17 ct17 | 18 => PySem.W.fnOf "_law_small_right" "_law_small_right" (defArgs s__law_small_right) (defBody s__law_small_right) (defScope s__law_small_right) .none kV18 dc18 pm18 an18 cd18 ct18 | 19 => PySem.W.fnOf "law" "law" (defArgs s_law) (defBody s_law) (defScope s_law) .none kV19 dc19 pm19 an19 cd19 ct19 | _ => PySem.W.fnOf "law" "law" (defArgs s_law) (defBody s_law) (defScope s_law) .none kV19 dc19 pm19 an19 cd19 ct19, fun i => match i with | 0 => e0 | 2 => e2 | _ => 0⟩ := {
    F0 := F0, g0 := PySem.W.mg_of X G a0, b0 := F0.binds (ps := ["many", "to"]) fun _ _ _ _ _ _ us hl => match us, hl with | [_, _], _ => rfl,
    F1 := F1, g1 := PySem.W.mg_of X G a1, b1 := F1.binds (ps := ["number", "times"]) fun _ _ _ _ _ _ us hl => match us, hl with | [_, _], _ => rfl,
    F2 := F2, g2 := PySem.W.mg_of X G a2, b2 := F2.binds (ps := ["many", "some"]) fun _ _ _ _ _ _ us hl => match us, hl with | [_, _], _ => rfl,
    F3 := F3, g3 := PySem.W.mg_of X G a3, b3 := F3.binds (ps := ["many", "to", "kind"]) fun _ _ _ _ _ _ us hl => match us, hl with | [_, _, _], _ => rfl,
    F4 := F4, g4 := PySem.W.mg_of X G a4, b4 := F4.binds (ps := ["many"]) fun _ _ _ _ _ _ us hl => match us, hl with | [_], _ => rfl,
    F5 := F5, g5 := PySem.W.mg_of X G a5, b5 := F5.binds (ps := ["fits"]) fun _ _ _ _ _ _ us hl => match us, hl with | [_], _ => rfl,
    F6 := F6, g6 := PySem.W.mg_of X G a6, b6 := F6.binds (ps := ["one", "other"]) fun _ _ _ _ _ _ us hl => match us, hl with | [_, _], _ => rfl,
    F7 := F7, g7 := PySem.W.mg_of X G a7, b7 := F7.binds (ps := ["many"]) fun _ _ _ _ _ _ us hl => match us, hl with | [_], _ => rfl,
    F8 := F8, g8 := PySem.W.mg_of X G a8, b8 := F8.binds (ps := ["one"]) fun _ _ _ _ _ _ us hl => match us, hl with | [_], _ => rfl,
    F9 := F9, g9 := PySem.W.mg_of X G a9, b9 := F9.binds (ps := ["one"]) fun _ _ _ _ _ _ us hl => match us, hl with | [_], _ => rfl,
    F10 := F10, g10 := PySem.W.mg_of X G a10, b10 := F10.binds (ps := ["one"]) fun _ _ _ _ _ _ us hl => match us, hl with | [_], _ => rfl,
    F11 := F11, g11 := PySem.W.mg_of X G a11, b11 := F11.binds (ps := ["one", "times"]) fun _ _ _ _ _ _ us hl => match us, hl with | [_, _], _ => rfl,
    F12 := F12, g12 := PySem.W.mg_of X G a12, b12 := F12.binds (ps := ["_law_script", "_law_k"]) fun _ _ _ _ _ _ us hl => match us, hl with | [_, _], _ => rfl,
    F16 := F16, g16 := PySem.W.mg_of X G a16, b16 := F16.binds (ps := ["_law_found"]) fun _ _ _ _ _ _ us hl => match us, hl with | [_], _ => rfl,
    F17 := F17, g17 := PySem.W.mg_of X G a17, b17 := F17.binds (ps := ["_law_many", "_law_some"]) fun _ _ _ _ _ _ us hl => match us, hl with | [_, _], _ => rfl,
    F18 := F18, g18 := PySem.W.mg_of X G a18, b18 := F18.binds (ps := ["_law_many", "_law_to"]) fun _ _ _ _ _ _ us hl => match us, hl with | [_, _], _ => rfl,
    F19 := F19, g19 := PySem.W.mg_of X G a19, b19 := F19.binds (ps := ["_law_script"]) fun _ _ _ _ _ _ us hl => match us, hl with | [_], _ => rfl,
    m_bool := PySem.W.mg_none_of X G z_bool,
    m_int := PySem.W.mg_none_of X G z_int,
    m_isinstance := PySem.W.mg_none_of X G z_isinstance,
    m_len := PySem.W.mg_none_of X G z_len,
    m_list := PySem.W.mg_none_of X G z_list,
    m_max := PySem.W.mg_none_of X G z_max,
    m_range := PySem.W.mg_none_of X G z_range,
    m_reversed := PySem.W.mg_none_of X G z_reversed,
    m_set := PySem.W.mg_none_of X G z_set,
    m_sorted := PySem.W.mg_none_of X G z_sorted,
    m_sum := PySem.W.mg_none_of X G z_sum,
    m_tuple := PySem.W.mg_none_of X G z_tuple,
    gC0 := PySem.W.mg_of X G zgC0_0,
    x0 := zx0_0,
    kC0 := zkC0_0,
    bC0 := zbC0_0,
    tC0 := ztC0_0,
    gC2 := PySem.W.mg_of X G zgC2_0,
    x2 := zx2_0,
    kC2 := zkC2_0,
    bC2 := zbC2_0,
    tC2 := ztC2_0 }
  exact ⟨_, fun s v => .of_eq rfl, fun base _ _ => (ok_law T).imp (spLaw_of hpl)⟩
end Lw
open PySem PySem.W PyProof.Rows
set_option maxHeartbeats 0 in
theorem PySem.Challenge.cw_mapweave_k11_whole_maps_counted_holds : PySem.Challenge.rw_mapweave_k11_whole_maps_counted.Holds := by
  w_on; o_law; k_head; (case hw => w_witness2)
  k_fill
  refine L2.walk_of (l := PySem.Challenge.rw_mapweave_k11_whole_maps_counted) (n := 63) (k := 4) (x := "_law_script") (CX := fun w => L2.CX PySem.Challenge.rw_mapweave_k11_whole_maps_counted.prog w) (sp := fun w => DL.spLaw _) rfl (by decide) rfl ⟨rfl, by decide, by decide⟩ (fun w h Y => PySem.W.kIn_of Y) ?F (fun _ _ a ns hl _ hS => ⟨a, ns, rfl, hS, hl, fun _ => rfl⟩) (fun _ _ _ _ _ h => DL.no_cx h)
  case F =>
    intro w mg fa h KX G hmg
    refine' Lw.all_mk KX G hmg ?a0 ?l0 ?c0 ?k0 ?a1 ?l1 ?c1 ?k1 ?a2 ?l2 ?c2 ?k2 ?a3 ?l3 ?c3 ?k3 ?a4 ?l4 ?c4 ?k4 ?a5 ?l5 ?c5 ?k5 ?a6 ?l6 ?c6 ?k6 ?a7 ?l7 ?c7 ?k7 ?a8 ?l8 ?c8 ?k8 ?a9 ?l9 ?c9 ?k9 ?a10 ?l10 ?c10 ?k10 ?a11 ?l11 ?c11 ?k11 ?a12 ?l12 ?c12 ?k12 ?a16 ?l16 ?c16 ?k16 ?a17 ?l17 ?c17 ?k17 ?a18 ?l18 ?c18 ?k18 ?a19 ?l19 ?c19 ?k19 ?z_bool ?z_int ?z_isinstance ?z_len ?z_list ?z_max ?z_range ?z_reversed ?z_set ?z_sorted ?z_sum ?z_tuple ?zgC0_0 ?zx0_0 ?zkC0_0 ?zbC0_0 ?ztC0_0 ?zgC2_0 ?zx2_0 ?zkC2_0 ?zbC2_0 ?ztC2_0 Lw.law_plain
    (case a0 => k_is); (case l0 => k_is); (case c0 => k_is); (case k0 => k_is); (case a1 => k_is); (case l1 => k_is)
    (case c1 => k_is); (case k1 => k_is); (case a2 => k_is); (case l2 => k_is); (case c2 => k_is); (case k2 => k_is)
    (case a3 => k_is); (case l3 => k_is); (case c3 => k_is); (case k3 => k_is); (case a4 => k_is); (case l4 => k_is)
    (case c4 => k_is); (case k4 => k_is); (case a5 => k_is); (case l5 => k_is); (case c5 => k_is); (case k5 => k_is)
    (case a6 => k_is); (case l6 => k_is); (case c6 => k_is); (case k6 => k_is); (case a7 => k_is); (case l7 => k_is)
    (case c7 => k_is); (case k7 => k_is); (case a8 => k_is); (case l8 => k_is); (case c8 => k_is); (case k8 => k_is)
    (case a9 => k_is); (case l9 => k_is); (case c9 => k_is); (case k9 => k_is); (case a10 => k_is); (case l10 => k_is)
    (case c10 => k_is); (case k10 => k_is); (case a11 => k_is); (case l11 => k_is); (case c11 => k_is); (case k11 => k_is)
    (case a12 => k_is); (case l12 => k_is); (case c12 => k_is); (case k12 => k_is); (case a16 => k_is); (case l16 => k_is)
    (case c16 => k_is); (case k16 => k_is); (case a17 => k_is); (case l17 => k_is); (case c17 => k_is); (case k17 => k_is)
    (case a18 => k_is); (case l18 => k_is); (case c18 => k_is); (case k18 => k_is); (case a19 => k_is); (case l19 => k_is)
    (case c19 => k_is); (case k19 => k_is); (case z_bool => k_is); (case z_int => k_is); (case z_isinstance => k_is); (case z_len => k_is)
    (case z_list => k_is); (case z_max => k_is); (case z_range => k_is); (case z_reversed => k_is); (case z_set => k_is); (case z_sorted => k_is)
    (case z_sum => k_is); (case z_tuple => k_is); (case zgC0_0 => k_is); (case zx0_0 => k_exc); (case zkC0_0 => k_is); (case zbC0_0 => k_is)
    (case ztC0_0 => k_is); (case zgC2_0 => k_is); (case zx2_0 => k_exc); (case zkC2_0 => k_is); (case zbC2_0 => k_is); (case ztC2_0 => k_is)

