import PyProof.Rows.All
import Wide.All
import OpenK.AllK
import Wide.FinOn
import PyProof.EqAt
import PyProof.EqKinds
import PyProof.TupleCall
import HandS.ForMost
import HandS.ForExc
import HandS.CallSlots
import HandS.IsInst
import HandS.ExcIs
import HandS.Style
import HandS.TupAny
import HandS.TupMul
import HandS.Zip
import HandS.Conv
import HandS.Deep
import HandS.Wide
import HandS.WideBits
import HandS.RevRange
import HandS.NoneIn
import HandS.SetFor
import HandS.Strs
import KE.GoesEnum
import KE.KDictZip
import HandS.Zip0
import HandS.Text
import HandS.FStr
import PyProof.StrOps2
import PySem.Challenge.RW_mapweave_k02_whole_texts
set_option Elab.async false
set_option linter.all false
set_option maxRecDepth 100000
set_option maxHeartbeats 4000000
/-! A data layer over HandS: each derivation also says, as a plain function of the slots' data, what the code computes. -/
namespace DL
open PySem PySem.Spec PyProof.Rows L2

/-- the data of the slots -/
abbrev Rho := List (Option PyData)
abbrev Fn := Rho → Option PyData
/-- the script, told as a thing of its own -/
def scrK (ns : List Int) : List (PyData × PyData) := ns.map fun n => (PyData.int n, PyData.none)

mutual
inductive Dd (K : PySem.W.Frag) (H : Hp) : V → PyData → Prop
  | non : Dd K H .non .none
  | bl (b : Bool) : Dd K H (.bl b) (.bool b)
  | int (i : Int) : Dd K H (.int i) (.int i)
  | str (x : Str) : Dd K H (.str x) (.str x)
  | lst {a : Addr} {xs : List V} {ds : List PyData} : H a = some (.lst xs) → DdAll K H xs ds → Dd K H (.ref a) (.list ds)
  | tup {a : Addr} {ob : Obj} {xs : List V} {ds : List PyData} : ob.dict = none → H a = some (.frz ob (.tup xs)) → DdAll K H xs ds → Dd K H (.ref a) (.tuple ds)
  | scr {a : Addr} {ns : List Int} : SqL K H a (ns.map V.int) → Dd K H (.ref a) (.dict (scrK ns))
inductive DdAll (K : PySem.W.Frag) (H : Hp) : List V → List PyData → Prop
  | nil : DdAll K H [] []
  | cons {v : V} {vs : List V} {d : PyData} {ds : List PyData} : Dd K H v d → DdAll K H vs ds → DdAll K H (v :: vs) (d :: ds)
end

section
variable {K : PySem.W.Frag} {H H' H1 H2 H3 : Hp}
mutual
theorem Dd.mono {v : V} {d : PyData} (e : Same H H') : Dd K H v d → Dd K H' v d
  | .non => .non
  | .bl b => .bl b
  | .int i => .int i
  | .str x => .str x
  | .lst h t => .lst (e _ _ h) (DdAll.mono e t)
  | .tup n h t => .tup n (e _ _ h) (DdAll.mono e t)
  | .scr h => .scr (e.seq h)
theorem DdAll.mono {vs : List V} {ds : List PyData} (e : Same H H') : DdAll K H vs ds → DdAll K H' vs ds
  | .nil => .nil
  | .cons a r => .cons (Dd.mono e a) (DdAll.mono e r)
end
theorem DdAll.length : ∀ {vs : List V} {ds : List PyData}, DdAll K H vs ds → vs.length = ds.length
  | _, _, .nil => rfl
  | _, _, .cons _ r => congrArg Nat.succ r.length
theorem DdAll.get : ∀ {vs : List V} {ds : List PyData} {i : Nat} {d : PyData}, DdAll K H vs ds → ds[i]? = some d → ∃ v, vs[i]? = some v ∧ Dd K H v d
  | _, _, _, _, .nil, h => by simp at h
  | _, _, 0, d, .cons a _, h => by simp at h; subst h; exact ⟨_, rfl, a⟩
  | _, _, i + 1, d, .cons _ r, h => by
    obtain ⟨v, h1, h2⟩ := DdAll.get (i := i) (d := d) r (by simpa using h)
    exact ⟨v, by simpa using h1, h2⟩
theorem DdAll.getv : ∀ {vs : List V} {ds : List PyData} {i : Nat} {v : V}, DdAll K H vs ds → vs[i]? = some v → ∃ d, ds[i]? = some d ∧ Dd K H v d
  | _, _, _, _, .nil, h => by simp at h
  | _, _, 0, d, .cons a _, h => by simp at h; subst h; exact ⟨_, rfl, a⟩
  | _, _, i + 1, d, .cons _ r, h => by
    obtain ⟨v, h1, h2⟩ := DdAll.getv (i := i) (v := d) r (by simpa using h)
    exact ⟨v, by simpa using h1, h2⟩
theorem DdAll.append : ∀ {vs ws : List V} {ds es : List PyData}, DdAll K H vs ds → DdAll K H ws es → DdAll K H (vs ++ ws) (ds ++ es)
  | _, _, _, _, .nil, s => s
  | _, _, _, _, .cons a r, s => .cons a (r.append s)
theorem DdAll.take : ∀ {vs : List V} {ds : List PyData} (n : Nat), DdAll K H vs ds → DdAll K H (vs.take n) (ds.take n)
  | _, _, 0, _ => .nil
  | _, _, _ + 1, .nil => .nil
  | _, _, n + 1, .cons a r => .cons a (DdAll.take n r)
theorem DdAll.drop : ∀ {vs : List V} {ds : List PyData} (n : Nat), DdAll K H vs ds → DdAll K H (vs.drop n) (ds.drop n)
  | _, _, 0, r => r
  | _, _, _ + 1, .nil => .nil
  | _, _, n + 1, .cons _ r => DdAll.drop n r
theorem DdAll.set {x : V} {d : PyData} (a : Dd K H x d) : ∀ {vs : List V} {ds : List PyData} (i : Nat), DdAll K H vs ds → DdAll K H (vs.set i x) (ds.set i d)
  | _, _, _, .nil => .nil
  | _, _, 0, .cons _ r => .cons a r
  | _, _, i + 1, .cons b r => .cons b (DdAll.set a i r)
theorem DdAll.erase : ∀ {vs : List V} {ds : List PyData} (i : Nat), DdAll K H vs ds → DdAll K H (vs.eraseIdx i) (ds.eraseIdx i)
  | _, _, _, .nil => .nil
  | _, _, 0, .cons _ r => r
  | _, _, i + 1, .cons b r => .cons b (DdAll.erase i r)
theorem DdAll.dropLast : ∀ {vs : List V} {ds : List PyData}, DdAll K H vs ds → DdAll K H vs.dropLast ds.dropLast
  | _, _, .nil => .nil
  | _, _, .cons a .nil => .nil
  | _, _, .cons a (.cons b r) => .cons a (DdAll.dropLast (.cons b r))
theorem DdAll.ints : ∀ (ns : List Int), DdAll K H (ns.map V.int) (ns.map PyData.int)
  | [] => .nil
  | n :: ns => .cons (.int n) (DdAll.ints ns)
theorem DdAll.rep {x : V} {d : PyData} (a : Dd K H x d) : ∀ n, DdAll K H (List.replicate n x) (List.replicate n d)
  | 0 => .nil
  | n + 1 => .cons a (DdAll.rep a n)

/-! ### from data of ours to Dp (for ==) -/
theorem sqL_of {a : Addr} {xs : List V} (h : H a = some (.lst xs)) : SqL K H a xs := .inl (.inl h)
theorem sqT_of {a : Addr} {ob : Obj} {xs : List V} (h : H a = some (.frz ob (.tup xs))) : SqT K H a xs := .inl (.inr ⟨ob, h⟩)
mutual
theorem Dd.dp {v : V} : ∀ {d : PyData}, Dd K H v d → d.canLay0 = true → Dp K H v d
  | _, .non, _ => .non
  | _, .bl b, _ => .bl b
  | _, .int i, _ => .int i
  | _, .str x, _ => .str x
  | _, .lst h t, c => .lst (sqL_of h) (DdAll.dp t (by simpa [PyData.canLay0] using c))
  | _, .tup _ h t, c => .tup (sqT_of h) (DdAll.dp t (by simpa [PyData.canLay0] using c))
  | _, .scr h, c => by simp [PyData.canLay0] at c
theorem DdAll.dp {vs : List V} : ∀ {ds : List PyData}, DdAll K H vs ds → PyData.canLayAll0 ds = true → DpAll K H vs ds
  | _, .nil, _ => .nil
  | _, .cons a r, c => by
    simp only [PyData.canLayAll0, Bool.and_eq_true] at c
    exact .cons (Dd.dp a c.1) (DdAll.dp r c.2)
end

/-! ### heaps -/
structure Grow (Hs H Hs' H' : Hp) : Prop where
  ex : Same H H'
  exs : Same Hs Hs'
  sub : Same Hs' H'
  new : ∀ a, Hs a = none → H a ≠ none → Hs' a = none
variable {Hs Hs' Hs1 Hs2 Hs0 H0 : Hp}
theorem Grow.refl (h : Same Hs H) : Grow Hs H Hs H := ⟨Same.refl _, Same.refl _, h, fun _ e _ => e⟩
theorem Grow.trans (a : Grow Hs H Hs1 H1) (b : Grow Hs1 H1 Hs2 H2) : Grow Hs H Hs2 H2 where
  ex := a.ex.trans b.ex
  exs := a.exs.trans b.exs
  sub := b.sub
  new := fun c e n => b.new c (a.new c e n) (fun z => n (a.ex.free z))
theorem Grow.idle (h : Same Hs H) (e : Same H H') : Grow Hs H Hs H' := ⟨e, Same.refl _, h.trans e, fun _ e _ => e⟩
theorem same_new {p : Addr} {o : HO} (h : H p = none) : Same H (upd H p o) := fun b x e => by
  rw [upd_ne (ne_of_none e h)]
  exact e
theorem Grow.alloc {p : Addr} {o : HO} (h : Same Hs H) (hp : H p = none) : Grow Hs H (upd Hs p o) (upd H p o) where
  ex := same_new hp
  exs := same_new (h.free hp)
  sub := fun b x e => by
    by_cases hb : b = p
    · subst hb; rw [upd_same] at e ⊢; exact e
    · rw [upd_ne hb] at e ⊢; exact h b x e
  new := fun a e n => by
    have : a ≠ p := fun z => n (by rw [z]; exact hp)
    rw [upd_ne this]; exact e
/-- a fresh object that is not shown to the data -/
theorem Grow.alloc0 {p : Addr} {o : HO} (h : Same Hs H) (hp : H p = none) : Grow Hs H Hs (upd H p o) := Grow.idle h (same_new hp)

/-- how slots and heap bear the data; M: the slots of lists that may change; Hs: what the data lean on; Hs0, H0: the entry -/
structure SR (K : PySem.W.Frag) (M : List Nat) (Hs0 H0 Hs H : Hp) (σ : L2.St) (ρ : Rho) : Prop where
  g : Grow Hs0 H0 Hs H
  len : σ.length = ρ.length
  frz : ∀ i d, ρ[i]? = some (some d) → M.contains i = false → ∃ v, σ[i]? = some (some v) ∧ Dd K Hs v d
  own : ∀ i d, ρ[i]? = some (some d) → M.contains i = true → ∃ p xs ds, d = .list ds ∧ σ[i]? = some (some (.ref p)) ∧ H p = some (.lst xs) ∧ Hs p = none ∧ H0 p = none ∧ DdAll K Hs xs ds
  sep : ∀ i j di dj p, ρ[i]? = some (some di) → ρ[j]? = some (some dj) → M.contains i = true → M.contains j = true → σ[i]? = some (some (.ref p)) → σ[j]? = some (some (.ref p)) → i = j
variable {M : List Nat} {σ : L2.St} {ρ : Rho}
theorem SR.sub (r : SR K M Hs0 H0 Hs H σ ρ) : Same Hs H := r.g.sub
theorem SR.grow (r : SR K M Hs0 H0 Hs H σ ρ) (e : Grow Hs H Hs' H') : SR K M Hs0 H0 Hs' H' σ ρ where
  g := r.g.trans e
  len := r.len
  frz := fun i d h m => let ⟨v, a, b⟩ := r.frz i d h m; ⟨v, a, b.mono e.exs⟩
  own := fun i d h m => let ⟨p, xs, ds, a, b, c, n, n0, k⟩ := r.own i d h m; ⟨p, xs, ds, a, b, e.ex _ _ c, e.new p n (by rw [c]; simp), n0, k.mono e.exs⟩
  sep := r.sep
/-- what has been new since the entry stands still -/
def thawH (H0 Hs H : Hp) : Hp := fun a => if H0 a = none then H a else Hs a
open Classical in
theorem SR.thaw (r : SR K M Hs0 H0 Hs H σ ρ) : ∃ Hp', Same Hs Hp' ∧ SR K [] Hs0 H0 Hp' H σ ρ ∧ SR K [] Hp' H Hp' H σ ρ := by
  refine ⟨fun a => if H0 a = none then H a else Hs a, ?_⟩
  have e1 : Same Hs (fun a => if H0 a = none then H a else Hs a) := fun b o e => by
    show (if H0 b = none then H b else Hs b) = some o
    by_cases z : H0 b = none
    · rw [if_pos z]; exact r.sub b o e
    · rw [if_neg z]; exact e
  have e2 : Same (fun a => if H0 a = none then H a else Hs a) H := fun b o e => by
    have e : (if H0 b = none then H b else Hs b) = some o := e
    by_cases z : H0 b = none
    · rw [if_pos z] at e; exact e
    · rw [if_neg z] at e; exact r.sub b o e
  have g : Grow Hs0 H0 (fun a => if H0 a = none then H a else Hs a) H := ⟨r.g.ex, r.g.exs.trans e1, e2, fun a e n => by
    show (if H0 a = none then H a else Hs a) = none
    rw [if_neg n]; exact r.g.new a e n⟩
  have fz : ∀ i d, ρ[i]? = some (some d) → ∃ v, σ[i]? = some (some v) ∧ Dd K (fun a => if H0 a = none then H a else Hs a) v d := fun i d h => by
    cases m : M.contains i with
    | false =>
      obtain ⟨v, a, b⟩ := r.frz i d h m
      exact ⟨v, a, b.mono e1⟩
    | true =>
      obtain ⟨p, xs, ds, rfl, b, c, n, n0, k⟩ := r.own i d h m
      exact ⟨_, b, .lst (by show (if H0 p = none then H p else Hs p) = _; rw [if_pos n0]; exact c) (k.mono e1)⟩
  exact ⟨e1, ⟨g, r.len, fun i d h _ => fz i d h, fun _ _ _ m => by simp at m, fun _ _ _ _ _ _ _ m => by simp at m⟩,
    ⟨Grow.refl e2, r.len, fun i d h _ => fz i d h, fun _ _ _ m => by simp at m, fun _ _ _ _ _ _ _ m => by simp at m⟩⟩
end
end DL

namespace DL
open PySem PySem.Spec PyProof.Rows L2

/-! ### judgements: a derivation, its reading, and the function of the data -/
structure ED (K : PySem.W.Frag) (X : Cx) (M : List Nat) (e : Expr) (t : TE) (f : Fn) : Prop where
  pe : PE X e t
  sm : ∀ {Hs0 H0 Hs H : Hp} {σ : L2.St} {ρ : Rho} {d : PyData} {Q : VK}, SR K M Hs0 H0 Hs H σ ρ → f ρ = some d → (∀ v Hs' H', Grow Hs H Hs' H' → Dd K Hs' v d → Q v H') → t σ H Q
structure AD (K : PySem.W.Frag) (X : Cx) (M : List Nat) (es : List Expr) (t : TA) (f : Rho → Option (List PyData)) : Prop where
  pa : PA X es t
  sm : ∀ {Hs0 H0 Hs H : Hp} {σ : L2.St} {ρ : Rho} {ds : List PyData} {Q : List V → Hp → Prop}, SR K M Hs0 H0 Hs H σ ρ → f ρ = some ds → (∀ vs Hs' H', Grow Hs H Hs' H' → DdAll K Hs' vs ds → Q vs H') → t σ H Q
structure TD (K : PySem.W.Frag) (X : Cx) (M : List Nat) (e : Expr) (t : TT) (f : Rho → Option Bool) : Prop where
  pt : PT X e t
  sm : ∀ {Hs0 H0 Hs H : Hp} {σ : L2.St} {ρ : Rho} {b : Bool} {Q : Bool → Hp → Prop}, SR K M Hs0 H0 Hs H σ ρ → f ρ = some b → (∀ H', Same H H' → Q b H') → t σ H Q
structure WD (K : PySem.W.Frag) (X : Cx) (M : List Nat) (e : Expr) (t : TT) (f : Rho → Option Bool) : Prop where
  pw : PW X e t
  sm : ∀ {Hs0 H0 Hs H : Hp} {σ : L2.St} {ρ : Rho} {b : Bool} {Q : Bool → Hp → Prop}, SR K M Hs0 H0 Hs H σ ρ → f ρ = some b → (∀ H', Same H H' → Q b H') → t σ H Q
/-- a fresh list, its items below Hs' -/
structure FD (K : PySem.W.Frag) (X : Cx) (M : List Nat) (e : Expr) (t : TE) (f : Rho → Option (List PyData)) : Prop where
  pe : PE X e t
  sm : ∀ {Hs0 H0 Hs H : Hp} {σ : L2.St} {ρ : Rho} {ds : List PyData} {Q : VK}, SR K M Hs0 H0 Hs H σ ρ → f ρ = some ds →
    (∀ p xs Hs' H', Grow Hs H Hs' H' → H p = none → Hs' p = none → H' p = some (.lst xs) → DdAll K Hs' xs ds → Q (.ref p) H') → t σ H Q

section
variable {K : PySem.W.Frag} {X : Cx} {M : List Nat} {a b c e : Expr} {es : List Expr} {ta tb tc te : TE} {t u : TT} {fa fb fc f : Fn} {pos p pos' : Pos}

/-! ### names, constants -/
@[simp] def fVar (i : Nat) : Fn := fun ρ => match ρ[i]? with
  | some o => o
  | none => none
@[simp] def fC (d : PyData) : Fn := fun _ => some d
theorem fVar_some {i : Nat} {ρ : Rho} {d : PyData} (h : fVar i ρ = some d) : ρ[i]? = some (some d) := by
  unfold fVar at h
  split at h
  · rename_i o e; rw [e, h]
  · cases h
theorem ed_var (i : Nat) {x : Str} (hN : X.N[i]? = some x := by rfl) (hv : Vis X.env.scope x := by first | exact Or.inl rfl | exact Or.inr (Or.inl rfl) | exact Or.inr (Or.inr rfl)) (hM : M.contains i = false := by rfl)
    (hd : (x == ("__debug__" : Str)) = false := by decide) (hcd : (x == ("__classdict__" : Str)) = false := by decide) : ED K X M (.Name x pos) (tVar i) (fVar i) :=
  ⟨pe_var hN hv hd hcd, fun {Hs0 H0 Hs H σ ρ d Q} r h q => by
    obtain ⟨v, a, b⟩ := r.frz i d (fVar_some h) hM
    exact ⟨v, a, q v Hs H (Grow.refl r.sub) b⟩⟩
theorem ed_int {i j} : ED K X M (.Constant (.int i) j pos) (tC (.int i)) (fC (.int i)) :=
  ⟨pe_int, fun {Hs0 H0 Hs H σ ρ d Q} r h q => by cases h; exact q _ Hs H (Grow.refl r.sub) (.int i)⟩
theorem ed_bl {i j} : ED K X M (.Constant (.bool i) j pos) (tC (.bl i)) (fC (.bool i)) :=
  ⟨pe_bl, fun {Hs0 H0 Hs H σ ρ d Q} r h q => by cases h; exact q _ Hs H (Grow.refl r.sub) (.bl i)⟩
theorem ed_non {j} : ED K X M (.Constant .none j pos) (tC .non) (fC .none) :=
  ⟨pe_non, fun {Hs0 H0 Hs H σ ρ d Q} r h q => by cases h; exact q _ Hs H (Grow.refl r.sub) .non⟩
theorem ed_str {x j} : ED K X M (.Constant (.str x) j pos) (tC (.str x)) (fC (.str x)) :=
  ⟨pe_str, fun {Hs0 H0 Hs H σ ρ d Q} r h q => by cases h; exact q _ Hs H (Grow.refl r.sub) (.str x)⟩

/-! ### argument lists, displays -/
@[simp] def fNil : Rho → Option (List PyData) := fun _ => some []
@[simp] def fCons (f : Fn) (g : Rho → Option (List PyData)) : Rho → Option (List PyData) := fun ρ => (f ρ).bind fun d => (g ρ).bind fun ds => some (d :: ds)
variable {tr : TA} {fr : Rho → Option (List PyData)}
theorem ad_nil : AD K X M [] tNil fNil := ⟨pa_nil, fun {Hs0 H0 Hs H σ ρ ds Q} r h q => by cases h; exact q [] Hs H (Grow.refl r.sub) .nil⟩
theorem ad_cons (ha : ED K X M e te f) (hr : AD K X M es tr fr) (hs : starEach (e :: es) X.env = (false, eval e X.env) :: starEach es X.env := by rfl) : AD K X M (e :: es) (tCons te tr) (fCons f fr) :=
  ⟨pa_cons ha.pe hr.pa hs, fun {Hs0 H0 Hs H σ ρ ds Q} r h q => by
    unfold fCons at h
    cases h1 : f ρ with
    | none => rw [h1] at h; cases h
    | some d =>
      rw [h1] at h
      cases h2 : fr ρ with
      | none => simp [h2] at h
      | some ds' =>
        simp [h2] at h
        subst h
        refine ha.sm r h1 fun v Hs1 H1 g1 d1 => ?_
        exact hr.sm (r.grow g1) h2 fun vs Hs2 H2 g2 d2 => q _ Hs2 H2 (g1.trans g2) (.cons (d1.mono g2.exs) d2)⟩
theorem szM {n : Nat} (h : n ≤ 1000000) : n ≤ sizeLine := Nat.le_trans h (by decide)
theorem szL {n : Nat} (h : n < 1000000) : n < sizeLine := Nat.lt_of_lt_of_le h (by decide)
@[simp] def fTup (g : Rho → Option (List PyData)) : Fn := fun ρ => (g ρ).bind fun ds => if ds.length ≤ 1000000 then some (.tuple ds) else none
@[simp] def fList (g : Rho → Option (List PyData)) : Rho → Option (List PyData) := fun ρ => (g ρ).bind fun ds => if ds.length ≤ 1000000 then some ds else none
@[simp] def fFr (g : Rho → Option (List PyData)) : Fn := fun ρ => (g ρ).bind fun ds => some (.list ds)
theorem bind_some {α β : Type} {o : Option α} {k : α → Option β} {b : β} (h : o.bind k = some b) : ∃ a, o = some a ∧ k a = some b := by
  cases o with
  | none => cases h
  | some a => exact ⟨a, rfl, h⟩
theorem ite_some {α : Type} {c : Prop} [Decidable c] {a b : α} (h : (if c then some a else none) = some b) : c ∧ a = b := by
  by_cases hc : c
  · rw [if_pos hc] at h; exact ⟨hc, Option.some.inj h⟩
  · rw [if_neg hc] at h; cases h
/-- a new tuple, told with its own object: it has no dict -/
theorem Inv.tupN {pins : List (Addr × Obj)} {σ : L2.St} {H : Hp} {s : Shared} {xs : List V} {its : List Value} {t' : Nat} (I : Inv X pins σ H s) (hv : Vals xs its) (hz : xs.length ≤ sizeLine) :
    Inv X pins σ (upd H s.heap.objs.size (.frz { cls := .type "tuple", data := .seq its.toArray } (.tup xs))) { s with heap := s.heap.push { cls := .type "tuple", data := .seq its.toArray }, toks := t' } :=
  I.laid (fun _ _ q => Heap.get?_push_of_some _ q) (Nat.le_refl _) ⟨Heap.get?_push_size _ rfl, hz, its, hv, ⟨_, Heap.get?_push_size _ rfl, rfl, _, rfl⟩⟩
def NewT (Q : VK) (H : Hp) (xs : List V) : Prop := ∀ p ob, ob.dict = none → H p = none → Q (.ref p) (upd H p (.frz ob (.tup xs)))
def tTupN (t : TA) : TE := fun σ H Q => t σ H fun xs H1 => xs.length ≤ sizeLine ∧ NewT Q H1 xs
theorem pe_tupN {x1} (h : PA X es tr) : PE X (.Tuple es x1 pos) (tTupN tr) := by
  refine ⟨fun pins s σ H Q I hq => ?_⟩
  refine wpAny_Tuple_spliced (thn (h.run pos pins s σ H _ I hq) fun us s1 ⟨xs, H1, I1, r, z, q⟩ => ⟨by rw [← r.length]; exact z, ?_⟩)
  exact ⟨.ref s1.heap.objs.size, _, Inv.tupN (t' := s1.toks) I1 r z, rfl, q _ _ rfl (I1.hok.fresh (Nat.le_refl _))⟩
theorem NewT.of {Q : VK} {Hs Hs1 H H1 : Hp} {vs : List V} {ds : List PyData} (g1 : Grow Hs H Hs1 H1) (d1 : DdAll K Hs1 vs ds) (q : ∀ v Hs' H', Grow Hs H Hs' H' → Dd K Hs' v (.tuple ds) → Q v H') : NewT Q H1 vs := fun p ob hn hp => by
  have g2 : Grow Hs1 H1 (upd Hs1 p (.frz ob (.tup vs))) (upd H1 p (.frz ob (.tup vs))) := Grow.alloc g1.sub hp
  exact q _ _ _ (g1.trans g2) (.tup hn upd_same (d1.mono g2.exs))
theorem ed_tup {k} (h : AD K X M es tr fr) : ED K X M (.Tuple es k pos) (tTupN tr) (fTup fr) :=
  ⟨pe_tupN h.pa, fun {Hs0 H0 Hs H σ ρ d Q} r hf q => by
    obtain ⟨ds, h1, h2⟩ := bind_some hf
    obtain ⟨hl, rfl⟩ := ite_some h2
    exact h.sm r h1 fun vs Hs1 H1 g1 d1 => ⟨szM (by rw [d1.length]; exact hl), NewT.of g1 d1 q⟩⟩
theorem fd_lst (h : AD K X M es tr fr) : FD K X M (.List es pos) (tLst tr) (fList fr) :=
  ⟨pe_lst h.pa, fun {Hs0 H0 Hs H σ ρ ds Q} r hf q => by
    obtain ⟨ds', h1, h2⟩ := bind_some hf
    obtain ⟨hl, rfl⟩ := ite_some h2
    refine h.sm r h1 fun vs Hs1 H1 g1 d1 => ⟨szM (by rw [d1.length]; exact hl), fun p hp => ?_⟩
    exact q p vs Hs1 _ (g1.trans (Grow.alloc0 g1.sub hp)) (g1.ex.free hp) (g1.sub.free hp) upd_same d1⟩
/-- a fresh list, told as data -/
theorem ed_fr {g : Rho → Option (List PyData)} (h : FD K X M e te g) : ED K X M e te (fFr g) :=
  ⟨h.pe, fun {Hs0 H0 Hs H σ ρ d Q} r hf q => by
    obtain ⟨ds, h1, h2⟩ := bind_some hf
    obtain rfl := Option.some.inj h2
    refine h.sm r h1 fun p xs Hs1 H1 g1 hp hsp hH d1 => ?_
    have e1 : Same Hs1 (upd Hs1 p (.lst xs)) := same_new hsp
    refine q _ (upd Hs1 p (.lst xs)) H1 ⟨g1.ex, g1.exs.trans e1, fun b o z => ?_, fun a z n => ?_⟩ (.lst upd_same (d1.mono e1))
    · by_cases hb : b = p
      · subst hb; rw [upd_same] at z; rw [hH]; exact z
      · rw [upd_ne hb] at z; exact g1.sub _ _ z
    · have : a ≠ p := fun y => n (by rw [y]; exact hp)
      rw [upd_ne this]; exact g1.new a z n⟩

/-! ### operations -/
@[simp] def f2 (g : PyData → PyData → Option PyData) (fa fb : Fn) : Fn := fun ρ => (fa ρ).bind fun x => (fb ρ).bind fun y => g x y
@[simp] def f1 (g : PyData → Option PyData) (fa : Fn) : Fn := fun ρ => (fa ρ).bind g
structure OD (K : PySem.W.Frag) (X : Cx) (op : Value → Value → Sem Value) (r : R2) (g : PyData → PyData → Option PyData) : Prop where
  op : OpR X op r
  sm : ∀ {Hs H : Hp} {x y : V} {dx dy d : PyData} {Q : VK}, Same Hs H → Dd K Hs x dx → Dd K Hs y dy → g dx dy = some d → (∀ v Hs' H', Grow Hs H Hs' H' → Dd K Hs' v d → Q v H') → r x y H Q
theorem two_sm {r : R2} {g : PyData → PyData → Option PyData} (ho : ∀ {Hs H : Hp} {x y : V} {dx dy d : PyData} {Q : VK}, Same Hs H → Dd K Hs x dx → Dd K Hs y dy → g dx dy = some d → (∀ v Hs' H', Grow Hs H Hs' H' → Dd K Hs' v d → Q v H') → r x y H Q)
    (ha : ED K X M a ta fa) (hb : ED K X M b tb fb) {Hs0 H0 Hs H : Hp} {σ : L2.St} {ρ : Rho} {d : PyData} {Q : VK} (R : SR K M Hs0 H0 Hs H σ ρ) (hf : f2 g fa fb ρ = some d) (q : ∀ v Hs' H', Grow Hs H Hs' H' → Dd K Hs' v d → Q v H') : tOp r ta tb σ H Q := by
  obtain ⟨x, h1, h2⟩ := bind_some hf
  obtain ⟨y, h2, h3⟩ := bind_some h2
  refine ha.sm R h1 fun v Hs1 H1 g1 d1 => ?_
  refine hb.sm (R.grow g1) h2 fun u Hs2 H2 g2 d2 => ?_
  exact ho g2.sub (d1.mono g2.exs) d2 h3 fun w Hs3 H3 g3 d3 => q w Hs3 H3 ((g1.trans g2).trans g3) d3
theorem ed_op {op : Operator} {r : R2} {g : PyData → PyData → Option PyData} (ho : OD K X (binaryOp op) r g) (ha : ED K X M a ta fa) (hb : ED K X M b tb fb) : ED K X M (.BinOp a op b pos) (tOp r ta tb) (f2 g fa fb) :=
  ⟨pe_op ho.op ha.pe hb.pe, fun R hf q => two_sm ho.sm ha hb R hf q⟩
theorem ed_cmp {op : CmpOp} {r : R2} {g : PyData → PyData → Option PyData} (ho : OD K X (compareOp op) r g) (ha : ED K X M a ta fa) (hb : ED K X M b tb fb) (hm : behindInMarks op b = false := by first | exact nomark _ | rfl) :
    ED K X M (.Compare a [op] [b] pos) (tOp r ta tb) (f2 g fa fb) :=
  ⟨pe_cmpR ho.op ha.pe hb.pe hm, fun R hf q => two_sm ho.sm ha hb R hf q⟩
/-- a value that is a truth, as a test -/
@[simp] def fB (f : Fn) : Rho → Option Bool := fun ρ => (f ρ).bind fun d => match d with
  | .bool b => some b
  | _ => none
theorem fB_some {ρ : Rho} {b : Bool} (h : fB f ρ = some b) : f ρ = some (.bool b) := by
  obtain ⟨d, h1, h2⟩ := bind_some h
  cases d <;> simp at h2
  subst h2; exact h1
theorem td_cmp {op : CmpOp} {r : R2} {g : PyData → PyData → Option PyData} (ho : OD K X (compareOp op) r g) (ha : ED K X M a ta fa) (hb : ED K X M b tb fb) (hm : behindInMarks op b = false := by first | exact nomark _ | rfl) :
    TD K X M (.Compare a [op] [b] pos) (tTest (tOp r ta tb)) (fB (f2 g fa fb)) :=
  ⟨pt_cmpR ho.op ha.pe hb.pe hm, fun {Hs0 H0 Hs H σ ρ c Q} R hf q => two_sm ho.sm ha hb R (fB_some hf) fun v Hs1 H1 g1 d1 => by
    cases d1
    exact ⟨_, rfl, q H1 g1.ex⟩⟩
theorem td_val (ha : ED K X M e te f) (he : ∀ whole, isTrue e X.env whole = (do let v ← whole; standAt e.pos; holding [v] (truthy v)) := by intro _; rfl) : TD K X M e (tB te) (fB f) :=
  ⟨pt_val ha.pe he, fun {Hs0 H0 Hs H σ ρ c Q} R hf q => ha.sm R (fB_some hf) fun v Hs1 H1 g1 d1 => by
    cases d1
    exact ⟨_, rfl, q H1 g1.ex⟩⟩

/-! ### and, or, not -/
@[simp] def bAnd (f g : Rho → Option Bool) : Rho → Option Bool := fun ρ => (f ρ).bind fun b => if b = true then g ρ else some false
@[simp] def bOr (f g : Rho → Option Bool) : Rho → Option Bool := fun ρ => (f ρ).bind fun b => if b = true then some true else g ρ
@[simp] def bNot (f : Rho → Option Bool) : Rho → Option Bool := fun ρ => (f ρ).bind fun b => some (!b)
variable {ba bb : Rho → Option Bool} {rest : List Expr}
theorem wd_and1 (h : TD K X M a t ba) : WD K X M (.BoolOp .And [a] pos) t ba := ⟨pw_and1 h.pt, h.sm⟩
theorem wd_or1 (h : TD K X M a t ba) : WD K X M (.BoolOp .Or [a] pos) t ba := ⟨pw_or1 h.pt, h.sm⟩
theorem SR.same {Hs0 H0 Hs H H' : Hp} {σ : L2.St} {ρ : Rho} (r : SR K M Hs0 H0 Hs H σ ρ) (e : Same H H') : SR K M Hs0 H0 Hs H' σ ρ := r.grow (Grow.idle r.sub e)
theorem wd_and (ha : TD K X M a t ba) (hb : WD K X M (.BoolOp .And (b :: rest) pos) u bb) : WD K X M (.BoolOp .And (a :: b :: rest) pos) (tAnd t u) (bAnd ba bb) :=
  ⟨pw_and ha.pt hb.pw, fun {Hs0 H0 Hs H σ ρ c Q} R hf q => by
    obtain ⟨x, h1, h2⟩ := bind_some hf
    refine ha.sm R h1 fun H1 e1 => ?_
    cases x with
    | true =>
      rw [if_pos rfl] at h2 ⊢
      exact hb.sm (R.same e1) h2 fun H2 e2 => q H2 (e1.trans e2)
    | false =>
      rw [if_neg Bool.false_ne_true] at h2 ⊢
      cases h2
      exact q H1 e1⟩
theorem wd_or (ha : TD K X M a t ba) (hb : WD K X M (.BoolOp .Or (b :: rest) pos) u bb) : WD K X M (.BoolOp .Or (a :: b :: rest) pos) (tOr t u) (bOr ba bb) :=
  ⟨pw_or ha.pt hb.pw, fun {Hs0 H0 Hs H σ ρ c Q} R hf q => by
    obtain ⟨x, h1, h2⟩ := bind_some hf
    refine ha.sm R h1 fun H1 e1 => ?_
    cases x with
    | false =>
      rw [if_neg Bool.false_ne_true] at h2 ⊢
      exact hb.sm (R.same e1) h2 fun H2 e2 => q H2 (e1.trans e2)
    | true =>
      rw [if_pos rfl] at h2 ⊢
      cases h2
      exact q H1 e1⟩
theorem td_w (h : WD K X M e t ba) : TD K X M e t ba := ⟨h.pw.pt, h.sm⟩
theorem td_not (h : TD K X M a t ba) : TD K X M (.UnaryOp .Not a pos) (tNot t) (bNot ba) :=
  ⟨pt_not h.pt, fun {Hs0 H0 Hs H σ ρ c Q} R hf q => by
    obtain ⟨x, h1, h2⟩ := bind_some hf
    cases h2
    exact h.sm R h1 fun H1 e1 => q H1 e1⟩
/-- as values -/
@[simp] def fAnd (fa fb : Fn) : Fn := fun ρ => (fa ρ).bind fun d => match d with
  | .bool true => fb ρ
  | .bool false => some (.bool false)
  | _ => none
@[simp] def fOr (fa fb : Fn) : Fn := fun ρ => (fa ρ).bind fun d => match d with
  | .bool false => fb ρ
  | .bool true => some (.bool true)
  | _ => none
@[simp] def fNot (fa : Fn) : Fn := fun ρ => (fa ρ).bind fun d => match d with
  | .bool b => some (.bool (!b))
  | _ => none
theorem ed_one {op} (h : ED K X M a ta fa) : ED K X M (.BoolOp op [a] pos) ta fa := ⟨pe_one h.pe, h.sm⟩
theorem ed_and (ha : ED K X M a ta fa) (hb : ED K X M (.BoolOp .And (b :: rest) pos) tb fb) : ED K X M (.BoolOp .And (a :: b :: rest) pos) (tAndV ta tb) (fAnd fa fb) :=
  ⟨pe_and ha.pe hb.pe, fun {Hs0 H0 Hs H σ ρ d Q} R hf q => by
    obtain ⟨x, h1, h2⟩ := bind_some hf
    refine ha.sm R h1 fun v Hs1 H1 g1 d1 => ?_
    cases x with
    | bool k =>
      cases d1
      refine ⟨k, rfl, ?_⟩
      cases k with
      | true => rw [if_pos rfl]; exact hb.sm (R.grow g1) h2 fun w Hs2 H2 g2 d2 => q w Hs2 H2 (g1.trans g2) d2
      | false =>
        rw [if_neg Bool.false_ne_true]
        obtain rfl := Option.some.inj h2
        exact q _ Hs1 H1 g1 (.bl false)
    | _ => cases h2⟩
theorem ed_or (ha : ED K X M a ta fa) (hb : ED K X M (.BoolOp .Or (b :: rest) pos) tb fb) : ED K X M (.BoolOp .Or (a :: b :: rest) pos) (tOrV ta tb) (fOr fa fb) :=
  ⟨pe_or ha.pe hb.pe, fun {Hs0 H0 Hs H σ ρ d Q} R hf q => by
    obtain ⟨x, h1, h2⟩ := bind_some hf
    refine ha.sm R h1 fun v Hs1 H1 g1 d1 => ?_
    cases x with
    | bool k =>
      cases d1
      refine ⟨k, rfl, ?_⟩
      cases k with
      | false => rw [if_neg Bool.false_ne_true]; exact hb.sm (R.grow g1) h2 fun w Hs2 H2 g2 d2 => q w Hs2 H2 (g1.trans g2) d2
      | true =>
        rw [if_pos rfl]
        obtain rfl := Option.some.inj h2
        exact q _ Hs1 H1 g1 (.bl true)
    | _ => cases h2⟩
theorem ed_not (ha : ED K X M a ta fa) : ED K X M (.UnaryOp .Not a pos) (tNotV ta) (fNot fa) :=
  ⟨pe_not ha.pe, fun {Hs0 H0 Hs H σ ρ d Q} R hf q => by
    obtain ⟨x, h1, h2⟩ := bind_some hf
    refine ha.sm R h1 fun v Hs1 H1 g1 d1 => ?_
    cases x with
    | bool k =>
      cases d1
      obtain rfl := Option.some.inj h2
      exact ⟨k, rfl, q _ Hs1 H1 g1 (.bl _)⟩
    | _ => cases h2⟩
/-- a if c else b -/
@[simp] def fIf (c : Rho → Option Bool) (fa fb : Fn) : Fn := fun ρ => (c ρ).bind fun k => if k = true then fa ρ else fb ρ
theorem ed_if {c : Expr} (hc : TD K X M c t ba) (ha : ED K X M a ta fa) (hb : ED K X M b tb fb) : ED K X M (.IfExp c a b pos) (tIf t ta tb) (fIf ba fa fb) :=
  ⟨pe_ifExp hc.pt ha.pe hb.pe, fun {Hs0 H0 Hs H σ ρ d Q} R hf q => by
    obtain ⟨x, h1, h2⟩ := bind_some hf
    refine hc.sm R h1 fun H1 e1 => ?_
    cases x with
    | true => rw [if_pos rfl] at h2 ⊢; exact ha.sm (R.same e1) h2 fun v Hs2 H2 g2 d2 => q v Hs2 H2 ((Grow.idle R.sub e1).trans g2) d2
    | false => rw [if_neg Bool.false_ne_true] at h2 ⊢; exact hb.sm (R.same e1) h2 fun v Hs2 H2 g2 d2 => q v Hs2 H2 ((Grow.idle R.sub e1).trans g2) d2⟩

/-! ### chains of comparisons -/
@[simp] def fChain (g g' : PyData → PyData → Option PyData) (fa fb fc : Fn) : Fn := fun ρ => (fa ρ).bind fun x => (fb ρ).bind fun y => (g x y).bind fun z => match z with
  | .bool true => (fc ρ).bind fun w => g' y w
  | .bool false => some (.bool false)
  | _ => none
theorem chain_sm {op op' : CmpOp} {r r' : R2} {g g' : PyData → PyData → Option PyData} (ho : OD K X (compareOp op) r g) (ho' : OD K X (compareOp op') r' g') (ha : ED K X M a ta fa) (hb : ED K X M b tb fb) (hc : ED K X M c tc fc)
    {Hs0 H0 Hs H : Hp} {σ : L2.St} {ρ : Rho} {d : PyData} {Q : VK} (R : SR K M Hs0 H0 Hs H σ ρ) (hf : fChain g g' fa fb fc ρ = some d) (q : ∀ v Hs' H', Grow Hs H Hs' H' → Dd K Hs' v d → Q v H') : tChain r r' ta tb tc σ H Q := by
  obtain ⟨x, h1, h2⟩ := bind_some hf
  obtain ⟨y, h2, h3⟩ := bind_some h2
  obtain ⟨z, h3, h4⟩ := bind_some h3
  refine ha.sm R h1 fun v Hs1 H1 g1 d1 => ?_
  refine hb.sm (R.grow g1) h2 fun u Hs2 H2 g2 d2 => ?_
  refine ho.sm g2.sub (d1.mono g2.exs) d2 h3 fun w Hs3 H3 g3 d3 => ?_
  cases z with
  | bool k =>
    cases d3
    refine ⟨k, rfl, ?_⟩
    cases k with
    | true =>
      rw [if_pos rfl]
      obtain ⟨w', h5, h6⟩ := bind_some h4
      refine hc.sm (((R.grow g1).grow g2).grow g3) h5 fun w Hs4 H4 g4 d4 => ?_
      exact ho'.sm g4.sub ((d2.mono g3.exs).mono g4.exs) d4 h6 fun o Hs5 H5 g5 d5 => q o Hs5 H5 ((((g1.trans g2).trans g3).trans g4).trans g5) d5
    | false =>
      rw [if_neg Bool.false_ne_true]
      obtain rfl := Option.some.inj h4
      exact q _ Hs3 H3 ((g1.trans g2).trans g3) (.bl false)
  | _ => cases h4
theorem ed_chain {op op' : CmpOp} {r r' : R2} {g g' : PyData → PyData → Option PyData} (ho : OD K X (compareOp op) r g) (ho' : OD K X (compareOp op') r' g') (ha : ED K X M a ta fa) (hb : ED K X M b tb fb) (hc : ED K X M c tc fc)
    (hm : lastMarks [op, op'] [b, c] = false := by with_unfolding_all rfl) : ED K X M (.Compare a [op, op'] [b, c] pos) (tChain r r' ta tb tc) (fChain g g' fa fb fc) :=
  ⟨pe_chain ho.op ho'.op ha.pe hb.pe hc.pe hm, fun R hf q => chain_sm ho ho' ha hb hc R hf q⟩
theorem td_chain {op op' : CmpOp} {r r' : R2} {g g' : PyData → PyData → Option PyData} (ho : OD K X (compareOp op) r g) (ho' : OD K X (compareOp op') r' g') (ha : ED K X M a ta fa) (hb : ED K X M b tb fb) (hc : ED K X M c tc fc)
    (hm : lastMarks [op, op'] [b, c] = false := by with_unfolding_all rfl) : TD K X M (.Compare a [op, op'] [b, c] pos) (tTest (tChain r r' ta tb tc)) (fB (fChain g g' fa fb fc)) :=
  ⟨pt_chain ho.op ho'.op ha.pe hb.pe hc.pe hm, fun {Hs0 H0 Hs H σ ρ k Q} R hf q => chain_sm ho ho' ha hb hc R (fB_some hf) fun v Hs1 H1 g1 d1 => by
    cases d1
    exact ⟨_, rfl, q H1 g1.ex⟩⟩

/-! ### truth of any value -/
@[simp] def gTru : PyData → Option Bool
  | .none => some false
  | .bool b => some b
  | .int i => some (i != 0)
  | .str x => if x.length ≤ 1000000 then some ((x.length : Int) != 0) else none
  | .list ds => some (!ds.isEmpty)
  | .tuple ds => some (!ds.isEmpty)
  | .dict _ => none
@[simp] def fTru (f : Fn) : Rho → Option Bool := fun ρ => (f ρ).bind gTru
theorem isEmpty_dd {H : Hp} {vs : List V} {ds : List PyData} (h : DdAll K H vs ds) : ds.isEmpty = vs.isEmpty := by
  cases h <;> rfl
theorem td_truth (ha : ED K X M e te f) (hK : X.K = K := by rfl) (he : ∀ whole, isTrue e X.env whole = (do let v ← whole; standAt e.pos; holding [v] (truthy v)) := by intro _; rfl) :
    TD K X M e (fun σ H Q => te σ H fun x H' => ∃ k, TruV K x H' k ∧ Q k H') (fTru f) := by
  subst hK
  refine ⟨pt_truth ha.pe he, fun {Hs0 H0 Hs H σ ρ k Q} R hf q => ?_⟩
  obtain ⟨d, h1, h2⟩ := bind_some hf
  refine ha.sm R h1 fun v Hs1 H1 g1 d1 => ⟨k, ?_, q H1 g1.ex⟩
  cases d1 with
  | non => exact (Option.some.inj h2).symm
  | bl b => exact (Option.some.inj h2).symm
  | int i => exact (Option.some.inj h2).symm
  | str x =>
    obtain ⟨a, b⟩ := ite_some h2
    exact ⟨szM a, b.symm⟩
  | lst h t => exact .inl ⟨_, sqL_of (g1.sub _ _ h), by rw [← isEmpty_dd t]; exact (Option.some.inj h2).symm⟩
  | tup n h t => exact .inr (.inl ⟨_, sqT_of (g1.sub _ _ h), by rw [← isEmpty_dd t]; exact (Option.some.inj h2).symm⟩)
  | scr h => cases h2
end
end DL

namespace DL
open PySem PySem.Spec PyProof.Rows L2
section
variable {K : PySem.W.Frag} {X : Cx}

/-! ### operators of ints -/
theorem od_I {op : Value → Value → Sem Value} {C : Int → Int → Prop} [DecidableRel C] {h : Int → Int → V} {g : Int → Int → PyData} (ho : OpR X op (rI C h)) (hd : ∀ (H : Hp) i j, Dd K H (h i j) (g i j)) :
    OD K X op (rI C h) (fun x y => match x, y with
      | .int i, .int j => if C i j then some (g i j) else none
      | _, _ => none) :=
  ⟨ho, fun {Hs H x y dx dy d Q} e a b hf q => by
    cases a <;> cases b <;> first
      | (cases hf; done)
      | (rename_i i j
         obtain ⟨hc, rfl⟩ := ite_some hf
         exact ⟨i, j, rfl, rfl, hc, q _ Hs H (Grow.refl e) (hd _ i j)⟩)⟩
theorem od_I0 {op : Value → Value → Sem Value} {h : Int → Int → V} {g : Int → Int → PyData} (ho : OpR X op (rI0 h)) (hd : ∀ (H : Hp) i j, Dd K H (h i j) (g i j)) :
    OD K X op (rI0 h) (fun x y => match x, y with
      | .int i, .int j => some (g i j)
      | _, _ => none) :=
  ⟨ho, fun {Hs H x y dx dy d Q} e a b hf q => by
    cases a <;> cases b <;> first
      | (cases hf; done)
      | (rename_i i j
         obtain rfl := Option.some.inj hf
         exact ⟨i, j, rfl, rfl, q _ Hs H (Grow.refl e) (hd _ i j)⟩)⟩
@[simp] def gI (g : Int → Int → Int) : PyData → PyData → Option PyData := fun x y => match x, y with
  | .int i, .int j => some (.int (g i j))
  | _, _ => none
@[simp] def gIc (C : Int → Int → Prop) [DecidableRel C] (g : Int → Int → Int) : PyData → PyData → Option PyData := fun x y => match x, y with
  | .int i, .int j => if C i j then some (.int (g i j)) else none
  | _, _ => none
@[simp] def gIb (g : Int → Int → Bool) : PyData → PyData → Option PyData := fun x y => match x, y with
  | .int i, .int j => some (.bool (g i j))
  | _, _ => none
theorem od_sub : OD K X (binaryOp .Sub) (rI0 fun i j => .int (i - j)) (gI fun i j => i - j) := od_I0 (g := fun i j => .int (i - j)) op_sub fun _ _ _ => .int _
/-- conditions are not reckoned but shown -/
noncomputable instance : DecidableRel CDiv := fun _ _ => Classical.propDecidable _
noncomputable instance : DecidableRel CPow := fun _ _ => Classical.propDecidable _
def MulOk (i j : Int) : Prop := CMul i j ∨ CMulX i j
noncomputable instance : DecidableRel MulOk := fun _ _ => Classical.propDecidable _
theorem op_mulO : OpR X (binaryOp .Mult) (rI MulOk fun i j => .int (i * j)) := opI fun _ _ _ _ _ _ _ hc q => mul_int q (hc.elim CMul.ok CMulX.ok)
theorem od_mod : OD K X (binaryOp .Mod) (rI (fun _ j => 0 < j) fun i j => .int (i % j)) (gIc (fun _ j => 0 < j) fun i j => i % j) := od_I (C := fun _ j => 0 < j) (g := fun i j => .int (i % j)) op_mod fun _ _ _ => .int _
theorem od_fdiv : OD K X (binaryOp .FloorDiv) (rI CDiv fun i j => .int (i / j)) (gIc CDiv fun i j => i / j) := od_I (g := fun i j => .int (i / j)) op_fdiv fun _ _ _ => .int _
theorem od_pow : OD K X (binaryOp .Pow) (rI CPow fun i j => .int (i ^ j.toNat)) (gIc CPow fun i j => i ^ j.toNat) := od_I (g := fun i j => .int (i ^ j.toNat)) op_pow fun _ _ _ => .int _
theorem od_shr : OD K X (binaryOp .RShift) (rI (fun _ j => 0 ≤ j) fun i j => .int (i / 2 ^ j.toNat)) (gIc (fun _ j => 0 ≤ j) fun i j => i / 2 ^ j.toNat) := od_I (C := fun _ j => 0 ≤ j) (g := fun i j => .int (i / 2 ^ j.toNat)) op_shr fun _ _ _ => .int _
theorem od_and : OD K X (binaryOp .BitAnd) (rI0 fun i j => .int (Builtin.bitAnd i j)) (gI fun i j => Builtin.bitAnd i j) := od_I0 (g := fun i j => .int (Builtin.bitAnd i j)) op_and fun _ _ _ => .int _
theorem od_lt : OD K X (compareOp .Lt) (rI0 fun i j => .bl (decide (i < j))) (gIb fun i j => decide (i < j)) := od_I0 (g := fun i j => .bool (decide (i < j))) op_lt fun _ _ _ => .bl _
theorem od_le : OD K X (compareOp .LtE) (rI0 fun i j => .bl (decide (i ≤ j))) (gIb fun i j => decide (i ≤ j)) := od_I0 (g := fun i j => .bool (decide (i ≤ j))) op_le fun _ _ _ => .bl _
theorem od_gt : OD K X (compareOp .Gt) (rI0 fun i j => .bl (decide (j < i))) (gIb fun i j => decide (j < i)) := od_I0 (g := fun i j => .bool (decide (j < i))) op_gt fun _ _ _ => .bl _
theorem od_ge : OD K X (compareOp .GtE) (rI0 fun i j => .bl (decide (j ≤ i))) (gIb fun i j => decide (j ≤ i)) := od_I0 (g := fun i j => .bool (decide (j ≤ i))) op_ge fun _ _ _ => .bl _
@[simp] def gNeg : PyData → Option PyData := fun x => match x with
  | .int i => some (.int (-i))
  | _ => none
theorem un_neg' {M : List Nat} {a : Expr} {ta : TE} {fa : Fn} {pos : Pos} (ha : ED K X M a ta fa) : ED K X M (.UnaryOp .USub a pos) (tUn (rU fun i => .int (-i)) ta) (f1 gNeg fa) :=
  ⟨pe_un un_neg ha.pe, fun {Hs0 H0 Hs H σ ρ d Q} R hf q => by
    obtain ⟨x, h1, h2⟩ := bind_some hf
    refine ha.sm R h1 fun v Hs1 H1 g1 d1 => ?_
    cases d1 <;> first
      | (cases h2; done)
      | (obtain rfl := Option.some.inj h2
         exact ⟨_, rfl, q _ Hs1 H1 g1 (.int _)⟩)⟩

/-! ### +, of ints, texts, tuples, lists -/
def rCatN (K : PySem.W.Frag) : R2 := fun x y H Q => ∃ a b xs ys, x = .ref a ∧ y = .ref b ∧ SqT K H a xs ∧ SqT K H b ys ∧ xs.length + ys.length ≤ sizeLine ∧
  (xs = [] → Q (.ref b) H) ∧ (xs ≠ [] → ys = [] → Q (.ref a) H) ∧ (xs ≠ [] → ys ≠ [] → NewT Q H (xs ++ ys))
theorem op_catN : OpR X (binaryOp .Add) (rCatN X.K) := by
  intro pins s σ H x y v u Q I rx ry h
  obtain ⟨a, b, xs, ys, rfl, rfl, ha, hb, hz, q0, q1, q2⟩ := h
  cases rx
  cases ry
  obtain ⟨its, r1, p1, _⟩ := I.tuple ha
  obtain ⟨its2, r2, p2, _⟩ := I.tuple hb
  by_cases hx : xs = []
  · subst hx
    cases r1
    exact cat_tup0 p1 p2 ⟨.ref b, H, I, rfl, q0 rfl⟩
  · refine HT.cat_tup p1 p2 (fun z => hx (r1.nil_iff.mp z)) (fun z => ⟨.ref a, H, I, rfl, q1 hx (r2.nil_iff.mp z)⟩) (fun z => ?_) (by rw [← r1.length, ← r2.length]; exact hz)
    exact ⟨.ref s.heap.objs.size, _, Inv.tupN (t' := s.toks) I (r1.append r2) (by rw [List.length_append]; exact hz), rfl, q2 hx (fun w => z (r2.nil_iff.mpr w)) _ _ rfl (I.hok.fresh (Nat.le_refl _))⟩
def rAddD (K : PySem.W.Frag) : R2 := fun x y H Q => rI0 (fun i j => .int (i + j)) x y H Q ∨ (∃ i j, x = .str i ∧ y = .str j ∧ i.length + j.length ≤ sizeLine ∧ Q (.str (i ++ j)) H) ∨ rCatN K x y H Q ∨ rCat x y H Q
@[simp] def gAdd : PyData → PyData → Option PyData
  | .int a, .int b => some (.int (a + b))
  | .str a, .str b => if a.length + b.length ≤ 1000000 then some (.str (a ++ b)) else none
  | .tuple a, .tuple b => if a.length + b.length ≤ 1000000 then some (.tuple (a ++ b)) else none
  | .list a, .list b => if a.length + b.length ≤ 1000000 then some (.list (a ++ b)) else none
  | _, _ => none
theorem od_add (hK : X.K = K := by rfl) : OD K X (binaryOp .Add) (rAddD K) gAdd := by
  subst hK
  refine ⟨op_add.or (op_add_str.or (op_catN.or op_cat)), fun {Hs H x y dx dy d Q} e a b hf q => ?_⟩
  cases a with
  | int i =>
    cases b with
    | int j =>
      obtain rfl := Option.some.inj hf
      exact .inl ⟨i, j, rfl, rfl, q _ Hs H (Grow.refl e) (.int _)⟩
    | _ => cases hf
  | str i =>
    cases b with
    | str j =>
      obtain ⟨hl, rfl⟩ := ite_some hf
      exact .inr (.inl ⟨i, j, rfl, rfl, szM hl, q _ Hs H (Grow.refl e) (.str _)⟩)
    | _ => cases hf
  | @tup a1 ob1 xs ds n1 h1 t1 =>
    cases b with
    | @tup a2 ob2 ys es n2 h2 t2 =>
      obtain ⟨hl, rfl⟩ := ite_some hf
      refine .inr (.inr (.inl ⟨a1, a2, xs, ys, rfl, rfl, sqT_of (e _ _ h1), sqT_of (e _ _ h2), szM (by rw [t1.length, t2.length]; exact hl), fun z => ?_, fun _ z => ?_, fun _ _ => NewT.of (Grow.refl e) (t1.append t2) q⟩))
      · subst z
        cases t1
        exact q _ Hs H (Grow.refl e) (.tup n2 h2 t2)
      · subst z
        cases t2
        rw [List.append_nil] at q
        exact q _ Hs H (Grow.refl e) (.tup n1 h1 t1)
    | _ => cases hf
  | @lst a1 xs ds h1 t1 =>
    cases b with
    | @lst a2 ys es h2 t2 =>
      obtain ⟨hl, rfl⟩ := ite_some hf
      refine .inr (.inr (.inr ⟨a1, a2, xs, ys, rfl, rfl, e _ _ h1, e _ _ h2, szM (by rw [t1.length, t2.length]; exact hl), fun p hp => ?_⟩))
      have g2 : Grow Hs H (upd Hs p (.lst (xs ++ ys))) (upd H p (.lst (xs ++ ys))) := Grow.alloc e hp
      exact q _ _ _ g2 (.lst upd_same ((t1.append t2).mono g2.exs))
    | _ => cases hf
  | _ => cases hf

/-! ### * -/
/-- a tuple times an int: nothing, itself, or anew -/
theorem flat_rep_nil {α : Type} (n : Nat) : (List.replicate n ([] : List α)).flatten = [] := by
  induction n with
  | zero => rfl
  | succ n ih => rw [List.replicate_succ, List.flatten_cons, ih]; rfl
/-! ### ==, != of data; is; in -/
def gEq (neg : Bool) : PyData → PyData → Option PyData := fun x y => if SeqAt.shaped x = true ∧ SeqAt.shaped y = true then some (.bool (xor neg (PyData.eqv x y))) else none
theorem od_eq {k : Nat} (hr : Room k X.A) (hK : X.K = K := by rfl) : OD K X (compareOp .Eq) (rEqD K) (gEq false) := by
  subst hK
  refine ⟨op_eqD hr.units, fun {Hs H x y dx dy d Q} e a b hf q => ?_⟩
  obtain ⟨⟨c1, c2⟩, rfl⟩ := ite_some hf
  refine ⟨dx, dy, (a.mono e).dp (SeqAt.canLay_of_shaped c1), (b.mono e).dp (SeqAt.canLay_of_shaped c2), c1, c2, ?_⟩
  have := q (.bl (xor false (PyData.eqv dx dy))) Hs H (Grow.refl e) (.bl _)
  rwa [Bool.false_xor] at this
theorem od_ne {k : Nat} (hr : Room k X.A) (hK : X.K = K := by rfl) : OD K X (compareOp .NotEq) (rNeD K) (gEq true) := by
  subst hK
  refine ⟨op_neD hr.units, fun {Hs H x y dx dy d Q} e a b hf q => ?_⟩
  obtain ⟨⟨c1, c2⟩, rfl⟩ := ite_some hf
  refine ⟨dx, dy, (a.mono e).dp (SeqAt.canLay_of_shaped c1), (b.mono e).dp (SeqAt.canLay_of_shaped c2), c1, c2, ?_⟩
  have := q (.bl (xor true (PyData.eqv dx dy))) Hs H (Grow.refl e) (.bl _)
  rwa [Bool.true_xor] at this
/-- is, is not: of truths, or with None on the right -/
@[simp] def gIs (neg : Bool) : PyData → PyData → Option PyData
  | .bool a, .bool b => some (.bool (xor neg (decide (a = b))))
  | .none, .none => some (.bool (xor neg true))
  | .bool _, .none => some (.bool (xor neg false))
  | .int _, .none => some (.bool (xor neg false))
  | .str _, .none => some (.bool (xor neg false))
  | .tuple _, .none => some (.bool (xor neg false))
  | .list _, .none => some (.bool (xor neg false))
  | _, _ => none
def rIsD (neg : Bool) : R2 := fun x y H Q => (∃ a b, x = .bl a ∧ y = .bl b ∧ Q (.bl (xor neg (decide (a = b)))) H) ∨ (y = .non ∧ Q (.bl (xor neg (decide (x = .non)))) H)
theorem is_sm {neg : Bool} {Hs H : Hp} {x y : V} {dx dy d : PyData} {Q : VK} (e : Same Hs H) (a : Dd K Hs x dx) (b : Dd K Hs y dy) (hf : gIs neg dx dy = some d) (q : ∀ v Hs' H', Grow Hs H Hs' H' → Dd K Hs' v d → Q v H') : rIsD neg x y H Q := by
  cases b with
  | bl k =>
    cases a <;> first
      | (cases hf; done)
      | (rename_i j
         obtain rfl := Option.some.inj hf
         exact .inl ⟨j, k, rfl, rfl, q _ Hs H (Grow.refl e) (.bl _)⟩)
  | non =>
    refine .inr ⟨rfl, ?_⟩
    have z : ∀ (u : V), u ≠ .non → decide (u = .non) = false := fun u hu => decide_eq_false hu
    cases a with
    | non =>
      obtain rfl := Option.some.inj hf
      exact q _ Hs H (Grow.refl e) (.bl _)
    | bl j =>
      obtain rfl := Option.some.inj hf
      rw [z (.bl j) (fun w => nomatch w)]
      exact q _ Hs H (Grow.refl e) (.bl _)
    | int j =>
      obtain rfl := Option.some.inj hf
      rw [z (.int j) (fun w => nomatch w)]
      exact q _ Hs H (Grow.refl e) (.bl _)
    | str j =>
      obtain rfl := Option.some.inj hf
      rw [z (.str j) (fun w => nomatch w)]
      exact q _ Hs H (Grow.refl e) (.bl _)
    | lst h t =>
      obtain rfl := Option.some.inj hf
      rw [z (.ref _) (fun w => nomatch w)]
      exact q _ Hs H (Grow.refl e) (.bl _)
    | tup n h t =>
      obtain rfl := Option.some.inj hf
      rw [z (.ref _) (fun w => nomatch w)]
      exact q _ Hs H (Grow.refl e) (.bl _)
    | scr h => cases hf
  | _ => cases a <;> cases hf
theorem od_is : OD K X (compareOp .Is) (rIsD false) (gIs false) :=
  ⟨fun pins s σ H x y v u Q I rx ry h => by
    rcases h with ⟨a, b, rfl, rfl, q⟩ | ⟨rfl, q⟩
    · exact op_isBl pins s σ H _ _ v u Q I rx ry ⟨a, b, rfl, rfl, by rwa [Bool.false_xor] at q⟩
    · exact op_isN pins s σ H _ _ v u Q I rx ry ⟨rfl, by rwa [Bool.false_xor] at q⟩, is_sm⟩
theorem od_isNot : OD K X (compareOp .IsNot) (rIsD true) (gIs true) :=
  ⟨fun pins s σ H x y v u Q I rx ry h => by
    rcases h with ⟨a, b, rfl, rfl, q⟩ | ⟨rfl, q⟩
    · exact op_notBl pins s σ H _ _ v u Q I rx ry ⟨a, b, rfl, rfl, by rwa [Bool.true_xor] at q⟩
    · exact op_notN pins s σ H _ _ v u Q I rx ry ⟨rfl, by rwa [Bool.true_xor] at q⟩, is_sm⟩

@[simp] def flatD : PyData → Bool
  | .none => true
  | .bool _ => true
  | .int _ => true
  | .str _ => true
  | _ => false
theorem flat_dv {H : Hp} {v : V} {d : PyData} (a : Dd K H v d) (f : flatD d = true) : flatV v = true := by
  cases a <;> first | rfl | cases f
theorem flats_dv {H : Hp} : ∀ {vs : List V} {ds : List PyData}, DdAll K H vs ds → ds.all flatD = true → vs.all flatV = true
  | _, _, .nil, _ => rfl
  | _, _, .cons a r, f => by
    rw [List.all_cons, Bool.and_eq_true] at f ⊢
    exact ⟨flat_dv a f.1, flats_dv r f.2⟩
theorem eqV_dv {H : Hp} {v u : V} {d e : PyData} (a : Dd K H v d) (b : Dd K H u e) (fd : flatD d = true) (fe : flatD e = true) : eqV v u = PyData.eqv d e := by
  cases a <;> cases b <;> first | rfl | cases fd | cases fe
theorem inV_dv {H : Hp} {x : V} {d : PyData} (a : Dd K H x d) (fd : flatD d = true) : ∀ {vs : List V} {ds : List PyData}, DdAll K H vs ds → ds.all flatD = true → inV x vs = ds.any fun z => PyData.eqv z d
  | _, _, .nil, _ => rfl
  | _, _, .cons b r, f => by
    rw [List.all_cons, Bool.and_eq_true] at f
    show (eqV _ x || inV x _) = _
    rw [List.any_cons, eqV_dv b a f.1 fd, inV_dv a fd r f.2]
def gIn (neg : Bool) : PyData → PyData → Option PyData := fun x y => match y with
  | .list ds => if (flatD x = true ∧ ds.all flatD = true) ∨ (SeqAt.shaped x = true ∧ SeqAt.shaped (.list ds) = true) then some (.bool (xor neg (ds.any fun z => PyData.eqv z x))) else none
  | .tuple ds => if flatD x = true ∧ ds.all flatD = true then some (.bool (xor neg (ds.any fun z => PyData.eqv z x))) else none
  | _ => none
def rInN (K : PySem.W.Frag) (neg : Bool) : R2 := fun x y H Q => rIn K neg x y H Q ∨ (if neg = true then rNotInD K x y H Q else rInD K x y H Q)
theorem in_sm {neg : Bool} {Hs H : Hp} {x y : V} {dx dy d : PyData} {Q : VK} (e : Same Hs H) (a : Dd K Hs x dx) (b : Dd K Hs y dy) (hf : gIn neg dx dy = some d) (q : ∀ v Hs' H', Grow Hs H Hs' H' → Dd K Hs' v d → Q v H') : rInN K neg x y H Q := by
  cases b with
  | @lst p ys ds h t =>
    obtain ⟨hc, rfl⟩ := ite_some hf
    rcases hc with ⟨c1, c2⟩ | ⟨c1, c2⟩
    · refine .inl ⟨p, ys, rfl, .inl (sqL_of (e _ _ h)), flat_dv a c1, flats_dv t c2, ?_⟩
      rw [inV_dv a c1 t c2]
      cases neg with
      | true => have := q (.bl (xor true (ds.any fun z => PyData.eqv z dx))) Hs H (Grow.refl e) (.bl _); rwa [Bool.true_xor] at this
      | false => have := q (.bl (xor false (ds.any fun z => PyData.eqv z dx))) Hs H (Grow.refl e) (.bl _); rwa [Bool.false_xor] at this
    · refine .inr ?_
      have d1 : Dp K H x dx := (a.mono e).dp (SeqAt.canLay_of_shaped c1)
      have d2 : Dp K H (.ref p) (.list ds) := ((Dd.lst h t : Dd K Hs (.ref p) (.list ds)).mono e).dp (SeqAt.canLay_of_shaped c2)
      cases neg with
      | true => rw [if_pos rfl]; exact ⟨dx, ds, d1, d2, c1, c2, by have := q (.bl (xor true (ds.any fun z => PyData.eqv z dx))) Hs H (Grow.refl e) (.bl _); rwa [Bool.true_xor] at this⟩
      | false => rw [if_neg Bool.false_ne_true]; exact ⟨dx, ds, d1, d2, c1, c2, by have := q (.bl (xor false (ds.any fun z => PyData.eqv z dx))) Hs H (Grow.refl e) (.bl _); rwa [Bool.false_xor] at this⟩
  | @tup p ob ys ds n h t =>
    obtain ⟨⟨c1, c2⟩, rfl⟩ := ite_some hf
    refine .inl ⟨p, ys, rfl, .inr (sqT_of (e _ _ h)), flat_dv a c1, flats_dv t c2, ?_⟩
    rw [inV_dv a c1 t c2]
    cases neg with
    | true => have := q (.bl (xor true (ds.any fun z => PyData.eqv z dx))) Hs H (Grow.refl e) (.bl _); rwa [Bool.true_xor] at this
    | false => have := q (.bl (xor false (ds.any fun z => PyData.eqv z dx))) Hs H (Grow.refl e) (.bl _); rwa [Bool.false_xor] at this
  | _ => cases hf
theorem od_in {k : Nat} (hr : Room k X.A) (hK : X.K = K := by rfl) : OD K X (compareOp .In) (rInN K false) (gIn false) := by
  subst hK
  exact ⟨fun pins s σ H x y v u Q I rx ry h => by
    rcases h with h | h
    · exact op_in_seq pins s σ H x y v u Q I rx ry h
    · rw [if_neg Bool.false_ne_true] at h
      exact op_inD (by have := hr.un; omega) pins s σ H x y v u Q I rx ry h, in_sm⟩
theorem od_notIn {k : Nat} (hr : Room k X.A) (hK : X.K = K := by rfl) : OD K X (compareOp .NotIn) (rInN K true) (gIn true) := by
  subst hK
  exact ⟨fun pins s σ H x y v u Q I rx ry h => by
    rcases h with h | h
    · exact op_notIn_seq pins s σ H x y v u Q I rx ry h
    · rw [if_pos rfl] at h
      exact op_notInD (by have := hr.un; omega) pins s σ H x y v u Q I rx ry h, in_sm⟩
end
end DL

namespace DL
open PySem PySem.Spec PyProof.Rows L2
section
variable {K : PySem.W.Frag} {X : Cx} {M : List Nat} {a b c e : Expr} {es : List Expr} {ta tb tc te : TE} {t u : TT} {fa fb fc f : Fn} {pos p pos' : Pos} {ba : Rho → Option Bool}

/-! ### subscripts, slices -/
def cutA {α : Type} (xs : List α) (lo hi : Option Int) : List α := (xs.drop (HT.sIx xs.length 0 lo)).take (HT.sIx xs.length xs.length hi - HT.sIx xs.length 0 lo)
theorem DdAll.at {H : Hp} {vs : List V} {ds : List PyData} {i : Int} {d : PyData} (t : DdAll K H vs ds) (h : atI ds i = some d) : ∃ v, atI vs i = some v ∧ Dd K H v d := by
  unfold atI at h ⊢
  rw [t.length]
  obtain ⟨j, h1, h2⟩ := bind_some h
  obtain ⟨v, h3, h4⟩ := t.get h2
  exact ⟨v, by rw [h1]; exact h3, h4⟩
theorem DdAll.cut {H : Hp} {vs : List V} {ds : List PyData} (t : DdAll K H vs ds) (lo hi : Option Int) : DdAll K H (cutV vs lo hi) (cutA ds lo hi) := by
  unfold cutV cutA
  rw [t.length]
  exact (t.drop _).take _
theorem scr_fst (ns : List Int) : (scrK ns).map (·.1) = ns.map PyData.int := by
  unfold scrK
  rw [List.map_map]
  rfl
def gIx : PyData → PyData → Option PyData := fun x y => match y with
  | .int i => (match x with
    | .list ds => atI ds i
    | .tuple ds => atI ds i
    | .dict kvs => atI (kvs.map (·.1)) i
    | .str z => if z.length ≤ 1000000 then (atI z.cps.toList i).map fun c => .str ⟨#[c]⟩ else none
    | _ => none)
  | _ => none
@[simp] theorem gIx_list (ds : List PyData) (i : Int) : gIx (.list ds) (.int i) = atI ds i := rfl
@[simp] theorem gIx_tuple (ds : List PyData) (i : Int) : gIx (.tuple ds) (.int i) = atI ds i := rfl
@[simp] theorem gIx_scr (kvs : List (PyData × PyData)) (i : Int) : gIx (.dict kvs) (.int i) = atI (kvs.map (·.1)) i := rfl
theorem ix_sm {Hs H : Hp} {x y : V} {dx dy d : PyData} {Q : VK} (e : Same Hs H) (a : Dd K Hs x dx) (b : Dd K Hs y dy) (hf : gIx dx dy = some d) (q : ∀ v Hs' H', Grow Hs H Hs' H' → Dd K Hs' v d → Q v H') : rIx K x y H Q := by
  cases b with
  | int i =>
    cases a with
    | @lst p xs ds h t =>
      obtain ⟨v, h1, h2⟩ := t.at hf
      exact .inl ⟨p, xs, i, v, rfl, rfl, sqL_of (e _ _ h), h1, q v Hs H (Grow.refl e) h2⟩
    | @tup p ob xs ds n h t =>
      obtain ⟨v, h1, h2⟩ := t.at hf
      exact .inr (.inl ⟨p, xs, i, v, rfl, rfl, sqT_of (e _ _ h), h1, q v Hs H (Grow.refl e) h2⟩)
    | @scr p ns h =>
      have hf : atI ((scrK ns).map (·.1)) i = some d := hf
      rw [scr_fst] at hf
      obtain ⟨v, h1, h2⟩ := (DdAll.ints (K := K) (H := Hs) ns).at hf
      exact .inl ⟨p, _, i, v, rfl, rfl, e.seq h, h1, q v Hs H (Grow.refl e) h2⟩
    | str z =>
      have hf : (if z.length ≤ 1000000 then (atI z.cps.toList i).map fun c => PyData.str ⟨#[c]⟩ else none) = some d := hf
      by_cases hl : z.length ≤ 1000000
      · rw [if_pos hl] at hf
        cases h1 : atI z.cps.toList i with
        | none => rw [h1] at hf; cases hf
        | some c =>
          rw [h1] at hf
          cases hf
          exact .inr (.inr ⟨z, i, c, rfl, rfl, szM hl, h1, q _ Hs H (Grow.refl e) (.str _)⟩)
      · rw [if_neg hl] at hf; cases hf
    | _ => cases hf
  | _ => cases hf
theorem ed_ix (ha : ED K X M a ta fa) (hb : ED K X M b tb fb) (hK : X.K = K := by rfl) (hs : PlainIx b := by exact fun _ _ => rfl) : ED K X M (.Subscript a b pos) (tOp (rIx K) ta tb) (f2 gIx fa fb) := by
  subst hK
  exact ⟨pe_ix ix_seq ha.pe hb.pe hs, fun R hf q => two_sm ix_sm ha hb R hf q⟩

structure PD (K : PySem.W.Frag) (X : Cx) (M : List Nat) (e : Option Expr) (t : TO) (f : Rho → Option (Option Int)) : Prop where
  po : PO X e t
  sm : ∀ {Hs0 H0 Hs H : Hp} {σ : L2.St} {ρ : Rho} {o : Option Int} {Q : Option Int → Hp → Prop}, SR K M Hs0 H0 Hs H σ ρ → f ρ = some o → (∀ Hs' H', Grow Hs H Hs' H' → Q o H') → t σ H Q
@[simp] def pNone : Rho → Option (Option Int) := fun _ => some none
@[simp] def pSome (f : Fn) : Rho → Option (Option Int) := fun ρ => (f ρ).bind fun d => match d with
  | .int i => some (some i)
  | _ => none
theorem pd_none : PD K X M none tNoPart pNone := ⟨po_none, fun {Hs0 H0 Hs H σ ρ o Q} R hf q => by cases hf; exact q Hs H (Grow.refl R.sub)⟩
theorem pd_some (h : ED K X M e te f) : PD K X M (some e) (tPart te) (pSome f) :=
  ⟨po_some h.pe, fun {Hs0 H0 Hs H σ ρ o Q} R hf q => by
    obtain ⟨d, h1, h2⟩ := bind_some hf
    refine h.sm R h1 fun v Hs1 H1 g1 d1 => ?_
    cases d1 <;> first
      | (cases h2; done)
      | (obtain rfl := Option.some.inj h2
         exact ⟨_, rfl, q Hs1 H1 g1⟩)⟩
def rSlN (K : PySem.W.Frag) : V → Option Int → Option Int → Hp → VK → Prop := fun x lo hi H Q => ∃ a xs, x = .ref a ∧ SqT K H a xs ∧
  (HT.sIx xs.length 0 lo = 0 ∧ HT.sIx xs.length xs.length hi = xs.length → Q (.ref a) H) ∧ (¬ (HT.sIx xs.length 0 lo = 0 ∧ HT.sIx xs.length xs.length hi = xs.length) → NewT Q H (cutV xs lo hi))
theorem sl_tupN : SlR X (rSlN X.K) := by
  intro pins s σ H x v vl vu lo hi sl Q I rx hs pl pu h
  obtain ⟨a, xs, rfl, hx, q1, q2⟩ := h
  cases rx
  obtain ⟨its, r, ht, hz⟩ := I.tuple hx
  have hlen : its.toArray.size = xs.length := by rw [List.size_toArray]; exact r.length.symm
  by_cases hw : HT.sIx xs.length 0 lo = 0 ∧ HT.sIx xs.length xs.length hi = xs.length
  · refine ⟨"tuple", _, PyProof.Rows.slot_tuple_getitem.lookup, ht.typeIs, ?_⟩
    exact getItem_tuple_whole ht hs pl pu (by rw [hlen]; exact hw) ⟨.ref a, H, I, rfl, q1 hw⟩
  · refine ⟨"tuple", _, PyProof.Rows.slot_tuple_getitem.lookup, ht.typeIs, ?_⟩
    refine HT.getItem_tuple_cut ht hs pl pu (by rw [hlen]; exact hw) ?_ (by rw [hlen]; exact hz)
    rw [hlen]
    exact ⟨.ref s.heap.objs.size, _, Inv.tupN (t' := s.toks) I ((r.drop (HT.sIx xs.length 0 lo)).take (HT.sIx xs.length xs.length hi - HT.sIx xs.length 0 lo)) (Nat.le_trans (cutV_length xs lo hi) hz), rfl, q2 hw _ _ rfl (I.hok.fresh (Nat.le_refl _))⟩
def rSlD (K : PySem.W.Frag) : V → Option Int → Option Int → Hp → VK → Prop := fun x lo hi H Q => rSlL K x lo hi H Q ∨ rSlN K x lo hi H Q ∨ rSlS x lo hi H Q
@[simp] def gSl (x : PyData) (lo hi : Option Int) : Option PyData := match x with
  | .list ds => some (.list (cutA ds lo hi))
  | .tuple ds => some (.tuple (cutA ds lo hi))
  | .dict kvs => some (.list (cutA (kvs.map (·.1)) lo hi))
  | .str z => if z.length ≤ 1000000 then some (.str (cutS z lo hi)) else none
  | _ => none
@[simp] def fSl (f : Fn) (fl fh : Rho → Option (Option Int)) : Fn := fun ρ => (f ρ).bind fun x => (fl ρ).bind fun lo => (fh ρ).bind fun hi => gSl x lo hi
theorem newL {Q : VK} {Hs Hs1 H H1 : Hp} {vs : List V} {ds : List PyData} (g1 : Grow Hs H Hs1 H1) (d1 : DdAll K Hs1 vs ds) (q : ∀ v Hs' H', Grow Hs H Hs' H' → Dd K Hs' v (.list ds) → Q v H') : ∀ p, H1 p = none → Q (.ref p) (upd H1 p (.lst vs)) := fun p hp => by
  have g2 : Grow Hs1 H1 (upd Hs1 p (.lst vs)) (upd H1 p (.lst vs)) := Grow.alloc g1.sub hp
  exact q _ _ _ (g1.trans g2) (.lst upd_same (d1.mono g2.exs))
theorem cutA_whole {α : Type} {xs : List α} {lo hi : Option Int} (h : HT.sIx xs.length 0 lo = 0 ∧ HT.sIx xs.length xs.length hi = xs.length) : cutA xs lo hi = xs := by
  unfold cutA
  rw [h.1, h.2, List.drop_zero, Nat.sub_zero, List.take_length]
theorem ed_sl {lo hi : Option Expr} {tl th : TO} {fl fh : Rho → Option (Option Int)} {p2 : Pos} (he : ED K X M e te f) (hl : PD K X M lo tl fl) (hh : PD K X M hi th fh) (hK : X.K = K := by rfl) :
    ED K X M (.Subscript e (.Slice lo hi none p2) pos) (tSl (rSlD K) te tl th) (fSl f fl fh) := by
  subst hK
  refine ⟨pe_slice (sl_list.or (sl_tupN.or sl_str)) he.pe hl.po hh.po, fun {Hs0 H0 Hs H σ ρ d Q} R hf q => ?_⟩
  obtain ⟨x, h1, hf⟩ := bind_some hf
  obtain ⟨l, h2, hf⟩ := bind_some hf
  obtain ⟨h, h3, hf⟩ := bind_some hf
  refine he.sm R h1 fun v Hs1 H1 g1 d1 => ?_
  refine hl.sm (R.grow g1) h2 fun Hs2 H2 g2 => ?_
  refine hh.sm ((R.grow g1).grow g2) h3 fun Hs3 H3 g3 => ?_
  have g := (g1.trans g2).trans g3
  have d3 := (d1.mono g2.exs).mono g3.exs
  cases d3 with
  | @lst p xs ds hp t =>
    obtain rfl := Option.some.inj hf
    exact .inl ⟨p, xs, rfl, sqL_of (g3.sub _ _ hp), newL g (t.cut l h) q⟩
  | @scr p ns hp =>
    have hf : some (PyData.list (cutA ((scrK ns).map (·.1)) l h)) = some d := hf
    rw [scr_fst] at hf
    obtain rfl := Option.some.inj hf
    exact .inl ⟨p, _, rfl, g3.sub.seq hp, newL g ((DdAll.ints (K := X.K) (H := Hs3) ns).cut l h) q⟩
  | @tup p ob xs ds n hp t =>
    obtain rfl := Option.some.inj hf
    refine .inr (.inl ⟨p, xs, rfl, sqT_of (g3.sub _ _ hp), fun z => ?_, fun _ => NewT.of g (t.cut l h) q⟩)
    rw [t.length] at z
    rw [cutA_whole z] at q
    exact q _ Hs3 H3 g (.tup n hp t)
  | str z =>
    obtain ⟨hl, rfl⟩ := ite_some hf
    exact .inr (.inr ⟨z, rfl, szM hl, q _ Hs3 H3 g (.str _)⟩)
  | _ => cases hf

/-! ### built-ins -/
structure BD (K : PySem.W.Frag) (X : Cx) (fv : Value) (r : List V → Hp → VK → Prop) (g : List PyData → Option PyData) : Prop where
  cr : CallR X fv r
  sm : ∀ {Hs H : Hp} {xs : List V} {ds : List PyData} {d : PyData} {Q : VK}, Same Hs H → DdAll K Hs xs ds → g ds = some d → (∀ v Hs' H', Grow Hs H Hs' H' → Dd K Hs' v d → Q v H') → r xs H Q
@[simp] def fBi (g : List PyData → Option PyData) (fa : Rho → Option (List PyData)) : Fn := fun ρ => (fa ρ).bind g
variable {tr : TA} {fr : Rho → Option (List PyData)} {x : Str} {r : List V → Hp → VK → Prop} {g : List PyData → Option PyData} {id T : String}
theorem bi_sm {fv : Value} (h : BD K X fv r g) (ha : AD K X M es tr fr) {Hs0 H0 Hs H : Hp} {σ : L2.St} {ρ : Rho} {d : PyData} {Q : VK} (R : SR K M Hs0 H0 Hs H σ ρ) (hf : fBi g fr ρ = some d) (q : ∀ v Hs' H', Grow Hs H Hs' H' → Dd K Hs' v d → Q v H') : tCB r tr σ H Q := by
  obtain ⟨ds, h1, h2⟩ := bind_some hf
  exact ha.sm R h1 fun vs Hs1 H1 g1 d1 => h.sm g1.sub d1 h2 fun v Hs2 H2 g2 d2 => q v Hs2 H2 (g1.trans g2) d2
theorem ed_bi (h : BD K X (.builtin id) r g) (hm : X.mg x = none) (hv : bootBuiltins x = some (.builtin id)) (ha : AD K X M (e :: es) tr fr) (hg : Gl X x := by rfl) (hn : x ≠ "__name__" := by decide) (hdb : (x == ("__debug__" : Str)) = false := by decide)
    (he : starEach (e :: es) X.env = (false, eval e X.env) :: starEach es X.env := by rfl) (hpl : (backTo pos (starEach es X.env)).any (·.1) = false := by rfl) : ED K X M (.Call (.Name x p) (e :: es) [] pos) (tCB r tr) (fBi g fr) :=
  ⟨pe_callB h.cr hg hm hv ha.pa hn hdb he hpl, fun R hf q => bi_sm h ha R hf q⟩
theorem ed_ty (h : BD K X (.type T) r g) (hm : X.mg x = none) (hv : bootBuiltins x = some (.type T)) (ha : AD K X M (e :: es) tr fr) (hg : Gl X x := by rfl) (hn : x ≠ "__name__" := by decide) (hdb : (x == ("__debug__" : Str)) = false := by decide)
    (he : starEach (e :: es) X.env = (false, eval e X.env) :: starEach es X.env := by rfl) (hpl : (backTo pos (starEach es X.env)).any (·.1) = false := by rfl) : ED K X M (.Call (.Name x p) (e :: es) [] pos) (tCB r tr) (fBi g fr) :=
  ⟨pe_callTy h.cr hg hm hv ha.pa hn hdb he hpl, fun R hf q => bi_sm h ha R hf q⟩
theorem all1 {H : Hp} {xs : List V} {d : PyData} (h : DdAll K H xs [d]) : ∃ v, xs = [v] ∧ Dd K H v d := by
  cases h with
  | cons a r => cases r; exact ⟨_, rfl, a⟩
theorem all2 {H : Hp} {xs : List V} {d d' : PyData} (h : DdAll K H xs [d, d']) : ∃ v w, xs = [v, w] ∧ Dd K H v d ∧ Dd K H w d' := by
  cases h with
  | cons a r =>
    obtain ⟨w, rfl, b⟩ := all1 r
    exact ⟨_, _, rfl, a, b⟩
@[simp] def gLen : List PyData → Option PyData := fun xs => match xs with
  | [.str z] => if z.length ≤ 1000000 then some (.int z.length) else none
  | [.list ds] => some (.int ds.length)
  | [.tuple ds] => some (.int ds.length)
  | [.dict kvs] => some (.int kvs.length)
  | _ => none
theorem bd_len (hK : X.K = K := by rfl) : BD K X (.builtin "len") (fun xs H Q => ∃ x n, xs = [x] ∧ LenV K x H n ∧ Q (.int n) H) gLen := by
  subst hK
  refine ⟨call_len, fun {Hs H xs ds d Q} e h hf q => ?_⟩
  unfold gLen at hf
  split at hf
  · obtain ⟨v, rfl, a⟩ := all1 h
    obtain ⟨hl, rfl⟩ := ite_some hf
    cases a
    exact ⟨_, _, rfl, ⟨szM hl, rfl⟩, q _ Hs H (Grow.refl e) (.int _)⟩
  · obtain ⟨v, rfl, a⟩ := all1 h
    obtain rfl := Option.some.inj hf
    cases a with
    | lst hp t => exact ⟨_, _, rfl, .inl ⟨_, sqL_of (e _ _ hp), rfl⟩, by rw [t.length]; exact q _ Hs H (Grow.refl e) (.int _)⟩
  · obtain ⟨v, rfl, a⟩ := all1 h
    obtain rfl := Option.some.inj hf
    cases a with
    | tup n hp t => exact ⟨_, _, rfl, .inr ⟨_, sqT_of (e _ _ hp), rfl⟩, by rw [t.length]; exact q _ Hs H (Grow.refl e) (.int _)⟩
  · obtain ⟨v, rfl, a⟩ := all1 h
    obtain rfl := Option.some.inj hf
    cases a with
    | @scr p ns hp => exact ⟨_, _, rfl, .inl ⟨_, e.seq hp, rfl⟩, by
        have := q (.int ((scrK ns).length : Nat)) Hs H (Grow.refl e) (.int _)
        unfold scrK at this
        rw [List.length_map] at this ⊢
        exact this⟩
  · cases hf
/-- tuple(list), tuple(tuple) -/
theorem call_tupN : CallR X (.type "tuple") (fun xs H Q => ∃ p ys, xs = [.ref p] ∧ ((SqL X.K H p ys ∧ NewT Q H ys) ∨ (SqT X.K H p ys ∧ Q (.ref p) H))) := by
  intro pins s σ H xs us Q I r h
  obtain ⟨p, ys, rfl, h⟩ := h
  obtain ⟨u, rfl, rx⟩ := vals1 r
  cases rx
  rcases h with ⟨hq, q⟩ | ⟨hq, q⟩
  · obtain ⟨its, r', pl, hz⟩ := I.list hq
    have hlen := r'.length
    refine call_tuple_list pl.isList (fun h' kp => ?_) (by simp only [List.size_toArray] <;> omega)
    have I1 : Inv X pins σ H { s with heap := h' } := I.kept (t' := s.toks) kp
    exact ⟨.ref h'.objs.size, _, Inv.tupN (s := { s with heap := h' }) (t' := s.toks) I1 r' hz, rfl, q _ _ rfl (I1.hok.fresh (Nat.le_refl _))⟩
  · obtain ⟨its, r', pl, hz⟩ := I.tuple hq
    exact call_tuple_same pl ⟨.ref p, H, I, rfl, q⟩
@[simp] def gTuple : List PyData → Option PyData := fun xs => match xs with
  | [.list ds] => some (.tuple ds)
  | [.tuple ds] => some (.tuple ds)
  | _ => none
theorem bd_tuple (hK : X.K = K := by rfl) : BD K X (.type "tuple") (fun xs H Q => ∃ p ys, xs = [.ref p] ∧ ((SqL K H p ys ∧ NewT Q H ys) ∨ (SqT K H p ys ∧ Q (.ref p) H))) gTuple := by
  subst hK
  refine ⟨call_tupN, fun {Hs H xs ds d Q} e h hf q => ?_⟩
  unfold gTuple at hf
  split at hf
  · obtain ⟨v, rfl, a⟩ := all1 h
    obtain rfl := Option.some.inj hf
    cases a with
    | lst hp t => exact ⟨_, _, rfl, .inl ⟨sqL_of (e _ _ hp), NewT.of (Grow.refl e) t q⟩⟩
  · obtain ⟨v, rfl, a⟩ := all1 h
    obtain rfl := Option.some.inj hf
    cases a with
    | tup n hp t => exact ⟨_, _, rfl, .inr ⟨sqT_of (e _ _ hp), q _ Hs H (Grow.refl e) (.tup n hp t)⟩⟩
  · cases hf
@[simp] def gListOf : List PyData → Option PyData := fun xs => match xs with
  | [.list ds] => some (.list ds)
  | [.tuple ds] => some (.list ds)
  | _ => none
theorem bd_list (hK : X.K = K := by rfl) : BD K X (.type "list") (fun xs H Q => ∃ p ys, xs = [.ref p] ∧ (SqL K H p ys ∨ SqT K H p ys) ∧ ∀ l, H l = none → Q (.ref l) (upd H l (.lst ys))) gListOf := by
  subst hK
  refine ⟨call_list_of, fun {Hs H xs ds d Q} e h hf q => ?_⟩
  unfold gListOf at hf
  split at hf
  · obtain ⟨v, rfl, a⟩ := all1 h
    obtain rfl := Option.some.inj hf
    cases a with
    | lst hp t => exact ⟨_, _, rfl, .inl (sqL_of (e _ _ hp)), newL (Grow.refl e) t q⟩
  · obtain ⟨v, rfl, a⟩ := all1 h
    obtain rfl := Option.some.inj hf
    cases a with
    | tup n hp t => exact ⟨_, _, rfl, .inr (sqT_of (e _ _ hp)), newL (Grow.refl e) t q⟩
  · cases hf
/-- all of truths -/
@[simp] def bools : List PyData → Option (List Bool)
  | [] => some []
  | .bool b :: r => (bools r).map (b :: ·)
  | _ => none
theorem bools_dv {H : Hp} : ∀ {vs : List V} {ds : List PyData} {bs : List Bool}, DdAll K H vs ds → bools ds = some bs → vs = bs.map V.bl
  | _, _, _, .nil, h => by cases h; rfl
  | _, _, bs, .cons a r, h => by
    cases a <;> first
      | (cases h; done)
      | (rename_i b
         unfold bools at h
         cases h1 : bools _ with
         | none => rw [h1] at h; cases h
         | some cs =>
           rw [h1] at h
           cases h
           rw [bools_dv r h1]
           rfl)
@[simp] def gAll : List PyData → Option PyData := fun xs => match xs with
  | [.list ds] => (bools ds).map fun bs => .bool (bs.all _root_.id)
  | _ => none
theorem bd_all (hc : X.calm = true := by rfl) (hK : X.K = K := by rfl) : BD K X (.builtin "all") (rAll K) gAll := by
  subst hK
  refine ⟨cr_all hc, fun {Hs H xs ds d Q} e h hf q => ?_⟩
  unfold gAll at hf
  split at hf
  · obtain ⟨v, rfl, a⟩ := all1 h
    cases h1 : bools _ with
    | none => rw [h1] at hf; cases hf
    | some bs =>
      rw [h1] at hf
      cases hf
      cases a with
      | lst hp t =>
        have := bools_dv t h1
        subst this
        exact ⟨_, bs, rfl, sqL_of (e _ _ hp), q _ Hs H (Grow.refl e) (.bl _)⟩
  · cases hf
/-- ints of a list -/
@[simp] def intsD : List PyData → Option (List Int)
  | [] => some []
  | .int b :: r => (intsD r).map (b :: ·)
  | _ => none
theorem ints_dv {H : Hp} : ∀ {vs : List V} {ds : List PyData} {bs : List Int}, DdAll K H vs ds → intsD ds = some bs → vs = bs.map V.int
  | _, _, _, .nil, h => by cases h; rfl
  | _, _, bs, .cons a r, h => by
    cases a <;> first
      | (cases h; done)
      | (rename_i b
         unfold intsD at h
         cases h1 : intsD _ with
         | none => rw [h1] at h; cases h
         | some cs =>
           rw [h1] at h
           cases h
           rw [ints_dv r h1]
           rfl)
theorem intsD_map : ∀ ns : List Int, intsD (ns.map PyData.int) = some ns
  | [] => rfl
  | n :: ns => by
    rw [List.map_cons]
    unfold intsD
    rw [intsD_map ns]
    rfl
@[simp] def gMin2 : List PyData → Option PyData := fun xs => match xs with
  | [.int i, .int j] => some (.int (if j < i then j else i))
  | _ => none
@[simp] def gMax2 : List PyData → Option PyData := fun xs => match xs with
  | [.int i, .int j] => some (.int (if j > i then j else i))
  | _ => none
theorem bd_min2 (hc : X.calm = true := by rfl) : BD K X (.builtin "min") (fun xs H Q => ∃ i j, xs = [.int i, .int j] ∧ Q (.int (if j < i then j else i)) H) gMin2 :=
  ⟨call_min2 hc, fun {Hs H xs ds d Q} e h hf q => by
    unfold gMin2 at hf
    split at hf
    · obtain ⟨v, w, rfl, a, b⟩ := all2 h
      cases a; cases b
      obtain rfl := Option.some.inj hf
      exact ⟨_, _, rfl, q _ Hs H (Grow.refl e) (.int _)⟩
    · cases hf⟩
theorem bd_max2 (hc : X.calm = true := by rfl) : BD K X (.builtin "max") (fun xs H Q => ∃ i j, xs = [.int i, .int j] ∧ Q (.int (if j > i then j else i)) H) gMax2 :=
  ⟨call_max2 hc, fun {Hs H xs ds d Q} e h hf q => by
    unfold gMax2 at hf
    split at hf
    · obtain ⟨v, w, rfl, a, b⟩ := all2 h
      cases a; cases b
      obtain rfl := Option.some.inj hf
      exact ⟨_, _, rfl, q _ Hs H (Grow.refl e) (.int _)⟩
    · cases hf⟩
/-- the greatest, the least of a list of ints -/
def maxI : List Int → Int
  | [] => 0
  | [a] => a
  | a :: b :: r => max a (maxI (b :: r))
def minI : List Int → Int
  | [] => 0
  | [a] => a
  | a :: b :: r => min a (minI (b :: r))
theorem maxI_spec : ∀ {l : List Int}, l ≠ [] → maxI l ∈ l ∧ ∀ y ∈ l, y ≤ maxI l
  | [a], _ => by simp [maxI]
  | a :: b :: r, _ => by
    obtain ⟨h1, h2⟩ := maxI_spec (l := b :: r) (by simp)
    unfold maxI
    refine ⟨?_, fun y hy => ?_⟩
    · by_cases h : a ≤ maxI (b :: r)
      · rw [Int.max_eq_right h]; exact List.mem_cons_of_mem _ h1
      · rw [Int.max_eq_left (by omega)]; exact List.mem_cons_self
    · rcases List.mem_cons.mp hy with rfl | hy
      · exact Int.le_max_left _ _
      · exact Int.le_trans (h2 y hy) (Int.le_max_right _ _)
theorem minI_spec : ∀ {l : List Int}, l ≠ [] → minI l ∈ l ∧ ∀ y ∈ l, minI l ≤ y
  | [a], _ => by simp [minI]
  | a :: b :: r, _ => by
    obtain ⟨h1, h2⟩ := minI_spec (l := b :: r) (by simp)
    unfold minI
    refine ⟨?_, fun y hy => ?_⟩
    · by_cases h : minI (b :: r) ≤ a
      · rw [Int.min_eq_right h]; exact List.mem_cons_of_mem _ h1
      · rw [Int.min_eq_left (by omega)]; exact List.mem_cons_self
    · rcases List.mem_cons.mp hy with rfl | hy
      · exact Int.min_le_left _ _
      · exact Int.le_trans (Int.min_le_right _ _) (h2 y hy)
@[simp] def gMaxL : List PyData → Option PyData := fun xs => match xs with
  | [.list ds] => (intsD ds).bind fun ns => if ns ≠ [] then some (.int (maxI ns)) else none
  | _ => none
@[simp] def gMinL : List PyData → Option PyData := fun xs => match xs with
  | [.list ds] => (intsD ds).bind fun ns => if ns ≠ [] then some (.int (minI ns)) else none
  | _ => none
theorem bd_maxL (hc : X.calm = true := by rfl) (hK : X.K = K := by rfl) : BD K X (.builtin "max") (rMax K) gMaxL := by
  subst hK
  refine ⟨cr_max hc, fun {Hs H xs ds d Q} e h hf q => ?_⟩
  unfold gMaxL at hf
  split at hf
  · obtain ⟨v, rfl, a⟩ := all1 h
    obtain ⟨ns, h1, h2⟩ := bind_some hf
    obtain ⟨hne, rfl⟩ := ite_some h2
    cases a with
    | lst hp t =>
      have := ints_dv t h1
      subst this
      refine ⟨_, ns, rfl, sqL_of (e _ _ hp), List.length_pos_iff.mpr hne, fun m hm hle => ?_⟩
      obtain ⟨s1, s2⟩ := maxI_spec hne
      have : m = maxI ns := Int.le_antisymm (s2 m hm) (hle _ s1)
      rw [this]
      exact q _ Hs H (Grow.refl e) (.int _)
  · cases hf
theorem bd_minL (hc : X.calm = true := by rfl) (hK : X.K = K := by rfl) : BD K X (.builtin "min") (rMin K) gMinL := by
  subst hK
  refine ⟨cr_min hc, fun {Hs H xs ds d Q} e h hf q => ?_⟩
  unfold gMinL at hf
  split at hf
  · obtain ⟨v, rfl, a⟩ := all1 h
    obtain ⟨ns, h1, h2⟩ := bind_some hf
    obtain ⟨hne, rfl⟩ := ite_some h2
    cases a with
    | lst hp t =>
      have := ints_dv t h1
      subst this
      refine ⟨_, ns, rfl, sqL_of (e _ _ hp), List.length_pos_iff.mpr hne, fun m hm hle => ?_⟩
      obtain ⟨s1, s2⟩ := minI_spec hne
      have : m = minI ns := Int.le_antisymm (hle _ s1) (s2 m hm)
      rw [this]
      exact q _ Hs H (Grow.refl e) (.int _)
  · cases hf
@[simp] def gSum : List PyData → Option PyData := fun xs => match xs with
  | [.list ds] => (intsD ds).map fun ns => .int ns.sum
  | _ => none
theorem bd_sum (hc : X.calm = true := by rfl) (hK : X.K = K := by rfl) : BD K X (.builtin "sum") (rSum K) gSum := by
  subst hK
  refine ⟨cr_sum hc, fun {Hs H xs ds d Q} e h hf q => ?_⟩
  unfold gSum at hf
  split at hf
  · obtain ⟨v, rfl, a⟩ := all1 h
    cases h1 : intsD _ with
    | none => rw [h1] at hf; cases hf
    | some ns =>
      rw [h1] at hf
      cases hf
      cases a with
      | lst hp t =>
        have := ints_dv t h1
        subst this
        exact ⟨_, ns, rfl, sqL_of (e _ _ hp), q _ Hs H (Grow.refl e) (.int _)⟩
  · cases hf
@[simp] def gStr : List PyData → Option PyData := fun xs => match xs with
  | [.int i] => if i.natAbs.log2 < 1920 then some (.str (toString i)) else none
  | _ => none
theorem bd_str : BD K X (.type "str") (fun xs H Q => ∃ i : Int, xs = [.int i] ∧ i.natAbs.log2 < 1920 ∧ Q (.str (toString i)) H) gStr :=
  ⟨call_str_int, fun {Hs H xs ds d Q} e h hf q => by
    unfold gStr at hf
    split at hf
    · obtain ⟨v, rfl, a⟩ := all1 h
      cases a
      obtain ⟨hl, rfl⟩ := ite_some hf
      exact ⟨_, rfl, hl, q _ Hs H (Grow.refl e) (.str _)⟩
    · cases hf⟩
/-- isinstance(x, T), T one built-in type -/
@[simp] def tyD : PyData → String
  | .none => "NoneType"
  | .bool _ => "bool"
  | .int _ => "int"
  | .str _ => "str"
  | .list _ => "list"
  | .tuple _ => "tuple"
  | .dict _ => "list"
@[simp] def gIsi (T : String) : PyData → Option PyData := fun x => match x with
  | .dict _ => none
  | x => (kitB (tyD x) T).map .bool
theorem ed_isi {T : String} {x : Str} {p1 p2 : Pos} (ha : ED K X M a ta fa) (hm : X.mg "isinstance" = none) (hmT : X.mg x = none) (hvT : bootBuiltins x = some (.type T)) (hg : Gl X "isinstance" := by rfl) (hgT : Gl X x := by rfl) (hK : X.K = K := by rfl)
    (hn : x ≠ "__name__" := by decide) (hdb : (x == ("__debug__" : Str)) = false := by decide)
    (hs1 : starEach [a, .Name x p2] X.env = (false, eval a X.env) :: starEach [.Name x p2] X.env := by rfl) (hs2 : starEach [.Name x p2] X.env = (false, eval (.Name x p2) X.env) :: starEach [] X.env := by rfl) (hpl : (backTo pos (starEach [.Name x p2] X.env)).any (·.1) = false := by rfl) :
    ED K X M (.Call (.Name "isinstance" p1) [a, .Name x p2] [] pos) (tCB (rIsi K) (tCons ta (tCons (tC (.ty T)) tNil))) (f1 (gIsi T) fa) := by
  subst hK
  refine ⟨pe_callB call_isi hg hm boot_isinstance (pa_cons ha.pe (pa_cons (pe_bltn hgT hmT hvT rfl hn hdb) pa_nil hs2) hs1) (by decide) (by decide) hs1 hpl, fun {Hs0 H0 Hs H σ ρ d Q} R hf q => ?_⟩
  obtain ⟨dx, h1, h2⟩ := bind_some hf
  refine ha.sm R h1 fun v Hs1 H1 g1 d1 => ?_
  have key : ∀ {ty : String} {b : Bool}, kitB ty T = some b → TyX X.K H1 v (.type ty) → Q (.bl b) H1 → rIsi X.K [v, .ty T] H1 Q := fun hk ht hq => ⟨v, .ty T, _, _, _, rfl, .ty T, ht, kit_ty hk, hq⟩
  cases d1 with
  | non => cases hk : kitB "NoneType" T with
    | none => simp [gIsi, tyD, hk] at h2
    | some b => simp [gIsi, tyD, hk] at h2; subst h2; exact key hk (.base .non) (q _ Hs1 H1 g1 (.bl _))
  | bl k => cases hk : kitB "bool" T with
    | none => simp [gIsi, tyD, hk] at h2
    | some b => simp [gIsi, tyD, hk] at h2; subst h2; exact key hk (.base (.bl _)) (q _ Hs1 H1 g1 (.bl _))
  | int k => cases hk : kitB "int" T with
    | none => simp [gIsi, tyD, hk] at h2
    | some b => simp [gIsi, tyD, hk] at h2; subst h2; exact key hk (.base (.int _)) (q _ Hs1 H1 g1 (.bl _))
  | str k => cases hk : kitB "str" T with
    | none => simp [gIsi, tyD, hk] at h2
    | some b => simp [gIsi, tyD, hk] at h2; subst h2; exact key hk (.base (.str _)) (q _ Hs1 H1 g1 (.bl _))
  | lst hp t => cases hk : kitB "list" T with
    | none => simp [gIsi, tyD, hk] at h2
    | some b => simp [gIsi, tyD, hk] at h2; subst h2; exact key hk (.base (.lst (g1.sub _ _ hp))) (q _ Hs1 H1 g1 (.bl _))
  | tup n hp t => cases hk : kitB "tuple" T with
    | none => simp [gIsi, tyD, hk] at h2
    | some b => simp [gIsi, tyD, hk] at h2; subst h2; exact key hk (.fTuple (g1.sub _ _ hp)) (q _ Hs1 H1 g1 (.bl _))
  | scr hp => simp [gIsi] at h2

/-! ### calls of own defs -/
def spX (K : PySem.W.Frag) (n : Nat) (xc : Nat → Addr) (φ : List PyData → Option (Except Nat PyData)) : Sp := fun vs H Q E => vs.length = n ∧ ∃ Hs ds r, Same Hs H ∧ DdAll K Hs vs ds ∧ φ ds = some r ∧
  match r with
  | .ok d => ∀ v Hs' H', Grow Hs H Hs' H' → Dd K Hs' v d → Q v H'
  | .error c => ∀ H', Same H H' → E (.ref (xc c)) none H'
@[simp] def fCall (φ : List PyData → Option (Except Nat PyData)) (fa : Rho → Option (List PyData)) : Fn := fun ρ => (fa ρ).bind fun ds => (φ ds).bind fun r => match r with
  | .ok d => some d
  | .error _ => none
theorem AD.len : ∀ {es : List Expr} {tr : TA} {fr : Rho → Option (List PyData)} {ρ : Rho} {ds : List PyData} (n : Nat), fr ρ = some ds → ds.length = n → ds.length = n := fun _ _ h => h
theorem ed_call {k n : Nat} {fA : Addr} {fd : FuncData} {ps : List Str} {xc : Nat → Addr} {φ : List PyData → Option (Except Nat PyData)} (F : FnOk X.prog X.w X.K X.mg X.base (L2.CX X.prog X.w) k fA fd ps (spX K n xc φ)) (hr : Room k X.A) (hm : X.mg x = some (.ref fA))
    (hk : PySem.W.keepIn X.K (.ref fA) = true) (hb : Binds X.K fd ps []) (hn : ∀ ds r, φ ds = some r → ds.length = n) (ha : AD K X M (e :: es) tr fr) (hg : Gl X x := by rfl) (hdb : (x == ("__debug__" : Str)) = false := by decide) (he : starEach (e :: es) X.env = (false, eval e X.env) :: starEach es X.env := by rfl)
    (hpl : (backTo pos (starEach es X.env)).any (·.1) = false := by rfl) : ED K X M (.Call (.Name x p) (e :: es) [] pos) (tCall (spX K n xc φ) [] E0 tr) (fCall φ fr) :=
  ⟨pe_call F hr hg hm hk hb .nil passL ha.pa hdb he hpl, fun {Hs0 H0 Hs H σ ρ d Q} R hf q => by
    obtain ⟨ds, h1, h2⟩ := bind_some hf
    obtain ⟨r, h2, h3⟩ := bind_some h2
    refine ha.sm R h1 fun vs Hs1 H1 g1 d1 => ?_
    show spX K n xc φ (vs ++ []) H1 Q E0
    rw [List.append_nil]
    refine ⟨by rw [d1.length]; exact hn _ _ h2, Hs1, ds, r, g1.sub, d1, h2, ?_⟩
    cases r with
    | error c => cases h3
    | ok d' =>
      obtain rfl := Option.some.inj h3
      exact fun v Hs2 H2 g2 d2 => q v Hs2 H2 (g1.trans g2) d2⟩
end
end DL

namespace DL
open PySem PySem.Spec PyProof.Rows L2
abbrev YR := Hp → V → PyData → Prop
/-- a pair that an iterator makes -/
def Dy (K : PySem.W.Frag) : YR := fun H x d => ∃ a xs ds, x = .ref a ∧ d = .tuple ds ∧ H a = some (.tup xs) ∧ DdAll K H xs ds
section
variable {K : PySem.W.Frag} {X : Cx} {M : List Nat} {a b c e tg : Expr} {es : List Expr} {ta tb tc te : TE} {t u : TT} {fa fb fc f : Fn} {pos p pos' : Pos} {ba : Rho → Option Bool} {Rl : YR}

/-! ### what is walked -/
structure Yields (K : PySem.W.Frag) (Rl : YR) (J : It) (Hs : Hp) (ds : List PyData) : Prop where
  go : ∀ i H, Same Hs H → i < ds.length → J.go i H
  stop : ∀ i H, Same Hs H → ds.length ≤ i → J.stop i H
  yld : ∀ i H x H' Hs2, i < ds.length → Same Hs Hs2 → Same Hs2 H → J.yld i H x H' → ∃ Hs3, Grow Hs2 H Hs3 H' ∧ ∃ d, ds[i]? = some d ∧ Rl Hs3 x d
structure ID (K : PySem.W.Frag) (X : Cx) (M : List Nat) (Rl : YR) (tg iter : Expr) (wi : TI) (h : Rho → Option (List PyData)) : Prop where
  pi : PI X tg iter wi
  sm : ∀ {Hs0 H0 Hs H : Hp} {σ : L2.St} {ρ : Rho} {ds : List PyData} {R : It → Hp → Prop}, SR K M Hs0 H0 Hs H σ ρ → h ρ = some ds → (∀ J Hs' H', Grow Hs H Hs' H' → Yields K Rl J Hs' ds → R J H') → wi σ H R

theorem yields_list {K : PySem.W.Frag} {Hs : Hp} {p : Addr} {xs : List V} {ds : List PyData} (hq : ∀ H, Same Hs H → SqL K H p xs) (t : DdAll K Hs xs ds) : Yields K (Dd K) (Itl K p) Hs ds where
  go := fun i H e hi => by
    obtain ⟨v, h1, _⟩ := t.get (i := i) (d := ds[i]) (List.getElem?_eq_getElem hi)
    exact ⟨xs, v, hq H e, h1⟩
  stop := fun i H e hi => ⟨xs, hq H e, by rw [t.length]; exact hi⟩
  yld := fun i H x H' Hs2 hi e1 e2 h => by
    obtain ⟨rfl, h2⟩ := h
    obtain ⟨d, h3, h4⟩ := t.getv (h2 xs (hq _ (e1.trans e2)))
    exact ⟨Hs2, Grow.refl e2, d, h3, h4.mono e1⟩
theorem yields_tup {K : PySem.W.Frag} {Hs : Hp} {p : Addr} {xs : List V} {ds : List PyData} (hq : ∀ H, Same Hs H → SqT K H p xs) (t : DdAll K Hs xs ds) : Yields K (Dd K) (Itt K p) Hs ds where
  go := fun i H e hi => by
    obtain ⟨v, h1, _⟩ := t.get (i := i) (d := ds[i]) (List.getElem?_eq_getElem hi)
    exact ⟨xs, v, hq H e, h1⟩
  stop := fun i H e hi => ⟨xs, hq H e, by rw [t.length]; exact hi⟩
  yld := fun i H x H' Hs2 hi e1 e2 h => by
    obtain ⟨rfl, h2⟩ := h
    obtain ⟨d, h3, h4⟩ := t.getv (h2 xs (hq _ (e1.trans e2)))
    exact ⟨Hs2, Grow.refl e2, d, h3, h4.mono e1⟩
/-- a list, a tuple, the script -/
def iSeq (K : PySem.W.Frag) (tl : TE) : TI := fun σ H R => tl σ H fun x H1 => ∃ a, x = .ref a ∧ (((∃ xs, SqL K H1 a xs) ∧ R (Itl K a) H1) ∨ ((∃ xs, SqT K H1 a xs) ∧ R (Itt K a) H1))
theorem pi_seq {l : Expr} {tl : TE} (hl : PE X l tl) : PI X tg l (iSeq X.K tl) := by
  refine ⟨fun pins s σ H R I h => ?_⟩
  refine thn (hl.run pins s σ H _ I h) fun v s1 ⟨x, H1, I1, r1, q1⟩ => ?_
  obtain ⟨a, e, h⟩ := q1
  subst e
  cases r1
  rcases h with ⟨⟨xs, hq⟩, q⟩ | ⟨⟨xs, hq⟩, q⟩
  · obtain ⟨its, rv, p, hz⟩ := I1.list hq
    refine wpAny_pyIter_list p.isList ?_
    refine ⟨s1.heap.objs.size, [s1.heap.objs.size], _, _, H1, rfl, I1.kept (t' := s1.toks) fun b o e => Heap.get?_push_of_some _ e, turn_list a _, ⟨_, Heap.get?_push_size _ rfl, rfl, rfl⟩, fun b hb => ?_, q⟩
    have e : b = s1.heap.objs.size := by simpa using hb
    subst e
    exact I1.fpOk (Nat.le_refl _) (I1.hok.fresh (Nat.le_refl _))
  · obtain ⟨its, rv, p, hz⟩ := I1.tuple hq
    refine wpAny_pyIter_tuple (show s1.heap.IsTuple a its.toArray from p) ?_
    refine ⟨s1.heap.objs.size, [s1.heap.objs.size], _, _, H1, rfl, I1.kept (t' := s1.toks) fun b o e => Heap.get?_push_of_some _ e, turn_tuple a _, ⟨_, Heap.get?_push_size _ rfl, rfl, rfl⟩, fun b hb => ?_, q⟩
    have e : b = s1.heap.objs.size := by simpa using hb
    subst e
    exact I1.fpOk (Nat.le_refl _) (I1.hok.fresh (Nat.le_refl _))
@[simp] def seqD : PyData → Option (List PyData)
  | .list ds => some ds
  | .tuple ds => some ds
  | .dict kvs => some (kvs.map (·.1))
  | _ => none
@[simp] def iSq (f : Fn) : Rho → Option (List PyData) := fun ρ => (f ρ).bind seqD
theorem id_seq {l : Expr} (hl : ED K X M l ta f) (hK : X.K = K := by rfl) : ID K X M (Dd K) tg l (iSeq K ta) (iSq f) := by
  subst hK
  refine ⟨pi_seq hl.pe, fun {Hs0 H0 Hs H σ ρ ds R} r hf q => ?_⟩
  obtain ⟨d, h1, h2⟩ := bind_some hf
  refine hl.sm r h1 fun v Hs1 H1 g1 d1 => ?_
  cases d1 with
  | @lst p xs ds' hp t =>
    obtain rfl := Option.some.inj h2
    exact ⟨p, rfl, .inl ⟨⟨xs, sqL_of (g1.sub _ _ hp)⟩, q _ Hs1 H1 g1 (yields_list (fun H e => sqL_of (e _ _ hp)) t)⟩⟩
  | @scr p ns hp =>
    have h2 : some ((scrK ns).map (·.1)) = some ds := h2
    rw [scr_fst] at h2
    obtain rfl := Option.some.inj h2
    exact ⟨p, rfl, .inl ⟨⟨_, g1.sub.seq hp⟩, q _ Hs1 H1 g1 (yields_list (fun H e => e.seq hp) (DdAll.ints ns))⟩⟩
  | @tup p ob xs ds' n hp t =>
    obtain rfl := Option.some.inj h2
    exact ⟨p, rfl, .inr ⟨⟨xs, sqT_of (g1.sub _ _ hp)⟩, q _ Hs1 H1 g1 (yields_tup (fun H e => sqT_of (e _ _ hp)) t)⟩⟩
  | _ => cases h2
/-- range(n), range(m, n) -/
def rgD (lo : Int) (n : Nat) : List PyData := (List.range n).map fun (i : Nat) => PyData.int (lo + i)
theorem rgD_get {lo : Int} {n i : Nat} (h : i < n) : (rgD lo n)[i]? = some (.int (lo + i)) := by
  unfold rgD
  rw [List.getElem?_map, List.getElem?_range h]
  rfl
theorem rgD_len {lo : Int} {n : Nat} : (rgD lo n).length = n := by
  unfold rgD
  rw [List.length_map, List.length_range]
theorem yields_rg {K : PySem.W.Frag} {Hs : Hp} {lo : Int} {n : Nat} : Yields K (Dd K) (Itr lo n) Hs (rgD lo n) where
  go := fun i H e hi => by rw [rgD_len] at hi; exact hi
  stop := fun i H e hi => by rw [rgD_len] at hi; exact hi
  yld := fun i H x H' Hs2 hi e1 e2 h => ⟨Hs2, by
    obtain ⟨rfl, rfl⟩ := h
    rw [rgD_len] at hi
    exact ⟨Grow.refl e2, _, rgD_get hi, .int _⟩⟩
def B62 (i : Int) : Prop := -(2 ^ 62) ≤ i ∧ i < 2 ^ 62
noncomputable instance : DecidablePred B62 := fun _ => Classical.propDecidable _
@[simp] noncomputable def iR1 (f : Fn) : Rho → Option (List PyData) := fun ρ => (f ρ).bind fun d => match d with
  | .int j => if B62 j then some (rgD 0 j.toNat) else none
  | _ => none
theorem id_range1 {p pos : Pos} (ha : ED K X M a ta f) (hm : X.mg "range" = none) (hg : Gl X "range" := by rfl) (hs : starEach [a] X.env = [(false, eval a X.env)] := by rfl) : ID K X M (Dd K) tg (.Call (.Name "range" p) [a] [] pos) (iRng1 (tCons ta tNil)) (iR1 f) :=
  ⟨pi_range1 hg hm (pa_cons ha.pe pa_nil hs) hs, fun {Hs0 H0 Hs H σ ρ ds R} r hf q => by
    obtain ⟨d, h1, h2⟩ := bind_some hf
    refine ha.sm r h1 fun v Hs1 H1 g1 d1 => ?_
    cases d1 with
    | int j =>
      obtain ⟨hb, rfl⟩ := ite_some h2
      exact ⟨j, rfl, hb.1, hb.2, q _ Hs1 H1 g1 yields_rg⟩
    | _ => cases h2⟩
@[simp] noncomputable def iR2 (f f' : Fn) : Rho → Option (List PyData) := fun ρ => (f ρ).bind fun d => (f' ρ).bind fun d' => match d, d' with
  | .int i, .int j => if B62 i ∧ B62 j then some (rgD i (j - i).toNat) else none
  | _, _ => none
theorem id_range2 {p pos : Pos} (ha : ED K X M a ta fa) (hb : ED K X M b tb fb) (hm : X.mg "range" = none) (hg : Gl X "range" := by rfl) (hs : starEach [a, b] X.env = [(false, eval a X.env), (false, eval b X.env)] := by rfl) (hs2 : starEach [b] X.env = [(false, eval b X.env)] := by rfl) :
    ID K X M (Dd K) tg (.Call (.Name "range" p) [a, b] [] pos) (iRng2 (tCons ta (tCons tb tNil))) (iR2 fa fb) :=
  ⟨pi_range2 hg hm (pa_cons ha.pe (pa_cons hb.pe pa_nil hs2) (by rw [hs, hs2])) hs hs2, fun {Hs0 H0 Hs H σ ρ ds R} r hf q => by
    obtain ⟨d, h1, h2⟩ := bind_some hf
    obtain ⟨d', h2, h3⟩ := bind_some h2
    refine ha.sm r h1 fun v Hs1 H1 g1 d1 => ?_
    refine hb.sm (r.grow g1) h2 fun w Hs2 H2 g2 d2 => ?_
    cases d1 with
    | int i =>
      cases d2 with
      | int j =>
        obtain ⟨⟨b1, b2⟩, rfl⟩ := ite_some h3
        exact ⟨i, j, rfl, ⟨b1.1, b1.2, b2.1, b2.2⟩, q _ Hs2 H2 (g1.trans g2) yields_rg⟩
      | _ => cases h3
    | _ => cases h3⟩
/-- tuple(range(n)), list(range(n)), reversed(range(n)) -/
@[simp] def gRg (w : List PyData → PyData) (f : Fn) : Fn := fun ρ => (f ρ).bind fun d => match d with
  | .int j => if 0 ≤ j ∧ j ≤ 1000000 then some (w (rgD 0 j.toNat)) else none
  | _ => none
theorem rgV_rgD {H : Hp} {j : Int} : DdAll K H (rgV 0 j) (rgD 0 j.toNat) := by
  unfold rgV rgD
  rw [Int.sub_zero]
  have : ∀ l : List Nat, DdAll K H (l.map fun i => V.int (0 + (i : Nat))) (l.map fun (i : Nat) => PyData.int (0 + i)) := fun l => by
    induction l with
    | nil => exact .nil
    | cons a r ih => exact .cons (.int _) ih
  exact this _
def tTupRgN (te : L2.St → Hp → (Int → Int → Hp → Prop) → Prop) : TE := fun σ H Q => te σ H fun a b H1 => RgOk a b ∧ NewT Q H1 (rgV a b)
theorem pe_tupRgN {te : L2.St → Hp → (Int → Int → Hp → Prop) → Prop} {p pos : Pos} (hc : X.calm = true) (hg : Gl X "tuple") (hm : X.mg "tuple" = none) (he : PRg X e te) (na : starEach [e] X.env = (false, eval e X.env) :: starEach [] X.env := by rfl) : PE X (.Call (.Name "tuple" p) [e] [] pos) (tTupRgN te) := by
  refine ⟨fun pins s σ H Q I h => ?_⟩
  refine Call_ (ld_blt I hg hm boot_tuple (PyProof.Rows.callWith_type1 (args_cons (thn (he pins s σ H _ I h) fun x s1 ⟨r, a, b, t, u, v, H1, ex, hr, I1, ok, q⟩ => args_nil ?_) na) na))
  subst ex
  obtain ⟨b1, b2, b3, b4, b5⟩ := ok
  refine call_tuple_range (n := (b - a).toNat) (I1.ok.hd hc) hr (small_one b1 b2 b3 b4) (rangeSize_nat a b) b5 fun h' tk acc hk hi => ?_
  have I2 : Inv X pins σ H1 { s1 with heap := h', toks := tk } := I1.kept hk
  have := Inv.tupN (t' := tk) I2 (vals_rg hi) (by rw [rgV_length, sizeLine_eq]; omega)
  rw [Array.toArray_toList] at this
  exact ⟨.ref h'.objs.size, _, this, rfl, q _ _ rfl (I2.hok.fresh (Nat.le_refl _))⟩
theorem ed_tupRg {p1 p2 pos1 : Pos} (ha : ED K X M a ta f) (hmr : X.mg "range" = none) (hm : X.mg "tuple" = none) (hgr : Gl X "range" := by rfl) (hg : Gl X "tuple" := by rfl) (hc : X.calm = true := by rfl)
    (n1 : starEach [a] X.env = (false, eval a X.env) :: starEach [] X.env := by rfl) (na : starEach [.Call (.Name "range" p1) [a] [] pos1] X.env = (false, eval (.Call (.Name "range" p1) [a] [] pos1) X.env) :: starEach [] X.env := by rfl) :
    ED K X M (.Call (.Name "tuple" p2) [.Call (.Name "range" p1) [a] [] pos1] [] pos) (tTupRgN (tRg1 ta)) (gRg .tuple f) :=
  ⟨pe_tupRgN hc hg hm (prg_1 hgr hmr ha.pe n1) na, fun {Hs0 H0 Hs H σ ρ d Q} r hf q => by
    obtain ⟨d, h1, h2⟩ := bind_some hf
    refine ha.sm r h1 fun v Hs1 H1 g1 d1 => ?_
    cases d1 with
    | int j =>
      obtain ⟨⟨b1, b2⟩, rfl⟩ := ite_some h2
      exact ⟨j, rfl, RgOk.of_le (by omega) (by omega) (by omega) b1, NewT.of g1 rgV_rgD q⟩
    | _ => cases h2⟩
@[simp] def gRgL (f : Fn) : Rho → Option (List PyData) := fun ρ => (f ρ).bind fun d => match d with
  | .int j => if 0 ≤ j ∧ j ≤ 1000000 then some (rgD 0 j.toNat) else none
  | _ => none
theorem fd_listRg {p1 p2 pos1 : Pos} (ha : ED K X M a ta f) (hmr : X.mg "range" = none) (hm : X.mg "list" = none) (hgr : Gl X "range" := by rfl) (hg : Gl X "list" := by rfl) (hc : X.calm = true := by rfl)
    (n1 : starEach [a] X.env = (false, eval a X.env) :: starEach [] X.env := by rfl) (na : starEach [.Call (.Name "range" p1) [a] [] pos1] X.env = (false, eval (.Call (.Name "range" p1) [a] [] pos1) X.env) :: starEach [] X.env := by rfl) :
    FD K X M (.Call (.Name "list" p2) [.Call (.Name "range" p1) [a] [] pos1] [] pos) (tLstRg (tRg1 ta)) (gRgL f) :=
  ⟨pe_listRg hc hg hm (prg_1 hgr hmr ha.pe n1) na, fun {Hs0 H0 Hs H σ ρ ds Q} r hf q => by
    obtain ⟨d, h1, h2⟩ := bind_some hf
    refine ha.sm r h1 fun v Hs1 H1 g1 d1 => ?_
    cases d1 with
    | int j =>
      obtain ⟨⟨b1, b2⟩, rfl⟩ := ite_some h2
      refine ⟨j, rfl, RgOk.of_le (by omega) (by omega) (by omega) b1, fun p hp => ?_⟩
      exact q p _ Hs1 _ (g1.trans (Grow.alloc0 g1.sub hp)) (g1.ex.free hp) (g1.sub.free hp) upd_same rgV_rgD
    | _ => cases h2⟩

/-! ### targets -/
structure GD (K : PySem.W.Frag) (X : Cx) (M : List Nat) (Rl : YR) (vs : List Nat) (tg : Expr) (g : TG) (h : PyData → Rho → Option Rho) : Prop where
  pg : PG X tg g
  sm : ∀ {Hs0 H0 Hs H : Hp} {σ : L2.St} {ρ ρ' : Rho} {v : V} {d : PyData} {Q : L2.St → Hp → Prop}, SR K M Hs0 H0 Hs H σ ρ → Rl Hs v d → h d ρ = some ρ' → (∀ σ', SR K M Hs0 H0 Hs H σ' ρ' → (∀ ws, (∀ i ∈ vs, i ∈ ws) → wipe σ' ws = wipe σ ws) → Q σ' H) → g v σ H Q
theorem wipe_set {σ : L2.St} {i : Nat} {x : Option V} : ∀ {ws : List Nat}, i ∈ ws → wipe (σ.set i x) ws = wipe σ ws
  | w :: ws, h => by
    unfold wipe
    by_cases hw : i ∈ ws
    · rw [wipe_set hw]
    · have hi : i = w := by
        rcases List.mem_cons.mp h with z | z
        · exact z
        · exact absurd z hw
      subst hi
      have out : ∀ (vs : List Nat) (τ : L2.St), i ∉ vs → (wipe (τ.set i x) vs).set i none = (wipe τ vs).set i none := fun vs => by
        induction vs with
        | nil => intro τ _; unfold wipe; rw [List.set_set]
        | cons v vs ih =>
          intro τ hv
          unfold wipe
          have hne : v ≠ i := fun z => hv (by rw [z]; exact List.mem_cons_self)
          rw [List.set_comm _ _ hne, ih τ (fun z => hv (List.mem_cons_of_mem _ z)), List.set_comm _ _ hne.symm]
      exact out ws σ hw
theorem SR.set {Hs0 H0 Hs H : Hp} {σ : L2.St} {ρ : Rho} {i : Nat} {v : V} {d : PyData} (r : SR K M Hs0 H0 Hs H σ ρ) (hM : M.contains i = false) (a : Dd K Hs v d) : SR K M Hs0 H0 Hs H (σ.set i (some v)) (ρ.set i (some d)) where
  g := r.g
  len := by rw [List.length_set, List.length_set]; exact r.len
  frz := fun j e h m => by
    by_cases hj : i = j
    · subst hj
      have hi : i < ρ.length := by
        have := (List.getElem?_eq_some_iff.mp h).1
        rwa [List.length_set] at this
      rw [List.getElem?_set_self hi] at h
      cases h
      exact ⟨v, List.getElem?_set_self (by rw [r.len]; exact hi), a⟩
    · rw [List.getElem?_set_ne hj] at h ⊢
      exact r.frz j e h m
  own := fun j e h m => by
    have hj : i ≠ j := fun z => by rw [z, m] at hM; cases hM
    rw [List.getElem?_set_ne hj] at h ⊢
    exact r.own j e h m
  sep := fun j k dj dk p h1 h2 m1 m2 h3 h4 => by
    have hj : i ≠ j := fun z => by rw [z, m1] at hM; cases hM
    have hk : i ≠ k := fun z => by rw [z, m2] at hM; cases hM
    rw [List.getElem?_set_ne hj] at h1 h3
    rw [List.getElem?_set_ne hk] at h2 h4
    exact r.sep j k dj dk p h1 h2 m1 m2 h3 h4
@[simp] def hName (i : Nat) : PyData → Rho → Option Rho := fun d ρ => some (ρ.set i (some d))
theorem gd_name (i : Nat) {x : Str} (hN : X.N.Nodup) (hi : X.N[i]? = some x := by rfl) (hx : Loc X.env.scope x := by first | exact Or.inl rfl | exact Or.inr rfl) (hM : M.contains i = false := by rfl)
    (hf : X.fn x = true ∨ X.env.scope.names.lookup x = some .local := by first | exact .inl rfl | exact .inr rfl) : GD K X M (Dd K) [i] (.Name x pos) (gName i) (hName i) :=
  ⟨pg_name hN hi hx hf, fun {Hs0 H0 Hs H σ ρ ρ' v d Q} r a h q => by
    cases h
    exact q _ (r.set hM a) fun ws hw => wipe_set (hw i (by simp))⟩
/-- several targets -/
structure GsD (K : PySem.W.Frag) (X : Cx) (M : List Nat) (vs : List Nat) (ts : List Expr) (g : TGs) (h : List PyData → Rho → Option Rho) : Prop where
  pg : PGs X ts g
  sm : ∀ {Hs0 H0 Hs H : Hp} {σ : L2.St} {ρ ρ' : Rho} {xs : List V} {ds : List PyData} {Q : L2.St → Hp → Prop}, SR K M Hs0 H0 Hs H σ ρ → DdAll K Hs xs ds → h ds ρ = some ρ' → (∀ σ', SR K M Hs0 H0 Hs H σ' ρ' → (∀ ws, (∀ i ∈ vs, i ∈ ws) → wipe σ' ws = wipe σ ws) → Q σ' H) → g xs σ H Q
@[simp] def hNil : List PyData → Rho → Option Rho := fun ds ρ => match ds with
  | [] => some ρ
  | _ => none
@[simp] def hCons (h : PyData → Rho → Option Rho) (hs : List PyData → Rho → Option Rho) : List PyData → Rho → Option Rho := fun ds ρ => match ds with
  | [] => none
  | d :: r => (h d ρ).bind fun ρ' => hs r ρ'
theorem gsd_nil : GsD K X M [] [] gNil hNil :=
  ⟨pgs_nil, fun {Hs0 H0 Hs H σ ρ ρ' xs ds Q} r a h q => by
    cases a with
    | nil => cases h; exact ⟨rfl, q _ r fun _ _ => rfl⟩
    | cons _ _ => cases h⟩
theorem gsd_cons {vs ws : List Nat} {g : TG} {gs : TGs} {h : PyData → Rho → Option Rho} {hs : List PyData → Rho → Option Rho} {ts : List Expr} (h1 : GD K X M (Dd K) vs e g h) (h2 : GsD K X M ws ts gs hs)
    (hst : (assignEach (e :: ts) X.env).map (·.2) = assign e X.env :: (assignEach ts X.env).map (·.2) := by rfl) : GsD K X M (vs ++ ws) (e :: ts) (gCons g gs) (hCons h hs) :=
  ⟨pgs_cons h1.pg h2.pg hst, fun {Hs0 H0 Hs H σ ρ ρ' xs ds Q} r a hf q => by
    cases a with
    | nil => cases hf
    | cons a1 a2 =>
      obtain ⟨ρ1, e1, e2⟩ := bind_some hf
      refine ⟨_, _, rfl, h1.sm r a1 e1 fun σ1 r1 w1 => h2.sm r1 a2 e2 fun σ2 r2 w2 => q σ2 r2 fun wl hw => ?_⟩
      rw [w2 wl (fun i hi => hw i (List.mem_append_right _ hi)), w1 wl (fun i hi => hw i (List.mem_append_left _ hi))]⟩
/-- a tuple or list of that length, unpacked -/
def gSeq (K : PySem.W.Frag) (n : Nat) (t : TGs) : TG := fun v σ H Q => gTup K n t v σ H Q ∨ gUnl K n t v σ H Q
@[simp] def hSeq (n : Nat) (h : List PyData → Rho → Option Rho) : PyData → Rho → Option Rho := fun d ρ => match d with
  | .tuple ds => if ds.length = n then h ds ρ else none
  | .list ds => if ds.length = n then h ds ρ else none
  | _ => none
theorem ite_get {α : Type} {c : Prop} [Decidable c] {a : Option α} {b : α} (h : (if c then a else none) = some b) : c ∧ a = some b := by
  by_cases hc : c
  · rw [if_pos hc] at h; exact ⟨hc, h⟩
  · rw [if_neg hc] at h; cases h
theorem pg_seq {es : List Expr} {k : Nat} {t : TGs} {n : Nat} (hc : X.calm = true) (h : PGs X es t) (hn : (assignEach es X.env).length = n) (hst : (assignEach es X.env).findIdx? (·.1) = none) : PG X (.Tuple es k pos) (gSeq X.K n t) :=
  ⟨fun pins s σ H v u Q I r hw => by
    rcases hw with hw | hw
    · exact (pg_tup hc h hn hst).run pins s σ H v u Q I r hw
    · exact (pg_unl hc h hn hst).run pins s σ H v u Q I r hw⟩
theorem gd_seq {vs : List Nat} {g : TGs} {h : List PyData → Rho → Option Rho} {k n : Nat} (hs : GsD K X M vs es g h) (hc : X.calm = true := by rfl) (hn : (assignEach es X.env).length = n := by rfl) (hst : (assignEach es X.env).findIdx? (·.1) = none := by rfl) (hK : X.K = K := by rfl) :
    GD K X M (Dd K) vs (.Tuple es k pos) (gSeq K n g) (hSeq n h) := by
  subst hK
  refine ⟨pg_seq hc hs.pg hn hst, fun {Hs0 H0 Hs H σ ρ ρ' v d Q} r a hf q => ?_⟩
  cases a with
  | @tup p ob xs ds nn hp t =>
    obtain ⟨hl, hf⟩ := ite_get hf
    exact .inl ⟨p, xs, rfl, sqT_of (r.sub _ _ hp), by rw [t.length]; exact hl, hs.sm r t hf q⟩
  | @lst p xs ds hp t =>
    obtain ⟨hl, hf⟩ := ite_get hf
    exact .inr ⟨p, xs, rfl, sqL_of (r.sub _ _ hp), by rw [t.length]; exact hl, hs.sm r t hf q⟩
  | _ => cases hf
/-- a pair that an iterator hands out -/
theorem gd_pair {vs : List Nat} {g : TGs} {h : List PyData → Rho → Option Rho} {k n : Nat} (hs : GsD K X M vs es g h) (hc : X.calm = true := by rfl) (hn : (assignEach es X.env).length = n := by rfl) (hst : (assignEach es X.env).findIdx? (·.1) = none := by rfl) (hK : X.K = K := by rfl) :
    GD K X M (Dy K) vs (.Tuple es k pos) (gSeq K n g) (hSeq n h) := by
  subst hK
  refine ⟨pg_seq hc hs.pg hn hst, fun {Hs0 H0 Hs H σ ρ ρ' v d Q} r a hf q => ?_⟩
  obtain ⟨p, xs, ds, rfl, rfl, hp, t⟩ := a
  obtain ⟨hl, hf⟩ := ite_get hf
  exact .inl ⟨p, xs, rfl, .inl (.inl (r.sub _ _ hp)), by rw [t.length]; exact hl, hs.sm r t hf q⟩
end
end DL

namespace DL
open PySem PySem.Spec PyProof.Rows L2

/-! ### comprehensions -/
@[simp] def wipeR (ρ : Rho) : List Nat → Rho
  | [] => ρ
  | v :: vs => (wipeR ρ vs).set v none
theorem wipeR_length (ρ : Rho) : ∀ vs : List Nat, (wipeR ρ vs).length = ρ.length
  | [] => rfl
  | v :: vs => by unfold wipeR; rw [List.length_set, wipeR_length ρ vs]
theorem wipeR_some {ρ : Rho} {i : Nat} {x : PyData} : ∀ {vs : List Nat}, (wipeR ρ vs)[i]? = some (some x) → ρ[i]? = some (some x) ∧ i ∉ vs
  | [], h => ⟨h, by simp⟩
  | v :: vs, h => by
    unfold wipeR at h
    by_cases hi : v = i
    · subst hi
      by_cases hv : v < (wipeR ρ vs).length
      · rw [List.getElem?_set_self hv] at h; cases h
      · rw [List.getElem?_eq_none (by simpa using hv)] at h; cases h
    · rw [List.getElem?_set_ne hi] at h
      obtain ⟨h1, h2⟩ := wipeR_some h
      exact ⟨h1, by simp only [List.mem_cons, not_or]; exact ⟨fun e => hi e.symm, h2⟩⟩
theorem wipe_in {i : Nat} : ∀ {vs : List Nat} (τ : L2.St), i ∈ vs → (L2.wipe τ vs)[i]? = if i < τ.length then some none else none
  | v :: vs, τ, h => by
    unfold L2.wipe
    by_cases hv : v = i
    · subst hv
      by_cases hl : v < τ.length
      · rw [if_pos hl, List.getElem?_set_self (by rw [wipe_length]; exact hl)]
      · rw [if_neg hl, List.getElem?_eq_none (by rw [List.length_set, wipe_length]; omega)]
    · rw [List.getElem?_set_ne hv]
      exact wipe_in τ ((List.mem_cons.mp h).resolve_left fun z => hv z.symm)
theorem wipe_wipe (σ : L2.St) (vs : List Nat) : L2.wipe (L2.wipe σ vs) vs = L2.wipe σ vs := by
  refine List.ext_getElem? fun i => ?_
  by_cases hi : i ∈ vs
  · rw [wipe_in _ hi, wipe_in _ hi, wipe_length]
  · rw [wipe_out hi]
section
variable {K : PySem.W.Frag} {X : Cx} {M : List Nat} {Rl : YR}
theorem SR.wipe {Hs0 H0 Hs H : Hp} {σ : L2.St} {ρ : Rho} (r : SR K M Hs0 H0 Hs H σ ρ) (vs : List Nat) : SR K M Hs0 H0 Hs H (L2.wipe σ vs) (wipeR ρ vs) where
  g := r.g
  len := by rw [wipe_length, wipeR_length]; exact r.len
  frz := fun i d h m => by
    obtain ⟨h1, h2⟩ := wipeR_some h
    rw [wipe_out h2]
    exact r.frz i d h1 m
  own := fun i d h m => by
    obtain ⟨h1, h2⟩ := wipeR_some h
    rw [wipe_out h2]
    exact r.own i d h1 m
  sep := fun i j di dj p h1 h2 m1 m2 h3 h4 => by
    obtain ⟨a1, a2⟩ := wipeR_some h1
    obtain ⟨b1, b2⟩ := wipeR_some h2
    rw [wipe_out a2] at h3
    rw [wipe_out b2] at h4
    exact r.sep i j di dj p a1 b1 m1 m2 h3 h4
structure CTD (K : PySem.W.Frag) (X : Cx) (M : List Nat) (ifs : List Expr) (t : TT) (f : Rho → Option Bool) : Prop where
  pt : PTs X ifs t
  sm : ∀ {Hs0 H0 Hs H : Hp} {σ : L2.St} {ρ : Rho} {b : Bool} {Q : Bool → Hp → Prop}, SR K M Hs0 H0 Hs H σ ρ → f ρ = some b → (∀ H', Same H H' → Q b H') → t σ H Q
@[simp] def cYes : Rho → Option Bool := fun _ => some true
theorem ctd_nil : CTD K X M [] tYes cYes := ⟨pts_nil, fun {Hs0 H0 Hs H σ ρ b Q} r h q => by cases h; exact q H (Same.refl _)⟩
theorem ctd_one {e : Expr} {t : TT} {f : Rho → Option Bool} (h : TD K X M e t f) : CTD K X M [e] t f := ⟨pts_one h.pt, h.sm⟩
/-- what a comprehension makes -/
def compF (tg : PyData → Rho → Option Rho) (c : Rho → Option Bool) (f : Fn) (ρ : Rho) : List PyData → Option (List PyData)
  | [] => some []
  | d :: ds => (tg d ρ).bind fun ρ1 => (c ρ1).bind fun b => if b = true then (f ρ1).bind fun y => (compF tg c f ρ ds).bind fun ys => some (y :: ys) else compF tg c f ρ ds
def fLc (vs : List Nat) (h : Rho → Option (List PyData)) (tg : PyData → Rho → Option Rho) (c : Rho → Option Bool) (f : Fn) : Rho → Option (List PyData) :=
  fun ρ => (h ρ).bind fun ds => if ds.length ≤ 1000000 then compF tg c f (wipeR ρ vs) ds else none
theorem fd_lc {elt tg iter : Expr} {ifs : List Expr} {scope : Scope} {pos : Pos} {wi : TI} {g : TG} {tt : TT} {te : TE} {ws : List Nat} {h : Rho → Option (List PyData)} {hg' : PyData → Rho → Option Rho} {c : Rho → Option Bool} {f : Fn}
    (own : List (Str × Nat)) (hN : X.N.Nodup) (hi : ID K X M Rl tg iter wi h) (ok : BlkOk X.N X.env.scope scope own)
    (hg : ∀ (s : Shared) (H : Hp) (C : Addr) (cl : List (Str × Addr)) (fp : List Addr), GD K (X.blk s H scope (compEnvC scope cl C X.env) fp) M Rl ws tg g hg')
    (ht : ∀ (s : Shared) (H : Hp) (C : Addr) (cl : List (Str × Addr)) (fp : List Addr), CTD K (X.blk s H scope (compEnvC scope cl C X.env) fp) M ifs tt c)
    (he : ∀ (s : Shared) (H : Hp) (C : Addr) (cl : List (Str × Addr)) (fp : List Addr), ED K (X.blk s H scope (compEnvC scope cl C X.env) fp) M elt te f)
    (hws : ws.all (fun i => (own.map (·.2)).contains i) = true := by rfl) (hc : X.calm = true := by rfl) (hs : ∀ x, foldedSetIterable iter X.env x = pure x := by intro _; rfl) :
    FD K X M (.ListComp elt [⟨tg, iter, ifs, 0⟩] scope pos) (tLc wi g tt te (own.map (·.2))) (fLc (own.map (·.2)) h hg' c f) := by
  have hws' : ∀ i ∈ ws, i ∈ own.map (·.2) := fun i hi => by
    have := List.all_eq_true.mp hws i hi
    simpa using this
  refine ⟨pe_lc hc hN hi.pi ok (fun s H C cl fp => (hg s H C cl fp).pg) (fun s H C cl fp => (ht s H C cl fp).pt) (fun s H C cl fp => (he s H C cl fp).pe) hs, fun {Hs0 H0 Hs H σ ρ res Q} R hf q => ?_⟩
  obtain ⟨ds, h1, h2⟩ := bind_some hf
  obtain ⟨hl, h2⟩ := ite_get h2
  refine hi.sm R h1 fun J Hs1 H1 g1 Y D hD => ?_
  have nD : Hs1 D = none := g1.sub.free hD
  refine ⟨fun i m H' => m = ds.length - i ∧ i ≤ ds.length ∧ ∃ Hsi acc accd tail, Grow Hs1 H1 Hsi H' ∧ Hsi D = none ∧ H' D = some (.lst acc) ∧ DdAll K Hsi acc accd ∧ acc.length ≤ i ∧ compF hg' c f (wipeR ρ (own.map (·.2))) (ds.drop i) = some tail ∧ accd ++ tail = res,
    ⟨ds.length, by simp, Nat.zero_le _, Hs1, [], [], res, Grow.alloc0 g1.sub hD, nD, upd_same, .nil, Nat.le_refl _, h2, rfl⟩, ?_⟩
  rintro i m H2 ⟨rfl, hle, Hsi, acc, accd, tail, g2, n2, hD2, d2, hacc, hcf, hres⟩
  by_cases hlt : i < ds.length
  · refine .inr ⟨Y.go i H2 (g2.exs.trans g2.sub) hlt, fun H' => i + 1 ≤ ds.length ∧ ∃ Hsi acc accd tail, Grow Hs1 H1 Hsi H' ∧ Hsi D = none ∧ H' D = some (.lst acc) ∧ DdAll K Hsi acc accd ∧ acc.length ≤ i + 1 ∧ compF hg' c f (wipeR ρ (own.map (·.2))) (ds.drop (i + 1)) = some tail ∧ accd ++ tail = res,
      fun H' ⟨a, b⟩ => ⟨ds.length - (i + 1), by omega, rfl, a, b⟩, fun x H3 hy => ?_⟩
    obtain ⟨Hs3, g3, d, hd, ad⟩ := Y.yld i H2 x H3 Hsi hlt g2.exs g2.sub hy
    have ed : ds.drop i = d :: ds.drop (i + 1) := by
      have e1 := List.drop_eq_getElem_cons hlt
      have e2 : ds[i] = d := (List.getElem?_eq_some_iff.mp hd).2
      rw [e1, e2]
    rw [ed] at hcf
    unfold compF at hcf
    obtain ⟨ρ1, c1, hcf⟩ := bind_some hcf
    obtain ⟨b, c2, hcf⟩ := bind_some hcf
    have R3 : SR K M Hs0 H0 Hs3 H3 (L2.wipe σ (own.map (·.2))) (wipeR ρ (own.map (·.2))) := (((R.grow g1).wipe _).grow g2).grow g3
    refine (hg X.s_0 (fun _ => none) 0 [] []).sm R3 ad c1 fun σ4 R4 w4 => ⟨?_, ?_⟩
    · rw [w4 _ hws']
      exact wipe_wipe σ _
    · refine (ht X.s_0 (fun _ => none) 0 [] []).sm R4 c2 fun H5 e5 => ?_
      have hD5 : H5 D = some (.lst acc) := e5 _ _ (g3.ex _ _ hD2)
      have n3 : Hs3 D = none := g3.new D n2 (by rw [hD2]; simp)
      cases b with
      | false =>
        rw [if_neg Bool.false_ne_true] at hcf ⊢
        exact ⟨hlt, Hs3, acc, accd, tail, (g2.trans g3).trans (Grow.idle g3.sub e5), n3, hD5, d2.mono g3.exs, Nat.le_succ_of_le hacc, hcf, hres⟩
      | true =>
        rw [if_pos rfl] at hcf ⊢
        obtain ⟨y, c3, hcf⟩ := bind_some hcf
        obtain ⟨ys, c4, hcf⟩ := bind_some hcf
        obtain rfl := Option.some.inj hcf
        refine (he X.s_0 (fun _ => none) 0 [] []).sm (R4.same e5) c3 fun v Hs6 H6 g6 d6 => ?_
        have hD6 : H6 D = some (.lst acc) := g6.ex _ _ hD5
        have n6 : Hs6 D = none := g6.new D n3 (by rw [hD5]; simp)
        have gg := ((g2.trans g3).trans (Grow.idle g3.sub e5)).trans g6
        refine ⟨acc, hD6, szL (by omega), hlt, Hs6, acc ++ [v], accd ++ [y], ys, ⟨fun b o e => ?_, gg.exs, fun b o e => ?_, gg.new⟩, n6, upd_same, ((d2.mono g3.exs).mono g6.exs).append (.cons d6 .nil), ?_, c4, ?_⟩
        · have hb : b ≠ D := fun z => by rw [z, hD] at e; cases e
          rw [upd_ne hb]
          exact gg.ex _ _ e
        · have hb : b ≠ D := fun z => by rw [z, n6] at e; cases e
          rw [upd_ne hb]
          exact gg.sub _ _ e
        · rw [List.length_append, List.length_singleton]
          omega
        · rw [List.append_assoc]
          exact hres
  · have ei : i = ds.length := by omega
    subst ei
    rw [List.drop_length] at hcf
    unfold compF at hcf
    cases hcf
    rw [List.append_nil] at hres
    subst hres
    exact .inl ⟨Y.stop _ H2 (g2.exs.trans g2.sub) (Nat.le_refl _), q D acc Hsi H2 (g1.trans g2) (g1.ex.free hD) n2 hD2 d2⟩
end
end DL

namespace DL
open PySem PySem.Spec PyProof.Rows L2
inductive Out where
  | nx (ρ : Rho) | ret (d : PyData) | brk (ρ : Rho) | ct (ρ : Rho) | exc (c : Nat) (ρ : Rho)
abbrev Gn := Rho → Option Out
section
variable {K : PySem.W.Frag} {X : Cx} {M : List Nat} {Rl : YR} {xc : Nat → Addr} {W : WX} {Hs0 H0 Hs H Hs1 : Hp} {D : Ends}
def OutOk (K : PySem.W.Frag) (xc : Nat → Addr) (M : List Nat) (Hs0 H0 Hs : Hp) (W : WX) (D : Ends) : Out → Prop
  | .nx ρ' => ∀ Hs' H' σ', Same Hs Hs' → SR K M Hs0 H0 Hs' H' σ' ρ' → D.nx σ' H'
  | .ret d => ∀ v Hs' H', Grow Hs0 H0 Hs' H' → Dd K Hs' v d → D.rt v H'
  | .brk ρ' => ∀ Hs' H' σ', Same Hs Hs' → SR K M Hs0 H0 Hs' H' σ' ρ' → D.bk σ' H'
  | .ct ρ' => ∀ Hs' H' σ', Same Hs Hs' → SR K M Hs0 H0 Hs' H' σ' ρ' → D.ct σ' H'
  | .exc c ρ' => ∀ Hs' H' σ', Same Hs Hs' → SR K M Hs0 H0 Hs' H' σ' ρ' → W (.ref (xc c)) none σ' H'
theorem OutOk.up {r : Out} (e : Same Hs Hs1) (h : OutOk K xc M Hs0 H0 Hs W D r) : OutOk K xc M Hs0 H0 Hs1 W D r := by
  cases r with
  | nx ρ => exact fun Hs' H' σ' e' => h Hs' H' σ' (e.trans e')
  | ret d => exact h
  | brk ρ => exact fun Hs' H' σ' e' => h Hs' H' σ' (e.trans e')
  | ct ρ => exact fun Hs' H' σ' e' => h Hs' H' σ' (e.trans e')
  | exc c ρ => exact fun Hs' H' σ' e' => h Hs' H' σ' (e.trans e')
structure SD (K : PySem.W.Frag) (xc : Nat → Addr) (X : Cx) (M : List Nat) (W : WX) (st : Stmt) (t : TS) (g : Gn) : Prop where
  ps : PS X st t
  sm : ∀ {Hs0 H0 Hs H : Hp} {σ : L2.St} {ρ : Rho} {r : Out} {D : Ends}, SR K M Hs0 H0 Hs H σ ρ → g ρ = some r → OutOk K xc M Hs0 H0 Hs W D r → t D σ H
structure SS (K : PySem.W.Frag) (xc : Nat → Addr) (X : Cx) (M : List Nat) (W : WX) (st : List Stmt) (t : TS) (g : Gn) : Prop where
  ps : PSs X st t
  sm : ∀ {Hs0 H0 Hs H : Hp} {σ : L2.St} {ρ : Rho} {r : Out} {D : Ends}, SR K M Hs0 H0 Hs H σ ρ → g ρ = some r → OutOk K xc M Hs0 H0 Hs W D r → t D σ H

/-! ### blocks -/
@[simp] def gNx : Gn := fun ρ => some (.nx ρ)
@[simp] def gBlk (g1 g2 : Gn) : Gn := fun ρ => (g1 ρ).bind fun r => match r with
  | .nx ρ' => g2 ρ'
  | r => some r
variable {st : Stmt} {rest : List Stmt} {t u : TS} {g1 g2 : Gn} {e : Expr} {te : TE} {f : Fn} {pos pos' : Pos}
theorem ss_nil : SS K xc X M W [] tNext gNx := ⟨pss_nil, fun {Hs0 H0 Hs H σ ρ r D} R h o => by cases h; exact o Hs H σ (Same.refl _) R⟩
theorem seq_sm {t1 t2 : TS} (h1 : ∀ {Hs0 H0 Hs H : Hp} {σ : L2.St} {ρ : Rho} {r : Out} {D : Ends}, SR K M Hs0 H0 Hs H σ ρ → g1 ρ = some r → OutOk K xc M Hs0 H0 Hs W D r → t1 D σ H)
    (h2 : ∀ {Hs0 H0 Hs H : Hp} {σ : L2.St} {ρ : Rho} {r : Out} {D : Ends}, SR K M Hs0 H0 Hs H σ ρ → g2 ρ = some r → OutOk K xc M Hs0 H0 Hs W D r → t2 D σ H)
    {σ : L2.St} {ρ : Rho} {r : Out} (R : SR K M Hs0 H0 Hs H σ ρ) (h : gBlk g1 g2 ρ = some r) (o : OutOk K xc M Hs0 H0 Hs W D r) : tSeq t1 t2 D σ H := by
  obtain ⟨r1, a, b⟩ := bind_some h
  refine h1 (D := { D with nx := t2 D }) R a ?_
  cases r1 with
  | nx ρ1 => exact fun Hs' H' σ' e' R' => h2 R' b (o.up e')
  | ret d => obtain rfl := Option.some.inj b; exact o
  | brk ρ1 => obtain rfl := Option.some.inj b; exact o
  | ct ρ1 => obtain rfl := Option.some.inj b; exact o
  | exc c ρ1 => obtain rfl := Option.some.inj b; exact o
theorem ss_cons (h1 : SD K xc X M W st t g1) (h2 : SS K xc X M W rest u g2) : SS K xc X M W (st :: rest) (tSeq t u) (gBlk g1 g2) :=
  ⟨pss_cons h1.ps h2.ps, fun R h o => seq_sm h1.sm h2.sm R h o⟩
theorem ss_one (h1 : SD K xc X M W st t g1) : SS K xc X M W [st] t g1 := ⟨pss_one h1.ps, h1.sm⟩

/-! ### small statements -/
@[simp] def gRet (f : Fn) : Gn := fun ρ => (f ρ).bind fun d => some (.ret d)
theorem sd_ret (h : ED K X [] e te f) : SD K xc X M W (.Return (some e) pos) (tRet te) (gRet f) :=
  ⟨ps_ret h.pe, fun {Hs0 H0 Hs H σ ρ r D} R hf o => by
    obtain ⟨d, h1, h2⟩ := bind_some hf
    obtain rfl := Option.some.inj h2
    obtain ⟨Hp', e1, R1, _⟩ := R.thaw
    exact h.sm R1 h1 fun v Hs2 H2 g2 d2 => o v Hs2 H2 (R1.g.trans g2) d2⟩
@[simp] def gAsg (f : Fn) (tg : PyData → Rho → Option Rho) : Gn := fun ρ => (f ρ).bind fun d => (tg d ρ).bind fun ρ' => some (.nx ρ')
theorem asg_sm {g : TG} {vs : List Nat} {tg : Expr} {hg : PyData → Rho → Option Rho} (h : ED K X M e te f) (hG : GD K X M (Dd K) vs tg g hg) {σ : L2.St} {ρ : Rho} {r : Out} (R : SR K M Hs0 H0 Hs H σ ρ) (hf : gAsg f hg ρ = some r) (o : OutOk K xc M Hs0 H0 Hs W D r) : tAsg te g D σ H := by
  obtain ⟨d, h1, h2⟩ := bind_some hf
  obtain ⟨ρ', h4, h3⟩ := bind_some h2
  obtain rfl := Option.some.inj h3
  exact h.sm R h1 fun v Hs1 H1 g1 d1 => hG.sm (R.grow g1) d1 h4 fun σ' R' _ => o Hs1 H1 σ' g1.exs R'
/-- name = e -/
theorem sd_set (i : Nat) {x : Str} (hN : X.N.Nodup) (h : ED K X M e te f) (hi : X.N[i]? = some x := by rfl) (hx : Loc X.env.scope x := by first | exact Or.inl rfl | exact Or.inr rfl) (hM : M.contains i = false := by rfl)
    (hs : swapsWith e (some (.Name x pos')) pos.line X.env = pure false := by rfl) (hf : X.fn x = true ∨ X.env.scope.names.lookup x = some .local := by first | exact .inl rfl | exact .inr rfl) :
    SD K xc X M W (.Assign [.Name x pos'] e pos) (tAsg te (gName i)) (gAsg f (hName i)) :=
  ⟨ps_set hN hi hx h.pe hs hf, fun R hf' o => asg_sm h (gd_name (pos := pos) i hN hi hx hM hf) R hf' o⟩
/-- targets = e -/
theorem sd_tgt {tg : Expr} {g : TG} {vs : List Nat} {hg : PyData → Rho → Option Rho} (h : ED K X M e te f) (hG : GD K X M (Dd K) vs tg g hg) (hs : swapsWithSole [tg] e pos.line X.env = pure false := by rfl) (hw : swappedStores [tg] e X.env = pure none := by rfl)
    (h1 : (assignEach [tg] X.env).map (·.2) = [assign tg X.env] := by rfl) : SD K xc X M W (.Assign [tg] e pos) (tAsg te g) (gAsg f hg) :=
  ⟨ps_asg h.pe hG.pg hs hw h1, fun R hf' o => asg_sm h hG R hf' o⟩
/-- name = [..], on one line -/
theorem sd_setLc {elt tg iter : Expr} {ifs : List Expr} {scope : Scope} {pos1 py : Pos} {wi : TI} {g : TG} {tt : TT} {ws : List Nat} {h : Rho → Option (List PyData)} {hg' : PyData → Rho → Option Rho} {c : Rho → Option Bool} (i : Nat) {y : Str}
    (own : List (Str × Nat)) (hN : X.N.Nodup) (hi : ID K X M Rl tg iter wi h) (ok : BlkOk X.N X.env.scope scope own)
    (hg : ∀ (s : Shared) (H : Hp) (C : Addr) (cl : List (Str × Addr)) (fp : List Addr), GD K (X.blk s H scope (compEnvC scope cl C X.env) fp) M Rl ws tg g hg')
    (ht : ∀ (s : Shared) (H : Hp) (C : Addr) (cl : List (Str × Addr)) (fp : List Addr), CTD K (X.blk s H scope (compEnvC scope cl C X.env) fp) M ifs tt c)
    (he : ∀ (s : Shared) (H : Hp) (C : Addr) (cl : List (Str × Addr)) (fp : List Addr), ED K (X.blk s H scope (compEnvC scope cl C X.env) fp) M elt te f)
    (hsw : swapsWith (.ListComp elt [⟨tg, iter, ifs, 0⟩] scope pos1) (some (.Name y py)) pos.line X.env = pure true)
    (hy : X.N[i]? = some y := by rfl) (hyl : X.env.scope.names.lookup y = some .local := by rfl) (hM : M.contains i = false := by rfl)
    (hws : ws.all (fun i => (own.map (·.2)).contains i) = true := by rfl) (hc : X.calm = true := by rfl) (hs : ∀ x, foldedSetIterable iter X.env x = pure x := by intro _; rfl) :
    SD K xc X M W (.Assign [.Name y py] (.ListComp elt [⟨tg, iter, ifs, 0⟩] scope pos1) pos) (tAsg (tLc wi g tt te (own.map (·.2))) (gName i)) (gAsg (fFr (fLc (own.map (·.2)) h hg' c f)) (hName i)) :=
  ⟨ps_setLc hc hN hy hyl hsw hi.pi ok (fun s H C cl fp => (hg s H C cl fp).pg) (fun s H C cl fp => (ht s H C cl fp).pt) (fun s H C cl fp => (he s H C cl fp).pe) hs,
    fun R hf' o => asg_sm (ed_fr (fd_lc (pos := pos1) own hN hi ok hg ht he hws hc hs)) (gd_name (pos := py) i hN hy (.inl hyl) hM (.inr hyl)) R hf' o⟩
/-- if -/
@[simp] def gIf (c : Rho → Option Bool) (g1 g2 : Gn) : Gn := fun ρ => (c ρ).bind fun b => if b = true then g1 ρ else g2 ρ
theorem sd_if {c : Expr} {a b : List Stmt} {tc : TT} {bc : Rho → Option Bool} (hc : TD K X [] c tc bc) (ha : SS K xc X M W a t g1) (hb : SS K xc X M W b u g2) : SD K xc X M W (.If c a b pos) (tIfS tc t u) (gIf bc g1 g2) :=
  ⟨ps_if hc.pt ha.ps hb.ps, fun {Hs0 H0 Hs H σ ρ r D} R hf o => by
    obtain ⟨k, h1, h2⟩ := bind_some hf
    obtain ⟨Hp', e1, R1, _⟩ := R.thaw
    refine hc.sm R1 h1 fun H1 e2 => ?_
    cases k with
    | true => rw [if_pos rfl] at h2 ⊢; exact ha.sm (R.same e2) h2 o
    | false => rw [if_neg Bool.false_ne_true] at h2 ⊢; exact hb.sm (R.same e2) h2 o⟩
/-- for -/
def forF (tg : PyData → Rho → Option Rho) (body : Gn) : List PyData → Gn
  | [], ρ => some (.nx ρ)
  | d :: ds, ρ => (tg d ρ).bind fun ρ1 => (body ρ1).bind fun r => match r with
    | .nx ρ' => forF tg body ds ρ'
    | .ct ρ' => forF tg body ds ρ'
    | .brk ρ' => some (.nx ρ')
    | .ret d => some (.ret d)
    | .exc c ρ' => some (.exc c ρ')
@[simp] def gFor (h : Rho → Option (List PyData)) (tg : PyData → Rho → Option Rho) (body : Gn) : Gn := fun ρ => (h ρ).bind fun ds => forF tg body ds ρ
theorem sd_for {iter tg : Expr} {body : List Stmt} {wi : TI} {g : TG} {tb : TS} {gb : Gn} {vs : List Nat} {h : Rho → Option (List PyData)} {hg : PyData → Rho → Option Rho} (hp : PassesOwn (model X.prog X.w) X.A X.env X.xe)
    (hi : ID K X M Rl tg iter wi h) (hG : GD K X M Rl vs tg g hg) (hb : SS K xc X M W body tb gb) (hc : X.calm = true := by rfl) (hs : ∀ x, foldedSetIterable iter X.env x = pure x := by intro _; rfl) :
    SD K xc X M W (.For tg iter body [] pos) (tFor wi g tb) (gFor h hg gb) :=
  ⟨ps_for hp hc hi.pi hG.pg hb.ps hs, fun {Hs0 H0 Hs H σ ρ r D} R hf o => by
    obtain ⟨ds, h1, h2⟩ := bind_some hf
    refine hi.sm R h1 fun J Hs1 H1 g1 Y => ?_
    refine ⟨fun i m σ' H' => m = ds.length - i ∧ i ≤ ds.length ∧ ∃ Hsi ρi, Same Hs1 Hsi ∧ SR K M Hs0 H0 Hsi H' σ' ρi ∧ forF hg gb (ds.drop i) ρi = some r, ⟨ds.length, by simp, Nat.zero_le _, Hs1, ρ, Same.refl _, R.grow g1, h2⟩, ?_⟩
    rintro i m σ2 H2 ⟨rfl, hle, Hsi, ρi, e2, R2, hF⟩
    by_cases hlt : i < ds.length
    · refine .inr ⟨Y.go i H2 (e2.trans R2.sub) hlt, fun σ' H' => i + 1 ≤ ds.length ∧ ∃ Hsi ρi, Same Hs1 Hsi ∧ SR K M Hs0 H0 Hsi H' σ' ρi ∧ forF hg gb (ds.drop (i + 1)) ρi = some r,
        fun σ' H' ⟨a, b⟩ => ⟨ds.length - (i + 1), by omega, rfl, a, b⟩, fun x H3 hy => ?_⟩
      obtain ⟨Hs3, g3, d, hd, ad⟩ := Y.yld i H2 x H3 Hsi hlt e2 R2.sub hy
      have ed : ds.drop i = d :: ds.drop (i + 1) := by
        have e1 := List.drop_eq_getElem_cons hlt
        have e2 : ds[i] = d := (List.getElem?_eq_some_iff.mp hd).2
        rw [e1, e2]
      rw [ed] at hF
      unfold forF at hF
      obtain ⟨ρ1, c1, hF⟩ := bind_some hF
      obtain ⟨r1, c2, hF⟩ := bind_some hF
      refine hG.sm (R2.grow g3) ad c1 fun σ4 R4 _ => ?_
      refine hb.sm R4 c2 ?_
      cases r1 with
      | nx ρ' => exact fun Hs' H' σ' e' R' => ⟨hlt, Hs', ρ', (e2.trans g3.exs).trans e', R', hF⟩
      | ct ρ' => exact fun Hs' H' σ' e' R' => ⟨hlt, Hs', ρ', (e2.trans g3.exs).trans e', R', hF⟩
      | brk ρ' =>
        obtain rfl := Option.some.inj hF
        exact fun Hs' H' σ' e' R' => o Hs' H' σ' (((g1.exs.trans e2).trans g3.exs).trans e') R'
      | ret d' =>
        obtain rfl := Option.some.inj hF
        exact o
      | exc c ρ' =>
        obtain rfl := Option.some.inj hF
        exact fun Hs' H' σ' e' R' => o Hs' H' σ' (((g1.exs.trans e2).trans g3.exs).trans e') R'
    · have ei : i = ds.length := by omega
      subst ei
      rw [List.drop_length] at hF
      unfold forF at hF
      obtain rfl := Option.some.inj hF
      exact .inl ⟨Y.stop _ H2 (e2.trans R2.sub) (Nat.le_refl _), o Hsi H2 σ2 (g1.exs.trans e2) R2⟩⟩
/-- while -/
def whileF (c : Rho → Option Bool) (body : Gn) : Nat → Gn
  | 0, _ => none
  | n + 1, ρ => (c ρ).bind fun b => if b = true then (body ρ).bind fun r => match r with
    | .nx ρ' => whileF c body n ρ'
    | .ct ρ' => whileF c body n ρ'
    | .brk ρ' => some (.nx ρ')
    | .ret d => some (.ret d)
    | .exc c ρ' => some (.exc c ρ')
    else some (.nx ρ)
theorem sd_while (n : Nat) {c : Expr} {body : List Stmt} {tc : TT} {bc : Rho → Option Bool} {tb : TS} {gb : Gn} (hp : PassesOwn (model X.prog X.w) X.A X.env X.xe) (hc : TD K X [] c tc bc) (hb : SS K xc X M W body tb gb) :
    SD K xc X M W (.While c body [] pos) (tWhile tc tb) (whileF bc gb n) :=
  ⟨ps_while hp hc.pt hb.ps, fun {Hs0 H0 Hs H σ ρ r D} R hf o => by
    refine ⟨fun m σ' H' => ∃ Hsi ρi, Same Hs Hsi ∧ SR K M Hs0 H0 Hsi H' σ' ρi ∧ whileF bc gb m ρi = some r, ⟨n, Hs, ρ, Same.refl _, R, hf⟩, ?_⟩
    rintro m σ2 H2 ⟨Hsi, ρi, e2, R2, hF⟩
    cases m with
    | zero => cases hF
    | succ m =>
      unfold whileF at hF
      obtain ⟨k, h1, hF⟩ := bind_some hF
      obtain ⟨Hp', e1, R1, _⟩ := R2.thaw
      refine hc.sm R1 h1 fun H3 e3 => ?_
      cases k with
      | false =>
        rw [if_neg Bool.false_ne_true] at hF ⊢
        obtain rfl := Option.some.inj hF
        exact o Hsi H3 σ2 e2 (R2.same e3)
      | true =>
        rw [if_pos rfl] at hF ⊢
        obtain ⟨r1, c2, hF⟩ := bind_some hF
        refine ⟨fun σ' H' => ∃ Hsi ρi, Same Hs Hsi ∧ SR K M Hs0 H0 Hsi H' σ' ρi ∧ whileF bc gb m ρi = some r, fun σ' H' h => ⟨m, Nat.lt_succ_self m, h⟩, ?_⟩
        refine hb.sm (R2.same e3) c2 ?_
        cases r1 with
        | nx ρ' => exact fun Hs' H' σ' e' R' => ⟨Hs', ρ', e2.trans e', R', hF⟩
        | ct ρ' => exact fun Hs' H' σ' e' R' => ⟨Hs', ρ', e2.trans e', R', hF⟩
        | brk ρ' =>
          obtain rfl := Option.some.inj hF
          exact fun Hs' H' σ' e' R' => o Hs' H' σ' (e2.trans e') R'
        | ret d' =>
          obtain rfl := Option.some.inj hF
          exact o
        | exc c ρ' =>
          obtain rfl := Option.some.inj hF
          exact fun Hs' H' σ' e' R' => o Hs' H' σ' (e2.trans e') R'⟩

/-! ### calls that may raise, as statements -/
variable {tr : TA} {fr : Rho → Option (List PyData)} {es : List Expr} {x : Str} {p : Pos}
/-- a call of a def: what it gives or raises -/
structure QD (K : PySem.W.Frag) (xc : Nat → Addr) (X : Cx) (M : List Nat) (W : WX) (e : Expr) (t : TE) (f : Rho → Option (Except Nat PyData)) : Prop where
  pe : PE X e t
  sm : ∀ {Hs0 H0 Hs H : Hp} {σ : L2.St} {ρ : Rho} {r : Except Nat PyData} {Q : VK}, SR K M Hs0 H0 Hs H σ ρ → f ρ = some r →
    (match r with
      | .ok d => ∀ v Hs' H', Grow Hs H Hs' H' → Dd K Hs' v d → Q v H'
      | .error c => ∀ H', Same H H' → W (.ref (xc c)) none σ H') → t σ H Q
@[simp] def qCall (φ : List PyData → Option (Except Nat PyData)) (fa : Rho → Option (List PyData)) : Rho → Option (Except Nat PyData) := fun ρ => (fa ρ).bind φ
theorem qd_call {k n : Nat} {fA : Addr} {fd : FuncData} {ps : List Str} {φ : List PyData → Option (Except Nat PyData)} (F : FnOk X.prog X.w X.K X.mg X.base (L2.CX X.prog X.w) k fA fd ps (spX K n xc φ)) (hr : Room k X.A) (hm : X.mg x = some (.ref fA))
    (hk : PySem.W.keepIn X.K (.ref fA) = true) (hb : Binds X.K fd ps []) (hn : ∀ ds r, φ ds = some r → ds.length = n) (tk : Takes X W) (ha : AD K X M (e :: es) tr fr) (hg : Gl X x := by rfl) (hdb : (x == ("__debug__" : Str)) = false := by decide) (he : starEach (e :: es) X.env = (false, eval e X.env) :: starEach es X.env := by rfl)
    (hpl : (backTo pos (starEach es X.env)).any (·.1) = false := by rfl) : QD K xc X M W (.Call (.Name x p) (e :: es) [] pos) (tCallS (spX K n xc φ) (WE W) tr) (qCall φ fr) :=
  ⟨pe_callS F hr hg hm hk hb (fun σ => passAt tk σ) ha.pa hdb he hpl, fun {Hs0 H0 Hs H σ ρ r Q} R hf q => by
    obtain ⟨ds, h1, h2⟩ := bind_some hf
    refine ha.sm R h1 fun vs Hs1 H1 g1 d1 => ?_
    refine ⟨by rw [d1.length]; exact hn _ _ h2, Hs1, ds, r, g1.sub, d1, h2, ?_⟩
    cases r with
    | error c => exact fun H2 e2 => q H2 (g1.ex.trans e2)
    | ok d => exact fun v Hs2 H2 g2 d2 => q v Hs2 H2 (g1.trans g2) d2⟩
@[simp] def gExprQ (f : Rho → Option (Except Nat PyData)) : Gn := fun ρ => (f ρ).bind fun r => match r with
  | .ok _ => some (.nx ρ)
  | .error c => some (.exc c ρ)
theorem sd_exprQ {f : Rho → Option (Except Nat PyData)} (h : QD K xc X M W e te f) (hs : swapsWith e none pos.line X.env = pure false := by rfl) : SD K xc X M W (.Expr e pos) (tDrop te) (gExprQ f) :=
  ⟨ps_expr h.pe hs, fun {Hs0 H0 Hs H σ ρ r D} R hf o => by
    obtain ⟨q, h1, h2⟩ := bind_some hf
    refine h.sm R h1 ?_
    cases q with
    | ok d =>
      obtain rfl := Option.some.inj h2
      exact fun v Hs1 H1 g1 d1 => o Hs1 H1 σ g1.exs (R.grow g1)
    | error c =>
      obtain rfl := Option.some.inj h2
      exact fun H1 e1 => o Hs H1 σ (Same.refl _) (R.same e1)⟩
@[simp] def gSetQ (i : Nat) (f : Rho → Option (Except Nat PyData)) : Gn := fun ρ => (f ρ).bind fun r => match r with
  | .ok d => some (.nx (ρ.set i (some d)))
  | .error c => some (.exc c ρ)
theorem sd_setQ (i : Nat) {x : Str} {f : Rho → Option (Except Nat PyData)} (hN : X.N.Nodup) (h : QD K xc X M W e te f) (hi : X.N[i]? = some x := by rfl) (hx : Loc X.env.scope x := by first | exact Or.inl rfl | exact Or.inr rfl) (hM : M.contains i = false := by rfl)
    (hs : swapsWith e (some (.Name x pos')) pos.line X.env = pure false := by rfl) (hf : X.fn x = true ∨ X.env.scope.names.lookup x = some .local := by first | exact .inl rfl | exact .inr rfl) :
    SD K xc X M W (.Assign [.Name x pos'] e pos) (tAsg te (gName i)) (gSetQ i f) :=
  ⟨ps_set hN hi hx h.pe hs hf, fun {Hs0 H0 Hs H σ ρ r D} R hf o => by
    obtain ⟨q, h1, h2⟩ := bind_some hf
    refine h.sm R h1 ?_
    cases q with
    | ok d =>
      obtain rfl := Option.some.inj h2
      exact fun v Hs1 H1 g1 d1 => o Hs1 H1 _ g1.exs ((R.grow g1).set hM d1)
    | error c =>
      obtain rfl := Option.some.inj h2
      exact fun H1 e1 => o Hs H1 σ (Same.refl _) (R.same e1)⟩
@[simp] def gRetQ (f : Rho → Option (Except Nat PyData)) : Gn := fun ρ => (f ρ).bind fun r => match r with
  | .ok d => some (.ret d)
  | .error c => some (.exc c ρ)

/-! ### raise of an own class made with a text -/
@[simp] def gRaise (c : Nat) : Gn := fun ρ => some (.exc c ρ)
theorem sd_raise (c : Nat) {m : Str} {j : Nat} {p2 : Pos} (q : PySem.W.excIn X.K (xc c) [.type "ValueError", .type "Exception", .type "BaseException", .type "object"] "ValueError.__new__" = true) (gC : X.mg x = some (.ref (xc c))) (kC : PySem.W.keepIn X.K (.ref (xc c)) = true)
    (r : Raises X (.ref (xc c))) (tk : Takes X W) (hg : Gl X x := by rfl) (hc : X.calm = true := by rfl) (hdb : (x == ("__debug__" : Str)) = false := by decide) : SD K xc X M W (.Raise (some (.Call (.Name x p) [.Constant (.str m) j p2] [] pos')) none pos) (fun _ σ H => W (.ref (xc c)) none σ H) (gRaise c) :=
  ⟨ps_raise hc tk (pmk_own PySem.F.excBase_ValueError q gC kC r hg hdb), fun {Hs0 H0 Hs H σ ρ r D} R hf o => by
    cases hf
    exact o Hs H σ (Same.refl _) R⟩
end

/-! ### a def -/
@[simp] def runDef (N : Nat) (g : Gn) : List PyData → Option (Except Nat PyData) := fun ds => match g (ds.map some ++ List.replicate (N - ds.length) none) with
  | some (.ret d) => some (.ok d)
  | some (.nx _) => some (.ok .none)
  | some (.exc c _) => some (.error c)
  | _ => none
/-- .. of just so many arguments -/
@[simp] def defN (n N : Nat) (g : Gn) : List PyData → Option (Except Nat PyData) := fun ds => if ds.length = n then runDef N g ds else none
theorem defN_len {n N : Nat} {g : Gn} : ∀ ds r, defN n N g ds = some r → ds.length = n := fun ds r h => (ite_get h).1
section
variable {K : PySem.W.Frag} {P : Program} {w : World} {mg : Str → Option Value} {base : Heap} {xc : Nat → Addr}
theorem ok_def {x qual : Str} {st : Stmt} {f : Addr} {fd : FuncData} {N ps : List Str} {k n : Nat} (M : List Nat) {g : Gn} (F : Fun K x qual st f fd) (S : FnScope N ps (defScope st)) (hn : ps.length = n)
    (hb : ∀ (cdv : Value) (A : Around) (outer : List Env) (s : Shared) (H : Hp) (E : XK), Room k (A.deeper (envOfC qual (defScope st) s.heap.objs.size f cdv)) →
      PassesOwn (model P w) (cxOf (L2.CX P w) P w K mg base N qual (defScope st) f cdv A outer s H E).A (cxOf (L2.CX P w) P w K mg base N qual (defScope st) f cdv A outer s H E).env (cxOf (L2.CX P w) P w K mg base N qual (defScope st) f cdv A outer s H E).xe →
      Takes (cxOf (L2.CX P w) P w K mg base N qual (defScope st) f cdv A outer s H E) (fun cls d _ H' => E cls d H') →
      ∃ t, SS K xc (cxOf (L2.CX P w) P w K mg base N qual (defScope st) f cdv A outer s H E) M (fun cls d _ H' => E cls d H') (defBody st) t g)
    (hM : M.all (fun i => decide (n ≤ i)) = true := by rfl) :
    FnOk P w K mg base (L2.CX P w) (k + 1) f fd ps (spX K n xc (defN n N.length g)) := by
  refine F.okX S (fun vs H Q E h => by rw [hn]; exact h.1) (fun cdv A outer s H vs Q E hr h => ?_)
  obtain ⟨hl, Hs, ds, r, e, dd, hφ, hq⟩ := h
  obtain ⟨hds, hφ⟩ := ite_get hφ
  obtain ⟨t, hS⟩ := hb cdv A outer s H E hr (passes_of rfl) (takes_of rfl rfl rfl rfl)
  refine ⟨t, hS.ps, ?_⟩
  have hlen := dd.length
  have R : SR K M Hs H Hs H (L2.start N vs) (ds.map some ++ List.replicate (N.length - ds.length) none) := by
    have get : ∀ {i : Nat} {d : PyData}, (ds.map some ++ List.replicate (N.length - ds.length) none)[i]? = some (some d) → ds[i]? = some d := fun {i d} h => by
      by_cases hi : i < ds.length
      · rw [List.getElem?_append_left (by simpa using hi), List.getElem?_map] at h
        rw [List.getElem?_eq_getElem hi] at h ⊢
        cases h; rfl
      · rw [List.getElem?_append_right (by simpa using hi), List.getElem?_replicate] at h
        split at h <;> cases h
    refine ⟨Grow.refl e, ?_, fun i d h _ => ?_, fun i d h m => ?_, fun i j di dj p h1 h2 m1 m2 h3 h4 => ?_⟩
    · unfold L2.start
      rw [List.length_append, List.length_append, List.length_map, List.length_map, List.length_replicate, List.length_replicate, hlen]
    · obtain ⟨v, h1, h2⟩ := dd.get (get h)
      refine ⟨v, ?_, h2⟩
      unfold L2.start
      have hi : i < vs.length := (List.getElem?_eq_some_iff.mp h1).1
      rw [List.getElem?_append_left (by simpa using hi), List.getElem?_map, h1]
      rfl
    · have := (List.getElem?_eq_some_iff.mp (get h)).1
      have hi : i ∈ M := by simpa using m
      have := of_decide_eq_true (List.all_eq_true.mp hM i hi)
      omega
    · have := (List.getElem?_eq_some_iff.mp (get h1)).1
      have hi : i ∈ M := by simpa using m1
      have := of_decide_eq_true (List.all_eq_true.mp hM i hi)
      omega
  unfold runDef at hφ
  cases hg : g (ds.map some ++ List.replicate (N.length - ds.length) none) with
  | none => rw [hg] at hφ; cases hφ
  | some o =>
    rw [hg] at hφ
    refine hS.sm R hg ?_
    cases o with
    | nx ρ =>
      obtain rfl := Option.some.inj hφ
      exact fun Hs' H' σ' e' R' => hq _ Hs' H' R'.g .non
    | ret d =>
      obtain rfl := Option.some.inj hφ
      exact fun v Hs' H' g' d' => hq v Hs' H' g' d'
    | exc c ρ =>
      obtain rfl := Option.some.inj hφ
      exact fun Hs' H' σ' e' R' => hq H' R'.g.ex
    | brk ρ => cases hφ
    | ct ρ => cases hφ
end
end DL

namespace DL
open PySem PySem.Spec PyProof.Rows L2
/-! ### tuple * int -/
theorem tuple_mul1 (l : Addr) (items : Array Value) (n : Nat) (dd : Option Addr) (sl : Array (Option Value)) (x : Int) (u : Tok) (c0 : (decide (x < -(2 ^ 63)) || decide (x ≥ 2 ^ 63)) = false) (c1 : (items.isEmpty || x == 1) = true) :
    Meets (Builtin.«tuple.__mul__» ⟨[.ref l, .int x u], []⟩) (fun _ R s => s.heap.get? l = some { cls := .type "tuple", dict := dd, data := .seq items n, slots := sl } ∧ R (.ok (.ret (Value.ref l))) s) :=
  .of_wp fun prog w A R s h => by
    obtain ⟨hp, g, d, tk, os⟩ := s
    obtain ⟨hl, h⟩ := h
    have f1 := AutoSeq1.idx_int
    wp_walk using wpAny_loadPart' hl
    repeat (first
      | (refine wpAny_ite_false (decide_eq_false (by rw [c0]; exact Bool.false_ne_true)) ?_; wp_walk using wpAny_loadPart' hl)
      | (refine wpAny_ite_true (decide_eq_true (by rw [c1])) ?_; wp_walk using wpAny_loadPart' hl))
    exact ⟨_, rfl, h⟩
theorem tuple_mul0 (l : Addr) (items : Array Value) (n : Nat) (dd : Option Addr) (sl : Array (Option Value)) (x : Int) (u : Tok) (c0 : (decide (x < -(2 ^ 63)) || decide (x ≥ 2 ^ 63)) = false) (c1 : (items.isEmpty || x == 1) = false) (c2 : (decide (x ≤ 0) || items.isEmpty) = true) :
    Meets (Builtin.«tuple.__mul__» ⟨[.ref l, .int x u], []⟩) (fun _ R s => s.heap.get? l = some { cls := .type "tuple", dict := dd, data := .seq items n, slots := sl } ∧
      R (.ok (.ret (Value.ref s.heap.objs.size))) { s with heap := s.heap.push { cls := Value.type "tuple", data := Data.seq #[] }, toks := s.toks }) :=
  .of_wp fun prog w A R s h => by
    obtain ⟨hp, g, d, tk, os⟩ := s
    obtain ⟨hl, h⟩ := h
    have f1 := AutoSeq1.idx_int
    wp_walk using wpAny_loadPart' hl
    repeat (first
      | (refine wpAny_ite_false (decide_eq_false (by rw [c0]; exact Bool.false_ne_true)) ?_; wp_walk using wpAny_loadPart' hl)
      | (refine wpAny_ite_false (decide_eq_false (by rw [c1]; exact Bool.false_ne_true)) ?_; wp_walk using wpAny_loadPart' hl)
      | (refine wpAny_ite_true (decide_eq_true (by rw [c2])) ?_; wp_walk using wpAny_loadPart' hl))
    exact ⟨_, rfl, h⟩

def rRepN (K : PySem.W.Frag) : R2 := fun x y H Q => ∃ l k xs, x = .ref l ∧ y = .int k ∧ SqT K H l xs ∧ -1000 ≤ k ∧ k ≤ 1000 ∧ xs.length ≤ 1000 ∧ (xs = [] ∨ k = 1 → Q (.ref l) H) ∧ (¬ (xs = [] ∨ k = 1) → NewT Q H (List.replicate k.toNat xs).flatten)
section
variable {X : Cx} {K : PySem.W.Frag}
theorem op_repN : OpR X (binaryOp .Mult) (rRepN X.K) := by
  intro pins s σ H x y v u Q I rx ry h
  obtain ⟨l, k, xs, rfl, rfl, hT, h1, h2, hz, q1, q2⟩ := h
  cases rx
  obtain ⟨t, rfl⟩ := ry
  obtain ⟨its, r, ⟨⟨cls, dd, data, sl⟩, ho, hc, n, hd⟩, hs⟩ := I.tuple hT
  simp only at hc hd
  subst hc hd
  have hle : its.length = xs.length := r.length.symm
  have c0 : (decide (k < -(2 ^ 63)) || decide (k ≥ 2 ^ 63)) = false := by
    rw [decide_eq_false (by omega), decide_eq_false (by omega)] <;> rfl
  have ie : its.toArray.isEmpty = decide (xs = []) := by
    cases xs with
    | nil => cases r; rfl
    | cons a b => cases r; rfl
  by_cases hc1 : xs = [] ∨ k = 1
  · have c1 : (its.toArray.isEmpty || k == 1) = true := by
      rw [ie]
      rcases hc1 with z | z
      · rw [decide_eq_true z, Bool.true_or]
      · rw [z]; simp
    exact wpAny_binaryOp_repeat_ref (T := "tuple") (U := "int") (by decide) ⟨_, ho, rfl⟩ (fun s' => typeIs_int s' k t) noFill_tuple_mul F.fills_int_mul F.slot_int_rmul repeat_tuple F.slot_int_index.lookup
      (call_meets F.slot_int_rmul (typeIs_int s k t) F.entry_int_rmul (F.args_int_rmul_2 _ _) (int_rmul_tuple k t l its.toArray n dd sl)
        ⟨ho, rfl, ⟨_, ho, rfl⟩, call_meets F.slot_tuple_mul ⟨_, ho, rfl⟩ F.entry_tuple_mul (F.args_tuple_mul_2 _ _) (tuple_mul1 l its.toArray n dd sl k t c0 c1) ⟨ho, .ref l, H, I, rfl, q1 hc1⟩⟩)
  · have hx : xs ≠ [] := fun z => hc1 (.inl z)
    have hk : k ≠ 1 := fun z => hc1 (.inr z)
    have hi : its.toArray.isEmpty = false := by rw [ie, decide_eq_false hx]
    have c1 : (its.toArray.isEmpty || k == 1) = false := by
      rw [hi, Bool.false_or]
      exact beq_eq_false_iff_ne.mpr hk
    have q := q2 hc1
    by_cases hk0 : k ≤ 0
    · have c2 : (decide (k ≤ 0) || its.toArray.isEmpty) = true := by rw [decide_eq_true hk0, Bool.true_or]
      have e0 : (List.replicate k.toNat xs).flatten = [] := by
        have : k.toNat = 0 := by omega
        rw [this]
        rfl
      rw [e0] at q
      exact wpAny_binaryOp_repeat_ref (T := "tuple") (U := "int") (by decide) ⟨_, ho, rfl⟩ (fun s' => typeIs_int s' k t) noFill_tuple_mul F.fills_int_mul F.slot_int_rmul repeat_tuple F.slot_int_index.lookup
        (call_meets F.slot_int_rmul (typeIs_int s k t) F.entry_int_rmul (F.args_int_rmul_2 _ _) (int_rmul_tuple k t l its.toArray n dd sl)
          ⟨ho, rfl, ⟨_, ho, rfl⟩, call_meets F.slot_tuple_mul ⟨_, ho, rfl⟩ F.entry_tuple_mul (F.args_tuple_mul_2 _ _) (tuple_mul0 l its.toArray n dd sl k t c0 c1 c2) ⟨ho, .ref s.heap.objs.size, _, Inv.tupN (its := []) (t' := s.toks) I .nil (Nat.zero_le _), rfl, q _ _ rfl (I.hok.fresh (Nat.le_refl _))⟩⟩)
    · have hsz0 : its.toArray.size = xs.length := by rw [List.size_toArray, hle]
      have hm : ((its.toArray.size : Nat) : Int) * k ≤ 1000000 := by
        rw [hsz0]
        have a1 : ((xs.length : Nat) : Int) * k ≤ 1000 * k := Int.mul_le_mul_of_nonneg_right (by omega) (by omega)
        omega
      have flen : (List.replicate k.toNat its).flatten.length ≤ sizeLine := by
        rw [PyProof.Rows.lm_len_rep_flat, hle, sizeLine_eq]
        have a1 : k.toNat * xs.length ≤ 1000 * 1000 := Nat.mul_le_mul (by omega) hz
        omega
      have c2 : (decide (k ≤ 0) || its.toArray.isEmpty) = false := by
        rw [hi, Bool.or_false]
        exact decide_eq_false hk0
      have c4 : Builtin.Tuple.tupleTooMany (((its.toArray.size : Nat) : Int) * k) = false := by
        unfold Builtin.Tuple.tupleTooMany
        rw [sizeLine_eq]
        exact decide_eq_false (by omega)
      refine wpAny_binaryOp_repeat_ref (T := "tuple") (U := "int") (by decide) ⟨_, ho, rfl⟩ (fun s' => typeIs_int s' k t) noFill_tuple_mul F.fills_int_mul F.slot_int_rmul repeat_tuple F.slot_int_index.lookup
        (call_meets F.slot_int_rmul (typeIs_int s k t) F.entry_int_rmul (F.args_int_rmul_2 _ _) (int_rmul_tuple k t l its.toArray n dd sl)
          ⟨ho, rfl, ⟨_, ho, rfl⟩, call_meets F.slot_tuple_mul ⟨_, ho, rfl⟩ F.entry_tuple_mul (F.args_tuple_mul_2 _ _) (tuple_mulW l its.toArray n dd sl k t c0 c1 c2 (by omega) c4 (by rw [size_rep, List.size_toArray]; exact flen)) ⟨ho, ?_⟩⟩)
      rw [size_rep]
      exact ⟨.ref s.heap.objs.size, _, Inv.tupN (t' := s.toks) I (r.rep k.toNat) (by rw [PyProof.Rows.lm_len_rep_flat, sizeLine_eq]; have a1 : k.toNat * xs.length ≤ 1000 * 1000 := Nat.mul_le_mul (by omega) hz; omega), rfl, q _ _ rfl (I.hok.fresh (Nat.le_refl _))⟩
def rMulD (K : PySem.W.Frag) : R2 := fun x y H Q => rI MulOk (fun i j => .int (i * j)) x y H Q ∨ rRepN K x y H Q
@[simp] noncomputable def gMulD : PyData → PyData → Option PyData
  | .int a, .int b => if MulOk a b then some (.int (a * b)) else none
  | .tuple ds, .int k => if -1000 ≤ k ∧ k ≤ 1000 ∧ ds.length ≤ 1000 then some (.tuple (List.replicate k.toNat ds).flatten) else none
  | _, _ => none
theorem DdAll.repl {H : Hp} {vs : List V} {ds : List PyData} (t : DdAll K H vs ds) : ∀ n, DdAll K H (List.replicate n vs).flatten (List.replicate n ds).flatten
  | 0 => .nil
  | n + 1 => by
    rw [List.replicate_succ, List.replicate_succ, List.flatten_cons, List.flatten_cons]
    exact t.append (DdAll.repl t n)
theorem od_mulD (hK : X.K = K := by rfl) : OD K X (binaryOp .Mult) (rMulD K) gMulD := by
  subst hK
  refine ⟨op_mulO.or op_repN, fun {Hs H x y dx dy d Q} e a b hf q => ?_⟩
  cases a with
  | int i =>
    cases b with
    | int j =>
      obtain ⟨hc, rfl⟩ := ite_some hf
      exact .inl ⟨i, j, rfl, rfl, hc, q _ Hs H (Grow.refl e) (.int _)⟩
    | _ => cases hf
  | @tup p ob xs ds n hp t =>
    cases b with
    | int k =>
      obtain ⟨⟨c1, c2, c3⟩, rfl⟩ := ite_some hf
      refine .inr ⟨p, k, xs, rfl, rfl, sqT_of (e _ _ hp), c1, c2, by rw [t.length]; exact c3, fun z => ?_, fun z => NewT.of (Grow.refl e) (t.repl _) q⟩
      have e1 : (List.replicate k.toNat ds).flatten = ds := by
        rcases z with z | z
        · subst z
          cases t
          exact flat_rep_nil _
        · subst z
          show ds ++ [] = ds
          rw [List.append_nil]
      rw [e1] at q
      exact q _ Hs H (Grow.refl e) (.tup n hp t)
    | _ => cases hf
  | _ => cases hf

/-! ### lists that change -/
variable {M : List Nat} {xc : Nat → Addr} {W : WX} {Hs0 H0 Hs H : Hp} {σ : L2.St} {ρ : Rho} {e o : Expr} {te ta : TE} {f : Fn} {pos pos' apos : Pos}
/-- a slot's list is written -/
theorem SR.upd {i : Nat} {p : Addr} {ys : List V} {es : List PyData} (r : SR K M Hs0 H0 Hs H σ ρ) (hM : M.contains i = true) (hs : σ[i]? = some (some (.ref p))) (hd : ∃ d, ρ[i]? = some (some d)) (hn : Hs p = none) (h0 : H0 p = none) (t : DdAll K Hs ys es) :
    SR K M Hs0 H0 Hs (L2.upd H p (.lst ys)) σ (ρ.set i (some (.list es))) where
  g := ⟨fun b o h => by
      have hb : b ≠ p := fun z => by rw [z, h0] at h; cases h
      rw [upd_ne hb]; exact r.g.ex _ _ h, r.g.exs, fun b o h => by
      have hb : b ≠ p := fun z => by rw [z, hn] at h; cases h
      rw [upd_ne hb]; exact r.g.sub _ _ h, r.g.new⟩
  len := by rw [List.length_set]; exact r.len
  frz := fun j d h m => by
    have hj : i ≠ j := fun z => by rw [← z, hM] at m; cases m
    rw [List.getElem?_set_ne hj] at h
    exact r.frz j d h m
  own := fun j d h m => by
    by_cases hj : i = j
    · subst hj
      have hi : i < ρ.length := by
        have := (List.getElem?_eq_some_iff.mp h).1
        rwa [List.length_set] at this
      rw [List.getElem?_set_self hi] at h
      cases h
      exact ⟨p, ys, es, rfl, hs, upd_same, hn, h0, t⟩
    · rw [List.getElem?_set_ne hj] at h
      obtain ⟨p', xs', ds', e1, e2, e3, e4, e5, e6⟩ := r.own j d h m
      have hp : p' ≠ p := fun z => by
        obtain ⟨di, hdi⟩ := hd
        exact hj (r.sep i j di d p hdi h hM m hs (by rw [← z]; exact e2))
      exact ⟨p', xs', ds', e1, e2, by rw [upd_ne hp]; exact e3, e4, e5, e6⟩
  sep := fun j k dj dk q h1 h2 m1 m2 h3 h4 => by
    have old : ∀ {j : Nat} {dj : PyData}, (ρ.set i (some (.list es)))[j]? = some (some dj) → ∃ d, ρ[j]? = some (some d) := fun {j dj} h => by
      by_cases hj : i = j
      · subst hj; exact hd
      · rw [List.getElem?_set_ne hj] at h; exact ⟨_, h⟩
    obtain ⟨a, ha⟩ := old h1
    obtain ⟨b, hb⟩ := old h2
    exact r.sep j k a b q ha hb m1 m2 h3 h4
/-- a slot takes a fresh list -/
theorem SR.take {i : Nat} {p : Addr} {xs : List V} {ds : List PyData} (r : SR K M Hs0 H0 Hs H σ ρ) {Hs1 H1 : Hp} (g : Grow Hs H Hs1 H1) (hM : M.contains i = true) (hf : H p = none) (hn : Hs1 p = none) (hH : H1 p = some (.lst xs)) (t : DdAll K Hs1 xs ds) :
    SR K M Hs0 H0 Hs1 H1 (σ.set i (some (.ref p))) (ρ.set i (some (.list ds))) := by
  have r1 := r.grow g
  have h0 : H0 p = none := r.g.ex.free hf
  have ne : ∀ j d, ρ[j]? = some (some d) → M.contains j = true → σ[j]? ≠ some (some (.ref p)) := fun j d h m z => by
    obtain ⟨p', xs', ds', e1, e2, e3, _⟩ := r.own j d h m
    rw [e2] at z
    cases z
    rw [hf] at e3
    cases e3
  refine ⟨r1.g, by rw [List.length_set, List.length_set]; exact r.len, fun j d h m => ?_, fun j d h m => ?_, fun j k dj dk q h1 h2 m1 m2 h3 h4 => ?_⟩
  · have hj : i ≠ j := fun z => by rw [← z, hM] at m; cases m
    rw [List.getElem?_set_ne hj] at h ⊢
    exact r1.frz j d h m
  · by_cases hj : i = j
    · subst hj
      have hi : i < ρ.length := by
        have := (List.getElem?_eq_some_iff.mp h).1
        rwa [List.length_set] at this
      rw [List.getElem?_set_self hi] at h
      cases h
      exact ⟨p, xs, ds, rfl, List.getElem?_set_self (by rw [r.len]; exact hi), hH, hn, h0, t⟩
    · rw [List.getElem?_set_ne hj] at h ⊢
      exact r1.own j d h m
  · by_cases hj : i = j
    · by_cases hk : i = k
      · exact hj.symm.trans hk
      · subst hj
        have hi : i < σ.length := by
          have := (List.getElem?_eq_some_iff.mp h3).1
          rwa [List.length_set] at this
        rw [List.getElem?_set_self hi] at h3
        cases h3
        rw [List.getElem?_set_ne hk] at h2 h4
        exact absurd h4 (ne k dk h2 m2)
    · by_cases hk : i = k
      · subst hk
        have hi : i < σ.length := by
          have := (List.getElem?_eq_some_iff.mp h4).1
          rwa [List.length_set] at this
        rw [List.getElem?_set_self hi] at h4
        cases h4
        rw [List.getElem?_set_ne hj] at h1 h3
        exact absurd h3 (ne j dj h1 m1)
      · rw [List.getElem?_set_ne hj] at h1 h3
        rw [List.getElem?_set_ne hk] at h2 h4
        exact r.sep j k dj dk q h1 h2 m1 m2 h3 h4
@[simp] def gOwn (i : Nat) (f : Rho → Option (List PyData)) : Gn := fun ρ => (f ρ).bind fun ds => some (.nx (ρ.set i (some (.list ds))))
/-- name = a fresh list, the name one of M -/
theorem sd_own (i : Nat) {x : Str} {f : Rho → Option (List PyData)} (hN : X.N.Nodup) (h : FD K X M e te f) (hi : X.N[i]? = some x := by rfl) (hx : Loc X.env.scope x := by first | exact Or.inl rfl | exact Or.inr rfl) (hM : M.contains i = true := by rfl)
    (hs : swapsWith e (some (.Name x pos')) pos.line X.env = pure false := by rfl) (hf : X.fn x = true ∨ X.env.scope.names.lookup x = some .local := by first | exact .inl rfl | exact .inr rfl) :
    SD K xc X M W (.Assign [.Name x pos'] e pos) (tAsg te (gName i)) (gOwn i f) :=
  ⟨ps_set hN hi hx h.pe hs hf, fun {Hs0 H0 Hs H σ ρ r D} R hf o => by
    obtain ⟨ds, h1, h2⟩ := bind_some hf
    obtain rfl := Option.some.inj h2
    exact h.sm R h1 fun p xs Hs1 H1 g1 hp hn hH t => o Hs1 H1 _ g1.exs (R.take g1 hM hp hn hH t)⟩
/-- .. by a comprehension on one line -/
theorem sd_ownLc {Rl : YR} {elt tg iter : Expr} {ifs : List Expr} {scope : Scope} {pos1 py : Pos} {wi : TI} {g : TG} {tt : TT} {ws : List Nat} {h : Rho → Option (List PyData)} {hg' : PyData → Rho → Option Rho} {c : Rho → Option Bool} (i : Nat) {y : Str}
    (own : List (Str × Nat)) (hN : X.N.Nodup) (hi : ID K X M Rl tg iter wi h) (ok : BlkOk X.N X.env.scope scope own)
    (hg : ∀ (s : Shared) (H : Hp) (C : Addr) (cl : List (Str × Addr)) (fp : List Addr), GD K (X.blk s H scope (compEnvC scope cl C X.env) fp) M Rl ws tg g hg')
    (ht : ∀ (s : Shared) (H : Hp) (C : Addr) (cl : List (Str × Addr)) (fp : List Addr), CTD K (X.blk s H scope (compEnvC scope cl C X.env) fp) M ifs tt c)
    (he : ∀ (s : Shared) (H : Hp) (C : Addr) (cl : List (Str × Addr)) (fp : List Addr), ED K (X.blk s H scope (compEnvC scope cl C X.env) fp) M elt te f)
    (hsw : swapsWith (.ListComp elt [⟨tg, iter, ifs, 0⟩] scope pos1) (some (.Name y py)) pos.line X.env = pure true)
    (hy : X.N[i]? = some y := by rfl) (hyl : X.env.scope.names.lookup y = some .local := by rfl) (hM : M.contains i = true := by rfl)
    (hws : ws.all (fun i => (own.map (·.2)).contains i) = true := by rfl) (hc : X.calm = true := by rfl) (hs : ∀ x, foldedSetIterable iter X.env x = pure x := by intro _; rfl) :
    SD K xc X M W (.Assign [.Name y py] (.ListComp elt [⟨tg, iter, ifs, 0⟩] scope pos1) pos) (tAsg (tLc wi g tt te (own.map (·.2))) (gName i)) (gOwn i (fLc (own.map (·.2)) h hg' c f)) :=
  ⟨ps_setLc hc hN hy hyl hsw hi.pi ok (fun s H C cl fp => (hg s H C cl fp).pg) (fun s H C cl fp => (ht s H C cl fp).pt) (fun s H C cl fp => (he s H C cl fp).pe) hs, fun {Hs0 H0 Hs H σ ρ r D} R hf o => by
    obtain ⟨ds, h1, h2⟩ := bind_some hf
    obtain rfl := Option.some.inj h2
    exact (fd_lc (pos := pos1) own hN hi ok hg ht he hws hc hs).sm R h1 fun p xs Hs1 H1 g1 hp hn hH t => o Hs1 H1 _ g1.exs (R.take g1 hM hp hn hH t)⟩
@[simp] def lstAt (i : Nat) : Rho → Option (List PyData) := fun ρ => match ρ[i]? with
  | some (some (.list ds)) => some ds
  | _ => none
theorem lstAt_some {i : Nat} {ds : List PyData} (h : lstAt i ρ = some ds) : ρ[i]? = some (some (.list ds)) := by
  unfold lstAt at h
  split at h
  · rename_i e; cases h; exact e
  · cases h
/-- x.append(e) -/
@[simp] def gApp (i : Nat) (f : Fn) : Gn := fun ρ => (lstAt i ρ).bind fun ds => (f ρ).bind fun d => if ds.length < 1000000 then some (.nx (ρ.set i (some (.list (ds ++ [d]))))) else none
theorem SR.ownAt {i : Nat} {ds : List PyData} (r : SR K M Hs0 H0 Hs H σ ρ) (h : ρ[i]? = some (some (.list ds))) (hM : M.contains i = true) : ∃ p xs, σ[i]? = some (some (.ref p)) ∧ H p = some (.lst xs) ∧ Hs p = none ∧ H0 p = none ∧ DdAll K Hs xs ds := by
  obtain ⟨p, xs, ds', e1, e2, e3, e4, e5, e6⟩ := r.own i _ h hM
  cases e1
  exact ⟨p, xs, e2, e3, e4, e5, e6⟩
theorem sd_append (i : Nat) {x : Str} (h : ED K X M e te f) (hN : X.N[i]? = some x := by rfl) (hv : Vis X.env.scope x := by first | exact Or.inl rfl | exact Or.inr (Or.inl rfl) | exact Or.inr (Or.inr rfl)) (hM : M.contains i = true := by rfl)
    (hbase : attributeBase (.Name x pos') "append" X.env (eval (.Name x pos') X.env) = eval (.Name x pos') X.env := by rfl)
    (hfew : ((backTo pos (starEach [e] X.env)).all (fun x => !x.1) && (backToKw pos (keywordEach [] X.env)).all (fun x => x.1.isSome)
      && decide ([e].length + ([] : List Keyword).length + (if ([] : List Keyword).isEmpty then 0 else 1) < 30)) = true := by rfl)
    (hline : (apos.endLine == pos.line) = true := by rfl) (hst : starEach [e] X.env = (false, eval e X.env) :: starEach [] X.env := by rfl) {pos2 : Pos} (hs : swapsWith (.Call (.Attribute (.Name x pos') "append" apos) [e] [] pos) none pos2.line X.env = pure false := by rfl) (hd : (x == ("__debug__" : Str)) = false := by decide) (hcd : (x == ("__classdict__" : Str)) = false := by decide) :
    SD K xc X M W (.Expr (.Call (.Attribute (.Name x pos') "append" apos) [e] [] pos) pos2) (tDrop (tBM X.K "list" rAppend (tVar i) (tCons te tNil))) (gApp i f) :=
  ⟨ps_expr (pe_bm PySem.F.plainAttrs_list PySem.F.slot_list_append PySem.F.type_list_append mt_append (pe_var hN hv hd hcd) (pa_cons h.pe pa_nil hst) hbase hfew hline hst rfl) hs, fun {Hs0 H0 Hs H σ ρ r D} R hf o => by
    obtain ⟨ds, h1, h2⟩ := bind_some hf
    obtain ⟨d, h3, h4⟩ := bind_some h2
    obtain ⟨hl, rfl⟩ := ite_some h4
    have hρ := lstAt_some h1
    obtain ⟨p, xs, e1, e2, e3, e4, e5⟩ := R.ownAt hρ hM
    refine ⟨.ref p, e1, .inl ⟨rfl, _, sqL_of e2⟩, h.sm R h3 fun v Hs1 H1 g1 d1 => ?_⟩
    refine ⟨p, xs, v, rfl, rfl, g1.ex _ _ e2, szL (by rw [e5.length]; exact hl), ?_⟩
    exact o Hs1 _ σ g1.exs ((R.grow g1).upd hM e1 ⟨_, hρ⟩ (g1.new p e3 (by rw [e2]; simp)) e4 ((e5.mono g1.exs).append (.cons d1 .nil)))⟩
/-- x[e1] = e2 -/
@[simp] def gSet (i : Nat) (fi f : Fn) : Gn := fun ρ => (f ρ).bind fun d => (lstAt i ρ).bind fun ds => (fi ρ).bind fun k => match k with
  | .int k => (ixN ds.length k).bind fun j => some (.nx (ρ.set i (some (.list (ds.set j d)))))
  | _ => none
theorem sd_setItem (i : Nat) {x : Str} {b : Expr} {tb : TE} {fb : Fn} {ps : Pos} (h : ED K X M e te f) (hb : ED K X M b tb fb) (hN : X.N[i]? = some x := by rfl) (hv : Vis X.env.scope x := by first | exact Or.inl rfl | exact Or.inr (Or.inl rfl) | exact Or.inr (Or.inr rfl)) (hM : M.contains i = true := by rfl)
    (ha : ∀ v, assign (.Subscript (.Name x pos') b ps) X.env v = (do
      let ov ← holding [v] (eval (.Name x pos') X.env)
      let iv ← holding [v, ov] (eval b X.env)
      standAt ps
      holding [v, ov, iv] (setItem ov iv v)
      release [v, ov, iv] []) := by intro _; rfl)
    (hs : swapsWithSole [.Subscript (.Name x pos') b ps] e pos.line X.env = pure false := by rfl) (hw : swappedStores [.Subscript (.Name x pos') b ps] e X.env = pure none := by rfl)
    (h1 : (assignEach [.Subscript (.Name x pos') b ps] X.env).map (·.2) = [assign (.Subscript (.Name x pos') b ps) X.env] := by rfl) (hd : (x == ("__debug__" : Str)) = false := by decide) (hcd : (x == ("__classdict__" : Str)) = false := by decide) :
    SD K xc X M W (.Assign [.Subscript (.Name x pos') b ps] e pos) (tAsg te (gSub (tVar i) tb rSetL)) (gSet i fb f) :=
  ⟨ps_asg h.pe (pg_sub (pe_var hN hv hd hcd) hb.pe set_list ha) hs hw h1, fun {Hs0 H0 Hs H σ ρ r D} R hf o => by
    obtain ⟨d, h1, hf⟩ := bind_some hf
    obtain ⟨ds, h2, hf⟩ := bind_some hf
    obtain ⟨k, h3, hf⟩ := bind_some hf
    have hρ := lstAt_some h2
    obtain ⟨p, xs, e1, e2, e3, e4, e5⟩ := R.ownAt hρ hM
    refine h.sm R h1 fun v Hs1 H1 g1 d1 => ⟨.ref p, e1, hb.sm (R.grow g1) h3 fun w Hs2 H2 g2 d2 => ?_⟩
    cases d2 with
    | int k =>
      obtain ⟨j, h4, h5⟩ := bind_some hf
      obtain rfl := Option.some.inj h5
      have g := g1.trans g2
      refine ⟨p, xs, k, j, rfl, rfl, g.ex _ _ e2, by rw [e5.length]; exact h4, ?_⟩
      exact o Hs2 _ σ g.exs ((R.grow g).upd (ys := xs.set j v) hM e1 ⟨_, hρ⟩ (g.new p e3 (by rw [e2]; simp)) e4 (DdAll.set (d1.mono g2.exs) j (e5.mono g.exs)))
    | _ => cases hf⟩
end
end DL

namespace DL
open PySem PySem.Spec PyProof.Rows L2
/-! ### [x.pop(e) for k in ..]: a comprehension that empties a list of the def -/
def B63 (k : Int) : Prop := -(2 ^ 63) ≤ k ∧ k < 2 ^ 63
noncomputable instance : DecidablePred B63 := fun _ => Classical.propDecidable _
noncomputable def popF (j iL : Nat) (fe : Fn) : List PyData → Rho → Option (List PyData)
  | [], _ => some []
  | d :: ds, ρ => (lstAt iL (ρ.set j (some d))).bind fun L => (fe (ρ.set j (some d))).bind fun k => match k with
    | .int k => if B63 k then (seqIndex? k L.length).bind fun n => (L[n]?).bind fun y => (popF j iL fe ds (ρ.set iL (some (.list (L.eraseIdx n))))).bind fun ys => some (y :: ys) else none
    | _ => none
section
variable {K : PySem.W.Frag} {X : Cx} {M : List Nat} {xc : Nat → Addr} {W : WX} {Hs0 H0 Hs H Hs1 H1 : Hp} {σ : L2.St} {ρ : Rho} {e : Expr} {te : TE} {fe : Fn} {pos pos' apos : Pos}
/-- an object that no slot owns is written -/
theorem SR.other {D : Addr} {o : HO} (r : SR K M Hs0 H0 Hs H σ ρ) (hn : Hs D = none) (h0 : H0 D = none) (ne : ∀ i d p, ρ[i]? = some (some d) → M.contains i = true → σ[i]? = some (some (.ref p)) → p ≠ D) : SR K M Hs0 H0 Hs (L2.upd H D o) σ ρ where
  g := ⟨fun b o h => by
      have hb : b ≠ D := fun z => by rw [z, h0] at h; cases h
      rw [upd_ne hb]; exact r.g.ex _ _ h, r.g.exs, fun b o h => by
      have hb : b ≠ D := fun z => by rw [z, hn] at h; cases h
      rw [upd_ne hb]; exact r.g.sub _ _ h, r.g.new⟩
  len := r.len
  frz := r.frz
  own := fun j d h m => by
    obtain ⟨p', xs', ds', e1, e2, e3, e4, e5, e6⟩ := r.own j d h m
    exact ⟨p', xs', ds', e1, e2, by rw [upd_ne (ne j d p' h m e2)]; exact e3, e4, e5, e6⟩
  sep := r.sep
/-- a slot is forgotten -/
theorem SR.forget {i : Nat} (r : SR K M Hs0 H0 Hs H σ ρ) : SR K M Hs0 H0 Hs H σ (ρ.set i none) := by
  have old : ∀ {j : Nat} {d : PyData}, (ρ.set i none)[j]? = some (some d) → ρ[j]? = some (some d) := fun {j d} h => by
    by_cases hj : i = j
    · subst hj
      by_cases hi : i < ρ.length
      · rw [List.getElem?_set_self hi] at h; cases h
      · rw [List.getElem?_eq_none (by simpa using hi)] at h; cases h
    · rwa [List.getElem?_set_ne hj] at h
  exact ⟨r.g, by rw [List.length_set]; exact r.len, fun j d h => r.frz j d (old h), fun j d h => r.own j d (old h), fun j k dj dk p h1 h2 => r.sep j k dj dk p (old h1) (old h2)⟩
def tPop (K : PySem.W.Frag) (iL : Nat) (te : TE) : TE := tBM K "list" rPopAt (tVar iL) (tCons te tNil)
theorem lcPop {h : Rho → Option (List PyData)} {tg iter : Expr} {wi : TI} {j iL : Nat} {vs : List Nat} {ds res : List PyData} {Q : VK} (hi : ID K X M (Dd K) tg iter wi h) (Y : Cx) (he : ED K Y M e te fe) (hML : M.contains iL = true) (hMj : M.contains j = false) (hj : j ∈ vs) (hvs : vs.all (fun i => !M.contains i) = true)
    (R : SR K M Hs0 H0 Hs H σ ρ) (h1 : h ρ = some ds) (hl : ds.length ≤ 1000000) (hp : popF j iL fe ds (wipeR ρ vs) = some res)
    (q : ∀ D acc Hs' H', Same Hs Hs' → SR K M Hs0 H0 Hs' H' σ (ρ.set iL none) → H D = none → Hs' D = none → H0 D = none → H' D = some (.lst acc) → DdAll K Hs' acc res → (∀ i d p, ρ[i]? = some (some d) → M.contains i = true → σ[i]? = some (some (.ref p)) → p ≠ D) → Q (.ref D) H') :
    tLc wi (gName j) tYes (tPop K iL te) vs σ H Q := by
  have hMv : ∀ i, M.contains i = true → i ∉ vs := fun i m hi => by
    have := List.all_eq_true.mp hvs i hi
    rw [m] at this
    cases this
  refine hi.sm R h1 fun J Hs1 H1 g1 Yl D hD => ?_
  have nD : Hs1 D = none := g1.sub.free hD
  have R1 := R.grow g1
  have h0D : H0 D = none := R1.g.ex.free hD
  have own0 : ∀ i d p, ρ[i]? = some (some d) → M.contains i = true → σ[i]? = some (some (.ref p)) → p ≠ D := fun i d p h m hs z => by
    obtain ⟨p', xs', ds', e1, e2, e3, _⟩ := R1.own i d h m
    rw [hs] at e2
    cases e2
    rw [z, hD] at e3
    cases e3
  refine ⟨fun i m H' => m = ds.length - i ∧ i ≤ ds.length ∧ ∃ Hsi ρi acc accd tail, Same Hs1 Hsi ∧ Hsi D = none ∧ SR K M Hs0 H0 Hsi H' (L2.wipe σ vs) ρi ∧ (∀ i d, ρi[i]? = some (some d) → M.contains i = true → ∃ d', ρ[i]? = some (some d')) ∧ (∀ i, i ≠ iL → ρi[i]? = (wipeR ρ vs)[i]?) ∧ H' D = some (.lst acc) ∧ DdAll K Hsi acc accd ∧ acc.length ≤ i ∧ popF j iL fe (ds.drop i) ρi = some tail ∧ accd ++ tail = res,
    ⟨ds.length, by simp, Nat.zero_le _, Hs1, wipeR ρ vs, [], [], res, Same.refl _, nD, ?_, fun i d h m => ⟨d, (wipeR_some h).1⟩, fun _ _ => rfl, upd_same, .nil, Nat.le_refl _, hp, rfl⟩, ?_⟩
  · refine (R1.wipe vs).other nD h0D fun i d p h m hs => ?_
    obtain ⟨a1, a2⟩ := wipeR_some h
    rw [wipe_out a2] at hs
    exact own0 i d p a1 m hs
  · rintro i m H2 ⟨rfl, hle, Hsi, ρi, acc, accd, tail, e2, n2, R2, hown, hsame, hD2, d2, hacc, hcf, hres⟩
    by_cases hlt : i < ds.length
    · refine .inr ⟨Yl.go i H2 (e2.trans R2.sub) hlt, fun H' => i + 1 ≤ ds.length ∧ ∃ Hsi ρi acc accd tail, Same Hs1 Hsi ∧ Hsi D = none ∧ SR K M Hs0 H0 Hsi H' (L2.wipe σ vs) ρi ∧ (∀ i d, ρi[i]? = some (some d) → M.contains i = true → ∃ d', ρ[i]? = some (some d')) ∧ (∀ i, i ≠ iL → ρi[i]? = (wipeR ρ vs)[i]?) ∧ H' D = some (.lst acc) ∧ DdAll K Hsi acc accd ∧ acc.length ≤ i + 1 ∧ popF j iL fe (ds.drop (i + 1)) ρi = some tail ∧ accd ++ tail = res,
        fun H' ⟨a, b⟩ => ⟨ds.length - (i + 1), by omega, rfl, a, b⟩, fun x H3 hy => ?_⟩
      obtain ⟨Hs3, g3, d, hd, ad⟩ := Yl.yld i H2 x H3 Hsi hlt e2 R2.sub hy
      have ed : ds.drop i = d :: ds.drop (i + 1) := by
        have e1 := List.drop_eq_getElem_cons hlt
        have e2 : ds[i] = d := (List.getElem?_eq_some_iff.mp hd).2
        rw [e1, e2]
      rw [ed] at hcf
      unfold popF at hcf
      obtain ⟨L, c1, hcf⟩ := bind_some hcf
      obtain ⟨k, c2, hcf⟩ := bind_some hcf
      have R3 := R2.grow g3
      have R4 := R3.set (i := j) hMj ad
      have hρL := lstAt_some c1
      refine ⟨?_, ?_⟩
      · show L2.wipe ((L2.wipe σ vs).set j (some x)) vs = L2.wipe σ vs
        rw [wipe_set hj]
        exact wipe_wipe σ vs
      · unfold tYes
        dsimp only
        rw [if_pos rfl]
        obtain ⟨pL, xsL, f1, f2, f3, f4, f5⟩ := R4.ownAt hρL hML
        refine ⟨.ref pL, f1, .inl ⟨rfl, _, sqL_of f2⟩, he.sm R4 c2 fun v Hs5 H5 g5 d5 => ?_⟩
        cases d5 with
        | int k =>
          obtain ⟨hB, hcf⟩ := ite_get hcf
          obtain ⟨n, c3, hcf⟩ := bind_some hcf
          obtain ⟨y, c4, hcf⟩ := bind_some hcf
          obtain ⟨ys, c5, hcf⟩ := bind_some hcf
          obtain rfl := Option.some.inj hcf
          obtain ⟨yv, c6, c7⟩ := f5.get c4
          have hD5 : H5 D = some (.lst acc) := g5.ex _ _ (g3.ex _ _ hD2)
          have hpD : pL ≠ D := by
            have hneJ : j ≠ iL := fun z => by rw [z, hML] at hMj; cases hMj
            rw [List.getElem?_set_ne hneJ] at hρL f1
            obtain ⟨d', hd'⟩ := hown _ _ hρL hML
            rw [wipe_out (hMv _ hML)] at f1
            exact own0 _ _ _ hd' hML f1
          refine ⟨pL, xsL, k, n, yv, rfl, rfl, g5.ex _ _ f2, hB.1, hB.2, by rw [f5.length]; exact c3, c6, ?_⟩
          have n5 : Hs5 D = none := g5.new D (g3.new D n2 (by rw [hD2]; simp)) (by rw [g3.ex _ _ hD2]; simp)
          have R5 : SR K M Hs0 H0 Hs5 (L2.upd H5 pL (.lst (xsL.eraseIdx n))) (L2.wipe σ vs) (ρi.set iL (some (.list (L.eraseIdx n)))) := by
            have hneJ : j ≠ iL := fun z => by rw [z, hML] at hMj; cases hMj
            rw [List.getElem?_set_ne hneJ] at hρL f1
            exact (R3.grow g5).upd hML f1 ⟨_, hρL⟩ (g5.new pL f3 (by rw [f2]; simp)) f4 ((f5.mono g5.exs).erase n)
          have own5 : ∀ i d, (ρi.set iL (some (.list (L.eraseIdx n))))[i]? = some (some d) → M.contains i = true → ∃ d', ρ[i]? = some (some d') := fun i d h m => by
            by_cases hiL : iL = i
            · subst hiL
              have hneJ : j ≠ iL := fun z => by rw [z, hML] at hMj; cases hMj
              rw [List.getElem?_set_ne hneJ] at hρL
              exact hown _ _ hρL hML
            · rw [List.getElem?_set_ne hiL] at h
              exact hown i d h m
          refine ⟨acc, by rw [upd_ne hpD.symm]; exact hD5, szL (by omega), hlt, Hs5, ρi.set iL (some (.list (L.eraseIdx n))), acc ++ [yv], accd ++ [y], ys, (e2.trans g3.exs).trans g5.exs, n5, R5.other n5 h0D ?_, own5, fun i hi => ?_, upd_same, ((d2.mono g3.exs).mono g5.exs).append (.cons (c7.mono g5.exs) .nil), ?_, c5, ?_⟩
          · intro i d p h m hs
            obtain ⟨d', hd'⟩ := own5 i d h m
            rw [wipe_out (hMv _ m)] at hs
            exact own0 _ _ _ hd' m hs
          · rw [List.getElem?_set_ne (fun z => hi z.symm)]
            exact hsame i hi
          · rw [List.length_append, List.length_singleton]
            omega
          · rw [List.append_assoc]
            exact hres
        | _ => cases hcf
    · have ei : i = ds.length := by omega
      subst ei
      rw [List.drop_length] at hcf
      unfold popF at hcf
      cases hcf
      rw [List.append_nil] at hres
      subst hres
      refine .inl ⟨Yl.stop _ H2 (e2.trans R2.sub) (Nat.le_refl _), q D acc Hsi H2 (g1.exs.trans e2) ?_ (g1.ex.free hD) n2 h0D hD2 d2 own0⟩
      have setNone : ∀ {i : Nat} {d : PyData}, (ρ.set iL none)[i]? = some (some d) → i ≠ iL ∧ ρ[i]? = some (some d) := fun {i d} h => by
        by_cases hj : iL = i
        · subst hj
          by_cases hi : iL < ρ.length
          · rw [List.getElem?_set_self hi] at h; cases h
          · rw [List.getElem?_eq_none (by simpa using hi)] at h; cases h
        · rw [List.getElem?_set_ne hj] at h
          exact ⟨fun z => hj z.symm, h⟩
      have wr : ∀ i, i ∉ vs → (wipeR ρ vs)[i]? = ρ[i]? := fun i => by
        have : ∀ (ws : List Nat), i ∉ ws → (wipeR ρ ws)[i]? = ρ[i]? := fun ws => by
          induction ws with
          | nil => intro _; rfl
          | cons w ws ih =>
            intro hw
            unfold wipeR
            rw [List.getElem?_set_ne (fun z => hw (by rw [z]; exact List.mem_cons_self)), ih (fun z => hw (List.mem_cons_of_mem _ z))]
        exact this vs
      refine ⟨R2.g, by rw [List.length_set]; exact R.len, fun i d h m => ?_, fun i d h m => ?_, fun i k di dk p h1 h2 m1 m2 h3 h4 => ?_⟩
      · obtain ⟨hne, h⟩ := setNone h
        obtain ⟨v, a, b⟩ := R.frz i d h m
        exact ⟨v, a, (b.mono g1.exs).mono e2⟩
      · obtain ⟨hne, h⟩ := setNone h
        have hi2 : ρi[i]? = some (some d) := by rw [hsame i hne, wr i (hMv i m)]; exact h
        obtain ⟨p', xs', ds', a1, a2, a3⟩ := R2.own i d hi2 m
        rw [wipe_out (hMv i m)] at a2
        exact ⟨p', xs', ds', a1, a2, a3⟩
      · exact R.sep i k di dk p (setNone h1).2 (setNone h2).2 m1 m2 h3 h4
/-- the fresh list at D, forgotten as such: it stands with the data -/
theorem SR.show {D : Addr} {acc : List V} {ds : List PyData} (r : SR K M Hs0 H0 Hs H σ ρ) (hn : Hs D = none) (h0 : H0 D = none) (hD : H D = some (.lst acc)) (t : DdAll K Hs acc ds) (ne : ∀ i d p, ρ[i]? = some (some d) → M.contains i = true → σ[i]? = some (some (.ref p)) → p ≠ D) :
    ∃ Hs', Same Hs Hs' ∧ SR K M Hs0 H0 Hs' H σ ρ ∧ Dd K Hs' (.ref D) (.list ds) := by
  have e1 : Same Hs (L2.upd Hs D (.lst acc)) := same_new hn
  refine ⟨L2.upd Hs D (.lst acc), e1, ⟨⟨r.g.ex, r.g.exs.trans e1, fun b o z => ?_, fun a z n => ?_⟩, r.len, fun i d h m => ?_, fun i d h m => ?_, r.sep⟩, .lst upd_same (t.mono e1)⟩
  · by_cases hb : b = D
    · subst hb; rw [upd_same] at z; rw [hD]; exact z
    · rw [upd_ne hb] at z; exact r.g.sub _ _ z
  · have : a ≠ D := fun y => n (by rw [y]; exact h0)
    rw [upd_ne this]; exact r.g.new a z n
  · obtain ⟨v, a, b⟩ := r.frz i d h m
    exact ⟨v, a, b.mono e1⟩
  · obtain ⟨p', xs', ds', a1, a2, a3, a4, a5, a6⟩ := r.own i d h m
    exact ⟨p', xs', ds', a1, a2, a3, by rw [upd_ne (ne i d p' h m a2)]; exact a4, a5, a6.mono e1⟩
@[simp] noncomputable def gSetPop (i j iL : Nat) (vs : List Nat) (h : Rho → Option (List PyData)) (fe : Fn) : Gn := fun ρ => (h ρ).bind fun ds => if ds.length ≤ 1000000 then (popF j iL fe ds (wipeR ρ vs)).bind fun ys => some (.nx ((ρ.set iL none).set i (some (.list ys)))) else none
/-- y = [x.pop(e) for k in ..] -/
theorem sd_setPop {tg iter : Expr} {scope : Scope} {pos1 py px cpos : Pos} {wi : TI} {h : Rho → Option (List PyData)} (i iL : Nat) {j : Nat} {y x : Str}
    (own : List (Str × Nat)) (hN : X.N.Nodup) (hi : ID K X M (Dd K) tg iter wi h) (ok : BlkOk X.N X.env.scope scope own)
    (hg : ∀ (s : Shared) (H : Hp) (C : Addr) (cl : List (Str × Addr)) (fp : List Addr), GD K (X.blk s H scope (compEnvC scope cl C X.env) fp) M (Dd K) [j] tg (gName j) (hName j))
    (hx : ∀ (s : Shared) (H : Hp) (C : Addr) (cl : List (Str × Addr)) (fp : List Addr), PE (X.blk s H scope (compEnvC scope cl C X.env) fp) (.Name x px) (tVar iL))
    (he : ∀ (s : Shared) (H : Hp) (C : Addr) (cl : List (Str × Addr)) (fp : List Addr), ED K (X.blk s H scope (compEnvC scope cl C X.env) fp) M e te fe)
    (hsw : swapsWith (.ListComp (.Call (.Attribute (.Name x px) "pop" apos) [e] [] cpos) [⟨tg, iter, [], 0⟩] scope pos1) (some (.Name y py)) pos.line X.env = pure true)
    (hy : X.N[i]? = some y := by rfl) (hyl : X.env.scope.names.lookup y = some .local := by rfl) (hM : M.contains i = false := by rfl) (hML : M.contains iL = true := by rfl) (hMj : M.contains j = false := by rfl) (hj : j ∈ own.map (·.2) := by decide) (hvs : (own.map (·.2)).all (fun i => !M.contains i) = true := by rfl)
    (hc : X.calm = true := by rfl) (hs : ∀ x, foldedSetIterable iter X.env x = pure x := by intro _; rfl)
    (hbase : ∀ (s : Shared) (H : Hp) (C : Addr) (cl : List (Str × Addr)) (fp : List Addr), attributeBase (.Name x px) "pop" (compEnvC scope cl C X.env) (eval (.Name x px) (compEnvC scope cl C X.env)) = eval (.Name x px) (compEnvC scope cl C X.env) := by intros; rfl)
    (hfew : ∀ (s : Shared) (H : Hp) (C : Addr) (cl : List (Str × Addr)) (fp : List Addr), ((backTo cpos (starEach [e] (compEnvC scope cl C X.env))).all (fun x => !x.1) && (backToKw cpos (keywordEach [] (compEnvC scope cl C X.env))).all (fun x => x.1.isSome)
      && decide ([e].length + ([] : List Keyword).length + (if ([] : List Keyword).isEmpty then 0 else 1) < 30)) = true := by intros; rfl)
    (hline : (apos.endLine == cpos.line) = true := by rfl) (hst : ∀ (s : Shared) (H : Hp) (C : Addr) (cl : List (Str × Addr)) (fp : List Addr), starEach [e] (compEnvC scope cl C X.env) = (false, eval e (compEnvC scope cl C X.env)) :: starEach [] (compEnvC scope cl C X.env) := by intros; rfl) (hK : X.K = K := by rfl) :
    SD K xc X M W (.Assign [.Name y py] (.ListComp (.Call (.Attribute (.Name x px) "pop" apos) [e] [] cpos) [⟨tg, iter, [], 0⟩] scope pos1) pos) (tAsg (tLc wi (gName j) tYes (tPop K iL te) (own.map (·.2))) (gName i)) (gSetPop i j iL (own.map (·.2)) h fe) := by
  subst hK
  refine ⟨ps_setLc hc hN hy hyl hsw hi.pi ok (fun s H C cl fp => (hg s H C cl fp).pg) (fun s H C cl fp => pts_nil)
    (fun s H C cl fp => pe_bm PySem.F.plainAttrs_list PySem.F.slot_list_pop PySem.F.type_list_pop mt_popAt (hx s H C cl fp) (pa_cons (he s H C cl fp).pe pa_nil (hst s H C cl fp)) (hbase s H C cl fp) (hfew s H C cl fp) hline (hst s H C cl fp) rfl) hs, fun {Hs0 H0 Hs H σ ρ r D} R hf o => ?_⟩
  obtain ⟨ds, h1, hf⟩ := bind_some hf
  obtain ⟨hl, hf⟩ := ite_get hf
  obtain ⟨ys, h2, hf⟩ := bind_some hf
  obtain rfl := Option.some.inj hf
  refine lcPop hi _ (he X.s_0 (fun _ => none) 0 [] []) hML hMj hj hvs R h1 hl h2 fun Da acc Hs' H' e1 R' hD hn h0 hD' t ne => ?_
  obtain ⟨Hs2, e2, R2, d2⟩ := R'.show hn h0 hD' t fun i d p h m hs => by
    by_cases hiL : iL = i
    · subst hiL
      by_cases hi : iL < ρ.length
      · rw [List.getElem?_set_self hi] at h; cases h
      · rw [List.getElem?_eq_none (by simpa using hi)] at h; cases h
    · rw [List.getElem?_set_ne hiL] at h
      exact ne i d p h m hs
  exact o Hs2 H' _ (e1.trans e2) (R2.set hM d2)
/-- return tuple([x.pop(e) for k in ..]) -/
@[simp] noncomputable def gRetPop (j iL : Nat) (vs : List Nat) (h : Rho → Option (List PyData)) (fe : Fn) : Gn := fun ρ => (h ρ).bind fun ds => if ds.length ≤ 1000000 then (popF j iL fe ds (wipeR ρ vs)).bind fun ys => some (.ret (.tuple ys)) else none
theorem sd_retPop {tg iter : Expr} {scope : Scope} {pos1 px cpos tp p2 : Pos} {wi : TI} {h : Rho → Option (List PyData)} (iL : Nat) {j : Nat} {x : Str}
    (own : List (Str × Nat)) (hN : X.N.Nodup) (hi : ID K X M (Dd K) tg iter wi h) (ok : BlkOk X.N X.env.scope scope own)
    (hg : ∀ (s : Shared) (H : Hp) (C : Addr) (cl : List (Str × Addr)) (fp : List Addr), GD K (X.blk s H scope (compEnvC scope cl C X.env) fp) M (Dd K) [j] tg (gName j) (hName j))
    (hx : ∀ (s : Shared) (H : Hp) (C : Addr) (cl : List (Str × Addr)) (fp : List Addr), PE (X.blk s H scope (compEnvC scope cl C X.env) fp) (.Name x px) (tVar iL))
    (he : ∀ (s : Shared) (H : Hp) (C : Addr) (cl : List (Str × Addr)) (fp : List Addr), ED K (X.blk s H scope (compEnvC scope cl C X.env) fp) M e te fe)
    (hm : X.mg "tuple" = none) (hgl : Gl X "tuple" := by rfl)
    (hML : M.contains iL = true := by rfl) (hMj : M.contains j = false := by rfl) (hj : j ∈ own.map (·.2) := by decide) (hvs : (own.map (·.2)).all (fun i => !M.contains i) = true := by rfl)
    (hc : X.calm = true := by rfl) (hs : ∀ x, foldedSetIterable iter X.env x = pure x := by intro _; rfl)
    (hbase : ∀ (s : Shared) (H : Hp) (C : Addr) (cl : List (Str × Addr)) (fp : List Addr), attributeBase (.Name x px) "pop" (compEnvC scope cl C X.env) (eval (.Name x px) (compEnvC scope cl C X.env)) = eval (.Name x px) (compEnvC scope cl C X.env) := by intros; rfl)
    (hfew : ∀ (s : Shared) (H : Hp) (C : Addr) (cl : List (Str × Addr)) (fp : List Addr), ((backTo cpos (starEach [e] (compEnvC scope cl C X.env))).all (fun x => !x.1) && (backToKw cpos (keywordEach [] (compEnvC scope cl C X.env))).all (fun x => x.1.isSome)
      && decide ([e].length + ([] : List Keyword).length + (if ([] : List Keyword).isEmpty then 0 else 1) < 30)) = true := by intros; rfl)
    (hline : (apos.endLine == cpos.line) = true := by rfl) (hst : ∀ (s : Shared) (H : Hp) (C : Addr) (cl : List (Str × Addr)) (fp : List Addr), starEach [e] (compEnvC scope cl C X.env) = (false, eval e (compEnvC scope cl C X.env)) :: starEach [] (compEnvC scope cl C X.env) := by intros; rfl) (hK : X.K = K := by rfl)
    (hes : starEach [.ListComp (.Call (.Attribute (.Name x px) "pop" apos) [e] [] cpos) [⟨tg, iter, [], 0⟩] scope pos1] X.env = (false, eval (.ListComp (.Call (.Attribute (.Name x px) "pop" apos) [e] [] cpos) [⟨tg, iter, [], 0⟩] scope pos1) X.env) :: starEach [] X.env := by rfl) :
    SD K xc X M W (.Return (some (.Call (.Name "tuple" tp) [.ListComp (.Call (.Attribute (.Name x px) "pop" apos) [e] [] cpos) [⟨tg, iter, [], 0⟩] scope pos1] [] p2)) pos)
      (tRet (tCB (fun xs H Q => ∃ p ys, xs = [.ref p] ∧ ((SqL K H p ys ∧ NewT Q H ys) ∨ (SqT K H p ys ∧ Q (.ref p) H))) (tCons (tLc wi (gName j) tYes (tPop K iL te) (own.map (·.2))) tNil))) (gRetPop j iL (own.map (·.2)) h fe) := by
  subst hK
  refine ⟨ps_ret (pe_callTy call_tupN hgl hm boot_tuple (pa_cons (pe_lc hc hN hi.pi ok (fun s H C cl fp => (hg s H C cl fp).pg) (fun s H C cl fp => pts_nil)
    (fun s H C cl fp => pe_bm PySem.F.plainAttrs_list PySem.F.slot_list_pop PySem.F.type_list_pop mt_popAt (hx s H C cl fp) (pa_cons (he s H C cl fp).pe pa_nil (hst s H C cl fp)) (hbase s H C cl fp) (hfew s H C cl fp) hline (hst s H C cl fp) rfl) hs) pa_nil hes) (by decide) (by decide) hes rfl), fun {Hs0 H0 Hs H σ ρ r D} R hf o => ?_⟩
  obtain ⟨ds, h1, hf⟩ := bind_some hf
  obtain ⟨hl, hf⟩ := ite_get hf
  obtain ⟨ys, h2, hf⟩ := bind_some hf
  obtain rfl := Option.some.inj hf
  show tLc wi (gName j) tYes (tPop X.K iL te) (own.map (·.2)) σ H (fun x H1 => ∃ p ys, [x] = [V.ref p] ∧ ((SqL X.K H1 p ys ∧ NewT D.rt H1 ys) ∨ (SqT X.K H1 p ys ∧ D.rt (.ref p) H1)))
  refine lcPop hi _ (he X.s_0 (fun _ => none) 0 [] []) hML hMj hj hvs R h1 hl h2 fun Da acc Hs' H' e1 R' hD hn h0 hD' t ne => ?_
  exact ⟨Da, acc, rfl, .inl ⟨sqL_of hD', NewT.of (Hs := Hs0) (H := H0) R'.g t fun v Hs3 H3 g3 d3 => o v Hs3 H3 g3 d3⟩⟩
end
end DL

namespace DL
open PySem PySem.Spec PyProof.Rows L2
/-! ### the law's end -/
def spLaw (K : PySem.W.Frag) : Sp := fun vs H Q _ => ∃ (a : Addr) (ns : List Int), vs = [.ref a] ∧ SqL K H a (ns.map V.int) ∧ ns.length ≤ 63 ∧ ∀ H', Q (.bl true) H'
theorem spLaw_of {K : PySem.W.Frag} {xc : Nat → Addr} {φ : List PyData → Option (Except Nat PyData)} (h : ∀ ns : List Int, ns.length ≤ 63 → φ [.dict (scrK ns)] = some (.ok (.bool true))) : ∀ vs H Q E, spLaw K vs H Q E → spX K 1 xc φ vs H Q E := fun vs H Q E hs => by
  obtain ⟨a, ns, rfl, hS, hl, q⟩ := hs
  refine ⟨rfl, H, _, _, Same.refl _, .cons (.scr hS) .nil, h ns hl, fun v Hs' H' g d => ?_⟩
  cases d
  exact q H'
theorem no_cx {P : Program} {w : World} {H : Hp} {s : Shared} {e : Value} {s' : Shared} (h : L2.CX P w [] H s (fun _ _ _ => False) e s') : False := by
  obtain ⟨_, _, _, _, _, _, _, _, _, _, _, _, z⟩ := h
  exact z

/-! ### what the combinators reckon -/
def mapD (to : Int) (row : List Int) : PyData := .tuple [.int to, .tuple (row.map .int)]
theorem compF_map {tg : PyData → Rho → Option Rho} {c : Rho → Option Bool} {f : Fn} {ρ : Rho} {g : PyData → PyData} : ∀ {ds : List PyData}, (∀ d ∈ ds, ∃ ρ1, tg d ρ = some ρ1 ∧ c ρ1 = some true ∧ f ρ1 = some (g d)) → compF tg c f ρ ds = some (ds.map g)
  | [], _ => rfl
  | d :: ds, h => by
    obtain ⟨ρ1, h1, h2, h3⟩ := h d List.mem_cons_self
    unfold compF
    rw [h1, Option.bind_some, h2, Option.bind_some, if_pos rfl, h3, Option.bind_some, compF_map (fun x hx => h x (List.mem_cons_of_mem _ hx)), Option.bind_some]
    rfl
theorem compF_filter {tg : PyData → Rho → Option Rho} {c : Rho → Option Bool} {f : Fn} {ρ : Rho} {g : PyData → PyData} {p : PyData → Bool} : ∀ {ds : List PyData}, (∀ d ∈ ds, ∃ ρ1, tg d ρ = some ρ1 ∧ c ρ1 = some (p d) ∧ (p d = true → f ρ1 = some (g d))) → compF tg c f ρ ds = some ((ds.filter p).map g)
  | [], _ => rfl
  | d :: ds, h => by
    obtain ⟨ρ1, h1, h2, h3⟩ := h d List.mem_cons_self
    have ih := compF_filter (f := f) (c := c) (tg := tg) (ρ := ρ) (g := g) (p := p) (fun x hx => h x (List.mem_cons_of_mem _ hx))
    unfold compF
    rw [h1, Option.bind_some, h2, Option.bind_some]
    cases hp : p d with
    | true =>
      rw [if_pos rfl, h3 hp, Option.bind_some, ih, Option.bind_some, List.filter_cons_of_pos hp]
      rfl
    | false =>
      rw [if_neg Bool.false_ne_true, ih, List.filter_cons_of_neg (by rw [hp]; exact Bool.false_ne_true)]
/-- a loop whose turns all go on -/
theorem forF_nx {tg : PyData → Rho → Option Rho} {b : Gn} (P : Rho → Prop) : ∀ {ds : List PyData} {ρ : Rho}, (∀ d ∈ ds, ∀ ρ, P ρ → ∃ ρ1 ρ', tg d ρ = some ρ1 ∧ b ρ1 = some (.nx ρ') ∧ P ρ') → P ρ → ∃ ρ', forF tg b ds ρ = some (.nx ρ') ∧ P ρ'
  | [], ρ, _, h => ⟨ρ, rfl, h⟩
  | d :: ds, ρ, h, hp => by
    obtain ⟨ρ1, ρ2, h1, h2, h3⟩ := h d List.mem_cons_self ρ hp
    obtain ⟨ρ', h4, h5⟩ := forF_nx P (fun x hx => h x (List.mem_cons_of_mem _ hx)) h3
    refine ⟨ρ', ?_, h5⟩
    unfold forF
    rw [h1, Option.bind_some, h2, Option.bind_some]
    exact h4
theorem scr_get (ns : List Int) (k : Nat) : (scrK ns)[k]? = (ns[k]?).map fun n => (PyData.int n, PyData.none) := by
  unfold scrK
  rw [List.getElem?_map]
theorem blk_nx {g1 g2 : Gn} {ρ ρ' : Rho} (h : g1 ρ = some (.nx ρ')) : gBlk g1 g2 ρ = g2 ρ' := by
  unfold gBlk
  rw [h]
  rfl
theorem blk_ret {g1 g2 : Gn} {ρ : Rho} {d : PyData} (h : g1 ρ = some (.ret d)) : gBlk g1 g2 ρ = some (.ret d) := by
  unfold gBlk
  rw [h]
  rfl
theorem blk_exc {g1 g2 : Gn} {ρ ρ' : Rho} {c : Nat} (h : g1 ρ = some (.exc c ρ')) : gBlk g1 g2 ρ = some (.exc c ρ') := by
  unfold gBlk
  rw [h]
  rfl
theorem if_t {c : Rho → Option Bool} {g1 g2 : Gn} {ρ : Rho} (h : c ρ = some true) : gIf c g1 g2 ρ = g1 ρ := by
  unfold gIf
  rw [h]
  rfl
theorem if_f {c : Rho → Option Bool} {g1 g2 : Gn} {ρ : Rho} (h : c ρ = some false) : gIf c g1 g2 ρ = g2 ρ := by
  unfold gIf
  rw [h]
  rfl
theorem rgD_zero (n : Nat) : rgD 0 n = (List.range n).map fun (i : Nat) => PyData.int i := by
  unfold rgD
  refine List.map_congr_left fun i _ => ?_
  rw [Int.zero_add]
theorem rgD_mem {lo : Int} {n : Nat} {d : PyData} (h : d ∈ rgD lo n) : ∃ i : Nat, i < n ∧ d = .int (lo + i) := by
  unfold rgD at h
  obtain ⟨i, h1, h2⟩ := List.mem_map.mp h
  exact ⟨i, List.mem_range.mp h1, h2.symm⟩
theorem compF_list {tg : PyData → Rho → Option Rho} {f : Fn} {ρ : Rho} {α : Type} {w : α → PyData} {g : α → PyData} : ∀ {l : List α}, (∀ a ∈ l, ∃ ρ1, tg (w a) ρ = some ρ1 ∧ f ρ1 = some (g a)) → compF tg cYes f ρ (l.map w) = some (l.map g)
  | [], _ => rfl
  | a :: l, h => by
    obtain ⟨ρ1, h1, h2⟩ := h a List.mem_cons_self
    rw [List.map_cons, List.map_cons]
    unfold compF
    rw [h1, Option.bind_some]
    unfold cYes
    rw [Option.bind_some, if_pos rfl, h2, Option.bind_some]
    have ih := compF_list (tg := tg) (f := f) (ρ := ρ) (w := w) (g := g) (fun x hx => h x (List.mem_cons_of_mem _ hx))
    unfold cYes at ih
    rw [ih, Option.bind_some]
theorem compF_listF {tg : PyData → Rho → Option Rho} {c : Rho → Option Bool} {f : Fn} {ρ : Rho} {α : Type} {w : α → PyData} {g : α → PyData} {p : α → Bool} : ∀ {l : List α}, (∀ a ∈ l, ∃ ρ1, tg (w a) ρ = some ρ1 ∧ c ρ1 = some (p a) ∧ (p a = true → f ρ1 = some (g a))) → compF tg c f ρ (l.map w) = some ((l.filter p).map g)
  | [], _ => rfl
  | a :: l, h => by
    obtain ⟨ρ1, h1, h2, h3⟩ := h a List.mem_cons_self
    have ih := compF_listF (tg := tg) (c := c) (f := f) (ρ := ρ) (w := w) (g := g) (p := p) (fun x hx => h x (List.mem_cons_of_mem _ hx))
    rw [List.map_cons]
    unfold compF
    rw [h1, Option.bind_some, h2, Option.bind_some]
    cases hp : p a with
    | true => rw [if_pos rfl, h3 hp, Option.bind_some, ih, Option.bind_some, List.filter_cons_of_pos hp]; rfl
    | false => rw [if_neg Bool.false_ne_true, ih, List.filter_cons_of_neg (by rw [hp]; exact Bool.false_ne_true)]
/-- [.. for x in range(n)] -/
theorem lc_rg {vs : List Nat} {j : Nat} {fn f : Fn} {ρ : Rho} {n : Int} {g : Nat → PyData} (h1 : fn ρ = some (.int n)) (hn : -1000000 ≤ n ∧ n ≤ 1000000) (h : ∀ i : Nat, (i : Int) < n → f ((wipeR ρ vs).set j (some (.int i))) = some (g i)) :
    fLc vs (iR1 fn) (hName j) cYes f ρ = some ((List.range n.toNat).map g) := by
  have hb : B62 n := ⟨by omega, by omega⟩
  unfold fLc iR1
  rw [h1, Option.bind_some]
  show (if B62 n then some (rgD 0 n.toNat) else none).bind _ = _
  rw [if_pos hb, Option.bind_some, if_pos (by rw [rgD_len]; omega), rgD_zero]
  refine compF_list fun i hi => ⟨_, rfl, h i ?_⟩
  have := List.mem_range.mp hi
  omega
theorem lc_rgF {vs : List Nat} {j : Nat} {fn f : Fn} {c : Rho → Option Bool} {ρ : Rho} {n : Int} {g : Nat → PyData} {p : Nat → Bool} (h1 : fn ρ = some (.int n)) (hn : -1000000 ≤ n ∧ n ≤ 1000000) (h : ∀ i : Nat, (i : Int) < n → c ((wipeR ρ vs).set j (some (.int i))) = some (p i) ∧ (p i = true → f ((wipeR ρ vs).set j (some (.int i))) = some (g i))) :
    fLc vs (iR1 fn) (hName j) c f ρ = some (((List.range n.toNat).filter p).map g) := by
  have hb : B62 n := ⟨by omega, by omega⟩
  unfold fLc iR1
  rw [h1, Option.bind_some]
  show (if B62 n then some (rgD 0 n.toNat) else none).bind _ = _
  rw [if_pos hb, Option.bind_some, if_pos (by rw [rgD_len]; omega), rgD_zero]
  refine compF_listF fun i hi => ⟨_, rfl, h i ?_⟩
  have := List.mem_range.mp hi
  omega
/-- [.. for x in a tuple or list of things] -/
theorem lc_sq {vs : List Nat} {j : Nat} {fs f : Fn} {ρ : Rho} {α : Type} {w : α → PyData} {l : List α} {g : α → PyData} {d : PyData} (h1 : fs ρ = some d) (hd : seqD d = some (l.map w)) (hl : l.length ≤ 1000000) (h : ∀ a ∈ l, f ((wipeR ρ vs).set j (some (w a))) = some (g a)) :
    fLc vs (iSq fs) (hName j) cYes f ρ = some (l.map g) := by
  unfold fLc iSq
  rw [h1, Option.bind_some, hd, Option.bind_some, if_pos (by rw [List.length_map]; exact hl)]
  exact compF_list fun a ha => ⟨_, rfl, h a ha⟩
theorem lc_sqF {vs : List Nat} {j : Nat} {fs f : Fn} {c : Rho → Option Bool} {ρ : Rho} {α : Type} {w : α → PyData} {l : List α} {g : α → PyData} {p : α → Bool} {d : PyData} (h1 : fs ρ = some d) (hd : seqD d = some (l.map w)) (hl : l.length ≤ 1000000) (h : ∀ a ∈ l, c ((wipeR ρ vs).set j (some (w a))) = some (p a) ∧ (p a = true → f ((wipeR ρ vs).set j (some (w a))) = some (g a))) :
    fLc vs (iSq fs) (hName j) c f ρ = some ((l.filter p).map g) := by
  unfold fLc iSq
  rw [h1, Option.bind_some, hd, Option.bind_some, if_pos (by rw [List.length_map]; exact hl)]
  exact compF_listF fun a ha => ⟨_, rfl, h a ha⟩
theorem erase_map {α β : Type} (f : α → β) : ∀ (L : List α) (k : Nat), (L.map f).eraseIdx k = (L.eraseIdx k).map f
  | [], _ => rfl
  | _ :: _, 0 => rfl
  | a :: L, k + 1 => by
    show f a :: (L.map f).eraseIdx k = f a :: (L.eraseIdx k).map f
    rw [erase_map f L k]
/-- what popping leaves and gives -/
theorem popF_ok {j iL : Nat} {fe : Fn} (hne : j ≠ iL) : ∀ {ds : List PyData} {ρ : Rho} {L : List Int}, ρ[iL]? = some (some (.list (L.map PyData.int))) → ds.length ≤ L.length → L.length ≤ 1000000 →
    (∀ (i : Nat) d, ds[i]? = some d → ∀ L' : List Int, L'.length = L.length - i → ∃ k : Int, fe ((ρ.set iL (some (.list (L'.map PyData.int)))).set j (some d)) = some (.int k) ∧ 0 ≤ k ∧ k < L'.length) →
    ∃ ys rest : List Int, popF j iL fe ds ρ = some (ys.map PyData.int) ∧ ys.length = ds.length ∧ (ys ++ rest).Perm L
  | [], ρ, L, _, _, _, _ => ⟨[], L, rfl, rfl, List.Perm.refl _⟩
  | d :: ds, ρ, L, hL, hlen, hz, h => by
    have hi : iL < ρ.length := (List.getElem?_eq_some_iff.mp hL).1
    have e0 : ρ.set iL (some (.list (L.map PyData.int))) = ρ := by
      refine List.ext_getElem? fun i => ?_
      by_cases hii : iL = i
      · subst hii
        rw [List.getElem?_set_self hi, hL]
      · rw [List.getElem?_set_ne hii]
    obtain ⟨k, hk, k0, k1⟩ := h 0 d rfl L (by omega)
    rw [e0] at hk
    have hB : B63 k := ⟨by omega, by omega⟩
    have hget : lstAt iL (ρ.set j (some d)) = some (L.map PyData.int) := by
      unfold lstAt
      rw [List.getElem?_set_ne hne, hL]
    have hix : seqIndex? k (L.map PyData.int).length = some k.toNat := PySem.StrLaws.seqIndex_nonneg k0 (by rw [List.length_map]; exact k1)
    have hkl : k.toNat < L.length := by omega
    have hat : (L.map PyData.int)[k.toNat]? = some (.int L[k.toNat]) := by
      rw [List.getElem?_map, List.getElem?_eq_getElem hkl]
      rfl
    have hlen' : ds.length + 1 ≤ L.length := hlen
    have el : (L.eraseIdx k.toNat).length = L.length - 1 := List.length_eraseIdx_of_lt hkl
    obtain ⟨ys, rest, h1, h2, h3⟩ := popF_ok hne (ds := ds) (ρ := ρ.set iL (some (.list ((L.eraseIdx k.toNat).map PyData.int)))) (L := L.eraseIdx k.toNat) (List.getElem?_set_self hi) (by omega) (by omega) (fun i d' hd' L' hL' => by
      rw [List.set_set]
      exact h (i + 1) d' hd' L' (by omega))
    refine ⟨L[k.toNat] :: ys, rest, ?_, by rw [List.length_cons, List.length_cons, h2], ?_⟩
    · unfold popF
      rw [hget, Option.bind_some, hk, Option.bind_some]
      show (if B63 k then (seqIndex? k (L.map PyData.int).length).bind _ else none) = _
      rw [if_pos hB, hix, Option.bind_some, hat, Option.bind_some]
      have em : (L.map PyData.int).eraseIdx k.toNat = (L.eraseIdx k.toNat).map PyData.int := by
        rw [erase_map]
      rw [em, h1, Option.bind_some]
      rfl
    · rw [List.cons_append]
      refine (List.Perm.cons _ h3).trans ?_
      have : (L[k.toNat] :: L.eraseIdx k.toNat).Perm L := by
        have e1 : L = L.take k.toNat ++ L[k.toNat] :: L.drop (k.toNat + 1) := by
          rw [← List.drop_eq_getElem_cons hkl, List.take_append_drop]
        have e2 : L.eraseIdx k.toNat = L.take k.toNat ++ L.drop (k.toNat + 1) := List.eraseIdx_eq_take_drop_succ L k.toNat
        rw [e2]
        refine List.Perm.trans ?_ (List.Perm.of_eq e1.symm)
        exact List.perm_middle.symm
      exact this
theorem def_ret {n N : Nat} {g : Gn} {ds : List PyData} {d : PyData} (hl : ds.length = n) (h : g (ds.map some ++ List.replicate (N - ds.length) none) = some (.ret d)) : defN n N g ds = some (.ok d) := by
  unfold defN runDef
  rw [if_pos hl, h]
theorem def_nx {n N : Nat} {g : Gn} {ds : List PyData} {ρ : Rho} (hl : ds.length = n) (h : g (ds.map some ++ List.replicate (N - ds.length) none) = some (.nx ρ)) : defN n N g ds = some (.ok .none) := by
  unfold defN runDef
  rw [if_pos hl, h]
theorem def_exc {n N : Nat} {g : Gn} {ds : List PyData} {ρ : Rho} {c : Nat} (hl : ds.length = n) (h : g (ds.map some ++ List.replicate (N - ds.length) none) = some (.exc c ρ)) : defN n N g ds = some (.error c) := by
  unfold defN runDef
  rw [if_pos hl, h]
theorem bi1 {g : List PyData → Option PyData} {f : Fn} {ρ : Rho} {d : PyData} (h : f ρ = some d) : fBi g (fCons f fNil) ρ = g [d] := by
  unfold fBi fCons fNil
  rw [h]
  rfl
theorem fFr_of {fl : Rho → Option (List PyData)} {ρ : Rho} {l : List PyData} (h : fl ρ = some l) : fFr fl ρ = some (.list l) := by
  unfold fFr
  rw [h]
  rfl
end DL

namespace DL
open PySem PySem.Spec PyProof.Rows L2
section
variable {K : PySem.W.Frag} {X : Cx} {M : List Nat} {xc : Nat → Addr} {W W' : WX} {Hs0 H0 Hs H Hs1 : Hp} {D : Ends}
/-! ### try, one clause without a name -/
theorem outOk_w {r : Out} (hne : ∀ c ρ, r ≠ .exc c ρ) (o : OutOk K xc M Hs0 H0 Hs W D r) : OutOk K xc M Hs0 H0 Hs W' D r := by
  cases r with
  | exc c ρ => exact absurd rfl (hne c ρ)
  | nx ρ => exact o
  | ret d => exact o
  | brk ρ => exact o
  | ct ρ => exact o
@[simp] def noExc : Out → Option Out
  | .exc _ _ => none
  | r => some r
theorem noExc_some {r r' : Out} (h : noExc r = some r') : r' = r ∧ ∀ c ρ, r ≠ .exc c ρ := by
  cases r with
  | exc c ρ => cases h
  | _ => cases h; exact ⟨rfl, fun _ _ z => by cases z⟩
@[simp] def gTry (c : Nat) (gb gs : Gn) : Gn := fun ρ => (gb ρ).bind fun r => match r with
  | .exc c' ρ' => if c' = c then (gs ρ').bind noExc else none
  | r => some r
variable {body suite : List Stmt} {b₀ : Stmt} {np pos pos' : Pos} {x : Str} {C : Value} {tb : WX → TS} {ts : TS} {gb gs : Gn}
theorem sd_tryOnly (c : Nat) (hc : Names X x C) (tk : Takes X W) (hxm : PySem.W.exmOne X.K (.ref (xc c)) C = some true)
    (hb : ∀ (W : WX) (pn : List (Addr × Obj)) (xe : Value → Shared → Prop), Takes (X.tr pn xe) W → SS K xc (X.tr pn xe) M W body (tb W) gb)
    (hsu : ∀ (a : Addr) (oe : Obj) (pn : List (Addr × Obj)), SS K xc (X.suite a ((a, oe) :: pn)) M (fun _ _ _ _ => False) (b₀ :: suite) ts gs)
    (hs : X.stack = X.env :: X.outer := by rfl) (hf : X.env.frame = some X.env.locals := by rfl) :
    SD K xc X M W (.Try body [.ExceptHandler (some (.Name x np)) none (b₀ :: suite) pos'] [] [] pos) (fun D σ H => tb (wOnly X.K C (fun _ _ _ => ts) W D) D σ H) (gTry c gb gs) :=
  ⟨ps_try_only (ts := fun _ _ _ => ts) hs hf hc tk (fun W pn xe t _ => (hb W pn xe t).ps) (fun a oe cls d pn _ _ => (hsu a oe pn).ps), fun {Hs0 H0 Hs H σ ρ r D} R hf' o => by
    obtain ⟨r1, h1, h2⟩ := bind_some hf'
    refine (hb (wOnly X.K C (fun _ _ _ => ts) W D) [] (fun _ _ => True) (fun _ _ _ => trivial)).sm R h1 ?_
    cases r1 with
    | exc c' ρ' =>
      obtain ⟨hcc, h5⟩ := ite_get h2
      subst hcc
      obtain ⟨r2, h3, h4⟩ := bind_some h5
      obtain ⟨rfl, hne⟩ := noExc_some h4
      exact fun Hs' H' σ' e' R' => ⟨true, hxm, fun _ a _ => (hsu 0 ⟨.none, none, .fields #[], #[]⟩ []).sm R' h3 (outOk_w hne (o.up e')), fun z => by cases z⟩
    | nx ρ => obtain rfl := Option.some.inj h2; exact o
    | ret d => obtain rfl := Option.some.inj h2; exact o
    | brk ρ => obtain rfl := Option.some.inj h2; exact o
    | ct ρ => obtain rfl := Option.some.inj h2; exact o⟩

/-! ### try, one clause with a name: the suite asks isinstance of it -/
structure SX (K : PySem.W.Frag) (xc : Nat → Addr) (X : Cx) (M : List Nat) (i c : Nat) (st : List Stmt) (t : Addr → Value → Option Addr → TS) (g : Gn) : Prop where
  ps : ∀ (a : Addr) (oe : Obj) (cls : Value) (d : Option Addr) (pn : List (Addr × Obj)), Zc cls d oe → (∃ vs, oe.data = .fields vs) → PSs (X.suite a ((a, oe) :: pn)) st (t a cls d)
  sm : ∀ {Hs0 H0 Hs H : Hp} {σ : L2.St} {ρ : Rho} {r : Out} {D : Ends} (a : Addr), SR K M Hs0 H0 Hs H σ ρ → ρ[i]? = some none → σ[i]? = some (some (.ref a)) → g ρ = some r → OutOk K xc M Hs0 H0 Hs (fun _ _ _ _ => False) D r → t a (.ref (xc c)) none D σ H
@[simp] def isN : Option (Option PyData) → Bool
  | some none => true
  | _ => false
theorem isN_some {o : Option (Option PyData)} (h : isN o = true) : o = some none := by
  cases o with
  | none => cases h
  | some a =>
    cases a with
    | none => rfl
    | some b => cases h
@[simp] def keepN (i : Nat) : Out → Option Out
  | .nx ρ => if isN ρ[i]? = true then some (.nx ρ) else none
  | _ => none
@[simp] def gTryAs (c i : Nat) (gb gs : Gn) : Gn := fun ρ => (gb ρ).bind fun r => match r with
  | .exc c' ρ' => if c' = c then (if isN ρ'[i]? = true then (gs ρ').bind (keepN i) else none) else none
  | r => some r
theorem SR.none {σ : L2.St} {ρ : Rho} {i : Nat} (R : SR K M Hs0 H0 Hs H σ ρ) (h : ρ[i]? = some none) (y : Option V) : SR K M Hs0 H0 Hs H (σ.set i y) ρ := by
  have ne : ∀ {j : Nat} {d : PyData}, ρ[j]? = some (some d) → i ≠ j := fun {j d} e z => by subst z; rw [h] at e; cases e
  refine ⟨R.g, by rw [List.length_set]; exact R.len, fun j d e m => ?_, fun j d e m => ?_, fun j k dj dk p e1 e2 m1 m2 s1 s2 => ?_⟩
  · obtain ⟨v, a, b⟩ := R.frz j d e m
    exact ⟨v, by rw [List.getElem?_set_ne (ne e)]; exact a, b⟩
  · obtain ⟨p, xs, ds, a, b, c⟩ := R.own j d e m
    exact ⟨p, xs, ds, a, by rw [List.getElem?_set_ne (ne e)]; exact b, c⟩
  · rw [List.getElem?_set_ne (ne e1)] at s1
    rw [List.getElem?_set_ne (ne e2)] at s2
    exact R.sep j k dj dk p e1 e2 m1 m2 s1 s2
theorem sd_tryAs (c i : Nat) {n : Str} {tx : Addr → Value → Option Addr → TS} (hN : X.N.Nodup) (hc : Names X x C) (tk : Takes X W) (hxm : PySem.W.exmOne X.K (.ref (xc c)) C = some true)
    (hb : ∀ (W : WX) (pn : List (Addr × Obj)) (xe : Value → Shared → Prop), Takes (X.tr pn xe) W → SS K xc (X.tr pn xe) M W body (tb W) gb)
    (hsu : SX K xc X M i c (b₀ :: suite) tx gs)
    (hi : X.N[i]? = some n := by rfl) (hln : X.env.kindOf n = some .local := by rfl) (hs : X.stack = X.env :: X.outer := by rfl) (hf : X.env.frame = some X.env.locals := by rfl) :
    SD K xc X M W (.Try body [.ExceptHandler (some (.Name x np)) (some n) (b₀ :: suite) pos'] [] [] pos) (fun D σ H => tb (wAs X.K C i tx W D) D σ H) (gTryAs c i gb gs) :=
  ⟨ps_try_as (ts := tx) hs hf hN hi hln hc tk (fun W pn xe t _ => (hb W pn xe t).ps) hsu.ps, fun {Hs0 H0 Hs H σ ρ r D} R hf' o => by
    obtain ⟨r1, h1, h2⟩ := bind_some hf'
    refine (hb (wAs X.K C i tx W D) [] (fun _ _ => True) (fun _ _ _ => trivial)).sm R h1 ?_
    cases r1 with
    | exc c' ρ' =>
      obtain ⟨hcc, h5⟩ := ite_get h2
      subst hcc
      obtain ⟨hn, h6⟩ := ite_get h5
      replace hn := isN_some hn
      obtain ⟨r2, h3, h4⟩ := bind_some h6
      refine fun Hs' H' σ' e' R' => ⟨true, hxm, fun _ a _ => ?_, fun z => by cases z⟩
      have hlt : i < σ'.length := by rw [R'.len]; exact (List.getElem?_eq_some_iff.mp hn).1
      refine hsu.sm a (R'.none hn (some (.ref a))) hn (List.getElem?_set_self hlt) h3 ?_
      cases r2 with
      | nx ρ2 =>
        obtain ⟨hn2, h7⟩ := ite_get h4
        replace hn2 := isN_some hn2
        obtain rfl := Option.some.inj h7
        exact fun Hs2 H2 σ2 e2 R2 => o Hs2 H2 _ (e'.trans e2) (R2.none hn2 none)
      | _ => cases h4
    | nx ρ => obtain rfl := Option.some.inj h2; exact o
    | ret d => obtain rfl := Option.some.inj h2; exact o
    | brk ρ => obtain rfl := Option.some.inj h2; exact o
    | ct ρ => obtain rfl := Option.some.inj h2; exact o⟩
/-- isinstance of the caught one, one class or a tuple of such -/
def rE1 (K : PySem.W.Frag) (cls : Value) (d : Option Addr) (a : Addr) : List V → Hp → VK → Prop := fun xs H Q => ∃ E, cls = .ref E ∧ d = none ∧ ExcC K E ∧ rIsE K E a xs H Q
def rE2 (K : PySem.W.Frag) (cls : Value) (d : Option Addr) (a : Addr) : List V → Hp → VK → Prop := fun xs H Q => ∃ (E tp : Addr) (cs : List V) (us : List Value) (b : Bool), cls = .ref E ∧ d = none ∧ ExcC K E ∧ xs = [.ref a, .ref tp] ∧ H tp = some (.tup cs) ∧ Paired ClsV cs us ∧ PySem.W.kitAny K (.ref E) us = some b ∧ Q (.bl b) H
theorem inst_of {a E : Addr} {oe : Obj} {h : Heap} (hz : Zc (.ref E) none oe) (hf : ∃ vs, oe.data = .fields vs) (hget : h.get? a = some oe) : PySem.W.InstAt h a oe E none := by
  obtain ⟨vs, hv⟩ := hf
  obtain ⟨oc, od, oda, osl⟩ := oe
  obtain ⟨h1, h2⟩ := hz
  dsimp only at h1 h2 hv
  subst h1 h2 hv
  exact ⟨hget, rfl, rfl, trivial⟩
theorem call_e1 {a : Addr} {oe : Obj} {cls : Value} {d : Option Addr} {pn : List (Addr × Obj)} (hz : Zc cls d oe) (hf : ∃ vs, oe.data = .fields vs) : CallR (X.suite a ((a, oe) :: pn)) (.builtin "isinstance") (rE1 X.K cls d a) := by
  intro pins s σ H xs us Q I r h
  obtain ⟨E, rfl, rfl, hE, h⟩ := h
  exact call_isE hE hz hf pins s σ H xs us Q I r h
theorem call_e2 {a : Addr} {oe : Obj} {cls : Value} {d : Option Addr} {pn : List (Addr × Obj)} (hz : Zc cls d oe) (hf : ∃ vs, oe.data = .fields vs) : CallR (X.suite a ((a, oe) :: pn)) (.builtin "isinstance") (rE2 X.K cls d a) := by
  intro pins s σ H xs us Q I r h
  obtain ⟨E, tp, cs, ws, b, rfl, rfl, hE, rfl, hT, k, e, q⟩ := h
  obtain ⟨u1, u2, rfl, r1, r2⟩ := vals2 r
  cases (show u2 = Value.ref tp from r2)
  cases (show u1 = Value.ref a from r1)
  obtain ⟨_, its, rv, o, h1, h2, n, h3⟩ := (show ObjOk X.prog X.w H s.heap tp (.tup cs) from I.hok tp _ hT)
  have e3 := ClsV.all k rv
  subst e3
  obtain ⟨oc, od, dt, sl⟩ := o
  simp only at h2 h3
  subst h2 h3
  obtain ⟨hget, _⟩ := I.pin (a, oe) (List.mem_append.mpr (.inl List.mem_cons_self))
  exact PySem.W.kia_tup (PySem.W.handS_kitx_exc hE.hg hE.hk hE.hs hE.hd hE.ha hE.hn hE.ht hE.hm) I.kIn (inst_of hz hf hget) h1 e (fun z => nomatch z) fun tk => ⟨.bl b, H, I.tok tk, rfl, q⟩
def t1E (K : PySem.W.Frag) (cls : Value) (d : Option Addr) (a : Addr) (i : Nat) (v : V) : TE := tCB (rE1 K cls d a) (tCons (tVar i) (tCons (tC v) tNil))
def t2E (K : PySem.W.Frag) (cls : Value) (d : Option Addr) (a : Addr) (i : Nat) (v1 v2 : V) : TE := tCB (rE2 K cls d a) (tCons (tVar i) (tCons (tTup (tCons (tC v1) (tCons (tC v2) tNil))) tNil))
/-- what the class raised, cr, must say to the three questions: cA, c1, c2 -/
structure AskOk (K : PySem.W.Frag) (xc : Nat → Addr) (cr cA c1 c2 : Nat) : Prop where
  ex : ExcC K (xc cr)
  yA : PySem.W.kitOne K (.ref (xc cr)) (.ref (xc cA)) = some true
  no : PySem.W.kitAny K (.ref (xc cr)) [.ref (xc c1), .ref (xc c2)] = some false
  yZ : PySem.W.kitOne K (.ref (xc cr)) (.type "ValueError") = some true
theorem t1E_sm {cr i : Nat} {a : Addr} {v : V} {u : Value} {b : Bool} {σ : L2.St} {Q : VK} (hE : ExcC K (xc cr)) (hσ : σ[i]? = some (some (.ref a))) (hv : ∀ w, RelV v w → w = u) (hk : PySem.W.kitOne K (.ref (xc cr)) u = some b) (q : Q (.bl b) H) : t1E K (.ref (xc cr)) none a i v σ H Q :=
  ⟨_, hσ, xc cr, rfl, rfl, hE, v, u, b, rfl, fun w r => (hv w r), hk, q⟩
theorem t2E_sm {cr i c1 c2 : Nat} {a : Addr} {b : Bool} {σ : L2.St} {Q : VK} (hE : ExcC K (xc cr)) (hσ : σ[i]? = some (some (.ref a))) (hk : PySem.W.kitAny K (.ref (xc cr)) [.ref (xc c1), .ref (xc c2)] = some b) (q : ∀ H', Same H H' → Q (.bl b) H') : t2E K (.ref (xc cr)) none a i (.ref (xc c1)) (.ref (xc c2)) σ H Q :=
  ⟨_, hσ, szM (n := 2) (by decide), fun p hp => ⟨xc cr, p, _, _, b, rfl, rfl, hE, rfl, upd_same, .cons (.own _) (.cons (.own _) .nil), hk, q _ (same_new hp)⟩⟩
theorem askV_sm {cr cA c1 c2 i : Nat} {a : Addr} {σ : L2.St} {Q : VK} (A : AskOk K xc cr cA c1 c2) (hσ : σ[i]? = some (some (.ref a))) (q : ∀ H', Same H H' → Q (.bl true) H') :
    tAndV (t1E K (.ref (xc cr)) none a i (.ref (xc cA))) (tAndV (tNotV (t2E K (.ref (xc cr)) none a i (.ref (xc c1)) (.ref (xc c2)))) (t1E K (.ref (xc cr)) none a i (.ty "ValueError"))) σ H Q :=
  t1E_sm A.ex hσ (u := .ref (xc cA)) (fun w r => r) A.yA ⟨true, rfl, by
    rw [if_pos rfl]
    exact t2E_sm A.ex hσ A.no fun H1 e1 => ⟨false, rfl, true, rfl, by
      rw [if_pos rfl]
      exact t1E_sm A.ex hσ (u := .type "ValueError") (fun w r => r) A.yZ (q H1 e1)⟩⟩
theorem pe_e1 {cls : Value} {d : Option Addr} {a : Addr} {oe : Obj} {pn : List (Addr × Obj)} {i cA : Nat} {n A : Str} {p1 p2 p3 : Pos} (hz : Zc cls d oe) (hf : ∃ vs, oe.data = .fields vs) (hm : X.mg "isinstance" = none) (hA : X.mg A = some (.ref (xc cA)))
    (hN : X.N[i]? = some n := by rfl) (hv : Vis X.env.scope n := by first | exact Or.inl rfl | exact Or.inr (Or.inl rfl) | exact Or.inr (Or.inr rfl)) (hg : Gl X "isinstance" := by rfl) (hgA : Gl X A := by rfl)
    (hd : (n == ("__debug__" : Str)) = false := by decide) (hcd : (n == ("__classdict__" : Str)) = false := by decide) (hdA : (A == ("__debug__" : Str)) = false := by decide)
    (hs1 : starEach [.Name n p2, .Name A p3] X.env = (false, eval (.Name n p2) X.env) :: starEach [.Name A p3] X.env := by rfl) (hs2 : starEach [.Name A p3] X.env = (false, eval (.Name A p3) X.env) :: starEach [] X.env := by rfl) (hpl : (backTo pos (starEach [.Name A p3] X.env)).any (·.1) = false := by rfl) :
    PE (X.suite a ((a, oe) :: pn)) (.Call (.Name "isinstance" p1) [.Name n p2, .Name A p3] [] pos) (t1E X.K cls d a i (.ref (xc cA))) :=
  pe_callB (X := X.suite a ((a, oe) :: pn)) (call_e1 hz hf) hg hm boot_isinstance (pa_cons (pe_var hN hv hd hcd) (pa_cons (pe_glob hgA hA rfl hdA) pa_nil hs2) hs1) (by decide) (by decide) hs1 hpl
theorem pe_eZ {cls : Value} {d : Option Addr} {a : Addr} {oe : Obj} {pn : List (Addr × Obj)} {i : Nat} {n : Str} {p1 p2 p3 : Pos} (hz : Zc cls d oe) (hf : ∃ vs, oe.data = .fields vs) (hm : X.mg "isinstance" = none) (hZ : X.mg "ValueError" = none)
    (hN : X.N[i]? = some n := by rfl) (hv : Vis X.env.scope n := by first | exact Or.inl rfl | exact Or.inr (Or.inl rfl) | exact Or.inr (Or.inr rfl)) (hg : Gl X "isinstance" := by rfl) (hgA : Gl X "ValueError" := by rfl)
    (hd : (n == ("__debug__" : Str)) = false := by decide) (hcd : (n == ("__classdict__" : Str)) = false := by decide)
    (hs1 : starEach [.Name n p2, .Name "ValueError" p3] X.env = (false, eval (.Name n p2) X.env) :: starEach [.Name "ValueError" p3] X.env := by rfl) (hs2 : starEach [.Name "ValueError" p3] X.env = (false, eval (.Name "ValueError" p3) X.env) :: starEach [] X.env := by rfl) (hpl : (backTo pos (starEach [.Name "ValueError" p3] X.env)).any (·.1) = false := by rfl) :
    PE (X.suite a ((a, oe) :: pn)) (.Call (.Name "isinstance" p1) [.Name n p2, .Name "ValueError" p3] [] pos) (t1E X.K cls d a i (.ty "ValueError")) :=
  pe_callB (X := X.suite a ((a, oe) :: pn)) (call_e1 hz hf) hg hm boot_isinstance (pa_cons (pe_var hN hv hd hcd) (pa_cons (pe_bltn (u := .type "ValueError") hgA hZ rfl rfl (by decide) (by decide)) pa_nil hs2) hs1) (by decide) (by decide) hs1 hpl
theorem pe_e2 {cls : Value} {d : Option Addr} {a : Addr} {oe : Obj} {pn : List (Addr × Obj)} {i c1 c2 k : Nat} {n B1 B2 : Str} {p1 p2 p3 p4 p5 : Pos} (hz : Zc cls d oe) (hf : ∃ vs, oe.data = .fields vs) (hm : X.mg "isinstance" = none) (hA : X.mg B1 = some (.ref (xc c1))) (hB : X.mg B2 = some (.ref (xc c2)))
    (hN : X.N[i]? = some n := by rfl) (hv : Vis X.env.scope n := by first | exact Or.inl rfl | exact Or.inr (Or.inl rfl) | exact Or.inr (Or.inr rfl)) (hg : Gl X "isinstance" := by rfl) (hgA : Gl X B1 := by rfl) (hgB : Gl X B2 := by rfl)
    (hd : (n == ("__debug__" : Str)) = false := by decide) (hcd : (n == ("__classdict__" : Str)) = false := by decide) (hdA : (B1 == ("__debug__" : Str)) = false := by decide) (hdB : (B2 == ("__debug__" : Str)) = false := by decide)
    (hs1 : starEach [.Name n p2, .Tuple [.Name B1 p3, .Name B2 p4] k p5] X.env = (false, eval (.Name n p2) X.env) :: starEach [.Tuple [.Name B1 p3, .Name B2 p4] k p5] X.env := by rfl) (hs2 : starEach [.Tuple [.Name B1 p3, .Name B2 p4] k p5] X.env = (false, eval (.Tuple [.Name B1 p3, .Name B2 p4] k p5) X.env) :: starEach [] X.env := by rfl) (hpl : (backTo pos (starEach [.Tuple [.Name B1 p3, .Name B2 p4] k p5] X.env)).any (·.1) = false := by rfl)
    (hs3 : starEach [.Name B1 p3, .Name B2 p4] X.env = (false, eval (.Name B1 p3) X.env) :: starEach [.Name B2 p4] X.env := by rfl) (hs4 : starEach [.Name B2 p4] X.env = (false, eval (.Name B2 p4) X.env) :: starEach [] X.env := by rfl) :
    PE (X.suite a ((a, oe) :: pn)) (.Call (.Name "isinstance" p1) [.Name n p2, .Tuple [.Name B1 p3, .Name B2 p4] k p5] [] pos) (t2E X.K cls d a i (.ref (xc c1)) (.ref (xc c2))) :=
  pe_callB (X := X.suite a ((a, oe) :: pn)) (call_e2 hz hf) hg hm boot_isinstance (pa_cons (pe_var hN hv hd hcd) (pa_cons (pe_tup (pa_cons (pe_glob hgA hA rfl hdA) (pa_cons (pe_glob hgB hB rfl hdB) pa_nil hs4) hs3)) pa_nil hs2) hs1) (by decide) (by decide) hs1 hpl
/-- told = the three questions -/
abbrev tAsk (K : PySem.W.Frag) (xc : Nat → Addr) (i cA c1 c2 : Nat) (cls : Value) (d : Option Addr) (a : Addr) : TE := tAndV (t1E K cls d a i (.ref (xc cA))) (tAndV (tNotV (t2E K cls d a i (.ref (xc c1)) (.ref (xc c2)))) (t1E K cls d a i (.ty "ValueError")))
theorem sx_set {i cr cA c1 c2 : Nat} (j : Nat) {y : Str} {B : Expr} (A : AskOk K xc cr cA c1 c2) (hN : X.N.Nodup) (hB : ∀ (a : Addr) (oe : Obj) (cls : Value) (d : Option Addr) (pn : List (Addr × Obj)), Zc cls d oe → (∃ vs, oe.data = .fields vs) → PE (X.suite a ((a, oe) :: pn)) B (tAsk X.K xc i cA c1 c2 cls d a))
    (hj : X.N[j]? = some y := by rfl) (hx : Loc X.env.scope y := by first | exact Or.inl rfl | exact Or.inr rfl) (hM : M.contains j = false := by rfl) (hK : X.K = K := by rfl)
    (hs : swapsWith B (some (.Name y pos')) pos.line X.env = pure false := by rfl) (hf : X.fn y = true ∨ X.env.scope.names.lookup y = some .local := by first | exact .inl rfl | exact .inr rfl) :
    SX K xc X M i cr [.Assign [.Name y pos'] B pos] (fun a cls d => tAsg (tAsk K xc i cA c1 c2 cls d a) (gName j)) (gAsg (fC (.bool true)) (hName j)) := by
  subst hK
  refine ⟨fun a oe cls d pn hz hv => pss_one (ps_set (X := X.suite a ((a, oe) :: pn)) hN hj hx (hB a oe cls d pn hz hv) hs hf), fun {Hs0 H0 Hs H σ ρ r D} a R hn hσ hg o => ?_⟩
  cases hg
  refine askV_sm A hσ fun H1 e1 => ?_
  exact (gd_name (X := X) (pos := pos) j hN hj hx hM hf).sm (R.same e1) (.bl true) rfl fun σ' R' _ => o Hs H1 σ' (Same.refl _) R'
/-- if the three questions: y = None -/
theorem ask_t {i cr cA c1 c2 : Nat} {a : Addr} {σ : L2.St} {Q : Bool → Hp → Prop} (A : AskOk K xc cr cA c1 c2) (hσ : σ[i]? = some (some (.ref a))) (q : ∀ H', Same H H' → Q true H') :
    tAnd (fun σ H Q => t1E K (.ref (xc cr)) none a i (.ref (xc cA)) σ H fun x H' => ∃ k, TruV K x H' k ∧ Q k H') (tAnd (tNot (fun σ H Q => t2E K (.ref (xc cr)) none a i (.ref (xc c1)) (.ref (xc c2)) σ H fun x H' => ∃ k, TruV K x H' k ∧ Q k H')) (fun σ H Q => t1E K (.ref (xc cr)) none a i (.ty "ValueError") σ H fun x H' => ∃ k, TruV K x H' k ∧ Q k H')) σ H Q :=
  t1E_sm A.ex hσ (u := .ref (xc cA)) (fun w r => r) A.yA ⟨true, rfl, by
    show (if true = true then _ else _)
    rw [if_pos rfl]
    exact t2E_sm A.ex hσ A.no fun H1 e1 => ⟨false, rfl, by
      show (if true = true then _ else _)
      rw [if_pos rfl]
      exact t1E_sm A.ex hσ (u := .type "ValueError") (fun w r => r) A.yZ ⟨true, rfl, q H1 e1⟩⟩⟩
abbrev tAskT (K : PySem.W.Frag) (xc : Nat → Addr) (i cA c1 c2 : Nat) (cls : Value) (d : Option Addr) (a : Addr) : TT := tAnd (fun σ H Q => t1E K cls d a i (.ref (xc cA)) σ H fun x H' => ∃ k, TruV K x H' k ∧ Q k H') (tAnd (tNot (fun σ H Q => t2E K cls d a i (.ref (xc c1)) (.ref (xc c2)) σ H fun x H' => ∃ k, TruV K x H' k ∧ Q k H')) (fun σ H Q => t1E K cls d a i (.ty "ValueError") σ H fun x H' => ∃ k, TruV K x H' k ∧ Q k H'))
theorem sx_if {i cr cA c1 c2 : Nat} {B : Expr} {ss : List Stmt} {t2 : TS} {gs : Gn} (A : AskOk K xc cr cA c1 c2) (hB : ∀ (a : Addr) (oe : Obj) (cls : Value) (d : Option Addr) (pn : List (Addr × Obj)), Zc cls d oe → (∃ vs, oe.data = .fields vs) → PT (X.suite a ((a, oe) :: pn)) B (tAskT X.K xc i cA c1 c2 cls d a))
    (hsu : ∀ (a : Addr) (oe : Obj) (pn : List (Addr × Obj)), SS K xc (X.suite a ((a, oe) :: pn)) M (fun _ _ _ _ => False) ss t2 gs) (hK : X.K = K := by rfl) :
    SX K xc X M i cr [.If B ss [] pos] (fun a cls d => tIfS (tAskT K xc i cA c1 c2 cls d a) t2 tNext) gs := by
  subst hK
  refine ⟨fun a oe cls d pn hz hv => pss_one (ps_if (X := X.suite a ((a, oe) :: pn)) (hB a oe cls d pn hz hv) (hsu a oe pn).ps pss_nil), fun {Hs0 H0 Hs H σ ρ r D} a R hn hσ hg o => ?_⟩
  refine ask_t A hσ fun H1 e1 => ?_
  rw [if_pos rfl]
  exact (hsu 0 ⟨.none, none, .fields #[], #[]⟩ []).sm (R.same e1) hg o
end
theorem ref_ne {a b : Addr} (h : a ≠ b) : (Value.ref a == Value.ref b) = false := beq_eq_false_iff_ne.mpr fun z => h (Value.ref.inj z)
theorem kit_cls_own {K : PySem.W.Frag} {C : Addr} {t : Value} {b : Bool} (hd : PySem.W.hasDictIn K C = true) (ht : PySem.W.typeIn K (.ref C) = some (.type "type")) (hs : PySem.W.subIn K t (.ref C) = some b) (hne : (t == .ref C) = false) : PySem.W.kitOne K t (.ref C) = some b := by
  obtain ⟨cd, hc, _⟩ := PySem.W.any_some hd
  have e : ((PySem.W.clsIn K C).isSome && PySem.W.typeIn K (.ref C) == some (.type "type")) = true := by rw [hc, ht] <;> rfl
  unfold PySem.W.kitOne
  rw [if_neg (by rw [hne]; exact Bool.false_ne_true)]
  show (if ((PySem.W.clsIn K C).isSome && PySem.W.typeIn K (.ref C) == some (.type "type")) = true then PySem.W.subIn K t (.ref C) else none) = some b
  rw [if_pos e]
  exact hs
theorem kit_cls_ty {K : PySem.W.Frag} {E : Addr} {T : String} {b : Bool} (hm : PySem.W.kitMeta T = true) (hs : PySem.W.subIn K (.ref E) (.type T) = some b) : PySem.W.kitOne K (.ref E) (.type T) = some b := by
  unfold PySem.W.kitOne
  have hne : (Value.ref E == Value.type T) = false := beq_eq_false_iff_ne.mpr fun z => nomatch z
  rw [if_neg (by rw [hne]; exact Bool.false_ne_true)]
  show (if PySem.W.kitMeta T = true then PySem.W.subIn K (.ref E) (.type T) else none) = some b
  rw [if_pos hm]
  exact hs
theorem kit_two_no {K : PySem.W.Frag} {t a b : Value} (h1 : PySem.W.kitOne K t a = some false) (h2 : PySem.W.kitOne K t b = some false) : PySem.W.kitAny K t [a, b] = some false := by
  unfold PySem.W.kitAny
  rw [h1]
  show PySem.W.kitAny K t [b] = some false
  unfold PySem.W.kitAny
  rw [h2]
  rfl
end DL

namespace DL
open PySem PySem.Spec PyProof.Rows L2
/-! ### the members of a list of ints, each once, rising -/
def insS (k : Int) : List Int → List Int
  | [] => [k]
  | a :: r => if k < a then k :: a :: r else if k = a then a :: r else a :: insS k r
def sset (ns : List Int) : List Int := ns.foldr insS []
theorem insS_mem {k x : Int} : ∀ {l : List Int}, x ∈ insS k l ↔ x = k ∨ x ∈ l
  | [] => by simp [insS]
  | a :: r => by
    unfold insS
    by_cases h1 : k < a
    · rw [if_pos h1]; simp
    · rw [if_neg h1]
      by_cases h2 : k = a
      · rw [if_pos h2]; subst h2; simp
      · rw [if_neg h2, List.mem_cons, List.mem_cons, insS_mem (l := r)]
        constructor
        · rintro (h | h | h)
          · exact .inr (.inl h)
          · exact .inl h
          · exact .inr (.inr h)
        · rintro (h | h | h)
          · exact .inr (.inl h)
          · exact .inl h
          · exact .inr (.inr h)
theorem insS_lt {k : Int} : ∀ {l : List Int}, l.Pairwise (· < ·) → (insS k l).Pairwise (· < ·)
  | [], _ => by simp [insS]
  | a :: r, h => by
    obtain ⟨h1, h2⟩ := List.pairwise_cons.mp h
    unfold insS
    by_cases c1 : k < a
    · rw [if_pos c1]
      refine List.pairwise_cons.mpr ⟨fun x hx => ?_, h⟩
      rcases List.mem_cons.mp hx with rfl | hx
      · exact c1
      · exact Int.lt_trans c1 (h1 x hx)
    · rw [if_neg c1]
      by_cases c2 : k = a
      · rw [if_pos c2]; exact h
      · rw [if_neg c2]
        refine List.pairwise_cons.mpr ⟨fun x hx => ?_, insS_lt h2⟩
        rcases insS_mem.mp hx with rfl | hx
        · omega
        · exact h1 x hx
theorem sset_mem {x : Int} : ∀ {ns : List Int}, x ∈ sset ns ↔ x ∈ ns
  | [] => by simp [sset]
  | a :: r => by
    show x ∈ insS a (sset r) ↔ _
    rw [insS_mem, sset_mem (ns := r), List.mem_cons]
theorem sset_lt : ∀ (ns : List Int), (sset ns).Pairwise (· < ·)
  | [] => List.Pairwise.nil
  | a :: r => insS_lt (sset_lt r)
theorem rise_eq : ∀ {l m : List Int}, l.Pairwise (· < ·) → m.Pairwise (· < ·) → (∀ x, x ∈ l ↔ x ∈ m) → l = m
  | [], [], _, _, _ => rfl
  | [], b :: m, _, _, h => by have := (h b).mpr List.mem_cons_self; cases this
  | a :: l, [], _, _, h => by have := (h a).mp List.mem_cons_self; cases this
  | a :: l, b :: m, h1, h2, h => by
    obtain ⟨a1, a2⟩ := List.pairwise_cons.mp h1
    obtain ⟨b1, b2⟩ := List.pairwise_cons.mp h2
    have e : a = b := by
      rcases List.mem_cons.mp ((h a).mp List.mem_cons_self) with e | e
      · exact e
      · rcases List.mem_cons.mp ((h b).mpr List.mem_cons_self) with e2 | e2
        · exact e2.symm
        · have := b1 a e; have := a1 b e2; omega
    subst e
    have := rise_eq a2 b2 (fun x => ⟨fun hx => by
      rcases List.mem_cons.mp ((h x).mp (List.mem_cons_of_mem _ hx)) with e | e
      · have := a1 x hx; omega
      · exact e, fun hx => by
      rcases List.mem_cons.mp ((h x).mpr (List.mem_cons_of_mem _ hx)) with e | e
      · have := b1 x hx; omega
      · exact e⟩)
    rw [this]
theorem rise_nodup {l : List Int} (h : l.Pairwise (· < ·)) : l.Nodup := h.imp fun h => by omega
theorem nodup_len : ∀ {l m : List Int}, l.Nodup → m.Nodup → (∀ x, x ∈ l → x ∈ m) → l.length ≤ m.length
  | [], _, _, _, _ => Nat.zero_le _
  | a :: l, m, h1, h2, h => by
    obtain ⟨a1, a2⟩ := List.nodup_cons.mp h1
    have hm := h a List.mem_cons_self
    have := nodup_len (m := m.erase a) a2 (h2.erase a) fun x hx => (List.mem_erase_of_ne (fun e => a1 (by rw [← e]; exact hx))).mpr (h x (List.mem_cons_of_mem _ hx))
    rw [List.length_erase_of_mem hm] at this
    have : 0 < m.length := List.length_pos_of_mem hm
    rw [List.length_cons]
    omega
theorem sset_len {l ns : List Int} (h1 : l.Nodup) (h2 : ∀ x, x ∈ l ↔ x ∈ ns) : l.length = (sset ns).length :=
  Nat.le_antisymm (nodup_len h1 (rise_nodup (sset_lt ns)) fun x hx => sset_mem.mpr ((h2 x).mp hx)) (nodup_len (rise_nodup (sset_lt ns)) h1 fun x hx => (h2 x).mpr (sset_mem.mp hx))
/-! ### set(a tuple of ints), its number, its members in order -/
section
variable {K : PySem.W.Frag} {X : Cx} {M : List Nat} {a : Expr} {ta : TE} {f : Fn} {pos p p2 q : Pos}
def rSetI (K : PySem.W.Frag) (w : World) : List V → Hp → VK → Prop := fun xs H Q => ∃ (p : Addr) (ns : List Int), xs = [.ref p] ∧ SqT K H p (ns.map V.int) ∧ ns.length ≤ 1000 ∧ ∀ a, H a = none → Q (.ref a) (upd H a (SetO w a (fun j => decide (j ∈ ns)) (sset ns).length))
theorem cr_setI (hc : X.calm = true) : CallR X (.type "set") (rSetI X.K X.w) := by
  intro pins s σ H xs us Q I r h
  obtain ⟨p0, ns, rfl, hq, hl, q⟩ := h
  obtain ⟨u, rfl, rx⟩ := vals1 r
  cases rx
  obtain ⟨its, rv, pt, hz⟩ := I.tuple hq
  have hi : IntsAre its.toArray.toList ns := ints_of_vals rv
  refine call_set_tupI ns (I.ok.hd hc) (show s.heap.IsTuple p0 its.toArray from pt) hi (by unfold scanBound; omega) fun h' tk c R1 hcn k => ?_
  have hlt := R1.lt
  have en : c = (sset ns).length := by
    obtain ⟨o, es, ep, t, ho, hex, hdt, g, nd, hm2, hb, hf, hn, hr, hl2⟩ := id R1
    have := sset_len (ns := ns) nd fun x => by rw [← hm2 x, decide_eq_true_eq]
    rw [List.length_map, Array.length_toList] at this
    exact hn.symm.trans this
  subst en
  have hn : H s.heap.objs.size = none := I.hok.fresh (Nat.le_refl _)
  exact ⟨.ref _, upd H s.heap.objs.size (SetO X.w s.heap.objs.size _ _), I.laid (t' := tk) k (Nat.le_refl _) (setO_new R1), rfl, q _ hn⟩
def rLenS (w : World) : List V → Hp → VK → Prop := fun xs H Q => ∃ (a : Addr) (S : Int → Bool) (n : Nat), xs = [.ref a] ∧ H a = some (SetO w a S n) ∧ Q (.int n) H
theorem cr_lenS : CallR X (.builtin "len") (rLenS X.w) := by
  intro pins s σ H xs us Q I r h
  obtain ⟨a, S, n, rfl, ha, q⟩ := h
  obtain ⟨u, rfl, rx⟩ := vals1 r
  cases rx
  obtain ⟨o, es, ep, t, ho, hex, hdt, g, nd, hm2, hb, hf, hn, hr, hl2⟩ := setO_get I ha
  refine call_len_set ho hex hdt hf (by unfold scanBound at hb; omega) ⟨.int n, H, I.tok _, ⟨_, by rw [hn]⟩, q⟩
def gLenSet : PyData → Option PyData
  | .tuple ds => (intsD ds).bind fun ns => if ns.length ≤ 1000 then some (.int (sset ns).length) else none
  | _ => none
theorem ed_lenSet (ha : ED K X M a ta f) (hm : X.mg "len" = none) (hm2 : X.mg "set" = none) (hg : Gl X "len" := by rfl) (hg2 : Gl X "set" := by rfl) (hc : X.calm = true := by rfl) (hK : X.K = K := by rfl)
    (na : starEach [a] X.env = (false, eval a X.env) :: starEach [] X.env := by rfl) (nb : starEach [.Call (.Name "set" p2) [a] [] q] X.env = (false, eval (.Call (.Name "set" p2) [a] [] q) X.env) :: starEach [] X.env := by rfl)
    (pa : (backTo q (starEach [] X.env)).any (·.1) = false := by rfl) (pb : (backTo pos (starEach [] X.env)).any (·.1) = false := by rfl) :
    ED K X M (.Call (.Name "len" p) [.Call (.Name "set" p2) [a] [] q] [] pos) (tCB (rLenS X.w) (tCons (tCB (rSetI K X.w) (tCons ta tNil)) tNil)) (f1 gLenSet f) := by
  subst hK
  refine ⟨pe_callB cr_lenS hg hm boot_len (pa_cons (pe_callTy (cr_setI hc) hg2 hm2 boot_set (pa_cons ha.pe pa_nil na) (by decide) (by decide) na pa) pa_nil nb) (by decide) (by decide) nb pb, fun {Hs0 H0 Hs H σ ρ d Q} R hf qq => ?_⟩
  obtain ⟨dx, h1, h2⟩ := bind_some hf
  refine ha.sm R h1 fun v Hs1 H1 g1 d1 => ?_
  cases d1 with
  | @tup l ob xs ds hn hp t =>
    obtain ⟨ns, h3, h4⟩ := bind_some h2
    obtain ⟨hl, rfl⟩ := ite_some h4
    have e := ints_dv t h3
    subst e
    exact ⟨l, ns, rfl, sqT_of (g1.sub _ _ hp), hl, fun p0 hp0 => ⟨p0, _, _, rfl, upd_same, qq _ Hs1 _ (g1.trans (Grow.alloc0 g1.sub hp0)) (.int _)⟩⟩
  | _ => cases h2
def gSortSet : PyData → Option (List PyData)
  | .tuple ds => (intsD ds).bind fun ns => if ns.length < 64 then some ((sset ns).map .int) else none
  | _ => none
theorem insS_le {k : Int} : ∀ l : List Int, (insS k l).length ≤ l.length + 1
  | [] => Nat.le_refl _
  | a :: r => by
    unfold insS
    split
    · exact Nat.le_refl _
    · split
      · exact Nat.le_succ _
      · have := insS_le (k := k) r
        rw [List.length_cons, List.length_cons]
        omega
theorem sset_le : ∀ ns : List Int, (sset ns).length ≤ ns.length
  | [] => Nat.le_refl _
  | a :: r => by
    have := sset_le r
    have := insS_le (k := a) (sset r)
    show (insS a (sset r)).length ≤ _
    rw [List.length_cons]
    omega
theorem fd_sortSet (ha : ED K X M a ta f) (hm : X.mg "sorted" = none) (hm2 : X.mg "set" = none) (hg : Gl X "sorted" := by rfl) (hg2 : Gl X "set" := by rfl) (hc : X.calm = true := by rfl) (hK : X.K = K := by rfl)
    (na : starEach [a] X.env = (false, eval a X.env) :: starEach [] X.env := by rfl) (nb : starEach [.Call (.Name "set" p2) [a] [] q] X.env = (false, eval (.Call (.Name "set" p2) [a] [] q) X.env) :: starEach [] X.env := by rfl)
    (pa : (backTo q (starEach [] X.env)).any (·.1) = false := by rfl) (pb : (backTo pos (starEach [] X.env)).any (·.1) = false := by rfl) :
    FD K X M (.Call (.Name "sorted" p) [.Call (.Name "set" p2) [a] [] q] [] pos) (tCB (rSortedSet X.w) (tCons (tCB (rSetI K X.w) (tCons ta tNil)) tNil)) (fun ρ => (f ρ).bind gSortSet) := by
  subst hK
  refine ⟨pe_callB (cr_sortedSet hc) hg hm boot_sorted (pa_cons (pe_callTy (cr_setI hc) hg2 hm2 boot_set (pa_cons ha.pe pa_nil na) (by decide) (by decide) na pa) pa_nil nb) (by decide) (by decide) nb pb, fun {Hs0 H0 Hs H σ ρ d Q} R hf qq => ?_⟩
  obtain ⟨dx, h1, h2⟩ := bind_some hf
  refine ha.sm R h1 fun v Hs1 H1 g1 d1 => ?_
  cases d1 with
  | @tup l ob xs ds hn hp t =>
    obtain ⟨ns, h3, h4⟩ := bind_some h2
    obtain ⟨hl, rfl⟩ := ite_some h4
    have e := ints_dv t h3
    subst e
    have hle := sset_le ns
    refine ⟨l, ns, rfl, sqT_of (g1.sub _ _ hp), by omega, fun p0 hp0 => ⟨p0, _, _, rfl, upd_same, by omega, fun ns' p1 hs hmm hlen hp1 => ?_⟩⟩
    have e : ns' = sset ns := rise_eq hs (sset_lt ns) fun x => by rw [hmm, decide_eq_true_eq, sset_mem]
    subst e
    have g2 : Grow Hs1 H1 Hs1 (upd H1 p0 (SetO X.w p0 (fun j => decide (j ∈ ns)) (sset ns).length)) := Grow.alloc0 g1.sub hp0
    have g3 := Grow.alloc0 (o := .lst ((sset ns).map V.int)) g2.sub hp1
    have g := (g1.trans g2).trans g3
    exact qq p1 _ Hs1 _ g (g1.ex.free (g2.ex.free hp1)) (g2.sub.free hp1) upd_same (DdAll.ints _)
  | _ => cases h2
end
end DL

namespace DL
open PySem PySem.Spec PyProof.Rows L2
/-! ### enumerate(a tuple): made, and its turns -/
theorem enumT_new {v : Value} {o : Obj} {Hv : Heap → Prop} (B : Begins v o Hv) :
    Meets (Builtin.«enumerate.__new__» ⟨[.type "enumerate", v], []⟩) (fun _ R s => Hv s.heap ∧
      R (.ok (.ret (.ref (s.heap.push o).objs.size))) { s with heap := (s.heap.push o).push { cls := .type "enumerate", data := .fields #[.none, .bool false, .ref s.heap.objs.size, rawInt 0, .none, .none] } }) :=
  .of_wp fun prog w A R s h => by
    obtain ⟨hp, g, d, tk, os⟩ := s
    obtain ⟨hv, hr⟩ := h
    have sub := sub_enumerate
    have it : ∀ {A' : Around} {E Q : Value → Shared → Prop}, Q (.ref hp.objs.size) ⟨hp.push o, g, d, tk, os⟩ → wpAny (model prog w) A' (pyIter v) Q E ⟨hp, g, d, tk, os⟩ := fun q => B.iter prog w _ _ ⟨hp, g, d, tk, os⟩ _ hv q
    wp_walk using it
    refine wpAny_stack_any fun st => wpAny_pure ?_
    split
    · rename_i c _ _ _ _ _
      cases (c == Value.type "enumerate") <;> (wp_walk using it; exact ⟨_, rfl, hr⟩)
    · wp_walk using it
      exact ⟨_, rfl, hr⟩
theorem enumT_call {prog : Program} {w : World} {A : Around} {E : Value → Shared → Prop} {s : Shared} {v : Value} {o : Obj} {Hv : Heap → Prop} {Q : Value → Shared → Prop} (B : Begins v o Hv) (hv : Hv s.heap)
    (q : ∀ h', IsEnum h' (s.heap.objs.size + 1) s.heap.objs.size 0 .none → h'.get? s.heap.objs.size = some o → (∀ b u, s.heap.get? b = some u → h'.get? b = some u) → Q (.ref (s.heap.objs.size + 1)) { s with heap := h' }) :
    wpAny (model prog w) A (call (.type "enumerate") [v]) Q E s := by
  refine callType_new F.called_enumerate (by decide) (F.typeCall_enumerate_1 _) (F.newCall_enumerate_1 _) (fun obj => F.args_object_init_2 obj _) F.entry_enumerate_new (enumT_new B) ⟨hv, ?_⟩
  have z : (s.heap.push o).objs.size = s.heap.objs.size + 1 := Heap.size_push ..
  rw [z]
  have ie : IsEnum ((s.heap.push o).push { cls := .type "enumerate", data := .fields #[.none, .bool false, .ref s.heap.objs.size, rawInt 0, .none, .none] }) (s.heap.objs.size + 1) s.heap.objs.size 0 .none := by
    have y := Heap.get?_push_size (s.heap.push o) (o := { cls := .type "enumerate", data := .fields #[.none, .bool false, .ref s.heap.objs.size, rawInt 0, .none, .none] }) rfl
    rw [z] at y
    exact y
  exact ⟨⟨_, ie, rfl⟩, q _ ie (Heap.get?_push_of_some _ (Heap.get?_push_size _ B.free)) fun b u e => Heap.get?_push_of_some _ (Heap.get?_push_of_some _ e)⟩
/-- the tuple at a, each item in a new pair with its place -/
def IteT (K : PySem.W.Frag) (a : Addr) : It :=
  ⟨fun i H => ∃ xs x, SqT K H a xs ∧ xs[i]? = some x, fun i H v H' => ∃ T x, v = .ref T ∧ H T = none ∧ H' = upd H T (.tup [.int (i : Nat), x]) ∧ ∀ xs, SqT K H a xs → xs[i]? = some x, fun i H => ∃ xs, SqT K H a xs ∧ xs.length ≤ i⟩
theorem turn_enumT {P : Program} {w : World} {K : PySem.W.Frag} {elts : List Expr} {kk : Nat} {tpos : Pos} (a e it : Addr) (hei : e ≠ it) (hea : e ≠ a) (hai : a ≠ it) :
    Turn P w K (.Tuple elts kk tpos) (IteT K a) [e, it] e (fun i h => (∃ old, IsEnum h e it ((i : Nat) : Int) old) ∧ h.IsTupleIter it a i) where
  mem := List.mem_cons_self
  obj := fun i h st b hb => by
    obtain ⟨⟨old, he⟩, o, ho, hc, hd⟩ := st
    rcases List.mem_cons.mp hb with rfl | hb
    · exact ⟨_, he, fun v z => nomatch z⟩
    · rw [List.mem_singleton.mp hb]; exact ⟨o, ho, fun v z => by rw [hd] at z; cases z⟩
  keep := fun i h h' st k => by
    obtain ⟨⟨old, he⟩, hi⟩ := st
    exact ⟨⟨old, k e (by simp) _ he⟩, hi.at fun o q => k it (by simp) o q⟩
  item := by
    intro X hP hw hK hc i pins s σ H E I hf st hg
    subst hP hw hK
    obtain ⟨⟨old, he⟩, hit⟩ := st
    obtain ⟨xs, x, hq, hx⟩ := hg
    obtain ⟨its, rv, p, hz⟩ := I.tuple hq
    obtain ⟨u, hu, ru⟩ := rv.get hx
    have hlt : i < its.toArray.size := by
      have := (List.getElem?_eq_some_iff.mp hu).1
      simpa using this
    have eL : e < s.heap.objs.size := Heap.lt_size he
    have iL : it < s.heap.objs.size := by obtain ⟨_, q, _⟩ := hit; exact Heap.lt_size q
    have DT := Draws.tuple (prog := X.prog) (w := X.w) (A := X.A.in1) (by rw [show X.A.in1.handled = X.A.handled from rfl]; exact I.ok.hd hc) it a hai its.toArray
    refine wpAny_pyNext_enum_itemD DT he (show s.heap.IsTupleIter it a i ∧ s.heap.IsTuple a its.toArray from ⟨hit, p⟩) hlt hei (by simp [hei, hea]) fun y h' tk hy ho st' hT hsz hk => ?_
    have ey : y = u := by
      have hu' : its.toArray[i]? = some u := by simpa using hu
      rw [hy] at hu'
      exact Option.some.inj hu'
    subst ey
    refine ⟨_, rfl, wpAny_letOwnedTupleGo_enum (s := { s with heap := h', toks := tk + 1 }) ho fun h2 he2 sb => ?_⟩
    have hT2 : h2.get? s.heap.objs.size = some { cls := .type "tuple", data := .seq #[.int i tk, y] } := (sb.2 _ (Nat.ne_of_gt eL)).trans hT
    have nw : ObjOk X.prog X.w (upd H s.heap.objs.size (.tup [.int (i : Nat), x])) h2 s.heap.objs.size (.tup [.int (i : Nat), x]) :=
      ⟨by show 2 ≤ sizeLine; decide, [.int i tk, y], .cons ⟨_, rfl⟩ (.cons ru .nil), ⟨_, hT2, rfl, _, rfl⟩⟩
    have I1 : Inv X pins σ (upd H s.heap.objs.size (.tup [.int (i : Nat), x])) { s with heap := h2, toks := tk + 1 } :=
      I.turnedNew (ch := [e, it]) (fun b ob hb q => (sb.2 b (fun z => hb (by simp [z]))).trans (hk b ob (fun z => hb (by simp [z])) (fun z => hb (by simp [z])) q)) hf (Nat.le_refl _) nw
    refine ⟨.ref s.heap.objs.size, _, I1, rfl, ⟨_, x, rfl, I.hok.fresh (Nat.le_refl _), rfl, fun ys hy2 => by rw [I.tuple_inj hy2 hq]; exact hx⟩, ⟨⟨y, ?_⟩, st'.1.at fun o q => (sb.2 it (Ne.symm hei)).trans q⟩, fun b hb => ?_⟩
    · have e1 : ((i + 1 : Nat) : Int) = (i : Int) + 1 := by omega
      rw [e1]
      exact he2
    · have hb' : b < s.heap.objs.size := by
        rcases List.mem_cons.mp hb with rfl | hb
        · exact eL
        · rw [List.mem_singleton.mp hb]; exact iL
      rw [upd_ne (Nat.ne_of_lt hb')]
      exact (hf b hb).1
  done := by
    intro X hP hw hK hc i pins s σ H E I hf st hg
    subst hP hw hK
    obtain ⟨⟨old, he⟩, hit⟩ := st
    obtain ⟨xs, hq, hx⟩ := hg
    obtain ⟨its, rv, p, hz⟩ := I.tuple hq
    obtain ⟨f0, f1, f2, f3, f4, f5⟩ := hf it (by simp)
    have hl := rv.length
    have hout : its.toArray[i]? = none := by simp; omega
    have DE : Draws X.prog X.w X.A.in1 it [it, a] i (fun _ _ => True) (fun j h => j = i ∧ h.IsTupleIter it a i ∧ h.IsTuple a its.toArray) :=
      { live := fun j h st => by obtain ⟨_, ⟨o, ho, _⟩, _⟩ := st; exact ⟨o, ho⟩
        frame := fun j h h' st k => ⟨st.1, st.2.1.at fun o q => k it (by simp) o q, st.2.2.at fun o q => k a (by simp) o q⟩
        item := fun j s' Q' E' hj st _ => absurd st.1 (Nat.ne_of_lt hj)
        done := fun s' Q' E' st hE => wpAny_nextOf_tuple_end (by rw [show X.A.in1.handled = X.A.handled from rfl]; exact I.ok.hd hc) st.2.1 st.2.2 hout hE }
    exact wpAny_pyNext_enum_endD DE he ⟨rfl, hit, p⟩ fun h' eb => ⟨rfl, I.turned (t' := s.toks) (fun b o hb q => eb b o hb q) f0 f1 f3 f4 f5⟩
  self := fun A i s Q E st h => by
    obtain ⟨⟨_, he⟩, _⟩ := st
    exact wpAny_pyIter_enum he h
def iEnumT (K : PySem.W.Frag) (ta : TA) : TI := fun σ H R => ta σ H fun vs H1 => ∃ a, vs = [.ref a] ∧ ((∃ xs, SqL K H1 a xs) ∧ R (Ite K a) H1 ∨ (∃ xs, SqT K H1 a xs) ∧ R (IteT K a) H1)
theorem pi_enumT {X : Cx} {e : Expr} {ta : TA} {p pos tpos : Pos} {elts : List Expr} {kk : Nat} (hg : Gl X "enumerate") (hm : X.mg "enumerate" = none) (ha : PA X [e] ta) (hs : starEach [e] X.env = [(false, eval e X.env)] := by rfl) :
    PI X (.Tuple elts kk tpos) (.Call (.Name "enumerate" p) [e] [] pos) (iEnumT X.K ta) := by
  refine ⟨fun pins s σ H R I h => ?_⟩
  refine Call_ (ld_blt I hg hm PyProof.Rows.boot_enumerate (PyProof.Rows.callWith_type1 (thn (ha.run pos pins s σ H _ I h) fun us s1 ⟨vs, H1, I1, r1, q1⟩ => ?_) hs rfl))
  obtain ⟨a, ex, q1⟩ := q1
  subst ex
  obtain ⟨v0, ev0, rv0⟩ := vals1 r1
  cases rv0
  subst ev0
  have fresh : ∀ b, b ∈ [s1.heap.objs.size + 1, s1.heap.objs.size] → FpOk X pins H1 b := fun b hb => by
    have hle : s1.heap.objs.size ≤ b := by
      rcases List.mem_cons.mp hb with z | z
      · rw [z]; exact Nat.le_add_right _ _
      · rw [List.mem_singleton.mp z]; exact Nat.le_refl _
    exact I1.fpOk hle (I1.hok.fresh hle)
  rcases q1 with ⟨⟨xs, hq⟩, q⟩ | ⟨⟨xs, hq⟩, q⟩
  · obtain ⟨its, rv, p', hz⟩ := I1.list hq
    refine enumT_call (begins_list a its.toArray) p'.isList fun h' he hit hk => wpAny_pyIter_enum he ?_
    exact ⟨s1.heap.objs.size + 1, [s1.heap.objs.size + 1, s1.heap.objs.size], _, _, H1, rfl, I1.kept (t' := s1.toks) hk, turn_enum a (s1.heap.objs.size + 1) s1.heap.objs.size, ⟨⟨.none, he⟩, ⟨_, hit, rfl, rfl⟩, Nat.succ_ne_self _⟩, fresh, q⟩
  · obtain ⟨its, rv, p', hz⟩ := I1.tuple hq
    have hT : s1.heap.IsTuple a its.toArray := p'
    refine enumT_call (begins_tuple a its.toArray) hT fun h' he hit hk => wpAny_pyIter_enum he ?_
    have hal : a < s1.heap.objs.size := by obtain ⟨o, ho, _⟩ := hT; exact Heap.lt_size ho
    exact ⟨s1.heap.objs.size + 1, [s1.heap.objs.size + 1, s1.heap.objs.size], _, _, H1, rfl, I1.kept (t' := s1.toks) hk, turn_enumT a (s1.heap.objs.size + 1) s1.heap.objs.size (Nat.succ_ne_self _) (fun z => Nat.lt_irrefl _ (Nat.lt_trans (Nat.lt_succ_self s1.heap.objs.size) (show s1.heap.objs.size.succ < s1.heap.objs.size by rw [show s1.heap.objs.size.succ = a from z]; exact hal))) (Nat.ne_of_lt hal), ⟨⟨.none, he⟩, ⟨_, hit, rfl, rfl⟩⟩, fresh, q⟩
/-! ### their readings -/
def enD (ds : List PyData) : List PyData := ds.zipIdx.map fun p => .tuple [.int (p.2 : Nat), p.1]
theorem enD_len (ds : List PyData) : (enD ds).length = ds.length := by unfold enD; rw [List.length_map, List.length_zipIdx]
theorem enD_get {ds : List PyData} {i : Nat} {d : PyData} (h : ds[i]? = some d) : (enD ds)[i]? = some (.tuple [.int (i : Nat), d]) := by
  unfold enD
  rw [List.getElem?_map, List.getElem?_zipIdx, h]
  simp
theorem yields_enumT {K : PySem.W.Frag} {Hs : Hp} {p : Addr} {xs : List V} {ds : List PyData} (hq : ∀ H, Same Hs H → SqT K H p xs) (t : DdAll K Hs xs ds) : Yields K (Dy K) (IteT K p) Hs (enD ds) where
  go := fun i H e hi => by
    rw [enD_len] at hi
    obtain ⟨v, h1, _⟩ := t.get (i := i) (d := ds[i]) (List.getElem?_eq_getElem hi)
    exact ⟨xs, v, hq H e, h1⟩
  stop := fun i H e hi => ⟨xs, hq H e, by rw [enD_len] at hi; rw [t.length]; exact hi⟩
  yld := fun i H x H' Hs2 hi e1 e2 h => by
    obtain ⟨T, y, rfl, hT, rfl, h2⟩ := h
    obtain ⟨d, h3, h4⟩ := t.getv (h2 xs (hq _ (e1.trans e2)))
    exact ⟨upd Hs2 T (.tup [.int (i : Nat), y]), Grow.alloc e2 hT, _, enD_get h3, T, _, _, rfl, rfl, upd_same, .cons (.int _) (.cons ((h4.mono e1).mono (same_new (e2.free hT))) .nil)⟩
theorem yields_enumL {K : PySem.W.Frag} {Hs : Hp} {p : Addr} {xs : List V} {ds : List PyData} (hq : ∀ H, Same Hs H → SqL K H p xs) (t : DdAll K Hs xs ds) : Yields K (Dy K) (Ite K p) Hs (enD ds) where
  go := fun i H e hi => by
    rw [enD_len] at hi
    obtain ⟨v, h1, _⟩ := t.get (i := i) (d := ds[i]) (List.getElem?_eq_getElem hi)
    exact ⟨xs, v, hq H e, h1⟩
  stop := fun i H e hi => ⟨xs, hq H e, by rw [enD_len] at hi; rw [t.length]; exact hi⟩
  yld := fun i H x H' Hs2 hi e1 e2 h => by
    obtain ⟨T, y, rfl, hT, rfl, h2⟩ := h
    obtain ⟨d, h3, h4⟩ := t.getv (h2 xs (hq _ (e1.trans e2)))
    exact ⟨upd Hs2 T (.tup [.int (i : Nat), y]), Grow.alloc e2 hT, _, enD_get h3, T, _, _, rfl, rfl, upd_same, .cons (.int _) (.cons ((h4.mono e1).mono (same_new (e2.free hT))) .nil)⟩
@[simp] def iEn (f : Fn) : Rho → Option (List PyData) := fun ρ => (f ρ).bind fun d => match d with
  | .list ds => some (enD ds)
  | .tuple ds => some (enD ds)
  | _ => none
section
variable {K : PySem.W.Frag} {X : Cx} {M : List Nat} {a b : Expr} {ta tb : TE} {fa fb : Fn} {pos p tpos : Pos} {elts : List Expr} {kk : Nat}
theorem id_enum (ha : ED K X M a ta fa) (hm : X.mg "enumerate" = none) (hg : Gl X "enumerate" := by rfl) (hs : starEach [a] X.env = [(false, eval a X.env)] := by rfl) (hK : X.K = K := by rfl) :
    ID K X M (Dy K) (.Tuple elts kk tpos) (.Call (.Name "enumerate" p) [a] [] pos) (iEnumT K (tCons ta tNil)) (iEn fa) := by
  subst hK
  refine ⟨pi_enumT hg hm (pa_cons ha.pe pa_nil hs) hs, fun {Hs0 H0 Hs H σ ρ ds R} r hf q => ?_⟩
  obtain ⟨d, h1, h2⟩ := bind_some hf
  refine ha.sm r h1 fun v Hs1 H1 g1 d1 => ?_
  cases d1 with
  | @lst p0 xs ds' hp t =>
    obtain rfl := Option.some.inj h2
    exact ⟨p0, rfl, .inl ⟨⟨xs, sqL_of (g1.sub _ _ hp)⟩, q _ Hs1 H1 g1 (yields_enumL (fun H e => sqL_of (e _ _ hp)) t)⟩⟩
  | @tup p0 ob xs ds' n hp t =>
    obtain rfl := Option.some.inj h2
    exact ⟨p0, rfl, .inr ⟨⟨xs, sqT_of (g1.sub _ _ hp)⟩, q _ Hs1 H1 g1 (yields_enumT (fun H e => sqT_of (e _ _ hp)) t)⟩⟩
  | _ => cases h2
/-- zip of two -/
def zpD (xs ys : List PyData) : List PyData := (xs.zip ys).map fun p => .tuple [p.1, p.2]
theorem zpD_len (xs ys : List PyData) : (zpD xs ys).length = min xs.length ys.length := by unfold zpD; rw [List.length_map, List.length_zip]
theorem zpD_get {xs ys : List PyData} {i : Nat} {x y : PyData} (h1 : xs[i]? = some x) (h2 : ys[i]? = some y) : (zpD xs ys)[i]? = some (.tuple [x, y]) := by
  unfold zpD
  have e : (xs.zip ys)[i]? = some (x, y) := List.getElem?_zip_eq_some.mpr ⟨h1, h2⟩
  rw [List.getElem?_map, e]
  rfl
theorem yields_zipT {Hs : Hp} {p1 p2 : Addr} {xs ys : List V} {ds es : List PyData} (hq : ∀ H, Same Hs H → SqT K H p1 xs) (hq2 : ∀ H, Same Hs H → SqT K H p2 ys) (t : DdAll K Hs xs ds) (t2 : DdAll K Hs ys es) : Yields K (Dy K) (RZ.ItzT K p1 p2) Hs (zpD ds es) where
  go := fun i H e hi => by
    rw [zpD_len] at hi
    obtain ⟨v, h1, _⟩ := t.get (i := i) (d := ds[i]) (List.getElem?_eq_getElem (by omega))
    obtain ⟨v2, h2, _⟩ := t2.get (i := i) (d := es[i]) (List.getElem?_eq_getElem (by omega))
    exact ⟨xs, ys, v, v2, hq H e, hq2 H e, h1, h2⟩
  stop := fun i H e hi => ⟨xs, ys, hq H e, hq2 H e, by rw [zpD_len] at hi; rw [t.length, t2.length]; omega⟩
  yld := fun i H x H' Hs2 hi e1 e2 h => by
    obtain ⟨T, y, z, rfl, hT, rfl, h2, h3⟩ := h
    obtain ⟨d, h4, h5⟩ := t.getv (h2 xs (hq _ (e1.trans e2)))
    obtain ⟨d2, h6, h7⟩ := t2.getv (h3 ys (hq2 _ (e1.trans e2)))
    have nw := same_new (o := .tup [y, z]) (e2.free hT)
    exact ⟨upd Hs2 T (.tup [y, z]), Grow.alloc e2 hT, _, zpD_get h4 h6, T, _, _, rfl, rfl, upd_same, .cons ((h5.mono e1).mono nw) (.cons ((h7.mono e1).mono nw) .nil)⟩
theorem yields_zipL {Hs : Hp} {p1 p2 : Addr} {xs ys : List V} {ds es : List PyData} (hq : ∀ H, Same Hs H → SqL K H p1 xs) (hq2 : ∀ H, Same Hs H → SqL K H p2 ys) (t : DdAll K Hs xs ds) (t2 : DdAll K Hs ys es) : Yields K (Dy K) (Itz K p1 p2) Hs (zpD ds es) where
  go := fun i H e hi => by
    rw [zpD_len] at hi
    obtain ⟨v, h1, _⟩ := t.get (i := i) (d := ds[i]) (List.getElem?_eq_getElem (by omega))
    obtain ⟨v2, h2, _⟩ := t2.get (i := i) (d := es[i]) (List.getElem?_eq_getElem (by omega))
    exact ⟨xs, ys, v, v2, hq H e, hq2 H e, h1, h2⟩
  stop := fun i H e hi => ⟨xs, ys, hq H e, hq2 H e, by rw [zpD_len] at hi; rw [t.length, t2.length]; omega⟩
  yld := fun i H x H' Hs2 hi e1 e2 h => by
    obtain ⟨T, y, z, rfl, hT, rfl, h2, h3⟩ := h
    obtain ⟨d, h4, h5⟩ := t.getv (h2 xs (hq _ (e1.trans e2)))
    obtain ⟨d2, h6, h7⟩ := t2.getv (h3 ys (hq2 _ (e1.trans e2)))
    have nw := same_new (o := .tup [y, z]) (e2.free hT)
    exact ⟨upd Hs2 T (.tup [y, z]), Grow.alloc e2 hT, _, zpD_get h4 h6, T, _, _, rfl, rfl, upd_same, .cons ((h5.mono e1).mono nw) (.cons ((h7.mono e1).mono nw) .nil)⟩
@[simp] def iZp (f g : Fn) : Rho → Option (List PyData) := fun ρ => (f ρ).bind fun d => (g ρ).bind fun d2 => match d, d2 with
  | .list ds, .list es => some (zpD ds es)
  | .tuple ds, .tuple es => some (zpD ds es)
  | _, _ => none
theorem id_zip (ha : ED K X M a ta fa) (hb : ED K X M b tb fb) (hm : X.mg "zip" = none) (hg : Gl X "zip" := by rfl) (hs : starEach [a, b] X.env = (false, eval a X.env) :: starEach [b] X.env := by rfl) (hs2 : starEach [b] X.env = (false, eval b X.env) :: starEach [] X.env := by rfl)
    (hpl : (backTo pos (starEach [b] X.env)).any (·.1) = false := by rfl) (hK : X.K = K := by rfl) :
    ID K X M (Dy K) (.Tuple elts kk tpos) (.Call (.Name "zip" p) [a, b] [] pos) (RZ.iZipA K (tCons ta (tCons tb tNil))) (iZp fa fb) := by
  subst hK
  refine ⟨RZ.pi_zipA hg hm (pa_cons ha.pe (pa_cons hb.pe pa_nil hs2) hs) hs hpl, fun {Hs0 H0 Hs H σ ρ ds R} r hf q => ?_⟩
  obtain ⟨d, h1, h2⟩ := bind_some hf
  obtain ⟨d2, h3, h4⟩ := bind_some h2
  refine ha.sm r h1 fun v Hs1 H1 g1 d1 => ?_
  refine hb.sm (r.grow g1) h3 fun v2 Hs2 H2 g2 e1 => ?_
  cases d1 with
  | @lst p0 xs ds' hp t =>
    cases e1 with
    | @lst p1 ys es' hp2 t2 =>
      obtain rfl := Option.some.inj h4
      have hp' := g2.exs _ _ hp
      exact ⟨p0, p1, xs, ys, rfl, .inl ⟨sqL_of (g2.sub _ _ hp'), sqL_of (g2.sub _ _ hp2), q _ Hs2 H2 (g1.trans g2) (yields_zipL (fun H e => sqL_of (e _ _ hp')) (fun H e => sqL_of (e _ _ hp2)) (t.mono g2.exs) t2)⟩⟩
    | _ => cases h4
  | @tup p0 ob xs ds' n hp t =>
    cases e1 with
    | @tup p1 ob2 ys es' n2 hp2 t2 =>
      obtain rfl := Option.some.inj h4
      have hp' := g2.exs _ _ hp
      exact ⟨p0, p1, xs, ys, rfl, .inr ⟨sqT_of (g2.sub _ _ hp'), sqT_of (g2.sub _ _ hp2), q _ Hs2 H2 (g1.trans g2) (yields_zipT (fun H e => sqT_of (e _ _ hp')) (fun H e => sqT_of (e _ _ hp2)) (t.mono g2.exs) t2)⟩⟩
    | _ => cases h4
  | _ => cases h4
end
end DL

namespace DL
open PySem PySem.Spec PyProof.Rows L2
/-! ### what == says of data -/
def shK (k : Nat) (d : PyData) : Prop := d.canLay0 = true ∧ d.depth ≤ k
theorem shK_int {k : Nat} (hk : 1 ≤ k) (i : Int) : shK k (.int i) := ⟨by simp [PyData.canLay0], by simp [PyData.depth] <;> omega⟩
theorem shK_bool {k : Nat} (hk : 1 ≤ k) (i : Bool) : shK k (.bool i) := ⟨by simp [PyData.canLay0], by simp [PyData.depth] <;> omega⟩
theorem shK_none {k : Nat} (hk : 1 ≤ k) : shK k .none := ⟨by simp [PyData.canLay0], by simp [PyData.depth] <;> omega⟩
theorem shK_all {k : Nat} : ∀ {xs : List PyData}, (∀ x ∈ xs, shK k x) → PyData.canLayAll0 xs = true ∧ PyData.depthAll xs ≤ k
  | [], _ => ⟨by simp [PyData.canLayAll0], by simp [PyData.depthAll]⟩
  | x :: xs, h => by
    obtain ⟨h1, h2⟩ := h x List.mem_cons_self
    obtain ⟨h3, h4⟩ := shK_all (xs := xs) fun y hy => h y (List.mem_cons_of_mem _ hy)
    exact ⟨by simp [PyData.canLayAll0, h1, h3], by simp only [PyData.depthAll]; omega⟩
theorem shK_tup {k : Nat} {xs : List PyData} (h : ∀ x ∈ xs, shK k x) : shK (k + 1) (.tuple xs) := by
  obtain ⟨h1, h2⟩ := shK_all h
  exact ⟨by simp [PyData.canLay0, h1], by simp only [PyData.depth]; omega⟩
theorem shK_lst {k : Nat} {xs : List PyData} (h : ∀ x ∈ xs, shK k x) : shK (k + 1) (.list xs) := by
  obtain ⟨h1, h2⟩ := shK_all h
  exact ⟨by simp [PyData.canLay0, h1], by simp only [PyData.depth]; omega⟩
theorem shaped_of {k : Nat} {d : PyData} (h : shK k d) (hk : k ≤ 64 := by decide) : SeqAt.shaped d = true := by
  unfold SeqAt.shaped
  rw [h.1, Bool.true_and, decide_eq_true_eq]
  exact Nat.le_trans h.2 hk
/-- data told by things that == tells apart -/
def Emb {α : Type} [DecidableEq α] (w : α → PyData) : Prop := ∀ a b, PyData.eqv (w a) (w b) = decide (a = b)
theorem emb_int : Emb PyData.int := fun i j => by
  show (i == j) = _
  rw [Bool.beq_eq_decide_eq]
theorem emb_bool : Emb PyData.bool := fun i j => by
  show (i == j) = _
  rw [Bool.beq_eq_decide_eq]
theorem emb_all {α : Type} [DecidableEq α] {w : α → PyData} (h : Emb w) : ∀ l m : List α, PyData.eqvAll (l.map w) (m.map w) = decide (l = m)
  | [], [] => by simp [PyData.eqvAll]
  | [], b :: m => by simp [PyData.eqvAll]
  | a :: l, [] => by simp [PyData.eqvAll]
  | a :: l, b :: m => by
    simp only [List.map_cons, PyData.eqvAll]
    rw [h a b, emb_all h l m]
    by_cases e : a = b <;> by_cases e2 : l = m <;> simp [e, e2]
theorem emb_tup {α : Type} [DecidableEq α] {w : α → PyData} (h : Emb w) : Emb fun l : List α => PyData.tuple (l.map w) := fun l m => by
  rw [PyData.eqv]
  exact emb_all h l m
theorem emb_lst {α : Type} [DecidableEq α] {w : α → PyData} (h : Emb w) : Emb fun l : List α => PyData.list (l.map w) := fun l m => by
  rw [PyData.eqv]
  exact emb_all h l m
theorem emb_pair {α β : Type} [DecidableEq α] [DecidableEq β] {w : α → PyData} {v : β → PyData} (h : Emb w) (h2 : Emb v) : Emb fun p : α × β => PyData.tuple [w p.1, v p.2] := fun p q => by
  obtain ⟨a, b⟩ := p
  obtain ⟨c, d⟩ := q
  simp only [PyData.eqv, PyData.eqvAll]
  rw [h a c, h2 b d]
  by_cases e : a = c <;> by_cases e2 : b = d <;> simp [e, e2]
/-- a map, told -/
abbrev Mp := Int × List Int
def mpD (m : Mp) : PyData := mapD m.1 m.2
theorem emb_map : Emb mpD := emb_pair emb_int (emb_tup emb_int)
theorem shK_ints {r : List Int} : shK 2 (.tuple (r.map PyData.int)) := shK_tup fun x hx => by
  obtain ⟨i, _, rfl⟩ := List.mem_map.mp hx
  exact shK_int (by decide) i
theorem shK_intsL {r : List Int} : shK 2 (.list (r.map PyData.int)) := shK_lst fun x hx => by
  obtain ⟨i, _, rfl⟩ := List.mem_map.mp hx
  exact shK_int (by decide) i
theorem shK.up {k m : Nat} {d : PyData} (h : shK k d) (hm : k ≤ m) : shK m d := ⟨h.1, Nat.le_trans h.2 hm⟩
theorem shK_map (m : Mp) : shK 3 (mpD m) := shK_tup fun x hx => by
  rcases List.mem_cons.mp hx with rfl | hx
  · exact shK_int (by decide) _
  · rcases List.mem_cons.mp hx with rfl | hx
    · exact shK_ints
    · cases hx
theorem gEq_of {α : Type} [DecidableEq α] {w : α → PyData} (h : Emb w) {k : Nat} (hs : ∀ a, shK k (w a)) (hk : k ≤ 64) (neg : Bool) (a b : α) : gEq neg (w a) (w b) = some (.bool (xor neg (decide (a = b)))) := by
  unfold gEq
  rw [if_pos ⟨shaped_of (hs a) hk, shaped_of (hs b) hk⟩, h a b]
@[simp] theorem gEq_map (neg : Bool) (a b : Mp) : gEq neg (mpD a) (mpD b) = some (.bool (xor neg (decide (a = b)))) := gEq_of emb_map shK_map (by decide) neg a b
@[simp] theorem gEq_int (neg : Bool) (a b : Int) : gEq neg (.int a) (.int b) = some (.bool (xor neg (decide (a = b)))) := gEq_of (w := PyData.int) (k := 1) emb_int (shK_int (by decide)) (by decide) neg a b
@[simp] theorem gEq_intsT (neg : Bool) (a b : List Int) : gEq neg (.tuple (a.map .int)) (.tuple (b.map .int)) = some (.bool (xor neg (decide (a = b)))) := gEq_of (w := fun l : List Int => PyData.tuple (l.map .int)) (k := 2) (emb_tup emb_int) (fun _ => shK_ints) (by decide) neg a b
@[simp] theorem gEq_intsL (neg : Bool) (a b : List Int) : gEq neg (.list (a.map .int)) (.list (b.map .int)) = some (.bool (xor neg (decide (a = b)))) := gEq_of (w := fun l : List Int => PyData.list (l.map .int)) (k := 2) (emb_lst emb_int) (fun _ => shK_intsL) (by decide) neg a b
theorem flat_ints (r : List Int) : (r.map PyData.int).all flatD = true := by
  rw [List.all_eq_true]
  intro x hx
  obtain ⟨i, _, rfl⟩ := List.mem_map.mp hx
  rfl
theorem any_ints (r : List Int) (k : Int) : ((r.map PyData.int).any fun z => PyData.eqv z (.int k)) = decide (k ∈ r) := by
  induction r with
  | nil => rfl
  | cons a r ih =>
    rw [List.map_cons, List.any_cons, ih, emb_int a k]
    by_cases e : a = k
    · subst e; simp
    · have e' : k ≠ a := fun z => e z.symm
      simp [e, e', List.mem_cons]
@[simp] theorem gIn_ints (neg : Bool) (r : List Int) (k : Int) : gIn neg (.int k) (.tuple (r.map .int)) = some (.bool (xor neg (decide (k ∈ r)))) := by
  unfold gIn
  simp only
  rw [if_pos ⟨rfl, flat_ints r⟩, any_ints]
@[simp] theorem gIn_intsL (neg : Bool) (r : List Int) (k : Int) : gIn neg (.int k) (.list (r.map .int)) = some (.bool (xor neg (decide (k ∈ r)))) := by
  unfold gIn
  simp only
  rw [if_pos (.inl ⟨rfl, flat_ints r⟩), any_ints]
theorem gLenSet_ints {r : List Int} (h : r.length ≤ 1000) : gLenSet (.tuple (r.map .int)) = some (.int (sset r).length) := by
  unfold gLenSet
  simp only [intsD_map, Option.bind_some]
  rw [if_pos h]
/-- subscripts -/
theorem gIx_tup {xs : List PyData} {i : Nat} {d : PyData} (h : xs[i]? = some d) : gIx (.tuple xs) (.int i) = some d := by
  unfold gIx
  simp only
  exact atI_nat h
@[simp] theorem at0 {a b : PyData} : atI [a, b] 0 = some a := rfl
@[simp] theorem at1 {a b : PyData} : atI [a, b] 1 = some b := rfl
structure Wf (m : Mp) : Prop where
  len : m.2.length ≤ 1000
  rng : 0 ≤ m.1 ∧ m.1 ≤ 1000
  lt : ∀ x ∈ m.2, 0 ≤ x ∧ x < m.1
/-- one, and then other, by hand -/
def thn (a b : Mp) : Mp := (b.1, a.2.map fun x => b.2.getD x.toNat 0)
theorem thn_len (a b : Mp) : (thn a b).2.length = a.2.length := List.length_map _
theorem getD_mem {l : List Int} {k : Nat} (h : k < l.length) : l.getD k 0 ∈ l := by
  rw [List.getD_eq_getElem?_getD, List.getElem?_eq_getElem h]
  exact List.getElem_mem h
theorem Wf.thn {a b : Mp} (ha : Wf a) (hb : Wf b) (h : a.1 = b.2.length) : Wf (thn a b) where
  len := by rw [thn_len]; exact ha.len
  rng := hb.rng
  lt := fun x hx => by
    obtain ⟨i, hi, rfl⟩ := List.mem_map.mp hx
    have := ha.lt i hi
    exact hb.lt _ (getD_mem (by omega))
theorem atI_ints {r : List Int} {x : Int} (h : 0 ≤ x ∧ x < r.length) : atI (r.map PyData.int) x = some (.int (r.getD x.toNat 0)) := by
  have e : x = ((x.toNat : Nat) : Int) := by omega
  have hl : x.toNat < r.length := by omega
  have g : (r.map PyData.int)[x.toNat]? = some (.int (r.getD x.toNat 0)) := by
    rw [List.getElem?_map, List.getElem?_eq_getElem hl, List.getD_eq_getElem?_getD, List.getElem?_eq_getElem hl]
    rfl
  have := atI_nat g
  rwa [← e] at this
@[simp] theorem gIx_m0 (a : Mp) : gIx (mpD a) (.int 0) = some (.int a.1) := rfl
@[simp] theorem gIx_m1 (a : Mp) : gIx (mpD a) (.int 1) = some (.tuple (a.2.map .int)) := rfl
@[simp] theorem gIs_map (neg : Bool) (a : Mp) : gIs neg (mpD a) .none = some (.bool (xor neg false)) := rfl
@[simp] theorem gIs_mapD (neg : Bool) (t : Int) (r : List Int) : gIs neg (mapD t r) .none = some (.bool (xor neg false)) := rfl
/-- a number for each: 0, 1, .. -/
def idr (n : Nat) : List Int := (List.range n).map fun (i : Nat) => (i : Int)
theorem idr_len (n : Nat) : (idr n).length = n := by unfold idr; rw [List.length_map, List.length_range]
theorem idr_get {n i : Nat} (h : i < n) : (idr n)[i]? = some (i : Int) := by
  unfold idr
  rw [List.getElem?_map, List.getElem?_range h]
  rfl
theorem idr_mem {n : Nat} {x : Int} (h : x ∈ idr n) : 0 ≤ x ∧ x < n := by
  unfold idr at h
  obtain ⟨i, hi, rfl⟩ := List.mem_map.mp h
  have := List.mem_range.mp hi
  omega
theorem Wf.same {n : Int} (h : 0 ≤ n ∧ n ≤ 1000) : Wf (n, idr n.toNat) where
  len := by rw [idr_len]; omega
  rng := h
  lt := fun x hx => by have := idr_mem hx; show 0 ≤ x ∧ x < n; omega
theorem thn_same_r {a : Mp} (ha : Wf a) : thn a (a.1, idr a.1.toNat) = a := by
  unfold thn
  refine Prod.ext rfl ?_
  show a.2.map _ = a.2
  refine (List.map_congr_left fun x hx => ?_).trans (List.map_id _)
  have := ha.lt x hx
  rw [List.getD_eq_getElem?_getD, idr_get (by omega)]
  show ((x.toNat : Nat) : Int) = x
  omega
theorem thn_same_l (a : Mp) : thn ((a.2.length : Nat), idr a.2.length) a = a := by
  unfold thn
  refine Prod.ext rfl ?_
  show (idr a.2.length).map _ = a.2
  refine List.ext_getElem? fun i => ?_
  by_cases h : i < a.2.length
  · rw [List.getElem?_map, idr_get h]
    show some (a.2.getD ((i : Int)).toNat 0) = _
    rw [List.getD_eq_getElem?_getD, show ((i : Int)).toNat = i by omega, List.getElem?_eq_getElem h]
    rfl
  · rw [List.getElem?_eq_none (by rw [List.length_map, idr_len]; omega), List.getElem?_eq_none (by omega)]
theorem thn_assoc {a b c : Mp} (ha : Wf a) (h : a.1 = b.2.length) : thn (thn a b) c = thn a (thn b c) := by
  unfold thn
  refine Prod.ext rfl ?_
  show (a.2.map _).map _ = a.2.map _
  rw [List.map_map]
  refine List.map_congr_left fun x hx => ?_
  have := ha.lt x hx
  have hl : x.toNat < b.2.length := by omega
  show c.2.getD (b.2.getD x.toNat 0).toNat 0 = (b.2.map fun y => c.2.getD y.toNat 0).getD x.toNat 0
  rw [List.getD_eq_getElem?_getD (l := b.2.map _), List.getElem?_map, List.getElem?_eq_getElem hl, List.getD_eq_getElem?_getD (l := b.2), List.getElem?_eq_getElem hl]
  rfl
theorem rgD_idr (n : Nat) : rgD 0 n = (idr n).map PyData.int := by
  rw [rgD_zero]
  unfold idr
  rw [List.map_map]
  rfl
theorem enD_ints (r : List Int) : enD (r.map PyData.int) = (List.range r.length).map fun (i : Nat) => PyData.tuple [.int i, .int (r.getD i 0)] := by
  refine List.ext_getElem? fun i => ?_
  by_cases h : i < r.length
  · have e : (r.map PyData.int)[i]? = some (.int (r.getD i 0)) := by
      rw [List.getElem?_map, List.getElem?_eq_getElem h, List.getD_eq_getElem?_getD, List.getElem?_eq_getElem h]
      rfl
    rw [enD_get e, List.getElem?_map, List.getElem?_range h]
    rfl
  · rw [List.getElem?_eq_none (by rw [enD_len, List.length_map]; omega), List.getElem?_eq_none (by rw [List.length_map, List.length_range]; omega)]
/-- [.. for i, x in enumerate(row) if ..] -/
theorem lc_enF {vs : List Nat} {j1 j2 : Nat} {fs f : Fn} {c : Rho → Option Bool} {ρ : Rho} {r : List Int} {g : Nat → PyData} {p : Nat → Bool} {d : PyData} (h1 : fs ρ = some d) (hd : d = .tuple (r.map .int) ∨ d = .list (r.map .int)) (hl : r.length ≤ 1000000)
    (h : ∀ i, i < r.length → c (((wipeR ρ vs).set j1 (some (.int i))).set j2 (some (.int (r.getD i 0)))) = some (p i) ∧ (p i = true → f (((wipeR ρ vs).set j1 (some (.int i))).set j2 (some (.int (r.getD i 0)))) = some (g i))) :
    fLc vs (iEn fs) (hSeq 2 (hCons (hName j1) (hCons (hName j2) hNil))) c f ρ = some (((List.range r.length).filter p).map g) := by
  have e : iEn fs ρ = some ((List.range r.length).map fun (i : Nat) => PyData.tuple [.int i, .int (r.getD i 0)]) := by
    unfold iEn
    rw [h1, Option.bind_some]
    rcases hd with rfl | rfl <;> simp only [enD_ints]
  unfold fLc
  rw [e, Option.bind_some, if_pos (by rw [List.length_map, List.length_range]; exact hl)]
  refine compF_listF fun i hi => ⟨_, rfl, ?_, ?_⟩
  · exact (h i (List.mem_range.mp hi)).1
  · exact (h i (List.mem_range.mp hi)).2
theorem insS_len {k : Int} : ∀ {l : List Int}, l.Pairwise (· < ·) → (insS k l).length = if k ∈ l then l.length else l.length + 1
  | [], _ => by simp [insS]
  | a :: r, h => by
    obtain ⟨h1, h2⟩ := List.pairwise_cons.mp h
    unfold insS
    by_cases c1 : k < a
    · have : ¬ k ∈ a :: r := fun hm => by
        rcases List.mem_cons.mp hm with e | e
        · omega
        · have := h1 k e; omega
      rw [if_pos c1, if_neg this]
      rfl
    · rw [if_neg c1]
      by_cases c2 : k = a
      · rw [if_pos c2, if_pos (by rw [c2]; exact List.mem_cons_self)]
      · rw [if_neg c2, List.length_cons, insS_len h2, List.length_cons]
        by_cases c3 : k ∈ r
        · rw [if_pos c3, if_pos (List.mem_cons_of_mem _ c3)]
        · rw [if_neg c3, if_neg (fun hm => by rcases List.mem_cons.mp hm with e | e; exact c2 e; exact c3 e)]
theorem sset_nodup : ∀ {r : List Int}, (sset r).length = r.length ↔ r.Nodup
  | [] => by simp [sset]
  | a :: r => by
    have e : sset (a :: r) = insS a (sset r) := rfl
    rw [e, insS_len (sset_lt r), List.nodup_cons, List.length_cons, ← sset_nodup (r := r)]
    have hle := sset_le r
    by_cases c : a ∈ r
    · rw [if_pos (sset_mem.mpr c)]
      constructor
      · intro z; omega
      · rintro ⟨z, _⟩; exact absurd c z
    · rw [if_neg (fun z => c (sset_mem.mp z))]
      constructor
      · intro z; exact ⟨c, by omega⟩
      · rintro ⟨_, z⟩; omega
theorem met_nodup {r : List Int} : ((List.range r.length).filter fun i => decide (r.getD i 0 ∈ r.take i)).length = 0 ↔ r.Nodup := by
  rw [List.length_eq_zero_iff, List.filter_eq_nil_iff]
  constructor
  · intro h
    refine List.pairwise_iff_getElem.mpr fun i j hi hj hij => ?_
    have := h j (List.mem_range.mpr hj)
    rw [decide_eq_true_eq] at this
    intro e
    refine this ?_
    rw [List.getD_eq_getElem?_getD, List.getElem?_eq_getElem hj]
    show r[j] ∈ _
    rw [← e]
    refine List.mem_iff_getElem?.mpr ⟨i, ?_⟩
    rw [List.getElem?_take, if_pos hij, List.getElem?_eq_getElem hi]
  · intro h i hi
    have hi := List.mem_range.mp hi
    rw [decide_eq_true_eq, List.getD_eq_getElem?_getD, List.getElem?_eq_getElem hi]
    intro hm
    obtain ⟨j, hj⟩ := List.mem_iff_getElem?.mp hm
    rw [List.getElem?_take] at hj
    by_cases hji : j < i
    · rw [if_pos hji] at hj
      obtain ⟨hjl, ej⟩ := List.getElem?_eq_some_iff.mp hj
      exact List.pairwise_iff_getElem.mp h j i hjl hi hji ej
    · rw [if_neg hji] at hj
      cases hj
theorem idr_lt (n : Nat) : (idr n).Pairwise (· < ·) := by
  unfold idr
  rw [List.pairwise_map]
  exact List.pairwise_lt_range.imp fun h => by omega
theorem mem_idr {n : Nat} {x : Int} : x ∈ idr n ↔ 0 ≤ x ∧ x < n := by
  refine ⟨idr_mem, fun h => ?_⟩
  refine List.mem_iff_getElem?.mpr ⟨x.toNat, ?_⟩
  rw [idr_get (by omega)]
  congr 1
  omega
theorem left_all {n : Nat} {r : List Int} (hr : ∀ x ∈ r, 0 ≤ x ∧ x < n) : ((List.range n).filter fun (i : Nat) => decide ((i : Int) ∉ r)).length = 0 ↔ (sset r).length = n := by
  rw [List.length_eq_zero_iff, List.filter_eq_nil_iff]
  have hle : (sset r).length ≤ (idr n).length := nodup_len (rise_nodup (sset_lt r)) (rise_nodup (idr_lt n)) fun x hx => mem_idr.mpr (hr x (sset_mem.mp hx))
  rw [idr_len] at hle
  constructor
  · intro h
    refine Nat.le_antisymm hle ?_
    have := nodup_len (rise_nodup (idr_lt n)) (rise_nodup (sset_lt r)) fun x hx => by
      have := mem_idr.mp hx
      have h2 := h x.toNat (List.mem_range.mpr (by omega))
      rw [decide_eq_true_eq, Classical.not_not] at h2
      rw [show ((x.toNat : Nat) : Int) = x by omega] at h2
      exact sset_mem.mpr h2
    rwa [idr_len] at this
  · intro h i hi
    have hi := List.mem_range.mp hi
    rw [decide_eq_true_eq, Classical.not_not]
    refine Classical.byContradiction fun hn => ?_
    have := nodup_len (l := (i : Int) :: sset r) (m := idr n) (List.nodup_cons.mpr ⟨fun z => hn (sset_mem.mp z), rise_nodup (sset_lt r)⟩) (rise_nodup (idr_lt n)) fun x hx => by
      rcases List.mem_cons.mp hx with rfl | hx
      · exact mem_idr.mpr (by omega)
      · exact mem_idr.mpr (hr x (sset_mem.mp hx))
    rw [List.length_cons, idr_len] at this
    omega
def Parts (a : Mp) : Prop := (sset a.2).length = a.2.length
def Comes (a : Mp) : Prop := ((sset a.2).length : Int) = a.1
instance (a : Mp) : Decidable (Parts a) := inferInstanceAs (Decidable (_ = _))
instance (a : Mp) : Decidable (Comes a) := inferInstanceAs (Decidable (_ = _))
theorem parts_nodup {a : Mp} : Parts a ↔ a.2.Nodup := sset_nodup
theorem getD_inj {l : List Int} (h : l.Nodup) {i j : Nat} (hi : i < l.length) (hj : j < l.length) (e : l.getD i 0 = l.getD j 0) : i = j := by
  rw [List.getD_eq_getElem?_getD, List.getD_eq_getElem?_getD, List.getElem?_eq_getElem hi, List.getElem?_eq_getElem hj] at e
  have e : l[i] = l[j] := e
  rcases Nat.lt_trichotomy i j with z | z | z
  · exact absurd e (List.pairwise_iff_getElem.mp h i j hi hj z)
  · exact z
  · exact absurd e.symm (List.pairwise_iff_getElem.mp h j i hj hi z)
theorem nodup_map {f : Int → Int} : ∀ {l : List Int}, l.Nodup → (∀ x ∈ l, ∀ y ∈ l, f x = f y → x = y) → (l.map f).Nodup
  | [], _, _ => List.Pairwise.nil
  | a :: l, h, hf => by
    obtain ⟨h1, h2⟩ := List.nodup_cons.mp h
    rw [List.map_cons, List.nodup_cons]
    refine ⟨fun hm => ?_, nodup_map h2 fun x hx y hy => hf x (List.mem_cons_of_mem _ hx) y (List.mem_cons_of_mem _ hy)⟩
    obtain ⟨y, hy, e⟩ := List.mem_map.mp hm
    have := hf a List.mem_cons_self y (List.mem_cons_of_mem _ hy) e.symm
    exact h1 (by rw [this]; exact hy)
theorem thn_parts {a b : Mp} (ha : Wf a) (h : a.1 = b.2.length) (pa : Parts a) (pb : Parts b) : Parts (thn a b) := by
  rw [parts_nodup] at *
  refine nodup_map pa fun x hx y hy e => ?_
  have h1 := ha.lt x hx
  have h2 := ha.lt y hy
  have := getD_inj pb (by omega) (by omega) e
  omega
/-- all below to are come to -/
theorem comes_mem {a : Mp} (ha : Wf a) (ca : Comes a) {x : Int} (h : 0 ≤ x ∧ x < a.1) : x ∈ a.2 := by
  have hr := ha.rng
  have := (left_all (n := a.1.toNat) (r := a.2) fun y hy => by have := ha.lt y hy; omega).mpr (by unfold Comes at ca; omega)
  rw [List.length_eq_zero_iff, List.filter_eq_nil_iff] at this
  have := this x.toNat (List.mem_range.mpr (by omega))
  rw [decide_eq_true_eq, Classical.not_not, show ((x.toNat : Nat) : Int) = x by omega] at this
  exact this
theorem comes_of {a : Mp} (ha : Wf a) (h : ∀ x, 0 ≤ x ∧ x < a.1 → x ∈ a.2) : Comes a := by
  have hr := ha.rng
  have := (left_all (n := a.1.toNat) (r := a.2) fun y hy => by have := ha.lt y hy; omega).mp (by
    rw [List.length_eq_zero_iff, List.filter_eq_nil_iff]
    intro i hi
    have := List.mem_range.mp hi
    rw [decide_eq_true_eq, Classical.not_not]
    exact h _ (by omega))
  unfold Comes
  omega
theorem thn_comes {a b : Mp} (ha : Wf a) (hb : Wf b) (h : a.1 = b.2.length) (ca : Comes a) (cb : Comes b) : Comes (thn a b) := by
  refine comes_of (ha.thn hb h) fun x hx => ?_
  have hm := comes_mem hb cb (x := x) hx
  obtain ⟨i, hi⟩ := List.mem_iff_getElem?.mp hm
  obtain ⟨hil, ei⟩ := List.getElem?_eq_some_iff.mp hi
  have hm2 := comes_mem ha ca (x := (i : Int)) (by omega)
  refine List.mem_map.mpr ⟨(i : Int), hm2, ?_⟩
  rw [show ((i : Int)).toNat = i by omega, List.getD_eq_getElem?_getD, hi]
  rfl
end DL

namespace DL
open PySem PySem.Spec PyProof.Rows L2
/-! ### comprehensions of ints -/
theorem map_int {α : Type} (l : List α) (g : α → Int) : l.map (fun a => PyData.int (g a)) = (l.map g).map PyData.int := by
  rw [List.map_map]
  rfl
variable {vs : List Nat} {j j1 j2 : Nat} {fn fs fs2 f : Fn} {c : Rho → Option Bool} {ρ : Rho} {n : Int}
theorem lc_rgI {g : Nat → Int} (h1 : fn ρ = some (.int n)) (hn : -1000000 ≤ n ∧ n ≤ 1000000) (h : ∀ i : Nat, (i : Int) < n → f ((wipeR ρ vs).set j (some (.int i))) = some (.int (g i))) :
    fLc vs (iR1 fn) (hName j) cYes f ρ = some (((List.range n.toNat).map g).map .int) := by
  rw [lc_rg (g := fun i => .int (g i)) h1 hn h, map_int]
theorem lc_rgIF {g : Nat → Int} {p : Nat → Bool} (h1 : fn ρ = some (.int n)) (hn : -1000000 ≤ n ∧ n ≤ 1000000) (h : ∀ i : Nat, (i : Int) < n → c ((wipeR ρ vs).set j (some (.int i))) = some (p i) ∧ (p i = true → f ((wipeR ρ vs).set j (some (.int i))) = some (.int (g i)))) :
    fLc vs (iR1 fn) (hName j) c f ρ = some ((((List.range n.toNat).filter p).map g).map .int) := by
  rw [lc_rgF (g := fun i => .int (g i)) h1 hn h, map_int]
theorem lc_sqI {l : List Int} {g : Int → Int} {d : PyData} (h1 : fs ρ = some d) (hd : seqD d = some (l.map .int)) (hl : l.length ≤ 1000000) (h : ∀ x ∈ l, f ((wipeR ρ vs).set j (some (.int x))) = some (.int (g x))) :
    fLc vs (iSq fs) (hName j) cYes f ρ = some ((l.map g).map .int) := by
  rw [lc_sq (w := PyData.int) (g := fun i => .int (g i)) h1 hd hl h, map_int]
theorem lc_sqIF {l : List Int} {g : Int → Int} {p : Int → Bool} {d : PyData} (h1 : fs ρ = some d) (hd : seqD d = some (l.map .int)) (hl : l.length ≤ 1000000) (h : ∀ x ∈ l, c ((wipeR ρ vs).set j (some (.int x))) = some (p x) ∧ (p x = true → f ((wipeR ρ vs).set j (some (.int x))) = some (.int (g x)))) :
    fLc vs (iSq fs) (hName j) c f ρ = some (((l.filter p).map g).map .int) := by
  rw [lc_sqF (w := PyData.int) (g := fun i => .int (g i)) h1 hd hl h, map_int]
theorem lc_enIF {r : List Int} {g : Nat → Int} {p : Nat → Bool} {d : PyData} (h1 : fs ρ = some d) (hd : d = .tuple (r.map .int) ∨ d = .list (r.map .int)) (hl : r.length ≤ 1000000)
    (h : ∀ i, i < r.length → c (((wipeR ρ vs).set j1 (some (.int i))).set j2 (some (.int (r.getD i 0)))) = some (p i) ∧ (p i = true → f (((wipeR ρ vs).set j1 (some (.int i))).set j2 (some (.int (r.getD i 0)))) = some (.int (g i)))) :
    fLc vs (iEn fs) (hSeq 2 (hCons (hName j1) (hCons (hName j2) hNil))) c f ρ = some ((((List.range r.length).filter p).map g).map .int) := by
  rw [lc_enF (g := fun i => .int (g i)) h1 hd hl h, map_int]
theorem zpD_ints (l m : List Int) : zpD (l.map PyData.int) (m.map PyData.int) = (l.zip m).map fun p => PyData.tuple [.int p.1, .int p.2] := by
  unfold zpD
  rw [List.zip_map, List.map_map]
  rfl
theorem lc_zpI {l m : List Int} {g : Int → Int → Int} (h1 : fs ρ = some (.tuple (l.map .int))) (h2 : fs2 ρ = some (.tuple (m.map .int))) (hl : l.length ≤ 1000000)
    (h : ∀ x y, (x, y) ∈ l.zip m → f (((wipeR ρ vs).set j1 (some (.int x))).set j2 (some (.int y))) = some (.int (g x y))) :
    fLc vs (iZp fs fs2) (hSeq 2 (hCons (hName j1) (hCons (hName j2) hNil))) cYes f ρ = some (((l.zip m).map fun p => g p.1 p.2).map .int) := by
  have e : iZp fs fs2 ρ = some ((l.zip m).map fun p => PyData.tuple [.int p.1, .int p.2]) := by
    unfold iZp
    rw [h1, h2]
    simp only [Option.bind_some, zpD_ints]
  unfold fLc
  rw [e, Option.bind_some, if_pos (by rw [List.length_map, List.length_zip]; omega), ← map_int]
  exact compF_list (α := Int × Int) (w := fun p => PyData.tuple [.int p.1, .int p.2]) (g := fun p => .int (g p.1 p.2)) fun p hp => ⟨_, rfl, h p.1 p.2 hp⟩
/-! ### maps told by their parts -/
theorem mp_fold (x : Int) (l : List Int) : PyData.tuple [.int x, .tuple (l.map .int)] = mpD (x, l) := rfl
@[simp] theorem gEq_mapL (neg : Bool) (a : Mp) (x : Int) (l : List Int) : gEq neg (mpD a) (.tuple [.int x, .tuple (l.map .int)]) = some (.bool (xor neg (decide (a = (x, l))))) := gEq_map neg a (x, l)
@[simp] theorem gEq_mapA (neg : Bool) (a : Mp) (x : Int) (l m : List Int) : gEq neg (mpD a) (.tuple [.int x, .tuple (l.map .int ++ m.map .int)]) = some (.bool (xor neg (decide (a = (x, l ++ m))))) := by
  rw [← List.map_append]
  exact gEq_map neg a (x, l ++ m)
theorem mulOk {x y : Int} (hx : -1000000 ≤ x ∧ x ≤ 1000000) (hy : -1000000 ≤ y ∧ y ≤ 1000000) : MulOk x y := .inl (.inl ⟨by omega, by omega⟩)
theorem zip_range (l m : List Int) (h : l.length = m.length) (g : Int → Int → Int) : (l.zip m).map (fun p => g p.1 p.2) = (List.range l.length).map fun i => g (l.getD i 0) (m.getD i 0) := by
  refine List.ext_getElem? fun i => ?_
  by_cases hi : i < l.length
  · have e : (l.zip m)[i]? = some (l.getD i 0, m.getD i 0) := List.getElem?_zip_eq_some.mpr ⟨by show l[i]? = some (l.getD i 0); rw [List.getD_eq_getElem?_getD, List.getElem?_eq_getElem hi]; rfl, by show m[i]? = some (m.getD i 0); rw [List.getD_eq_getElem?_getD, List.getElem?_eq_getElem (show i < m.length by omega)]; rfl⟩
    rw [List.getElem?_map, e, List.getElem?_map, List.getElem?_range hi]
    rfl
  · rw [List.getElem?_eq_none (by rw [List.length_map, List.length_zip]; omega), List.getElem?_eq_none (by rw [List.length_map, List.length_range]; omega)]
theorem map_range_getD (l : List Int) : (List.range l.length).map (fun i => l.getD i 0) = l := by
  refine List.ext_getElem? fun i => ?_
  by_cases hi : i < l.length
  · rw [List.getElem?_map, List.getElem?_range hi]
    show some (l.getD i 0) = _
    rw [List.getD_eq_getElem?_getD, List.getElem?_eq_getElem hi]
    rfl
  · rw [List.getElem?_eq_none (by rw [List.length_map, List.length_range]; omega), List.getElem?_eq_none (by omega)]
theorem getD_range {g : Nat → Int} {n i : Nat} (h : i < n) : ((List.range n).map g).getD i 0 = g i := by
  rw [List.getD_eq_getElem?_getD, List.getElem?_map, List.getElem?_range h]
  rfl
/-- a good step: goes on, P holds -/
def Good (P : Rho → Prop) (g : Gn) (ρ : Rho) : Prop := ∃ ρ', g ρ = some (.nx ρ') ∧ P ρ'
theorem Good.step {P : Rho → Prop} {g1 g2 : Gn} {ρ ρ1 : Rho} (h1 : g1 ρ = some (.nx ρ1)) (h2 : Good P g2 ρ1) : Good P (gBlk g1 g2) ρ := by
  obtain ⟨ρ', h, hp⟩ := h2
  exact ⟨ρ', by rw [blk_nx h1]; exact h, hp⟩
theorem Good.last {P : Rho → Prop} {g : Gn} {ρ ρ1 : Rho} (h1 : g ρ = some (.nx ρ1)) (h2 : P ρ1) : Good P g ρ := ⟨ρ1, h1, h2⟩
/-- a loop of good turns -/
theorem Good.loop {P : Rho → Prop} {tg : PyData → Rho → Option Rho} {b : Gn} {h : Rho → Option (List PyData)} {ds : List PyData} {ρ : Rho} (he : h ρ = some ds) (hb : ∀ d ∈ ds, ∀ ρ, P ρ → ∃ ρ1, tg d ρ = some ρ1 ∧ Good P b ρ1) (h0 : P ρ) : Good P (gFor h tg b) ρ := by
  unfold Good gFor
  rw [he, Option.bind_some]
  refine forF_nx P (fun d hd ρ hp => ?_) h0
  obtain ⟨ρ1, h1, ρ', h2, h3⟩ := hb d hd ρ hp
  exact ⟨ρ1, ρ', h1, h2, h3⟩
theorem getD_app_l {l m : List Int} {i : Nat} (h : i < l.length) : (l ++ m).getD i 0 = l.getD i 0 := by
  rw [List.getD_eq_getElem?_getD, List.getD_eq_getElem?_getD, List.getElem?_append_left h]
theorem getD_app_r {l m : List Int} {i : Nat} : (l ++ m).getD (l.length + i) 0 = m.getD i 0 := by
  rw [List.getD_eq_getElem?_getD, List.getD_eq_getElem?_getD, List.getElem?_append_right (by omega), Nat.add_sub_cancel_left]
theorem row_wf {to : Int} {n : Nat} {g : Nat → Int} (ht : 0 ≤ to ∧ to ≤ 1000) (hn : n ≤ 1000) (h : ∀ i, i < n → 0 ≤ g i ∧ g i < to) : Wf (to, (List.range n).map g) where
  len := by show ((List.range n).map g).length ≤ 1000; rw [List.length_map, List.length_range]; exact hn
  rng := ht
  lt := fun x hx => by
    obtain ⟨i, hi, rfl⟩ := List.mem_map.mp hx
    exact h i (List.mem_range.mp hi)
theorem thn_row {to : Int} {n : Nat} {g : Nat → Int} {b : Mp} : thn (to, (List.range n).map g) b = (b.1, (List.range n).map fun i => b.2.getD (g i).toNat 0) := by
  unfold thn
  rw [List.map_map]
  rfl
theorem row_eq {n : Nat} {l : List Int} {g : Nat → Int} (hn : n = l.length) (h : ∀ i, i < n → g i = l.getD i 0) : (List.range n).map g = l := by
  subst hn
  exact (List.map_congr_left fun i hi => h i (List.mem_range.mp hi)).trans (map_range_getD l)
theorem getD_lt {a : Mp} (ha : Wf a) {i : Nat} (h : i < a.2.length) : 0 ≤ a.2.getD i 0 ∧ a.2.getD i 0 < a.1 := ha.lt _ (getD_mem h)
end DL

namespace DL
open PySem PySem.Spec PyProof.Rows L2
section
variable {K : PySem.W.Frag} {X : Cx} {M : List Nat} {xc : Nat → Addr} {W : WX} {a b c d e o : Expr} {ta tb tc td te to : TE} {fa fb fc fd f fo : Fn} {pos pos' apos cpos : Pos}
/-! ### a op b op c op d, as a test -/
def tChain3 (r r' r'' : R2) (ta tb tc td : TE) : TT := fun σ H Q => ta σ H fun x H1 => tb σ H1 fun y H2 => r x y H2 fun z H3 => ∃ k, z = .bl k ∧
  (if k = true then tc σ H3 fun y' H4 => r' y y' H4 fun z' H5 => ∃ k, z' = .bl k ∧ (if k = true then td σ H5 fun y2 H6 => r'' y' y2 H6 fun z2 H7 => ∃ k, z2 = .bl k ∧ Q k H7 else Q false H5) else Q false H3)
theorem pt_chain3 {op op' op'' : CmpOp} {r r' r'' : R2} (ho : OpR X (compareOp op) r) (ho' : OpR X (compareOp op') r') (ho'' : OpR X (compareOp op'') r'') (ha : PE X a ta) (hb : PE X b tb) (hc : PE X c tc) (hd : PE X d td)
    (hm : lastMarks [op, op', op''] [b, c, d] = false := by with_unfolding_all rfl) : PT X (.Compare a [op, op', op''] [b, c, d] pos) (tChain3 r r' r'' ta tb tc td) := by
  refine ⟨fun pins s σ H Q I h => ?_⟩
  refine isTrue_chain (L2.thn (ha.run pins s σ H _ I h) fun v s1 ⟨x, H1, I1, r1, q1⟩ => test_link (L2.thn (hb.run pins s1 σ H1 _ I1 q1) fun u s2 ⟨y, H2, I2, r2, q2⟩ =>
    L2.thn (ho pins s2 σ H2 x y v u _ I2 r1 r2 q2) fun d1 s3 ⟨z, H3, I3, r3, k, ez, q3⟩ => ?_)) hm
  subst ez
  cases r3
  refine wpAny_truthy_bool ?_
  cases k with
  | false => exact ite_ff ⟨H3, I3, q3⟩
  | true =>
    refine ite_tt (test_link (L2.thn (hc.run pins s3 σ H3 _ I3 q3) fun u2 s4 ⟨y2, H4, I4, r4, q4⟩ => L2.thn (ho' pins s4 σ H4 y y2 u u2 _ I4 r2 r4 q4) fun d2 s5 ⟨z2, H5, I5, r5, k2, ez2, q5⟩ => ?_))
    subst ez2
    cases r5
    refine wpAny_truthy_bool ?_
    cases k2 with
    | false => exact ite_ff ⟨H5, I5, q5⟩
    | true =>
      refine ite_tt (test_last (L2.thn (hd.run pins s5 σ H5 _ I5 q5) fun u3 s6 ⟨y3, H6, I6, r6, q6⟩ => L2.thn (ho'' pins s6 σ H6 y2 y3 u2 u3 _ I6 r4 r6 q6) fun d3 s7 ⟨z3, H7, I7, r7, k3, ez3, q7⟩ => ?_))
      subst ez3
      cases r7
      exact wpAny_truthy_bool ⟨H7, I7, q7⟩
@[simp] def bChain3 (g g' g'' : PyData → PyData → Option PyData) (fa fb fc fd : Fn) : Rho → Option Bool := fun ρ => (fa ρ).bind fun x => (fb ρ).bind fun y => (g x y).bind fun z => match z with
  | .bool true => (fc ρ).bind fun y2 => (g' y y2).bind fun z2 => match z2 with
    | .bool true => (fd ρ).bind fun y3 => (g'' y2 y3).bind fun z3 => match z3 with
      | .bool k => some k
      | _ => none
    | .bool false => some false
    | _ => none
  | .bool false => some false
  | _ => none
theorem td_chain3 {op op' op'' : CmpOp} {r r' r'' : R2} {g g' g'' : PyData → PyData → Option PyData} (ho : OD K X (compareOp op) r g) (ho' : OD K X (compareOp op') r' g') (ho'' : OD K X (compareOp op'') r'' g'') (ha : ED K X M a ta fa) (hb : ED K X M b tb fb) (hc : ED K X M c tc fc) (hd : ED K X M d td fd)
    (hm : lastMarks [op, op', op''] [b, c, d] = false := by with_unfolding_all rfl) : TD K X M (.Compare a [op, op', op''] [b, c, d] pos) (tChain3 r r' r'' ta tb tc td) (bChain3 g g' g'' fa fb fc fd) :=
  ⟨pt_chain3 ho.op ho'.op ho''.op ha.pe hb.pe hc.pe hd.pe hm, fun {Hs0 H0 Hs H σ ρ k Q} R hf q => by
    obtain ⟨x, h1, hf⟩ := bind_some hf
    obtain ⟨y, h2, hf⟩ := bind_some hf
    obtain ⟨z, h3, hf⟩ := bind_some hf
    refine ha.sm R h1 fun v Hs1 H1 g1 d1 => ?_
    refine hb.sm (R.grow g1) h2 fun u Hs2 H2 g2 d2 => ?_
    refine ho.sm g2.sub (d1.mono g2.exs) d2 h3 fun w Hs3 H3 g3 d3 => ?_
    cases z with
    | bool k1 =>
      cases d3
      refine ⟨k1, rfl, ?_⟩
      cases k1 with
      | false =>
        rw [if_neg Bool.false_ne_true]
        obtain rfl := Option.some.inj hf
        exact q H3 (g1.ex.trans (g2.ex.trans g3.ex))
      | true =>
        rw [if_pos rfl]
        obtain ⟨y2, h4, hf⟩ := bind_some hf
        obtain ⟨z2, h5, hf⟩ := bind_some hf
        refine hc.sm (((R.grow g1).grow g2).grow g3) h4 fun u2 Hs4 H4 g4 d4 => ?_
        refine ho'.sm g4.sub ((d2.mono g3.exs).mono g4.exs) d4 h5 fun w2 Hs5 H5 g5 d5 => ?_
        cases z2 with
        | bool k2 =>
          cases d5
          refine ⟨k2, rfl, ?_⟩
          cases k2 with
          | false =>
            rw [if_neg Bool.false_ne_true]
            obtain rfl := Option.some.inj hf
            exact q H5 (g1.ex.trans (g2.ex.trans (g3.ex.trans (g4.ex.trans g5.ex))))
          | true =>
            rw [if_pos rfl]
            obtain ⟨y3, h6, hf⟩ := bind_some hf
            obtain ⟨z3, h7, hf⟩ := bind_some hf
            refine hd.sm (((((R.grow g1).grow g2).grow g3).grow g4).grow g5) h6 fun u3 Hs6 H6 g6 d6 => ?_
            refine ho''.sm g6.sub ((d4.mono g5.exs).mono g6.exs) d6 h7 fun w3 Hs7 H7 g7 d7 => ?_
            cases z3 with
            | bool k3 =>
              cases d7
              obtain rfl := Option.some.inj hf
              exact ⟨_, rfl, q H7 (g1.ex.trans (g2.ex.trans (g3.ex.trans (g4.ex.trans (g5.ex.trans (g6.ex.trans g7.ex))))))⟩
            | _ => cases hf
        | _ => cases hf
    | _ => cases hf⟩

/-! ### s.index(x), s a list or a tuple of plain things -/
def rIdxT (K : PySem.W.Frag) : V → List V → Hp → VK → Prop := fun x xs H Q => ∃ (p : Addr) (ys : List V) (y : V) (j : Nat) (z : V), x = V.ref p ∧ xs = [y] ∧ SqT K H p ys ∧ flatV y = true ∧ ys.all flatV = true ∧ ys[j]? = some z ∧ eqV z y = true ∧
  (∀ (m : Nat) (z' : V), m < j → ys[m]? = some z' → eqV z' y = false) ∧ Q (.int (j : Nat)) H
theorem mt_idxT : MtR X "tuple.index" (rIdxT X.K) := by
  intro pins s σ H x xs v us Q I rx rs h
  obtain ⟨p, ys, y, j, z, rfl, rfl, hq, fy, fys, hz, hzj, hno, q⟩ := h
  cases rx
  obtain ⟨uy, rfl, ry⟩ := vals1 rs
  obtain ⟨its, rv, pl, hlen⟩ := I.tuple hq
  obtain ⟨⟨cls, dd, dt, sl⟩, ho, hc, n, hd⟩ := pl
  simp only at hc hd
  subst hc hd
  obtain ⟨u, hu, ru⟩ := rv.get hz
  obtain ⟨hjl, hje⟩ := List.getElem?_eq_some_iff.mp hu
  have hvl := rv.length
  have hj : j < its.toArray.size := by simpa using hjl
  refine call_meets PySem.F.slot_tuple_index ⟨_, ho, rfl⟩ PySem.F.entry_tuple_index (PySem.F.args_tuple_index_2 _ _) (TI.tuple_indexAt p its.toArray n dd sl uy (eqU y) j hj ?_ ?_)
    ⟨ho, fun w hw => mem_eqAt ry fy rv fys w (by simpa using hw), ⟨.int (j : Nat), H, I.tok _, ⟨_, rfl⟩, q⟩⟩
  · have e1 : its.toArray[j] = u := by simpa using hje
    rw [e1, eqU_of ru (flat_at fys hz)]
    exact hzj
  · intro m hm hmj
    have hml : m < its.length := by simpa using hm
    have hmy : m < ys.length := by omega
    have hy' : ys[m]? = some ys[m] := List.getElem?_eq_getElem hmy
    obtain ⟨u2, hu2, ru2⟩ := rv.get hy'
    obtain ⟨_, hme⟩ := List.getElem?_eq_some_iff.mp hu2
    have e1 : its.toArray[m] = u2 := by simpa using hme
    rw [e1, eqU_of ru2 (flat_at fys hy')]
    exact hno m _ hmj hy'
def tIdx (K : PySem.W.Frag) (to : TE) (t : TA) : TE := fun σ H Q => to σ H fun x H1 => ∃ p, x = .ref p ∧ (((∃ ys, SqL K H1 p ys) ∧ t σ H1 fun vs H2 => rIndex K x vs H2 Q) ∨ ((∃ ob ys, ob.dict = none ∧ H1 p = some (.frz ob (.tup ys))) ∧ t σ H1 fun vs H2 => rIdxT K x vs H2 Q))
theorem pe_idx {es : List Expr} {t : TA} (ho : PE X o to) (ha : PA X (e :: es) t)
    (hbase : attributeBase o "index" X.env (eval o X.env) = eval o X.env := by rfl)
    (hfew : ((backTo cpos (starEach (e :: es) X.env)).all (fun x => !x.1) && (backToKw cpos (keywordEach [] X.env)).all (fun x => x.1.isSome)
      && decide ((e :: es).length + ([] : List Keyword).length + (if ([] : List Keyword).isEmpty then 0 else 1) < 30)) = true := by rfl)
    (hline : (apos.endLine == cpos.line) = true := by rfl) (hs : starEach (e :: es) X.env = (false, eval e X.env) :: starEach es X.env := by rfl) (hplain : (backTo cpos (starEach es X.env)).any (·.1) = false := by rfl) :
    PE X (.Call (.Attribute o "index" apos) (e :: es) [] cpos) (tIdx X.K to t) := by
  refine ⟨fun pins s σ H Q I h => ?_⟩
  refine wpAny_Call_method_late hbase hfew hline rfl (L2.thn (ho.run pins s σ H _ I h) fun v s1 ⟨x, H1, I1, r1, p, ex, q1⟩ => ?_)
  subst ex
  rcases q1 with ⟨⟨ys, hq⟩, q1⟩ | ⟨⟨ob, ys, hn, hq⟩, q1⟩
  · obtain ⟨h1, h2⟩ := tyV_is (T := "list") I1 r1 (.inl ⟨rfl, ys, hq⟩)
    refine ⟨"list", "list.index", PySem.F.plainAttrs_list, PySem.F.slot_list_index, PySem.F.type_list_index, h1, h2, ?_⟩
    have hA := ha.run cpos pins s1 σ H1 _ I1 q1
    rw [hs] at hA ⊢
    refine Calls.callWith_builtin (by show (false || (backTo cpos (starEach es X.env)).any (·.1)) = false; rw [hplain] <;> rfl) (Calls.evalArgs_plain ?_)
    exact L2.thn hA fun us s2 ⟨vs, H2, I2, r2, q2⟩ => mt_index pins s2 σ H2 (.ref p) vs v us Q I2 r1 r2 q2
  · cases r1
    obtain ⟨_, _, _, _, o', h1, h2, _⟩ := (show ObjOk X.prog X.w H1 s1.heap p (.frz ob (.tup ys)) from I1.hok p _ hq)
    have hob : s1.heap.get? p = some ob := by
      have := I1.hok p _ hq
      exact this.1
    refine ⟨"tuple", "tuple.index", PySem.F.plainAttrs_tuple, PySem.F.slot_tuple_index, PySem.F.type_tuple_index, ⟨o', h1, h2⟩, fun a e => by cases e; exact ⟨ob, hob, hn⟩, ?_⟩
    have hA := ha.run cpos pins s1 σ H1 _ I1 q1
    rw [hs] at hA ⊢
    refine Calls.callWith_builtin (by show (false || (backTo cpos (starEach es X.env)).any (·.1)) = false; rw [hplain] <;> rfl) (Calls.evalArgs_plain ?_)
    exact L2.thn hA fun us s2 ⟨vs, H2, I2, r2, q2⟩ => mt_idxT pins s2 σ H2 (.ref p) vs (.ref p) us Q I2 rfl r2 q2
def idxF (ds : List PyData) (d : PyData) : Option PyData := if flatD d = true ∧ ds.all flatD = true then (ds.findIdx? fun z => PyData.eqv z d).map fun j => .int (j : Nat) else none
def gIdx : PyData → PyData → Option PyData
  | .list ds, d => idxF ds d
  | .tuple ds, d => idxF ds d
  | _, _ => none
theorem idxF_some {ds : List PyData} {d x : PyData} (h : idxF ds d = some x) : flatD d = true ∧ ds.all flatD = true ∧ ∃ (j : Nat) (z : PyData), x = .int (j : Nat) ∧ ds[j]? = some z ∧ PyData.eqv z d = true ∧ ∀ (m : Nat) (z' : PyData), m < j → ds[m]? = some z' → PyData.eqv z' d = false := by
  unfold idxF at h
  obtain ⟨⟨c1, c2⟩, h⟩ := ite_get h
  refine ⟨c1, c2, ?_⟩
  cases hf : ds.findIdx? (fun z => PyData.eqv z d) with
  | none => rw [hf] at h; cases h
  | some j =>
    rw [hf] at h
    cases h
    obtain ⟨hl, h1, h2⟩ := List.findIdx?_eq_some_iff_getElem.mp hf
    refine ⟨j, ds[j], rfl, List.getElem?_eq_getElem hl, h1, fun m z' hm hz => ?_⟩
    obtain ⟨hml, ez⟩ := List.getElem?_eq_some_iff.mp hz
    have := h2 m hm
    rw [← ez]
    exact Bool.eq_false_iff.mpr (by simpa using this)
theorem ed_index (ho : ED K X M o to fo) (ha : ED K X M a ta fa)
    (hs1 : starEach [a] X.env = (false, eval a X.env) :: starEach [] X.env := by rfl)
    (hbase : attributeBase o "index" X.env (eval o X.env) = eval o X.env := by rfl)
    (hfew : ((backTo cpos (starEach [a] X.env)).all (fun x => !x.1) && (backToKw cpos (keywordEach [] X.env)).all (fun x => x.1.isSome)
      && decide ([a].length + ([] : List Keyword).length + (if ([] : List Keyword).isEmpty then 0 else 1) < 30)) = true := by rfl)
    (hline : (apos.endLine == cpos.line) = true := by rfl) (hplain : (backTo cpos (starEach [] X.env)).any (·.1) = false := by rfl) (hK : X.K = K := by rfl) :
    ED K X M (.Call (.Attribute o "index" apos) [a] [] cpos) (tIdx K to (tCons ta tNil)) (f2 gIdx fo fa) := by
  subst hK
  refine ⟨pe_idx ho.pe (pa_cons ha.pe pa_nil hs1) hbase hfew hline hs1 hplain, fun {Hs0 H0 Hs H σ ρ d Q} R hf q => ?_⟩
  obtain ⟨x, h1, hf⟩ := bind_some hf
  obtain ⟨y, h2, hf⟩ := bind_some hf
  refine ho.sm R h1 fun v Hs1 H1 g1 d1 => ?_
  cases d1 with
  | @lst p xs ds hp t =>
    obtain ⟨c1, c2, j, z, rfl, hj, hz, hm⟩ := idxF_some hf
    refine ⟨p, rfl, .inl ⟨⟨xs, sqL_of (g1.sub _ _ hp)⟩, ha.sm (R.grow g1) h2 fun u Hs2 H2 g2 d2 => ?_⟩⟩
    have t2 := t.mono g2.exs
    obtain ⟨zv, hzv, dz⟩ := t2.get hj
    refine ⟨p, xs, u, j, zv, rfl, rfl, sqL_of (g2.sub _ _ (g2.exs _ _ hp)), flat_dv d2 c1, flats_dv t2 c2, hzv, ?_, fun m z' hmj hz' => ?_, q _ Hs2 H2 (g1.trans g2) (.int _)⟩
    · rw [eqV_dv dz d2 (List.all_eq_true.mp c2 z (List.mem_of_getElem? hj)) c1]; exact hz
    · obtain ⟨dm, h3, h4⟩ := t2.getv hz'
      rw [eqV_dv h4 d2 (List.all_eq_true.mp c2 dm (List.mem_of_getElem? h3)) c1]
      exact hm m dm hmj h3
  | @tup p ob xs ds hn hp t =>
    obtain ⟨c1, c2, j, z, rfl, hj, hz, hm⟩ := idxF_some hf
    refine ⟨p, rfl, .inr ⟨⟨ob, xs, hn, g1.sub _ _ hp⟩, ha.sm (R.grow g1) h2 fun u Hs2 H2 g2 d2 => ?_⟩⟩
    have t2 := t.mono g2.exs
    obtain ⟨zv, hzv, dz⟩ := t2.get hj
    refine ⟨p, xs, u, j, zv, rfl, rfl, sqT_of (g2.sub _ _ (g2.exs _ _ hp)), flat_dv d2 c1, flats_dv t2 c2, hzv, ?_, fun m z' hmj hz' => ?_, q _ Hs2 H2 (g1.trans g2) (.int _)⟩
    · rw [eqV_dv dz d2 (List.all_eq_true.mp c2 z (List.mem_of_getElem? hj)) c1]; exact hz
    · obtain ⟨dm, h3, h4⟩ := t2.getv hz'
      rw [eqV_dv h4 d2 (List.all_eq_true.mp c2 dm (List.mem_of_getElem? h3)) c1]
      exact hm m dm hmj h3
  | _ => cases hf

/-! ### own lists: extend, an item of one, and the rest that only reads -/
@[simp] def gExt (i : Nat) (f : Rho → Option (List PyData)) : Gn := fun ρ => (lstAt i ρ).bind fun ds => (f ρ).bind fun es => if ds.length + es.length ≤ 1000000 then some (.nx (ρ.set i (some (.list (ds ++ es))))) else none
theorem sd_extend (i : Nat) {x : Str} {f : Rho → Option (List PyData)} (h : FD K X M e te f) (hN : X.N[i]? = some x := by rfl) (hv : Vis X.env.scope x := by first | exact Or.inl rfl | exact Or.inr (Or.inl rfl) | exact Or.inr (Or.inr rfl)) (hM : M.contains i = true := by rfl)
    (hbase : attributeBase (.Name x pos') "extend" X.env (eval (.Name x pos') X.env) = eval (.Name x pos') X.env := by rfl)
    (hfew : ((backTo pos (starEach [e] X.env)).all (fun x => !x.1) && (backToKw pos (keywordEach [] X.env)).all (fun x => x.1.isSome)
      && decide ([e].length + ([] : List Keyword).length + (if ([] : List Keyword).isEmpty then 0 else 1) < 30)) = true := by rfl)
    (hline : (apos.endLine == pos.line) = true := by rfl) (hst : starEach [e] X.env = (false, eval e X.env) :: starEach [] X.env := by rfl) {pos2 : Pos} (hs : swapsWith (.Call (.Attribute (.Name x pos') "extend" apos) [e] [] pos) none pos2.line X.env = pure false := by rfl) (hd : (x == ("__debug__" : Str)) = false := by decide) (hcd : (x == ("__classdict__" : Str)) = false := by decide) :
    SD K xc X M W (.Expr (.Call (.Attribute (.Name x pos') "extend" apos) [e] [] pos) pos2) (tDrop (tBM X.K "list" rExtend (tVar i) (tCons te tNil))) (gExt i f) :=
  ⟨ps_expr (pe_bm PySem.F.plainAttrs_list PySem.F.slot_list_extend PySem.F.type_list_extend mt_extend (pe_var hN hv hd hcd) (pa_cons h.pe pa_nil hst) hbase hfew hline hst rfl) hs, fun {Hs0 H0 Hs H σ ρ r D} R hf o => by
    obtain ⟨ds, h1, h2⟩ := bind_some hf
    obtain ⟨es, h3, h4⟩ := bind_some h2
    obtain ⟨hl, rfl⟩ := ite_some h4
    have hρ := lstAt_some h1
    obtain ⟨p, xs, e1, e2, e3, e4, e5⟩ := R.ownAt hρ hM
    refine ⟨.ref p, e1, .inl ⟨rfl, _, sqL_of e2⟩, h.sm R h3 fun q zs Hs1 H1 g1 hq hsq hH d1 => ?_⟩
    refine ⟨p, q, xs, zs, rfl, rfl, g1.ex _ _ e2, hH, szM (by rw [e5.length, d1.length]; exact hl), ?_⟩
    exact o Hs1 _ σ g1.exs ((R.grow g1).upd hM e1 ⟨_, hρ⟩ (g1.new p e3 (by rw [e2]; simp)) e4 ((e5.mono g1.exs).append d1))⟩
/-- an item of an own list -/
@[simp] def fOwnIx (i : Nat) (fb : Fn) : Fn := fun ρ => (lstAt i ρ).bind fun ds => (fb ρ).bind fun k => match k with
  | .int k => atI ds k
  | _ => none
@[simp] def gRets (g : Gn) : Gn := fun ρ => (g ρ).bind fun r => match r with
  | .ret d => some (.ret d)
  | _ => none
theorem ss_rets {rest : List Stmt} {t : TS} {g : Gn} (h : SS K xc X [] W rest t g) : SS K xc X M W rest t (gRets g) :=
  ⟨h.ps, fun {Hs0 H0 Hs H σ ρ r D} R hf o => by
    obtain ⟨r1, h1, h2⟩ := bind_some hf
    cases r1 with
    | ret d =>
      obtain rfl := Option.some.inj h2
      obtain ⟨Hp', e1, R1, _⟩ := R.thaw
      exact h.sm R1 h1 o
    | _ => cases h2⟩
end
end DL

namespace DL
open PySem PySem.Spec PyProof.Rows L2
/-! ### the first place of a number -/
def ixI : List Int → Int → Nat
  | [], _ => 0
  | a :: l, x => if a = x then 0 else ixI l x + 1
theorem findIdx_ints (x : Int) : ∀ l : List Int, x ∈ l → (l.map PyData.int).findIdx? (fun z => PyData.eqv z (.int x)) = some (ixI l x)
  | [], h => by cases h
  | a :: l, h => by
    rw [List.map_cons, List.findIdx?_cons, emb_int a x]
    unfold ixI
    by_cases e : a = x
    · rw [if_pos e]; simp [e]
    · have h' : x ∈ l := by
        rcases List.mem_cons.mp h with z | z
        · exact absurd z.symm e
        · exact z
      rw [if_neg e, findIdx_ints x l h']
      simp [e]
theorem ixI_get {x : Int} : ∀ {l : List Int}, x ∈ l → l[ixI l x]? = some x
  | [], h => by cases h
  | a :: l, h => by
    unfold ixI
    by_cases e : a = x
    · rw [if_pos e]; simp [e]
    · have h' : x ∈ l := by
        rcases List.mem_cons.mp h with z | z
        · exact absurd z.symm e
        · exact z
      rw [if_neg e, List.getElem?_cons_succ]
      exact ixI_get h'
theorem ixI_lt {x : Int} {l : List Int} (h : x ∈ l) : ixI l x < l.length := (List.getElem?_eq_some_iff.mp (ixI_get h)).1
theorem ixI_getD {x : Int} {l : List Int} (h : x ∈ l) : l.getD (ixI l x) 0 = x := by
  rw [List.getD_eq_getElem?_getD, ixI_get h]
  rfl
theorem ixI_of {l : List Int} (h : l.Nodup) {i : Nat} (hi : i < l.length) : ixI l (l.getD i 0) = i :=
  getD_inj h (ixI_lt (getD_mem hi)) hi (ixI_getD (getD_mem hi))
theorem gIdx_list {l : List Int} {x : Int} (h : x ∈ l) : gIdx (.list (l.map .int)) (.int x) = some (.int (ixI l x)) := by
  show idxF _ _ = _
  unfold idxF
  rw [if_pos ⟨rfl, flat_ints l⟩, findIdx_ints x l h]
  rfl
theorem gIdx_tup {l : List Int} {x : Int} (h : x ∈ l) : gIdx (.tuple (l.map .int)) (.int x) = some (.int (ixI l x)) := by
  show idxF _ _ = _
  unfold idxF
  rw [if_pos ⟨rfl, flat_ints l⟩, findIdx_ints x l h]
  rfl
/-- the numbers below to that are met, in order -/
theorem met_sset {a : Mp} (h : Wf a) : ((List.range a.1.toNat).filter (fun (i : Nat) => decide ((i : Int) ∈ a.2))).map (fun (i : Nat) => (i : Int)) = sset a.2 := by
  refine rise_eq ?_ (sset_lt a.2) fun x => ?_
  · rw [List.pairwise_map]
    exact (List.pairwise_lt_range.filter _).imp fun h => by omega
  · rw [sset_mem, List.mem_map]
    constructor
    · rintro ⟨i, hi, rfl⟩
      exact of_decide_eq_true (List.mem_filter.mp hi).2
    · intro hx
      have := h.lt x hx
      have hr := h.rng
      refine ⟨x.toNat, List.mem_filter.mpr ⟨List.mem_range.mpr (by omega), ?_⟩, by omega⟩
      rw [decide_eq_true_eq, show ((x.toNat : Nat) : Int) = x by omega]
      exact hx
theorem sset_le_to {a : Mp} (h : Wf a) : ((sset a.2).length : Int) ≤ a.1 := by
  have hr := h.rng
  have := nodup_len (rise_nodup (sset_lt a.2)) (rise_nodup (idr_lt a.1.toNat)) fun x hx => mem_idr.mpr (by have := h.lt x (sset_mem.mp hx); omega)
  rw [idr_len] at this
  omega
end DL

namespace DL
open PySem PySem.Spec PyProof.Rows L2
/-- a loop that goes on or returns -/
theorem forF_ix {tg : PyData → Rho → Option Rho} {b : Gn} (P : Nat → Rho → Prop) (R : PyData → Prop) : ∀ (ds : List PyData) (n : Nat) (ρ : Rho), (∀ i d, ds[i]? = some d → ∀ ρ, P (n + i) ρ → ∃ ρ1, tg d ρ = some ρ1 ∧ ((∃ ρ', b ρ1 = some (.nx ρ') ∧ P (n + i + 1) ρ') ∨ ∃ r, b ρ1 = some (.ret r) ∧ R r)) → P n ρ →
    (∃ ρ', forF tg b ds ρ = some (.nx ρ') ∧ P (n + ds.length) ρ') ∨ ∃ r, forF tg b ds ρ = some (.ret r) ∧ R r
  | [], n, ρ, _, h => .inl ⟨ρ, rfl, h⟩
  | d :: ds, n, ρ, h, hp => by
    obtain ⟨ρ1, h1, h2⟩ := h 0 d rfl ρ hp
    rcases h2 with ⟨ρ2, h2, h3⟩ | ⟨r, h2, h3⟩
    · have ih := forF_ix P R ds (n + 1) ρ2 (fun i d' hd ρ hp => by
        have := h (i + 1) d' hd ρ (by rw [show n + (i + 1) = n + 1 + i by omega]; exact hp)
        rwa [show n + (i + 1) = n + 1 + i by omega] at this) h3
      unfold forF
      rw [h1, Option.bind_some, h2, Option.bind_some]
      rw [show n + 1 + ds.length = n + (d :: ds).length by rw [List.length_cons]; omega] at ih
      exact ih
    · refine .inr ⟨r, ?_, h3⟩
      unfold forF
      rw [h1, Option.bind_some, h2]
      rfl
/-- .. over the ints of a row with their places -/
theorem for_en {fs : Fn} {j1 j2 : Nat} {b : Gn} {ρ : Rho} {r : List Int} {d : PyData} (P : Nat → Rho → Prop) (R : PyData → Prop) (h1 : fs ρ = some d) (hd : d = .tuple (r.map .int) ∨ d = .list (r.map .int))
    (h : ∀ i, i < r.length → ∀ ρ, P i ρ → (∃ ρ', b ((ρ.set j1 (some (.int i))).set j2 (some (.int (r.getD i 0)))) = some (.nx ρ') ∧ P (i + 1) ρ') ∨ ∃ x, b ((ρ.set j1 (some (.int i))).set j2 (some (.int (r.getD i 0)))) = some (.ret x) ∧ R x) (h0 : P 0 ρ) :
    (∃ ρ', gFor (iEn fs) (hSeq 2 (hCons (hName j1) (hCons (hName j2) hNil))) b ρ = some (.nx ρ') ∧ P r.length ρ') ∨ ∃ x, gFor (iEn fs) (hSeq 2 (hCons (hName j1) (hCons (hName j2) hNil))) b ρ = some (.ret x) ∧ R x := by
  have e : iEn fs ρ = some ((List.range r.length).map fun (i : Nat) => PyData.tuple [.int i, .int (r.getD i 0)]) := by
    unfold iEn
    rw [h1, Option.bind_some]
    rcases hd with rfl | rfl <;> simp only [enD_ints]
  have := forF_ix (tg := hSeq 2 (hCons (hName j1) (hCons (hName j2) hNil))) (b := b) P R ((List.range r.length).map fun (i : Nat) => PyData.tuple [.int i, .int (r.getD i 0)]) 0 ρ (fun i d hd ρ hp => by
    have hi : i < r.length := by
      have := (List.getElem?_eq_some_iff.mp hd).1
      rwa [List.length_map, List.length_range] at this
    rw [List.getElem?_map, List.getElem?_range hi] at hd
    cases hd
    rw [Nat.zero_add] at hp ⊢
    exact ⟨_, rfl, h i hi ρ hp⟩) h0
  rw [List.length_map, List.length_range, Nat.zero_add] at this
  unfold gFor
  rw [e, Option.bind_some]
  exact this
/-- .. over a range -/
theorem for_rg {h' : Rho → Option (List PyData)} {j : Nat} {b : Gn} {ρ : Rho} {lo : Int} {n : Nat} (P : Nat → Rho → Prop) (R : PyData → Prop) (h1 : h' ρ = some (rgD lo n))
    (h : ∀ i, i < n → ∀ ρ, P i ρ → (∃ ρ', b (ρ.set j (some (.int (lo + i)))) = some (.nx ρ') ∧ P (i + 1) ρ') ∨ ∃ x, b (ρ.set j (some (.int (lo + i)))) = some (.ret x) ∧ R x) (h0 : P 0 ρ) :
    (∃ ρ', gFor h' (hName j) b ρ = some (.nx ρ') ∧ P n ρ') ∨ ∃ x, gFor h' (hName j) b ρ = some (.ret x) ∧ R x := by
  have := forF_ix (tg := hName j) (b := b) P R (rgD lo n) 0 ρ (fun i d hd ρ hp => by
    have hi : i < n := by
      have := (List.getElem?_eq_some_iff.mp hd).1
      rwa [rgD_len] at this
    rw [rgD_get hi] at hd
    cases hd
    rw [Nat.zero_add] at hp ⊢
    exact ⟨_, rfl, h i hi ρ hp⟩) h0
  rw [rgD_len, Nat.zero_add] at this
  unfold gFor
  rw [h1, Option.bind_some]
  exact this
theorem shK_str {k : Nat} (hk : 1 ≤ k) {x : Str} (h : PyData.canLay0 (.str x) = true) : shK k (.str x) := ⟨h, by simp [PyData.depth] <;> omega⟩
theorem gEq_str (neg : Bool) {x y : Str} (hx : PyData.canLay0 (.str x) = true) (hy : PyData.canLay0 (.str y) = true) : gEq neg (.str x) (.str y) = some (.bool (xor neg (x == y))) := by
  unfold gEq
  rw [if_pos ⟨shaped_of (shK_str (k := 1) (by decide) hx), shaped_of (shK_str (k := 1) (by decide) hy)⟩]
  rfl
theorem ixN_of {n : Nat} {x : Int} (h : 0 ≤ x ∧ x < n) : ixN n x = some x.toNat := by
  unfold ixN
  rw [if_pos h.1, if_pos h.2]
theorem ix_row {m : Mp} {i : Nat} (h : i < m.2.length) : gIx (.tuple (m.2.map .int)) (.int i) = some (.int (m.2.getD i 0)) := by
  rw [gIx_tuple, atI_ints (by omega), show ((i : Int)).toNat = i by omega]
end DL

namespace DL
open PySem PySem.Spec PyProof.Rows L2
section
variable {K : PySem.W.Frag} {X : Cx} {M : List Nat} {xc : Nat → Addr} {W : WX} {a b e o tg : Expr} {ta tb te to : TE} {fa fb f fo : Fn} {pos p p2 pos' apos cpos : Pos}
/-! ### x.bit_length() -/
@[simp] def gBits : PyData → Option PyData
  | .int i => some (.int (Builtin.Int.intBits i : Nat))
  | _ => none
theorem ed_bits (ho : ED K X M o to fo) (hbase : attributeBase o "bit_length" X.env (eval o X.env) = eval o X.env := by rfl) (hline : (apos.endLine == pos.line) = true := by rfl) : ED K X M (.Call (.Attribute o "bit_length" apos) [] [] pos) (tBits to) (f1 gBits fo) :=
  ⟨pe_bits ho.pe hbase hline, fun {Hs0 H0 Hs H σ ρ d Q} R hf q => by
    obtain ⟨x, h1, h2⟩ := bind_some hf
    refine ho.sm R h1 fun v Hs1 H1 g1 d1 => ?_
    cases d1 with
    | int i =>
      obtain rfl := Option.some.inj h2
      exact ⟨i, rfl, q _ Hs1 H1 g1 (.int _)⟩
    | _ => cases h2⟩
/-! ### for x in reversed(range(n)) -/
def rvD (n : Nat) : List PyData := (List.range n).map fun (i : Nat) => PyData.int ((n : Int) - 1 - i)
theorem rvD_len (n : Nat) : (rvD n).length = n := by unfold rvD; rw [List.length_map, List.length_range]
theorem rvD_get {n i : Nat} (h : i < n) : (rvD n)[i]? = some (.int ((n : Int) - 1 - i)) := by
  unfold rvD
  rw [List.getElem?_map, List.getElem?_range h]
  rfl
theorem yields_rv {Hs : Hp} {n : Nat} {lo : Int} (hlo : lo = (n : Int) - 1) : Yields K (Dd K) (Itc lo (-1) n) Hs (rvD n) where
  go := fun i H e hi => by rw [rvD_len] at hi; exact hi
  stop := fun i H e hi => by rw [rvD_len] at hi; exact hi
  yld := fun i H x H' Hs2 hi e1 e2 h => by
    obtain ⟨rfl, rfl⟩ := h
    rw [rvD_len] at hi
    refine ⟨Hs2, Grow.refl e2, _, rvD_get hi, ?_⟩
    rw [show lo + (i : Nat) * (-1) = (n : Int) - 1 - i by omega]
    exact .int _
@[simp] noncomputable def iRv (f : Fn) : Rho → Option (List PyData) := fun ρ => (f ρ).bind fun d => match d with
  | .int j => if B62 j then some (rvD j.toNat) else none
  | _ => none
theorem id_revR {pos2 : Pos} (ha : ED K X M a ta f) (hm : X.mg "range" = none) (hm2 : X.mg "reversed" = none) (hg : Gl X "range" := by rfl) (hg2 : Gl X "reversed" := by rfl) (na : starEach [a] X.env = (false, eval a X.env) :: starEach [] X.env := by rfl)
    (hs : starEach [.Call (.Name "range" p) [a] [] pos] X.env = (false, eval (.Call (.Name "range" p) [a] [] pos) X.env) :: starEach [] X.env := by rfl) :
    ID K X M (Dd K) tg (.Call (.Name "reversed" p2) [.Call (.Name "range" p) [a] [] pos] [] pos2) (iRevR (tRg1 ta)) (iRv f) :=
  ⟨pi_revR hg2 hm2 (prg_1 hg hm ha.pe na) hs, fun {Hs0 H0 Hs H σ ρ ds R} r hf q => by
    obtain ⟨d, h1, h2⟩ := bind_some hf
    refine ha.sm r h1 fun v Hs1 H1 g1 d1 => ?_
    cases d1 with
    | int j =>
      obtain ⟨hb, rfl⟩ := ite_some h2
      refine ⟨j, rfl, by decide, by decide, hb.1, hb.2, q _ Hs1 H1 g1 ?_⟩
      rw [show (j - 0).toNat = j.toNat by omega]
      exact yields_rv (by omega)
    | _ => cases h2⟩
/-! ### x, y = a, b -/
@[simp] def gPar (i j : Nat) (fa fb : Fn) : Gn := fun ρ => (fa ρ).bind fun d => (fb ρ).bind fun d' => some (.nx ((ρ.set i (some d)).set j (some d')))
theorem sd_par (i j : Nat) {x y : Str} {px py pt pt2 : Pos} {kt k2 : Nat} (hN : X.N.Nodup) (ha : ED K X M a ta fa) (hb : ED K X M b tb fb)
    (hi : X.N[i]? = some x := by rfl) (hj : X.N[j]? = some y := by rfl) (hij : i ≠ j := by decide) (hMi : M.contains i = false := by rfl) (hMj : M.contains j = false := by rfl)
    (hx : X.env.scope.names.lookup x = some .local := by rfl) (hy : X.env.scope.names.lookup y = some .local := by rfl) (hc : X.calm = true := by rfl)
    (hw : swappedStores [.Tuple [.Name x px, .Name y py] kt pt] (.Tuple [a, b] k2 pt2) X.env = pure (some [x, y]) := by rfl)
    (hs : swapsWithSole [.Tuple [.Name x px, .Name y py] kt pt] (.Tuple [a, b] k2 pt2) pos.line X.env = pure false := by rfl)
    (n1 : starEach [a, b] X.env = (false, eval a X.env) :: starEach [b] X.env := by rfl) (n2 : starEach [b] X.env = (false, eval b X.env) :: starEach [] X.env := by rfl) :
    SD K xc X M W (.Assign [.Tuple [.Name x px, .Name y py] kt pt] (.Tuple [a, b] k2 pt2) pos) (tPar i j (tCons ta (tCons tb tNil))) (gPar i j fa fb) :=
  ⟨ps_par hc hN hi hj hij hx hy (pa_cons ha.pe (pa_cons hb.pe pa_nil n2) n1) hw hs, fun {Hs0 H0 Hs H σ ρ r D} R hf o => by
    obtain ⟨d, h1, hf⟩ := bind_some hf
    obtain ⟨d', h2, hf⟩ := bind_some hf
    obtain rfl := Option.some.inj hf
    refine ha.sm R h1 fun v Hs1 H1 g1 d1 => ?_
    refine hb.sm (R.grow g1) h2 fun u Hs2 H2 g2 d2 => ?_
    exact ⟨v, u, rfl, o Hs2 H2 _ (g1.exs.trans g2.exs) ((((R.grow g1).grow g2).set hMi (d1.mono g2.exs)).set hMj d2)⟩⟩
/-! ### an item of an own list -/
theorem ed_ownIx (i : Nat) {x : Str} (hb : ED K X M b tb fb) (hN : X.N[i]? = some x := by rfl) (hv : Vis X.env.scope x := by first | exact Or.inl rfl | exact Or.inr (Or.inl rfl) | exact Or.inr (Or.inr rfl)) (hM : M.contains i = true := by rfl)
    (hd : (x == ("__debug__" : Str)) = false := by decide) (hcd : (x == ("__classdict__" : Str)) = false := by decide) (hs : PlainIx b := by exact fun _ _ => rfl) (hK : X.K = K := by rfl) :
    ED K X M (.Subscript (.Name x pos') b pos) (tOp (rIx K) (tVar i) tb) (fOwnIx i fb) := by
  subst hK
  refine ⟨pe_ix ix_seq (pe_var hN hv hd hcd) hb.pe hs, fun {Hs0 H0 Hs H σ ρ d Q} R hf q => ?_⟩
  obtain ⟨ds, h1, hf⟩ := bind_some hf
  obtain ⟨k, h2, hf⟩ := bind_some hf
  have hρ := lstAt_some h1
  obtain ⟨p0, xs, e1, e2, e3, e4, e5⟩ := R.ownAt hρ hM
  refine ⟨.ref p0, e1, hb.sm R h2 fun u Hs1 H1 g1 d1 => ?_⟩
  cases d1 with
  | int j =>
    obtain ⟨v, h3, h4⟩ := (e5.mono g1.exs).at hf
    exact .inl ⟨p0, xs, j, v, rfl, rfl, sqL_of (g1.ex _ _ e2), h3, q v Hs1 H1 g1 h4⟩
  | _ => cases hf
/-! ### a plain thing, read off with the own lists held still -/
@[simp] def fFlat (f : Fn) : Fn := fun ρ => (f ρ).bind fun d => if flatD d = true then some d else none
theorem dd_flat {Hs Hs' : Hp} {v : V} {d : PyData} (h : Dd K Hs v d) (hf : flatD d = true) : Dd K Hs' v d := by
  cases h <;> first | exact absurd hf Bool.false_ne_true | constructor
theorem ed_flat (h : ED K X [] e te f) : ED K X M e te (fFlat f) :=
  ⟨h.pe, fun {Hs0 H0 Hs H σ ρ d Q} R hf q => by
    obtain ⟨d', h1, h2⟩ := bind_some hf
    obtain ⟨hfl, rfl⟩ := ite_some h2
    obtain ⟨Hp', e1, _, R1⟩ := R.thaw
    exact h.sm R1 h1 fun v Hs1 H1 g1 d1 => q v Hs H1 (Grow.idle R.sub g1.ex) (dd_flat d1 hfl)⟩
theorem dds_flat {Hs Hs' : Hp} : ∀ {vs : List V} {ds : List PyData}, DdAll K Hs vs ds → ds.all flatD = true → DdAll K Hs' vs ds
  | _, _, .nil, _ => .nil
  | _, _, .cons a r, f => by
    rw [List.all_cons, Bool.and_eq_true] at f
    exact .cons (dd_flat a f.1) (dds_flat r f.2)
@[simp] def lFlat (f : Rho → Option (List PyData)) : Rho → Option (List PyData) := fun ρ => (f ρ).bind fun ds => if ds.all flatD = true then some ds else none
theorem fd_flat {f : Rho → Option (List PyData)} (h : FD K X [] e te f) : FD K X M e te (lFlat f) :=
  ⟨h.pe, fun {Hs0 H0 Hs H σ ρ d Q} R hf q => by
    obtain ⟨d', h1, h2⟩ := bind_some hf
    obtain ⟨hfl, rfl⟩ := ite_some h2
    obtain ⟨Hp', e1, _, R1⟩ := R.thaw
    exact h.sm R1 h1 fun p0 xs Hs1 H1 g1 hp hsp hH d1 => q p0 xs Hs H1 (Grow.idle R.sub g1.ex) hp (R.sub.free hp) hH (dds_flat d1 hfl)⟩
/-! ### x = y, y an own list that is not used after -/
@[simp] def gGive (j i : Nat) : Gn := fun ρ => (lstAt i ρ).bind fun ds => some (.nx ((ρ.set j (some (.list ds))).set i none))
/-! ### x = y.pop() -/
@[simp] def gPop (j i : Nat) : Gn := fun ρ => (lstAt i ρ).bind fun ds => (ds[ds.length - 1]?).bind fun d => some (.nx ((ρ.set i (some (.list ds.dropLast))).set j (some d)))
end
end DL

namespace DL
open PySem PySem.Spec PyProof.Rows L2
/-! ### set(a list of ints), with its table in view -/
abbrev setOb (w : World) : Obj := { cls := .type "set", dict := none, data := .set #[] 0 (.fresh 0 0 (!w.params.followText "set-order")) }
theorem call_setL {P : Program} {w : World} {A : Around} {E : Value → Shared → Prop} {s : Shared} {q : Addr} {vs : Array Value} (ns : List Int) {Q : Value → Shared → Prop} (calm : A.handled = none) (isL : s.heap.IsList q vs) (hin : IntsAre vs.toList ns) (few : ns.length + 1 < scanBound)
    (done : ∀ (hp : Heap) (t n : Nat), SetR w hp s.heap.objs.size (fun j => decide (j ∈ ns)) n → n ≤ ns.length → (∀ b u, s.heap.get? b = some u → hp.get? b = some u) → Q (.ref s.heap.objs.size) { s with heap := hp, toks := t }) :
    wpAny (model P w) A (call (.type "set") [.ref q]) Q E s := by
  have nv : vs.size = ns.length := by
    have z := IntsAre.length hin
    rwa [Array.length_toList] at z
  obtain ⟨_, _, mro⟩ := F.called_set.mro
  have mk := F.called_set.made
  have sb := F.called_set.sub
  have nt := F.called_set.notType
  have cc := F.called_set.canCreate
  have tc := F.typeCall_set_1 (.ref q)
  refine wpAny_call (codeAny_of_tree ?_)
  show wpAny _ _ (callAny (.type "set") _) _ _ _
  refine wpAny_pure ⟨Code.quiet_builtin _ (by decide +kernel), codeAny_builtin F.entry_type_call ?_⟩
  rw [Around.under_plain (weight_type_call_type "set" [.ref q] []) rfl]
  repeat (any_goals (first | assumption | wp_step))
  refine codeAny_mono (code_set_led1 (.ref q) (E := E) (Q₁ := fun v s1 => v = .ref s.heap.objs.size ∧ s1 = { s with heap := s.heap.push (setOb w) }) ⟨rfl, rfl⟩) fun r s1 hr => ?_
  cases r with
  | error e => exact hr
  | ok fl =>
    cases fl with
    | ret v =>
      obtain ⟨rfl, rfl⟩ := hr
      have at0 : (s.heap.push (setOb w)).get? s.heap.objs.size = some (setOb w) := Heap.get?_push_size _ rfl
      have ty0 : Shared.TypeIs { s with heap := s.heap.push (setOb w) } (.ref s.heap.objs.size) "set" := ⟨_, at0, rfl⟩
      have lk := F.called_set.init.lookup
      have bd := F.called_set.init.bind (.ref s.heap.objs.size)
      repeat (any_goals (first | assumption | wp_step))
      refine codeAny_mono (codeAny_call_builtin (R := wants (fun r s2 => r = .none ∧ ∃ hp t n, s2 = { s with heap := hp, toks := t } ∧ SetR w hp s.heap.objs.size (fun j => decide (j ∈ ns)) n ∧ n ≤ ns.length ∧ (∀ b u, s.heap.get? b = some u → hp.get? b = some u)) E)
        F.called_set.init.plain F.entry_set_init (check_set_init_1 ty0 ?_)) fun r2 s2 hr2 => ?_
      · obtain ⟨⟨oc, od, odt, osl⟩, ho, e1, n0, e2⟩ := isL
        simp only at e1 e2
        subst e1 e2
        have ho1 : (s.heap.push (setOb w)).get? q = some { cls := .type "list", dict := od, data := .seq vs n0, slots := osl } := Heap.get?_push_of_some _ ho
        have ls := F.sub_list_set
        have lf := F.sub_list_frozenset
        have nd : (Value.type "list" == Value.type "dict") = false := by decide
        have isL1 : (s.heap.push (setOb w)).IsList q vs := ⟨_, ho1, rfl, n0, rfl⟩
        unfold Builtin.«set.__init__» noKeywords Builtin.Frozenset.updateFrom
        generalize gi : pyIter = it
        wp_walk
        subst gi
        refine wpAny_pyIter_list isL1 (wpAny_bind (wpAny_runValue ?_))
        have ql : q < s.heap.objs.size := Heap.lt_size ho
        have zz : (s.heap.push (setOb w)).objs.size = s.heap.objs.size + 1 := Heap.size_push ..
        have q1 : q ≠ (s.heap.push (setOb w)).objs.size := by rw [zz]; exact Nat.ne_of_lt (Nat.lt_succ_of_lt ql)
        have calm3 : A.in1.in1.in1.handled = none := by simp [calm]
        have out : s.heap.objs.size ∉ [(s.heap.push (setOb w)).objs.size, q] := by
          rw [zz]
          intro hm
          rcases List.mem_cons.mp hm with z | z
          · exact Nat.ne_of_lt (Nat.lt_succ_self _) z
          · exact Nat.ne_of_gt ql (List.mem_singleton.mp z)
        have val : ∀ (i : Nat) (v : Value), vs[i]? = some v → ∃ k t, ns[i]? = some k ∧ v = .int k t := fun i v hv => by
          have il : i < ns.length := by rw [← nv]; exact (Array.getElem?_eq_some_iff.mp hv).1
          obtain ⟨t, e⟩ := IntsAre.int_at hin i v (by rw [Array.getElem?_toList]; exact hv)
          exact ⟨ns[i], t, List.getElem?_eq_getElem il, by rw [e, List.getD_eq_getElem?_getD, List.getElem?_eq_getElem il] <;> rfl⟩
        refine set_update_ints ((Walks.list calm3 _ q q1 vs).toS) s.heap.objs.size out ns nv few val (vs.size - 0) 0 _ (by omega) (Nat.zero_le _) ⟨⟨_, Heap.get?_push_size _ rfl, rfl, rfl⟩, isL1.push _⟩ ?start ?fin
        case start =>
          exact ⟨0, Nat.le_refl 0, setR_new_at (Heap.get?_push_of_some _ at0)⟩
        case fin =>
          intro s' n mv hn hS
          obtain ⟨hp, g, d, t, os⟩ := s'
          have eg : g = s.gens := mv.gens
          have ed : d = s.drawn := mv.drawn
          have eo : os = s.os := mv.os
          subst eg ed eo
          show wpAny _ _ _ _ _ _
          refine wpAny_pure ?_
          show wpAny _ _ (ret Value.none) _ _ _
          rw [nv] at hn
          refine wpAny_pure ⟨rfl, hp, t, n, rfl, hS, hn, fun b u e => ?_⟩
          have bl := Heap.lt_size e
          refine mv.heap b u (fun hm => ?_) (Heap.get?_push_of_some _ (Heap.get?_push_of_some _ e))
          rcases List.mem_cons.mp hm with z | z
          · exact Nat.ne_of_lt bl z
          · have z := List.mem_singleton.mp z
            rw [zz] at z
            exact Nat.ne_of_lt (Nat.lt_succ_of_lt bl) z
      · cases r2 with
        | error e => exact hr2
        | ok fl2 =>
          cases fl2 with
          | ret r =>
            obtain ⟨rfl, hp, t, n, rfl, hS, hn, hk⟩ := hr2
            repeat (any_goals (first | assumption | wp_step))
            exact done _ _ _ hS hn hk
          | _ => exact hr2.elim
    | _ => exact hr.elim
section
variable {K : PySem.W.Frag} {X : Cx} {M : List Nat} {a : Expr} {ta : TE} {f : Fn} {pos p p2 q : Pos}
/-- set(a list or a tuple of ints) -/
def rSetA (K : PySem.W.Frag) (w : World) : List V → Hp → VK → Prop := fun xs H Q => ∃ (p : Addr) (ns : List Int), xs = [.ref p] ∧ (SqL K H p (ns.map V.int) ∨ SqT K H p (ns.map V.int)) ∧ ns.length ≤ 1000 ∧ ∀ a, H a = none → Q (.ref a) (upd H a (SetO w a (fun j => decide (j ∈ ns)) (sset ns).length))
theorem cr_setA (hc : X.calm = true) : CallR X (.type "set") (rSetA X.K X.w) := by
  intro pins s σ H xs us Q I r h
  obtain ⟨p0, ns, rfl, hq, hl, q⟩ := h
  rcases hq with hq | hq
  · obtain ⟨u, rfl, rx⟩ := vals1 r
    cases rx
    obtain ⟨its, rv, pt, hz⟩ := I.list hq
    have hi : IntsAre its.toArray.toList ns := ints_of_vals rv
    refine call_setL ns (I.ok.hd hc) pt.isList hi (by unfold scanBound; omega) fun h' tk c R1 hcn k => ?_
    have en : c = (sset ns).length := by
      obtain ⟨o, es, ep, t, ho, hex, hdt, g, nd, hm2, hb, hf, hn, hr, hl2⟩ := id R1
      have := sset_len (ns := ns) nd fun x => by rw [← hm2 x, decide_eq_true_eq]
      rw [List.length_map, Array.length_toList] at this
      exact hn.symm.trans this
    subst en
    exact ⟨.ref _, upd H s.heap.objs.size (SetO X.w s.heap.objs.size _ _), I.laid (t' := tk) k (Nat.le_refl _) (setO_new R1), rfl, q _ (I.hok.fresh (Nat.le_refl _))⟩
  · exact cr_setI hc pins s σ H _ us Q I r ⟨p0, ns, rfl, hq, hl, q⟩
def gSortSetA : PyData → Option (List PyData)
  | .tuple ds => (intsD ds).bind fun ns => if ns.length < 64 then some ((sset ns).map .int) else none
  | .list ds => (intsD ds).bind fun ns => if ns.length < 64 then some ((sset ns).map .int) else none
  | _ => none
theorem fd_sortSetA (ha : ED K X M a ta f) (hm : X.mg "sorted" = none) (hm2 : X.mg "set" = none) (hg : Gl X "sorted" := by rfl) (hg2 : Gl X "set" := by rfl) (hc : X.calm = true := by rfl) (hK : X.K = K := by rfl)
    (na : starEach [a] X.env = (false, eval a X.env) :: starEach [] X.env := by rfl) (nb : starEach [.Call (.Name "set" p2) [a] [] q] X.env = (false, eval (.Call (.Name "set" p2) [a] [] q) X.env) :: starEach [] X.env := by rfl)
    (pa : (backTo q (starEach [] X.env)).any (·.1) = false := by rfl) (pb : (backTo pos (starEach [] X.env)).any (·.1) = false := by rfl) :
    FD K X M (.Call (.Name "sorted" p) [.Call (.Name "set" p2) [a] [] q] [] pos) (tCB (rSortedSet X.w) (tCons (tCB (rSetA K X.w) (tCons ta tNil)) tNil)) (fun ρ => (f ρ).bind gSortSetA) := by
  subst hK
  refine ⟨pe_callB (cr_sortedSet hc) hg hm boot_sorted (pa_cons (pe_callTy (cr_setA hc) hg2 hm2 boot_set (pa_cons ha.pe pa_nil na) (by decide) (by decide) na pa) pa_nil nb) (by decide) (by decide) nb pb, fun {Hs0 H0 Hs H σ ρ d Q} R hf qq => ?_⟩
  obtain ⟨dx, h1, h2⟩ := bind_some hf
  refine ha.sm R h1 fun v Hs1 H1 g1 d1 => ?_
  have key : ∀ {l : Addr} {ns : List Int}, (SqL X.K H1 l (ns.map V.int) ∨ SqT X.K H1 l (ns.map V.int)) → ns.length < 64 → (sset ns).map PyData.int = d → rSetA X.K X.w [.ref l] H1 fun v2 H2 => rSortedSet X.w [v2] H2 Q := fun {l ns} hq hl hd => by
    subst hd
    have hle := sset_le ns
    refine ⟨l, ns, rfl, hq, by omega, fun p0 hp0 => ⟨p0, _, _, rfl, upd_same, by omega, fun ns' p1 hs hmm hlen hp1 => ?_⟩⟩
    have e : ns' = sset ns := rise_eq hs (sset_lt ns) fun x => by rw [hmm, decide_eq_true_eq, sset_mem]
    subst e
    have g2 : Grow Hs1 H1 Hs1 (upd H1 p0 (SetO X.w p0 (fun j => decide (j ∈ ns)) (sset ns).length)) := Grow.alloc0 g1.sub hp0
    have g3 := Grow.alloc0 (o := .lst ((sset ns).map V.int)) g2.sub hp1
    have g := (g1.trans g2).trans g3
    exact qq p1 _ Hs1 _ g (g1.ex.free (g2.ex.free hp1)) (g2.sub.free hp1) upd_same (DdAll.ints _)
  cases d1 with
  | @tup l ob xs ds hn hp t =>
    obtain ⟨ns, h3, h4⟩ := bind_some h2
    obtain ⟨hl, hd⟩ := ite_some h4
    have e := ints_dv t h3
    subst e
    exact key (.inr (sqT_of (g1.sub _ _ hp))) hl hd
  | @lst l xs ds hp t =>
    obtain ⟨ns, h3, h4⟩ := bind_some h2
    obtain ⟨hl, hd⟩ := ite_some h4
    have e := ints_dv t h3
    subst e
    exact key (.inl (sqL_of (g1.sub _ _ hp))) hl hd
  | _ => cases h2
end
end DL

namespace DL
open PySem PySem.Spec PyProof.Rows L2
section
variable {K : PySem.W.Frag} {X : Cx} {M : List Nat} {xc : Nat → Addr} {W : WX} {a b e o tg : Expr} {ta tb te to : TE} {fa fb f fo : Fn} {pos p p2 pos' apos cpos : Pos}
/-! ### x = y, y an own list that is let go -/
theorem giveSR {Hs0 H0 Hs H : Hp} {σ : L2.St} {ρ : Rho} {i j : Nat} {ds : List PyData} (r : SR K M Hs0 H0 Hs H σ ρ) (hMi : M.contains i = true) (hMj : M.contains j = false) (hρ : ρ[i]? = some (some (.list ds))) :
    ∃ p Hs', σ[i]? = some (some (.ref p)) ∧ Same Hs Hs' ∧ SR K M Hs0 H0 Hs' H (σ.set j (some (.ref p))) ((ρ.set j (some (.list ds))).set i none) := by
  obtain ⟨p, xs, e1, e2, e3, e4, e5⟩ := r.ownAt hρ hMi
  have sHs : Same Hs (L2.upd Hs p (.lst xs)) := same_new e3
  have hij : i ≠ j := fun z => by rw [z, hMj] at hMi; cases hMi
  have hj : ∀ {k : Nat} {d : PyData}, ((ρ.set j (some (.list ds))).set i none)[k]? = some (some d) → i ≠ k ∧ (if j = k then d = .list ds ∧ k < ρ.length else ρ[k]? = some (some d)) := fun {k d} h => by
    have hik : i ≠ k := fun z => by
      subst z
      have hl := (List.getElem?_eq_some_iff.mp h).1
      rw [List.length_set] at hl
      rw [List.getElem?_set_self hl] at h
      cases h
    rw [List.getElem?_set_ne hik] at h
    refine ⟨hik, ?_⟩
    by_cases hjk : j = k
    · subst hjk
      have hl := (List.getElem?_eq_some_iff.mp h).1
      rw [List.length_set] at hl
      rw [List.getElem?_set_self hl] at h
      rw [if_pos rfl]
      cases h
      exact ⟨rfl, hl⟩
    · rw [if_neg hjk]
      rwa [List.getElem?_set_ne hjk] at h
  refine ⟨p, L2.upd Hs p (.lst xs), e1, sHs, ⟨⟨r.g.ex, r.g.exs.trans sHs, fun c o z => ?_, fun c z n => ?_⟩, by rw [List.length_set, List.length_set, List.length_set]; exact r.len, fun k d h m => ?_, fun k d h m => ?_, fun k l dk dl q h1 h2 m1 m2 h3 h4 => ?_⟩⟩
  · by_cases hc : c = p
    · subst hc; rw [upd_same] at z; rw [e2]; exact z
    · rw [upd_ne hc] at z; exact r.sub c o z
  · have hc : c ≠ p := fun y => n (by rw [y]; exact e4)
    rw [upd_ne hc]
    exact r.g.new c z n
  · obtain ⟨hik, h⟩ := hj h
    by_cases hjk : j = k
    · subst hjk
      rw [if_pos rfl] at h
      obtain ⟨rfl, hl⟩ := h
      exact ⟨.ref p, List.getElem?_set_self (by rw [r.len]; exact hl), .lst upd_same (e5.mono sHs)⟩
    · rw [if_neg hjk] at h
      obtain ⟨v, h1, h2⟩ := r.frz k d h m
      exact ⟨v, by rw [List.getElem?_set_ne hjk]; exact h1, h2.mono sHs⟩
  · obtain ⟨hik, h⟩ := hj h
    have hjk : j ≠ k := fun z => by rw [z, m] at hMj; cases hMj
    rw [if_neg hjk] at h
    obtain ⟨q, ys, es, h1, h2, h3, h4, h5, h6⟩ := r.own k d h m
    have hqp : q ≠ p := fun z => hik (r.sep i k _ _ p hρ h hMi m e1 (by rw [← z]; exact h2))
    exact ⟨q, ys, es, h1, by rw [List.getElem?_set_ne hjk]; exact h2, h3, by rw [upd_ne hqp]; exact h4, h5, h6.mono sHs⟩
  · obtain ⟨_, h1⟩ := hj h1
    obtain ⟨_, h2⟩ := hj h2
    have hjk : j ≠ k := fun z => by rw [z, m1] at hMj; cases hMj
    have hjl : j ≠ l := fun z => by rw [z, m2] at hMj; cases hMj
    rw [if_neg hjk] at h1
    rw [if_neg hjl] at h2
    rw [List.getElem?_set_ne hjk] at h3
    rw [List.getElem?_set_ne hjl] at h4
    exact r.sep k l dk dl q h1 h2 m1 m2 h3 h4
theorem sd_give (j i : Nat) {x y : Str} (hN : X.N.Nodup) (hi : X.N[i]? = some y := by rfl) (hj : X.N[j]? = some x := by rfl) (hv : Vis X.env.scope y := by first | exact Or.inl rfl | exact Or.inr (Or.inl rfl) | exact Or.inr (Or.inr rfl)) (hx : Loc X.env.scope x := by first | exact Or.inl rfl | exact Or.inr rfl)
    (hMi : M.contains i = true := by rfl) (hMj : M.contains j = false := by rfl) (hd : (y == ("__debug__" : Str)) = false := by decide) (hcd : (y == ("__classdict__" : Str)) = false := by decide)
    (hs : swapsWith (.Name y p) (some (.Name x pos')) pos.line X.env = pure false := by rfl) (hf : X.fn x = true ∨ X.env.scope.names.lookup x = some .local := by first | exact .inl rfl | exact .inr rfl) :
    SD K xc X M W (.Assign [.Name x pos'] (.Name y p) pos) (tAsg (tVar i) (gName j)) (gGive j i) :=
  ⟨ps_set hN hj hx (pe_var hi hv hd hcd) hs hf, fun {Hs0 H0 Hs H σ ρ r D} R hf o => by
    obtain ⟨ds, h1, h2⟩ := bind_some hf
    obtain rfl := Option.some.inj h2
    obtain ⟨q, Hs', e1, e2, R'⟩ := giveSR R hMi hMj (lstAt_some h1)
    exact ⟨.ref q, e1, o Hs' H _ e2 R'⟩⟩
/-! ### a new list from two -/
@[simp] def lCat (fa fb : Fn) : Rho → Option (List PyData) := fun ρ => (fa ρ).bind fun x => (fb ρ).bind fun y => match x, y with
  | .list xs, .list ys => if xs.length + ys.length ≤ 1000000 then some (xs ++ ys) else none
  | _, _ => none
theorem fd_cat (ha : ED K X M a ta fa) (hb : ED K X M b tb fb) : FD K X M (.BinOp a .Add b pos) (tOp rCat ta tb) (lCat fa fb) :=
  ⟨pe_op op_cat ha.pe hb.pe, fun {Hs0 H0 Hs H σ ρ d Q} R hf q => by
    obtain ⟨x, h1, hf⟩ := bind_some hf
    obtain ⟨y, h2, hf⟩ := bind_some hf
    refine ha.sm R h1 fun v Hs1 H1 g1 d1 => ?_
    refine hb.sm (R.grow g1) h2 fun u Hs2 H2 g2 d2 => ?_
    cases d1 with
    | @lst p1 xs ds hp t =>
      cases d2 with
      | @lst p2 ys es hp2 t2 =>
        obtain ⟨hl, rfl⟩ := ite_some hf
        have t1 := t.mono g2.exs
        refine ⟨p1, p2, xs, ys, rfl, rfl, g2.sub _ _ (g2.exs _ _ hp), g2.sub _ _ hp2, szM (by rw [t1.length, t2.length]; exact hl), fun p0 hp0 => ?_⟩
        have g3 : Grow Hs2 H2 Hs2 (L2.upd H2 p0 (.lst (xs ++ ys))) := Grow.alloc0 g2.sub hp0
        exact q p0 _ Hs2 _ ((g1.trans g2).trans g3) (g1.ex.free (g2.ex.free hp0)) (g2.sub.free hp0) upd_same (t1.append t2)
      | _ => cases hf
    | _ => cases hf⟩
/-! ### x = y.pop() -/
theorem DdAll.init {Hs : Hp} : ∀ {vs : List V} {ds : List PyData}, DdAll K Hs vs ds → DdAll K Hs vs.dropLast ds.dropLast
  | _, _, .nil => .nil
  | _, _, .cons a .nil => .nil
  | _, _, .cons a (.cons b r) => .cons a (DdAll.init (.cons b r))
theorem sd_popS (j i : Nat) {x y : Str} (hN : X.N.Nodup) (hi : X.N[i]? = some y := by rfl) (hj : X.N[j]? = some x := by rfl) (hv : Vis X.env.scope y := by first | exact Or.inl rfl | exact Or.inr (Or.inl rfl) | exact Or.inr (Or.inr rfl)) (hx : Loc X.env.scope x := by first | exact Or.inl rfl | exact Or.inr rfl)
    (hMi : M.contains i = true := by rfl) (hMj : M.contains j = false := by rfl) (hd : (y == ("__debug__" : Str)) = false := by decide) (hcd : (y == ("__classdict__" : Str)) = false := by decide)
    (hbase : attributeBase (.Name y p) "pop" X.env (eval (.Name y p) X.env) = eval (.Name y p) X.env := by rfl) (hline : (apos.endLine == cpos.line) = true := by rfl)
    (hs : swapsWith (.Call (.Attribute (.Name y p) "pop" apos) [] [] cpos) (some (.Name x pos')) pos.line X.env = pure false := by rfl) (hf : X.fn x = true ∨ X.env.scope.names.lookup x = some .local := by first | exact .inl rfl | exact .inr rfl) :
    SD K xc X M W (.Assign [.Name x pos'] (.Call (.Attribute (.Name y p) "pop" apos) [] [] cpos) pos) (tAsg (tBM0 X.K "list" rPop (tVar i)) (gName j)) (gPop j i) :=
  ⟨ps_set hN hj hx (pe_bm0 PySem.F.plainAttrs_list PySem.F.slot_list_pop PySem.F.type_list_pop mt_pop (pe_var hi hv hd hcd) hbase hline) hs hf, fun {Hs0 H0 Hs H σ ρ r D} R hf o => by
    obtain ⟨ds, h1, h2⟩ := bind_some hf
    obtain ⟨d, h3, h4⟩ := bind_some h2
    obtain rfl := Option.some.inj h4
    have hρ := lstAt_some h1
    obtain ⟨q, xs, e1, e2, e3, e4, e5⟩ := R.ownAt hρ hMi
    obtain ⟨v, h5, h6⟩ := e5.get h3
    rw [← e5.length] at h5
    refine ⟨.ref q, e1, .inl ⟨rfl, _, sqL_of e2⟩, q, xs, v, rfl, rfl, e2, h5, ?_⟩
    have R' := R.upd hMi e1 ⟨_, hρ⟩ e3 e4 e5.init
    exact o Hs _ _ (Same.refl _) (R'.set hMj h6)⟩
/-! ### s.index(x), s a list of any data -/
def idxD (ds : List PyData) (d : PyData) : Option PyData := if SeqAt.shaped (.list ds) = true ∧ SeqAt.shaped d = true then (ds.findIdx? fun z => PyData.eqv z d).map fun j => .int (j : Nat) else none
def gIdxD : PyData → PyData → Option PyData
  | .list ds, d => idxD ds d
  | _, _ => none
theorem idxD_some {ds : List PyData} {d x : PyData} (h : idxD ds d = some x) : SeqAt.shaped (.list ds) = true ∧ SeqAt.shaped d = true ∧ ∃ (j : Nat) (z : PyData), x = .int (j : Nat) ∧ ds[j]? = some z ∧ PyData.eqv z d = true ∧ ∀ (m : Nat) (z' : PyData), m < j → ds[m]? = some z' → PyData.eqv z' d = false := by
  unfold idxD at h
  obtain ⟨⟨c1, c2⟩, h⟩ := ite_get h
  refine ⟨c1, c2, ?_⟩
  cases hf : ds.findIdx? (fun z => PyData.eqv z d) with
  | none => rw [hf] at h; cases h
  | some j =>
    rw [hf] at h
    cases h
    obtain ⟨hl, h1, h2⟩ := List.findIdx?_eq_some_iff_getElem.mp hf
    refine ⟨j, ds[j], rfl, List.getElem?_eq_getElem hl, h1, fun m z' hm hz => ?_⟩
    obtain ⟨hml, ez⟩ := List.getElem?_eq_some_iff.mp hz
    have := h2 m hm
    rw [← ez]
    exact Bool.eq_false_iff.mpr (by simpa using this)
theorem ed_indexD {k : Nat} (hr : Room k X.A) (ho : ED K X M o to fo) (ha : ED K X M a ta fa)
    (hs1 : starEach [a] X.env = (false, eval a X.env) :: starEach [] X.env := by rfl)
    (hbase : attributeBase o "index" X.env (eval o X.env) = eval o X.env := by rfl)
    (hfew : ((backTo cpos (starEach [a] X.env)).all (fun x => !x.1) && (backToKw cpos (keywordEach [] X.env)).all (fun x => x.1.isSome)
      && decide ([a].length + ([] : List Keyword).length + (if ([] : List Keyword).isEmpty then 0 else 1) < 30)) = true := by rfl)
    (hline : (apos.endLine == cpos.line) = true := by rfl) (hplain : (backTo cpos (starEach [] X.env)).any (·.1) = false := by rfl) (hK : X.K = K := by rfl) :
    ED K X M (.Call (.Attribute o "index" apos) [a] [] cpos) (tBM K "list" (rIndexD K) to (tCons ta tNil)) (f2 gIdxD fo fa) := by
  subst hK
  refine ⟨pe_bm PySem.F.plainAttrs_list PySem.F.slot_list_index PySem.F.type_list_index (mt_indexD (by have := hr.un; omega)) ho.pe (pa_cons ha.pe pa_nil hs1) hbase hfew hline hs1 hplain, fun {Hs0 H0 Hs H σ ρ d Q} R hf q => ?_⟩
  obtain ⟨x, h1, hf⟩ := bind_some hf
  obtain ⟨y, h2, hf⟩ := bind_some hf
  refine ho.sm R h1 fun v Hs1 H1 g1 d1 => ?_
  cases d1 with
  | @lst p1 xs ds hp t =>
    obtain ⟨c1, c2, j, z, rfl, hj, hz, hm⟩ := idxD_some hf
    refine ⟨.inl ⟨rfl, xs, sqL_of (g1.sub _ _ hp)⟩, ha.sm (R.grow g1) h2 fun u Hs2 H2 g2 d2 => ?_⟩
    have dl : Dp X.K H2 (.ref p1) (.list ds) := (((Dd.lst hp t : Dd X.K Hs1 (.ref p1) (.list ds)).mono g2.exs).mono g2.sub).dp (SeqAt.canLay_of_shaped c1)
    exact ⟨p1, u, y, ds, j, z, rfl, rfl, dl, (d2.mono g2.sub).dp (SeqAt.canLay_of_shaped c2), c1, c2, hj, hz, hm, q _ Hs2 H2 (g1.trans g2) (.int _)⟩
  | _ => cases hf
end
end DL

/-! list(zip(a, b)) of two tuples -/
namespace LZ
open PySem RZ
open PySem.Sem (wp)
theorem zip_no_len : typeLookup (.type "zip") "__len__" = pure none := by rw [typeLookup_type, builtinLookup_eq_fast]; kernel_rfl
theorem zip_no_hint : typeLookup (.type "zip") "__length_hint__" = pure none := by rw [typeLookup_type, builtinLookup_eq_fast]; kernel_rfl
section
variable {prog : Program} {w : World} {A : Around} {E : Value → Shared → Prop} {s : Shared} {z TI TO T i1 i2 l1 l2 : Addr} {k1 k2 : Nat} {xs ys : Array Value} {x y a b : Value} {f : Bool} {oT : Obj}
theorem next_item_held {Q : Value → Shared → Prop} (D : ZipApart z TI TO i1 i2 l1 l2)
    (hz : IsZipHeld s.heap z TI TO T f) (hT : s.heap.get? T = some oT) (hTI : IsPair s.heap TI (.ref i1) (.ref i2))
    (h1 : s.heap.IsTupleIter i1 l1 k1) (h2 : s.heap.IsTupleIter i2 l2 k2) (hl1 : s.heap.IsTuple l1 xs) (hl2 : s.heap.IsTuple l2 ys) (hx : xs[k1]? = some x) (hy : ys[k2]? = some y)
    (hQ : ∀ h', IsZipHeld h' z TI TO T true → h'.IsTupleIter i1 l1 (k1 + 1) → h'.IsTupleIter i2 l2 (k2 + 1) → IsPair h' s.heap.objs.size x y → h'.objs.size = s.heap.objs.size + 1 →
      (∀ c o, c ≠ z → c ≠ i1 → c ≠ i2 → s.heap.get? c = some o → h'.get? c = some o) → Q (.ref s.heap.objs.size) { s with heap := h' }) :
    wpAny (model prog w) A (Builtin.«zip.__next__» ⟨[.ref z], []⟩) (fun fin s' => ∃ v, fin = .done (.ret v) ∧ Q v s') E s := by
  show wpAny _ _ (field (.ref z) 2 >>= _) _ _ _
  refine wpAny_bind (wpAny_field hz rfl (x := .bool false) rfl ?_)
  show wpAny _ _ (field (.ref z) 3 >>= _) _ _ _
  refine wpAny_bind (wpAny_field hz rfl (x := .ref TI) rfl ?_)
  refine wpAny_bind (wpAny_seqItems hTI rfl ?_)
  show wpAny _ _ (Builtin.SmallTypes.ownedTupleIsFree (.ref z) >>= _) _ _ _
  refine wpAny_bind (wpAny_tupleHeld_zip hz hT fun h₁ hz₁ hs₁ => ?_)
  simp only [Bool.false_eq_true, if_false]
  refine wpAny_bind ?_
  rw [← Array.forIn_toList]
  simp only [List.forIn_cons, List.forIn_nil]
  refine wpAny_bind (wpAny_bind (wpAny_holding ?_))
  show wpAny _ _ (Builtin.SmallTypes.nextOf (.ref i1) >>= _) _ _ _
  refine wpAny_bind (nextOf_tuple_item (s := { s with heap := h₁ }) (h1.extBut hs₁.extBut D.i1z) (hl1.extBut hs₁.extBut D.l1z) hx fun h₂ h1₂ hs₂ => wpAny_pure ?_)
  refine wpAny_pure ?_
  refine wpAny_bind (wpAny_bind (wpAny_holding ?_))
  show wpAny _ _ (Builtin.SmallTypes.nextOf (.ref i2) >>= _) _ _ _
  refine wpAny_bind (nextOf_tuple_item (s := { s with heap := h₂ }) ((h2.extBut hs₁.extBut D.i2z).extBut hs₂.extBut D.i12.symm) ((hl2.extBut hs₁.extBut D.l2z).extBut hs₂.extBut D.l2i1) hy fun h₃ h2₃ hs₃ => wpAny_pure ?_)
  refine wpAny_pure (wpAny_pure ?_)
  show wpAny _ _ (newTuple [x, y] >>= _) _ _ _
  refine wpAny_bind (wpAny_newTuple ?_)
  have hsz : h₃.objs.size = s.heap.objs.size := by rw [hs₃.1, hs₂.1, hs₁.1]
  have hz₃ : IsZipHeld h₃ z TI TO T true := hs₃.extBut _ _ D.i2z.symm (hs₂.extBut _ _ D.i1z.symm hz₁)
  have hk : ∀ c o, c ≠ z → c ≠ i1 → c ≠ i2 → s.heap.get? c = some o → h₃.get? c = some o := fun c o c1 c2 c3 e => hs₃.extBut _ _ c3 (hs₂.extBut _ _ c2 (hs₁.extBut _ _ c1 e))
  have h1₃ : h₃.IsTupleIter i1 l1 (k1 + 1) := h1₂.extBut hs₃.extBut D.i12
  refine wpAny_pure ⟨_, rfl, ?_⟩
  show Q (.ref h₃.objs.size) _
  have hp : IsPair (h₃.push { cls := .type "tuple", data := .seq #[x, y] }) h₃.objs.size x y := Heap.get?_push_size _ rfl
  have hz4 : (h₃.push { cls := .type "tuple", data := .seq #[x, y] }).objs.size = h₃.objs.size + 1 := Heap.size_push ..
  rw [hsz] at hp hz4 ⊢
  exact hQ _ (Heap.get?_push_of_some _ hz₃) (h1₃.at fun o e => Heap.get?_push_of_some _ e) (h2₃.at fun o e => Heap.get?_push_of_some _ e) hp hz4 fun c o c1 c2 c3 e => Heap.get?_push_of_some _ (hk c o c1 c2 c3 e)
theorem next_end_held {Q : Fin → Shared → Prop} (hh : A.handled = none) (D : ZipApart z TI TO i1 i2 l1 l2)
    (hz : IsZipHeld s.heap z TI TO T f) (hT : s.heap.get? T = some oT) (hTI : IsPair s.heap TI (.ref i1) (.ref i2))
    (h1 : s.heap.IsTupleIter i1 l1 k1) (h2 : s.heap.IsTupleIter i2 l2 k2) (hl1 : s.heap.IsTuple l1 xs) (hl2 : s.heap.IsTuple l2 ys) (hend : xs[k1]? = none ∨ ys[k2]? = none)
    (hE : ∀ h' e, (∀ c o, c ≠ z → c ≠ i1 → c ≠ i2 → s.heap.get? c = some o → h'.get? c = some o) → (∃ o, h'.get? e = some o ∧ o.cls = .type "StopIteration") → E (.ref e) { s with heap := h' }) :
    wpAny (model prog w) A (Builtin.«zip.__next__» ⟨[.ref z], []⟩) Q E s := by
  show wpAny _ _ (field (.ref z) 2 >>= _) _ _ _
  refine wpAny_bind (wpAny_field hz rfl (x := .bool false) rfl ?_)
  show wpAny _ _ (field (.ref z) 3 >>= _) _ _ _
  refine wpAny_bind (wpAny_field hz rfl (x := .ref TI) rfl ?_)
  refine wpAny_bind (wpAny_seqItems hTI rfl ?_)
  show wpAny _ _ (Builtin.SmallTypes.ownedTupleIsFree (.ref z) >>= _) _ _ _
  refine wpAny_bind (wpAny_tupleHeld_zip hz hT fun h₁ hz₁ hs₁ => ?_)
  simp only [Bool.false_eq_true, if_false]
  refine wpAny_bind ?_
  rw [← Array.forIn_toList]
  simp only [List.forIn_cons, List.forIn_nil]
  refine wpAny_bind (wpAny_bind (wpAny_holding ?_))
  show wpAny _ _ (Builtin.SmallTypes.nextOf (.ref i1) >>= _) _ _ _
  cases hx : xs[k1]? with
  | none =>
    refine wpAny_bind (nextOf_tuple_end (s := { s with heap := h₁ }) hh (h1.extBut hs₁.extBut D.i1z) (hl1.extBut hs₁.extBut D.l1z) hx fun h₂ e hs₂ he => ?_)
    exact hE h₂ e (fun c o c1 c2 _ x => hs₂ _ _ c2 (hs₁.extBut _ _ c1 x)) he
  | some x =>
    have hy : ys[k2]? = none := by rcases hend with h | h; rw [hx] at h; cases h; exact h
    refine wpAny_bind (nextOf_tuple_item (s := { s with heap := h₁ }) (h1.extBut hs₁.extBut D.i1z) (hl1.extBut hs₁.extBut D.l1z) hx fun h₂ h1₂ hs₂ => wpAny_pure ?_)
    refine wpAny_pure ?_
    refine wpAny_bind (wpAny_bind (wpAny_holding ?_))
    show wpAny _ _ (Builtin.SmallTypes.nextOf (.ref i2) >>= _) _ _ _
    refine wpAny_bind (nextOf_tuple_end (s := { s with heap := h₂ }) hh ((h2.extBut hs₁.extBut D.i2z).extBut hs₂.extBut D.i12.symm) ((hl2.extBut hs₁.extBut D.l2z).extBut hs₂.extBut D.l2i1) hy fun h₃ e hs₃ he => ?_)
    exact hE h₃ e (fun c o c1 c2 c3 x => hs₃ _ _ c3 (hs₂.extBut _ _ c2 (hs₁.extBut _ _ c1 x))) he
theorem pyNext_item_held {Q : Option Value → Shared → Prop} (D : ZipApart z TI TO i1 i2 l1 l2)
    (hz : IsZipHeld s.heap z TI TO T f) (hT : s.heap.get? T = some oT) (hTI : IsPair s.heap TI (.ref i1) (.ref i2))
    (h1 : s.heap.IsTupleIter i1 l1 k1) (h2 : s.heap.IsTupleIter i2 l2 k2) (hl1 : s.heap.IsTuple l1 xs) (hl2 : s.heap.IsTuple l2 ys) (hx : xs[k1]? = some x) (hy : ys[k2]? = some y)
    (hQ : ∀ h', IsZipHeld h' z TI TO T true → h'.IsTupleIter i1 l1 (k1 + 1) → h'.IsTupleIter i2 l2 (k2 + 1) → IsPair h' s.heap.objs.size x y → h'.objs.size = s.heap.objs.size + 1 →
      (∀ c o, c ≠ z → c ≠ i1 → c ≠ i2 → s.heap.get? c = some o → h'.get? c = some o) → Q (some (.ref s.heap.objs.size)) { s with heap := h' }) :
    wpAny (model prog w) A (pyNext (.ref z)) Q E s := by
  have hTy : s.TypeIs (.ref z) "zip" := ⟨_, hz, rfl⟩
  unfold pyNext
  exact wpAny_bind (wpAny_attempt (wpAny_callSpecial?_slot (name := Str.ofString "__next__") hTy F.slot_zip_next
    (wpAny_call_entry F.slot_zip_next hTy F.entry_zip_next
      (next_item_held D hz hT hTI h1 h2 hl1 hl2 hx hy fun h' a1 a3 a4 a5 a6 a7 => wpAny_pure (hQ h' a1 a3 a4 a5 a6 a7)) (F.args_zip_next_1 _))))
theorem pyNext_end_held {Q : Option Value → Shared → Prop} (hh : A.handled = none) (D : ZipApart z TI TO i1 i2 l1 l2)
    (hz : IsZipHeld s.heap z TI TO T f) (hT : s.heap.get? T = some oT) (hTI : IsPair s.heap TI (.ref i1) (.ref i2))
    (h1 : s.heap.IsTupleIter i1 l1 k1) (h2 : s.heap.IsTupleIter i2 l2 k2) (hl1 : s.heap.IsTuple l1 xs) (hl2 : s.heap.IsTuple l2 ys) (hend : xs[k1]? = none ∨ ys[k2]? = none)
    (hQ : ∀ h', (∀ c o, c ≠ z → c ≠ i1 → c ≠ i2 → s.heap.get? c = some o → h'.get? c = some o) → Q none { s with heap := h' }) : wpAny (model prog w) A (pyNext (.ref z)) Q E s := by
  have hTy : s.TypeIs (.ref z) "zip" := ⟨_, hz, rfl⟩
  unfold pyNext
  refine wpAny_bind (wpAny_attempt (wpAny_callSpecial?_slot (name := Str.ofString "__next__") hTy F.slot_zip_next
    (wpAny_call_entry F.slot_zip_next hTy F.entry_zip_next (next_end_held hh D hz hT hTI h1 h2 hl1 hl2 hend fun h' e hk he => ?_) (F.args_zip_next_1 _))))
  obtain ⟨o, ho, hc⟩ := he
  refine wpAny_bind (wpAny_isInstance (T := "StopIteration") (b := true) ⟨o, ho, hc⟩ isSubtype_stop ?_)
  exact wpAny_pure (hQ _ hk)
/-- a zip that has given out i tuples, all of them held -/
def St (h : Heap) (z TI TO i1 i2 l1 l2 S : Addr) (i : Nat) : Prop :=
  IsPair h TI (.ref i1) (.ref i2) ∧ h.IsTupleIter i1 l1 i ∧ h.IsTupleIter i2 l2 i ∧ ((IsZip h z TI TO .none ∧ ∃ a b, IsPair h TO a b) ∨ ∃ T f oT, IsZipHeld h z TI TO T f ∧ h.get? T = some oT ∧ S < T)
structure Below (z TI TO i1 i2 l1 l2 S : Addr) : Prop where
  z : z < S
  TI : TI < S
  TO : TO < S
  i1 : i1 < S
  i2 : i2 < S
  l1 : l1 < S
  l2 : l2 < S
variable {S : Addr} {i : Nat}
theorem St.isZip {h : Heap} (x : St h z TI TO i1 i2 l1 l2 S i) : ∃ f0 f1, h.get? z = some { cls := .type "zip", dict := none, data := .fields #[f0, f1, .bool false, .ref TI, .ref TO], slots := #[] } := by
  obtain ⟨_, _, _, h1 | ⟨_, _, _, h1, _⟩⟩ := x
  · exact ⟨_, _, h1.1⟩
  · exact ⟨_, _, h1⟩
theorem St.keep {h h' : Heap} (x : St h z TI TO i1 i2 l1 l2 S i) (B : Below z TI TO i1 i2 l1 l2 S) (hk : ∀ b o, b ≠ S → h.get? b = some o → h'.get? b = some o) : St h' z TI TO i1 i2 l1 l2 S i := by
  obtain ⟨a1, a2, a3, a4⟩ := x
  refine ⟨hk _ _ (Nat.ne_of_lt B.TI) a1, a2.at fun o e => hk _ o (Nat.ne_of_lt B.i1) e, a3.at fun o e => hk _ o (Nat.ne_of_lt B.i2) e, ?_⟩
  rcases a4 with ⟨h1, a, b, h2⟩ | ⟨T, f, oT, h1, h2, h3⟩
  · exact .inl ⟨hk _ _ (Nat.ne_of_lt B.z) h1, a, b, hk _ _ (Nat.ne_of_lt B.TO) h2⟩
  · exact .inr ⟨T, f, oT, hk _ _ (Nat.ne_of_lt B.z) h1, hk _ _ (Nat.ne_of_gt h3) h2, h3⟩
theorem item (D : ZipApart z TI TO i1 i2 l1 l2) (B : Below z TI TO i1 i2 l1 l2 S) (x : St s.heap z TI TO i1 i2 l1 l2 S i) (hS : S < s.heap.objs.size) (hl1 : s.heap.IsTuple l1 xs) (hl2 : s.heap.IsTuple l2 ys) {u v : Value} (hx : xs[i]? = some u) (hy : ys[i]? = some v) {Q : Option Value → Shared → Prop}
    (hQ : ∀ h', St h' z TI TO i1 i2 l1 l2 S (i + 1) → IsPair h' s.heap.objs.size u v → h'.objs.size = s.heap.objs.size + 1 → (∀ c o, c ≠ z → c ≠ TO → c ≠ i1 → c ≠ i2 → s.heap.get? c = some o → h'.get? c = some o) → Q (some (.ref s.heap.objs.size)) { s with heap := h' }) :
    wpAny (model prog w) A (pyNext (.ref z)) Q E s := by
  obtain ⟨a1, a2, a3, a4⟩ := x
  rcases a4 with ⟨h1, a, b, h2⟩ | ⟨T, f, oT, h1, h2, h3⟩
  · refine pyNext_zipT_item D h1 a1 h2 a2 a3 hl1 hl2 hx hy fun h' b1 b2 b3 b4 b5 b6 b7 => hQ h' ⟨b7 _ _ D.TIz D.TITO D.TIi1 D.TIi2 a1, b3, b4, .inr ⟨s.heap.objs.size, false, _, b1, b5, hS⟩⟩ b5 b6 b7
  · refine pyNext_item_held D h1 h2 a1 a2 a3 hl1 hl2 hx hy fun h' b1 b3 b4 b5 b6 b7 => hQ h' ⟨b7 _ _ D.TIz D.TIi1 D.TIi2 a1, b3, b4, .inr ⟨T, true, oT, b1, b7 _ _ (Nat.ne_of_gt (Nat.lt_trans B.z h3)) (Nat.ne_of_gt (Nat.lt_trans B.i1 h3)) (Nat.ne_of_gt (Nat.lt_trans B.i2 h3)) h2, h3⟩⟩ b5 b6 fun c o c1 _ c3 c4 => b7 c o c1 c3 c4
theorem ends (hh : A.handled = none) (D : ZipApart z TI TO i1 i2 l1 l2) (x : St s.heap z TI TO i1 i2 l1 l2 S i) (hl1 : s.heap.IsTuple l1 xs) (hl2 : s.heap.IsTuple l2 ys) (hend : xs[i]? = none ∨ ys[i]? = none) {Q : Option Value → Shared → Prop}
    (hQ : ∀ h', (∀ c o, c ≠ z → c ≠ TO → c ≠ i1 → c ≠ i2 → s.heap.get? c = some o → h'.get? c = some o) → Q none { s with heap := h' }) : wpAny (model prog w) A (pyNext (.ref z)) Q E s := by
  obtain ⟨a1, a2, a3, a4⟩ := x
  rcases a4 with ⟨h1, a, b, h2⟩ | ⟨T, f, oT, h1, h2, h3⟩
  · exact pyNext_zipT_end hh D h1 a1 h2 a2 a3 hl1 hl2 hend hQ
  · exact pyNext_end_held hh D h1 h2 a1 a2 a3 hl1 hl2 hend fun h' hk => hQ h' fun c o c1 _ c3 c4 => hk c o c1 c3 c4
/-- the tuples given out -/
structure G (xs ys : Array Value) (lo : Addr) (h : Heap) (as : List Addr) : Prop where
  rise : as.Pairwise (· < ·)
  above : ∀ a ∈ as, lo < a
  pairs : ∀ (j : Nat) (a : Addr), as[j]? = some a → ∃ x y, xs[j]? = some x ∧ ys[j]? = some y ∧ h.get? a = some { cls := .type "tuple", data := .seq #[x, y] }
theorem G.there {lo : Addr} {h : Heap} {as : List Addr} (g : G xs ys lo h as) {a : Addr} (ha : a ∈ as) : a < h.objs.size := by
  obtain ⟨j, hj⟩ := List.mem_iff_getElem?.mp ha
  obtain ⟨_, _, _, _, e⟩ := g.pairs j a hj
  exact Heap.lt_size e
end
section
variable {prog : Program} {w : World} {A : Around} {s : Shared} {R : Result → Shared → Prop} {z TI TO i1 i2 l1 l2 S : Addr} {xs ys : Array Value}
theorem loop (hh : A.handled = none) (D : ZipApart z TI TO i1 i2 l1 l2) (B : Below z TI TO i1 i2 l1 l2 S) {n : Nat} (hnx : n = min xs.size ys.size) (hn : n ≤ sizeLine) (res : Value) {h₁ : Heap} (hl1 : h₁.IsTuple l1 xs) (hl2 : h₁.IsTuple l2 ys)
    (hR : ∀ h' tk acc c as, (∀ b o, b ≠ S → b ≠ z → b ≠ TO → b ≠ i1 → b ≠ i2 → h₁.get? b = some o → h'.get? b = some o) → h'.get? S = some { cls := .type "list", dict := none, data := .seq acc c, slots := #[] } → as.length = n → G xs ys S h' as →
      acc.toList = as.map Value.ref → R (.ok (.ret res)) { s with heap := h', toks := tk }) :
    ∀ (k i : Nat) (h : Heap) (tk c : Nat) (acc : Array Value) (as : List Addr), n - i = k → i ≤ n → St h z TI TO i1 i2 l1 l2 S i → (∀ b o, b ≠ S → b ≠ z → b ≠ TO → b ≠ i1 → b ≠ i2 → h₁.get? b = some o → h.get? b = some o) →
      h.get? S = some { cls := .type "list", dict := none, data := .seq acc c, slots := #[] } → acc.toList = as.map Value.ref → as.length = i → G xs ys S h as →
      codeAny (model prog w) A (.builtin "list.extend.loop" ⟨[.ref S, .ref z, res], []⟩) R { s with heap := h, toks := tk } := by
  have nS : ∀ {c : Addr}, c < S → S ≠ c := fun h => Nat.ne_of_gt h
  have tup : ∀ {h : Heap} {l : Addr} {vs : Array Value}, l < S → l ≠ z → l ≠ TO → l ≠ i1 → l ≠ i2 → h₁.IsTuple l vs → (∀ b o, b ≠ S → b ≠ z → b ≠ TO → b ≠ i1 → b ≠ i2 → h₁.get? b = some o → h.get? b = some o) → h.IsTuple l vs :=
    fun c0 c1 c2 c3 c4 hv hk => hv.at fun o e => hk _ o (Nat.ne_of_lt c0) c1 c2 c3 c4 e
  intro k
  induction k with
  | zero =>
    intro i h tk c acc as hk hi hst hkeep hS hacc hal hG
    have hin : i = n := by omega
    refine codeAny_builtin PySem.F.entry_extend_loop ?_
    rw [Around.under_plainId PySem.F.plain_extend_loop _]
    show wpAny _ A.in1 (pyNext (.ref z) >>= _) _ _ _
    refine wpAny_bind (ends (s := { s with heap := h, toks := tk }) (A := A.in1) hh D hst (tup B.l1 D.l1z D.l1TO D.l1i1 D.l1i2 hl1 hkeep) (tup B.l2 D.l2z D.l2TO D.l2i1 D.l2i2 hl2 hkeep) ?_ fun h' he => ?_)
    · rcases Nat.le_total xs.size ys.size with z | z
      · exact .inl (by simp; omega)
      · exact .inr (by simp; omega)
    refine wpAny_pure (hR h' tk acc c as (fun b o c0 c1 c2 c3 c4 e => he b o c1 c2 c3 c4 (hkeep b o c0 c1 c2 c3 c4 e)) (he S _ (nS B.z) (nS B.TO) (nS B.i1) (nS B.i2) hS) (by omega) ⟨hG.rise, hG.above, fun j a hj => ?_⟩ hacc)
    obtain ⟨x, y, e1, e2, e3⟩ := hG.pairs j a hj
    have ha := hG.above a (List.mem_of_getElem? hj)
    exact ⟨x, y, e1, e2, he a _ (Nat.ne_of_gt (Nat.lt_trans B.z ha)) (Nat.ne_of_gt (Nat.lt_trans B.TO ha)) (Nat.ne_of_gt (Nat.lt_trans B.i1 ha)) (Nat.ne_of_gt (Nat.lt_trans B.i2 ha)) e3⟩
  | succ k ih =>
    intro i h tk c acc as hk hi hst hkeep hS hacc hal hG
    have hlt : i < n := by omega
    have hx : xs[i]? = some xs[i] := Array.getElem?_eq_getElem (by omega)
    have hy : ys[i]? = some ys[i] := Array.getElem?_eq_getElem (by omega)
    have hsz : acc.size = i := by rw [← Array.length_toList, hacc, List.length_map, hal]
    refine codeAny_builtin PySem.F.entry_extend_loop ?_
    rw [Around.under_plainId PySem.F.plain_extend_loop _]
    show wpAny _ A.in1 (pyNext (.ref z) >>= _) _ _ _
    have hSl : S < h.objs.size := Heap.lt_size hS
    refine wpAny_bind (item (s := { s with heap := h, toks := tk }) D B hst hSl (tup B.l1 D.l1z D.l1TO D.l1i1 D.l1i2 hl1 hkeep) (tup B.l2 D.l2z D.l2TO D.l2i1 D.l2i2 hl2 hkeep) hx hy fun h' hst' ht hz hkp => ?_)
    dsimp only at ht hz hkp ⊢
    have hS' := hkp S _ (nS B.z) (nS B.TO) (nS B.i1) (nS B.i2) hS
    have up : ∀ b o, b ≠ S → h'.get? b = some o → (h'.update S (Obj.mapSeq (·.push (Value.ref h.objs.size)))).get? b = some o := fun b o hb e => (Heap.get?_update_other _ _ (Ne.symm hb)).trans e
    show wpAny _ A.in1 (updateSeq S (·.push (Value.ref h.objs.size)) >>= _) _ _ _
    refine wpAny_bind ?_
    refine wpAny_updateSeq hS' rfl (wpAny_pure ⟨plainId_quiet PySem.F.plain_extend_loop _, ih (i + 1) _ tk _ (acc.push (Value.ref h.objs.size)) (as ++ [h.objs.size]) (by omega) hlt (hst'.keep B up)
      (fun b o c0 c1 c2 c3 c4 e => up b o c0 (hkp b o c1 c2 c3 c4 (hkeep b o c0 c1 c2 c3 c4 e))) (Heap.get?_update_self _ hS' rfl) (by rw [Array.toList_push, hacc, List.map_append]; rfl) (by rw [List.length_append, hal]; rfl) ⟨?_, ?_, ?_⟩⟩) (by rw [hsz]; omega) (by show (acc.push (Value.ref h.objs.size)).size ≤ sizeLine + 1; rw [Array.size_push, hsz]; omega)
    · refine List.pairwise_append.mpr ⟨hG.rise, List.pairwise_singleton _ _, fun a ha b hb => ?_⟩
      rw [List.mem_singleton.mp hb]
      exact hG.there ha
    · intro a ha
      rcases List.mem_append.mp ha with ha | ha
      · exact hG.above a ha
      · rw [List.mem_singleton.mp ha]; exact hSl
    · intro j b hj
      rcases Nat.lt_trichotomy j as.length with h1 | h1 | h1
      · rw [List.getElem?_append_left h1] at hj
        obtain ⟨x', y', e1, e2, e3⟩ := hG.pairs j b hj
        have hb := hG.above b (List.mem_of_getElem? hj)
        exact ⟨x', y', e1, e2, up b _ (Nat.ne_of_gt hb) (hkp b _ (Nat.ne_of_gt (Nat.lt_trans B.z hb)) (Nat.ne_of_gt (Nat.lt_trans B.TO hb)) (Nat.ne_of_gt (Nat.lt_trans B.i1 hb)) (Nat.ne_of_gt (Nat.lt_trans B.i2 hb)) e3)⟩
      · subst h1
        have hb : h.objs.size = b := by simpa using hj
        subst hb
        exact ⟨xs[i], ys[i], by rw [hal]; exact hx, by rw [hal]; exact hy, up _ _ (Nat.ne_of_gt hSl) ht⟩
      · have hnone : (as ++ [h.objs.size])[j]? = none := List.getElem?_eq_none (by rw [List.length_append, List.length_singleton]; omega)
        rw [hnone] at hj; cases hj
theorem extend (hh : A.handled = none) (D : ZipApart z TI TO i1 i2 l1 l2) (B : Below z TI TO i1 i2 l1 l2 S) {n : Nat} (hnx : n = min xs.size ys.size) (hn : n ≤ sizeLine) (res : Value) (c₀ : Nat) (hl1 : s.heap.IsTuple l1 xs) (hl2 : s.heap.IsTuple l2 ys) (hz : IsZip s.heap z TI TO .none) (hst : St s.heap z TI TO i1 i2 l1 l2 S 0)
    (hS : s.heap.get? S = some { cls := .type "list", data := .seq #[] c₀ })
    (hR : ∀ h' tk acc c as, (∀ b o, b ≠ S → b ≠ z → b ≠ TO → b ≠ i1 → b ≠ i2 → s.heap.get? b = some o → h'.get? b = some o) → h'.get? S = some { cls := .type "list", dict := none, data := .seq acc c, slots := #[] } → as.length = n → G xs ys S h' as →
      acc.toList = as.map Value.ref → R (.ok (.ret res)) { s with heap := h', toks := tk }) :
    wpAny (model prog w) A.in1 (Builtin.List.listExtendWith (.ref S) (.ref z) res)
      (fun fin s' => match fin with | .done f => R (.ok f) s' | .again c' => c'.quiet = true ∧ codeAny (model prog w) A c' R s') (fun e s' => R (.error e) s') s := by
  have hSz : S ≠ z := Nat.ne_of_gt B.z
  have hT : s.TypeIs (.ref z) "zip" := ⟨_, hz, rfl⟩
  unfold Builtin.List.listExtendWith
  refine wpAny_bind (wpAny_typeOf hT ?_)
  have h1 : Builtin.List.listSameRef (.ref S) (.ref z) = false := by simp [Builtin.List.listSameRef, hSz]
  have h2 : (Value.type "zip" == Value.type "list") = false := by decide
  have h3 : (Value.type "zip" == Value.type "tuple") = false := by decide
  simp only [h1, h2, h3, Bool.or_false, Bool.false_eq_true, if_false]
  refine wpAny_bind (wpAny_pyIter_zip hz ?_)
  refine wpAny_bind (wpAny_holding ?_)
  unfold Builtin.List.listLengthHint
  refine wpAny_bind (wpAny_specialOf hT zip_no_len ?_)
  show wpAny _ A.in1 (specialOf (Value.ref z) (Str.ofString "__length_hint__") >>= _) _ _ _
  refine wpAny_bind (wpAny_specialOf hT zip_no_hint ?_)
  refine wpAny_pure ?_
  show wpAny _ A.in1 (rule "list.extend.makes-room" >>= fun _ => Builtin.List.listTouch (.ref S) >>= fun _ =>
    again (.builtin "list.extend.loop" ⟨[.ref S, .ref z, res], []⟩)) _ _ _
  refine wpAny_bind (wpAny_rule ?_)
  refine wpAny_bind ?_
  show wpAny _ A.in1 (updateSeq S (·.push .none) >>= fun _ => updateSeq S (·.pop)) _ _ _
  refine wpAny_bind (wpAny_updateSeq hS rfl ?_)
  have hS₂ := Heap.get?_update_self (Obj.mapSeq (·.push Value.none)) hS rfl
  refine wpAny_updateSeq (hz := by seq_fits) hS₂ rfl ?_
  have hS₃ := Heap.get?_update_self (Obj.mapSeq (·.pop)) hS₂ rfl
  have oth : ∀ b o, b ≠ S → s.heap.get? b = some o → ((s.heap.update S (Obj.mapSeq (·.push Value.none))).update S (Obj.mapSeq (·.pop))).get? b = some o :=
    fun b o hb e => (Heap.get?_update_other _ _ (Ne.symm hb)).trans ((Heap.get?_update_other _ _ (Ne.symm hb)).trans e)
  refine wpAny_pure ⟨plainId_quiet F.plain_extend_loop _, loop (s := s) (h₁ := s.heap) hh D B hnx hn res hl1 hl2 hR n 0 _ s.toks _ #[] [] (Nat.sub_zero _) (Nat.zero_le _) (hst.keep B oth) (fun b o c0 _ _ _ _ e => oth b o c0 e) hS₃ rfl rfl ⟨List.Pairwise.nil, (fun _ ha => nomatch ha), (fun j a hj => by simp at hj)⟩⟩
theorem init (hh : A.handled = none) (D : ZipApart z TI TO i1 i2 l1 l2) (B : Below z TI TO i1 i2 l1 l2 S) {n : Nat} (hnx : n = min xs.size ys.size) (hn : n ≤ sizeLine) (hl1 : s.heap.IsTuple l1 xs) (hl2 : s.heap.IsTuple l2 ys) (hz : IsZip s.heap z TI TO .none) (hst : St s.heap z TI TO i1 i2 l1 l2 S 0)
    (hS : s.heap.get? S = some { cls := .type "list", data := .seq #[] })
    (hR : ∀ h' tk acc c as, (∀ b o, b ≠ S → b ≠ z → b ≠ TO → b ≠ i1 → b ≠ i2 → s.heap.get? b = some o → h'.get? b = some o) → h'.get? S = some { cls := .type "list", dict := none, data := .seq acc c, slots := #[] } → as.length = n → G xs ys S h' as →
      acc.toList = as.map Value.ref → R (.ok (.ret .none)) { s with heap := h', toks := tk }) :
    wpAny (model prog w) A.in1 (Builtin.«list.__init__» ⟨[.ref S, .ref z], []⟩)
      (fun fin s' => match fin with | .done f => R (.ok f) s' | .again c' => c'.quiet = true ∧ codeAny (model prog w) A c' R s') (fun e s' => R (.error e) s') s := by
  show wpAny _ A.in1 (do let old ← Builtin.List.listItems (.ref S); Builtin.List.listUpdate (.ref S) (fun _ => #[]); letGo old.toList.reverse; Builtin.List.listExtendWith (.ref S) (.ref z) .none) _ _ s
  refine wpAny_bind ?_
  unfold Builtin.List.listItems
  refine wpAny_bind (wpAny_seqItems hS rfl (wpAny_pure ?_))
  show wpAny _ A.in1 (updateSeq S (fun _ => #[]) >>= fun _ => letGo (#[] : Array Value).toList.reverse >>= fun _ => Builtin.List.listExtendWith (.ref S) (.ref z) .none) _ _ s
  refine wpAny_bind (wpAny_updateSeq hS rfl ?_)
  have hS₂ := Heap.get?_update_self (Obj.mapSeq (fun _ => (#[] : Array Value))) hS rfl
  have oth : ∀ b o, b ≠ S → s.heap.get? b = some o → (s.heap.update S (Obj.mapSeq (fun _ => (#[] : Array Value)))).get? b = some o :=
    fun b o hb e => (Heap.get?_update_other _ _ (Ne.symm hb)).trans e
  refine wpAny_bind (wpAny_letGo ?_)
  refine extend (s := { s with heap := s.heap.update S (Obj.mapSeq (fun _ => (#[] : Array Value))) }) hh D B hnx hn .none _ (hl1.at fun o e => oth _ o (Nat.ne_of_lt B.l1) e) (hl2.at fun o e => oth _ o (Nat.ne_of_lt B.l2) e) (oth _ _ (Nat.ne_of_lt B.z) hz) (hst.keep B oth) hS₂ fun h' tk acc c as hk hS' hl hG hacc => ?_
  exact hR h' tk acc c as (fun b o c0 c1 c2 c3 c4 e => hk b o c0 c1 c2 c3 c4 (oth b o c0 e)) hS' hl hG hacc
end
section
variable {prog : Program} {w : World} {A : Around} {E : Value → Shared → Prop} {s : Shared} {z TI TO i1 i2 l1 l2 : Addr} {xs ys : Array Value}
theorem call_list {Q : Value → Shared → Prop} (hh : A.handled = none) (D : ZipApart z TI TO i1 i2 l1 l2) (B : Below z TI TO i1 i2 l1 l2 s.heap.objs.size) {n : Nat} (hnx : n = min xs.size ys.size) (hn : n ≤ sizeLine) (hl1 : s.heap.IsTuple l1 xs) (hl2 : s.heap.IsTuple l2 ys) (hz : IsZip s.heap z TI TO .none) (hst : St s.heap z TI TO i1 i2 l1 l2 s.heap.objs.size 0)
    (hQ : ∀ h' tk acc c as, (∀ b o, b ≠ z → b ≠ TO → b ≠ i1 → b ≠ i2 → s.heap.get? b = some o → h'.get? b = some o) → h'.get? s.heap.objs.size = some { cls := .type "list", dict := none, data := .seq acc c, slots := #[] } → as.length = n → G xs ys s.heap.objs.size h' as →
      acc.toList = as.map Value.ref → Q (.ref s.heap.objs.size) { s with heap := h', toks := tk }) :
    wpAny (model prog w) A (call (.type "list") [.ref z]) Q E s := by
  refine callType_codes (Q₁ := fun obj s₁ => obj = .ref s.heap.objs.size ∧ s₁ = { s with heap := s.heap.push { cls := .type "list", data := .seq #[] } }) PySem.F.called_list (PySem.F.typeCall_list_1 _) PySem.F.entry_list_init
    (code_list_new _ ⟨rfl, rfl⟩) fun obj s₁ h₁ => ?_
  obtain ⟨rfl, rfl⟩ := h₁
  have up : ∀ b o, s.heap.get? b = some o → (s.heap.push { cls := .type "list", data := .seq #[] }).get? b = some o := fun b o e => Heap.get?_push_of_some _ e
  have hS : (s.heap.push { cls := .type "list", data := .seq #[] }).get? s.heap.objs.size = some { cls := .type "list", data := .seq #[] } := Heap.get?_push_size _ rfl
  refine ⟨⟨_, hS, rfl⟩, PySem.F.args_list_init_2 _ _, init (A := A.in1) (s := { s with heap := s.heap.push { cls := .type "list", data := .seq #[] } }) hh D B hnx hn (hl1.at fun o e => up _ o e) (hl2.at fun o e => up _ o e) (up _ _ hz) (hst.keep B fun b o _ e => up b o e) hS fun h' tk acc c as hk hS' hl hG hacc => ?_⟩
  exact ⟨rfl, hQ h' tk acc c as (fun b o c1 c2 c3 c4 e => hk b o (Nat.ne_of_lt (Heap.lt_size e)) c1 c2 c3 c4 (up b o e)) hS' hl hG hacc⟩
end
end LZ
namespace DL
open PySem PySem.Spec PyProof.Rows L2
/-! ### new objects laid at their addresses -/
def putO : Hp → List Addr → List HO → Hp
  | H, a :: as, o :: os => putO (L2.upd H a o) as os
  | H, _, _ => H
theorem putO_off {b : Addr} : ∀ (as : List Addr) (os : List HO) (H : Hp), b ∉ as → putO H as os b = H b
  | [], _, _, _ => rfl
  | _ :: _, [], _, _ => rfl
  | a :: as, o :: os, H, h => by
    show putO (L2.upd H a o) as os b = H b
    rw [putO_off as os _ (fun z => h (List.mem_cons_of_mem _ z)), upd_ne (fun z => h (by rw [z]; exact List.mem_cons_self))]
theorem putO_at : ∀ (as : List Addr) (os : List HO) (H : Hp), as.length = os.length → as.Nodup → ∀ (j : Nat) (a : Addr) (o : HO), as[j]? = some a → os[j]? = some o → putO H as os a = some o
  | [], _, _, _, _, j, a, o, h, _ => by simp at h
  | _ :: _, [], _, h, _, _, _, _, _, _ => by cases h
  | b :: as, q :: os, H, hl, hn, 0, a, o, h1, h2 => by
    simp at h1 h2
    subst h1 h2
    show putO (L2.upd H b q) as os b = some q
    rw [putO_off as os _ (List.nodup_cons.mp hn).1, upd_same]
  | b :: as, q :: os, H, hl, hn, j + 1, a, o, h1, h2 => putO_at as os (L2.upd H b q) (Nat.succ.inj hl) (List.nodup_cons.mp hn).2 j a o (by simpa using h1) (by simpa using h2)
def pairO (xs ys : List V) (us vs : List Value) (j : Nat) : HO := .frz { cls := .type "tuple", data := .seq #[us.getD j .none, vs.getD j .none] } (.tup [xs.getD j .non, ys.getD j .non])
section
variable {X : Cx} {pins : List (Addr × Obj)} {σ : L2.St} {H : Hp} {s : Shared} {h' : Heap} {tk : Nat} {xs ys : List V} {us vs : List Value} {acc : Array Value} {c : Nat} {as : List Addr} {S : Addr}
theorem vals_refs' : ∀ as : List Addr, Vals (as.map V.ref) (as.map Value.ref)
  | [] => .nil
  | _ :: as => .cons rfl (vals_refs' as)
theorem zip_laid (I : Inv X pins σ H s) (hz : as.length ≤ sizeLine) (rx : Vals xs us) (ry : Vals ys vs) (hSs : s.heap.objs.size ≤ S)
    (hk : ∀ b o, s.heap.get? b = some o → h'.get? b = some o) (hS : h'.get? S = some { cls := .type "list", dict := none, data := .seq acc c, slots := #[] }) (hl : as.length = min us.length vs.length) (hG : LZ.G us.toArray vs.toArray S h' as) (hacc : acc.toList = as.map Value.ref) :
    ∃ H' : Hp, Same H H' ∧ H S = none ∧ (∀ t ∈ as, H t = none) ∧ S ∉ as ∧ H' S = some (.lst (as.map V.ref)) ∧ (∀ (j : Nat) (t : Addr), as[j]? = some t → ∃ ob x y, ob.dict = none ∧ xs[j]? = some x ∧ ys[j]? = some y ∧ H' t = some (.frz ob (.tup [x, y]))) ∧ Inv X pins σ H' { s with heap := h', toks := tk } := by
  have hSn : S ∉ as := fun z => Nat.lt_irrefl _ (hG.above _ z)
  have nd : as.Nodup := List.Pairwise.imp (fun {a b} (h : a < b) => Nat.ne_of_lt h) hG.rise
  have new : ∀ t ∈ as, H t = none := fun t ht => I.hok.fresh (Nat.le_trans hSs (Nat.le_of_lt (hG.above t ht)))
  have newS : H S = none := I.hok.fresh hSs
  have lx := rx.length
  have ly := ry.length
  have oget : ∀ (j : Nat) (t : Addr), as[j]? = some t → ((List.range as.length).map (pairO xs ys us vs))[j]? = some (pairO xs ys us vs j) := fun j t e => by
    have := (List.getElem?_eq_some_iff.mp e).1
    rw [List.getElem?_map, List.getElem?_range this]
    rfl
  have atP : ∀ (j : Nat) (t : Addr), as[j]? = some t → putO (L2.upd H S (.lst (as.map V.ref))) as ((List.range as.length).map (pairO xs ys us vs)) t = some (pairO xs ys us vs j) := fun j t e =>
    putO_at as _ _ (by rw [List.length_map, List.length_range]) nd j t _ e (oget j t e)
  generalize hos : (List.range as.length).map (pairO xs ys us vs) = os at atP oget
  have off : ∀ b, b ∉ as → b ≠ S → putO (L2.upd H S (.lst (as.map V.ref))) as os b = H b := fun b h1 h2 => by rw [putO_off as os _ h1, upd_ne h2]
  have low : ∀ b o, s.heap.get? b = some o → b ∉ as ∧ b ≠ S := fun b o e => ⟨fun z => absurd (Heap.lt_size e) (Nat.not_lt.mpr (Nat.le_trans hSs (Nat.le_of_lt (hG.above b z)))), fun z => absurd (Heap.lt_size e) (Nat.not_lt.mpr (by rw [z]; exact hSs))⟩
  have kp : ∀ b u, H b = some u → (putO (L2.upd H S (.lst (as.map V.ref))) as os) b = some u := fun b u e => by
    rw [off b (fun z => by rw [new b z] at e; cases e) (fun z => by rw [z, newS] at e; cases e)]
    exact e
  have eS : putO (L2.upd H S (.lst (as.map V.ref))) as os S = some (.lst (as.map V.ref)) := by rw [putO_off as os _ hSn, upd_same]
  have items : ∀ (j : Nat) (t : Addr), as[j]? = some t → ∃ x y u v, xs[j]? = some x ∧ ys[j]? = some y ∧ us[j]? = some u ∧ vs[j]? = some v ∧ RelV x u ∧ RelV y v ∧ pairO xs ys us vs j = .frz { cls := .type "tuple", data := .seq #[u, v] } (.tup [x, y]) ∧ h'.get? t = some { cls := .type "tuple", data := .seq #[u, v] } := fun j t e => by
    obtain ⟨u, v, e1, e2, e3⟩ := hG.pairs j t e
    have e1 : us[j]? = some u := by simpa using e1
    have e2 : vs[j]? = some v := by simpa using e2
    have hj1 := (List.getElem?_eq_some_iff.mp e1).1
    have hj2 := (List.getElem?_eq_some_iff.mp e2).1
    have x1 : xs[j]? = some xs[j] := List.getElem?_eq_getElem (by omega)
    have y1 : ys[j]? = some ys[j] := List.getElem?_eq_getElem (by omega)
    obtain ⟨u', f1, f2⟩ := rx.get x1
    obtain ⟨v', g1, g2⟩ := ry.get y1
    rw [e1] at f1
    rw [e2] at g1
    cases f1
    cases g1
    refine ⟨_, _, u, v, x1, y1, e1, e2, f2, g2, ?_, e3⟩
    unfold pairO
    rw [List.getD_eq_getElem?_getD, e1, List.getD_eq_getElem?_getD, e2, List.getD_eq_getElem?_getD, x1, List.getD_eq_getElem?_getD, y1]
    rfl
  refine ⟨putO (L2.upd H S (.lst (as.map V.ref))) as os, kp, newS, new, hSn, eS, fun j t e => ?_, ?_⟩
  · obtain ⟨x, y, u, v, e1, e2, _, _, _, _, e3, _⟩ := items j t e
    exact ⟨_, x, y, rfl, e1, e2, by rw [atP j t e, e3]⟩
  · refine I.call' (ch := []) rfl ⟨fun b o q _ _ _ => hk b o q, fun b o q _ _ _ => ⟨o.slots, hk b o q⟩, fun b o q n _ => ?_, fun b o q _ => ⟨o, hk b o q⟩, fun b xs q => kp b _ q, fun b o u q => kp b _ q, fun b ps q => ⟨#[], by rw [kp b _ q]; simp⟩⟩ (fun b u q => ?_) I.bare fun b z => by simp at z
    · obtain ⟨z1, z2⟩ := low b o q
      rw [off b z1 z2]
      exact n
    · by_cases hb : b ∈ as
      · obtain ⟨j, hj⟩ := List.mem_iff_getElem?.mp hb
        rw [atP j b hj] at q
        obtain ⟨x, y, u', v', _, _, _, _, r1, r2, e3, e4⟩ := items j b hj
        rw [e3] at q
        cases q
        exact ⟨e4, by show 2 ≤ sizeLine; decide, [u', v'], .cons r1 (.cons r2 .nil), ⟨_, e4, rfl, _, rfl⟩⟩
      · by_cases hb2 : b = S
        · rw [hb2] at q ⊢
          rw [eS] at q
          cases q
          refine ⟨by rw [List.length_map]; omega, acc.toList, c, by rw [hacc]; exact vals_refs' as, ?_⟩
          rw [Array.toArray_toList]
          exact hS
        · rw [off b hb hb2] at q
          exact (I.hok b u q).stay (fun d v _ y => hk d v y) (fun d y => kp d _ y) fun d xs y => kp d _ y
end
def tListZip (K : PySem.W.Frag) (ta : TA) : TE := fun σ H Q => ta σ H fun ws H1 => ∃ a b xs ys, ws = [.ref a, .ref b] ∧ SqT K H1 a xs ∧ SqT K H1 b ys ∧ xs.length ≤ 1000 ∧
  ∀ (H' : Hp) (S : Addr) (ts : List Addr), Same H1 H' → H1 S = none → (∀ t ∈ ts, H1 t = none) → S ∉ ts → H' S = some (.lst (ts.map V.ref)) → ts.length = min xs.length ys.length →
    (∀ (j : Nat) (t : Addr), ts[j]? = some t → ∃ ob x y, ob.dict = none ∧ xs[j]? = some x ∧ ys[j]? = some y ∧ H' t = some (.frz ob (.tup [x, y]))) → Q (.ref S) H'
section
variable {X : Cx} {K : PySem.W.Frag} {M : List Nat} {a b : Expr} {ta tb : TE} {tr : TA} {fa fb : Fn} {pos p p2 q : Pos}
theorem below_nat {n a b S : Nat} (ha : a < n) (hb : b < n) (hS : S = n + 5) : LZ.Below (n + 4) (n + 2) (n + 3) n (n + 1) a b S := by
  subst hS
  exact ⟨Nat.lt_succ_self (n + 4), Nat.lt_add_of_pos_right (n := n + 2) (k := 3) (by decide), Nat.lt_add_of_pos_right (n := n + 3) (k := 2) (by decide), Nat.lt_add_of_pos_right (n := n) (k := 5) (by decide), Nat.lt_add_of_pos_right (n := n + 1) (k := 4) (by decide), Nat.lt_of_lt_of_le ha (Nat.le_add_right n 5), Nat.lt_of_lt_of_le hb (Nat.le_add_right n 5)⟩
theorem off_nat {c n : Nat} (h : c < n) : c ≠ n + 4 ∧ c ≠ n + 3 ∧ c ≠ n ∧ c ≠ n + 1 := ⟨by omega, by omega, by omega, by omega⟩
theorem pe_listZip (hc : X.calm = true) (hg : Gl X "list") (hm : X.mg "list" = none) (hgz : Gl X "zip") (hmz : X.mg "zip" = none) (ha : PA X [a, b] tr)
    (hs : starEach [a, b] X.env = (false, eval a X.env) :: starEach [b] X.env := by rfl) (hpl : (backTo q (starEach [b] X.env)).any (·.1) = false := by rfl)
    (hs2 : starEach [.Call (.Name "zip" p2) [a, b] [] q] X.env = (false, eval (.Call (.Name "zip" p2) [a, b] [] q) X.env) :: starEach [] X.env := by rfl) :
    PE X (.Call (.Name "list" p) [.Call (.Name "zip" p2) [a, b] [] q] [] pos) (tListZip X.K tr) := by
  refine ⟨fun pins s σ H Q I h => ?_⟩
  refine Call_ (ld_blt I hg hm boot_list (PyProof.Rows.callWith_type1 (args_cons ?_ hs2) hs2))
  refine Call_ (ld_blt I hgz hmz PyProof.Rows.boot_zip (PyProof.Rows.callWith_type1 (L2.thn (ha.run q pins s σ H _ I h) fun us s1 ⟨vs, H1, I1, r1, q1⟩ => ?_) hs hpl))
  obtain ⟨a, b, xs, ys, ex, hqx, hqy, hxl, qq⟩ := q1
  subst ex
  cases r1 with
  | cons r rr =>
    cases rr with
    | cons r' rr =>
      cases rr
      cases r
      cases r'
      obtain ⟨its, rv, p1, _⟩ := I1.tuple hqx
      obtain ⟨its2, rv2, p2, _⟩ := I1.tuple hqy
      obtain ⟨o1, ho1, _⟩ := id p1
      obtain ⟨o2, ho2, _⟩ := id p2
      have la := Heap.lt_size ho1
      have lb := Heap.lt_size ho2
      have D := PySem.W.ktu_apart s1.heap.objs.size a b la lb
      refine RZ.call_zipT (show s1.heap.IsTuple a its.toArray from p1) (show s1.heap.IsTuple b its2.toArray from p2) fun h' hz hTI hTO h1 h2 hsz hk => args_nil ?_
      have B : LZ.Below (s1.heap.objs.size + 4) (s1.heap.objs.size + 2) (s1.heap.objs.size + 3) s1.heap.objs.size (s1.heap.objs.size + 1) a b h'.objs.size := below_nat la lb hsz
      refine LZ.call_list (s := { s1 with heap := h' }) (I.ok.hd hc) D B (n := min its.length its2.length) (by simp) (by have := rv.length; rw [sizeLine_eq]; omega) (Heap.IsTuple.at p1 fun o e => hk _ o e) (Heap.IsTuple.at p2 fun o e => hk _ o e) hz ⟨hTI, h1, h2, .inl ⟨hz, _, _, hTO⟩⟩ fun h2 tk acc c as hk2 hS hl hG hacc => ?_
      have lx := rv.length
      have ly := rv2.length
      have keep : ∀ b o, s1.heap.get? b = some o → h2.get? b = some o := fun c o e => by
        obtain ⟨n1, n2, n3, n4⟩ := off_nat (Heap.lt_size e)
        exact hk2 c o n1 n2 n3 n4 (hk c o e)
      obtain ⟨H', k1, k2, k3, k4, k5, k6, J⟩ := zip_laid (tk := tk) I1 (by rw [sizeLine_eq]; omega) rv rv2 (by show s1.heap.objs.size ≤ h'.objs.size; rw [hsz]; exact Nat.le_add_right _ 5) keep hS hl hG hacc
      exact ⟨.ref _, H', J, rfl, qq H' _ as k1 k2 k3 k4 k5 (by rw [hl]; omega) k6⟩
@[simp] def gListZip : PyData → PyData → Option PyData
  | .tuple xs, .tuple ys => if xs.length ≤ 1000 then some (.list (zpD xs ys)) else none
  | _, _ => none
open Classical in
theorem listZip_grow {Hs H H' : Hp} {S : Addr} {ts : List Addr} {xs ys : List V} {ds es : List PyData} (e : Same Hs H) (k1 : Same H H') (k2 : H S = none) (k3 : ∀ t ∈ ts, H t = none) (k4 : S ∉ ts) (k5 : H' S = some (.lst (ts.map V.ref))) (hl : ts.length = min xs.length ys.length)
    (k6 : ∀ (j : Nat) (t : Addr), ts[j]? = some t → ∃ ob x y, ob.dict = none ∧ xs[j]? = some x ∧ ys[j]? = some y ∧ H' t = some (.frz ob (.tup [x, y]))) (dx : DdAll K Hs xs ds) (dy : DdAll K Hs ys es) :
    ∃ Hs', Grow Hs H Hs' H' ∧ Dd K Hs' (.ref S) (.list (zpD ds es)) := by
  have ex : Same Hs (fun c => if c = S ∨ c ∈ ts then H' c else Hs c) := fun c o z => by
    show (if c = S ∨ c ∈ ts then H' c else Hs c) = some o
    rw [if_neg]
    · exact z
    · rintro (h | h)
      · have := e c o z; rw [h, k2] at this; cases this
      · have := e c o z; rw [k3 c h] at this; cases this
  have aS : (if S = S ∨ S ∈ ts then H' S else Hs S) = some (.lst (ts.map V.ref)) := by rw [if_pos (.inl rfl)]; exact k5
  refine ⟨fun c => if c = S ∨ c ∈ ts then H' c else Hs c, ⟨k1, ex, fun c o z => ?_, fun c z n => ?_⟩, .lst aS ?_⟩
  · have z : (if c = S ∨ c ∈ ts then H' c else Hs c) = some o := z
    by_cases h : c = S ∨ c ∈ ts
    · rw [if_pos h] at z; exact z
    · rw [if_neg h] at z; exact k1 c o (e c o z)
  · show (if c = S ∨ c ∈ ts then H' c else Hs c) = none
    rw [if_neg]
    · exact z
    · rintro (h | h)
      · rw [h] at n; exact n k2
      · exact n (k3 c h)
  · have lx := dx.length
    have ly := dy.length
    have key : ∀ (n : Nat), n ≤ ts.length → DdAll K (fun c => if c = S ∨ c ∈ ts then H' c else Hs c) ((ts.take n).map V.ref) ((zpD ds es).take n) := fun n => by
      induction n with
      | zero => intro _; exact .nil
      | succ n ih =>
        intro hn
        have hlt : n < ts.length := by omega
        have ht : ts[n]? = some ts[n] := List.getElem?_eq_getElem hlt
        obtain ⟨ob, x, y, o1, o2, o3, o4⟩ := k6 n ts[n] ht
        obtain ⟨d, h1, h2⟩ := dx.getv o2
        obtain ⟨d2, h3, h4⟩ := dy.getv o3
        have hz := zpD_get h1 h3
        rw [List.take_succ, ht, List.take_succ, hz, List.map_append]
        refine (ih (by omega)).append (.cons (.tup o1 ?_ (.cons (h2.mono ex) (.cons (h4.mono ex) .nil))) .nil)
        show (if ts[n] = S ∨ ts[n] ∈ ts then H' ts[n] else Hs ts[n]) = _
        rw [if_pos (.inr (List.getElem_mem hlt))]
        exact o4
    have := key ts.length (Nat.le_refl _)
    rw [List.take_length, List.take_of_length_le (by rw [zpD_len]; omega)] at this
    exact this
theorem ed_listZip (ha : ED K X M a ta fa) (hb : ED K X M b tb fb) (hmz : X.mg "zip" = none) (hm : X.mg "list" = none) (hg : Gl X "list" := by rfl) (hgz : Gl X "zip" := by rfl) (hc : X.calm = true := by rfl) (hK : X.K = K := by rfl)
    (hs : starEach [a, b] X.env = (false, eval a X.env) :: starEach [b] X.env := by rfl) (hsb : starEach [b] X.env = (false, eval b X.env) :: starEach [] X.env := by rfl) (hpl : (backTo q (starEach [b] X.env)).any (·.1) = false := by rfl)
    (hs2 : starEach [.Call (.Name "zip" p2) [a, b] [] q] X.env = (false, eval (.Call (.Name "zip" p2) [a, b] [] q) X.env) :: starEach [] X.env := by rfl) :
    ED K X M (.Call (.Name "list" p) [.Call (.Name "zip" p2) [a, b] [] q] [] pos) (tListZip K (tCons ta (tCons tb tNil))) (f2 gListZip fa fb) := by
  subst hK
  refine ⟨pe_listZip hc hg hm hgz hmz (pa_cons ha.pe (pa_cons hb.pe pa_nil hsb) hs) hs hpl hs2, fun {Hs0 H0 Hs H σ ρ d Q} R hf q => ?_⟩
  obtain ⟨x, h1, hf⟩ := bind_some hf
  obtain ⟨y, h2, hf⟩ := bind_some hf
  refine ha.sm R h1 fun v Hs1 H1 g1 d1 => ?_
  refine hb.sm (R.grow g1) h2 fun u Hs2 H2 g2 d2 => ?_
  cases d1 with
  | @tup p1 ob xs ds hn hp t =>
    cases d2 with
    | @tup p3 ob2 ys es hn2 hp2 t2 =>
      obtain ⟨hl, rfl⟩ := ite_some hf
      have t1 := t.mono g2.exs
      refine ⟨p1, p3, xs, ys, rfl, sqT_of (g2.sub _ _ (g2.exs _ _ hp)), sqT_of (g2.sub _ _ hp2), by rw [t.length]; exact hl, fun H' S ts k1 k2 k3 k4 k5 hl' k6 => ?_⟩
      obtain ⟨Hs', g3, dd⟩ := listZip_grow g2.sub k1 k2 k3 k4 k5 hl' k6 t1 t2
      exact q _ Hs' H' ((g1.trans g2).trans g3) dd
    | _ => cases hf
  | _ => cases hf
end
end DL

namespace DL
open PySem PySem.Spec PyProof.Rows L2
/-! ### a comprehension in a comprehension -/
theorem relabel_free {env : Env} {x : Str} : ∀ {names : List (Str × NameKind)}, (names.lookup x = some .cell ∨ names.lookup x = some .free) →
    let l := names.map fun (n, k) => if (k == .free && env.scope.kind == .function && env.kindOf n == some .cell) then (n, NameKind.cell) else (n, k)
    l.lookup x = some .cell ∨ l.lookup x = some .free
  | [], h => by simp at h
  | (n, k) :: r, h => by
    intro l
    show List.lookup x ((if (k == NameKind.free && env.scope.kind == .function && env.kindOf n == some .cell) = true then (n, NameKind.cell) else (n, k)) :: _) = _ ∨ List.lookup x ((if (k == NameKind.free && env.scope.kind == .function && env.kindOf n == some .cell) = true then (n, NameKind.cell) else (n, k)) :: _) = _
    rw [List.lookup_cons] at h
    cases hx : (x == n) with
    | false =>
      rw [hx] at h
      have ih := relabel_free (env := env) (x := x) (names := r) h
      split <;> rw [List.lookup_cons, hx] <;> exact ih
    | true =>
      rw [hx] at h
      split
      · rw [List.lookup_cons, hx]; exact .inl rfl
      · rw [List.lookup_cons, hx]; exact h
theorem blkOk_in {N : List Str} {sc scope : Scope} {own : List (Str × Nat)} {env : Env} (h : blkC N sc scope own = true) : BlkOk N (relabel sc env) scope own where
  kind := (blkOk_by h).kind
  uniq := (blkOk_by h).uniq
  ix := (blkOk_by h).ix
  free := fun y hy e => relabel_free ((blkOk_by h).free y hy e)
  own := (blkOk_by h).own
end DL

/-! [f(x) for x in xs] where f may raise: the exception leaves the comprehension and then the expression around it -/
namespace DL
open PySem PySem.Spec PyProof.Rows L2
section
variable {M : Model} {A : Around} {E : Value → Shared → Prop} {s : Shared} {env : Env}
/-- how a block may end: with its list, or by an exception that goes on -/
def lcEnds (M : Model) (A : Around) (E : Value → Shared → Prop) (Q : Value → Shared → Prop) (acc : Value) (ce : Env) (r : Result) (s' : Shared) : Prop :=
  match r with
  | .ok _ => ∃ m, s'.heap.Ns ce.locals m ∧ ∀ h', Heap.SameBut ce.locals s'.heap h' → Q acc { s' with heap := h' }
  | .error x => ∃ m, s'.heap.Ns ce.locals m ∧ ∀ h', Heap.SameBut ce.locals s'.heap h' → wpAny M A (PySem.passOn "comprehension.variables-let-go" x ce : Sem Value) (fun _ _ => False) E { s' with heap := h' }
theorem lc_runs {e : Expr} {scope : Scope} {pos : Pos} {newAcc first : Sem Value} {g : Comprehension} {gs : List Comprehension} {cl : List (Str × Addr)} {Q : Value → Shared → Prop}
    (hcl : clausesOf e = g :: gs) (hs : ∀ x, foldedSetIterable g.iter env x = pure x) (hclos : closureFor scope env = pure cl)
    (hkind : scope.kind = .function) (hnames : ∀ x ∈ scope.names, x.2 = .local → scope.names.lookup x.1 = some .local)
    (h : wpAny M A first (fun x s₁ => wpAny M A (pyIter x) (fun it s₂ => wpAny M A newAcc (fun acc s₃ =>
      wpAny M A (newFunctionEnv scope env.globals cl [] env.qual none .none (some env)) (fun cenv s₄ =>
        codeAny M A (.compStart e 0 it acc { cenv with scope := relabel scope env }) (lcEnds M A E Q acc { cenv with scope := relabel scope env }) s₄) E s₃) E s₂) E s₁) E s) :
    wpAny M A (comprehension e scope env pos newAcc false first none) Q E s := by
  unfold comprehension
  rw [hclos, hcl]
  refine wpAny_bind (wpAny_mono h (fun x s₁ h₁ => ?_) fun _ _ h' => h')
  refine wpAny_bind (wpAny_standAt (wpAny_bind (wpAny_of_eq (hs x) (wpAny_bind (wpAny_holding (wpAny_mono h₁ (fun it s₂ h₂ => ?_) fun _ _ h' => h'))))))
  refine wpAny_standIf (wpAny_bind (wpAny_mono h₂ (fun acc s₃ h₃ => ?_) fun _ _ h' => h'))
  refine wpAny_bind (wpAny_pure (wpAny_bind (wpAny_mono h₃ (fun cenv s₄ h₄ => ?_) fun _ _ h' => h')))
  dsimp only
  have hv : ∀ x ∈ (scope.names.filter fun x => (x.2 == .local || x.2 == .cell) && x.1 != (".0" : Str)).reverse, x.2 = .local → Env.kindOf { cenv with scope := relabel scope env } x.1 = some .local :=
    fun x hx hl => lookup_relabel_local (hnames x (List.mem_filter.mp (List.mem_reverse.mp hx)).1 hl)
  refine wpAny_holding (wpAny_bind (wpAny_attempt (wpAny_holding (wpAny_run (codeAny_mono h₄ fun r s' hr => ?_)))))
  cases r with
  | ok f =>
    obtain ⟨m, hn, hr⟩ := hr
    exact wpAny_bind (wpAny_holding (wpAny_comp_letGo (cenv := { cenv with scope := relabel scope env }) hkind _ s' m hv hn fun h' m' _ hs' => wpAny_pure (hr h' hs')))
  | error x =>
    obtain ⟨m, hn, hr⟩ := hr
    exact wpAny_bind (wpAny_holding (wpAny_comp_letGo (cenv := { cenv with scope := relabel scope env }) hkind _ s' m hv hn fun h' m' _ hs' => wpAny_mono (hr h' hs') (fun _ _ f => f.elim) fun _ _ y => y))
end
/-- the frame is noted by its number alone -/
theorem noteFrame_eq {e1 e2 : Env} (h : e1.frame = e2.frame) (u : Value) : noteFrame u e1 = noteFrame u e2 := by
  unfold noteFrame PySem.frameOf
  rw [h]
theorem funFrames_but {base h h' : Heap} {C : Addr} (sb : Heap.SameBut C h h') : ∀ {l : List Env}, h.FunFrames base l → C ∉ frs l → h'.FunFrames base l
  | [], _, _ => trivial
  | env :: l, x, hn => by
    obtain ⟨hk, ⟨L, o, hf, hb, ho, hd⟩, hr⟩ := x
    have hL : L ≠ C := fun z => hn (List.mem_filterMap.mpr ⟨env, List.mem_cons_self, by rw [hf, z]⟩)
    refine ⟨hk, ⟨L, o, hf, hb, (sb.2 L hL).trans ho, hd⟩, funFrames_but sb hr fun hm => hn ?_⟩
    obtain ⟨e, he, q⟩ := List.mem_filterMap.mp hm
    exact List.mem_filterMap.mpr ⟨e, List.mem_cons_of_mem _ he, q⟩
section
variable {X : Cx} {pins : List (Addr × Obj)} {σ : L2.St} {H H' : Hp} {s s' : Shared} {B : Heap} {W : WX} {a : Addr} {cls : Value} {d : Option Addr}
theorem Inv.xeTo {f : Value → Shared → Prop} (I : Inv X pins σ H s) : Inv { X with xe := f } pins σ H s :=
  ⟨⟨I.ok.mod, I.ok.kind, I.ok.glob, I.ok.blt, I.ok.above, I.ok.inj, I.ok.has, I.ok.cab, I.ok.hd, I.ok.frames, I.ok.stk, I.ok.exf, I.ok.bs, I.ok.bsz, I.ok.noex, I.ok.exfs, I.ok.funs, I.ok.frf⟩, I.os, I.bare, I.base, I.loc, I.cell, I.free, I.freeC, I.pin, I.hok, I.len⟩
/-- an exception over a ground that keeps what a call keeps -/
theorem XE.of_sky (I : Inv X pins σ H s) (sky : Sky B X.stack a (Zc cls d) X.env.locals s'.heap) (st : B.StaysIn s'.heap) (hok : HOk X.prog X.w H' B) (ub : UB (frs X.stack) H H' s.heap B s'.heap) (na : H' a = none) (os : s'.os = s.os) (ag : AllBare s'.gens) (w : W cls d σ H') : XE X W (.ref a) s' := by
  obtain ⟨G, g1, g2⟩ := restrict s'.heap fun b => (B.get? b).isSome || decide (b ∈ frs X.stack)
  have gB : ∀ b o, B.get? b = some o → G.get? b = some o := fun b o e => (g1 b (by simp [e])).trans (st b o e)
  have gF : ∀ b, b ∈ frs X.stack → G.get? b = s'.heap.get? b := fun b hb => g1 b (by simp [hb])
  have og : ∀ b o, G.get? b = some o → s'.heap.get? b = some o ∧ ((B.get? b).isSome = true ∨ b ∈ frs X.stack) := fun b o e => by
    by_cases q : ((B.get? b).isSome || decide (b ∈ frs X.stack)) = true
    · rw [g1 b q] at e
      exact ⟨e, by simpa [Bool.or_eq_true] using q⟩
    · rw [g2 b (by simpa using q)] at e
      cases e
  refine ⟨a, B, { s with heap := G, gens := s'.gens, drawn := s'.drawn, toks := s'.toks }, pins, σ, H', cls, d, rfl, ?_, fun b o e hb => ?_, Heap.UpToSlots.of_keeps fun b o e => (og b o e).1, sky, na, os, ag, w⟩
  · refine I.call (ch := []) ⟨fun b o e n hb _ => gB b o (ub.keep b o e n hb), fun b o e n hb _ => ?_, fun b o e n _ => ub.free b o e n, fun b o e _ => ?_, ub.tups, ub.frzs, ub.tbls⟩ (hok.kept gB) ag (fun _ z => nomatch z)
    · obtain ⟨sl, q⟩ := ub.slot b o e hb
      exact ⟨sl, (gF b hb).trans q⟩
    · by_cases hb : b ∈ frs X.stack
      · obtain ⟨sl, q⟩ := ub.slot b o e hb
        exact ⟨_, (gF b hb).trans q⟩
      · obtain ⟨o', q⟩ := ub.there b o e hb
        exact ⟨o', gB b o' q⟩
  · obtain ⟨e', h | h⟩ := og b o e
    · obtain ⟨o', q⟩ := Option.isSome_iff_exists.mp h
      have z := st b o' q
      rw [e'] at z
      cases z
      exact q
    · exact absurd h hb
end
/-- the block's context, its calls' exceptions kept in the air -/
abbrev blkQ (X : Cx) (s : Shared) (H : Hp) (scope : Scope) (cenv : Env) (fp : List Addr) (Ex : XK) : Cx :=
  { (X.blk s H scope cenv fp) with xe := fun u s' => ∃ pins σ H1 s1, Inv (X.blk s H scope cenv fp) pins σ H1 s1 ∧ L2.CX X.prog X.w X.stack H1 s1 Ex u s' }
theorem blkQ_passes {X : Cx} {s : Shared} {H : Hp} {scope : Scope} {cenv : Env} {fp : List Addr} {Ex : XK} (σ : L2.St) : PassesAt (L2.CX X.prog X.w) (blkQ X s H scope cenv fp Ex) σ Ex :=
  fun pins H1 s1 e s' I c => ⟨pins, σ, H1, s1, Inv.xeTo (f := fun _ _ => False) I, c⟩
section
variable {X : Cx} {pins : List (Addr × Obj)} {σ : L2.St} {s : Shared} {W : WX}
/-- an exception of a call in the block: noted, the block's names let go, it goes on -/
theorem blk_error {H1 : Hp} {s1 s' : Shared} {Ex : XK} {C : Addr} {u : Value} {ce : Env} (hst : X.stack = X.env :: X.outer) (hfr : X.env.frame = some X.env.locals) (tk : Takes X W) (hW : ∀ cls d H, Ex cls d H → W cls d σ H)
    (I : Inv X pins σ H1 s1) (hcf : ce.frame = X.env.frame) (hcl : ce.locals = C) (f : FpOk X pins H1 C) {m : Str → Option Value} (hn : s1.heap.Ns C m) (c : L2.CX X.prog X.w X.stack H1 s1 Ex u s') {Q : Value → Shared → Prop} {acc : Value} :
    notedBy (model X.prog X.w) X.A ce (fun e s' => lcEnds (model X.prog X.w) X.A X.xe Q acc ce (.error e) s') u s' := by
  obtain ⟨a, B, H', cls, d, rfl, fl, hok, ub, na, os, ag, hE⟩ := c
  obtain ⟨f0, f1, f2, f3, f4, f5⟩ := f
  have hCs : C ∉ frs X.stack := fun hm => by
    rw [hst] at hm
    obtain ⟨e, he, q⟩ := List.mem_filterMap.mp hm
    rcases List.mem_cons.mp he with z | z
    · rw [z, hfr] at q
      exact f1 (Option.some.inj q).symm
    · exact f2 (List.mem_filterMap.mpr ⟨e, z, q⟩)
  obtain ⟨oC, hoC⟩ : ∃ o, s1.heap.get? C = some o := by
    obtain ⟨o, _, _, ho, _⟩ := hn
    exact ⟨o, ho⟩
  have hBC : B.get? C = some oC := ub.keep C oC hoC f0 hCs
  have hHC : H' C = none := ub.free C oC hoC f0
  have hfrs : X.A.frames = some (X.env :: X.outer) := by rw [I.ok.frames, hst]
  unfold notedBy
  rw [noteFrame_eq hcf]
  rw [hst] at fl
  refine HandSPX.looks_onZ Zc.steady hfrs hfr fl fun h1 held up1 => ?_
  obtain ⟨st1, hBa, ff1, tr1⟩ := held
  refine ⟨m, ?_, fun h2 sb => ?_⟩
  · rw [hcl]
    refine hn.at' fun o e => ?_
    rw [hoC] at e
    cases e
    exact st1 C oC hBC
  rw [hcl] at sb
  -- the ground without the block's names
  obtain ⟨G, g1, g2⟩ := restrict B fun b => decide (b ≠ C)
  have gne : ∀ b, b ≠ C → G.get? b = B.get? b := fun b hb => g1 b (by simpa using hb)
  have gC : G.get? C = none := g2 C (by simp)
  have gsub : ∀ b o, G.get? b = some o → b ≠ C ∧ B.get? b = some o := fun b o e => by
    have hb : b ≠ C := fun z => by rw [z, gC] at e; cases e
    exact ⟨hb, (gne b hb).symm.trans e⟩
  have gnone : ∀ b, B.get? b = none → G.get? b = none := fun b e => by
    by_cases hb : b = C
    · rw [hb]; exact gC
    · rw [gne b hb]; exact e
  have haC : a ≠ C := fun z => by rw [z, hBC] at hBa; cases hBa
  obtain ⟨oe, vs, T, oT, ts, he, hz, hd, h1e, hnT, hTe, hT, hdT, h3⟩ := tr1
  have hTC : T ≠ C := fun z => by rw [z, hBC] at hnT; cases hnT
  have held2 : HandSPX.HeldZ G (X.env :: X.outer) a (Zc cls d) X.env.locals h2 := by
    refine ⟨fun b o e => ?_, gnone a hBa, ?_, oe, vs, T, oT, ts, (sb.2 a haC).trans he, hz, hd, h1e, gnone T hnT, hTe, (sb.2 T hTC).trans hT, hdT, h3⟩
    · obtain ⟨hb, e⟩ := gsub b o e
      exact (sb.2 b hb).trans (st1 b o e)
    · rw [← hst]
      rw [← hst] at ff1
      exact funFrames_none (funFrames_but sb ff1 hCs) fun L hL => gnone L (by
        obtain ⟨_, _, e, _⟩ := I.stack.mem hL
        by_cases hb : (B.get? L).isSome = true
        · exact absurd hL fun hm => by
            have := (ff1.mem hm).1
            rw [this] at hb
            cases hb
        · simpa using hb)
  -- it goes on
  unfold PySem.passOn
  refine wpAny_bind (wpAny_field ((sb.2 a haC).trans he) hd h1e ?_)
  rw [if_neg (by simp)]
  rw [hcf, hfr]
  refine wpAny_bind (HandSPX.setFlight_onZ held2 fun h3 held3 up3 => wpAny_throw (tk _ _ ?_))
  have nf : ∀ b ∈ frs X.stack, ∀ o, s'.heap.get? b = some o → ∃ sl, h3.get? b = some { o with slots := sl } := fun b hb o e => by
    have hbC : b ≠ C := fun z => hCs (by rw [← z]; exact hb)
    obtain ⟨_, o', e', hnf⟩ := fl.2.2.1.mem (by rw [← hst]; exact hb)
    rw [e] at e'
    cases e'
    obtain ⟨sl1, e1⟩ := up1 b o e hnf
    obtain ⟨sl2, e2⟩ := up3 b _ ((sb.2 b hbC).trans e1) hnf
    exact ⟨sl2, e2⟩
  -- the state without the block's names
  obtain ⟨S, q1, q2⟩ := restrict s1.heap fun b => decide (b ≠ C)
  have qne : ∀ b, b ≠ C → S.get? b = s1.heap.get? b := fun b hb => q1 b (by simpa using hb)
  have qsub : ∀ b o, S.get? b = some o → b ≠ C ∧ s1.heap.get? b = some o := fun b o e => by
    have hb : b ≠ C := fun z => by rw [z, q2 C (by simp)] at e; cases e
    exact ⟨hb, (qne b hb).symm.trans e⟩
  have J : Inv X pins σ H1 { s1 with heap := S } := I.turned (t' := s1.toks) (it := C) (fun b o hb e => (qne b hb).trans e) f0 f1 f3 f4 f5
  have hokG : HOk X.prog X.w H' G := fun b o q => (hok b o q).stay (fun x u hx r => by
    have hxC : x ≠ C := fun z => by
      rw [z] at hx
      rcases hx with hx | hx
      · rw [← hx, hHC] at q; cases q
      · rw [hHC] at hx; cases hx
    exact (gne x hxC).trans r) (fun _ r => r) fun _ _ r => r
  refine XE.of_sky J (B := G) (.inr (.inr (by rw [hst]; exact held3))) held3.1 hokG ⟨fun b o e n hb => ?_, fun b o e hb => ?_, fun b o e n => ub.free b o (qsub b o e).2 n, fun b o e hb => ?_, ub.tups, ub.frzs, ub.tbls⟩ na os ag (hW _ _ _ hE)
  · obtain ⟨hbC, e⟩ := qsub b o e
    exact (gne b hbC).trans (ub.keep b o e n hb)
  · obtain ⟨hbC, e⟩ := qsub b o e
    obtain ⟨sl, e1⟩ := ub.slot b o e hb
    obtain ⟨sl2, e2⟩ := nf b hb _ e1
    exact ⟨sl2, e2⟩
  · obtain ⟨hbC, e⟩ := qsub b o e
    obtain ⟨o', e1⟩ := ub.there b o e hb
    exact ⟨o', (gne b hbC).trans e1⟩
end
end DL
namespace DL
open PySem PySem.Spec PyProof.Rows L2
section
variable {X : Cx}
/-- .. for target in iter: elt may raise Ex -/
theorem pe_lcQ {W : WX} {elt tg iter : Expr} {ifs : List Expr} {scope : Scope} {own : List (Str × Nat)} {pos : Pos} {wi : TI} {g : TG} {tt : TT} {te : L2.St → XK → TE} (hc : X.calm = true) (hN : X.N.Nodup) (hst : X.stack = X.env :: X.outer) (hfr : X.env.frame = some X.env.locals) (tk : Takes X W) (hi : PI X tg iter wi) (ok : BlkOk X.N X.env.scope scope own)
    (hg : ∀ (s : Shared) (H : Hp) (C : Addr) (cl : List (Str × Addr)) (fp : List Addr) (Ex : XK), PG (blkQ X s H scope (compEnvC scope cl C X.env) fp Ex) tg g) (ht : ∀ (s : Shared) (H : Hp) (C : Addr) (cl : List (Str × Addr)) (fp : List Addr) (Ex : XK), PTs (blkQ X s H scope (compEnvC scope cl C X.env) fp Ex) ifs tt)
    (he : ∀ (s : Shared) (H : Hp) (C : Addr) (cl : List (Str × Addr)) (fp : List Addr) (Ex : XK) (σ : L2.St), PE (blkQ X s H scope (compEnvC scope cl C X.env) fp Ex) elt (te σ Ex)) (hs : ∀ x, foldedSetIterable iter X.env x = pure x := by intro _; rfl) :
    PE X (.ListComp elt [⟨tg, iter, ifs, 0⟩] scope pos) (fun σ H Q => tLc wi g tt (te σ fun cls d H => W cls d σ H) (own.map (·.2)) σ H Q) := by
  refine ⟨fun pins s σ H Q I h => ?_⟩
  rw [eval_ListComp]
  have hfree : ∀ y ∈ scope.names, y.2 = .free → ∃ c, X.env.cells.lookup y.1 = some c := fun y hy e => (ok.free y hy e).elim (fun k => I.ok.has _ (.inl k)) fun k => I.ok.has _ (.inr k)
  refine lc_runs rfl hs (closure_ok hfree) ok.kind (fun y hy e => by rw [ok.uniq y hy, e]) (L2.thn (hi.run pins s σ H _ I h) fun xv s1 hx => L2.thn hx fun itv s2 h2 => ?_)
  obtain ⟨it, fp, tn, J, H2, rfl, I2, T, st2, f2, q⟩ := h2
  refine wpAny_newObj_type (newEnv_comp ?_) (by show 0 ≤ sizeLine; decide)
  generalize hD : s2.heap.objs.size = D
  have hDn : H2 D = none := I2.hok.fresh (Nat.le_of_eq hD)
  obtain ⟨Wl, ⟨m0, w0⟩, turn⟩ := q D hDn
  generalize hs3 : ({ s2 with heap := s2.heap.push { cls := .type "list", data := .seq ([] : List Value).toArray } } : Shared) = s3
  have h3 : s3.heap = s2.heap.push { cls := .type "list", data := .seq ([] : List Value).toArray } := by rw [← hs3]
  have I3 : Inv X pins σ (L2.upd H2 D (.lst [])) s3 := by
    rw [← hs3]
    refine I2.laid (t' := s2.toks) (fun b o e => Heap.get?_push_of_some _ e) (Nat.le_of_eq hD) ⟨Nat.zero_le _, [], 0, .nil, ?_⟩
    rw [← hD]
    exact Heap.get?_push_size _ rfl
  have f3 : ∀ b ∈ fp, FpOk X pins (L2.upd H2 D (.lst [])) b ∧ b < s3.heap.objs.size := fun b hb => by
    obtain ⟨o, e, _⟩ := T.obj _ _ st2 b hb
    have hlt := Heap.lt_size e
    refine ⟨⟨?_, (f2 b hb).2⟩, by rw [h3, Heap.size_push]; exact Nat.lt_succ_of_lt hlt⟩
    rw [upd_ne (by rw [← hD]; exact Nat.ne_of_lt hlt)]
    exact (f2 b hb).1
  have st3 : tn 0 s3.heap := T.keep _ _ _ st2 fun b _ o e => by rw [h3]; exact Heap.get?_push_of_some _ e
  have I4 := block_start I3 ok hN f3
  have pg := hg s3 (L2.upd H2 D (.lst [])) s3.heap.objs.size (cellsFrom (s3.heap.objs.size + 1) scope.names (cloFrom X.env.cells scope.names [])) fp (fun cls d H => W cls d σ H)
  have pt := ht s3 (L2.upd H2 D (.lst [])) s3.heap.objs.size (cellsFrom (s3.heap.objs.size + 1) scope.names (cloFrom X.env.cells scope.names [])) fp (fun cls d H => W cls d σ H)
  have pe := he s3 (L2.upd H2 D (.lst [])) s3.heap.objs.size (cellsFrom (s3.heap.objs.size + 1) scope.names (cloFrom X.env.cells scope.names [])) fp (fun cls d H => W cls d σ H) σ
  show codeAny _ _ (.compStart (.ListComp elt [⟨tg, iter, ifs, 0⟩] scope pos) 0 (.ref it) (.ref D) (compEnvC scope (cellsFrom (s3.heap.objs.size + 1) scope.names (cloFrom X.env.cells scope.names [])) s3.heap.objs.size X.env)) (lcEnds (model X.prog X.w) X.A X.xe _ (.ref D) (compEnvC scope (cellsFrom (s3.heap.objs.size + 1) scope.names (cloFrom X.env.cells scope.names [])) s3.heap.objs.size X.env)) { s3 with heap := pushCells (s3.heap.push { cls := .type "dict", data := .dict #[] }) scope.names }
  have nfp : ∀ b ∈ fp, (L2.upd H2 D (.lst [])) b = none := fun b hb => (f3 b hb).1.1
  generalize hce : compEnvC scope (cellsFrom (s3.heap.objs.size + 1) scope.names (cloFrom X.env.cells scope.names [])) s3.heap.objs.size X.env = ce at I4 pg pt pe ⊢
  have cL : ce.locals = s3.heap.objs.size := by rw [← hce]; rfl
  have cF : ce.frame = X.env.frame := by rw [← hce]; rfl
  generalize hH3 : L2.upd H2 D (.lst []) = H3 at I3 I4 pg pt pe w0 nfp f3
  generalize hs4 : ({ s3 with heap := pushCells (s3.heap.push { cls := .type "dict", data := .dict #[] }) scope.names } : Shared) = s4 at I4 ⊢
  have st4 : tn 0 s4.heap := T.keep _ _ _ st3 fun b _ o e => by rw [← hs4]; exact pushCells_keeps _ _ _ _ (Heap.get?_push_of_some _ e)
  generalize hXB : blkQ X s3 H3 scope ce fp (fun cls d H => W cls d σ H) = XB at pg pt pe
  have I4 : Inv XB [] (wipe σ (own.map (·.2))) H3 s4 := by rw [← hXB]; exact Inv.xeTo I4
  have xP : XB.prog = X.prog := by rw [← hXB]
  have xw : XB.w = X.w := by rw [← hXB]
  have xK : XB.K = X.K := by rw [← hXB]
  have xA : XB.A = X.A := by rw [← hXB]
  have xc : XB.calm = true := by rw [← hXB]; exact hc
  have xe : XB.env = ce := by rw [← hXB]
  have stat : ∀ {σ' : L2.St} {H' : Hp} {s' : Shared}, Inv XB [] σ' H' s' → (∀ b ∈ fp, H' b = none) → ∀ b ∈ fp, FpOk XB [] H' b := by
    subst hXB
    exact fun {σ' H' s'} I' hn b hb => ⟨hn b hb, (I'.ok.exf b hb).1, I'.ok.exfs b hb, .inl hb, fun x c e => (I'.ok.exf b hb).2 x c e, fun p hp => absurd (show p ∈ ([] : List (Addr × Obj)) ++ [] from hp) (by simp)⟩
  -- the def's own context at a state of the block
  have back : ∀ {pinsB : List (Addr × Obj)} {σ' : L2.St} {H' : Hp} {s' : Shared}, Inv XB pinsB σ' H' s' → Inv X pins σ H' s' ∧ FpOk X pins H' s3.heap.objs.size ∧ ∃ m, s'.heap.Ns s3.heap.objs.size m := by
    subst hXB
    intro pinsB σ' H' s' I'
    have nC : H' s3.heap.objs.size = none := by
      have z : H' ce.locals = none := I'.free
      rw [cL] at z
      exact z
    refine ⟨I3.call' (ch := fp) I'.os I'.base I'.hok I'.bare fun b hb => ⟨(f3 b hb).1.2.2.2.1, (f3 b hb).1.2.1, (f3 b hb).1.2.2.2.2.1, (f3 b hb).1.2.2.2.2.2⟩, I3.fpOk (Nat.le_refl _) nC, ?_⟩
    obtain ⟨m, hn, _⟩ := I'.loc
    have hn : s'.heap.Ns ce.locals m := hn
    rw [cL] at hn
    exact ⟨m, hn⟩
  have bad : ∀ (u : Value) (s' : Shared), XB.xe u s' → notedBy (model X.prog X.w) X.A ce (fun e s' => lcEnds (model X.prog X.w) X.A X.xe (EP X pins σ Q) (.ref D) ce (.error e) s') u s' := by
    subst hXB
    intro u s' hx
    obtain ⟨pinsB, σB, H5, s5, IB, c⟩ := hx
    obtain ⟨I7, f7, m, hn⟩ := back (Inv.xeTo IB)
    exact blk_error hst hfr tk (fun cls d H h => h) I7 cF cL f7 hn c
  have loop : codeAny (model X.prog X.w) X.A (.compLoop (.ListComp elt [⟨tg, iter, ifs, 0⟩] scope pos) 0 (.ref it) (.ref D) ce) (lcEnds (model X.prog X.w) X.A X.xe (EP X pins σ Q) (.ref D) ce) s4 := by
    refine compLoop_any (fun n s' => ∃ i H', Inv XB [] (wipe σ (own.map (·.2))) H' s' ∧ tn i s'.heap ∧ (∀ b ∈ fp, H' b = none) ∧ Wl i n H') ?_ m0 ⟨0, H3, I4, st4, nfp, w0⟩
    rintro n s5 ⟨i, H5, I5, st5, n5, w5⟩
    rcases turn i n H5 w5 with ⟨stop, qq⟩ | ⟨go, Nx, hNx, step⟩
    · have td := T.done XB xP xw xK xc i [] s5 _ H5 (fun _ _ => False) I5 (stat I5 n5) st5 stop
      rw [xA] at td
      refine thnF td fun r s6 ⟨hr, I6⟩ => ?_
      subst hr
      obtain ⟨I7, ⟨f0, f1, f2, f3', f4, f5⟩, m, hn⟩ := back I6
      refine ⟨m, by rw [cL]; exact hn, fun h'' sb => ?_⟩
      rw [cL] at sb
      exact ⟨.ref D, H5, I7.turned (t' := s6.toks) (fun b o hb e => (sb.2 b hb).trans e) f0 f1 f3' f4 f5, rfl, qq⟩
    · have ti := T.item XB xP xw xK xc i [] s5 _ H5 (fun _ _ => False) I5 (stat I5 n5) st5 go
      rw [xA] at ti
      refine thnF ti fun r s6 ⟨u, hr, h6⟩ => ?_
      subst hr
      refine thnF h6 fun _ s7 ⟨x, H7, I7, r7, y7, st7, n7⟩ => ?_
      have I7' := I7.pinned (stat I7 n7) (T.obj _ _ st7)
      have r1 := pg.run _ s7 _ H7 x u _ I7' r7 (step x H7 y7)
      rw [xP, xw, xA, xe] at r1
      refine wpAny_mono r1 (fun _ s8 ⟨σ8, H8, I8, hw8, q8⟩ => ?_) bad
      have r2 := pt.run _ s8 σ8 H8 _ I8 q8
      rw [xP, xw, xA, xe] at r2
      refine wpAny_mono r2 (fun b s9 ⟨H9, I9, q9⟩ => ?_) bad
      have fin : ∀ {s' : Shared} {H' : Hp}, Inv XB ([] ++ pinsAt fp s7.heap) σ8 H' s' → Nx H' → ∃ m, m < n ∧ ∃ i H', Inv XB [] (wipe σ (own.map (·.2))) H' s' ∧ tn i s'.heap ∧ (∀ b ∈ fp, H' b = none) ∧ Wl i m H' := fun {s' H'} I' nx => by
        obtain ⟨m', hm, w'⟩ := hNx H' nx
        have pin' : ∀ b ∈ fp, ∀ o, s7.heap.get? b = some o → s'.heap.get? b = some o ∧ H' b = none := fun b hb o e =>
          let z := I'.pin (b, o) (List.mem_append_right _ (List.mem_append_right _ (mem_pinsAt hb e)))
          ⟨z.1, z.2.1⟩
        have hl : (wipe σ (own.map (·.2))).length = σ8.length := by rw [← hw8, wipe_length]
        refine ⟨m', hm, i + 1, H', (I'.unpinned (pins := [])).weak hl (fun j v e => (wipe_some (hw8 ▸ e)).1), T.keep _ _ _ st7 fun b hb o e => (pin' b hb o e).1, fun b hb => ?_, w'⟩
        obtain ⟨o, e, _⟩ := T.obj _ _ st7 b hb
        exact (pin' b hb o e).2
      cases b with
      | false =>
        simp only [Bool.false_eq_true, if_false] at q9 ⊢
        exact fin I9 q9
      | true =>
        simp only [if_true] at q9 ⊢
        have r3 := pe.run _ s9 σ8 H9 _ I9 q9
        rw [xP, xw, xA, xe] at r3
        refine wpAny_mono r3 (fun z s10 ⟨yv, H10, I10, r10, acc, hD10, hz10, nx⟩ => ?_) bad
        have ap := app_ok (X := XB) (Q := fun _ s' => ∃ m, m < n ∧ ∃ i H', Inv XB [] (wipe σ (own.map (·.2))) H' s' ∧ tn i s'.heap ∧ (∀ b ∈ fp, H' b = none) ∧ Wl i m H') (E := notedBy (model X.prog X.w) X.A ce fun e s' => lcEnds (model X.prog X.w) X.A X.xe (EP X pins σ Q) (.ref D) ce (.error e) s') I10 hD10 hz10 r10 fun s11 I11 => fin I11 nx
        rw [xP, xw, xA] at ap
        exact ap
  exact codeAny_compStart_list loop (T.self X.A 0 _ _ _ st4 loop)
end
end DL

namespace DL
open PySem PySem.Spec PyProof.Rows L2
section
variable {K : PySem.W.Frag} {X : Cx} {M : List Nat} {xc : Nat → Addr} {W : WX} {a b e o : Expr} {es : List Expr} {ta tb te to : TE} {fa fb f fo : Fn} {pos p apos : Pos}
/-! ### a text so often -/
theorem op_mulS : OpR X (binaryOp .Mult) (fun x y H Q => ∃ z n, x = .str z ∧ y = .int n ∧ 2 ≤ n ∧ n ≤ 1000 ∧ 1 ≤ z.length ∧ z.length ≤ 1000 ∧ Q (.str ⟨(List.replicate n.toNat z.cps).foldl (· ++ ·) #[]⟩) H) := by
  intro pins s σ H x y v u Q I rx ry h
  obtain ⟨z, n, rfl, rfl, h1, h2, h3, h4, q⟩ := h
  obtain ⟨t, rfl⟩ := rx
  obtain ⟨t', rfl⟩ := ry
  have c1 : ¬ n < 1 := by omega
  have c2 : ¬ (n == 1 || z.length == 0) = true := by
    rw [Bool.or_eq_true, beq_iff_eq, beq_iff_eq]
    omega
  have hmul : z.length * n.toNat ≤ 1000 * 1000 := Nat.mul_le_mul h4 (by omega)
  have hl : Builtin.Str.tooLong (z.length * n.toNat) = false := by
    unfold Builtin.Str.tooLong
    rw [decide_eq_false_iff_not]
    have := sizeLine_eq
    omega
  have hsz : (⟨(List.replicate n.toNat z.cps).foldl (· ++ ·) #[]⟩ : Str).length ≤ sizeLine := by
    have key : ∀ (k : Nat) (acc : Array Nat), ((List.replicate k z.cps).foldl (· ++ ·) acc).size = acc.size + k * z.length := fun k => by
      induction k with
      | zero => intro acc; simp
      | succ k ih =>
        intro acc
        rw [List.replicate_succ, List.foldl_cons, ih, Array.size_append, Nat.succ_mul]
        show acc.size + z.length + _ = _
        omega
    show ((List.replicate n.toNat z.cps).foldl (· ++ ·) #[]).size ≤ sizeLine
    rw [key, sizeLine_eq, Nat.mul_comm]
    have e0 : (#[] : Array Nat).size = 0 := rfl
    omega
  refine P.mul_str (by
    have g1 : ¬ n < -(2 ^ 63 : Int) := by omega
    have g2 : ¬ n ≥ 2 ^ 63 := by omega
    rw [decide_eq_false g1, decide_eq_false g2]
    rfl) (fun _ _ => ?_) (fun _ _ => hl) ?_
  · have : (1000 : Int) ≤ (2 ^ 63 - 1) / n := (Int.le_ediv_iff_mul_le (by omega)).mpr (by omega)
    omega
  · rw [if_neg c1, if_neg c2]
    exact ⟨hsz, ⟨.str _, H, I.tok _, ⟨_, rfl⟩, q⟩⟩
@[simp] def gMulS : PyData → PyData → Option PyData := fun x y => match x, y with
  | .str z, .int n => if 2 ≤ n ∧ n ≤ 1000 ∧ 1 ≤ z.length ∧ z.length ≤ 1000 then some (.str ⟨(List.replicate n.toNat z.cps).foldl (· ++ ·) #[]⟩) else none
  | _, _ => none
theorem od_mulS : OD K X (binaryOp .Mult) (fun x y H Q => ∃ z n, x = .str z ∧ y = .int n ∧ 2 ≤ n ∧ n ≤ 1000 ∧ 1 ≤ z.length ∧ z.length ≤ 1000 ∧ Q (.str ⟨(List.replicate n.toNat z.cps).foldl (· ++ ·) #[]⟩) H) gMulS :=
  ⟨op_mulS, fun {Hs H x y dx dy d Q} e a b hf q => by
    cases a <;> cases b <;> first
      | (cases hf; done)
      | (obtain ⟨⟨h1, h2, h3, h4⟩, rfl⟩ := ite_some hf
         exact ⟨_, _, rfl, rfl, h1, h2, h3, h4, q _ Hs H (Grow.refl e) (.str _)⟩)⟩
/-! ### lists of texts -/
def strsD : List PyData → Option (List Str)
  | [] => some []
  | .str x :: r => (strsD r).map (x :: ·)
  | _ :: _ => none
theorem strsD_map : ∀ ys : List Str, strsD (ys.map PyData.str) = some ys
  | [] => rfl
  | y :: ys => by
    rw [List.map_cons]
    unfold strsD
    rw [strsD_map ys]
    rfl
theorem strs_dv {H : Hp} : ∀ {vs : List V} {ds : List PyData} {ys : List Str}, DdAll K H vs ds → strsD ds = some ys → vs = ys.map V.str
  | _, _, _, .nil, h => by cases h; rfl
  | _, _, _, .cons a r, h => by
    cases a with
    | str x =>
      unfold strsD at h
      cases hr : strsD _ with
      | none => rw [hr] at h; cases h
      | some ys =>
        rw [hr] at h
        cases h
        rw [strs_dv r hr]
        rfl
    | _ => cases h
theorem DdAll.strs {H : Hp} : ∀ ys : List Str, DdAll K H (ys.map V.str) (ys.map PyData.str)
  | [] => .nil
  | y :: ys => .cons (.str y) (DdAll.strs ys)
@[simp] def gSplit : PyData → PyData → Option PyData
  | .str x, .str y => if 1 ≤ y.length ∧ x.length ≤ 1000000 then some (.list ((Txt.split x y).map .str)) else none
  | _, _ => none
theorem ed_split (ho : ED K X M o to fo) (ha : ED K X M a ta fa) (hs : starEach [a] X.env = [(false, eval a X.env)] := by rfl) (hbase : attributeBase o "split" X.env (eval o X.env) = eval o X.env := by rfl) (hline : (apos.endLine == pos.line) = true := by rfl) :
    ED K X M (.Call (.Attribute o "split" apos) [a] [] pos) (tM1 (fun x xs H Q => ∃ a b, x = .str a ∧ xs = [.str b] ∧ (b.length == 0) = false ∧ a.length + 2 ≤ sizeLine ∧ rNewStrs (Txt.split a b) H Q) to ta) (f2 gSplit fo fa) :=
  ⟨pe_split ho.pe ha.pe hs hbase hline, fun {Hs0 H0 Hs H σ ρ d Q} R hf q => by
    obtain ⟨x, h1, hf⟩ := bind_some hf
    obtain ⟨y, h2, hf⟩ := bind_some hf
    refine ho.sm R h1 fun v Hs1 H1 g1 d1 => ?_
    cases d1 with
    | str x =>
      refine ⟨⟨x, rfl⟩, ha.sm (R.grow g1) h2 fun u Hs2 H2 g2 d2 => ?_⟩
      cases d2 with
      | str y =>
        obtain ⟨⟨hy, hx⟩, rfl⟩ := ite_some hf
        refine ⟨x, y, rfl, rfl, ?_, by rw [sizeLine_eq]; omega, fun p hp => ?_⟩
        · rw [beq_eq_false_iff_ne]; omega
        · have g3 : Grow Hs2 H2 (L2.upd Hs2 p (.lst ((Txt.split x y).map V.str))) (L2.upd H2 p (.lst ((Txt.split x y).map V.str))) := Grow.alloc g2.sub hp
          exact q _ _ _ ((g1.trans g2).trans g3) (.lst upd_same (DdAll.strs _))
      | _ => cases hf
    | _ => cases hf⟩
@[simp] def gJoin : PyData → PyData → Option PyData
  | .str x, .list ds => (strsD ds).bind fun ys => if (ys.map (·.length)).sum + ys.length * x.length ≤ 1000000 then some (.str (Txt.join x ys)) else none
  | _, _ => none
theorem ed_join (ho : ED K X M o to fo) (ha : ED K X M a ta fa) (hs : starEach [a] X.env = [(false, eval a X.env)] := by rfl) (hbase : attributeBase o "join" X.env (eval o X.env) = eval o X.env := by rfl) (hline : (apos.endLine == pos.line) = true := by rfl) (hK : X.K = K := by rfl) :
    ED K X M (.Call (.Attribute o "join" apos) [a] [] pos) (tM1 (fun x xs H Q => ∃ a p, ∃ ys : List Str, x = .str a ∧ xs = [.ref p] ∧ (SqL K H p (ys.map V.str) ∨ SqT K H p (ys.map V.str)) ∧
      (ys.map (·.length)).sum + ys.length * a.length ≤ 16777216 ∧ Q (.str (Txt.join a ys)) H) to ta) (f2 gJoin fo fa) := by
  subst hK
  exact ⟨pe_join ho.pe ha.pe hs hbase hline, fun {Hs0 H0 Hs H σ ρ d Q} R hf q => by
    obtain ⟨x, h1, hf⟩ := bind_some hf
    obtain ⟨y, h2, hf⟩ := bind_some hf
    refine ho.sm R h1 fun v Hs1 H1 g1 d1 => ?_
    cases d1 with
    | str x =>
      refine ⟨⟨x, rfl⟩, ha.sm (R.grow g1) h2 fun u Hs2 H2 g2 d2 => ?_⟩
      cases d2 with
      | @lst p1 xs ds hp t =>
        obtain ⟨ys, h3, hf⟩ := bind_some hf
        obtain ⟨hl, rfl⟩ := ite_some hf
        have e := strs_dv t h3
        subst e
        exact ⟨x, p1, ys, rfl, rfl, .inl (sqL_of (g2.sub _ _ hp)), by omega, q _ Hs2 H2 (g1.trans g2) (.str _)⟩
      | _ => cases hf
    | _ => cases hf⟩
/-! ### f'{x}..' of two parts, x an int -/
@[simp] def gFmt2 : PyData → PyData → Option PyData
  | .int i, .str y => if i.natAbs.log2 < 1920 ∧ (toString i : Str).length + y.length ≤ 1000000 then some (.str ((toString i : Str) ++ y)) else none
  | _, _ => none
theorem ed_fmt2 {x : Str} {j : Nat} {p1 p2 : Pos} (ha : ED K X M a ta fa) : ED K X M (.JoinedStr [.FormattedValue a (-1) none p1, .Constant (.str x) j p2] pos) (fun σ H Q => tJs [tFmt ta, tC (.str x)] Str.empty σ H fun out H1 => Q (.str out) H1) (f2 gFmt2 fa (fC (.str x))) :=
  ⟨pe_joined (.cons (pe_fmt ha.pe) (.cons pe_str .nil)), fun {Hs0 H0 Hs H σ ρ d Q} R hf q => by
    obtain ⟨y, h1, hf⟩ := bind_some hf
    refine ha.sm R h1 fun v Hs1 H1 g1 d1 => ?_
    cases d1 with
    | int i =>
      obtain ⟨⟨hi, hl⟩, rfl⟩ := ite_some hf
      have e0 : Str.empty ++ (toString i : Str) = (toString i : Str) := by
        show (⟨#[] ++ (toString i : Str).cps⟩ : Str) = _
        rw [Array.empty_append]
      refine .inr ⟨i, rfl, hi, (toString i : Str), rfl, ?_, ?_⟩
      · rw [e0]; exact Nat.le_trans (Nat.le_trans (Nat.le_add_right _ _) hl) (by rw [sizeLine_eq]; omega)
      · rw [e0]
        refine ⟨x, rfl, ?_, q _ Hs1 H1 g1 (.str _)⟩
        show ((toString i : Str).cps ++ x.cps).size ≤ sizeLine
        rw [Array.size_append]
        exact Nat.le_trans hl (by rw [sizeLine_eq]; omega)
    | _ => cases hf⟩
/-! ### what may raise: fresh lists, tuples -/
structure QL (K : PySem.W.Frag) (xc : Nat → Addr) (X : Cx) (M : List Nat) (W : WX) (e : Expr) (t : TE) (f : Rho → Option (Except Nat (List PyData))) : Prop where
  pe : PE X e t
  sm : ∀ {Hs0 H0 Hs H : Hp} {σ : L2.St} {ρ : Rho} {r : Except Nat (List PyData)} {Q : VK}, SR K M Hs0 H0 Hs H σ ρ → f ρ = some r →
    (match r with
      | .ok ds => ∀ p xs Hs' H', Grow Hs H Hs' H' → H p = none → Hs' p = none → H' p = some (.lst xs) → DdAll K Hs' xs ds → Q (.ref p) H'
      | .error c => ∀ H', Same H H' → W (.ref (xc c)) none σ H') → t σ H Q
/-- an item of a block, a call that may raise -/
structure LQ (K : PySem.W.Frag) (xc : Nat → Addr) (X : Cx) (M : List Nat) (scope : Scope) (elt : Expr) (te : XK → TE) (f : Rho → Option (Except Nat PyData)) : Prop where
  pe : ∀ (s : Shared) (H : Hp) (C : Addr) (cl : List (Str × Addr)) (fp : List Addr) (Ex : XK), PE (blkQ X s H scope (compEnvC scope cl C X.env) fp Ex) elt (te Ex)
  sm : ∀ {Hs0 H0 Hs H : Hp} {σ : L2.St} {ρ : Rho} {r : Except Nat PyData} {Q : VK} {Ex : XK}, SR K M Hs0 H0 Hs H σ ρ → f ρ = some r →
    (match r with
      | .ok d => ∀ v Hs' H', Grow Hs H Hs' H' → Dd K Hs' v d → Q v H'
      | .error c => ∀ H', Same H H' → Ex (.ref (xc c)) none H') → te Ex σ H Q
theorem lq_call {x : Str} {k n : Nat} {fA : Addr} {fd : FuncData} {ps : List Str} {scope : Scope} {tr : TA} {fr : Rho → Option (List PyData)} {φ : List PyData → Option (Except Nat PyData)} (F : FnOk X.prog X.w X.K X.mg X.base (L2.CX X.prog X.w) k fA fd ps (spX K n xc φ)) (hr : Room k X.A) (hm : X.mg x = some (.ref fA))
    (hk : PySem.W.keepIn X.K (.ref fA) = true) (hb : Binds X.K fd ps []) (hn : ∀ ds r, φ ds = some r → ds.length = n)
    (ha : ∀ (s : Shared) (H : Hp) (C : Addr) (cl : List (Str × Addr)) (fp : List Addr) (Ex : XK), AD K (blkQ X s H scope (compEnvC scope cl C X.env) fp Ex) M (e :: es) tr fr)
    (hg : ∀ (s : Shared) (H : Hp) (C : Addr) (cl : List (Str × Addr)) (fp : List Addr) (Ex : XK), Gl (blkQ X s H scope (compEnvC scope cl C X.env) fp Ex) x := by intros; rfl) (hdb : (x == ("__debug__" : Str)) = false := by decide)
    (he : ∀ (s : Shared) (H : Hp) (C : Addr) (cl : List (Str × Addr)) (fp : List Addr) (Ex : XK), starEach (e :: es) (blkQ X s H scope (compEnvC scope cl C X.env) fp Ex).env = (false, eval e (blkQ X s H scope (compEnvC scope cl C X.env) fp Ex).env) :: starEach es (blkQ X s H scope (compEnvC scope cl C X.env) fp Ex).env := by intros; rfl)
    (hpl : ∀ (s : Shared) (H : Hp) (C : Addr) (cl : List (Str × Addr)) (fp : List Addr) (Ex : XK), (backTo pos (starEach es (blkQ X s H scope (compEnvC scope cl C X.env) fp Ex).env)).any (·.1) = false := by intros; rfl) :
    LQ K xc X M scope (.Call (.Name x p) (e :: es) [] pos) (fun Ex => tCallS (spX K n xc φ) (fun _ => Ex) tr) (qCall φ fr) :=
  ⟨fun s H C cl fp Ex => pe_callS (X := blkQ X s H scope (compEnvC scope cl C X.env) fp Ex) F hr (hg s H C cl fp Ex) hm hk hb (fun σ => blkQ_passes σ) (ha s H C cl fp Ex).pa hdb (he s H C cl fp Ex) (hpl s H C cl fp Ex),
    fun {Hs0 H0 Hs H σ ρ r Q Ex} R hf q => by
      obtain ⟨ds, h1, h2⟩ := bind_some hf
      refine (ha X.s_0 (fun _ => none) 0 [] [] Ex).sm R h1 fun vs Hs1 H1 g1 d1 => ?_
      refine ⟨by rw [d1.length]; exact hn _ _ h2, Hs1, ds, r, g1.sub, d1, h2, ?_⟩
      cases r with
      | error c => exact fun H2 e2 => q H2 (g1.ex.trans e2)
      | ok d => exact fun v Hs2 H2 g2 d2 => q v Hs2 H2 (g1.trans g2) d2⟩
def compQ (tg : PyData → Rho → Option Rho) (f : Rho → Option (Except Nat PyData)) (ρ : Rho) : List PyData → Option (Except Nat (List PyData))
  | [] => some (.ok [])
  | d :: ds => (tg d ρ).bind fun ρ1 => (f ρ1).bind fun r => match r with
    | .error c => some (.error c)
    | .ok y => (compQ tg f ρ ds).bind fun z => match z with
      | .error c => some (.error c)
      | .ok ys => some (.ok (y :: ys))
def fLq (vs : List Nat) (h : Rho → Option (List PyData)) (tg : PyData → Rho → Option Rho) (f : Rho → Option (Except Nat PyData)) : Rho → Option (Except Nat (List PyData)) :=
  fun ρ => (h ρ).bind fun ds => if ds.length ≤ 1000000 then compQ tg f (wipeR ρ vs) ds else none
/-- what is said of the whole by what is said of the rest -/
def joinQ (acc : List PyData) : Except Nat (List PyData) → Except Nat (List PyData)
  | .error c => .error c
  | .ok ys => .ok (acc ++ ys)
theorem ql_lc {Rl : YR} {elt tg iter : Expr} {scope : Scope} {wi : TI} {g : TG} {te : XK → TE} {ws : List Nat} {h : Rho → Option (List PyData)} {hg' : PyData → Rho → Option Rho} {fq : Rho → Option (Except Nat PyData)}
    (own : List (Str × Nat)) (hN : X.N.Nodup) (tk : Takes X W) (hi : ID K X M Rl tg iter wi h) (ok : BlkOk X.N X.env.scope scope own)
    (hg : ∀ (s : Shared) (H : Hp) (C : Addr) (cl : List (Str × Addr)) (fp : List Addr) (Ex : XK), GD K (blkQ X s H scope (compEnvC scope cl C X.env) fp Ex) M Rl ws tg g hg')
    (he : LQ K xc X M scope elt te fq) (hst : X.stack = X.env :: X.outer := by rfl) (hfr : X.env.frame = some X.env.locals := by rfl)
    (hws : ws.all (fun i => (own.map (·.2)).contains i) = true := by rfl) (hc : X.calm = true := by rfl) (hs : ∀ x, foldedSetIterable iter X.env x = pure x := by intro _; rfl) :
    QL K xc X M W (.ListComp elt [⟨tg, iter, [], 0⟩] scope pos) (fun σ H Q => tLc wi g tYes (te fun cls d H => W cls d σ H) (own.map (·.2)) σ H Q) (fLq (own.map (·.2)) h hg' fq) := by
  have hws' : ∀ i ∈ ws, i ∈ own.map (·.2) := fun i hi => by
    have := List.all_eq_true.mp hws i hi
    simpa using this
  refine ⟨pe_lcQ (te := fun _ Ex => te Ex) hc hN hst hfr tk hi.pi ok (fun s H C cl fp Ex => (hg s H C cl fp Ex).pg) (fun s H C cl fp Ex => pts_nil) (fun s H C cl fp Ex _ => he.pe s H C cl fp Ex) hs, fun {Hs0 H0 Hs H σ ρ res Q} R hf q => ?_⟩
  obtain ⟨ds, h1, h2⟩ := bind_some hf
  obtain ⟨hl, h2⟩ := ite_get h2
  refine hi.sm R h1 fun J Hs1 H1 g1 Y D hD => ?_
  have nD : Hs1 D = none := g1.sub.free hD
  refine ⟨fun i m H' => m = ds.length - i ∧ i ≤ ds.length ∧ ∃ Hsi acc accd tail, Grow Hs1 H1 Hsi H' ∧ Hsi D = none ∧ H' D = some (.lst acc) ∧ DdAll K Hsi acc accd ∧ acc.length ≤ i ∧ compQ hg' fq (wipeR ρ (own.map (·.2))) (ds.drop i) = some tail ∧ joinQ accd tail = res,
    ⟨ds.length, by simp, Nat.zero_le _, Hs1, [], [], res, Grow.alloc0 g1.sub hD, nD, upd_same, .nil, Nat.le_refl _, h2, by cases res <;> rfl⟩, ?_⟩
  rintro i m H2 ⟨rfl, hle, Hsi, acc, accd, tail, g2, n2, hD2, d2, hacc, hcf, hres⟩
  by_cases hlt : i < ds.length
  · refine .inr ⟨Y.go i H2 (g2.exs.trans g2.sub) hlt, fun H' => i + 1 ≤ ds.length ∧ ∃ Hsi acc accd tail, Grow Hs1 H1 Hsi H' ∧ Hsi D = none ∧ H' D = some (.lst acc) ∧ DdAll K Hsi acc accd ∧ acc.length ≤ i + 1 ∧ compQ hg' fq (wipeR ρ (own.map (·.2))) (ds.drop (i + 1)) = some tail ∧ joinQ accd tail = res,
      fun H' ⟨a, b⟩ => ⟨ds.length - (i + 1), by omega, rfl, a, b⟩, fun x H3 hy => ?_⟩
    obtain ⟨Hs3, g3, d, hd, ad⟩ := Y.yld i H2 x H3 Hsi hlt g2.exs g2.sub hy
    have ed : ds.drop i = d :: ds.drop (i + 1) := by
      rw [List.drop_eq_getElem_cons hlt, (List.getElem?_eq_some_iff.mp hd).2]
    rw [ed] at hcf
    unfold compQ at hcf
    obtain ⟨ρ1, c1, hcf⟩ := bind_some hcf
    obtain ⟨r1, c2, hcf⟩ := bind_some hcf
    have R3 : SR K M Hs0 H0 Hs3 H3 (L2.wipe σ (own.map (·.2))) (wipeR ρ (own.map (·.2))) := (((R.grow g1).wipe _).grow g2).grow g3
    refine (hg X.s_0 (fun _ => none) 0 [] [] fun _ _ _ => True).sm R3 ad c1 fun σ4 R4 w4 => ⟨?_, ?_⟩
    · rw [w4 _ hws']
      exact wipe_wipe σ _
    · unfold L2.tYes
      dsimp only
      rw [if_pos rfl]
      have hD5 : H3 D = some (.lst acc) := g3.ex _ _ hD2
      have n3 : Hs3 D = none := g3.new D n2 (by rw [hD2]; simp)
      refine he.sm R4 c2 ?_
      cases r1 with
      | error c =>
        cases hcf
        subst hres
        exact fun H6 e6 => q H6 (((g1.trans g2).trans g3).ex.trans e6)
      | ok y =>
        obtain ⟨z, c4, hcf⟩ := bind_some hcf
        refine fun v Hs6 H6 g6 d6 => ?_
        have hD6 : H6 D = some (.lst acc) := g6.ex _ _ hD5
        have n6 : Hs6 D = none := g6.new D n3 (by rw [hD5]; simp)
        have gg := (g2.trans g3).trans g6
        refine ⟨acc, hD6, szL (by omega), hlt, Hs6, acc ++ [v], accd ++ [y], z, ⟨fun b o e => ?_, gg.exs, fun b o e => ?_, gg.new⟩, n6, upd_same, ((d2.mono g3.exs).mono g6.exs).append (.cons d6 .nil), ?_, c4, ?_⟩
        · have hb : b ≠ D := fun z => by rw [z, hD] at e; cases e
          rw [upd_ne hb]
          exact gg.ex _ _ e
        · have hb : b ≠ D := fun z => by rw [z, n6] at e; cases e
          rw [upd_ne hb]
          exact gg.sub _ _ e
        · rw [List.length_append, List.length_singleton]
          omega
        · cases z with
          | error c => cases hcf; exact hres
          | ok ys =>
            cases hcf
            rw [← hres]
            show Except.ok ((accd ++ [y]) ++ ys) = Except.ok (accd ++ (y :: ys))
            rw [List.append_assoc]
            rfl
  · have ei : i = ds.length := by omega
    subst ei
    rw [List.drop_length] at hcf
    unfold compQ at hcf
    cases hcf
    have hres : Except.ok (accd ++ []) = res := hres
    rw [List.append_nil] at hres
    subst hres
    exact .inl ⟨Y.stop _ H2 (g2.exs.trans g2.sub) (Nat.le_refl _), q D acc Hsi H2 (g1.trans g2) (g1.ex.free hD) n2 hD2 d2⟩
@[simp] def fTupQ (f : Rho → Option (Except Nat (List PyData))) : Rho → Option (Except Nat PyData) := fun ρ => (f ρ).bind fun r => match r with
  | .error c => some (.error c)
  | .ok ds => some (.ok (.tuple ds))
/-- tuple([.. that may raise ..]) -/
theorem qd_tupleOf {fq : Rho → Option (Except Nat (List PyData))} (h : QL K xc X M W e te fq) (hm : X.mg "tuple" = none) (hg : Gl X "tuple" := by rfl)
    (he : starEach [e] X.env = (false, eval e X.env) :: starEach [] X.env := by rfl) (hpl : (backTo pos (starEach [] X.env)).any (·.1) = false := by rfl) (hK : X.K = K := by rfl) :
    QD K xc X M W (.Call (.Name "tuple" p) [e] [] pos) (tCB (fun xs H Q => ∃ p ys, xs = [.ref p] ∧ ((SqL K H p ys ∧ NewT Q H ys) ∨ (SqT K H p ys ∧ Q (.ref p) H))) (tCons te tNil)) (fTupQ fq) := by
  subst hK
  refine ⟨pe_callTy call_tupN hg hm boot_tuple (pa_cons h.pe pa_nil he) (by decide) (by decide) he hpl, fun {Hs0 H0 Hs H σ ρ r Q} R hf q => ?_⟩
  obtain ⟨r1, h1, h2⟩ := bind_some hf
  refine h.sm R h1 ?_
  cases r1 with
  | error c =>
    cases h2
    exact fun H' e' => q H' e'
  | ok ds =>
    cases h2
    intro p0 xs Hs1 H1 g1 hp hsp hH d1
    exact ⟨p0, xs, rfl, .inl ⟨sqL_of hH, NewT.of g1 d1 q⟩⟩
@[simp] def fPairQ (f g : Rho → Option (Except Nat PyData)) : Rho → Option (Except Nat PyData) := fun ρ => (f ρ).bind fun r => match r with
  | .error c => some (.error c)
  | .ok x => (g ρ).bind fun r2 => match r2 with
    | .error c => some (.error c)
    | .ok y => some (.ok (.tuple [x, y]))
/-- (a, b), each of which may raise -/
theorem qd_pair {k : Nat} {fq gq : Rho → Option (Except Nat PyData)} (ha : QD K xc X M W a ta fq) (hb : QD K xc X M W b tb gq) (n1 : starEach [a, b] X.env = (false, eval a X.env) :: starEach [b] X.env := by rfl) (n2 : starEach [b] X.env = (false, eval b X.env) :: starEach [] X.env := by rfl) :
    QD K xc X M W (.Tuple [a, b] k pos) (tTupN (tCons ta (tCons tb tNil))) (fPairQ fq gq) :=
  ⟨pe_tupN (pa_cons ha.pe (pa_cons hb.pe pa_nil n2) n1), fun {Hs0 H0 Hs H σ ρ r Q} R hf q => by
    obtain ⟨r1, h1, hf⟩ := bind_some hf
    refine ha.sm R h1 ?_
    cases r1 with
    | error c =>
      cases hf
      exact fun H' e' => q H' e'
    | ok x =>
      obtain ⟨r2, h2, hf⟩ := bind_some hf
      intro v Hs1 H1 g1 d1
      refine hb.sm (R.grow g1) h2 ?_
      cases r2 with
      | error c =>
        cases hf
        exact fun H' e' => q H' (g1.ex.trans e')
      | ok y =>
        cases hf
        intro u Hs2 H2 g2 d2
        exact ⟨szM (by show 2 ≤ 1000000; decide), NewT.of (g1.trans g2) (.cons (d1.mono g2.exs) (.cons d2 .nil)) q⟩⟩
end
end DL

namespace Lw
open PySem PySem.Spec PyProof.Rows L2 DL
def topS (i : Nat) : Stmt := PySem.Challenge.pw_mapweave_k02_whole_texts.main.body.getD i (.Pass ⟨0, 0, 0, 0⟩)
abbrev s_is_number : Stmt := topS 6
abbrev N_is_number : List Str := ["thing", "most"]
theorem nd_is_number : (N_is_number).Nodup := by decide +kernel
theorem sc_is_number : FnScope N_is_number ["thing", "most"] (defScope s_is_number) := ⟨rfl, rfl, rfl, by decide +kernel, rfl, by decide +kernel, by decide +kernel⟩
abbrev s_is_map : Stmt := topS 7
abbrev N_is_map : List Str := ["thing", "to", "row", "one"]
theorem nd_is_map : (N_is_map).Nodup := by decide +kernel
theorem sc_is_map : FnScope N_is_map ["thing"] (defScope s_is_map) := ⟨rfl, rfl, rfl, by decide +kernel, rfl, by decide +kernel, by decide +kernel⟩
abbrev s_written : Stmt := topS 9
abbrev N_written : List Str := ["one", "number"]
theorem nd_written : (N_written).Nodup := by decide +kernel
theorem sc_written : FnScope N_written ["one"] (defScope s_written) := ⟨rfl, rfl, rfl, by decide +kernel, rfl, by decide +kernel, by decide +kernel⟩
abbrev s_figure : Stmt := topS 11
abbrev N_figure : List Str := ["word", "number"]
theorem nd_figure : (N_figure).Nodup := by decide +kernel
theorem sc_figure : FnScope N_figure ["word"] (defScope s_figure) := ⟨rfl, rfl, rfl, by decide +kernel, rfl, by decide +kernel, by decide +kernel⟩
abbrev s_read : Stmt := topS 12
abbrev N_read : List Str := ["text", "words", "found", "word"]
theorem nd_read : (N_read).Nodup := by decide +kernel
theorem sc_read : FnScope N_read ["text"] (defScope s_read) := ⟨rfl, rfl, rfl, by decide +kernel, rfl, by decide +kernel, by decide +kernel⟩
abbrev s__law_cell : Stmt := topS 14
abbrev N__law_cell : List Str := ["_law_script", "_law_k"]
theorem nd__law_cell : (N__law_cell).Nodup := by decide +kernel
theorem sc__law_cell : FnScope N__law_cell ["_law_script", "_law_k"] (defScope s__law_cell) := ⟨rfl, rfl, rfl, by decide +kernel, rfl, by decide +kernel, by decide +kernel⟩
abbrev s__law_mix : Stmt := topS 15
abbrev N__law_mix : List Str := ["_law_cell_here", "_law_prime", "_law_many"]
theorem nd__law_mix : (N__law_mix).Nodup := by decide +kernel
theorem sc__law_mix : FnScope N__law_mix ["_law_cell_here", "_law_prime", "_law_many"] (defScope s__law_mix) := ⟨rfl, rfl, rfl, by decide +kernel, rfl, by decide +kernel, by decide +kernel⟩
abbrev s__law_map : Stmt := topS 16
abbrev N__law_map : List Str := ["_law_cell_here", "_law_many", "_law_to", "_law_row", "_law_left", "_law_k"]
theorem nd__law_map : (N__law_map).Nodup := by decide +kernel
theorem sc__law_map : FnScope N__law_map ["_law_cell_here", "_law_many", "_law_to"] (defScope s__law_map) := ⟨rfl, rfl, rfl, by decide +kernel, rfl, by decide +kernel, by decide +kernel⟩
abbrev s__law_sizes : Stmt := topS 17
abbrev N__law_sizes : List Str := ["_law_script", "_law_k", "_law_seed"]
theorem nd__law_sizes : (N__law_sizes).Nodup := by decide +kernel
theorem sc__law_sizes : FnScope N__law_sizes ["_law_script", "_law_k"] (defScope s__law_sizes) := ⟨rfl, rfl, rfl, by decide +kernel, rfl, by decide +kernel, by decide +kernel⟩
abbrev s__law_text : Stmt := topS 18
abbrev N__law_text : List Str := ["_law_one", "_law_text_here", "_law_number"]
theorem nd__law_text : (N__law_text).Nodup := by decide +kernel
theorem sc__law_text : FnScope N__law_text ["_law_one"] (defScope s__law_text) := ⟨rfl, rfl, rfl, by decide +kernel, rfl, by decide +kernel, by decide +kernel⟩
abbrev s__law_spoilt : Stmt := topS 19
abbrev N__law_spoilt : List Str := ["_law_text_here", "_law_cell_here", "_law_at", "_law_sign"]
theorem nd__law_spoilt : (N__law_spoilt).Nodup := by decide +kernel
theorem sc__law_spoilt : FnScope N__law_spoilt ["_law_text_here", "_law_cell_here"] (defScope s__law_spoilt) := ⟨rfl, rfl, rfl, by decide +kernel, rfl, by decide +kernel, by decide +kernel⟩
abbrev s__law_read : Stmt := topS 20
abbrev N__law_read : List Str := ["_law_text_here", "_law_found", "e"]
theorem nd__law_read : (N__law_read).Nodup := by decide +kernel
theorem sc__law_read : FnScope N__law_read ["_law_text_here"] (defScope s__law_read) := ⟨rfl, rfl, rfl, by decide +kernel, rfl, by decide +kernel, by decide +kernel⟩
abbrev s_law : Stmt := topS 21
abbrev N_law : List Str := ["_law_script", "_law_cell_here", "_law_bad", "_law_one", "_law_text_here", "_law_found"]
theorem nd_law : (N_law).Nodup := by decide +kernel
theorem sc_law : FnScope N_law ["_law_script"] (defScope s_law) := ⟨rfl, rfl, rfl, by decide +kernel, rfl, by decide +kernel, by decide +kernel⟩
noncomputable def g_is_number_0 : Gn := (gRet (fAnd (f1 (gIsi "int") (fVar 0)) (fAnd (fNot (f1 (gIsi "bool") (fVar 0))) (fChain (gIb fun i j => decide (i ≤ j)) (gIb fun i j => decide (i ≤ j)) (fC (.int 0)) (fVar 0) (fVar 1)))))
noncomputable def g_is_number : Gn := g_is_number_0
noncomputable def phi_is_number := defN 2 2 g_is_number
noncomputable def g_is_map_0t0 : Gn := (gRet (fC (.bool false)))
noncomputable def g_is_map_0 : Gn := (gIf (bOr (bNot (fTru (f1 (gIsi "tuple") (fVar 0)))) (bOr (fB (f2 (gEq true) (fBi gLen (fCons (fVar 0) fNil)) (fC (.int 2)))) (bNot (fTru (fCall phi_is_number (fCons (f2 gIx (fVar 0) (fC (.int 0))) (fCons (fC (.int 9)) fNil)))))))
      g_is_map_0t0 gNx)
noncomputable def g_is_map_1 : Gn := (gAsg (fVar 0) (hSeq 2 (hCons (hName 1) (hCons (hName 2) hNil))))
noncomputable def g_is_map_2 : Gn := (gRet (fAnd (f1 (gIsi "tuple") (fVar 2)) (fAnd (f2 (gIb fun i j => decide (i ≤ j)) (fBi gLen (fCons (fVar 2) fNil)) (fC (.int 9))) (fBi gAll (fCons (fFr (fLc [3] (iSq (fVar 2)) (hName 3) cYes (fCall phi_is_number (fCons (fVar 3) (fCons (f2 (gI fun i j => i - j) (fVar 1) (fC (.int 1))) fNil))))) fNil)))))
noncomputable def g_is_map : Gn := (gBlk g_is_map_0 (gBlk g_is_map_1 g_is_map_2))
noncomputable def phi_is_map := defN 1 4 g_is_map
noncomputable def g_written_0 : Gn := (gRet (f2 gJoin (fC (.str (PySem.Str.ofString " "))) (f2 gAdd (fFr (fList (fCons (f2 gFmt2 (f2 gIx (fVar 0) (fC (.int 0))) (fC (.str (PySem.Str.ofString ":")))) fNil))) (fFr (fLc [1] (iSq (f2 gIx (fVar 0) (fC (.int 1)))) (hName 1) cYes (fBi gStr (fCons (fVar 1) fNil)))))))
noncomputable def g_written : Gn := g_written_0
noncomputable def phi_written := defN 1 2 g_written
noncomputable def g_figure_0b0t0 : Gn := (gRet (fVar 1))
noncomputable def g_figure_0b0 : Gn := (gIf (fB (f2 (gEq false) (fVar 0) (fBi gStr (fCons (fVar 1) fNil))))
      g_figure_0b0t0 gNx)
noncomputable def g_figure_0 : Gn := (gFor (iR1 (fC (.int 10))) (hName 1)
      g_figure_0b0)
noncomputable def g_figure_1 : Gn := (gRaise 1)
noncomputable def g_figure : Gn := (gBlk g_figure_0 g_figure_1)
noncomputable def phi_figure := defN 1 2 g_figure
noncomputable def g_read_0 : Gn := (gAsg (f2 gSplit (fVar 0) (fC (.str (PySem.Str.ofString " ")))) (hName 1))
noncomputable def g_read_1t0 : Gn := (gRaise 1)
noncomputable def g_read_1 : Gn := (gIf (bOr (fB (f2 (gEq true) (fBi gLen (fCons (f2 gIx (fVar 1) (fC (.int 0))) fNil)) (fC (.int 2)))) (fB (f2 (gEq true) (f2 gIx (f2 gIx (fVar 1) (fC (.int 0))) (fC (.int 1))) (fC (.str (PySem.Str.ofString ":"))))))
      g_read_1t0 gNx)
noncomputable def g_read_2 : Gn := (gSetQ 2 (fPairQ (qCall phi_figure (fCons (f2 gIx (f2 gIx (fVar 1) (fC (.int 0))) (fC (.int 0))) fNil)) (fTupQ (fLq [3] (iSq (fSl (fVar 1) (pSome (fC (.int 1))) pNone)) (hName 3) (qCall phi_figure (fCons (fVar 3) fNil))))))
noncomputable def g_read_3t0 : Gn := (gRaise 1)
noncomputable def g_read_3 : Gn := (gIf (bOr (bNot (fTru (fCall phi_is_map (fCons (fVar 2) fNil)))) (fB (f2 (gEq true) (fCall phi_written (fCons (fVar 2) fNil)) (fVar 0))))
      g_read_3t0 gNx)
noncomputable def g_read_4 : Gn := (gRet (fVar 2))
noncomputable def g_read : Gn := (gBlk g_read_0 (gBlk g_read_1 (gBlk g_read_2 (gBlk g_read_3 g_read_4))))
noncomputable def phi_read := defN 1 4 g_read
noncomputable def g__law_cell_0t0 : Gn := (gRet (f2 gIx (fVar 0) (fVar 1)))
noncomputable def g__law_cell_0 : Gn := (gIf (fB (f2 (gIb fun i j => decide (i < j)) (fVar 1) (fBi gLen (fCons (fVar 0) fNil))))
      g__law_cell_0t0 gNx)
noncomputable def g__law_cell_1 : Gn := (gRet (fC (.int 0)))
noncomputable def g__law_cell : Gn := (gBlk g__law_cell_0 g__law_cell_1)
noncomputable def phi__law_cell := defN 2 2 g__law_cell
noncomputable def g__law_mix_0 : Gn := (gRet (f2 (gIc (fun _ j => 0 < j) fun i j => i % j) (f2 (gIc (fun _ j => 0 < j) fun i j => i % j) (f2 gMulD (fVar 0) (fC (.int 48271))) (fVar 1)) (fVar 2)))
noncomputable def g__law_mix : Gn := g__law_mix_0
noncomputable def phi__law_mix := defN 3 3 g__law_mix
noncomputable def g__law_map_0 : Gn := (gAsg (fFr (fList fNil)) (hName 3))
noncomputable def g__law_map_1t0 : Gn := (gAsg (fFr (fLc [5] (iR1 (fVar 1)) (hName 5) cYes (fCall phi__law_mix (fCons (f2 gAdd (fVar 0) (f2 gMulD (fC (.int 31)) (fVar 5))) (fCons (fC (.int 9973)) (fCons (fVar 2) fNil)))))) (hName 3))
noncomputable def g__law_map_1 : Gn := (gIf (fB (f2 (gIb fun i j => decide (j < i)) (fVar 2) (fC (.int 0))))
      g__law_map_1t0 gNx)
noncomputable def g__law_map_2t0 : Gn := (gAsg (fFr (fLc [5] (iR1 (fVar 1)) (hName 5) cYes (f2 (gIc (fun _ j => 0 < j) fun i j => i % j) (fVar 5) (fVar 2)))) (hName 3))
noncomputable def g__law_map_2t1 : Gn := (gAsg (f2 gAdd (fSl (fVar 3) (pSome (f2 (gIc (fun _ j => 0 < j) fun i j => i % j) (f2 (gIc CDiv fun i j => i / j) (fVar 0) (fC (.int 4))) (fVar 1))) pNone) (fSl (fVar 3) pNone (pSome (f2 (gIc (fun _ j => 0 < j) fun i j => i % j) (f2 (gIc CDiv fun i j => i / j) (fVar 0) (fC (.int 4))) (fVar 1))))) (hName 3))
noncomputable def g__law_map_2t : Gn := (gBlk g__law_map_2t0 g__law_map_2t1)
noncomputable def g__law_map_2 : Gn := (gIf (bAnd (fB (f2 (gEq false) (f2 (gIc (fun _ j => 0 < j) fun i j => i % j) (fVar 0) (fC (.int 4))) (fC (.int 0)))) (fB (fChain (gIb fun i j => decide (i < j)) (gIb fun i j => decide (i ≤ j)) (fC (.int 0)) (fVar 2) (fVar 1))))
      g__law_map_2t gNx)
noncomputable def g__law_map_3t0 : Gn := (gOwn 4 (gRgL (fVar 2)))
noncomputable def g__law_map_3t1 : Gn := (gSetPop 3 5 4 [5] (iR1 (fVar 1)) (fCall phi__law_mix (fCons (f2 gAdd (fVar 0) (f2 gMulD (fC (.int 7)) (fVar 5))) (fCons (fC (.int 9967)) (fCons (f2 (gI fun i j => i - j) (fVar 2) (fVar 5)) fNil)))))
noncomputable def g__law_map_3t : Gn := (gBlk g__law_map_3t0 g__law_map_3t1)
noncomputable def g__law_map_3 : Gn := (gIf (bAnd (fB (f2 (gEq false) (f2 (gIc (fun _ j => 0 < j) fun i j => i % j) (fVar 0) (fC (.int 4))) (fC (.int 1)))) (fB (fChain (gIb fun i j => decide (i < j)) (gIb fun i j => decide (i ≤ j)) (fC (.int 0)) (fVar 1) (fVar 2))))
      g__law_map_3t gNx)
noncomputable def g__law_map_4 : Gn := (gRet (fTup (fCons (fVar 2) (fCons (fBi gTuple (fCons (fVar 3) fNil)) fNil))))
noncomputable def g__law_map : Gn := (gBlk g__law_map_0 (gBlk g__law_map_1 (gBlk g__law_map_2 (gBlk g__law_map_3 g__law_map_4))))
noncomputable def phi__law_map := defN 3 6 g__law_map
noncomputable def g__law_sizes_0 : Gn := (gAsg (fCall phi__law_cell (fCons (fVar 0) (fCons (fVar 1) fNil))) (hName 2))
noncomputable def g__law_sizes_1 : Gn := (gRet (fFr (fList (fCons (fCall phi__law_mix (fCons (fVar 2) (fCons (fC (.int 9949)) (fCons (fC (.int 7)) fNil)))) (fCons (fCall phi__law_mix (fCons (fVar 2) (fCons (fC (.int 9941)) (fCons (fC (.int 7)) fNil)))) (fCons (fCall phi__law_mix (fCons (fVar 2) (fCons (fC (.int 9931)) (fCons (fC (.int 7)) fNil)))) (fCons (fCall phi__law_mix (fCons (fVar 2) (fCons (fC (.int 9929)) (fCons (fC (.int 7)) fNil)))) fNil)))))))
noncomputable def g__law_sizes : Gn := (gBlk g__law_sizes_0 g__law_sizes_1)
noncomputable def phi__law_sizes := defN 2 3 g__law_sizes
noncomputable def g__law_text_0 : Gn := (gAsg (f2 gAdd (fBi gStr (fCons (f2 gIx (fVar 0) (fC (.int 0))) fNil)) (fC (.str (PySem.Str.ofString ":")))) (hName 1))
noncomputable def g__law_text_1b0 : Gn := (gAsg (f2 gAdd (f2 gAdd (fVar 1) (fC (.str (PySem.Str.ofString " ")))) (fBi gStr (fCons (fVar 2) fNil))) (hName 1))
noncomputable def g__law_text_1 : Gn := (gFor (iSq (f2 gIx (fVar 0) (fC (.int 1)))) (hName 2)
      g__law_text_1b0)
noncomputable def g__law_text_2 : Gn := (gRet (fVar 1))
noncomputable def g__law_text : Gn := (gBlk g__law_text_0 (gBlk g__law_text_1 g__law_text_2))
noncomputable def phi__law_text := defN 1 3 g__law_text
noncomputable def g__law_spoilt_0 : Gn := (gAsg (f2 (gIc (fun _ j => 0 < j) fun i j => i % j) (f2 (gIc CDiv fun i j => i / j) (fVar 1) (fC (.int 4))) (f2 gAdd (fBi gLen (fCons (fVar 0) fNil)) (fC (.int 1)))) (hName 2))
noncomputable def g__law_spoilt_1 : Gn := (gAsg (f2 gIx (fC (.str (PySem.Str.ofString "0129: ,-ax"))) (f2 (gIc (fun _ j => 0 < j) fun i j => i % j) (f2 (gIc CDiv fun i j => i / j) (fVar 1) (fC (.int 512))) (fC (.int 10)))) (hName 3))
noncomputable def g__law_spoilt_2t0 : Gn := (gRet (f2 gAdd (fSl (fVar 0) pNone (pSome (fVar 2))) (fSl (fVar 0) (pSome (f2 gAdd (fVar 2) (fC (.int 1)))) pNone)))
noncomputable def g__law_spoilt_2 : Gn := (gIf (fB (f2 (gEq false) (f2 (gIc (fun _ j => 0 < j) fun i j => i % j) (fVar 1) (fC (.int 4))) (fC (.int 0))))
      g__law_spoilt_2t0 gNx)
noncomputable def g__law_spoilt_3t0 : Gn := (gRet (f2 gAdd (f2 gAdd (fSl (fVar 0) pNone (pSome (fVar 2))) (fSl (fVar 0) (pSome (fVar 2)) (pSome (f2 gAdd (fVar 2) (fC (.int 1)))))) (fSl (fVar 0) (pSome (fVar 2)) pNone)))
noncomputable def g__law_spoilt_3 : Gn := (gIf (fB (f2 (gEq false) (f2 (gIc (fun _ j => 0 < j) fun i j => i % j) (fVar 1) (fC (.int 4))) (fC (.int 1))))
      g__law_spoilt_3t0 gNx)
noncomputable def g__law_spoilt_4 : Gn := (gRet (f2 gAdd (f2 gAdd (fSl (fVar 0) pNone (pSome (fVar 2))) (fVar 3)) (fSl (fVar 0) (pSome (f2 (gI fun i j => i - j) (f2 gAdd (fVar 2) (f2 (gIc (fun _ j => 0 < j) fun i j => i % j) (fVar 1) (fC (.int 4)))) (fC (.int 2)))) pNone)))
noncomputable def g__law_spoilt : Gn := (gBlk g__law_spoilt_0 (gBlk g__law_spoilt_1 (gBlk g__law_spoilt_2 (gBlk g__law_spoilt_3 g__law_spoilt_4))))
noncomputable def phi__law_spoilt := defN 2 4 g__law_spoilt
noncomputable def g__law_read_0 : Gn := (gAsg (fC (.str (PySem.Str.ofString "other"))) (hName 1))
noncomputable def g__law_read_1y0 : Gn := (gSetQ 1 (qCall phi_read (fCons (fVar 0) fNil)))
noncomputable def g__law_read_1x0 : Gn := (gAsg (fC .none) (hName 1))
noncomputable def g__law_read_1 : Gn := (gTryAs 1 2 g__law_read_1y0 g__law_read_1x0)
noncomputable def g__law_read_2 : Gn := (gRet (fVar 1))
noncomputable def g__law_read : Gn := (gBlk g__law_read_0 (gBlk g__law_read_1 g__law_read_2))
noncomputable def phi__law_read := defN 1 3 g__law_read
noncomputable def g_law_0b0 : Gn := (gAsg (fCall phi__law_map (fCons (fVar 1) (fCons (fCall phi__law_mix (fCons (fVar 1) (fCons (fC (.int 9907)) (fCons (fC (.int 10)) fNil)))) (fCons (fCall phi__law_mix (fCons (fVar 1) (fCons (fC (.int 9901)) (fCons (fC (.int 10)) fNil)))) fNil)))) (hName 3))
noncomputable def g_law_0b1 : Gn := (gAsg (fCall phi__law_text (fCons (fVar 3) fNil)) (hName 4))
noncomputable def g_law_0b2t0 : Gn := (gRet (fC (.bool false)))
noncomputable def g_law_0b2 : Gn := (gIf (bOr (fB (f2 (gEq true) (fCall phi_written (fCons (fVar 3) fNil)) (fVar 4))) (fB (f2 (gEq true) (fCall phi_read (fCons (fVar 4) fNil)) (fVar 3))))
      g_law_0b2t0 gNx)
noncomputable def g_law_0b3 : Gn := (gAsg (fCall phi__law_spoilt (fCons (fVar 4) (fCons (fVar 1) fNil))) (hName 2))
noncomputable def g_law_0b4 : Gn := (gAsg (fCall phi__law_read (fCons (fVar 2) fNil)) (hName 5))
noncomputable def g_law_0b5t0 : Gn := (gRet (fC (.bool false)))
noncomputable def g_law_0b5 : Gn := (gIf (bAnd (fB (f2 (gIs true) (fVar 5) (fC .none))) (bOr (bNot (fTru (fCall phi_is_map (fCons (fVar 5) fNil)))) (fB (f2 (gEq true) (fCall phi__law_text (fCons (fVar 5) fNil)) (fVar 2)))))
      g_law_0b5t0 gNx)
noncomputable def g_law_0b : Gn := (gBlk g_law_0b0 (gBlk g_law_0b1 (gBlk g_law_0b2 (gBlk g_law_0b3 (gBlk g_law_0b4 g_law_0b5)))))
noncomputable def g_law_0 : Gn := (gFor (iSq (fSl (fVar 0) pNone (pSome (fC (.int 8))))) (hName 1)
      g_law_0b)
noncomputable def g_law_1b0t0 : Gn := (gRet (fC (.bool false)))
noncomputable def g_law_1b0 : Gn := (gIf (fB (f2 (gIs true) (fCall phi__law_read (fCons (fVar 2) fNil)) (fC .none)))
      g_law_1b0t0 gNx)
noncomputable def g_law_1 : Gn := (gFor (iSq (fFr (fList (fCons (fC (.str (PySem.Str.ofString ""))) (fCons (fC (.str (PySem.Str.ofString ":"))) (fCons (fC (.str (PySem.Str.ofString "3"))) (fCons (fC (.str (PySem.Str.ofString "3:0"))) (fCons (fC (.str (PySem.Str.ofString "3: 3"))) (fCons (fC (.str (PySem.Str.ofString "0: 0"))) (fCons (fC (.str (PySem.Str.ofString "3:  0"))) (fCons (fC (.str (PySem.Str.ofString " 3: 0"))) (fCons (fC (.str (PySem.Str.ofString "3: 0 "))) (fCons (f2 gAdd (fC (.str (PySem.Str.ofString "9:"))) (f2 gMulS (fC (.str (PySem.Str.ofString " 0"))) (fC (.int 10)))) (fCons (fC (.str (PySem.Str.ofString "10: 0"))) (fCons (fC (.str (PySem.Str.ofString "x: 0"))) fNil))))))))))))))) (hName 2)
      g_law_1b0)
noncomputable def g_law_2 : Gn := (gRet (f2 (gEq false) (fCall phi_read (fCons (fC (.str (PySem.Str.ofString "0:"))) fNil)) (fTup (fCons (fC (.int 0)) (fCons (fTup fNil) fNil)))))
noncomputable def g_law : Gn := (gBlk g_law_0 (gBlk g_law_1 g_law_2))
noncomputable def phi_law := defN 1 6 g_law
structure Cs where
  a : Nat → Addr
  d : Nat → FuncData
  c : Nat → Addr
structure Txt (K : PySem.W.Frag) (mg : Str → Option Value) (A : Cs) : Prop where
  F0 : Fun K "is_number" "is_number" s_is_number (A.a 0) (A.d 0)
  g0 : mg "is_number" = some (.ref (A.a 0))
  b0 : Binds K (A.d 0) ["thing", "most"] []
  F1 : Fun K "is_map" "is_map" s_is_map (A.a 1) (A.d 1)
  g1 : mg "is_map" = some (.ref (A.a 1))
  b1 : Binds K (A.d 1) ["thing"] []
  F2 : Fun K "written" "written" s_written (A.a 2) (A.d 2)
  g2 : mg "written" = some (.ref (A.a 2))
  b2 : Binds K (A.d 2) ["one"] []
  F3 : Fun K "figure" "figure" s_figure (A.a 3) (A.d 3)
  g3 : mg "figure" = some (.ref (A.a 3))
  b3 : Binds K (A.d 3) ["word"] []
  F4 : Fun K "read" "read" s_read (A.a 4) (A.d 4)
  g4 : mg "read" = some (.ref (A.a 4))
  b4 : Binds K (A.d 4) ["text"] []
  F6 : Fun K "_law_mix" "_law_mix" s__law_mix (A.a 6) (A.d 6)
  g6 : mg "_law_mix" = some (.ref (A.a 6))
  b6 : Binds K (A.d 6) ["_law_cell_here", "_law_prime", "_law_many"] []
  F7 : Fun K "_law_map" "_law_map" s__law_map (A.a 7) (A.d 7)
  g7 : mg "_law_map" = some (.ref (A.a 7))
  b7 : Binds K (A.d 7) ["_law_cell_here", "_law_many", "_law_to"] []
  F9 : Fun K "_law_text" "_law_text" s__law_text (A.a 9) (A.d 9)
  g9 : mg "_law_text" = some (.ref (A.a 9))
  b9 : Binds K (A.d 9) ["_law_one"] []
  F10 : Fun K "_law_spoilt" "_law_spoilt" s__law_spoilt (A.a 10) (A.d 10)
  g10 : mg "_law_spoilt" = some (.ref (A.a 10))
  b10 : Binds K (A.d 10) ["_law_text_here", "_law_cell_here"] []
  F11 : Fun K "_law_read" "_law_read" s__law_read (A.a 11) (A.d 11)
  g11 : mg "_law_read" = some (.ref (A.a 11))
  b11 : Binds K (A.d 11) ["_law_text_here"] []
  F12 : Fun K "law" "law" s_law (A.a 12) (A.d 12)
  g12 : mg "law" = some (.ref (A.a 12))
  b12 : Binds K (A.d 12) ["_law_script"] []
  m_ValueError : mg "ValueError" = none
  m_all : mg "all" = none
  m_bool : mg "bool" = none
  m_int : mg "int" = none
  m_isinstance : mg "isinstance" = none
  m_len : mg "len" = none
  m_list : mg "list" = none
  m_range : mg "range" = none
  m_str : mg "str" = none
  m_tuple : mg "tuple" = none
  gC0 : mg "MapError" = some (.ref (A.c 0))
  x0 : PySem.W.excIn K (A.c 0) [.type "ValueError", .type "Exception", .type "BaseException", .type "object"] "ValueError.__new__" = true
  kC0 : PySem.W.keepIn K (.ref (A.c 0)) = true
  bC0 : PySem.W.subIn K (.ref (A.c 0)) (.type "BaseException") = some true
  tC0 : PySem.W.typeIn K (.ref (A.c 0)) = some (.type "type")
  gC1 : mg "NoText" = some (.ref (A.c 1))
  x1 : PySem.W.excIn K (A.c 1) [.type "ValueError", .type "Exception", .type "BaseException", .type "object"] "ValueError.__new__" = true
  kC1 : PySem.W.keepIn K (.ref (A.c 1)) = true
  bC1 : PySem.W.subIn K (.ref (A.c 1)) (.type "BaseException") = some true
  tC1 : PySem.W.typeIn K (.ref (A.c 1)) = some (.type "type")
  gC2 : mg "NoFit" = some (.ref (A.c 2))
  x2 : PySem.W.excIn K (A.c 2) [.type "ValueError", .type "Exception", .type "BaseException", .type "object"] "ValueError.__new__" = true
  kC2 : PySem.W.keepIn K (.ref (A.c 2)) = true
  bC2 : PySem.W.subIn K (.ref (A.c 2)) (.type "BaseException") = some true
  tC2 : PySem.W.typeIn K (.ref (A.c 2)) = some (.type "type")
  gC3 : mg "NoTurn" = some (.ref (A.c 3))
  x3 : PySem.W.excIn K (A.c 3) [.type "ValueError", .type "Exception", .type "BaseException", .type "object"] "ValueError.__new__" = true
  kC3 : PySem.W.keepIn K (.ref (A.c 3)) = true
  bC3 : PySem.W.subIn K (.ref (A.c 3)) (.type "BaseException") = some true
  tC3 : PySem.W.typeIn K (.ref (A.c 3)) = some (.type "type")
  exm10 : PySem.W.exmOne K (.ref (A.c 1)) (.ref (A.c 0)) = some true
  ask1123 : AskOk K A.c 1 1 2 3
section
variable {P : Program} {w : World} {K : PySem.W.Frag} {mg : Str → Option Value} {base : Heap} {A : Cs}
theorem ok_is_number (T : Txt K mg A) : FnOk P w K mg base (L2.CX P w) 1 (A.a 0) (A.d 0) ["thing", "most"] (spX K 2 A.c phi_is_number) := by
  exact ok_def [] T.F0 sc_is_number rfl (fun cdv Ar outer s H E hr hp tk => ⟨_, (ss_one (sd_ret (ed_and (ed_isi (T := "int") (ed_var 0) T.m_isinstance T.m_int PyProof.Rows.boot_int) (ed_and (ed_not (ed_isi (T := "bool") (ed_var 0) T.m_isinstance T.m_bool PyProof.Rows.boot_bool)) (ed_one (ed_chain od_le od_le ed_int (ed_var 0) (ed_var 1)))))))⟩)
theorem ok_is_map (T : Txt K mg A) : FnOk P w K mg base (L2.CX P w) 2 (A.a 1) (A.d 1) ["thing"] (spX K 1 A.c phi_is_map) := by
  exact ok_def [] T.F1 sc_is_map rfl (fun cdv Ar outer s H E hr hp tk => ⟨_, (ss_cons (sd_if (td_w (wd_or (td_not (td_truth (ed_isi (T := "tuple") (ed_var 0) T.m_isinstance T.m_tuple PyProof.Rows.boot_tuple))) (wd_or (td_cmp (od_ne hr) (ed_bi bd_len T.m_len PySem.boot_len (ad_cons (ed_var 0) ad_nil)) ed_int) (wd_or1 (td_not (td_truth (ed_call (ok_is_number T) (hr.mono (by decide)) T.g0 T.F0.kp T.b0 defN_len (ad_cons (ed_ix (ed_var 0) ed_int) (ad_cons ed_int ad_nil)))))))))
      (ss_one (sd_ret ed_bl)) ss_nil)
    (ss_cons (sd_tgt (ed_var 0) (gd_seq (gsd_cons (gd_name 1 nd_is_map) (gsd_cons (gd_name 2 nd_is_map) gsd_nil))))
    (ss_one (sd_ret (ed_and (ed_isi (T := "tuple") (ed_var 2) T.m_isinstance T.m_tuple PyProof.Rows.boot_tuple) (ed_and (ed_cmp od_le (ed_bi bd_len T.m_len PySem.boot_len (ad_cons (ed_var 2) ad_nil)) ed_int) (ed_one (ed_bi bd_all T.m_all PyProof.Rows.boot_all (ad_cons (ed_fr (fd_lc [(("one" : Str), 3)] nd_is_map (id_seq (ed_var 2)) (blkOk_by (N := N_is_map) (sc := (defScope s_is_map)) (by decide +kernel)) (fun _ _ _ _ _ => (gd_name 3 nd_is_map)) (fun _ _ _ _ _ => ctd_nil) (fun _ _ _ _ _ => (ed_call (ok_is_number T) (hr.mono (by decide)) T.g0 T.F0.kp T.b0 defN_len (ad_cons (ed_var 3) (ad_cons (ed_op od_sub (ed_var 1) ed_int) ad_nil)))))) ad_nil)))))))))⟩)
theorem ok_written (T : Txt K mg A) : FnOk P w K mg base (L2.CX P w) 1 (A.a 2) (A.d 2) ["one"] (spX K 1 A.c phi_written) := by
  exact ok_def [] T.F2 sc_written rfl (fun cdv Ar outer s H E hr hp tk => ⟨_, (ss_one (sd_ret (ed_join ed_str (ed_op od_add (ed_fr (fd_lst (ad_cons (ed_fmt2 (ed_ix (ed_var 0) ed_int)) ad_nil))) (ed_fr (fd_lc [(("number" : Str), 1)] nd_written (id_seq (ed_ix (ed_var 0) ed_int)) (blkOk_by (N := N_written) (sc := (defScope s_written)) (by decide +kernel)) (fun _ _ _ _ _ => (gd_name 1 nd_written)) (fun _ _ _ _ _ => ctd_nil) (fun _ _ _ _ _ => (ed_ty bd_str T.m_str PyProof.Rows.boot_str (ad_cons (ed_var 1) ad_nil)))))))))⟩)
theorem ok_figure (T : Txt K mg A) : FnOk P w K mg base (L2.CX P w) 1 (A.a 3) (A.d 3) ["word"] (spX K 1 A.c phi_figure) := by
  exact ok_def [] T.F3 sc_figure rfl (fun cdv Ar outer s H E hr hp tk => ⟨_, (ss_cons (sd_for hp (id_range1 ed_int T.m_range) (gd_name 1 nd_figure)
      (ss_one (sd_if (td_cmp (od_eq hr) (ed_var 0) (ed_ty bd_str T.m_str PyProof.Rows.boot_str (ad_cons (ed_var 1) ad_nil)))
      (ss_one (sd_ret (ed_var 1))) ss_nil)))
    (ss_one (sd_raise 1 T.x1 T.gC1 T.kC1 (raises_own T.bC1 T.tC1) tk)))⟩)
theorem ok_read (T : Txt K mg A) : FnOk P w K mg base (L2.CX P w) 3 (A.a 4) (A.d 4) ["text"] (spX K 1 A.c phi_read) := by
  exact ok_def [] T.F4 sc_read rfl (fun cdv Ar outer s H E hr hp tk => ⟨_, (ss_cons (sd_set 1 nd_read (ed_split (ed_var 0) ed_str))
    (ss_cons (sd_if (td_w (wd_or (td_cmp (od_ne hr) (ed_bi bd_len T.m_len PySem.boot_len (ad_cons (ed_ix (ed_var 1) ed_int) ad_nil)) ed_int) (wd_or1 (td_cmp (od_ne hr) (ed_ix (ed_ix (ed_var 1) ed_int) ed_int) ed_str))))
      (ss_one (sd_raise 1 T.x1 T.gC1 T.kC1 (raises_own T.bC1 T.tC1) tk)) ss_nil)
    (ss_cons (sd_setQ 2 nd_read (qd_pair (qd_call (ok_figure T) (hr.mono (by decide)) T.g3 T.F3.kp T.b3 defN_len tk (ad_cons (ed_ix (ed_ix (ed_var 1) ed_int) ed_int) ad_nil)) (qd_tupleOf (ql_lc [(("word" : Str), 3)] nd_read tk (id_seq (ed_sl (ed_var 1) (pd_some ed_int) pd_none)) (blkOk_by (N := N_read) (sc := (defScope s_read)) (by decide +kernel)) (fun _ _ _ _ _ _ => (gd_name 3 nd_read)) (lq_call (ok_figure T) (hr.mono (by decide)) T.g3 T.F3.kp T.b3 defN_len (fun _ _ _ _ _ _ => (ad_cons (ed_var 3) ad_nil)))) T.m_tuple)))
    (ss_cons (sd_if (td_w (wd_or (td_not (td_truth (ed_call (ok_is_map T) (hr.mono (by decide)) T.g1 T.F1.kp T.b1 defN_len (ad_cons (ed_var 2) ad_nil)))) (wd_or1 (td_cmp (od_ne hr) (ed_call (ok_written T) (hr.mono (by decide)) T.g2 T.F2.kp T.b2 defN_len (ad_cons (ed_var 2) ad_nil)) (ed_var 0)))))
      (ss_one (sd_raise 1 T.x1 T.gC1 T.kC1 (raises_own T.bC1 T.tC1) tk)) ss_nil)
    (ss_one (sd_ret (ed_var 2)))))))⟩)
theorem ok__law_mix (T : Txt K mg A) : FnOk P w K mg base (L2.CX P w) 1 (A.a 6) (A.d 6) ["_law_cell_here", "_law_prime", "_law_many"] (spX K 3 A.c phi__law_mix) := by
  exact ok_def [] T.F6 sc__law_mix rfl (fun cdv Ar outer s H E hr hp tk => ⟨_, (ss_one (sd_ret (ed_op od_mod (ed_op od_mod (ed_op od_mulD (ed_var 0) ed_int) (ed_var 1)) (ed_var 2))))⟩)
theorem ok__law_map (T : Txt K mg A) : FnOk P w K mg base (L2.CX P w) 2 (A.a 7) (A.d 7) ["_law_cell_here", "_law_many", "_law_to"] (spX K 3 A.c phi__law_map) := by
  exact ok_def [4] T.F7 sc__law_map rfl (fun cdv Ar outer s H E hr hp tk => ⟨_, (ss_cons (sd_set 3 nd__law_map (ed_fr (fd_lst ad_nil)))
    (ss_cons (sd_if (td_cmp od_gt (ed_var 2) ed_int)
      (ss_one (sd_setLc 3 [(("_law_k" : Str), 5)] nd__law_map (id_range1 (ed_var 1) T.m_range) (blkOk_by (N := N__law_map) (sc := (defScope s__law_map)) (by decide +kernel)) (fun _ _ _ _ _ => (gd_name 5 nd__law_map)) (fun _ _ _ _ _ => ctd_nil) (fun _ _ _ _ _ => (ed_call (ok__law_mix T) (hr.mono (by decide)) T.g6 T.F6.kp T.b6 defN_len (ad_cons (ed_op od_add (ed_var 0) (ed_op od_mulD ed_int (ed_var 5))) (ad_cons ed_int (ad_cons (ed_var 2) ad_nil))))) (sw_true rfl rfl rfl (by decide +kernel)))) ss_nil)
    (ss_cons (sd_if (td_w (wd_and (td_cmp (od_eq hr) (ed_op od_mod (ed_var 0) ed_int) ed_int) (wd_and1 (td_chain od_lt od_le ed_int (ed_var 2) (ed_var 1)))))
      (ss_cons (sd_setLc 3 [(("_law_k" : Str), 5)] nd__law_map (id_range1 (ed_var 1) T.m_range) (blkOk_by (N := N__law_map) (sc := (defScope s__law_map)) (by decide +kernel)) (fun _ _ _ _ _ => (gd_name 5 nd__law_map)) (fun _ _ _ _ _ => ctd_nil) (fun _ _ _ _ _ => (ed_op od_mod (ed_var 5) (ed_var 2))) (sw_true rfl rfl rfl (by decide +kernel)))
    (ss_one (sd_set 3 nd__law_map (ed_op od_add (ed_sl (ed_var 3) (pd_some (ed_op od_mod (ed_op od_fdiv (ed_var 0) ed_int) (ed_var 1))) pd_none) (ed_sl (ed_var 3) pd_none (pd_some (ed_op od_mod (ed_op od_fdiv (ed_var 0) ed_int) (ed_var 1)))))))) ss_nil)
    (ss_cons (sd_if (td_w (wd_and (td_cmp (od_eq hr) (ed_op od_mod (ed_var 0) ed_int) ed_int) (wd_and1 (td_chain od_lt od_le ed_int (ed_var 1) (ed_var 2)))))
      (ss_cons (sd_own 4 nd__law_map (fd_listRg (ed_var 2) T.m_range T.m_list))
    (ss_one (sd_setPop 3 4 [(("_law_k" : Str), 5)] nd__law_map (id_range1 (ed_var 1) T.m_range) (blkOk_by (N := N__law_map) (sc := (defScope s__law_map)) (by decide +kernel)) (fun _ _ _ _ _ => (gd_name 5 nd__law_map)) (fun _ _ _ _ _ => (pv 4)) (fun _ _ _ _ _ => (ed_call (ok__law_mix T) (hr.mono (by decide)) T.g6 T.F6.kp T.b6 defN_len (ad_cons (ed_op od_add (ed_var 0) (ed_op od_mulD ed_int (ed_var 5))) (ad_cons ed_int (ad_cons (ed_op od_sub (ed_var 2) (ed_var 5)) ad_nil))))) (sw_true rfl rfl rfl (by decide +kernel))))) ss_nil)
    (ss_one (sd_ret (ed_tup (ad_cons (ed_var 2) (ad_cons (ed_ty bd_tuple T.m_tuple PyProof.Rows.boot_tuple (ad_cons (ed_var 3) ad_nil)) ad_nil)))))))))⟩)
theorem ok__law_text (T : Txt K mg A) : FnOk P w K mg base (L2.CX P w) 1 (A.a 9) (A.d 9) ["_law_one"] (spX K 1 A.c phi__law_text) := by
  exact ok_def [] T.F9 sc__law_text rfl (fun cdv Ar outer s H E hr hp tk => ⟨_, (ss_cons (sd_set 1 nd__law_text (ed_op od_add (ed_ty bd_str T.m_str PyProof.Rows.boot_str (ad_cons (ed_ix (ed_var 0) ed_int) ad_nil)) ed_str))
    (ss_cons (sd_for hp (id_seq (ed_ix (ed_var 0) ed_int)) (gd_name 2 nd__law_text)
      (ss_one (sd_set 1 nd__law_text (ed_op od_add (ed_op od_add (ed_var 1) ed_str) (ed_ty bd_str T.m_str PyProof.Rows.boot_str (ad_cons (ed_var 2) ad_nil))))))
    (ss_one (sd_ret (ed_var 1)))))⟩)
theorem ok__law_spoilt (T : Txt K mg A) : FnOk P w K mg base (L2.CX P w) 1 (A.a 10) (A.d 10) ["_law_text_here", "_law_cell_here"] (spX K 2 A.c phi__law_spoilt) := by
  exact ok_def [] T.F10 sc__law_spoilt rfl (fun cdv Ar outer s H E hr hp tk => ⟨_, (ss_cons (sd_set 2 nd__law_spoilt (ed_op od_mod (ed_op od_fdiv (ed_var 1) ed_int) (ed_op od_add (ed_bi bd_len T.m_len PySem.boot_len (ad_cons (ed_var 0) ad_nil)) ed_int)))
    (ss_cons (sd_set 3 nd__law_spoilt (ed_ix ed_str (ed_op od_mod (ed_op od_fdiv (ed_var 1) ed_int) ed_int)))
    (ss_cons (sd_if (td_cmp (od_eq hr) (ed_op od_mod (ed_var 1) ed_int) ed_int)
      (ss_one (sd_ret (ed_op od_add (ed_sl (ed_var 0) pd_none (pd_some (ed_var 2))) (ed_sl (ed_var 0) (pd_some (ed_op od_add (ed_var 2) ed_int)) pd_none)))) ss_nil)
    (ss_cons (sd_if (td_cmp (od_eq hr) (ed_op od_mod (ed_var 1) ed_int) ed_int)
      (ss_one (sd_ret (ed_op od_add (ed_op od_add (ed_sl (ed_var 0) pd_none (pd_some (ed_var 2))) (ed_sl (ed_var 0) (pd_some (ed_var 2)) (pd_some (ed_op od_add (ed_var 2) ed_int)))) (ed_sl (ed_var 0) (pd_some (ed_var 2)) pd_none)))) ss_nil)
    (ss_one (sd_ret (ed_op od_add (ed_op od_add (ed_sl (ed_var 0) pd_none (pd_some (ed_var 2))) (ed_var 3)) (ed_sl (ed_var 0) (pd_some (ed_op od_sub (ed_op od_add (ed_var 2) (ed_op od_mod (ed_var 1) ed_int)) ed_int)) pd_none))))))))⟩)
theorem ok__law_read (T : Txt K mg A) : FnOk P w K mg base (L2.CX P w) 4 (A.a 11) (A.d 11) ["_law_text_here"] (spX K 1 A.c phi__law_read) := by
  exact ok_def [] T.F11 sc__law_read rfl (fun cdv Ar outer s H E hr hp tk => ⟨_, (ss_cons (sd_set 1 nd__law_read ed_str)
    (ss_cons (sd_tryAs 1 2 nd__law_read ⟨rfl, by decide, .inl T.gC0⟩ tk T.exm10 (fun W pn xe tk => (ss_one (sd_setQ 1 nd__law_read (qd_call (ok_read T) (hr.mono (by decide)) T.g4 T.F4.kp T.b4 defN_len tk (ad_cons (ed_var 0) ad_nil))))) (sx_if T.ask1123 (fun a oe cls d pn hz hv => (pw_and (pt_truth (pe_e1 (xc := A.c) (cA := 1) (i := 2) hz hv T.m_isinstance T.gC1) (by intro _; rfl)) (pw_and (pt_not (pt_truth (pe_e2 (xc := A.c) (c1 := 2) (c2 := 3) (i := 2) hz hv T.m_isinstance T.gC2 T.gC3) (by intro _; rfl))) (pw_and1 (pt_truth (pe_eZ (i := 2) hz hv T.m_isinstance T.m_ValueError) (by intro _; rfl))))).pt) (fun a oe pn => (ss_one (sd_set 1 nd__law_read ed_non)))))
    (ss_one (sd_ret (ed_var 1)))))⟩)
theorem ok_law (T : Txt K mg A) : FnOk P w K mg base (L2.CX P w) 5 (A.a 12) (A.d 12) ["_law_script"] (spX K 1 A.c phi_law) := by
  exact ok_def [] T.F12 sc_law rfl (fun cdv Ar outer s H E hr hp tk => ⟨_, (ss_cons (sd_for hp (id_seq (ed_sl (ed_var 0) pd_none (pd_some ed_int))) (gd_name 1 nd_law)
      (ss_cons (sd_set 3 nd_law (ed_call (ok__law_map T) (hr.mono (by decide)) T.g7 T.F7.kp T.b7 defN_len (ad_cons (ed_var 1) (ad_cons (ed_call (ok__law_mix T) (hr.mono (by decide)) T.g6 T.F6.kp T.b6 defN_len (ad_cons (ed_var 1) (ad_cons ed_int (ad_cons ed_int ad_nil)))) (ad_cons (ed_call (ok__law_mix T) (hr.mono (by decide)) T.g6 T.F6.kp T.b6 defN_len (ad_cons (ed_var 1) (ad_cons ed_int (ad_cons ed_int ad_nil)))) ad_nil)))))
    (ss_cons (sd_set 4 nd_law (ed_call (ok__law_text T) (hr.mono (by decide)) T.g9 T.F9.kp T.b9 defN_len (ad_cons (ed_var 3) ad_nil)))
    (ss_cons (sd_if (td_w (wd_or (td_cmp (od_ne hr) (ed_call (ok_written T) (hr.mono (by decide)) T.g2 T.F2.kp T.b2 defN_len (ad_cons (ed_var 3) ad_nil)) (ed_var 4)) (wd_or1 (td_cmp (od_ne hr) (ed_call (ok_read T) (hr.mono (by decide)) T.g4 T.F4.kp T.b4 defN_len (ad_cons (ed_var 4) ad_nil)) (ed_var 3)))))
      (ss_one (sd_ret ed_bl)) ss_nil)
    (ss_cons (sd_set 2 nd_law (ed_call (ok__law_spoilt T) (hr.mono (by decide)) T.g10 T.F10.kp T.b10 defN_len (ad_cons (ed_var 4) (ad_cons (ed_var 1) ad_nil))))
    (ss_cons (sd_set 5 nd_law (ed_call (ok__law_read T) (hr.mono (by decide)) T.g11 T.F11.kp T.b11 defN_len (ad_cons (ed_var 2) ad_nil)))
    (ss_one (sd_if (td_w (wd_and (td_cmp od_isNot (ed_var 5) ed_non) (wd_and1 (td_w (wd_or (td_not (td_truth (ed_call (ok_is_map T) (hr.mono (by decide)) T.g1 T.F1.kp T.b1 defN_len (ad_cons (ed_var 5) ad_nil)))) (wd_or1 (td_cmp (od_ne hr) (ed_call (ok__law_text T) (hr.mono (by decide)) T.g9 T.F9.kp T.b9 defN_len (ad_cons (ed_var 5) ad_nil)) (ed_var 2))))))))
      (ss_one (sd_ret ed_bl)) ss_nil))))))))
    (ss_cons (sd_for hp (id_seq (ed_fr (fd_lst (ad_cons ed_str (ad_cons ed_str (ad_cons ed_str (ad_cons ed_str (ad_cons ed_str (ad_cons ed_str (ad_cons ed_str (ad_cons ed_str (ad_cons ed_str (ad_cons (ed_op od_add ed_str (ed_op od_mulS ed_str ed_int)) (ad_cons ed_str (ad_cons ed_str ad_nil))))))))))))))) (gd_name 2 nd_law)
      (ss_one (sd_if (td_cmp od_isNot (ed_call (ok__law_read T) (hr.mono (by decide)) T.g11 T.F11.kp T.b11 defN_len (ad_cons (ed_var 2) ad_nil)) ed_non)
      (ss_one (sd_ret ed_bl)) ss_nil)))
    (ss_one (sd_ret (ed_cmp (od_eq hr) (ed_call (ok_read T) (hr.mono (by decide)) T.g4 T.F4.kp T.b4 defN_len (ad_cons ed_str ad_nil)) (ed_tup (ad_cons ed_int (ad_cons (ed_tup ad_nil) ad_nil))))))))⟩)
end
end Lw


namespace Lw
open PySem PySem.Spec PyProof.Rows L2 DL
/-! ### what the law's own helpers reckon (the same in every law) -/
theorem mix_eq {c p m : Int} (hp : 0 < p) (hm : 0 < m) : phi__law_mix [.int c, .int p, .int m] = some (.ok (.int (c * 48271 % p % m))) := by
  have h1 : MulOk c 48271 := .inl (.inr ⟨by omega, by omega⟩)
  simp [phi__law_mix, g__law_mix, g__law_mix_0, hp, hm, h1]
theorem mix_lt {c p m : Int} (hm : 0 < m) : 0 ≤ c * 48271 % p % m ∧ c * 48271 % p % m < m := ⟨Int.emod_nonneg _ (by omega), Int.emod_lt_of_pos _ hm⟩
/-- a row of many numbers below to -/
structure Vr (many to : Int) (r : List Int) : Prop where
  len : 0 < to → (r.length : Int) = many
  nil : to ≤ 0 → r = []
  lt : ∀ x ∈ r, 0 ≤ x ∧ x < to
theorem eqv_int (i j : Int) : PyData.eqv (.int i) (.int j) = decide (i = j) := by
  show (i == j) = _
  rw [Bool.beq_eq_decide_eq]
theorem shaped_int (i : Int) : SeqAt.shaped (.int i) = true := by
  simp [SeqAt.shaped, PyData.canLay0, PyData.depth]
abbrev mapRho (c many to : Int) (r : List Int) (x y : Option PyData) : Rho := [some (.int c), some (.int many), some (.int to), some (.list (r.map .int)), x, y]
theorem map_stage1 {c many to : Int} (hm : 0 ≤ many ∧ many ≤ 1000) (ht : 0 ≤ to ∧ to ≤ 1000) : ∃ r, Vr many to r ∧ g__law_map_1 (mapRho c many to [] none none) = some (.nx (mapRho c many to r none none)) := by
  unfold g__law_map_1
  by_cases h : 0 < to
  · rw [if_t (by simp [h])]
    unfold g__law_map_1t0 gAsg fFr
    rw [lc_rg (n := many) (g := fun i => .int ((c + 31 * i) * 48271 % 9973 % to)) rfl (by omega) fun i hi => ?_]
    · refine ⟨(List.range many.toNat).map fun (i : Nat) => (c + 31 * i) * 48271 % 9973 % to, ⟨fun _ => ?_, fun z => absurd h (by omega), fun x hx => ?_⟩, ?_⟩
      · rw [List.length_map, List.length_range]; omega
      · obtain ⟨i, _, rfl⟩ := List.mem_map.mp hx
        exact mix_lt h
      · simp [Function.comp_def]
    · have h1 : MulOk 31 (i : Int) := .inl (.inl ⟨by omega, by omega⟩)
      simp [h1, mix_eq (p := 9973) (by omega) h]
  · rw [if_f (by simp [h])]
    exact ⟨[], ⟨fun z => absurd z h, fun _ => rfl, fun x hx => by cases hx⟩, rfl⟩
theorem cond_eq {c z a b : Int} {ρ : Rho} {i j k : Nat} (hi : ρ[i]? = some (some (.int c))) (hj : ρ[j]? = some (some (.int a))) (hk : ρ[k]? = some (some (.int b))) :
    bAnd (fB (f2 (gEq false) (f2 (gIc (fun _ j => 0 < j) fun i j => i % j) (fVar i) (fC (.int 4))) (fC (.int z)))) (fB (fChain (gIb fun i j => decide (i < j)) (gIb fun i j => decide (i ≤ j)) (fC (.int 0)) (fVar j) (fVar k))) ρ = some (decide (c % 4 = z) && (decide (0 < a) && decide (a ≤ b))) := by
  have e : fVar i ρ = some (.int c) := by unfold fVar; rw [hi]
  have e1 : fVar j ρ = some (.int a) := by unfold fVar; rw [hj]
  have e2 : fVar k ρ = some (.int b) := by unfold fVar; rw [hk]
  unfold bAnd fB f2 fChain
  rw [e, e1, e2]
  simp only [fC, gIc, gEq, gIb, Option.bind_some, shaped_int, and_self, if_true, Bool.false_xor, eqv_int, show (0 : Int) < 4 from by decide]
  cases h1 : decide (c % 4 = z) with
  | false => simp
  | true =>
    cases h2 : decide (0 < a) with
    | false => simp
    | true => simp
theorem cutA_mem {α : Type} {xs : List α} {lo hi : Option Int} {x : α} (h : x ∈ cutA xs lo hi) : x ∈ xs := List.mem_of_mem_drop (List.mem_of_mem_take h)
theorem sIx_of {n d : Nat} {k : Int} (h : 0 ≤ k) : HT.sIx n d (some k) = min k.toNat n := by
  have e : k = ((k.toNat : Nat) : Int) := by omega
  rw [e, HT.sIx_nat]
  rfl
theorem cutA_map {α β : Type} (f : α → β) (xs : List α) (lo hi : Option Int) : cutA (xs.map f) lo hi = (cutA xs lo hi).map f := by
  unfold cutA
  rw [List.length_map, List.map_take, List.map_drop]
theorem cutA_to {α : Type} (xs : List α) {k : Int} (h : 0 ≤ k) : cutA xs none (some k) = xs.take k.toNat := by
  unfold cutA
  rw [HT.sIx_none, List.drop_zero, sIx_of h, Nat.sub_zero]
  by_cases hk : k.toNat ≤ xs.length
  · rw [Nat.min_eq_left hk]
  · rw [Nat.min_eq_right (by omega), List.take_of_length_le (Nat.le_refl _), List.take_of_length_le (by omega)]
theorem cutA_from {α : Type} (xs : List α) {k : Int} (h : 0 ≤ k) : cutA xs (some k) none = xs.drop k.toNat := by
  unfold cutA
  rw [HT.sIx_none, sIx_of h]
  by_cases hk : k.toNat ≤ xs.length
  · rw [Nat.min_eq_left hk, List.take_of_length_le (by rw [List.length_drop]; omega)]
  · rw [Nat.min_eq_right (by omega), List.drop_length, List.take_nil, List.drop_of_length_le (by omega)]
theorem map_stage2 {c many to : Int} {r : List Int} (hm : 0 ≤ many ∧ many ≤ 1000) (ht : 0 ≤ to ∧ to ≤ 1000) (hv : Vr many to r) : ∃ r', Vr many to r' ∧ g__law_map_2 (mapRho c many to r none none) = some (.nx (mapRho c many to r' none none)) := by
  unfold g__law_map_2
  have hc := cond_eq (c := c) (z := 0) (a := to) (b := many) (ρ := mapRho c many to r none none) (i := 0) (j := 2) (k := 1) rfl rfl rfl
  cases h : (decide (c % 4 = 0) && (decide (0 < to) && decide (to ≤ many))) with
  | false => exact ⟨r, hv, by rw [if_f (by rw [hc, h])]; rfl⟩
  | true =>
    rw [if_t (by rw [hc, h])]
    simp only [Bool.and_eq_true, decide_eq_true_eq] at h
    obtain ⟨_, h2, h3⟩ := h
    have h5 : 0 < many := by omega
    have e1 : g__law_map_2t0 (mapRho c many to r none none) = some (.nx (mapRho c many to ((List.range many.toNat).map fun (i : Nat) => (i : Int) % to) none none)) := by
      unfold g__law_map_2t0 gAsg fFr
      rw [lc_rg (n := many) (g := fun i => .int ((i : Int) % to)) rfl (by omega) fun i hi => ?_]
      · simp [Function.comp_def]
      · simp [h2]
    generalize hr1 : (List.range many.toNat).map (fun (i : Nat) => (i : Int) % to) = r1 at e1
    have hl1 : (r1.length : Int) = many := by rw [← hr1, List.length_map, List.length_range]; omega
    have hlt1 : ∀ x ∈ r1, 0 ≤ x ∧ x < to := fun x hx => by
      rw [← hr1] at hx
      obtain ⟨i, _, rfl⟩ := List.mem_map.mp hx
      exact ⟨Int.emod_nonneg _ (by omega), Int.emod_lt_of_pos _ h2⟩
    unfold g__law_map_2t
    rw [blk_nx e1]
    have hk : 0 ≤ c / 4 % many := Int.emod_nonneg _ (by omega)
    have hd : CDiv c 4 := ⟨by decide, by decide⟩
    have e2 : g__law_map_2t1 (mapRho c many to r1 none none) = some (.nx (mapRho c many to (r1.drop (c / 4 % many).toNat ++ r1.take (c / 4 % many).toNat) none none)) := by
      have hsz : r1.length - (c / 4 % many).toNat + min (c / 4 % many).toNat r1.length ≤ 1000000 := by omega
      simp [g__law_map_2t1, hd, h5, cutA_map, cutA_to r1 hk, cutA_from r1 hk, hsz]
    refine ⟨_, ⟨fun _ => ?_, fun z => absurd h2 (by omega), fun x hx => ?_⟩, e2⟩
    · rw [List.length_append, List.length_drop, List.length_take]; omega
    · rcases List.mem_append.mp hx with hx | hx
      · exact hlt1 x (List.mem_of_mem_drop hx)
      · exact hlt1 x (List.mem_of_mem_take hx)
theorem rg_ints (n : Nat) : rgD 0 n = ((List.range n).map fun (i : Nat) => (i : Int)).map PyData.int := by
  rw [rgD_zero, List.map_map]
  rfl
theorem map_stage3 {c many to : Int} {r : List Int} (hm : 0 ≤ many ∧ many ≤ 1000) (ht : 0 ≤ to ∧ to ≤ 1000) (hv : Vr many to r) : ∃ r' y, Vr many to r' ∧ g__law_map_3 (mapRho c many to r none none) = some (.nx (mapRho c many to r' y none)) := by
  unfold g__law_map_3
  have hc := cond_eq (c := c) (z := 1) (a := many) (b := to) (ρ := mapRho c many to r none none) (i := 0) (j := 1) (k := 2) rfl rfl rfl
  cases h : (decide (c % 4 = 1) && (decide (0 < many) && decide (many ≤ to))) with
  | false => exact ⟨r, none, hv, by rw [if_f (by rw [hc, h])]; rfl⟩
  | true =>
    rw [if_t (by rw [hc, h])]
    simp only [Bool.and_eq_true, decide_eq_true_eq] at h
    obtain ⟨_, h2, h3⟩ := h
    have hp : 0 < to := by omega
    have hrg := rg_ints to.toNat
    generalize hL : ((List.range to.toNat).map fun (i : Nat) => (i : Int)) = L at hrg
    have lL : L.length = to.toNat := by rw [← hL, List.length_map, List.length_range]
    have e1 : g__law_map_3t0 (mapRho c many to r none none) = some (.nx (mapRho c many to r (some (.list (L.map .int))) none)) := by
      have hz : 0 ≤ to ∧ to ≤ 1000000 := ⟨by omega, by omega⟩
      simp [g__law_map_3t0, hz, hrg]
    unfold g__law_map_3t
    rw [blk_nx e1]
    have hB : B62 many := ⟨by omega, by omega⟩
    obtain ⟨ys, rest, p1, p2, p3⟩ := popF_ok (j := 5) (iL := 4) (fe := fCall phi__law_mix (fCons (f2 gAdd (fVar 0) (f2 gMulD (fC (.int 7)) (fVar 5))) (fCons (fC (.int 9967)) (fCons (f2 (gI fun i j => i - j) (fVar 2) (fVar 5)) fNil)))) (by decide)
      (ds := rgD 0 many.toNat) (ρ := mapRho c many to r (some (.list (L.map .int))) none) (L := L) rfl (by rw [rgD_len, lL]; omega) (by rw [lL]; omega) (fun i d hd L' hL' => by
        have hi : i < many.toNat := by
          have := (List.getElem?_eq_some_iff.mp hd).1
          rwa [rgD_len] at this
        rw [rgD_get hi] at hd
        cases hd
        have hto : 0 < to - i := by omega
        have h1 : MulOk 7 ((0 : Int) + i) := .inl (.inl ⟨by omega, by omega⟩)
        refine ⟨(c + 7 * (0 + i)) * 48271 % 9967 % (to - (0 + i)), ?_, (mix_lt (by omega)).1, Int.lt_of_lt_of_le (mix_lt (by omega)).2 (by omega)⟩
        simp only [fCall, fCons, f2, fVar, fC, fNil, List.set_cons_succ, List.set_cons_zero, List.getElem?_cons_zero, List.getElem?_cons_succ, Option.bind_some, gAdd, gMulD, gI, if_pos h1]
        rw [mix_eq (by omega) (by omega)]
        rfl)
    refine ⟨ys, none, ⟨fun _ => by rw [p2, rgD_len]; omega, fun z => absurd hp (by omega), fun x hx => ?_⟩, ?_⟩
    · have : x ∈ L := p3.subset (List.mem_append_left _ hx)
      rw [← hL] at this
      obtain ⟨i, hi, rfl⟩ := List.mem_map.mp this
      have := List.mem_range.mp hi
      omega
    · unfold g__law_map_3t1 gSetPop
      have hw : wipeR (mapRho c many to r (some (.list (L.map .int))) none) [5] = mapRho c many to r (some (.list (L.map .int))) none := rfl
      have hi : iR1 (fVar 1) (mapRho c many to r (some (.list (L.map .int))) none) = some (rgD 0 many.toNat) := by simp [hB]
      rw [hi, Option.bind_some, if_pos (by rw [rgD_len]; omega), hw, p1]
      rfl
/-- the law's map: many numbers below to -/
theorem map_eq {c many to : Int} (hm : 0 ≤ many ∧ many ≤ 1000) (ht : 0 ≤ to ∧ to ≤ 1000) : ∃ r, Vr many to r ∧ phi__law_map [.int c, .int many, .int to] = some (.ok (mapD to r)) := by
  obtain ⟨r1, v1, e1⟩ := map_stage1 (c := c) hm ht
  obtain ⟨r2, v2, e2⟩ := map_stage2 (c := c) hm ht v1
  obtain ⟨r3, y, v3, e3⟩ := map_stage3 (c := c) hm ht v2
  refine ⟨r3, v3, ?_⟩
  have e0 : g__law_map_0 [some (.int c), some (.int many), some (.int to), none, none, none] = some (.nx (mapRho c many to [] none none)) := by simp [g__law_map_0]
  have e4 : g__law_map_4 (mapRho c many to r3 y none) = some (.ret (mapD to r3)) := by simp [g__law_map_4, mapD]
  have e : g__law_map [some (.int c), some (.int many), some (.int to), none, none, none] = some (.ret (mapD to r3)) := by
    unfold g__law_map
    rw [blk_nx e0, blk_nx e1, blk_nx e2, blk_nx e3, e4]
  exact def_ret rfl e
theorem cell_eq (ns : List Int) (k : Nat) (hl : ns.length ≤ 63) : phi__law_cell [.dict (scrK ns), .int k] = some (.ok (.int (ns.getD k 0))) := by
  have hlen : (scrK ns).length = ns.length := by unfold scrK; rw [List.length_map]
  by_cases h : k < ns.length
  · have h1 : (k : Int) < (ns.length : Int) := by omega
    have ha : atI (ns.map PyData.int) (k : Int) = some (.int ns[k]) := atI_nat (by rw [List.getElem?_map, List.getElem?_eq_getElem h]; rfl)
    have ha' : atI ((scrK ns).map (·.1)) (k : Int) = some (.int ns[k]) := by rw [scr_fst]; exact ha
    simp [phi__law_cell, g__law_cell, g__law_cell_0, g__law_cell_0t0, g__law_cell_1, hlen, h, ha']
  · simp [phi__law_cell, g__law_cell, g__law_cell_0, g__law_cell_0t0, g__law_cell_1, hlen, h, List.getElem?_eq_none (Nat.le_of_not_lt h)]
theorem sizes_eq (ns : List Int) (k : Nat) (hl : ns.length ≤ 63) : ∃ a b c d : Int, (0 ≤ a ∧ a < 7) ∧ (0 ≤ b ∧ b < 7) ∧ (0 ≤ c ∧ c < 7) ∧ (0 ≤ d ∧ d < 7) ∧ phi__law_sizes [.dict (scrK ns), .int k] = some (.ok (.list [.int a, .int b, .int c, .int d])) := by
  refine ⟨_, _, _, _, mix_lt (c := ns.getD k 0) (p := 9949) (by omega), mix_lt (c := ns.getD k 0) (p := 9941) (by omega), mix_lt (c := ns.getD k 0) (p := 9931) (by omega), mix_lt (c := ns.getD k 0) (p := 9929) (by omega), ?_⟩
  simp [phi__law_sizes, g__law_sizes, g__law_sizes_0, g__law_sizes_1, cell_eq ns k hl, mix_eq]
end Lw

namespace Lw
open PySem PySem.Spec PyProof.Rows L2 DL
/-! ### is_map -/
theorem kit_ii : kitB "int" "int" = some true := by decide +kernel
theorem kit_bi : kitB "bool" "int" = some true := by decide +kernel
theorem kit_ni : kitB "NoneType" "int" = some false := by decide +kernel
theorem kit_si : kitB "str" "int" = some false := by decide +kernel
theorem kit_li : kitB "list" "int" = some false := by decide +kernel
theorem kit_ti : kitB "tuple" "int" = some false := by decide +kernel
theorem kit_ib : kitB "int" "bool" = some false := by decide +kernel
theorem kit_bb : kitB "bool" "bool" = some true := by decide +kernel
theorem kit_nt : kitB "NoneType" "tuple" = some false := by decide +kernel
theorem kit_bt : kitB "bool" "tuple" = some false := by decide +kernel
theorem kit_it : kitB "int" "tuple" = some false := by decide +kernel
theorem kit_st : kitB "str" "tuple" = some false := by decide +kernel
theorem kit_lt : kitB "list" "tuple" = some false := by decide +kernel
theorem kit_tt : kitB "tuple" "tuple" = some true := by decide +kernel
def isNum (most : Int) : PyData → Bool
  | .int i => decide (0 ≤ i) && decide (i ≤ most)
  | _ => false
def nd : PyData → Bool
  | .dict _ => false
  | _ => true
theorem is_number_eq {d : PyData} {most : Int} (h : nd d = true) : phi_is_number [d, .int most] = some (.ok (.bool (isNum most d))) := by
  cases d with
  | int i =>
    by_cases h0 : 0 ≤ i <;> simp [phi_is_number, g_is_number, g_is_number_0, kit_ii, kit_ib, isNum, h0]
  | bool b => simp [phi_is_number, g_is_number, g_is_number_0, kit_bi, kit_bb, isNum]
  | none => simp [phi_is_number, g_is_number, g_is_number_0, kit_ni, isNum]
  | str s => simp [phi_is_number, g_is_number, g_is_number_0, kit_si, isNum]
  | list s => simp [phi_is_number, g_is_number, g_is_number_0, kit_li, isNum]
  | tuple s => simp [phi_is_number, g_is_number, g_is_number_0, kit_ti, isNum]
  | dict s => cases h
def isMapD : PyData → Bool
  | .tuple [.int to, .tuple row] => isNum 9 (.int to) && (decide (row.length ≤ 9) && row.all (isNum (to - 1)))
  | _ => false
/-- data that is_map can look at -/
def looks : PyData → Prop
  | .dict _ => False
  | .tuple xs => ∀ x ∈ xs, nd x = true ∧ ∀ ys, x = .tuple ys → ys.length ≤ 1000 ∧ ∀ y ∈ ys, nd y = true
  | _ => True
theorem bools_map : ∀ bs : List Bool, bools (bs.map PyData.bool) = some bs
  | [] => rfl
  | b :: bs => by
    rw [List.map_cons]
    unfold bools
    rw [bools_map bs]
    rfl
theorem is_map_row {to : Int} {row : PyData} (h : nd row = true) (hy : ∀ ys, row = .tuple ys → ys.length ≤ 1000 ∧ ∀ y ∈ ys, nd y = true) (x : Option PyData) :
    g_is_map_2 [x, some (.int to), some row, none] = some (.ret (.bool (match row with
      | .tuple r => decide (r.length ≤ 9) && r.all (isNum (to - 1))
      | _ => false))) := by
  cases row with
  | tuple r =>
    obtain ⟨hl, hn⟩ := hy r rfl
    have e : fLc [3] (iSq (fVar 2)) (hName 3) cYes (fCall phi_is_number (fCons (fVar 3) (fCons (f2 (gI fun i j => i - j) (fVar 1) (fC (.int 1))) fNil))) [x, some (.int to), some (.tuple r), none] = some (r.map fun d => .bool (isNum (to - 1) d)) := by
      refine lc_sq (w := fun d => d) (l := r) rfl (by simp) (by omega) fun a ha => ?_
      simp [is_number_eq (hn a ha)]
    have e2 : r.map (fun d => PyData.bool (isNum (to - 1) d)) = (r.map (isNum (to - 1))).map PyData.bool := by rw [List.map_map]; rfl
    rw [e2] at e
    have e3 : fBi gAll (fCons (fFr (fLc [3] (iSq (fVar 2)) (hName 3) cYes (fCall phi_is_number (fCons (fVar 3) (fCons (f2 (gI fun i j => i - j) (fVar 1) (fC (.int 1))) fNil))))) fNil) [x, some (.int to), some (.tuple r), none] = some (.bool (r.all (isNum (to - 1)))) := by
      rw [bi1 (fFr_of e)]
      simp only [gAll, bools_map, Option.map_some, List.all_map]
      rfl
    unfold g_is_map_2 gRet fAnd
    rw [e3]
    by_cases h9 : (r.length : Int) ≤ 9
    · have : r.length ≤ 9 := by omega
      simp [kit_tt, h9, this]
    · have : ¬ r.length ≤ 9 := by omega
      simp [kit_tt, h9, this]
  | none => simp [g_is_map_2, kit_nt]
  | bool b => simp [g_is_map_2, kit_bt]
  | int b => simp [g_is_map_2, kit_it]
  | str b => simp [g_is_map_2, kit_st]
  | list b => simp [g_is_map_2, kit_lt]
  | dict b => cases h
theorem is_map_eq {d : PyData} (h : looks d) : phi_is_map [d] = some (.ok (.bool (isMapD d))) := by
  have flat : ∀ {x : PyData}, gIsi "tuple" x = some (.bool false) → isMapD x = false → phi_is_map [x] = some (.ok (.bool (isMapD x))) := fun {x} h1 h2 => by
    refine def_ret rfl ?_
    unfold g_is_map
    refine blk_ret ?_
    unfold g_is_map_0
    rw [if_t (by simp only [bOr, bNot, fTru, f1, fVar, List.map_cons, List.map_nil, List.cons_append, List.nil_append, List.getElem?_cons_zero, Option.bind_some, h1, gTru, Bool.not_false, if_true])]
    unfold g_is_map_0t0
    rw [h2]
    rfl
  cases d with
  | none => exact flat (by simp [kit_nt]) rfl
  | bool b => exact flat (by simp [kit_bt]) rfl
  | int b => exact flat (by simp [kit_it]) rfl
  | str b => exact flat (by simp [kit_st]) rfl
  | list b => exact flat (by simp [kit_lt]) rfl
  | dict b => exact h.elim
  | tuple xs =>
    by_cases hl : xs.length = 2
    · obtain ⟨a, b, rfl⟩ : ∃ a b, xs = [a, b] := by
        match xs, hl with
        | [a, b], _ => exact ⟨a, b, rfl⟩
      have ha := (h a (by simp)).1
      obtain ⟨hb, hby⟩ := h b (by simp)
      have hix : atI [a, b] 0 = some a := rfl
      have sh2 : SeqAt.shaped (.int 2) = true := by simp [SeqAt.shaped, PyData.canLay0, PyData.depth]
      have c1 : bOr (bNot (fTru (f1 (gIsi "tuple") (fVar 0)))) (bOr (fB (f2 (gEq true) (fBi gLen (fCons (fVar 0) fNil)) (fC (.int 2)))) (bNot (fTru (fCall phi_is_number (fCons (f2 gIx (fVar 0) (fC (.int 0))) (fCons (fC (.int 9)) fNil)))))) [some (.tuple [a, b]), none, none, none] = some (!isNum 9 a) := by
        simp [kit_tt, sh2, eqv_int, hix, is_number_eq ha]
      refine def_ret rfl ?_
      show g_is_map [some (.tuple [a, b]), none, none, none] = _
      unfold g_is_map
      cases hna : isNum 9 a with
      | false =>
        rw [hna] at c1
        have e0 : g_is_map_0 [some (.tuple [a, b]), none, none, none] = some (.ret (.bool false)) := by
          unfold g_is_map_0
          rw [if_t c1]
          rfl
        rw [blk_ret e0]
        have : isMapD (.tuple [a, b]) = false := by
          unfold isMapD
          split
          · rename_i to row he
            cases he
            rw [hna]; rfl
          · rfl
        rw [this]
      | true =>
        rw [hna] at c1
        have e0 : g_is_map_0 [some (.tuple [a, b]), none, none, none] = some (.nx [some (.tuple [a, b]), none, none, none]) := by
          unfold g_is_map_0
          rw [if_f c1]
          rfl
        rw [blk_nx e0]
        cases a with
        | int to =>
          have e1 : g_is_map_1 [some (.tuple [.int to, b]), none, none, none] = some (.nx [some (.tuple [.int to, b]), some (.int to), some b, none]) := by simp [g_is_map_1]
          rw [blk_nx e1, is_map_row hb hby]
          unfold isMapD
          cases b <;> simp [hna]
        | _ => cases hna
    · have sh2 : SeqAt.shaped (.int 2) = true := by simp [SeqAt.shaped, PyData.canLay0, PyData.depth]
      have hl' : ¬ ((xs.length : Int) = 2) := by omega
      refine def_ret rfl ?_
      show g_is_map [some (.tuple xs), none, none, none] = _
      unfold g_is_map
      refine blk_ret ?_
      unfold g_is_map_0
      rw [if_t (by simp [kit_tt, shaped_int, eqv_int, hl'])]
      have : isMapD (.tuple xs) = false := by
        unfold isMapD
        split
        · rename_i he
          cases he
          exact absurd rfl hl
        · rfl
      rw [this]
      rfl
theorem looks_map (to : Int) (r : List Int) (h : r.length ≤ 1000) : looks (mapD to r) := fun x hx => by
  rcases List.mem_cons.mp hx with rfl | hx
  · exact ⟨rfl, fun ys e => by cases e⟩
  · rcases List.mem_cons.mp hx with rfl | hx
    · refine ⟨rfl, fun ys e => ?_⟩
      cases e
      exact ⟨by rw [List.length_map]; exact h, fun y hy => by obtain ⟨i, _, rfl⟩ := List.mem_map.mp hy; rfl⟩
    · cases hx
theorem isMap_map {to : Int} {r : List Int} (h0 : 0 ≤ to ∧ to ≤ 9) (hl : r.length ≤ 9) (hr : ∀ x ∈ r, 0 ≤ x ∧ x < to) : isMapD (mapD to r) = true := by
  have h2 : (r.map PyData.int).all (isNum (to - 1)) = true := by
    rw [List.all_eq_true]
    intro x hx
    obtain ⟨i, hi, rfl⟩ := List.mem_map.mp hx
    have := hr i hi
    unfold isNum
    simp
    omega
  have h1 : isNum 9 (.int to) = true := by
    unfold isNum
    simp
    omega
  unfold mapD isMapD
  simp only
  rw [h1, h2]
  simp [hl]
end Lw

namespace Lw
open PySem PySem.Spec PyProof.Rows L2 DL
theorem Vr.wf {many to : Int} {r : List Int} (h : Vr many to r) (hm : 0 ≤ many ∧ many ≤ 1000) (ht : 0 ≤ to ∧ to ≤ 1000) : Wf (to, r) where
  len := by
    by_cases z : 0 < to
    · have := h.len z; show r.length ≤ 1000; omega
    · rw [h.nil (by omega)]; exact Nat.zero_le _
  rng := ht
  lt := h.lt
theorem mp_eq {c many to : Int} (hm : 0 ≤ many ∧ many ≤ 1000) (ht : 0 ≤ to ∧ to ≤ 1000) : ∃ a : Mp, Wf a ∧ a.1 = to ∧ (a.2.length : Int) ≤ many ∧ (0 < to → (a.2.length : Int) = many) ∧ phi__law_map [.int c, .int many, .int to] = some (.ok (mpD a)) := by
  obtain ⟨r, hv, e⟩ := map_eq (c := c) hm ht
  refine ⟨(to, r), hv.wf hm ht, rfl, ?_, hv.len, e⟩
  by_cases z : 0 < to
  · have := hv.len z; show (r.length : Int) ≤ _; omega
  · rw [hv.nil (by omega)]; exact hm.1
theorem cell_at (ns : List Int) (k : Nat) (hl : ns.length ≤ 63) {i : Int} (h : i = k) : phi__law_cell [.dict (scrK ns), .int i] = some (.ok (.int (ns.getD k 0))) := by
  subst h
  exact cell_eq ns k hl
end Lw

namespace Lw
open PySem PySem.Spec PyProof.Rows L2 DL
theorem is_map_wf {a : Mp} (h : Wf a) (h1 : a.1 ≤ 9) (h2 : a.2.length ≤ 9) : phi_is_map [mpD a] = some (.ok (.bool true)) := by
  have := is_map_eq (looks_map a.1 a.2 h.len)
  rw [isMap_map ⟨h.rng.1, h1⟩ h2 h.lt] at this
  exact this
end Lw

namespace Lw
open PySem PySem.Spec PyProof.Rows L2 DL TL
/-! ### short texts of plain signs -/
structure Asc (n : Nat) (x : Str) : Prop where
  lt : ∀ c ∈ tl x, c < 128
  len : x.length ≤ n
theorem Asc.mono {n m : Nat} {x : Str} (h : Asc n x) (k : n ≤ m) : Asc m x := ⟨h.lt, Nat.le_trans h.len k⟩
theorem Asc.lay {n : Nat} {x : Str} (h : Asc n x) : PyData.canLay0 (.str x) = true := by
  show x.cps.all (· < 0x110000) = true
  rw [Array.all_eq_true']
  intro c hc
  have := h.lt c (Array.mem_toList_iff.mpr hc)
  rw [decide_eq_true_iff]
  omega
theorem Asc.app {n m : Nat} {x y : Str} (a : Asc n x) (b : Asc m y) : Asc (n + m) (x ++ y) where
  lt := fun c hc => by
    rw [tl_append] at hc
    rcases List.mem_append.mp hc with h | h
    · exact a.lt c h
    · exact b.lt c h
  len := by
    have := a.len
    have := b.len
    rw [Str.length_append]
    omega
theorem Asc.cut {n : Nat} {x : Str} (a : Asc n x) (lo hi : Option Int) : Asc n (cutS x lo hi) where
  lt := fun c hc => a.lt c (by
    have : tl (cutS x lo hi) = (x.cps.toList.drop (HT.sIx x.length 0 lo)).take (HT.sIx x.length x.length hi - HT.sIx x.length 0 lo) := rfl
    rw [this] at hc
    exact List.mem_of_mem_drop (List.mem_of_mem_take hc))
  len := Nat.le_trans (cutS_length x lo hi) a.len
theorem asc_mk {n : Nat} {l : List Nat} (h : ∀ c ∈ l, c < 128) (k : l.length ≤ n) : Asc n ⟨l.toArray⟩ := ⟨h, by rw [len_tl]; exact k⟩
theorem asc_iff {n : Nat} {x : Str} {l : List Nat} (e : tl x = l) (h : ∀ c ∈ l, c < 128) (k : l.length ≤ n) : Asc n x := ⟨by rw [e]; exact h, by rw [len_tl, e]; exact k⟩
theorem eq_mk {x : Str} {l : List Nat} (e : tl x = l) : x = ⟨l.toArray⟩ := ext_tl e
theorem gEq_asc (neg : Bool) {n m : Nat} {x y : Str} (a : Asc n x) (b : Asc m y) : gEq neg (.str x) (.str y) = some (.bool (xor neg (decide (tl x = tl y)))) := by
  rw [gEq_str neg a.lay b.lay]
  congr 3
  rw [Bool.eq_iff_iff, beq_iff_eq, decide_eq_true_iff]
  exact ⟨fun e => by rw [e], ext_tl⟩
/-! ### a text of a map -/
structure Ok9 (m : Mp) : Prop where
  t : 0 ≤ m.1 ∧ m.1 ≤ 9
  len : m.2.length ≤ 9
  lt : ∀ x ∈ m.2, 0 ≤ x ∧ x < m.1
def row (r : List Int) : List Nat := r.flatMap fun x => [32, 48 + x.toNat]
def tx (m : Mp) : List Nat := (48 + m.1.toNat) :: 58 :: row m.2
theorem row_len : ∀ r : List Int, (row r).length = 2 * r.length
  | [] => rfl
  | x :: r => by
    show (32 :: (48 + x.toNat) :: row r).length = _
    simp only [List.length_cons, row_len r]
    omega
theorem row_lt : ∀ {r : List Int}, (∀ x ∈ r, 0 ≤ x ∧ x < 10) → ∀ c ∈ row r, c < 128
  | [], _, c, hc => by cases hc
  | x :: r, h, c, hc => by
    have hx := h x List.mem_cons_self
    rcases List.mem_cons.mp hc with rfl | hc
    · omega
    rcases List.mem_cons.mp hc with rfl | hc
    · omega
    exact row_lt (fun y hy => h y (List.mem_cons_of_mem _ hy)) c hc
theorem Ok9.lt10 {m : Mp} (h : Ok9 m) : ∀ x ∈ m.2, 0 ≤ x ∧ x < 10 := fun x hx => by
  have := h.lt x hx
  have := h.t
  omega
theorem Ok9.txlt {m : Mp} (h : Ok9 m) : ∀ c ∈ tx m, c < 128 := fun c hc => by
  have := h.t
  rcases List.mem_cons.mp hc with rfl | hc
  · omega
  rcases List.mem_cons.mp hc with rfl | hc
  · omega
  exact row_lt h.lt10 c hc
theorem Ok9.txlen {m : Mp} (h : Ok9 m) : (tx m).length ≤ 20 := by
  show (row m.2).length + 1 + 1 ≤ 20
  have := h.len
  rw [row_len]
  omega
theorem tl_int {i : Int} (h : 0 ≤ i ∧ i < 10) : tl (Str.ofString (toString i)) = [48 + i.toNat] := by
  obtain ⟨n, rfl⟩ := Int.eq_ofNat_of_zero_le h.1
  rw [tl_num, numL_lt (by omega)]
  rfl
theorem log_int {i : Int} (h : 0 ≤ i ∧ i < 10) : i.natAbs.log2 < 1920 := by
  rcases Nat.eq_zero_or_pos i.natAbs with e | e
  · rw [e]; decide
  · rw [Nat.log2_lt (by omega)]
    calc i.natAbs < 2 ^ 4 := by omega
      _ ≤ 2 ^ 1920 := Nat.pow_le_pow_right (by decide) (by decide)
theorem len_int {i : Int} (h : 0 ≤ i ∧ i < 10) : (Str.ofString (toString i)).length = 1 := by
  rw [len_tl, tl_int h]; rfl
theorem str_int {i : Int} (h : 0 ≤ i ∧ i < 10) : gStr [.int i] = some (.str (Str.ofString (toString i))) := by
  simp [gStr, log_int h]
theorem tl_sp : tl (Str.ofString " ") = [32] := by decide +kernel
theorem tl_co : tl (Str.ofString ":") = [58] := by decide +kernel
theorem len_sp : (Str.ofString " ").length = 1 := by decide +kernel
theorem len_co : (Str.ofString ":").length = 1 := by decide +kernel
theorem asc_sp : Asc 1 (Str.ofString " ") := asc_iff tl_sp (by decide) (by decide)
theorem asc_co : Asc 1 (Str.ofString ":") := asc_iff tl_co (by decide) (by decide)
theorem for_cons_nx {tg : PyData → Rho → Option Rho} {b : Gn} {x : PyData} {ds : List PyData} {ρ ρ1 ρ' : Rho} (h1 : tg x ρ = some ρ1) (h2 : b ρ1 = some (.nx ρ')) : forF tg b (x :: ds) ρ = forF tg b ds ρ' := by
  conv => lhs; unfold forF
  rw [h1, Option.bind_some, h2]
  rfl
theorem for_cons_ret {tg : PyData → Rho → Option Rho} {b : Gn} {x d : PyData} {ds : List PyData} {ρ ρ1 : Rho} (h1 : tg x ρ = some ρ1) (h2 : b ρ1 = some (.ret d)) : forF tg b (x :: ds) ρ = some (.ret d) := by
  conv => lhs; unfold forF
  rw [h1, Option.bind_some, h2]
  rfl
theorem text_loop {d : Option PyData} : ∀ {r : List Int} {y : Str} {o : Option PyData}, (∀ x ∈ r, 0 ≤ x ∧ x < 10) → y.length + 2 * r.length ≤ 1000 →
    ∃ z o', forF (hName 2) g__law_text_1b0 (r.map .int) [d, some (.str y), o] = some (.nx [d, some (.str z), o']) ∧ tl z = tl y ++ row r
  | [], y, o, _, _ => ⟨y, o, rfl, by simp [row]⟩
  | x :: r, y, o, h, hl => by
    have hx := h x List.mem_cons_self
    have l1 := len_int hx
    have hl' : y.length + 2 * (r.length + 1) ≤ 1000 := hl
    have c1 : y.length + 1 ≤ 1000000 := by omega
    have c2 : (y ++ Str.ofString " ").length + 1 ≤ 1000000 := by rw [Str.length_append, len_sp]; omega
    have e : g__law_text_1b0 [d, some (.str y), some (.int x)] = some (.nx [d, some (.str (y ++ Str.ofString " " ++ Str.ofString (toString x))), some (.int x)]) := by
      simp only [g__law_text_1b0, gAsg, f2, fBi, fCons, fNil, fVar, fC, List.getElem?_cons_succ, List.getElem?_cons_zero, Option.bind_some, str_int hx, gAdd, len_sp, l1, if_pos c1, if_pos c2]
      rfl
    obtain ⟨z, o', e1, e2⟩ := text_loop (d := d) (r := r) (y := y ++ Str.ofString " " ++ Str.ofString (toString x)) (o := some (.int x)) (fun a ha => h a (List.mem_cons_of_mem _ ha)) (by rw [Str.length_append, Str.length_append, len_sp, l1]; omega)
    refine ⟨z, o', ?_, ?_⟩
    · rw [List.map_cons, for_cons_nx rfl e]
      exact e1
    · rw [e2, tl_append, tl_append, tl_sp, tl_int hx]
      show _ = tl y ++ (32 :: (48 + x.toNat) :: row r)
      simp
theorem text_eq {m : Mp} (h : Ok9 m) : phi__law_text [mpD m] = some (.ok (.str ⟨(tx m).toArray⟩)) := by
  have ht : 0 ≤ m.1 ∧ m.1 < 10 := ⟨h.t.1, by have := h.t; omega⟩
  have l1 := len_int ht
  have e0 : g__law_text_0 [some (mpD m), none, none] = some (.nx [some (mpD m), some (.str (Str.ofString (toString m.1) ++ Str.ofString ":")), none]) := by
    have e1 : gIx (mpD m) (.int 0) = some (.int m.1) := rfl
    simp only [g__law_text_0, gAsg, f2, fBi, fCons, fNil, fVar, fC, List.getElem?_cons_succ, List.getElem?_cons_zero, Option.bind_some, e1, str_int ht, gAdd, len_co, l1]
    rfl
  obtain ⟨z, o', e1, e2⟩ := text_loop (d := some (mpD m)) (r := m.2) (y := Str.ofString (toString m.1) ++ Str.ofString ":") (o := none) h.lt10 (by rw [Str.length_append, l1, len_co]; have := h.len; omega)
  have e1' : g__law_text_1 [some (mpD m), some (.str (Str.ofString (toString m.1) ++ Str.ofString ":")), none] = some (.nx [some (mpD m), some (.str z), o']) := e1
  have ez : z = ⟨(tx m).toArray⟩ := eq_mk (by rw [e2, tl_append, tl_int ht, tl_co]; rfl)
  refine def_ret rfl (?_ : g__law_text [some (mpD m), none, none] = _)
  unfold g__law_text
  rw [blk_nx e0, blk_nx e1', ez]
  rfl
theorem joinL_row : ∀ (p : List Nat) (r : List Int), joinL [32] (p :: r.map fun x => [48 + x.toNat]) = p ++ row r
  | p, [] => by simp [joinL, row]
  | p, x :: r => by
    show p ++ ([32] ++ joinL [32] ([48 + x.toNat] :: r.map fun x => [48 + x.toNat])) = p ++ (32 :: (48 + x.toNat) :: row r)
    rw [joinL_row [48 + x.toNat] r]
    rfl
theorem strs_len : ∀ {r : List Int}, (∀ x ∈ r, 0 ≤ x ∧ x < 10) → ((r.map fun x => Str.ofString (toString x)).map (·.length)).sum = r.length
  | [], _ => rfl
  | x :: r, h => by
    rw [List.map_cons, List.map_cons, List.sum_cons, len_int (h x List.mem_cons_self), strs_len fun y hy => h y (List.mem_cons_of_mem _ hy), List.length_cons]
    omega
theorem written_eq {m : Mp} (h : Ok9 m) : phi_written [mpD m] = some (.ok (.str ⟨(tx m).toArray⟩)) := by
  have ht : 0 ≤ m.1 ∧ m.1 < 10 := ⟨h.t.1, by have := h.t; omega⟩
  have l1 := len_int ht
  have h9 := h.len
  have e1 : gIx (mpD m) (.int 0) = some (.int m.1) := rfl
  have e2 : gIx (mpD m) (.int 1) = some (.tuple (m.2.map .int)) := rfl
  have e3 : fLc [1] (iSq (f2 gIx (fVar 0) (fC (.int 1)))) (hName 1) cYes (fBi gStr (fCons (fVar 1) fNil)) [some (mpD m), none] = some (m.2.map fun x => .str (Str.ofString (toString x))) := by
    refine lc_sq (w := PyData.int) (l := m.2) (d := .tuple (m.2.map .int)) ?_ (by simp) (by omega) fun x hx => ?_
    · simp only [f2, fVar, fC, List.getElem?_cons_zero, Option.bind_some]
      exact e2
    · simp only [fBi, fCons, fNil, fVar, List.set_cons_succ, List.set_cons_zero, List.getElem?_cons_succ, List.getElem?_cons_zero, Option.bind_some]
      exact str_int (h.lt10 x hx)
  have e4 : gFmt2 (.int m.1) (.str (Str.ofString ":")) = some (.str (Str.ofString (toString m.1) ++ Str.ofString ":")) := by
    unfold gFmt2
    exact if_pos ⟨log_int ht, by rw [l1, len_co]; decide⟩
  have e5 : gAdd (.list [.str (Str.ofString (toString m.1) ++ Str.ofString ":")]) (.list (m.2.map fun x => .str (Str.ofString (toString x)))) = some (.list (((Str.ofString (toString m.1) ++ Str.ofString ":") :: m.2.map fun x => Str.ofString (toString x)).map .str)) := by
    unfold gAdd
    simp only []
    rw [if_pos (by rw [List.length_map]; show 1 + m.2.length ≤ 1000000; omega)]
    simp [Function.comp_def]
  have e6 : gJoin (.str (Str.ofString " ")) (.list (((Str.ofString (toString m.1) ++ Str.ofString ":") :: m.2.map fun x => Str.ofString (toString x)).map .str)) = some (.str ⟨(tx m).toArray⟩) := by
    unfold gJoin
    simp only []
    rw [strsD_map, Option.bind_some, if_pos (by
      rw [List.map_cons, List.sum_cons, strs_len h.lt10, Str.length_append, l1, len_co, len_sp, List.length_cons, List.length_map]
      omega)]
    congr 2
    refine eq_mk ?_
    rw [join_eq, tl_join, tl_sp, List.map_cons, tl_append, tl_int ht, tl_co, List.map_map]
    have : m.2.map (tl ∘ fun x => Str.ofString (toString x)) = m.2.map fun x => [48 + x.toNat] := List.map_congr_left fun x hx => tl_int (h.lt10 x hx)
    rw [this, joinL_row]
    rfl
  refine def_ret rfl (?_ : g_written [some (mpD m), none] = _)
  simp only [g_written, g_written_0, gRet, f2, fFr, fList, fCons, fNil, e3, fVar, fC, List.getElem?_cons_zero, Option.bind_some, Option.map_some, e1, e4]
  rw [if_pos (show [PyData.str (Str.ofString (toString m.fst) ++ Str.ofString ":")].length ≤ 1000000 from Nat.le_of_ble_eq_true rfl)]
  simp only [Option.bind_some, e5, e6]
/-! ### a figure -/
def figL : List Nat → Option Int
  | [c] => if 48 ≤ c ∧ c < 58 then some ((c : Int) - 48) else none
  | _ => none
theorem figL_lt {l : List Nat} {d : Int} (h : figL l = some d) : (0 ≤ d ∧ d < 10) ∧ l = [48 + d.toNat] := by
  match l, h with
  | [c], h =>
    unfold figL at h
    simp only [] at h
    split at h
    · cases h
      refine ⟨by omega, ?_⟩
      congr 1
      omega
    · cases h
  | [], h => cases h
  | _ :: _ :: _, h => cases h
theorem figL_of {d : Int} (h : 0 ≤ d ∧ d < 10) : figL [48 + d.toNat] = some d := by
  unfold figL
  simp only []
  rw [if_pos (by omega)]
  congr 1
  omega
theorem fig_loop {w : Str} {n : Nat} (hw : Asc n w) : ∀ {ks : List Int} {o : Option PyData}, (∀ k ∈ ks, 0 ≤ k ∧ k < 10) →
    (∃ d, figL (tl w) = some d ∧ forF (hName 1) g_figure_0b0 (ks.map .int) [some (.str w), o] = some (.ret (.int d))) ∨
    ((∀ k ∈ ks, figL (tl w) ≠ some k) ∧ ∃ o', forF (hName 1) g_figure_0b0 (ks.map .int) [some (.str w), o] = some (.nx [some (.str w), o']))
  | [], o, _ => .inr ⟨(fun k hk => absurd hk List.not_mem_nil), o, rfl⟩
  | k :: ks, o, h => by
    have hk := h k List.mem_cons_self
    have ak : Asc 1 (Str.ofString (toString k)) := asc_iff (tl_int hk) (by intro c hc; rw [List.mem_singleton] at hc; omega) (Nat.le_refl 1)
    have ec := gEq_asc false hw ak
    rw [tl_int hk] at ec
    by_cases e : tl w = [48 + k.toNat]
    · refine .inl ⟨k, by rw [e]; exact figL_of hk, ?_⟩
      rw [decide_eq_true e] at ec
      have : g_figure_0b0 [some (.str w), some (.int k)] = some (.ret (.int k)) := by
        simp only [g_figure_0b0, g_figure_0b0t0, gIf, gRet, fB, f2, fBi, fCons, fNil, fVar, List.getElem?_cons_succ, List.getElem?_cons_zero, Option.bind_some, str_int hk, ec]
        rfl
      rw [List.map_cons, for_cons_ret rfl this]
    · rw [decide_eq_false e] at ec
      have : g_figure_0b0 [some (.str w), some (.int k)] = some (.nx [some (.str w), some (.int k)]) := by
        simp only [g_figure_0b0, g_figure_0b0t0, gIf, gRet, fB, f2, fBi, fCons, fNil, fVar, List.getElem?_cons_succ, List.getElem?_cons_zero, Option.bind_some, str_int hk, ec]
        rfl
      rw [List.map_cons, for_cons_nx rfl this]
      rcases fig_loop hw (ks := ks) (o := some (.int k)) (fun a ha => h a (List.mem_cons_of_mem _ ha)) with ⟨d, h1, h2⟩ | ⟨h1, o', h2⟩
      · exact .inl ⟨d, h1, h2⟩
      · refine .inr ⟨fun a ha => ?_, o', h2⟩
        rcases List.mem_cons.mp ha with rfl | ha
        · intro z
          exact e (figL_lt z).2
        · exact h1 a ha
def qo (o : Option Int) : Except Nat PyData := match o with
  | some d => .ok (.int d)
  | none => .error 1
theorem figure_eq {w : Str} {n : Nat} (hw : Asc n w) : phi_figure [.str w] = some (qo (figL (tl w))) := by
  have hr : iR1 (fC (.int 10)) [some (.str w), none] = some (([0, 1, 2, 3, 4, 5, 6, 7, 8, 9] : List Int).map .int) := by
    have hB : B62 10 := ⟨by decide, by decide⟩
    simp [hB]
    rfl
  have e : g_figure_0 [some (.str w), none] = forF (hName 1) g_figure_0b0 (([0, 1, 2, 3, 4, 5, 6, 7, 8, 9] : List Int).map .int) [some (.str w), none] := by
    unfold g_figure_0 gFor
    rw [hr]
    rfl
  rcases fig_loop hw (ks := [0, 1, 2, 3, 4, 5, 6, 7, 8, 9]) (o := none) (by decide) with ⟨d, h1, h2⟩ | ⟨h1, o', h2⟩
  · rw [h1]
    refine def_ret rfl (?_ : g_figure [some (.str w), none] = _)
    unfold g_figure
    rw [blk_ret (e.trans h2)]
  · have : figL (tl w) = none := by
      cases z : figL (tl w) with
      | none => rfl
      | some d =>
        have hd := (figL_lt z).1
        refine absurd z (h1 d ?_)
        have : d = 0 ∨ d = 1 ∨ d = 2 ∨ d = 3 ∨ d = 4 ∨ d = 5 ∨ d = 6 ∨ d = 7 ∨ d = 8 ∨ d = 9 := by omega
        simpa using this
    rw [this]
    refine def_exc (ρ := [some (.str w), o']) rfl (?_ : g_figure [some (.str w), none] = _)
    unfold g_figure
    rw [blk_nx (e.trans h2)]
    rfl

/-! ### the reader -/
theorem f2_of {g : PyData → PyData → Option PyData} {fa fb : Fn} {ρ : Rho} {x y : PyData} (ha : fa ρ = some x) (hb : fb ρ = some y) : f2 g fa fb ρ = g x y := by
  unfold f2
  rw [ha, Option.bind_some, hb, Option.bind_some]
theorem spl_mem {S : List Nat} : ∀ {l : List Nat} {k : Nat} {acc p : List Nat}, p ∈ spl S k acc l → (∀ c ∈ p, c ∈ acc ∨ c ∈ l) ∧ p.length ≤ acc.length + l.length
  | [], k, acc, p, h => by
    rw [spl_nil, List.mem_singleton] at h
    subst h
    exact ⟨fun c hc => .inl hc, Nat.le_refl _⟩
  | c :: r, 0, acc, p, h => by
    unfold spl at h
    split at h
    · rcases List.mem_cons.mp h with rfl | h
      · exact ⟨fun c hc => .inl hc, by omega⟩
      · obtain ⟨a, b⟩ := spl_mem h
        refine ⟨fun c hc => ?_, ?_⟩
        · rcases a c hc with h | h
          · cases h
          · exact .inr (List.mem_cons_of_mem _ h)
        · rw [List.length_cons]
          simp only [List.length_nil] at b
          omega
    · obtain ⟨a, b⟩ := spl_mem h
      refine ⟨fun x hx => ?_, ?_⟩
      · rcases a x hx with h | h
        · rcases List.mem_append.mp h with h | h
          · exact .inl h
          · rw [List.mem_singleton] at h
            subst h
            exact .inr List.mem_cons_self
        · exact .inr (List.mem_cons_of_mem _ h)
      · rw [List.length_append, List.length_singleton] at b
        rw [List.length_cons]
        omega
  | c :: r, k + 1, acc, p, h => by
    unfold spl at h
    obtain ⟨a, b⟩ := spl_mem h
    refine ⟨fun x hx => (a x hx).imp id (List.mem_cons_of_mem _), ?_⟩
    rw [List.length_cons]
    omega
theorem spl_count {S : List Nat} : ∀ {l : List Nat} {k : Nat} {acc : List Nat}, (spl S k acc l).length ≤ l.length + 1 ∧ spl S k acc l ≠ []
  | [], k, acc => by rw [spl_nil]; exact ⟨Nat.le_refl _, by simp⟩
  | c :: r, 0, acc => by
    unfold spl
    split
    · exact ⟨by have := (spl_count (S := S) (l := r) (k := S.length - 1) (acc := [])).1; simp only [List.length_cons]; omega, by simp⟩
    · have := spl_count (S := S) (l := r) (k := 0) (acc := acc ++ [c])
      exact ⟨by rw [List.length_cons]; omega, this.2⟩
  | c :: r, k + 1, acc => by
    unfold spl
    have := spl_count (S := S) (l := r) (k := k) (acc := acc)
    exact ⟨by rw [List.length_cons]; omega, this.2⟩
theorem sp_kind : (Str.ofString " ").cps.all (· < 256) = true := by decide +kernel
theorem split_asc {t : Str} {n : Nat} (h : Asc n t) : ((Txt.split t (Str.ofString " ")).map tl = spl [32] 0 [] (tl t)) ∧ (∀ w ∈ Txt.split t (Str.ofString " "), Asc n w) ∧ (Txt.split t (Str.ofString " ")).length ≤ n + 1 := by
  have e : (Txt.split t (Str.ofString " ")).map tl = spl [32] 0 [] (tl t) := by
    rw [split_spl t _ (by rw [tl_sp]; simp) (kind_ok sp_kind), tl_sp]
  refine ⟨e, fun w hw => ?_, ?_⟩
  · have hm : tl w ∈ spl [32] 0 [] (tl t) := by rw [← e]; exact List.mem_map_of_mem hw
    obtain ⟨a, b⟩ := spl_mem hm
    refine ⟨fun c hc => ?_, ?_⟩
    · rcases a c hc with h' | h'
      · cases h'
      · exact h.lt c h'
    · rw [len_tl]
      have := h.len
      rw [len_tl] at this
      simp only [List.length_nil] at b
      omega
  · have := (spl_count (S := [32]) (l := tl t) (k := 0) (acc := [])).1
    rw [← e, List.length_map] at this
    have := h.len
    rw [len_tl] at this
    omega
def figs : List (List Nat) → Option (List Int)
  | [] => some []
  | w :: ws => (figL w).bind fun d => (figs ws).bind fun ds => some (d :: ds)
theorem figs_cons (w : List Nat) (ws : List (List Nat)) : figs (w :: ws) = (figL w).bind fun d => (figs ws).bind fun ds => some (d :: ds) := rfl
def ok9 (m : Mp) : Bool := decide (0 ≤ m.1) && (decide (m.1 ≤ 9) && (decide (m.2.length ≤ 9) && m.2.all fun x => decide (0 ≤ x) && decide (x < m.1)))
theorem ok9_iff {m : Mp} : ok9 m = true ↔ Ok9 m := by
  unfold ok9
  simp only [Bool.and_eq_true, decide_eq_true_eq, List.all_eq_true]
  exact ⟨fun ⟨a, b, c, d⟩ => ⟨⟨a, b⟩, c, d⟩, fun h => ⟨h.t.1, h.t.2, h.len, h.lt⟩⟩
theorem isMap_ok9 (m : Mp) : isMapD (mpD m) = ok9 m := by
  have e : ∀ r : List Int, (r.map PyData.int).all (isNum (m.1 - 1)) = r.all fun x => decide (0 ≤ x) && decide (x < m.1) := fun r => by
    rw [List.all_map]
    congr 1
    funext x
    show (decide (0 ≤ x) && decide (x ≤ m.1 - 1)) = _
    congr 1
    exact decide_eq_decide.mpr ⟨fun _ => by omega, fun _ => by omega⟩
  show (isNum 9 (.int m.1) && (decide ((m.2.map PyData.int).length ≤ 9) && (m.2.map PyData.int).all (isNum (m.1 - 1)))) = _
  rw [e, List.length_map]
  unfold ok9 isNum
  simp only [Bool.and_assoc]
def fin (l : List Nat) (m : Mp) : Option Mp := if ok9 m = true ∧ tx m = l then some m else none
def rdW (l : List Nat) : List (List Nat) → Option Mp
  | [c, d] :: ws => if d = 58 then (figL [c]).bind fun to => (figs ws).bind fun ds => fin l (to, ds) else none
  | _ => none
def rd (l : List Nat) : Option Mp := rdW l (spl [32] 0 [] l)
def qm (o : Option Mp) : Except Nat PyData := match o with
  | some m => .ok (mpD m)
  | none => .error 1
theorem fin_ok {l : List Nat} {m m' : Mp} (h : fin l m = some m') : Ok9 m' ∧ tx m' = l := by
  unfold fin at h
  split at h
  · rename_i c
    cases h
    exact ⟨ok9_iff.mp c.1, c.2⟩
  · cases h
theorem rd_ok {l : List Nat} {m : Mp} (h : rd l = some m) : Ok9 m ∧ tx m = l := by
  unfold rd rdW at h
  split at h
  · split at h
    · obtain ⟨a, _, h⟩ := bind_some h
      obtain ⟨b, _, h⟩ := bind_some h
      exact fin_ok h
    · cases h
  · cases h
theorem figs_row : ∀ {r : List Int}, (∀ x ∈ r, 0 ≤ x ∧ x < 10) → figs (r.map fun x => [48 + x.toNat]) = some r
  | [], _ => rfl
  | x :: r, h => by
    rw [List.map_cons]
    unfold figs
    rw [figL_of (h x List.mem_cons_self), Option.bind_some, figs_row fun y hy => h y (List.mem_cons_of_mem _ hy)]
    rfl
theorem rd_tx {m : Mp} (h : Ok9 m) : rd (tx m) = some m := by
  have ht : 0 ≤ m.1 ∧ m.1 < 10 := ⟨h.t.1, by have := h.t; omega⟩
  have e : spl [32] 0 [] (tx m) = [48 + m.1.toNat, 58] :: m.2.map fun x => [48 + x.toNat] := by
    rw [show tx m = joinL [32] ([48 + m.1.toNat, 58] :: m.2.map fun x => [48 + x.toNat]) by rw [joinL_row]; rfl]
    refine TL.spl_join (by simp) fun p hp => ?_
    rcases List.mem_cons.mp hp with rfl | hp
    · intro z
      simp only [List.mem_cons, List.not_mem_nil, or_false] at z
      omega
    · obtain ⟨x, hx, rfl⟩ := List.mem_map.mp hp
      intro z
      simp only [List.mem_cons, List.not_mem_nil, or_false] at z
      omega
  unfold rd
  rw [e]
  unfold rdW
  simp only [if_pos, figL_of ht, Option.bind_some, figs_row h.lt10]
  unfold fin
  rw [if_pos ⟨ok9_iff.mpr h, rfl⟩]
theorem compQ_figs {a b : Option PyData} {n : Nat} : ∀ {ws : List Str}, (∀ w ∈ ws, Asc n w) → compQ (hName 3) (qCall phi_figure (fCons (fVar 3) fNil)) [a, b, none, none] (ws.map .str) = some (match figs (ws.map tl) with
    | some ds => .ok (ds.map PyData.int)
    | none => .error 1)
  | [], _ => rfl
  | w :: ws, h => by
    have e := figure_eq (h w List.mem_cons_self)
    have e2 := compQ_figs (a := a) (b := b) (ws := ws) fun x hx => h x (List.mem_cons_of_mem _ hx)
    rw [List.map_cons, List.map_cons]
    unfold compQ
    have e1 : hName 3 (.str w) [a, b, none, none] = some [a, b, none, some (.str w)] := rfl
    have e3 : qCall phi_figure (fCons (fVar 3) fNil) [a, b, none, some (.str w)] = some (qo (figL (tl w))) := e
    rw [e1, Option.bind_some, e3, Option.bind_some, e2, figs_cons]
    cases figL (tl w) with
    | none => rfl
    | some d =>
      cases figs (ws.map tl) with
      | none => rfl
      | some ds => rfl
theorem read_eq {t : Str} (h : Asc 900 t) : phi_read [.str t] = some (qm (rd (tl t))) := by
  obtain ⟨hs, ha, hn⟩ := split_asc h
  have hz := h.len
  have e0 : g_read_0 [some (.str t), none, none, none] = some (.nx [some (.str t), some (.list ((Txt.split t (Str.ofString " ")).map .str)), none, none]) := by
    have c : 1 ≤ (Str.ofString " ").length ∧ t.length ≤ 1000000 := ⟨by rw [len_sp]; exact Nat.le_refl 1, by omega⟩
    simp only [g_read_0, gAsg, f2, fVar, fC, List.getElem?_cons_zero, Option.bind_some, gSplit, if_pos c]
    rfl
  unfold rd
  rw [← hs]
  generalize Txt.split t (Str.ofString " ") = ws at hs ha hn e0
  have hne : ws ≠ [] := fun e => (spl_count (S := [32]) (l := tl t) (k := 0) (acc := [])).2 (by rw [← hs, e]; rfl)
  obtain ⟨w, ws, rfl⟩ : ∃ w r, ws = w :: r := by
    cases ws with
    | nil => exact absurd rfl hne
    | cons w r => exact ⟨w, r, rfl⟩
  have hw := ha w List.mem_cons_self
  have hws : ∀ x ∈ ws, Asc 900 x := fun x hx => ha x (List.mem_cons_of_mem _ hx)
  rw [List.length_cons] at hn
  have hw9 := hw.len
  have bad : ∀ {ρ : Rho}, g_read [some (.str t), none, none, none] = some (.exc 1 ρ) → phi_read [.str t] = some (.error 1) := fun e => def_exc rfl e
  have i0 : f2 gIx (fVar 1) (fC (.int 0)) [some (.str t), some (.list ((w :: ws).map .str)), none, none] = some (.str w) := atI_nat (xs := (w :: ws).map PyData.str) (j := 0) rfl
  have k2 : SeqAt.shaped (.int 2) = true := shaped_int 2
  by_cases h2 : w.length = 2
  · -- two signs
    obtain ⟨c, d, ew⟩ : ∃ c d, tl w = [c, d] := by
      rw [len_tl] at h2
      match tl w, h2 with
      | [c, d], _ => exact ⟨c, d, rfl⟩
    have hc : c < 128 := hw.lt c (by rw [ew]; simp)
    have hd : d < 128 := hw.lt d (by rw [ew]; simp)
    have ac : Asc 1 (⟨#[c]⟩ : Str) := asc_iff (l := [c]) rfl (by intro x hx; rw [List.mem_singleton] at hx; omega) (Nat.le_refl 1)
    have ad : Asc 1 (⟨#[d]⟩ : Str) := asc_iff (l := [d]) rfl (by intro x hx; rw [List.mem_singleton] at hx; omega) (Nat.le_refl 1)
    have hwl : w.length ≤ 1000000 := by omega
    have x0 : gIx (.str w) (.int 0) = some (.str ⟨#[c]⟩) := by
      show (if w.length ≤ 1000000 then (atI (tl w) 0).map fun c => PyData.str ⟨#[c]⟩ else none) = _
      rw [if_pos hwl, ew]; rfl
    have x1 : gIx (.str w) (.int 1) = some (.str ⟨#[d]⟩) := by
      show (if w.length ≤ 1000000 then (atI (tl w) 1).map fun c => PyData.str ⟨#[c]⟩ else none) = _
      rw [if_pos hwl, ew]; rfl
    have q1 : gEq true (.str ⟨#[d]⟩) (.str (Str.ofString ":")) = some (.bool (!decide (d = 58))) := by
      rw [gEq_asc true ad asc_co, tl_co]
      congr 2
      rw [Bool.true_xor]
      congr 1
      exact decide_eq_decide.mpr ⟨fun e => by injection e, fun e => by rw [e]⟩
    have c1 : bOr (fB (f2 (gEq true) (fBi gLen (fCons (f2 gIx (fVar 1) (fC (.int 0))) fNil)) (fC (.int 2)))) (fB (f2 (gEq true) (f2 gIx (f2 gIx (fVar 1) (fC (.int 0))) (fC (.int 1))) (fC (.str (PySem.Str.ofString ":"))))) [some (.str t), some (.list ((w :: ws).map .str)), none, none] = some (!decide (d = 58)) := by
      have l : gLen [.str w] = some (.int 2) := by
        show (if w.length ≤ 1000000 then some (PyData.int w.length) else none) = _
        rw [if_pos hwl, h2]; rfl
      have z : gEq true (.int 2) (.int 2) = some (.bool false) := by rw [gEq_int]; rfl
      have l2 : fBi gLen (fCons (f2 gIx (fVar 1) (fC (.int 0))) fNil) [some (.str t), some (.list ((w :: ws).map .str)), none, none] = some (.int 2) := by
        rw [bi1 i0, l]
      unfold bOr fB
      rw [show f2 (gEq true) (fBi gLen (fCons (f2 gIx (fVar 1) (fC (.int 0))) fNil)) (fC (.int 2)) [some (.str t), some (.list ((w :: ws).map .str)), none, none] = some (.bool false) by
        unfold f2 at l2 ⊢
        rw [l2]
        exact z]
      rw [show f2 (gEq true) (f2 gIx (f2 gIx (fVar 1) (fC (.int 0))) (fC (.int 1))) (fC (.str (PySem.Str.ofString ":"))) [some (.str t), some (.list ((w :: ws).map .str)), none, none] = some (.bool (!decide (d = 58))) by
        have : f2 gIx (f2 gIx (fVar 1) (fC (.int 0))) (fC (.int 1)) [some (.str t), some (.list ((w :: ws).map .str)), none, none] = some (.str ⟨#[d]⟩) := by
          have i0' := i0
          unfold f2 at i0' ⊢
          rw [i0']
          exact x1
        unfold f2 at this ⊢
        rw [this]
        exact q1]
      rfl
    by_cases h58 : d = 58
    · subst h58
      rw [decide_eq_true rfl] at c1
      have e1 : g_read_1 [some (.str t), some (.list ((w :: ws).map .str)), none, none] = some (.nx [some (.str t), some (.list ((w :: ws).map .str)), none, none]) := by
        unfold g_read_1
        rw [if_f c1]
        rfl
      have hR : rdW (tl t) ((w :: ws).map tl) = (figL [c]).bind fun to => (figs (ws.map tl)).bind fun ds => fin (tl t) (to, ds) := by
        rw [List.map_cons, ew]
        unfold rdW
        simp only [if_true]
      rw [hR]
      have f1 : qCall phi_figure (fCons (f2 gIx (f2 gIx (fVar 1) (fC (.int 0))) (fC (.int 0))) fNil) [some (.str t), some (.list ((w :: ws).map .str)), none, none] = some (qo (figL [c])) := by
        have i1 : f2 gIx (f2 gIx (fVar 1) (fC (.int 0))) (fC (.int 0)) [some (.str t), some (.list ((w :: ws).map .str)), none, none] = some (.str ⟨#[c]⟩) := by
          have i0' := i0
          unfold f2 at i0' ⊢
          rw [i0']
          exact x0
        unfold qCall fCons fNil
        rw [i1]
        exact figure_eq ac
      have f2' : fTupQ (fLq [3] (iSq (fSl (fVar 1) (pSome (fC (.int 1))) pNone)) (hName 3) (qCall phi_figure (fCons (fVar 3) fNil))) [some (.str t), some (.list ((w :: ws).map .str)), none, none] = some (match figs (ws.map tl) with
          | some ds => .ok (.tuple (ds.map PyData.int))
          | none => .error 1) := by
        have s1 : iSq (fSl (fVar 1) (pSome (fC (.int 1))) pNone) [some (.str t), some (.list ((w :: ws).map .str)), none, none] = some (ws.map .str) := by
          have : cutA ((w :: ws).map PyData.str) (some 1) none = ws.map .str := by
            rw [cutA_from _ (by decide)]
            rfl
          simp only [iSq, fSl, fVar, pSome, pNone, fC, List.getElem?_cons_succ, List.getElem?_cons_zero, Option.bind_some, gSl, this]
          rfl
        unfold fTupQ fLq
        rw [s1, Option.bind_some, if_pos (by rw [List.length_map]; omega)]
        have wp : wipeR [some (.str t), some (.list ((w :: ws).map .str)), none, none] [3] = [some (.str t), some (.list ((w :: ws).map .str)), none, none] := rfl
        rw [wp, compQ_figs hws]
        cases figs (ws.map tl) with
        | none => rfl
        | some ds => rfl
      have e2 : g_read_2 [some (.str t), some (.list ((w :: ws).map .str)), none, none] = some (match (figL [c]).bind fun to => (figs (ws.map tl)).bind fun ds => some (to, ds) with
          | some m => .nx [some (.str t), some (.list ((w :: ws).map .str)), some (mpD m), none]
          | none => .exc 1 [some (.str t), some (.list ((w :: ws).map .str)), none, none]) := by
        unfold g_read_2 gSetQ fPairQ
        rw [f1, Option.bind_some, f2']
        cases figL [c] with
        | none => rfl
        | some to =>
          cases figs (ws.map tl) with
          | none => rfl
          | some ds => rfl
      have hsmall : ∀ ds, figs (ws.map tl) = some ds → ds.length = ws.length := by
        have : ∀ (L : List (List Nat)) ds, figs L = some ds → ds.length = L.length := fun L => by
          induction L with
          | nil => intro ds e; cases e; rfl
          | cons x L ih =>
            intro ds e
            unfold figs at e
            obtain ⟨a, _, e⟩ := bind_some e
            obtain ⟨b, e3, e⟩ := bind_some e
            cases e
            rw [List.length_cons, List.length_cons, ih b e3]
        intro ds e
        rw [this _ _ e, List.length_map]
      cases hc1 : figL [c] with
      | none =>
        rw [hc1] at e2
        refine bad (ρ := [some (.str t), some (.list ((w :: ws).map .str)), none, none]) ?_
        unfold g_read
        rw [blk_nx e0, blk_nx e1, blk_exc e2]
      | some to =>
        cases hc2 : figs (ws.map tl) with
        | none =>
          rw [hc1, hc2] at e2
          refine bad (ρ := [some (.str t), some (.list ((w :: ws).map .str)), none, none]) ?_
          unfold g_read
          rw [blk_nx e0, blk_nx e1, blk_exc e2]
        | some ds =>
          rw [hc1, hc2] at e2
          have hl := hsmall ds hc2
          have im := is_map_eq (looks_map to ds (by omega))
          rw [show isMapD (mapD to ds) = ok9 (to, ds) from isMap_ok9 (to, ds)] at im
          have e2' : g_read_2 [some (.str t), some (.list ((w :: ws).map .str)), none, none] = some (.nx [some (.str t), some (.list ((w :: ws).map .str)), some (mpD (to, ds)), none]) := e2
          have goal : (qm ((some to).bind fun to => (some ds).bind fun ds => fin (tl t) (to, ds))) = qm (fin (tl t) (to, ds)) := rfl
          rw [goal]
          have b1 : bNot (fTru (fCall phi_is_map (fCons (fVar 2) fNil))) [some (.str t), some (.list ((w :: ws).map .str)), some (mpD (to, ds)), none] = some (!ok9 (to, ds)) := by
            have : fCall phi_is_map (fCons (fVar 2) fNil) [some (.str t), some (.list ((w :: ws).map .str)), some (mpD (to, ds)), none] = some (.bool (ok9 (to, ds))) := by
              unfold fCall fCons fVar fNil
              show ((phi_is_map [mapD to ds]).bind _) = _
              rw [im]
              rfl
            unfold bNot fTru
            rw [this]
            rfl
          cases ho : ok9 (to, ds) with
          | false =>
            rw [ho] at b1
            have : fin (tl t) (to, ds) = none := by
              unfold fin
              rw [if_neg (by rw [ho]; simp)]
            rw [this]
            refine bad (ρ := [some (.str t), some (.list ((w :: ws).map .str)), some (mpD (to, ds)), none]) ?_
            unfold g_read
            rw [blk_nx e0, blk_nx e1, blk_nx e2']
            refine blk_exc ?_
            unfold g_read_3
            rw [if_t (by unfold bOr; rw [b1]; rfl)]
            rfl
          | true =>
            rw [ho] at b1
            have o9 := ok9_iff.mp ho
            have hwr := written_eq o9
            have b2 : fB (f2 (gEq true) (fCall phi_written (fCons (fVar 2) fNil)) (fVar 0)) [some (.str t), some (.list ((w :: ws).map .str)), some (mpD (to, ds)), none] = some (!decide (tx (to, ds) = tl t)) := by
              have a1 : fCall phi_written (fCons (fVar 2) fNil) [some (.str t), some (.list ((w :: ws).map .str)), some (mpD (to, ds)), none] = some (.str ⟨(tx (to, ds)).toArray⟩) := by
                unfold fCall fCons fVar fNil
                show ((phi_written [mpD (to, ds)]).bind _) = _
                rw [hwr]
                rfl
              have a2 := gEq_asc true (asc_mk o9.txlt o9.txlen) h
              rw [tl_mk] at a2
              unfold fB f2
              rw [a1]
              show (((gEq true (.str ⟨(tx (to, ds)).toArray⟩) (.str t))).bind _) = _
              rw [a2, Bool.true_xor]
              rfl
            have c2 : bOr (bNot (fTru (fCall phi_is_map (fCons (fVar 2) fNil)))) (fB (f2 (gEq true) (fCall phi_written (fCons (fVar 2) fNil)) (fVar 0))) [some (.str t), some (.list ((w :: ws).map .str)), some (mpD (to, ds)), none] = some (!decide (tx (to, ds) = tl t)) := by
              unfold bOr
              rw [b1]
              exact b2
            by_cases he : tx (to, ds) = tl t
            · have : fin (tl t) (to, ds) = some (to, ds) := by
                unfold fin
                rw [if_pos ⟨ho, he⟩]
              rw [this]
              rw [decide_eq_true he] at c2
              refine def_ret rfl (?_ : g_read [some (.str t), none, none, none] = _)
              unfold g_read
              rw [blk_nx e0, blk_nx e1, blk_nx e2']
              have e3 : g_read_3 [some (.str t), some (.list ((w :: ws).map .str)), some (mpD (to, ds)), none] = some (.nx [some (.str t), some (.list ((w :: ws).map .str)), some (mpD (to, ds)), none]) := by
                unfold g_read_3
                rw [if_f c2]
                rfl
              rw [blk_nx e3]
              rfl
            · have : fin (tl t) (to, ds) = none := by
                unfold fin
                rw [if_neg fun z => he z.2]
              rw [this]
              rw [decide_eq_false he] at c2
              refine bad (ρ := [some (.str t), some (.list ((w :: ws).map .str)), some (mpD (to, ds)), none]) ?_
              unfold g_read
              rw [blk_nx e0, blk_nx e1, blk_nx e2']
              refine blk_exc ?_
              unfold g_read_3
              rw [if_t c2]
              rfl
    · have : rdW (tl t) ((w :: ws).map tl) = none := by
        rw [List.map_cons, ew]
        unfold rdW
        simp only [if_neg h58]
      rw [this]
      rw [decide_eq_false h58] at c1
      refine bad (ρ := [some (.str t), some (.list ((w :: ws).map .str)), none, none]) ?_
      unfold g_read
      rw [blk_nx e0]
      refine blk_exc ?_
      unfold g_read_1
      rw [if_t c1]
      rfl
  · have : rdW (tl t) ((w :: ws).map tl) = none := by
      rw [List.map_cons]
      unfold rdW
      split
      · rename_i c d _ e
        injection e with e1 _
        rw [len_tl, e1] at h2
        exact absurd rfl h2
      · rfl
    rw [this]
    refine bad (ρ := [some (.str t), some (.list ((w :: ws).map .str)), none, none]) ?_
    unfold g_read
    rw [blk_nx e0]
    refine blk_exc ?_
    unfold g_read_1
    have l : gLen [.str w] = some (.int w.length) := by
      show (if w.length ≤ 1000000 then some (PyData.int w.length) else none) = _
      rw [if_pos (by omega)]
    have z : gEq true (.int w.length) (.int 2) = some (.bool true) := by
      rw [gEq_int, decide_eq_false (by omega)]; rfl
    have l2 : fBi gLen (fCons (f2 gIx (fVar 1) (fC (.int 0))) fNil) [some (.str t), some (.list ((w :: ws).map .str)), none, none] = some (.int w.length) := by
      rw [bi1 i0, l]
    rw [if_t (by
      unfold bOr fB
      rw [show f2 (gEq true) (fBi gLen (fCons (f2 gIx (fVar 1) (fC (.int 0))) fNil)) (fC (.int 2)) [some (.str t), some (.list ((w :: ws).map .str)), none, none] = some (.bool true) by
        unfold f2 at l2 ⊢
        rw [l2]
        exact z]
      rfl)]
    rfl

/-! ### the law's own reader -/
def oD (o : Option Mp) : PyData := match o with
  | some m => mpD m
  | none => .none
theorem law_read_eq {t : Str} (h : Asc 900 t) : phi__law_read [.str t] = some (.ok (oD (rd (tl t)))) := by
  have e := read_eq h
  refine def_ret rfl (?_ : g__law_read [some (.str t), none, none] = _)
  have e0 : g__law_read_0 [some (.str t), none, none] = some (.nx [some (.str t), some (.str (Str.ofString "other")), none]) := rfl
  unfold g__law_read
  rw [blk_nx e0]
  have e1 : g__law_read_1y0 [some (.str t), some (.str (Str.ofString "other")), none] = some (match rd (tl t) with
      | some m => .nx [some (.str t), some (mpD m), none]
      | none => .exc 1 [some (.str t), some (.str (Str.ofString "other")), none]) := by
    unfold g__law_read_1y0 gSetQ qCall fCons fNil fVar
    show ((phi_read [.str t]).bind _) = _
    rw [e]
    cases rd (tl t) <;> rfl
  have e2 : g__law_read_1 [some (.str t), some (.str (Str.ofString "other")), none] = some (.nx [some (.str t), some (oD (rd (tl t))), none]) := by
    unfold g__law_read_1 gTryAs
    rw [e1]
    cases rd (tl t) <;> rfl
  rw [blk_nx e2]
  rfl
/-! ### a spoilt text -/
def TxtAt (n : Nat) (f : Fn) (ρ : Rho) : Prop := ∃ z, f ρ = some (.str z) ∧ Asc n z
theorem cat_ok {fa fb : Fn} {ρ : Rho} {n m : Nat} (ha : TxtAt n fa ρ) (hb : TxtAt m fb ρ) (h : n + m ≤ 1000000) : TxtAt (n + m) (f2 gAdd fa fb) ρ := by
  obtain ⟨a, e1, a1⟩ := ha
  obtain ⟨b, e2, b1⟩ := hb
  refine ⟨a ++ b, ?_, a1.app b1⟩
  have := a1.len
  have := b1.len
  unfold f2
  rw [e1, Option.bind_some, e2, Option.bind_some]
  exact if_pos (by omega)
theorem cut_ok {f : Fn} {fl fh : Rho → Option (Option Int)} {ρ : Rho} {n : Nat} (ha : TxtAt n f ρ) (hl : ∃ x, fl ρ = some x) (hh : ∃ x, fh ρ = some x) (h : n ≤ 1000000) : TxtAt n (fSl f fl fh) ρ := by
  obtain ⟨a, e1, a1⟩ := ha
  obtain ⟨x, e2⟩ := hl
  obtain ⟨y, e3⟩ := hh
  refine ⟨cutS a x y, ?_, a1.cut x y⟩
  have := a1.len
  unfold fSl
  rw [e1, Option.bind_some, e2, Option.bind_some, e3, Option.bind_some]
  exact if_pos (by omega)
theorem sign_ok {i : Int} (h : 0 ≤ i ∧ i < 10) : ∃ s, gIx (.str (Str.ofString "0129: ,-ax")) (.int i) = some (.str s) ∧ Asc 1 s := by
  have el : tl (Str.ofString "0129: ,-ax") = [48, 49, 50, 57, 58, 32, 44, 45, 97, 120] := by decide +kernel
  have hz : (Str.ofString "0129: ,-ax").length ≤ 1000000 := by rw [len_tl, el]; decide
  obtain ⟨n, rfl⟩ := Int.eq_ofNat_of_zero_le h.1
  have hn : n < 10 := by omega
  have hl : n < ([48, 49, 50, 57, 58, 32, 44, 45, 97, 120] : List Nat).length := hn
  refine ⟨⟨#[([48, 49, 50, 57, 58, 32, 44, 45, 97, 120] : List Nat)[n]]⟩, ?_, asc_iff (l := [([48, 49, 50, 57, 58, 32, 44, 45, 97, 120] : List Nat)[n]]) rfl (fun c hc => ?_) (Nat.le_refl 1)⟩
  · show (if (Str.ofString "0129: ,-ax").length ≤ 1000000 then (atI (tl (Str.ofString "0129: ,-ax")) n).map fun c => PyData.str ⟨#[c]⟩ else none) = _
    rw [if_pos hz, el, atI_nat (List.getElem?_eq_getElem hl)]
    rfl
  · rw [List.mem_singleton] at hc
    have : ∀ x ∈ ([48, 49, 50, 57, 58, 32, 44, 45, 97, 120] : List Nat), x < 128 := by decide
    rw [hc]
    exact this _ (List.getElem_mem hl)
theorem spoilt_eq {t : Str} {n : Nat} (h : Asc n t) (hn : n ≤ 100) (c : Int) : ∃ z, phi__law_spoilt [.str t, .int c] = some (.ok (.str z)) ∧ Asc 900 z := by
  have hl := h.len
  have hd4 : CDiv c 4 := ⟨by decide, by decide⟩
  have hd5 : CDiv c 512 := ⟨by decide, by decide⟩
  have hp : (0 : Int) < (t.length : Int) + 1 := by omega
  obtain ⟨s, es, as⟩ := sign_ok (i := c / 512 % 10) ⟨Int.emod_nonneg _ (by omega), Int.emod_lt_of_pos _ (by omega)⟩
  have ht : t.length ≤ 1000000 := by omega
  have e0 : g__law_spoilt_0 [some (.str t), some (.int c), none, none] = some (.nx [some (.str t), some (.int c), some (.int (c / 4 % ((t.length : Int) + 1))), none]) := by
    simp [g__law_spoilt_0, hd4, hp, ht]
  generalize c / 4 % ((t.length : Int) + 1) = a at e0
  have e1 : g__law_spoilt_1 [some (.str t), some (.int c), some (.int a), none] = some (.nx [some (.str t), some (.int c), some (.int a), some (.str s)]) := by
    have : f2 (gIc (fun _ j => 0 < j) fun i j => i % j) (f2 (gIc CDiv fun i j => i / j) (fVar 1) (fC (.int 512))) (fC (.int 10)) [some (.str t), some (.int c), some (.int a), none] = some (.int (c / 512 % 10)) := by simp [hd5]
    unfold g__law_spoilt_1 gAsg
    rw [show f2 gIx (fC (.str (PySem.Str.ofString "0129: ,-ax"))) (f2 (gIc (fun _ j => 0 < j) fun i j => i % j) (f2 (gIc CDiv fun i j => i / j) (fVar 1) (fC (.int 512))) (fC (.int 10))) [some (.str t), some (.int c), some (.int a), none] = some (.str s) by
      rw [f2_of rfl this]
      exact es]
    rfl
  have v0 : TxtAt n (fVar 0) [some (.str t), some (.int c), some (.int a), some (.str s)] := ⟨t, rfl, h⟩
  have v3 : TxtAt 1 (fVar 3) [some (.str t), some (.int c), some (.int a), some (.str s)] := ⟨s, rfl, as⟩
  have pn : ∃ x, pNone [some (.str t), some (.int c), some (.int a), some (.str s)] = some x := ⟨_, rfl⟩
  have pa : ∃ x, pSome (fVar 2) [some (.str t), some (.int c), some (.int a), some (.str s)] = some x := ⟨some a, rfl⟩
  have pa1 : ∃ x, pSome (f2 gAdd (fVar 2) (fC (.int 1))) [some (.str t), some (.int c), some (.int a), some (.str s)] = some x := ⟨some (a + 1), rfl⟩
  have pa2 : ∃ x, pSome (f2 (gI fun i j => i - j) (f2 gAdd (fVar 2) (f2 (gIc (fun _ j => 0 < j) fun i j => i % j) (fVar 1) (fC (.int 4)))) (fC (.int 2))) [some (.str t), some (.int c), some (.int a), some (.str s)] = some x := ⟨some (a + c % 4 - 2), by simp⟩
  have key : ∃ z, Asc 900 z ∧ g__law_spoilt [some (.str t), some (.int c), none, none] = some (.ret (.str z)) := by
    unfold g__law_spoilt
    rw [blk_nx e0, blk_nx e1]
    have cond : ∀ z : Int, fB (f2 (gEq false) (f2 (gIc (fun _ j => 0 < j) fun i j => i % j) (fVar 1) (fC (.int 4))) (fC (.int z))) [some (.str t), some (.int c), some (.int a), some (.str s)] = some (decide (c % 4 = z)) := fun z => by simp
    by_cases k0 : c % 4 = 0
    · obtain ⟨z, e, az⟩ := cat_ok (cut_ok v0 pn pa (by omega)) (cut_ok v0 pa1 pn (by omega)) (by omega)
      refine ⟨z, az.mono (by omega), ?_⟩
      refine blk_ret ?_
      unfold g__law_spoilt_2
      rw [if_t (by rw [cond, decide_eq_true k0])]
      unfold g__law_spoilt_2t0 gRet
      rw [e]
      rfl
    · have e2 : g__law_spoilt_2 [some (.str t), some (.int c), some (.int a), some (.str s)] = some (.nx [some (.str t), some (.int c), some (.int a), some (.str s)]) := by
        unfold g__law_spoilt_2
        rw [if_f (by rw [cond, decide_eq_false k0])]
        rfl
      rw [blk_nx e2]
      by_cases k1 : c % 4 = 1
      · obtain ⟨z, e, az⟩ := cat_ok (cat_ok (cut_ok v0 pn pa (by omega)) (cut_ok v0 pa pa1 (by omega)) (by omega)) (cut_ok v0 pa pn (by omega)) (by omega)
        refine ⟨z, az.mono (by omega), ?_⟩
        refine blk_ret ?_
        unfold g__law_spoilt_3
        rw [if_t (by rw [cond, decide_eq_true k1])]
        unfold g__law_spoilt_3t0 gRet
        rw [e]
        rfl
      · have e3 : g__law_spoilt_3 [some (.str t), some (.int c), some (.int a), some (.str s)] = some (.nx [some (.str t), some (.int c), some (.int a), some (.str s)]) := by
          unfold g__law_spoilt_3
          rw [if_f (by rw [cond, decide_eq_false k1])]
          rfl
        rw [blk_nx e3]
        obtain ⟨z, e, az⟩ := cat_ok (cat_ok (cut_ok v0 pn pa (by omega)) v3 (by omega)) (cut_ok v0 pa2 pn (by omega)) (by omega)
        refine ⟨z, az.mono (by omega), ?_⟩
        unfold g__law_spoilt_4 gRet
        rw [e]
        rfl
  obtain ⟨z, az, e⟩ := key
  exact ⟨z, def_ret rfl e, az⟩
/-! ### the law -/
abbrev lawRho (S : PyData) (o1 o2 o3 o4 o5 : Option PyData) : Rho := [some S, o1, o2, o3, o4, o5]
theorem isNon_map (m : Mp) : gIs true (mpD m) .none = some (.bool true) := rfl
theorem isNon_non : gIs true .none .none = some (.bool false) := rfl
theorem round_ok (S : PyData) (c : Int) (o2 o3 o4 o5 : Option PyData) : ∃ p2 p3 p4 p5, g_law_0b (lawRho S (some (.int c)) o2 o3 o4 o5) = some (.nx (lawRho S (some (.int c)) p2 p3 p4 p5)) := by
  have hm1 := mix_lt (c := c) (p := 9907) (m := 10) (by omega)
  have hm2 := mix_lt (c := c) (p := 9901) (m := 10) (by omega)
  have em1 := mix_eq (c := c) (p := 9907) (m := 10) (by omega) (by omega)
  have em2 := mix_eq (c := c) (p := 9901) (m := 10) (by omega) (by omega)
  generalize c * 48271 % 9907 % 10 = n1 at hm1 em1
  generalize c * 48271 % 9901 % 10 = n2 at hm2 em2
  obtain ⟨m, w, t1, l1, f1, e1⟩ := mp_eq (c := c) (many := n1) (to := n2) ⟨hm1.1, by omega⟩ ⟨hm2.1, by omega⟩
  have hm : Ok9 m := ⟨⟨by omega, by omega⟩, by omega, w.lt⟩
  have ax : Asc 20 (⟨(tx m).toArray⟩ : Str) := asc_mk hm.txlt hm.txlen
  have et := text_eq hm
  have ew := written_eq hm
  have er := read_eq (ax.mono (by omega))
  rw [tl_mk, rd_tx hm] at er
  obtain ⟨z, ez, az⟩ := spoilt_eq ax (by omega) c
  have el := law_read_eq az
  have s0 : g_law_0b0 (lawRho S (some (.int c)) o2 o3 o4 o5) = some (.nx (lawRho S (some (.int c)) o2 (some (mpD m)) o4 o5)) := by
    simp [g_law_0b0, em1, em2, e1]
  have s1 : g_law_0b1 (lawRho S (some (.int c)) o2 (some (mpD m)) o4 o5) = some (.nx (lawRho S (some (.int c)) o2 (some (mpD m)) (some (.str ⟨(tx m).toArray⟩)) o5)) := by
    simp [g_law_0b1, et]
  have q1 := gEq_asc true ax ax
  have q2 := gEq_map true m m
  rw [decide_eq_true rfl] at q1 q2
  have s2 : g_law_0b2 (lawRho S (some (.int c)) o2 (some (mpD m)) (some (.str ⟨(tx m).toArray⟩)) o5) = some (.nx (lawRho S (some (.int c)) o2 (some (mpD m)) (some (.str ⟨(tx m).toArray⟩)) o5)) := by
    simp [g_law_0b2, ew, er, qm, q1]
  have s3 : g_law_0b3 (lawRho S (some (.int c)) o2 (some (mpD m)) (some (.str ⟨(tx m).toArray⟩)) o5) = some (.nx (lawRho S (some (.int c)) (some (.str z)) (some (mpD m)) (some (.str ⟨(tx m).toArray⟩)) o5)) := by
    simp [g_law_0b3, ez]
  have s4 : g_law_0b4 (lawRho S (some (.int c)) (some (.str z)) (some (mpD m)) (some (.str ⟨(tx m).toArray⟩)) o5) = some (.nx (lawRho S (some (.int c)) (some (.str z)) (some (mpD m)) (some (.str ⟨(tx m).toArray⟩)) (some (oD (rd (tl z)))))) := by
    simp [g_law_0b4, el]
  refine ⟨some (.str z), some (mpD m), some (.str ⟨(tx m).toArray⟩), some (oD (rd (tl z))), ?_⟩
  unfold g_law_0b
  rw [blk_nx s0, blk_nx s1, blk_nx s2, blk_nx s3, blk_nx s4]
  have s5 : g_law_0b5 (lawRho S (some (.int c)) (some (.str z)) (some (mpD m)) (some (.str ⟨(tx m).toArray⟩)) (some (oD (rd (tl z))))) = some (.nx (lawRho S (some (.int c)) (some (.str z)) (some (mpD m)) (some (.str ⟨(tx m).toArray⟩)) (some (oD (rd (tl z)))))) := by
    cases hr : rd (tl z) with
    | none => simp [g_law_0b5, oD, isNon_non]
    | some m2 =>
      obtain ⟨k9, ke⟩ := rd_ok hr
      have i2 := is_map_eq (looks_map m2.1 m2.2 (by have := k9.len; omega))
      have i3 : phi_is_map [mpD m2] = some (.ok (.bool true)) := by
        have := isMap_ok9 m2
        rw [ok9_iff.mpr k9] at this
        rw [show isMapD (mapD m2.1 m2.2) = true from this] at i2
        exact i2
      have t2 := text_eq k9
      have q3 := gEq_asc true (asc_mk k9.txlt k9.txlen) az
      rw [tl_mk, ke, decide_eq_true rfl] at q3
      rw [ke] at t2
      simp [g_law_0b5, oD, isNon_map, i3, t2, q3]
      rfl
  exact s5
theorem bad_eq {t : Str} {l : List Nat} (e : tl t = l) (h : ∀ c ∈ l, c < 128) (k : l.length ≤ 900) (hr : rd l = none) : phi__law_read [.str t] = some (.ok .none) := by
  rw [law_read_eq (asc_iff e h k), e, hr]
  rfl

theorem script_cut (ns : List Int) : cutA ((scrK ns).map (·.1)) none (some 8) = (ns.take 8).map PyData.int := by
  rw [scr_fst, cutA_map, cutA_to ns (by decide)]
  rfl
theorem bads_ok {S : PyData} : ∀ {ts : List Str} {o1 o2 o3 o4 o5 : Option PyData}, (∀ t ∈ ts, phi__law_read [.str t] = some (.ok .none)) → ∃ p2, forF (hName 2) g_law_1b0 (ts.map .str) (lawRho S o1 o2 o3 o4 o5) = some (.nx (lawRho S o1 p2 o3 o4 o5))
  | [], _, o2, _, _, _, _ => ⟨o2, rfl⟩
  | t :: ts, o1, o2, o3, o4, o5, h => by
    have e := h t List.mem_cons_self
    have e1 : g_law_1b0 (lawRho S o1 (some (.str t)) o3 o4 o5) = some (.nx (lawRho S o1 (some (.str t)) o3 o4 o5)) := by
      simp [g_law_1b0, e]
    obtain ⟨p2, e2⟩ := bads_ok (S := S) (ts := ts) (o1 := o1) (o2 := some (.str t)) (o3 := o3) (o4 := o4) (o5 := o5) fun x hx => h x (List.mem_cons_of_mem _ hx)
    refine ⟨p2, ?_⟩
    rw [List.map_cons, for_cons_nx rfl e1]
    exact e2
theorem law_plain (ns : List Int) (hl : ns.length ≤ 63) : phi_law [.dict (scrK ns)] = some (.ok (.bool true)) := by
  refine def_ret rfl (?_ : g_law (lawRho (.dict (scrK ns)) none none none none none) = _)
  have k0 : ∃ ρ', g_law_0 (lawRho (.dict (scrK ns)) none none none none none) = some (.nx ρ') ∧ ∃ o1 o2 o3 o4 o5, ρ' = lawRho (.dict (scrK ns)) o1 o2 o3 o4 o5 := by
    have e : iSq (fSl (fVar 0) pNone (pSome (fC (.int 8)))) (lawRho (.dict (scrK ns)) none none none none none) = some ((ns.take 8).map PyData.int) := by
      have := script_cut ns
      simp only [iSq, fSl, fVar, pSome, pNone, fC, List.getElem?_cons_zero, Option.bind_some, gSl, this]
      rfl
    unfold g_law_0 gFor
    rw [e, Option.bind_some]
    refine forF_nx (fun ρ => ∃ o1 o2 o3 o4 o5, ρ = lawRho (.dict (scrK ns)) o1 o2 o3 o4 o5) (fun d hd ρ hp => ?_) ⟨_, _, _, _, _, rfl⟩
    obtain ⟨c, _, rfl⟩ := List.mem_map.mp hd
    obtain ⟨o1, o2, o3, o4, o5, rfl⟩ := hp
    obtain ⟨p2, p3, p4, p5, e⟩ := round_ok (.dict (scrK ns)) c o2 o3 o4 o5
    exact ⟨_, _, rfl, e, _, _, _, _, _, rfl⟩
  obtain ⟨_, e0, o1, o2, o3, o4, o5, rfl⟩ := k0
  have k1 : ∃ p2, g_law_1 (lawRho (.dict (scrK ns)) o1 o2 o3 o4 o5) = some (.nx (lawRho (.dict (scrK ns)) o1 p2 o3 o4 o5)) := by
    have hx : ∃ x : Str, gAdd (.str (Str.ofString "9:")) (.str ⟨(List.replicate 10 (Str.ofString " 0").cps).foldl (· ++ ·) #[]⟩) = some (.str x) ∧ tl x = [57, 58, 32, 48, 32, 48, 32, 48, 32, 48, 32, 48, 32, 48, 32, 48, 32, 48, 32, 48, 32, 48] := by
      refine ⟨Str.ofString "9:" ++ ⟨(List.replicate 10 (Str.ofString " 0").cps).foldl (· ++ ·) #[]⟩, ?_, by decide +kernel⟩
      have c : (Str.ofString "9:").length + (⟨(List.replicate 10 (Str.ofString " 0").cps).foldl (· ++ ·) #[]⟩ : Str).length ≤ 1000000 := by decide +kernel
      unfold gAdd
      simp only []
      rw [if_pos c]
    obtain ⟨x, hx, ex⟩ := hx
    have hm : gMulS (.str (Str.ofString " 0")) (.int 10) = some (.str ⟨(List.replicate 10 (Str.ofString " 0").cps).foldl (· ++ ·) #[]⟩) := by
      have c : (2 : Int) ≤ 10 ∧ (10 : Int) ≤ 1000 ∧ 1 ≤ (Str.ofString " 0").length ∧ (Str.ofString " 0").length ≤ 1000 := by decide +kernel
      show (if (2 : Int) ≤ 10 ∧ (10 : Int) ≤ 1000 ∧ 1 ≤ (Str.ofString " 0").length ∧ (Str.ofString " 0").length ≤ 1000 then _ else none) = _
      rw [if_pos c]
      rfl
    obtain ⟨p2, e⟩ := bads_ok (S := .dict (scrK ns)) (ts := [Str.ofString "", Str.ofString ":", Str.ofString "3", Str.ofString "3:0", Str.ofString "3: 3", Str.ofString "0: 0", Str.ofString "3:  0", Str.ofString " 3: 0", Str.ofString "3: 0 ", x, Str.ofString "10: 0", Str.ofString "x: 0"]) (o1 := o1) (o2 := o2) (o3 := o3) (o4 := o4) (o5 := o5) (by
      intro t ht
      simp only [List.mem_cons, List.not_mem_nil, or_false] at ht
      rcases ht with rfl | rfl | rfl | rfl | rfl | rfl | rfl | rfl | rfl | rfl | rfl | rfl
      · exact bad_eq (l := []) (by decide +kernel) (by decide) (by decide) (by decide +kernel)
      · exact bad_eq (l := [58]) (by decide +kernel) (by decide) (by decide) (by decide +kernel)
      · exact bad_eq (l := [51]) (by decide +kernel) (by decide) (by decide) (by decide +kernel)
      · exact bad_eq (l := [51, 58, 48]) (by decide +kernel) (by decide) (by decide) (by decide +kernel)
      · exact bad_eq (l := [51, 58, 32, 51]) (by decide +kernel) (by decide) (by decide) (by decide +kernel)
      · exact bad_eq (l := [48, 58, 32, 48]) (by decide +kernel) (by decide) (by decide) (by decide +kernel)
      · exact bad_eq (l := [51, 58, 32, 32, 48]) (by decide +kernel) (by decide) (by decide) (by decide +kernel)
      · exact bad_eq (l := [32, 51, 58, 32, 48]) (by decide +kernel) (by decide) (by decide) (by decide +kernel)
      · exact bad_eq (l := [51, 58, 32, 48, 32]) (by decide +kernel) (by decide) (by decide) (by decide +kernel)
      · exact bad_eq ex (by decide) (by decide) (by decide +kernel)
      · exact bad_eq (l := [49, 48, 58, 32, 48]) (by decide +kernel) (by decide) (by decide) (by decide +kernel)
      · exact bad_eq (l := [120, 58, 32, 48]) (by decide +kernel) (by decide) (by decide) (by decide +kernel))
    refine ⟨p2, ?_⟩
    unfold g_law_1 gFor
    refine Eq.trans ?_ e
    have hx2 : f2 gAdd (fC (.str (PySem.Str.ofString "9:"))) (f2 gMulS (fC (.str (PySem.Str.ofString " 0"))) (fC (.int 10))) (lawRho (.dict (scrK ns)) o1 o2 o3 o4 o5) = some (.str x) := by
      rw [f2_of rfl (f2_of rfl rfl |>.trans hm)]
      exact hx
    have : iSq (fFr (fList (fCons (fC (.str (PySem.Str.ofString ""))) (fCons (fC (.str (PySem.Str.ofString ":"))) (fCons (fC (.str (PySem.Str.ofString "3"))) (fCons (fC (.str (PySem.Str.ofString "3:0"))) (fCons (fC (.str (PySem.Str.ofString "3: 3"))) (fCons (fC (.str (PySem.Str.ofString "0: 0"))) (fCons (fC (.str (PySem.Str.ofString "3:  0"))) (fCons (fC (.str (PySem.Str.ofString " 3: 0"))) (fCons (fC (.str (PySem.Str.ofString "3: 0 "))) (fCons (f2 gAdd (fC (.str (PySem.Str.ofString "9:"))) (f2 gMulS (fC (.str (PySem.Str.ofString " 0"))) (fC (.int 10)))) (fCons (fC (.str (PySem.Str.ofString "10: 0"))) (fCons (fC (.str (PySem.Str.ofString "x: 0"))) fNil))))))))))))))  (lawRho (.dict (scrK ns)) o1 o2 o3 o4 o5) = some ([Str.ofString "", Str.ofString ":", Str.ofString "3", Str.ofString "3:0", Str.ofString "3: 3", Str.ofString "0: 0", Str.ofString "3:  0", Str.ofString " 3: 0", Str.ofString "3: 0 ", x, Str.ofString "10: 0", Str.ofString "x: 0"].map .str) := by
      simp only [iSq, fFr, fList, fCons, fNil, hx2]
      simp [fC]
    rw [this, Option.bind_some]
  obtain ⟨p2, e1⟩ := k1
  unfold g_law
  rw [blk_nx e0, blk_nx e1]
  have er : phi_read [.str (Str.ofString "0:")] = some (.ok (mpD (0, []))) := by
    have el : tl (Str.ofString "0:") = [48, 58] := by decide +kernel
    rw [read_eq (asc_iff el (by decide) (by decide)), el, show rd [48, 58] = some (0, []) by decide +kernel]
    rfl
  have q := gEq_map false (0, []) (0, [])
  rw [decide_eq_true rfl] at q
  have q' : gEq false (mpD (0, [])) (.tuple [.int 0, .tuple []]) = some (.bool true) := q
  unfold g_law_2 gRet
  have a1 : fCall phi_read (fCons (fC (.str (PySem.Str.ofString "0:"))) fNil) (lawRho (.dict (scrK ns)) o1 p2 o3 o4 o5) = some (mpD (0, [])) := by
    unfold fCall fCons fC fNil
    show ((phi_read [.str (Str.ofString "0:")]).bind _) = _
    rw [er]
    rfl
  rw [f2_of (y := .tuple [.int 0, .tuple []]) a1 (by simp), q']
  rfl
end Lw

namespace Lw
open PySem PySem.Spec PyProof.Rows L2 DL
theorem all_mk {l : PySem.W.OpenLaw} {w : World} {K : PySem.W.Frag} {h : Heap} {mg : Str → Option Value} {fa f0 f1 f2 f3 f4 f6 f7 f9 f10 f11 f12 e0 e1 e2 e3 : Addr} (X : K.In h) (G : h.Ns mainGlobals mg) (hfa : mg "law" = some (.ref fa))
    {od0 an0 od1 an1 od2 an2 od3 an3 od4 an4 od6 an6 od7 an7 od9 an9 od10 an10 od11 an11 od12 an12 : Option Addr} {sl0 sl1 sl2 sl3 sl4 sl6 sl7 sl9 sl10 sl11 sl12 : Array (Option Value)} {oc0 kV0 dc0 pm0 cd0 ct0 oc1 kV1 dc1 pm1 cd1 ct1 oc2 kV2 dc2 pm2 cd2 ct2 oc3 kV3 dc3 pm3 cd3 ct3 oc4 kV4 dc4 pm4 cd4 ct4 oc6 kV6 dc6 pm6 cd6 ct6 oc7 kV7 dc7 pm7 cd7 ct7 oc9 kV9 dc9 pm9 cd9 ct9 oc10 kV10 dc10 pm10 cd10 ct10 oc11 kV11 dc11 pm11 cd11 ct11 oc12 kV12 dc12 pm12 cd12 ct12 : Value}
    (a0 : PySem.W.nsIn K mainGlobals "is_number" = some (some (.ref f0))) (l0 : K.lookup f0 = some ⟨oc0, od0, .func (PySem.W.fnOf "is_number" "is_number" (defArgs s_is_number) (defBody s_is_number) (defScope s_is_number) .none kV0 dc0 pm0 an0 cd0 ct0), sl0⟩) (c0 : PySem.W.codeIn K cd0 "is_number" = true) (k0 : PySem.W.keepIn K (.ref f0) = true)
    (a1 : PySem.W.nsIn K mainGlobals "is_map" = some (some (.ref f1))) (l1 : K.lookup f1 = some ⟨oc1, od1, .func (PySem.W.fnOf "is_map" "is_map" (defArgs s_is_map) (defBody s_is_map) (defScope s_is_map) .none kV1 dc1 pm1 an1 cd1 ct1), sl1⟩) (c1 : PySem.W.codeIn K cd1 "is_map" = true) (k1 : PySem.W.keepIn K (.ref f1) = true)
    (a2 : PySem.W.nsIn K mainGlobals "written" = some (some (.ref f2))) (l2 : K.lookup f2 = some ⟨oc2, od2, .func (PySem.W.fnOf "written" "written" (defArgs s_written) (defBody s_written) (defScope s_written) .none kV2 dc2 pm2 an2 cd2 ct2), sl2⟩) (c2 : PySem.W.codeIn K cd2 "written" = true) (k2 : PySem.W.keepIn K (.ref f2) = true)
    (a3 : PySem.W.nsIn K mainGlobals "figure" = some (some (.ref f3))) (l3 : K.lookup f3 = some ⟨oc3, od3, .func (PySem.W.fnOf "figure" "figure" (defArgs s_figure) (defBody s_figure) (defScope s_figure) .none kV3 dc3 pm3 an3 cd3 ct3), sl3⟩) (c3 : PySem.W.codeIn K cd3 "figure" = true) (k3 : PySem.W.keepIn K (.ref f3) = true)
    (a4 : PySem.W.nsIn K mainGlobals "read" = some (some (.ref f4))) (l4 : K.lookup f4 = some ⟨oc4, od4, .func (PySem.W.fnOf "read" "read" (defArgs s_read) (defBody s_read) (defScope s_read) .none kV4 dc4 pm4 an4 cd4 ct4), sl4⟩) (c4 : PySem.W.codeIn K cd4 "read" = true) (k4 : PySem.W.keepIn K (.ref f4) = true)
    (a6 : PySem.W.nsIn K mainGlobals "_law_mix" = some (some (.ref f6))) (l6 : K.lookup f6 = some ⟨oc6, od6, .func (PySem.W.fnOf "_law_mix" "_law_mix" (defArgs s__law_mix) (defBody s__law_mix) (defScope s__law_mix) .none kV6 dc6 pm6 an6 cd6 ct6), sl6⟩) (c6 : PySem.W.codeIn K cd6 "_law_mix" = true) (k6 : PySem.W.keepIn K (.ref f6) = true)
    (a7 : PySem.W.nsIn K mainGlobals "_law_map" = some (some (.ref f7))) (l7 : K.lookup f7 = some ⟨oc7, od7, .func (PySem.W.fnOf "_law_map" "_law_map" (defArgs s__law_map) (defBody s__law_map) (defScope s__law_map) .none kV7 dc7 pm7 an7 cd7 ct7), sl7⟩) (c7 : PySem.W.codeIn K cd7 "_law_map" = true) (k7 : PySem.W.keepIn K (.ref f7) = true)
    (a9 : PySem.W.nsIn K mainGlobals "_law_text" = some (some (.ref f9))) (l9 : K.lookup f9 = some ⟨oc9, od9, .func (PySem.W.fnOf "_law_text" "_law_text" (defArgs s__law_text) (defBody s__law_text) (defScope s__law_text) .none kV9 dc9 pm9 an9 cd9 ct9), sl9⟩) (c9 : PySem.W.codeIn K cd9 "_law_text" = true) (k9 : PySem.W.keepIn K (.ref f9) = true)
    (a10 : PySem.W.nsIn K mainGlobals "_law_spoilt" = some (some (.ref f10))) (l10 : K.lookup f10 = some ⟨oc10, od10, .func (PySem.W.fnOf "_law_spoilt" "_law_spoilt" (defArgs s__law_spoilt) (defBody s__law_spoilt) (defScope s__law_spoilt) .none kV10 dc10 pm10 an10 cd10 ct10), sl10⟩) (c10 : PySem.W.codeIn K cd10 "_law_spoilt" = true) (k10 : PySem.W.keepIn K (.ref f10) = true)
    (a11 : PySem.W.nsIn K mainGlobals "_law_read" = some (some (.ref f11))) (l11 : K.lookup f11 = some ⟨oc11, od11, .func (PySem.W.fnOf "_law_read" "_law_read" (defArgs s__law_read) (defBody s__law_read) (defScope s__law_read) .none kV11 dc11 pm11 an11 cd11 ct11), sl11⟩) (c11 : PySem.W.codeIn K cd11 "_law_read" = true) (k11 : PySem.W.keepIn K (.ref f11) = true)
    (a12 : PySem.W.nsIn K mainGlobals "law" = some (some (.ref f12))) (l12 : K.lookup f12 = some ⟨oc12, od12, .func (PySem.W.fnOf "law" "law" (defArgs s_law) (defBody s_law) (defScope s_law) .none kV12 dc12 pm12 an12 cd12 ct12), sl12⟩) (c12 : PySem.W.codeIn K cd12 "law" = true) (k12 : PySem.W.keepIn K (.ref f12) = true)
    (z_ValueError : PySem.W.nsIn K mainGlobals "ValueError" = some none)
    (z_all : PySem.W.nsIn K mainGlobals "all" = some none)
    (z_bool : PySem.W.nsIn K mainGlobals "bool" = some none)
    (z_int : PySem.W.nsIn K mainGlobals "int" = some none)
    (z_isinstance : PySem.W.nsIn K mainGlobals "isinstance" = some none)
    (z_len : PySem.W.nsIn K mainGlobals "len" = some none)
    (z_list : PySem.W.nsIn K mainGlobals "list" = some none)
    (z_range : PySem.W.nsIn K mainGlobals "range" = some none)
    (z_str : PySem.W.nsIn K mainGlobals "str" = some none)
    (z_tuple : PySem.W.nsIn K mainGlobals "tuple" = some none)
    (zgC0_0 : PySem.W.nsIn K mainGlobals "MapError" = some (some (.ref e0)))
    (zx0_0 : PySem.W.excIn K (e0) [.type "ValueError", .type "Exception", .type "BaseException", .type "object"] "ValueError.__new__" = true)
    (zkC0_0 : PySem.W.keepIn K (.ref (e0)) = true)
    (zbC0_0 : PySem.W.subIn K (.ref (e0)) (.type "BaseException") = some true)
    (ztC0_0 : PySem.W.typeIn K (.ref (e0)) = some (.type "type"))
    (zgC1_0 : PySem.W.nsIn K mainGlobals "NoText" = some (some (.ref e1)))
    (zx1_0 : PySem.W.excIn K (e1) [.type "ValueError", .type "Exception", .type "BaseException", .type "object"] "ValueError.__new__" = true)
    (zkC1_0 : PySem.W.keepIn K (.ref (e1)) = true)
    (zbC1_0 : PySem.W.subIn K (.ref (e1)) (.type "BaseException") = some true)
    (ztC1_0 : PySem.W.typeIn K (.ref (e1)) = some (.type "type"))
    (zgC2_0 : PySem.W.nsIn K mainGlobals "NoFit" = some (some (.ref e2)))
    (zx2_0 : PySem.W.excIn K (e2) [.type "ValueError", .type "Exception", .type "BaseException", .type "object"] "ValueError.__new__" = true)
    (zkC2_0 : PySem.W.keepIn K (.ref (e2)) = true)
    (zbC2_0 : PySem.W.subIn K (.ref (e2)) (.type "BaseException") = some true)
    (ztC2_0 : PySem.W.typeIn K (.ref (e2)) = some (.type "type"))
    (zgC3_0 : PySem.W.nsIn K mainGlobals "NoTurn" = some (some (.ref e3)))
    (zx3_0 : PySem.W.excIn K (e3) [.type "ValueError", .type "Exception", .type "BaseException", .type "object"] "ValueError.__new__" = true)
    (zkC3_0 : PySem.W.keepIn K (.ref (e3)) = true)
    (zbC3_0 : PySem.W.subIn K (.ref (e3)) (.type "BaseException") = some true)
    (ztC3_0 : PySem.W.typeIn K (.ref (e3)) = some (.type "type"))
    (zexm10_0 : PySem.W.hasDictIn K e0 = true)
    (zexm10_1 : PySem.W.subIn K (.ref e1) (.ref e0) = some true)
    (zask1123_0 : PySem.W.findIn K (.ref e1) "__getattribute__" = some (some (.builtin "BaseException.__getattribute__")))
    (zask1123_1 : PySem.W.findIn K (.ref e1) "__getattr__" = some none)
    (zask1123_2 : PySem.W.hasDictIn K e1 = true)
    (zask1123_3 : PySem.W.findIn K (.ref e1) "__class__" = some (some (.builtin "object.__class__")))
    (zask1123_4 : PySem.W.specialIn K (.builtin "object.__class__") "__get__" = some (some (.builtin "getset_descriptor.__get__")))
    (zask1123_5 : PySem.W.takesIn K (.builtin "object.__class__") = some true)
    (zask1123_6 : PySem.W.mroIn K e1 (.type "object") = some true)
    (zask1123_7 : PySem.W.subIn K (.ref e1) (.ref e2) = some false)
    (zask1123_8 : PySem.W.hasDictIn K e2 = true)
    (zask1123_9 : e1 ≠ e2)
    (zask1123_10 : PySem.W.subIn K (.ref e1) (.ref e3) = some false)
    (zask1123_11 : PySem.W.hasDictIn K e3 = true)
    (zask1123_12 : e1 ≠ e3)
    (zask1123_13 : PySem.W.subIn K (.ref e1) (.type "ValueError") = some true)
    (hpl : ∀ ns : List Int, ns.length ≤ 63 → phi_law [.dict (scrK ns)] = some (.ok (.bool true))) :
    ∃ fd : FuncData, (∀ (s : Shared) (v : Value), BindsTo s fd ⟨[v], []⟩ [("_law_script", v)]) ∧ ∀ base : Heap, K.In base → base.Ns mainGlobals mg → FnOk l.prog w K mg base (L2.CX l.prog w) 5 fa fd ["_law_script"] (spLaw K) := by
  have e := hfa.symm.trans (PySem.W.mg_of X G a12)
  cases e
  have F0 := fun_mk (st := s_is_number) l0 c0 k0
  have F1 := fun_mk (st := s_is_map) l1 c1 k1
  have F2 := fun_mk (st := s_written) l2 c2 k2
  have F3 := fun_mk (st := s_figure) l3 c3 k3
  have F4 := fun_mk (st := s_read) l4 c4 k4
  have F6 := fun_mk (st := s__law_mix) l6 c6 k6
  have F7 := fun_mk (st := s__law_map) l7 c7 k7
  have F9 := fun_mk (st := s__law_text) l9 c9 k9
  have F10 := fun_mk (st := s__law_spoilt) l10 c10 k10
  have F11 := fun_mk (st := s__law_read) l11 c11 k11
  have F12 := fun_mk (st := s_law) l12 c12 k12
  have T : Txt K mg ⟨fun i => match i with | 0 => f0 | 1 => f1 | 2 => f2 | 3 => f3 | 4 => f4 | 6 => f6 | 7 => f7 | 9 => f9 | 10 => f10 | 11 => f11 | 12 => fa | _ => 0, fun i => match i with | 0 => PySem.W.fnOf "is_number" "is_number" (defArgs s_is_number) (defBody s_is_number) (defScope s_is_number) .none kV0 dc0 pm0 an0 cd0 ct0 | 1 => PySem.W.fnOf "is_map" "is_map" (defArgs s_is_map) (defBody s_is_map) (defScope s_is_map) .none kV1 dc1 pm1 an1 cd1 ct1 | 2 => PySem.W.fnOf "written" "written" (defArgs s_written) (defBody s_written) (defScope s_written) .none kV2 dc2 pm2 an2 cd2 ct2 | 3 => PySem.W.fnOf "figure" "figure" (defArgs s_figure) (defBody s_figure) (defScope s_figure) .none kV3 dc3 pm3 an3 cd3 ct3 | 4 => PySem.W.fnOf "read" "read" (defArgs s_read) (defBody s_read) (defScope s_read) .none kV4 dc4 pm4 an4 cd4 ct4 | 6 => PySem.W.fnOf "_law_mix" "_law_mix" (defArgs s__law_mix) (defBody s__law_mix) (defScope s__law_mix) .none kV6 dc6 pm6 an6 cd6 ct6 | 7 => PySem.W.fnOf "_law_map" "_law_map" (defArgs s__law_map) (defBody s__law_map) (defScope s__law_map) .none kV7 dc7 pm7 an7 cd7 ct7 | 9 => PySem.W.fnOf "_law_text" "_law_text" (defArgs s__law_text) (defBody s__law_text) (defScope s__law_text) .none kV9 dc9 pm9 an9 cd9 ct9 | 10 => PySem.W.fnOf "_law_spoilt" "_law_spoilt" (defArgs s__law_spoilt) (defBody s__law_spoilt) (defScope s__law_spoilt) .none kV10 dc10 pm10 an10 cd10 ct10 | 11 => PySem.W.fnOf "_law_read" "_law_read" (defArgs s__law_read) (defBody s__law_read) (defScope s__law_read) .none kV11 dc11 pm11 an11 cd11 ct11 | 12 => PySem.W.fnOf "law" "law" (defArgs s_law) (defBody s_law) (defScope s_law) .none kV12 dc12 pm12 an12 cd12 ct12 | _ => PySem.W.fnOf "law" "law" (defArgs s_law) (defBody s_law) (defScope s_law) .none kV12 dc12 pm12 an12 cd12 ct12, fun i => match i with | 0 => e0 | 1 => e1 | 2 => e2 | 3 => e3 | _ => 0⟩ := {
    F0 := F0, g0 := PySem.W.mg_of X G a0, b0 := F0.binds (ps := ["thing", "most"]) fun _ _ _ _ _ _ us hl => match us, hl with | [_, _], _ => rfl,
    F1 := F1, g1 := PySem.W.mg_of X G a1, b1 := F1.binds (ps := ["thing"]) fun _ _ _ _ _ _ us hl => match us, hl with | [_], _ => rfl,
    F2 := F2, g2 := PySem.W.mg_of X G a2, b2 := F2.binds (ps := ["one"]) fun _ _ _ _ _ _ us hl => match us, hl with | [_], _ => rfl,
    F3 := F3, g3 := PySem.W.mg_of X G a3, b3 := F3.binds (ps := ["word"]) fun _ _ _ _ _ _ us hl => match us, hl with | [_], _ => rfl,
    F4 := F4, g4 := PySem.W.mg_of X G a4, b4 := F4.binds (ps := ["text"]) fun _ _ _ _ _ _ us hl => match us, hl with | [_], _ => rfl,
    F6 := F6, g6 := PySem.W.mg_of X G a6, b6 := F6.binds (ps := ["_law_cell_here", "_law_prime", "_law_many"]) fun _ _ _ _ _ _ us hl => match us, hl with | [_, _, _], _ => rfl,
    F7 := F7, g7 := PySem.W.mg_of X G a7, b7 := F7.binds (ps := ["_law_cell_here", "_law_many", "_law_to"]) fun _ _ _ _ _ _ us hl => match us, hl with | [_, _, _], _ => rfl,
    F9 := F9, g9 := PySem.W.mg_of X G a9, b9 := F9.binds (ps := ["_law_one"]) fun _ _ _ _ _ _ us hl => match us, hl with | [_], _ => rfl,
    F10 := F10, g10 := PySem.W.mg_of X G a10, b10 := F10.binds (ps := ["_law_text_here", "_law_cell_here"]) fun _ _ _ _ _ _ us hl => match us, hl with | [_, _], _ => rfl,
    F11 := F11, g11 := PySem.W.mg_of X G a11, b11 := F11.binds (ps := ["_law_text_here"]) fun _ _ _ _ _ _ us hl => match us, hl with | [_], _ => rfl,
    F12 := F12, g12 := PySem.W.mg_of X G a12, b12 := F12.binds (ps := ["_law_script"]) fun _ _ _ _ _ _ us hl => match us, hl with | [_], _ => rfl,
    m_ValueError := PySem.W.mg_none_of X G z_ValueError,
    m_all := PySem.W.mg_none_of X G z_all,
    m_bool := PySem.W.mg_none_of X G z_bool,
    m_int := PySem.W.mg_none_of X G z_int,
    m_isinstance := PySem.W.mg_none_of X G z_isinstance,
    m_len := PySem.W.mg_none_of X G z_len,
    m_list := PySem.W.mg_none_of X G z_list,
    m_range := PySem.W.mg_none_of X G z_range,
    m_str := PySem.W.mg_none_of X G z_str,
    m_tuple := PySem.W.mg_none_of X G z_tuple,
    gC0 := PySem.W.mg_of X G zgC0_0,
    x0 := zx0_0,
    kC0 := zkC0_0,
    bC0 := zbC0_0,
    tC0 := ztC0_0,
    gC1 := PySem.W.mg_of X G zgC1_0,
    x1 := zx1_0,
    kC1 := zkC1_0,
    bC1 := zbC1_0,
    tC1 := ztC1_0,
    gC2 := PySem.W.mg_of X G zgC2_0,
    x2 := zx2_0,
    kC2 := zkC2_0,
    bC2 := zbC2_0,
    tC2 := ztC2_0,
    gC3 := PySem.W.mg_of X G zgC3_0,
    x3 := zx3_0,
    kC3 := zkC3_0,
    bC3 := zbC3_0,
    tC3 := ztC3_0,
    exm10 := PySem.W.exm_ref zbC0_0 zexm10_0 ztC0_0 zexm10_1,
    ask1123 := ⟨⟨zask1123_0, zask1123_1, zbC1_0, zask1123_2, zask1123_3, zask1123_4, zask1123_5, zask1123_6⟩, if_pos (beq_self_eq_true _), kit_two_no (kit_cls_own zask1123_8 ztC2_0 zask1123_7 (ref_ne zask1123_9)) (kit_cls_own zask1123_11 ztC3_0 zask1123_10 (ref_ne zask1123_12)), kit_cls_ty (by decide +kernel) zask1123_13⟩ }
  exact ⟨_, fun s v => .of_eq rfl, fun base _ _ => (ok_law T).imp (spLaw_of hpl)⟩
end Lw
open PySem PySem.W PyProof.Rows
set_option maxHeartbeats 0 in
theorem PySem.Challenge.cw_mapweave_k02_whole_texts_holds : PySem.Challenge.rw_mapweave_k02_whole_texts.Holds := by
  w_on; o_law; k_head; (case hw => w_witness2)
  k_fill
  refine L2.walk_of (l := PySem.Challenge.rw_mapweave_k02_whole_texts) (n := 63) (k := 5) (x := "_law_script") (CX := fun w => L2.CX PySem.Challenge.rw_mapweave_k02_whole_texts.prog w) (sp := fun w => DL.spLaw _) rfl (by decide) rfl ⟨rfl, by decide, by decide⟩ (fun w h Y => PySem.W.kIn_of Y) ?F (fun _ _ a ns hl _ hS => ⟨a, ns, rfl, hS, hl, fun _ => rfl⟩) (fun _ _ _ _ _ h => DL.no_cx h)
  case F =>
    intro w mg fa h KX G hmg
    refine' Lw.all_mk KX G hmg ?a0 ?l0 ?c0 ?k0 ?a1 ?l1 ?c1 ?k1 ?a2 ?l2 ?c2 ?k2 ?a3 ?l3 ?c3 ?k3 ?a4 ?l4 ?c4 ?k4 ?a6 ?l6 ?c6 ?k6 ?a7 ?l7 ?c7 ?k7 ?a9 ?l9 ?c9 ?k9 ?a10 ?l10 ?c10 ?k10 ?a11 ?l11 ?c11 ?k11 ?a12 ?l12 ?c12 ?k12 ?z_ValueError ?z_all ?z_bool ?z_int ?z_isinstance ?z_len ?z_list ?z_range ?z_str ?z_tuple ?zgC0_0 ?zx0_0 ?zkC0_0 ?zbC0_0 ?ztC0_0 ?zgC1_0 ?zx1_0 ?zkC1_0 ?zbC1_0 ?ztC1_0 ?zgC2_0 ?zx2_0 ?zkC2_0 ?zbC2_0 ?ztC2_0 ?zgC3_0 ?zx3_0 ?zkC3_0 ?zbC3_0 ?ztC3_0 ?zexm10_0 ?zexm10_1 ?zask1123_0 ?zask1123_1 ?zask1123_2 ?zask1123_3 ?zask1123_4 ?zask1123_5 ?zask1123_6 ?zask1123_7 ?zask1123_8 ?zask1123_9 ?zask1123_10 ?zask1123_11 ?zask1123_12 ?zask1123_13 Lw.law_plain
    (case a0 => k_is); (case l0 => k_is); (case c0 => k_is); (case k0 => k_is); (case a1 => k_is); (case l1 => k_is)
    (case c1 => k_is); (case k1 => k_is); (case a2 => k_is); (case l2 => k_is); (case c2 => k_is); (case k2 => k_is)
    (case a3 => k_is); (case l3 => k_is); (case c3 => k_is); (case k3 => k_is); (case a4 => k_is); (case l4 => k_is)
    (case c4 => k_is); (case k4 => k_is); (case a6 => k_is); (case l6 => k_is); (case c6 => k_is); (case k6 => k_is)
    (case a7 => k_is); (case l7 => k_is); (case c7 => k_is); (case k7 => k_is); (case a9 => k_is); (case l9 => k_is)
    (case c9 => k_is); (case k9 => k_is); (case a10 => k_is); (case l10 => k_is); (case c10 => k_is); (case k10 => k_is)
    (case a11 => k_is); (case l11 => k_is); (case c11 => k_is); (case k11 => k_is); (case a12 => k_is); (case l12 => k_is)
    (case c12 => k_is); (case k12 => k_is); (case z_ValueError => k_is); (case z_all => k_is); (case z_bool => k_is); (case z_int => k_is)
    (case z_isinstance => k_is); (case z_len => k_is); (case z_list => k_is); (case z_range => k_is); (case z_str => k_is); (case z_tuple => k_is)
    (case zgC0_0 => k_is); (case zx0_0 => k_exc); (case zkC0_0 => k_is); (case zbC0_0 => k_is); (case ztC0_0 => k_is); (case zgC1_0 => k_is)
    (case zx1_0 => k_exc); (case zkC1_0 => k_is); (case zbC1_0 => k_is); (case ztC1_0 => k_is); (case zgC2_0 => k_is); (case zx2_0 => k_exc)
    (case zkC2_0 => k_is); (case zbC2_0 => k_is); (case ztC2_0 => k_is); (case zgC3_0 => k_is); (case zx3_0 => k_exc); (case zkC3_0 => k_is)
    (case zbC3_0 => k_is); (case ztC3_0 => k_is); (case zexm10_0 => k_is); (case zexm10_1 => first | rfl | k_is); (case zask1123_0 => k_is); (case zask1123_1 => k_is)
    (case zask1123_2 => k_is); (case zask1123_3 => k_is); (case zask1123_4 => k_is); (case zask1123_5 => k_is); (case zask1123_6 => k_is); (case zask1123_7 => k_is)
    (case zask1123_8 => k_is); (case zask1123_9 => decide); (case zask1123_10 => k_is); (case zask1123_11 => k_is); (case zask1123_12 => decide); (case zask1123_13 => k_is)

