import PyProof.Rows.All
import Wide.All
import OpenK.AllK
import Wide.FinOn
import HandS.ForMost
import HandS.Exc
import HandS.Words
import HandS.WordsList
import HandS.WordsDict
import HandS.WordsExc
import HandS.Defaults
import HandS.TupAny
import HandS.Flow
import HandS.Zip
import HandS.HeadHook1
import HandS.HeadHook2
import KE.GoesEnum
import KE.GoesEnumKw
import KE.GoesZip
import KE.GoesMore
import HandS.TupMul
import HandS.Text
import KE.KUnpackStar
import HandS.Conv
import HandS.HeadEnd
import HandS.Head0
import HandS.Head1
import HandS.Head2
import PySem.Challenge.RW_lullworks_k60_whole_likeness_goes_on
set_option Elab.async false
set_option linter.all false
set_option maxRecDepth 100000
set_option autoImplicit false
namespace LW
open PySem PySem.Spec PyProof.Rows L2

/-- data as a tree -/
inductive D where
  | non | bl (b : Bool) | int (i : Int) | str (x : Str) | tup (l : List D) | lst (l : List D) | frz (l : List D)
  | dct (ks : List Key) (vs : List D) | obj (n : Nat) | glo (x : Str) | ty (n : String)

mutual
def Rep (K : PySem.W.Frag) (F : Hp) (al : List Addr) : D → V → Prop
  | .non, v => v = .non
  | .bl b, v => v = .bl b
  | .int i, v => v = .int i
  | .str x, v => v = .str x
  | .tup l, v => ∃ a xs, v = .ref a ∧ SqT K F a xs ∧ Reps K F al l xs
  | .lst l, v => ∃ a xs, v = .ref a ∧ F a = some (.lst xs) ∧ Reps K F al l xs
  | .frz l, v => ∃ a xs, v = .ref a ∧ SqL K F a xs ∧ Reps K F al l xs
  | .dct ks vs, v => ∃ a kvs, v = .ref a ∧ F a = some (.dK kvs) ∧ kvs.map (·.1) = ks ∧ Reps K F al vs (kvs.map (·.2))
  | .obj n, v => ∃ a, al[n]? = some a ∧ v = .ref a
  | .glo x, v => v = .ref (He.ga K x)
  | .ty n, v => v = .ty n
def Reps (K : PySem.W.Frag) (F : Hp) (al : List Addr) : List D → List V → Prop
  | [], vs => vs = []
  | d :: ds, vs => ∃ v r, vs = v :: r ∧ Rep K F al d v ∧ Reps K F al ds r
end

/-- whose a mutable object is -/
inductive Ow where
  | sl (i : Nat) | ob (n : Nat) | fl (n : Nat) (f : Str)
  deriving DecidableEq
/-- the ghost: what is frozen, what is another's, the objects' places, the owners -/
structure Gh where
  F : Hp
  B : Hp
  al : List Addr
  ow : Addr → Option Ow
  ad : Nat → Str → Nat → Option Addr := fun _ _ _ => none
structure Ext (g g' : Gh) : Prop where
  f : ∀ a o, g.F a = some o → g'.F a = some o
  n : ∀ a o, g'.F a = some o → g.F a = some o ∨ g.B a = none
  b : g'.B = g.B
  al : ∀ (n : Nat) (a : Addr), g.al[n]? = some a → g'.al[n]? = some a
  ad : ∀ (n : Nat) (f : Str) (k : Nat) (a : Addr), g.ad n f k = some a → g'.ad n f k = some a
theorem Ext.refl (g : Gh) : Ext g g := ⟨fun _ _ h => h, fun _ _ h => .inl h, rfl, fun _ _ h => h, fun _ _ _ _ h => h⟩
theorem Ext.trans {a b c : Gh} (p : Ext a b) (q : Ext b c) : Ext a c :=
  ⟨fun x o h => q.f x o (p.f x o h), fun x o h => (q.n x o h).elim (fun z => p.n x o z) fun z => .inr (by rw [← p.b]; exact z), q.b.trans p.b, fun n x h => q.al n x (p.al n x h), fun n f k x h => q.ad n f k x (p.ad n f k x h)⟩

theorem Same.seqT {K : PySem.W.Frag} {H H' : Hp} {a : Addr} {xs : List V} (e : ∀ b o, H b = some o → H' b = some o) (h : SqT K H a xs) : SqT K H' a xs := by
  rcases h with (h | ⟨o, h⟩) | h
  · exact .inl (.inl (e _ _ h))
  · exact .inl (.inr ⟨o, e _ _ h⟩)
  · exact .inr h
section
variable {K : PySem.W.Frag} {F F' : Hp} {al al' : List Addr}
mutual
theorem Rep.mono (hF : ∀ b o, F b = some o → F' b = some o) (hA : ∀ (n : Nat) (a : Addr), al[n]? = some a → al'[n]? = some a) : ∀ (d : D) (v : V), Rep K F al d v → Rep K F' al' d v
  | .non, v, h => by simpa only [Rep] using h
  | .bl b, v, h => by simpa only [Rep] using h
  | .int i, v, h => by simpa only [Rep] using h
  | .str x, v, h => by simpa only [Rep] using h
  | .tup l, v, h => by
    simp only [Rep] at h ⊢
    obtain ⟨a, xs, e, s, r⟩ := h
    exact ⟨a, xs, e, Same.seqT hF s, Reps.mono hF hA l xs r⟩
  | .lst l, v, h => by
    simp only [Rep] at h ⊢
    obtain ⟨a, xs, e, s, r⟩ := h
    exact ⟨a, xs, e, hF _ _ s, Reps.mono hF hA l xs r⟩
  | .frz l, v, h => by
    simp only [Rep] at h ⊢
    obtain ⟨a, xs, e, s, r⟩ := h
    exact ⟨a, xs, e, Same.seq hF s, Reps.mono hF hA l xs r⟩
  | .dct ks vs, v, h => by
    simp only [Rep] at h ⊢
    obtain ⟨a, kvs, e, s, z, r⟩ := h
    exact ⟨a, kvs, e, hF _ _ s, z, Reps.mono hF hA vs _ r⟩
  | .obj n, v, h => by
    simp only [Rep] at h ⊢
    obtain ⟨a, e, z⟩ := h
    exact ⟨a, hA _ _ e, z⟩
  | .glo x, v, h => by simpa only [Rep] using h
  | .ty n, v, h => by simpa only [Rep] using h
theorem Reps.mono (hF : ∀ b o, F b = some o → F' b = some o) (hA : ∀ (n : Nat) (a : Addr), al[n]? = some a → al'[n]? = some a) : ∀ (ds : List D) (vs : List V), Reps K F al ds vs → Reps K F' al' ds vs
  | [], vs, h => by simpa only [Reps] using h
  | d :: ds, vs, h => by
    simp only [Reps] at h ⊢
    obtain ⟨v, r, e, h1, h2⟩ := h
    exact ⟨v, r, e, Rep.mono hF hA d v h1, Reps.mono hF hA ds r h2⟩
end
theorem Reps.length : ∀ {ds : List D} {vs : List V}, Reps K F al ds vs → vs.length = ds.length
  | [], vs, h => by simp only [Reps] at h; rw [h]; rfl
  | d :: ds, vs, h => by
    simp only [Reps] at h
    obtain ⟨v, r, e, h1, h2⟩ := h
    rw [e, List.length_cons, List.length_cons, Reps.length h2]
theorem Reps.get : ∀ {ds : List D} {vs : List V} {i : Nat} {d : D}, Reps K F al ds vs → ds[i]? = some d → ∃ v, vs[i]? = some v ∧ Rep K F al d v
  | [], vs, i, d, h, e => by simp at e
  | x :: ds, vs, 0, d, h, e => by
    simp only [Reps] at h
    obtain ⟨v, r, rfl, h1, h2⟩ := h
    simp at e
    subst e
    exact ⟨v, rfl, h1⟩
  | x :: ds, vs, i + 1, d, h, e => by
    simp only [Reps] at h
    obtain ⟨v, r, rfl, h1, h2⟩ := h
    obtain ⟨u, a, b⟩ := Reps.get (i := i) h2 (by simpa using e)
    exact ⟨u, by simpa using a, b⟩
theorem Reps.getV : ∀ {ds : List D} {vs : List V} {i : Nat} {v : V}, Reps K F al ds vs → vs[i]? = some v → ∃ d, ds[i]? = some d ∧ Rep K F al d v := fun {ds vs i v} h e => by
  have hl := h.length
  have h1 : i < vs.length := (List.getElem?_eq_some_iff.mp e).1
  obtain ⟨u, a, b⟩ := h.get (i := i) (d := ds[i]'(by omega)) (by simp)
  rw [e] at a
  cases a
  exact ⟨_, by simp, b⟩
theorem Reps.append : ∀ {ds es : List D} {vs ws : List V}, Reps K F al ds vs → Reps K F al es ws → Reps K F al (ds ++ es) (vs ++ ws)
  | [], es, vs, ws, h, k => by simp only [Reps] at h; rw [h]; exact k
  | d :: ds, es, vs, ws, h, k => by
    simp only [Reps] at h
    obtain ⟨v, r, rfl, h1, h2⟩ := h
    have := Reps.append h2 k
    simp only [List.cons_append, Reps]
    exact ⟨v, _, rfl, h1, this⟩
theorem Reps.nil : Reps K F al [] [] := by simp only [Reps]
theorem Reps.cons {d : D} {v : V} {ds : List D} {vs : List V} (h : Rep K F al d v) (k : Reps K F al ds vs) : Reps K F al (d :: ds) (v :: vs) := by
  simp only [Reps]; exact ⟨v, vs, rfl, h, k⟩
theorem Reps.one {d : D} {v : V} (h : Rep K F al d v) : Reps K F al [d] [v] := Reps.cons h Reps.nil
theorem Reps.drop : ∀ {ds : List D} {vs : List V} (n : Nat), Reps K F al ds vs → Reps K F al (ds.drop n) (vs.drop n)
  | ds, vs, 0, h => h
  | [], vs, n + 1, h => by simp only [Reps] at h; rw [h]; exact Reps.nil
  | d :: ds, vs, n + 1, h => by
    simp only [Reps] at h
    obtain ⟨v, r, rfl, h1, h2⟩ := h
    exact Reps.drop n h2
theorem Reps.take : ∀ {ds : List D} {vs : List V} (n : Nat), Reps K F al ds vs → Reps K F al (ds.take n) (vs.take n)
  | ds, vs, 0, h => by simp only [List.take_zero]; exact Reps.nil
  | [], vs, n + 1, h => by simp only [Reps] at h; rw [h]; exact Reps.nil
  | d :: ds, vs, n + 1, h => by
    simp only [Reps] at h
    obtain ⟨v, r, rfl, h1, h2⟩ := h
    exact Reps.cons h1 (Reps.take n h2)
theorem Reps.set : ∀ {ds : List D} {vs : List V} {d : D} {v : V} (i : Nat), Reps K F al ds vs → Rep K F al d v → Reps K F al (ds.set i d) (vs.set i v)
  | [], vs, d, v, i, h, k => by simp only [Reps] at h; rw [h]; exact Reps.nil
  | x :: ds, vs, d, v, 0, h, k => by
    simp only [Reps] at h
    obtain ⟨y, r, rfl, h1, h2⟩ := h
    exact Reps.cons k h2
  | x :: ds, vs, d, v, i + 1, h, k => by
    simp only [Reps] at h
    obtain ⟨y, r, rfl, h1, h2⟩ := h
    exact Reps.cons h1 (Reps.set i h2 k)
theorem Reps.nil_iff {ds : List D} {vs : List V} (h : Reps K F al ds vs) : vs = [] ↔ ds = [] := by
  have := h.length
  constructor
  · intro e; rw [e] at this; exact List.length_eq_zero_iff.mp this.symm
  · intro e; rw [e] at this; exact List.length_eq_zero_iff.mp this
theorem Reps.none_of {ds : List D} {vs : List V} {i : Nat} (h : Reps K F al ds vs) (e : ds[i]? = none) : vs[i]? = none := by
  have := h.length
  have := List.getElem?_eq_none_iff.mp e
  exact List.getElem?_eq_none_iff.mpr (by omega)
end

inductive SD where
  | un | val (d : D) | own (l : List D) | ownd (kvs : List (Key × D))
/-- a field: data, or a list or dict of the object's own with the count of how often it was given anew -/
inductive FD where
  | val (d : D) | own (k : Nat) (l : List D) | ownd (k : Nat) (kvs : List (Key × D))
inductive OD where
  | dead | ins (cls : Str) (fs : List (Str × FD))
structure En where
  sl : List SD
  ob : List OD
def SlotOk (K : PySem.W.Frag) (g : Gh) (H : Hp) (w : Ow) : SD → Option V → Prop
  | .un, _ => True
  | .val d, v => ∃ x, v = some x ∧ Rep K g.F g.al d x
  | .own l, v => ∃ a xs, v = some (.ref a) ∧ H a = some (.lst xs) ∧ g.ow a = some w ∧ Reps K g.F g.al l xs
  | .ownd ks, v => ∃ a kvs, v = some (.ref a) ∧ H a = some (.dK kvs) ∧ g.ow a = some w ∧ kvs.map (·.1) = ks.map (·.1) ∧ Reps K g.F g.al (ks.map (·.2)) (kvs.map (·.2))
def FldOk (K : PySem.W.Frag) (g : Gh) (H : Hp) (n : Nat) (f : Str) : FD → V → Prop
  | .val d, v => Rep K g.F g.al d v
  | .own k l, v => ∃ a xs, v = .ref a ∧ H a = some (.lst xs) ∧ g.ow a = some (.fl n f) ∧ g.ad n f k = some a ∧ Reps K g.F g.al l xs
  | .ownd k ks, v => ∃ a kvs, v = .ref a ∧ H a = some (.dK kvs) ∧ g.ow a = some (.fl n f) ∧ g.ad n f k = some a ∧ kvs.map (·.1) = ks.map (·.1) ∧ Reps K g.F g.al (ks.map (·.2)) (kvs.map (·.2))
def FldsOk (K : PySem.W.Frag) (g : Gh) (H : Hp) (n : Nat) : List (Str × FD) → List (Str × V) → Prop
  | [], vs => vs = []
  | (f, s) :: r, vs => f ∉ r.map (·.1) ∧ ∃ v vr, vs = (f, v) :: vr ∧ FldOk K g H n f s v ∧ FldsOk K g H n r vr
def lkF (f : Str) : List (Str × FD) → Option FD
  | [] => none
  | (g, x) :: r => if g = f then some x else lkF f r
/-- how far a field's count has gone -/
def adIn (fs : List (Str × FD)) (f : Str) (k : Nat) : Prop := match lkF f fs with
  | some (.own j _) => k ≤ j
  | some (.ownd j _) => k ≤ j
  | some (.val _) => True
  | none => False
def adOk (ob : List OD) (n : Nat) (f : Str) (k : Nat) : Prop := match ob[n]? with
  | some .dead => True
  | some (.ins _ fs) => adIn fs f k
  | none => False
structure EnOk (K : PySem.W.Frag) (g : Gh) (H : Hp) (σ : L2.St) (ρ : En) : Prop where
  fs : ∀ a o, g.F a = some o → H a = some o
  fo : ∀ a o, g.F a = some o → g.ow a = none
  bs : ∀ a o, g.B a = some o → H a = some o
  bo : ∀ a o, g.B a = some o → g.ow a = none
  oh : ∀ a w, g.ow a = some w → ∃ o, H a = some o
  len : σ.length = ρ.sl.length
  sl : ∀ (i : Nat) (s : SD), ρ.sl[i]? = some s → SlotOk K g H (.sl i) s (σ[i]?.join)
  all : g.al.length = ρ.ob.length
  ob : ∀ (n : Nat) (c : Str) (fs : List (Str × FD)), ρ.ob[n]? = some (.ins c fs) → ∃ a dx fvs, g.al[n]? = some a ∧ H a = some (.ins (He.ga K c) dx fvs) ∧ g.ow a = some (.ob n) ∧ FldsOk K g H n fs fvs
  fr : ∀ (n : Nat) (f : Str) (k : Nat) (a : Addr), g.ad n f k = some a → adOk ρ.ob n f k
/-- an exception's data: its class's name, its fields -/
structure Ex where
  cls : Str
  fs : List (Str × D)
def ExOk (K : PySem.W.Frag) (g : Gh) (e : Ex) (cv : Value) (dd : Option Addr) : Prop :=
  cv = .ref (He.ga K e.cls) ∧ ((e.fs = [] ∧ dd = none) ∨ ∃ a xs, dd = some a ∧ g.F a = some (.xd ((e.fs.map (·.1)).zip xs)) ∧ Reps K g.F g.al (e.fs.map (·.2)) xs)

inductive Res (α : Type) where
  | ok (a : α) (ρ : En) | exc (e : Ex) (ρ : En) | bad
abbrev M (α : Type) := En → Res α
def Res.bind {α β : Type} (r : Res α) (f : α → En → Res β) : Res β := match r with
  | .ok a ρ => f a ρ
  | .exc e ρ => .exc e ρ
  | .bad => .bad
def Res.W {α : Type} (r : Res α) (P : α → En → Prop) (E : Ex → En → Prop) : Prop := match r with
  | .ok a ρ => P a ρ
  | .exc e ρ => E e ρ
  | .bad => False
section
variable {α β γ : Type}
@[simp] theorem Res.bind_ok (a : α) (ρ : En) (f : α → En → Res β) : (Res.ok a ρ).bind f = f a ρ := rfl
@[simp] theorem Res.bind_exc (e : Ex) (ρ : En) (f : α → En → Res β) : (Res.exc e ρ : Res α).bind f = .exc e ρ := rfl
@[simp] theorem Res.bind_bad (f : α → En → Res β) : (Res.bad : Res α).bind f = .bad := rfl
theorem Res.W_bind {r : Res α} {f : α → En → Res β} {P : β → En → Prop} {E : Ex → En → Prop} (h : (r.bind f).W P E) : r.W (fun a ρ => (f a ρ).W P E) E := by
  cases r <;> exact h
theorem Res.W_imp {r : Res α} {P P' : α → En → Prop} {E E' : Ex → En → Prop} (h : r.W P E) (hp : ∀ a ρ, P a ρ → P' a ρ) (he : ∀ e ρ, E e ρ → E' e ρ) : r.W P' E' := by
  cases r with
  | ok a ρ => exact hp _ _ h
  | exc e ρ => exact he _ _ h
  | bad => exact h
theorem Res.W_of_ok {r : Res α} {a : α} {ρ : En} {P : α → En → Prop} {E : Ex → En → Prop} (e : r = .ok a ρ) (h : P a ρ) : r.W P E := by rw [e]; exact h
end
@[simp] def retM {α : Type} (a : α) : M α := fun ρ => .ok a ρ
@[simp] def badM {α : Type} : M α := fun _ => .bad
def bindM {α β : Type} (m : M α) (f : α → M β) : M β := fun ρ => (m ρ).bind fun a ρ' => f a ρ'

inductive RV where
  | v (d : D) | o (l : List D) | od (kvs : List (Key × D))
def RVOk (K : PySem.W.Frag) (g : Gh) (H : Hp) : RV → V → Prop
  | .v d, x => Rep K g.F g.al d x
  | .o l, x => ∃ a xs, x = .ref a ∧ H a = some (.lst xs) ∧ g.F a = none ∧ g.B a = none ∧ g.ow a = none ∧ Reps K g.F g.al l xs
  | .od ks, x => ∃ a kvs, x = .ref a ∧ H a = some (.dK kvs) ∧ g.F a = none ∧ g.B a = none ∧ g.ow a = none ∧ kvs.map (·.1) = ks.map (·.1) ∧ Reps K g.F g.al (ks.map (·.2)) (kvs.map (·.2))
inductive Fl where
  | nx | bk | ct | rt (r : RV)

def xW (K : PySem.W.Frag) (Wx : WX) (g : Gh) (σ : L2.St) : Ex → En → Prop := fun e ρ' => ∀ g' H' cv dd, Ext g g' → EnOk K g' H' σ ρ' → ExOk K g' e cv dd → Wx cv dd σ H'
def tD (K : PySem.W.Frag) (Wx : WX) (m : M D) : TE := fun σ H Q => ∃ g ρ, EnOk K g H σ ρ ∧ (m ρ).W (fun d ρ' => ∀ g' H' v, Ext g g' → EnOk K g' H' σ ρ' → Rep K g'.F g'.al d v → Q v H') (xW K Wx g σ)
def tR (K : PySem.W.Frag) (Wx : WX) (m : M RV) : TE := fun σ H Q => ∃ g ρ, EnOk K g H σ ρ ∧ (m ρ).W (fun r ρ' => ∀ g' H' v, Ext g g' → EnOk K g' H' σ ρ' → RVOk K g' H' r v → Q v H') (xW K Wx g σ)
def tT (K : PySem.W.Frag) (Wx : WX) (m : M Bool) : TT := fun σ H Q => ∃ g ρ, EnOk K g H σ ρ ∧ (m ρ).W (fun b ρ' => ∀ g' H', Ext g g' → EnOk K g' H' σ ρ' → Q b H') (xW K Wx g σ)
def tA (K : PySem.W.Frag) (Wx : WX) (m : M (List D)) : TA := fun σ H Q => ∃ g ρ, EnOk K g H σ ρ ∧ (m ρ).W (fun ds ρ' => ∀ g' H' vs, Ext g g' → EnOk K g' H' σ ρ' → Reps K g'.F g'.al ds vs → Q vs H') (xW K Wx g σ)
def xS (K : PySem.W.Frag) (Wx : WX) (g : Gh) : Ex → En → Prop := fun e ρ' => ∀ g' H' σ' cv dd, Ext g g' → EnOk K g' H' σ' ρ' → ExOk K g' e cv dd → Wx cv dd σ' H'
def flP (K : PySem.W.Frag) (E : Ends) (g : Gh) : Fl → En → Prop := fun fl ρ' => ∀ g' H' σ', Ext g g' → EnOk K g' H' σ' ρ' → match fl with
  | .nx => E.nx σ' H'
  | .bk => E.bk σ' H'
  | .ct => E.ct σ' H'
  | .rt r => ∀ v, RVOk K g' H' r v → E.rt v H'
def tS (K : PySem.W.Frag) (Wx : WX) (m : M Fl) : TS := fun E σ H => ∃ g ρ, EnOk K g H σ ρ ∧ (m ρ).W (flP K E g) (xS K Wx g)
abbrev DE (X : Cx) (Wx : WX) (m : M D) (e : Expr) : Prop := PE X e (tD X.K Wx m)
abbrev DR (X : Cx) (Wx : WX) (m : M RV) (e : Expr) : Prop := PE X e (tR X.K Wx m)
abbrev DT (X : Cx) (Wx : WX) (m : M Bool) (e : Expr) : Prop := PT X e (tT X.K Wx m)
abbrev DW (X : Cx) (Wx : WX) (m : M Bool) (e : Expr) : Prop := PW X e (tT X.K Wx m)
abbrev DA (X : Cx) (Wx : WX) (m : M (List D)) (es : List Expr) : Prop := PA X es (tA X.K Wx m)
abbrev DS (X : Cx) (Wx : WX) (m : M Fl) (st : Stmt) : Prop := PS X st (tS X.K Wx m)
abbrev DSs (X : Cx) (Wx : WX) (m : M Fl) (sts : List Stmt) : Prop := PSs X sts (tS X.K Wx m)

section
variable {X : Cx} {e : Expr}
theorem pe_imp {t t' : TE} (h : PE X e t) (w : ∀ σ H Q, t' σ H Q → t σ H Q) : PE X e t' := ⟨fun pins s σ H Q I z => h.run pins s σ H Q I (w _ _ _ z)⟩
theorem pt_imp {t t' : TT} (h : PT X e t) (w : ∀ σ H Q, t' σ H Q → t σ H Q) : PT X e t' := ⟨fun pins s σ H Q I z => h.run pins s σ H Q I (w _ _ _ z)⟩
theorem pw_imp {t t' : TT} (h : PW X e t) (w : ∀ σ H Q, t' σ H Q → t σ H Q) : PW X e t' := ⟨fun wh pins s σ H Q I z => h.run wh pins s σ H Q I (w _ _ _ z)⟩
theorem pa_imp {es : List Expr} {t t' : TA} (h : PA X es t) (w : ∀ σ H Q, t' σ H Q → t σ H Q) : PA X es t' := ⟨fun pos pins s σ H Q I z => h.run pos pins s σ H Q I (w _ _ _ z)⟩
theorem ps_imp {st : Stmt} {t t' : TS} (h : PS X st t) (w : ∀ E σ H, t' E σ H → t E σ H) : PS X st t' := ⟨fun pins s σ H E I z => h.run pins s σ H E I (w _ _ _ z)⟩
theorem pss_imp {st : List Stmt} {t t' : TS} (h : PSs X st t) (w : ∀ E σ H, t' E σ H → t E σ H) : PSs X st t' := ⟨fun pins s σ H E I z => h.run pins s σ H E I (w _ _ _ z)⟩
end
theorem xW.mono {K : PySem.W.Frag} {Wx : WX} {g g1 : Gh} {σ : L2.St} {e : Ex} {ρ : En} (x : Ext g g1) (h : xW K Wx g σ e ρ) : xW K Wx g1 σ e ρ := fun g' H' cv dd y => h g' H' cv dd (x.trans y)
theorem xS.mono {K : PySem.W.Frag} {Wx : WX} {g g1 : Gh} {e : Ex} {ρ : En} (x : Ext g g1) (h : xS K Wx g e ρ) : xS K Wx g1 e ρ := fun g' H' σ' cv dd y => h g' H' σ' cv dd (x.trans y)
theorem xS.toW {K : PySem.W.Frag} {Wx : WX} {g : Gh} {σ : L2.St} {e : Ex} {ρ : En} (h : xS K Wx g e ρ) : xW K Wx g σ e ρ := fun g' H' cv dd y => h g' H' σ cv dd y
theorem flP.mono {K : PySem.W.Frag} {E : Ends} {g g1 : Gh} {fl : Fl} {ρ : En} (x : Ext g g1) (h : flP K E g fl ρ) : flP K E g1 fl ρ := fun g' H' σ' y => h g' H' σ' (x.trans y)

theorem SlotOk.mono {K : PySem.W.Frag} {g g' : Gh} {H H' : Hp} {w : Ow} {s : SD} {v : Option V} (hF : ∀ b o, g.F b = some o → g'.F b = some o) (hA : ∀ (n : Nat) (a : Addr), g.al[n]? = some a → g'.al[n]? = some a)
    (hO : ∀ a o, g.ow a = some w → H a = some o → g'.ow a = some w ∧ H' a = some o) (h : SlotOk K g H w s v) : SlotOk K g' H' w s v := by
  cases s with
  | un => trivial
  | val d =>
    obtain ⟨x, e, r⟩ := h
    exact ⟨x, e, Rep.mono hF hA _ _ r⟩
  | own l =>
    obtain ⟨a, xs, e, h1, h2, r⟩ := h
    obtain ⟨k1, k2⟩ := hO a _ h2 h1
    exact ⟨a, xs, e, k2, k1, Reps.mono hF hA _ _ r⟩
  | ownd ks =>
    obtain ⟨a, kvs, e, h1, h2, z, r⟩ := h
    obtain ⟨k1, k2⟩ := hO a _ h2 h1
    exact ⟨a, kvs, e, k2, k1, z, Reps.mono hF hA _ _ r⟩
theorem FldOk.mono {K : PySem.W.Frag} {g g' : Gh} {H H' : Hp} {n : Nat} {f : Str} {s : FD} {v : V} (hF : ∀ b o, g.F b = some o → g'.F b = some o) (hA : ∀ (n : Nat) (a : Addr), g.al[n]? = some a → g'.al[n]? = some a)
    (hO : ∀ a o, g.ow a = some (.fl n f) → H a = some o → g'.ow a = some (.fl n f) ∧ H' a = some o) (hD : ∀ k a, g.ad n f k = some a → g'.ad n f k = some a) (h : FldOk K g H n f s v) : FldOk K g' H' n f s v := by
  cases s with
  | val d => exact Rep.mono hF hA _ _ h
  | own k l =>
    obtain ⟨a, xs, e, h1, h2, h3, r⟩ := h
    obtain ⟨k1, k2⟩ := hO a _ h2 h1
    exact ⟨a, xs, e, k2, k1, hD _ _ h3, Reps.mono hF hA _ _ r⟩
  | ownd k ks =>
    obtain ⟨a, kvs, e, h1, h2, h3, z, r⟩ := h
    obtain ⟨k1, k2⟩ := hO a _ h2 h1
    exact ⟨a, kvs, e, k2, k1, hD _ _ h3, z, Reps.mono hF hA _ _ r⟩
theorem FldsOk.mono {K : PySem.W.Frag} {g g' : Gh} {H H' : Hp} {n : Nat} (hF : ∀ b o, g.F b = some o → g'.F b = some o) (hA : ∀ (n : Nat) (a : Addr), g.al[n]? = some a → g'.al[n]? = some a) (hD : ∀ f k a, g.ad n f k = some a → g'.ad n f k = some a) : ∀ {fs : List (Str × FD)} {vs : List (Str × V)},
    (∀ f a o, g.ow a = some (.fl n f) → H a = some o → g'.ow a = some (.fl n f) ∧ H' a = some o) → FldsOk K g H n fs vs → FldsOk K g' H' n fs vs
  | [], vs, hO, h => h
  | (f, s) :: r, vs, hO, h => by
    obtain ⟨h0, v, vr, e, h1, h2⟩ := h
    exact ⟨h0, v, vr, e, h1.mono hF hA (hO f) (hD f), FldsOk.mono hF hA hD hO h2⟩
/-- the ghost and the heap change, all that is owned stays -/
theorem EnOk.move {K : PySem.W.Frag} {g g' : Gh} {H H' : Hp} {σ : L2.St} {ρ : En} (h : EnOk K g H σ ρ) (hF : ∀ b o, g.F b = some o → g'.F b = some o) (hA : g'.al = g.al)
    (hO : ∀ a w o, g.ow a = some w → H a = some o → g'.ow a = some w ∧ H' a = some o)
    (fs : ∀ a o, g'.F a = some o → H' a = some o) (fo : ∀ a o, g'.F a = some o → g'.ow a = none) (bs : ∀ a o, g'.B a = some o → H' a = some o) (bo : ∀ a o, g'.B a = some o → g'.ow a = none)
    (oh : ∀ a w, g'.ow a = some w → ∃ o, H' a = some o) (hD : g'.ad = g.ad := by rfl) : EnOk K g' H' σ ρ := by
  have hA' : ∀ (n : Nat) (a : Addr), g.al[n]? = some a → g'.al[n]? = some a := fun n a z => by rw [hA]; exact z
  refine ⟨fs, fo, bs, bo, oh, h.len, fun i s e => (h.sl i s e).mono hF hA' fun a o => hO a _ o, by rw [hA]; exact h.all, fun n c fs e => ?_, by rw [hD]; exact h.fr⟩
  obtain ⟨a, dx, fvs, e1, e2, e3, e4⟩ := h.ob n c fs e
  obtain ⟨k1, k2⟩ := hO a _ _ e3 e2
  exact ⟨a, dx, fvs, hA' _ _ e1, k2, k1, e4.mono hF hA' (fun f k a z => by rw [hD]; exact z) fun f a o => hO a _ o⟩
section
variable {K : PySem.W.Frag} {g : Gh} {H : Hp} {σ : L2.St} {ρ : En} {p : Addr} {o : HO}
theorem EnOk.Fn (h : EnOk K g H σ ρ) (n : H p = none) : g.F p = none := by
  cases e : g.F p with
  | none => rfl
  | some z => rw [h.fs _ _ e] at n; cases n
theorem EnOk.Bn (h : EnOk K g H σ ρ) (n : H p = none) : g.B p = none := by
  cases e : g.B p with
  | none => rfl
  | some z => rw [h.bs _ _ e] at n; cases n
theorem EnOk.On (h : EnOk K g H σ ρ) (n : H p = none) : g.ow p = none := by
  cases e : g.ow p with
  | none => rfl
  | some z =>
    obtain ⟨o, e2⟩ := h.oh _ _ e
    rw [e2] at n; cases n
/-- a new object is laid, nobody's yet -/
theorem EnOk.laid (h : EnOk K g H σ ρ) (n : H p = none) : EnOk K g (upd H p o) σ ρ := by
  have k : ∀ a u, H a = some u → upd H p o a = some u := fun a u e => by rw [upd_ne (ne_of_none e n)]; exact e
  exact h.move (fun _ _ z => z) rfl (fun a w u z e => ⟨z, k _ _ e⟩) (fun a u z => k _ _ (h.fs _ _ z)) h.fo (fun a u z => k _ _ (h.bs _ _ z)) h.bo fun a w z => by
    obtain ⟨u, e⟩ := h.oh _ _ z
    exact ⟨u, k _ _ e⟩
/-- an object of nobody's is frozen -/
def Gh.frz (g : Gh) (p : Addr) (o : HO) : Gh := { g with F := upd g.F p o }
theorem Gh.frz_ext (n : g.F p = none) (b : g.B p = none) : Ext g (g.frz p o) :=
  ⟨fun a u e => by show upd g.F p o a = some u; rw [upd_ne (ne_of_none e n)]; exact e, fun a u e => by
    by_cases c : a = p
    · subst c; exact .inr b
    · have e' : upd g.F p o a = some u := e
      rw [upd_ne c] at e'; exact .inl e', rfl, fun _ _ z => z, fun _ _ _ _ z => z⟩
theorem EnOk.freeze (h : EnOk K g H σ ρ) (e : H p = some o) (n : g.F p = none) (w : g.ow p = none) : EnOk K (g.frz p o) H σ ρ := by
  refine h.move (fun a u e => ?_) rfl (fun a w u z e => ⟨z, e⟩) (fun a u z => ?_) (fun a u z => ?_) h.bs h.bo h.oh
  · show upd g.F p o a = some u
    rw [upd_ne (ne_of_none e n)]; exact e
  · by_cases c : a = p
    · subst c
      have z' : upd g.F a o a = some u := z
      rw [upd_same] at z'; cases z'; exact e
    · have z' : upd g.F p o a = some u := z
      rw [upd_ne c] at z'; exact h.fs _ _ z'
  · by_cases c : a = p
    · subst c; exact w
    · have z' : upd g.F p o a = some u := z
      rw [upd_ne c] at z'; exact h.fo _ _ z'
/-- a new object, frozen at once -/
theorem EnOk.new (h : EnOk K g H σ ρ) (n : H p = none) : EnOk K (g.frz p o) (upd H p o) σ ρ ∧ Ext g (g.frz p o) ∧ (g.frz p o).F p = some o :=
  ⟨(h.laid n).freeze upd_same (h.Fn n) (h.On n), Gh.frz_ext (h.Fn n) (h.Bn n), upd_same⟩
end
end LW
set_option maxHeartbeats 200000
namespace LW
open PySem PySem.Spec PyProof.Rows L2

/-- what an operation on two values asks -/
def OpD (K : PySem.W.Frag) (r : R2) (h : D → D → M D) : Prop := ∀ (g : Gh) (H : Hp) (σ : L2.St) (ρ : En) (x y : V) (dx dy : D) (Q : VK) (Wx : WX), EnOk K g H σ ρ → Rep K g.F g.al dx x → Rep K g.F g.al dy y →
  (h dx dy ρ).W (fun d ρ' => ∀ g' H' v, Ext g g' → EnOk K g' H' σ ρ' → Rep K g'.F g'.al d v → Q v H') (xW K Wx g σ) → r x y H Q
@[simp] def purO (h : D → D → Option D) : D → D → M D := fun x y ρ => match h x y with
  | some d => .ok d ρ
  | none => .bad
@[simp] def bin2 (h : D → D → M D) (a b : M D) : M D := fun ρ => (a ρ).bind fun x ρ1 => (b ρ1).bind fun y ρ2 => h x y ρ2
@[simp] def un1 (h : D → M D) (a : M D) : M D := fun ρ => (a ρ).bind fun x ρ1 => h x ρ1
/-- an operation that changes nothing -/
theorem OpD.pure {K : PySem.W.Frag} {r : R2} {h : D → D → Option D} (hh : ∀ (g : Gh) (H : Hp) (x y : V) (dx dy d : D) (Q : VK), (∀ a o, g.F a = some o → H a = some o) → Rep K g.F g.al dx x → Rep K g.F g.al dy y → h dx dy = some d →
    (∀ v, Rep K g.F g.al d v → Q v H) → r x y H Q) : OpD K r (purO h) := by
  intro g H σ ρ x y dx dy Q Wx ok rx ry w
  unfold purO at w
  cases e : h dx dy with
  | none => rw [e] at w; exact w.elim
  | some d =>
    rw [e] at w
    exact hh g H x y dx dy d Q ok.fs rx ry e fun v rv => w g H v (Ext.refl g) ok rv
theorem OpD.or {K : PySem.W.Frag} {r r' : R2} {h h' : D → D → Option D} (a : OpD K r (purO h)) (b : OpD K r' (purO h')) (hh : D → D → Option D) (e : ∀ x y d, hh x y = some d → h x y = some d ∨ h' x y = some d) :
    OpD K (fun x y H Q => r x y H Q ∨ r' x y H Q) (purO hh) := by
  intro g H σ ρ x y dx dy Q Wx ok rx ry w
  unfold purO at w
  cases q : hh dx dy with
  | none => rw [q] at w; exact w.elim
  | some d =>
    rw [q] at w
    rcases e _ _ _ q with z | z
    · exact .inl (a g H σ ρ x y dx dy Q Wx ok rx ry (by unfold purO; rw [z]; exact w))
    · exact .inr (b g H σ ρ x y dx dy Q Wx ok rx ry (by unfold purO; rw [z]; exact w))
theorem OpD.imp {K : PySem.W.Frag} {r r' : R2} {h : D → D → M D} (a : OpD K r h) (e : ∀ x y H Q, r x y H Q → r' x y H Q) : OpD K r' h := fun g H σ ρ x y dx dy Q Wx ok rx ry w => e _ _ _ _ (a g H σ ρ x y dx dy Q Wx ok rx ry w)

section
variable {X : Cx} {Wx : WX} {a b : Expr} {ma mb : M D} {pos : Pos}
/-- two expressions, then anything -/
theorem tOp_of {r : R2} {h : D → D → M D} (hh : OpD X.K r h) : ∀ σ H Q, tD X.K Wx (bin2 h ma mb) σ H Q → tOp r (tD X.K Wx ma) (tD X.K Wx mb) σ H Q := by
  rintro σ H Q ⟨g, ρ, ok, w⟩
  refine ⟨g, ρ, ok, Res.W_imp (Res.W_bind w) (fun dx ρ1 w1 => ?_) fun _ _ z => z⟩
  intro g1 H1 x e1 ok1 rx
  refine ⟨g1, ρ1, ok1, Res.W_imp (Res.W_bind w1) (fun dy ρ2 w2 => ?_) fun _ _ z => z.mono e1⟩
  intro g2 H2 y e2 ok2 ry
  exact hh g2 H2 σ ρ2 x y dx dy Q Wx ok2 (Rep.mono e2.f e2.al _ _ rx) ry (Res.W_imp w2 (fun d ρ3 w3 g3 H3 v e3 ok3 rv => w3 g3 H3 v ((e1.trans e2).trans e3) ok3 rv) fun _ _ z => z.mono (e1.trans e2))
theorem de_op {op : Operator} {r : R2} {h : D → D → M D} (ho : OpR X (binaryOp op) r) (hh : OpD X.K r h) (ha : DE X Wx ma a) (hb : DE X Wx mb b) : DE X Wx (bin2 h ma mb) (.BinOp a op b pos) :=
  pe_imp (pe_op ho ha hb) (tOp_of hh)
theorem de_cmp {op : CmpOp} {r : R2} {h : D → D → M D} (ho : OpR X (compareOp op) r) (hh : OpD X.K r h) (ha : DE X Wx ma a) (hb : DE X Wx mb b) (hm : behindInMarks op b = false) : DE X Wx (bin2 h ma mb) (.Compare a [op] [b] pos) :=
  pe_imp (pe_cmpR ho ha hb hm) (tOp_of hh)
/-- a value that is a truth value -/
@[simp] def tstD (m : M D) : M Bool := fun ρ => (m ρ).bind fun d ρ1 => match d with
  | .bl b => .ok b ρ1
  | _ => .bad
theorem Rep.bl {K : PySem.W.Frag} {F : Hp} {al : List Addr} {b : Bool} {v : V} (h : Rep K F al (.bl b) v) : v = .bl b := by simpa only [Rep] using h
theorem Rep.int {K : PySem.W.Frag} {F : Hp} {al : List Addr} {b : Int} {v : V} (h : Rep K F al (.int b) v) : v = .int b := by simpa only [Rep] using h
theorem Rep.str {K : PySem.W.Frag} {F : Hp} {al : List Addr} {b : Str} {v : V} (h : Rep K F al (.str b) v) : v = .str b := by simpa only [Rep] using h
theorem Rep.non {K : PySem.W.Frag} {F : Hp} {al : List Addr} {v : V} (h : Rep K F al .non v) : v = .non := by simpa only [Rep] using h
theorem Rep.mkI {K : PySem.W.Frag} {F : Hp} {al : List Addr} {i : Int} : Rep K F al (.int i) (.int i) := by simp only [Rep]
theorem Rep.mkB {K : PySem.W.Frag} {F : Hp} {al : List Addr} {i : Bool} : Rep K F al (.bl i) (.bl i) := by simp only [Rep]
theorem Rep.mkS {K : PySem.W.Frag} {F : Hp} {al : List Addr} {i : Str} : Rep K F al (.str i) (.str i) := by simp only [Rep]
theorem Rep.mkN {K : PySem.W.Frag} {F : Hp} {al : List Addr} : Rep K F al .non .non := by simp only [Rep]
theorem Rep.mkT {K : PySem.W.Frag} {F : Hp} {al : List Addr} {l : List D} {a : Addr} {xs : List V} (h : SqT K F a xs) (r : Reps K F al l xs) : Rep K F al (.tup l) (.ref a) := by simp only [Rep]; exact ⟨a, xs, rfl, h, r⟩
theorem Rep.mkL {K : PySem.W.Frag} {F : Hp} {al : List Addr} {l : List D} {a : Addr} {xs : List V} (h : F a = some (.lst xs)) (r : Reps K F al l xs) : Rep K F al (.lst l) (.ref a) := by simp only [Rep]; exact ⟨a, xs, rfl, h, r⟩
theorem Rep.tup {K : PySem.W.Frag} {F : Hp} {al : List Addr} {l : List D} {v : V} (h : Rep K F al (.tup l) v) : ∃ a xs, v = .ref a ∧ SqT K F a xs ∧ Reps K F al l xs := by simpa only [Rep] using h
theorem Rep.lst {K : PySem.W.Frag} {F : Hp} {al : List Addr} {l : List D} {v : V} (h : Rep K F al (.lst l) v) : ∃ a xs, v = .ref a ∧ F a = some (.lst xs) ∧ Reps K F al l xs := by simpa only [Rep] using h
theorem Rep.frz {K : PySem.W.Frag} {F : Hp} {al : List Addr} {l : List D} {v : V} (h : Rep K F al (.frz l) v) : ∃ a xs, v = .ref a ∧ SqL K F a xs ∧ Reps K F al l xs := by simpa only [Rep] using h

theorem tTest_of {t : TE} {m : M D} (h : ∀ σ H Q, tD X.K Wx m σ H Q → t σ H Q) : ∀ σ H Q, tT X.K Wx (tstD m) σ H Q → tTest t σ H Q := by
  rintro σ H Q ⟨g, ρ, ok, w⟩
  refine h σ H _ ⟨g, ρ, ok, Res.W_imp (Res.W_bind w) (fun d ρ1 w1 => ?_) fun _ _ z => z⟩
  intro g1 H1 v e1 ok1 rv
  cases d with
  | bl b => exact ⟨b, rv.bl, w1 g1 H1 e1 ok1⟩
  | _ => exact w1.elim
theorem dt_cmp {op : CmpOp} {r : R2} {h : D → D → M D} (ho : OpR X (compareOp op) r) (hh : OpD X.K r h) (ha : DE X Wx ma a) (hb : DE X Wx mb b) (hm : behindInMarks op b = false) : DT X Wx (tstD (bin2 h ma mb)) (.Compare a [op] [b] pos) :=
  pt_imp (pt_cmpR ho ha hb hm) (tTest_of (tOp_of hh))
/-- a op1 b op2 c -/
@[simp] def chn (h h' : D → D → M D) (a b c : M D) : M D := fun ρ => (a ρ).bind fun x ρ1 => (b ρ1).bind fun y ρ2 => (h x y ρ2).bind fun z ρ3 => match z with
  | .bl true => (c ρ3).bind fun w ρ4 => h' y w ρ4
  | .bl false => .ok (.bl false) ρ3
  | _ => .bad
theorem tChain_of {r r' : R2} {h h' : D → D → M D} {mc : M D} (hh : OpD X.K r h) (hh' : OpD X.K r' h') : ∀ σ H Q, tD X.K Wx (chn h h' ma mb mc) σ H Q → tChain r r' (tD X.K Wx ma) (tD X.K Wx mb) (tD X.K Wx mc) σ H Q := by
  rintro σ H Q ⟨g, ρ, ok, w⟩
  refine ⟨g, ρ, ok, Res.W_imp (Res.W_bind w) (fun dx ρ1 w1 => ?_) fun _ _ z => z⟩
  intro g1 H1 x e1 ok1 rx
  refine ⟨g1, ρ1, ok1, Res.W_imp (Res.W_bind w1) (fun dy ρ2 w2 => ?_) fun _ _ z => z.mono e1⟩
  intro g2 H2 y e2 ok2 ry
  refine hh g2 H2 σ ρ2 x y dx dy _ Wx ok2 (Rep.mono e2.f e2.al _ _ rx) ry (Res.W_imp (Res.W_bind w2) (fun d ρ3 w3 => ?_) fun _ _ z => z.mono (e1.trans e2))
  intro g3 H3 v e3 ok3 rv
  cases d with
  | bl b =>
    refine ⟨b, rv.bl, ?_⟩
    cases b with
    | true =>
      rw [if_pos rfl]
      refine ⟨g3, ρ3, ok3, Res.W_imp (Res.W_bind w3) (fun dw ρ4 w4 => ?_) fun _ _ z => z.mono ((e1.trans e2).trans e3)⟩
      intro g4 H4 u e4 ok4 ru
      exact hh' g4 H4 σ ρ4 y u dy dw Q Wx ok4 (Rep.mono (e3.trans e4).f (e3.trans e4).al _ _ ry) ru
        (Res.W_imp w4 (fun d ρ5 w5 g5 H5 v e5 ok5 rv => w5 g5 H5 v ((((e1.trans e2).trans e3).trans e4).trans e5) ok5 rv) fun _ _ z => z.mono (((e1.trans e2).trans e3).trans e4))
    | false =>
      rw [if_neg (by decide)]
      exact w3 g3 H3 (.bl false) ((e1.trans e2).trans e3) ok3 Rep.mkB
  | _ => exact w3.elim
theorem de_chain {op op' : CmpOp} {r r' : R2} {h h' : D → D → M D} {c : Expr} {mc : M D} (ho : OpR X (compareOp op) r) (ho' : OpR X (compareOp op') r') (hh : OpD X.K r h) (hh' : OpD X.K r' h') (ha : DE X Wx ma a) (hb : DE X Wx mb b) (hc : DE X Wx mc c)
    (hm : lastMarks [op, op'] [b, c] = false) : DE X Wx (chn h h' ma mb mc) (.Compare a [op, op'] [b, c] pos) := pe_imp (pe_chain ho ho' ha hb hc hm) (tChain_of hh hh')
theorem dt_chain {op op' : CmpOp} {r r' : R2} {h h' : D → D → M D} {c : Expr} {mc : M D} (ho : OpR X (compareOp op) r) (ho' : OpR X (compareOp op') r') (hh : OpD X.K r h) (hh' : OpD X.K r' h') (ha : DE X Wx ma a) (hb : DE X Wx mb b) (hc : DE X Wx mc c)
    (hm : lastMarks [op, op'] [b, c] = false) : DT X Wx (tstD (chn h h' ma mb mc)) (.Compare a [op, op'] [b, c] pos) := pt_imp (pt_chain ho ho' ha hb hc hm) (tTest_of (tChain_of hh hh'))

@[simp] def cstD (d : D) : M D := fun ρ => .ok d ρ
theorem de_int {i : Int} {j : Nat} : DE X Wx (cstD (.int i)) (.Constant (.int i) j pos) := pe_imp pe_int fun σ H Q ⟨g, ρ, ok, w⟩ => w g H _ (Ext.refl g) ok Rep.mkI
theorem de_bl {i : Bool} {j : Nat} : DE X Wx (cstD (.bl i)) (.Constant (.bool i) j pos) := pe_imp pe_bl fun σ H Q ⟨g, ρ, ok, w⟩ => w g H _ (Ext.refl g) ok Rep.mkB
theorem de_str {i : Str} {j : Nat} : DE X Wx (cstD (.str i)) (.Constant (.str i) j pos) := pe_imp pe_str fun σ H Q ⟨g, ρ, ok, w⟩ => w g H _ (Ext.refl g) ok Rep.mkS
theorem de_non {j : Nat} : DE X Wx (cstD .non) (.Constant .none j pos) := pe_imp pe_non fun σ H Q ⟨g, ρ, ok, w⟩ => w g H _ (Ext.refl g) ok Rep.mkN
@[simp] def locD (i : Nat) : M D := fun ρ => match ρ.sl[i]? with
  | some (.val d) => .ok d ρ
  | _ => .bad
theorem tVar_of {i : Nat} : ∀ σ H Q, tD X.K Wx (locD i) σ H Q → tVar i σ H Q := by
  rintro σ H Q ⟨g, ρ, ok, w⟩
  unfold locD at w
  cases e : ρ.sl[i]? with
  | none => rw [e] at w; exact w.elim
  | some s =>
    rw [e] at w
    cases s with
    | val d =>
      obtain ⟨x, ex, r⟩ := ok.sl i _ e
      refine ⟨x, ?_, w g H x (Ext.refl g) ok r⟩
      cases q : σ[i]? with
      | none => rw [q] at ex; cases ex
      | some o => rw [q] at ex; exact congrArg some ex
    | _ => exact w.elim
theorem de_loc (i : Nat) {x : Str} (hN : X.N[i]? = some x) (hv : Vis X.env.scope x) (hd : (x == ("__debug__" : Str)) = false) (hcd : (x == ("__classdict__" : Str)) = false) : DE X Wx (locD i) (.Name x pos) :=
  pe_imp (pe_var hN hv hd hcd) tVar_of
/-- a constant of the module -/
def GloOk (K : PySem.W.Frag) (mg : Str → Option Value) (x : Str) (d : D) : Prop := ∃ u v, mg x = some u ∧ RelV v u ∧ ∀ F al, Rep K F al d v
theorem de_glo {x : Str} {d : D} (hg : Gl X x) (hm : GloOk X.K X.mg x d) (hd : (x == ("__debug__" : Str)) = false) : DE X Wx (cstD d) (.Name x pos) := by
  obtain ⟨u, v, e, r, rep⟩ := hm
  exact pe_imp (pe_glob hg e r hd) fun σ H Q ⟨g, ρ, ok, w⟩ => w g H _ (Ext.refl g) ok (rep _ _)
end

/-- the size of an int, in bits -/
def blen (i : Int) : Nat := i.natAbs.log2 + 1
def mulOk (i j : Int) : Prop := blen i + blen j ≤ 67108864
instance (i j : Int) : Decidable (mulOk i j) := inferInstanceAs (Decidable (_ ≤ _))
theorem mulOk.ok {i j : Int} (h : mulOk i j) : IntMulOk i j := by
  have b : ∀ x : Int, Builtin.Int.intBits x ≤ x.natAbs.log2 + 1 := fun x => by
    unfold Builtin.Int.intBits
    split <;> omega
  have h1 := b i
  have h2 := b j
  have h3 : i.natAbs.log2 + 1 + (j.natAbs.log2 + 1) ≤ 67108864 := h
  have e : bitsLine = 134217728 := by decide
  unfold IntMulOk
  intro z
  rw [Bool.and_eq_true] at z
  have z2 := z.2
  unfold Builtin.Int.intTooBig at z2
  have z3 := of_decide_eq_true z2
  rw [e] at z3
  omega
section
variable {X : Cx} {K : PySem.W.Frag}
theorem op_mulB : OpR X (binaryOp .Mult) (rI mulOk fun i j => .int (i * j)) := opI fun _ _ _ _ _ _ _ hc q => mul_int q hc.ok
/-- what a long division asks of the world around -/
structure PylA (P : Program) (base : Heap) (A : Around) (st : List Env) : Prop where
  seer : base.NoSeer
  tree : P.given.tree = none
  fr : ∃ env l, st = env :: l ∧ env.scope.isGenerator = false ∧ env.scope.isCoroutine = false ∧ env.builtins = builtinsNs ∧ env.globals = mainGlobals
  dp : A.depth + 100 < recursionLimit
theorem op_fdivB (hp : PylA X.prog X.base X.A X.stack) : OpR X (binaryOp .FloorDiv) (rI (fun _ j => j ≠ 0) fun i j => .int (i.fdiv j)) := by
  intro pins s σ H x y v u Q I rx ry h
  obtain ⟨i, j, rfl, rfl, hc, q⟩ := h
  obtain ⟨t, rfl⟩ := rx
  obtain ⟨t', rfl⟩ := ry
  obtain ⟨env, l, hf, h1, h2, h3, h4⟩ := hp.fr
  exact floordiv_int hc ⟨.int (i.fdiv j), H, I.tok _, ⟨_, rfl⟩, q⟩ (.inr (PySem.PylongRoom.of I.nolimit hp.dp (PySem.SeerAt.of (hp.seer.keeps I.bk) hp.tree (I.ok.frames.trans (congrArg some hf)) h1 h2 h3 h4)))
@[simp] def addI : D → D → Option D
  | .int i, .int j => some (.int (i + j))
  | _, _ => none
@[simp] def subI : D → D → Option D
  | .int i, .int j => some (.int (i - j))
  | _, _ => none
def mulI : D → D → Option D
  | .int i, .int j => if mulOk i j then some (.int (i * j)) else none
  | _, _ => none
@[simp] def modI : D → D → Option D
  | .int i, .int j => if j ≠ 0 then some (.int (i.fmod j)) else none
  | _, _ => none
@[simp] def fdivI : D → D → Option D
  | .int i, .int j => if j ≠ 0 then some (.int (i.fdiv j)) else none
  | _, _ => none
def powI : D → D → Option D
  | .int i, .int j => if 0 ≤ j ∧ j.natAbs ≤ 1000000 ∧ i.natAbs < 2 ^ 64 then some (.int (i ^ j.toNat)) else none
  | _, _ => none
theorem od_rI {C : Int → Int → Prop} [inst : ∀ i j, Decidable (C i j)] {f : Int → Int → Int} {h : D → D → Option D} (e : ∀ x y d, h x y = some d → ∃ i j, x = .int i ∧ y = .int j ∧ C i j ∧ d = .int (f i j)) : OpD K (rI C fun i j => .int (f i j)) (purO h) :=
  OpD.pure fun g H x y dx dy d Q _ rx ry q w => by
    obtain ⟨i, j, rfl, rfl, c, rfl⟩ := e _ _ _ q
    exact ⟨i, j, rx.int, ry.int, c, w _ Rep.mkI⟩
theorem od_rI0 {f : Int → Int → Int} {h : D → D → Option D} (e : ∀ x y d, h x y = some d → ∃ i j, x = .int i ∧ y = .int j ∧ d = .int (f i j)) : OpD K (rI0 fun i j => .int (f i j)) (purO h) :=
  OpD.pure fun g H x y dx dy d Q _ rx ry q w => by
    obtain ⟨i, j, rfl, rfl, rfl⟩ := e _ _ _ q
    exact ⟨i, j, rx.int, ry.int, w _ Rep.mkI⟩
theorem od_rB0 {f : Int → Int → Bool} {h : D → D → Option D} (e : ∀ x y d, h x y = some d → ∃ i j, x = .int i ∧ y = .int j ∧ d = .bl (f i j)) : OpD K (rI0 fun i j => .bl (f i j)) (purO h) :=
  OpD.pure fun g H x y dx dy d Q _ rx ry q w => by
    obtain ⟨i, j, rfl, rfl, rfl⟩ := e _ _ _ q
    exact ⟨i, j, rx.int, ry.int, w _ Rep.mkB⟩
theorem addI_inv : ∀ x y d, addI x y = some d → ∃ i j, x = .int i ∧ y = .int j ∧ d = .int (i + j) := by
  intro x y d h
  unfold addI at h
  split at h
  · cases h; exact ⟨_, _, rfl, rfl, rfl⟩
  · cases h
theorem subI_inv : ∀ x y d, subI x y = some d → ∃ i j, x = .int i ∧ y = .int j ∧ d = .int (i - j) := by
  intro x y d h
  unfold subI at h
  split at h
  · cases h; exact ⟨_, _, rfl, rfl, rfl⟩
  · cases h
theorem od_add : OpD K (rI0 fun i j => .int (i + j)) (purO addI) := od_rI0 addI_inv
theorem od_sub : OpD K (rI0 fun i j => .int (i - j)) (purO subI) := od_rI0 subI_inv
theorem od_mul : OpD K (rI mulOk fun i j => .int (i * j)) (purO mulI) := od_rI fun x y d h => by
  unfold mulI at h
  split at h
  · split at h
    · cases h; exact ⟨_, _, rfl, rfl, by assumption, rfl⟩
    · cases h
  · cases h
theorem od_mod : OpD K (rI (fun _ j => j ≠ 0) fun i j => .int (i.fmod j)) (purO modI) := od_rI fun x y d h => by
  unfold modI at h
  split at h
  · split at h
    · cases h; exact ⟨_, _, rfl, rfl, by assumption, rfl⟩
    · cases h
  · cases h
theorem od_fdiv : OpD K (rI (fun _ j => j ≠ 0) fun i j => .int (i.fdiv j)) (purO fdivI) := od_rI fun x y d h => by
  unfold fdivI at h
  split at h
  · split at h
    · cases h; exact ⟨_, _, rfl, rfl, by assumption, rfl⟩
    · cases h
  · cases h
theorem od_pow : OpD K (rI CPow fun i j => .int (i ^ j.toNat)) (purO powI) := OpD.pure fun g H x y dx dy d Q _ rx ry h w => by
  unfold powI at h
  split at h
  · split at h
    · rename_i hc; cases h; exact ⟨_, _, rx.int, ry.int, ⟨hc.1, by have := hc.2.1; omega, hc.2.2⟩, w _ Rep.mkI⟩
    · cases h
  · cases h
@[simp] def ltI : D → D → Option D
  | .int i, .int j => some (.bl (decide (i < j)))
  | _, _ => none
@[simp] def leI : D → D → Option D
  | .int i, .int j => some (.bl (decide (i ≤ j)))
  | _, _ => none
@[simp] def gtI : D → D → Option D
  | .int i, .int j => some (.bl (decide (j < i)))
  | _, _ => none
@[simp] def geI : D → D → Option D
  | .int i, .int j => some (.bl (decide (j ≤ i)))
  | _, _ => none
theorem od_lt : OpD K (rI0 fun i j => .bl (decide (i < j))) (purO ltI) := od_rB0 (f := fun i j => decide (i < j)) fun x y d h => by
  unfold ltI at h
  split at h
  · cases h; exact ⟨_, _, rfl, rfl, rfl⟩
  · cases h
theorem od_le : OpD K (rI0 fun i j => .bl (decide (i ≤ j))) (purO leI) := od_rB0 (f := fun i j => decide (i ≤ j)) fun x y d h => by
  unfold leI at h
  split at h
  · cases h; exact ⟨_, _, rfl, rfl, rfl⟩
  · cases h
theorem od_gt : OpD K (rI0 fun i j => .bl (decide (j < i))) (purO gtI) := od_rB0 (f := fun i j => decide (j < i)) fun x y d h => by
  unfold gtI at h
  split at h
  · cases h; exact ⟨_, _, rfl, rfl, rfl⟩
  · cases h
theorem od_ge : OpD K (rI0 fun i j => .bl (decide (j ≤ i))) (purO geI) := od_rB0 (f := fun i j => decide (j ≤ i)) fun x y d h => by
  unfold geI at h
  split at h
  · cases h; exact ⟨_, _, rfl, rfl, rfl⟩
  · cases h

/-- a new object, told as data -/
theorem new_tup {g : Gh} {H : Hp} {σ : L2.St} {ρ : En} {p : Addr} {ds : List D} {xs : List V} (ok : EnOk K g H σ ρ) (r : Reps K g.F g.al ds xs) (n : H p = none) : ∃ g', Ext g g' ∧ EnOk K g' (upd H p (.tup xs)) σ ρ ∧ Rep K g'.F g'.al (.tup ds) (.ref p) := by
  obtain ⟨k, e, f⟩ := ok.new (o := .tup xs) n
  exact ⟨_, e, k, Rep.mkT (SqT.of f) (Reps.mono e.f e.al _ _ r)⟩
theorem new_lst {g : Gh} {H : Hp} {σ : L2.St} {ρ : En} {p : Addr} {ds : List D} {xs : List V} (ok : EnOk K g H σ ρ) (r : Reps K g.F g.al ds xs) (n : H p = none) : ∃ g', Ext g g' ∧ EnOk K g' (upd H p (.lst xs)) σ ρ ∧ Rep K g'.F g'.al (.lst ds) (.ref p) := by
  obtain ⟨k, e, f⟩ := ok.new (o := .lst xs) n
  exact ⟨_, e, k, Rep.mkL f (Reps.mono e.f e.al _ _ r)⟩
theorem new_own {g : Gh} {H : Hp} {σ : L2.St} {ρ : En} {p : Addr} {ds : List D} {xs : List V} (ok : EnOk K g H σ ρ) (r : Reps K g.F g.al ds xs) (n : H p = none) : EnOk K g (upd H p (.lst xs)) σ ρ ∧ RVOk K g (upd H p (.lst xs)) (.o ds) (.ref p) :=
  ⟨ok.laid n, p, xs, rfl, upd_same, ok.Fn n, ok.Bn n, ok.On n, r⟩
def addT : D → D → Option D
  | .tup a, .tup b => if a.length + b.length ≤ sizeLine then some (.tup (a ++ b)) else none
  | _, _ => none
theorem od_addT : OpD K (rCatA K) (purO addT) := by
  intro g H σ ρ x y dx dy Q Wx ok rx ry w
  unfold purO addT at w
  cases dx with
  | tup a =>
    cases dy with
    | tup b =>
      dsimp only at w
      split at w
      case h_2 => exact w.elim
      rename_i d ed
      split at ed
      case isFalse => cases ed
      cases ed
      rename_i hl
      obtain ⟨p, xs, rfl, s1, r1⟩ := rx.tup
      obtain ⟨q, ys, rfl, s2, r2⟩ := ry.tup
      have l1 := r1.length
      have l2 := r2.length
      refine ⟨p, q, xs, ys, rfl, rfl, Same.seqT ok.fs s1, Same.seqT ok.fs s2, by omega, fun e => ?_, fun e1 e2 => ?_, fun e1 e2 p' n => ?_⟩
      · have ea : a = [] := r1.nil_iff.mp e
        subst ea
        exact w g H _ (Ext.refl g) ok (Rep.mkT s2 r2)
      · have eb : b = [] := r2.nil_iff.mp e2
        subst eb
        rw [List.append_nil] at w
        exact w g H _ (Ext.refl g) ok (Rep.mkT s1 r1)
      · obtain ⟨g', x', k', r'⟩ := new_tup ok (Reps.append r1 r2) n
        exact w g' _ _ x' k' r'
    | _ => exact w.elim
  | _ => exact w.elim
def addL : D → D → Option D
  | .lst a, .lst b => if a.length + b.length ≤ sizeLine then some (.lst (a ++ b)) else none
  | _, _ => none
theorem od_addL : OpD K rCat (purO addL) := by
  intro g H σ ρ x y dx dy Q Wx ok rx ry w
  unfold purO addL at w
  cases dx with
  | lst a =>
    cases dy with
    | lst b =>
      dsimp only at w
      split at w
      case h_2 => exact w.elim
      rename_i d ed
      split at ed
      case isFalse => cases ed
      cases ed
      rename_i hl
      obtain ⟨p, xs, rfl, s1, r1⟩ := rx.lst
      obtain ⟨q, ys, rfl, s2, r2⟩ := ry.lst
      have l1 := r1.length
      have l2 := r2.length
      refine ⟨p, q, xs, ys, rfl, rfl, ok.fs _ _ s1, ok.fs _ _ s2, by omega, fun p' n => ?_⟩
      obtain ⟨g', x', k', r'⟩ := new_lst ok (Reps.append r1 r2) n
      exact w g' _ _ x' k' r'
    | _ => exact w.elim
  | _ => exact w.elim
def addS : D → D → Option D
  | .str a, .str b => if a.length + b.length ≤ sizeLine then some (.str (a ++ b)) else none
  | _, _ => none
theorem od_addS : OpD K (fun x y H Q => ∃ i j, x = .str i ∧ y = .str j ∧ i.length + j.length ≤ sizeLine ∧ Q (.str (i ++ j)) H) (purO addS) := OpD.pure fun g H x y dx dy d Q _ rx ry h w => by
  unfold addS at h
  split at h
  · split at h
    · cases h; exact ⟨_, _, rx.str, ry.str, by assumption, w _ Rep.mkS⟩
    · cases h
  · cases h
def mulL : D → D → Option D
  | .lst a, .int k => if k.natAbs ≤ 1000000000 ∧ a.length * k.toNat ≤ sizeLine then some (.lst (List.replicate k.toNat a).flatten) else none
  | _, _ => none
theorem Reps.rep {F : Hp} {al : List Addr} {ds : List D} {xs : List V} (r : Reps K F al ds xs) : ∀ k : Nat, Reps K F al (List.replicate k ds).flatten (List.replicate k xs).flatten
  | 0 => Reps.nil
  | k + 1 => by
    rw [List.replicate_succ, List.replicate_succ, List.flatten_cons, List.flatten_cons]
    exact Reps.append r (Reps.rep r k)
theorem od_mulL : OpD K rRep (purO mulL) := by
  intro g H σ ρ x y dx dy Q Wx ok rx ry w
  unfold purO mulL at w
  cases dx with
  | lst a =>
    cases dy with
    | int k =>
      dsimp only at w
      split at w
      case h_2 => exact w.elim
      rename_i d ed
      split at ed
      case isFalse => cases ed
      cases ed
      rename_i hl
      obtain ⟨p, xs, rfl, s1, r1⟩ := rx.lst
      have l1 := r1.length
      refine ⟨p, k, xs, rfl, ry.int, ok.fs _ _ s1, by rw [show (2 : Int) ^ 63 = 9223372036854775808 by simp]; omega, by rw [show (2 : Int) ^ 63 = 9223372036854775808 by simp]; omega, by rw [l1]; exact hl.2, fun p' n => ?_⟩
      obtain ⟨g', x', k', r'⟩ := new_lst ok (r1.rep k.toNat) n
      exact w g' _ _ x' k' r'
    | _ => exact w.elim
  | _ => exact w.elim
end
end LW
set_option maxHeartbeats 200000
namespace LW
open PySem PySem.Spec PyProof.Rows L2

mutual
/-- plain data, nested less than n deep -/
def D.okd : D → Nat → Bool
  | .non, _ => true
  | .bl _, _ => true
  | .int _, _ => true
  | .str x, _ => PyData.strOk x
  | .tup l, n => match n with
    | 0 => false
    | n + 1 => D.okdL l n
  | .lst l, n => match n with
    | 0 => false
    | n + 1 => D.okdL l n
  | .frz l, n => match n with
    | 0 => false
    | n + 1 => D.okdL l n
  | .dct _ _, _ => false
  | .obj _, _ => false
  | .glo _, _ => false
  | .ty _, _ => false
def D.okdL : List D → Nat → Bool
  | [], _ => true
  | d :: ds, n => d.okd n && D.okdL ds n
end
mutual
def D.py : D → PyData
  | .non => .none
  | .bl b => .bool b
  | .int i => .int i
  | .str x => .str x
  | .tup l => .tuple (D.pyL l)
  | .lst l => .list (D.pyL l)
  | .frz l => .list (D.pyL l)
  | .dct _ _ => .none
  | .obj _ => .none
  | .glo _ => .none
  | .ty _ => .none
def D.pyL : List D → List PyData
  | [] => []
  | d :: ds => d.py :: D.pyL ds
end
mutual
theorem D.okd_lay : ∀ (d : D) (n : Nat), d.okd n = true → d.py.canLay0 = true ∧ d.py.depth ≤ n
  | .non, n, h => by simp [D.py, PyData.canLay0, PyData.depth]
  | .bl _, n, h => by simp [D.py, PyData.canLay0, PyData.depth]
  | .int _, n, h => by simp [D.py, PyData.canLay0, PyData.depth]
  | .str x, n, h => by simpa [D.py, PyData.canLay0, PyData.depth, D.okd] using h
  | .tup l, 0, h => by simp [D.okd] at h
  | .tup l, n + 1, h => by
    have := D.okdL_lay l n (by simpa [D.okd] using h)
    simp only [D.py, PyData.canLay0, PyData.depth]
    exact ⟨this.1, by omega⟩
  | .lst l, 0, h => by simp [D.okd] at h
  | .lst l, n + 1, h => by
    have := D.okdL_lay l n (by simpa [D.okd] using h)
    simp only [D.py, PyData.canLay0, PyData.depth]
    exact ⟨this.1, by omega⟩
  | .frz l, 0, h => by simp [D.okd] at h
  | .frz l, n + 1, h => by
    have := D.okdL_lay l n (by simpa [D.okd] using h)
    simp only [D.py, PyData.canLay0, PyData.depth]
    exact ⟨this.1, by omega⟩
  | .dct _ _, n, h => by simp [D.okd] at h
  | .obj _, n, h => by simp [D.okd] at h
  | .glo _, n, h => by simp [D.okd] at h
  | .ty _, n, h => by simp [D.okd] at h
theorem D.okdL_lay : ∀ (ds : List D) (n : Nat), D.okdL ds n = true → PyData.canLayAll0 (D.pyL ds) = true ∧ PyData.depthAll (D.pyL ds) ≤ n
  | [], n, h => by simp [D.pyL, PyData.canLayAll0, PyData.depthAll]
  | d :: ds, n, h => by
    have h' : d.okd n = true ∧ D.okdL ds n = true := by simpa [D.okdL] using h
    have h1 := D.okd_lay d n h'.1
    have h2 := D.okdL_lay ds n h'.2
    simp only [D.pyL, PyData.canLayAll0, PyData.depthAll]
    exact ⟨by rw [h1.1, h2.1]; rfl, by omega⟩
end
theorem D.shaped {d : D} {n : Nat} (h : d.okd n = true) (hn : n ≤ 64) : SeqAt.shaped d.py = true := by
  have := D.okd_lay d n h
  exact Bool.and_eq_true_iff.mpr ⟨this.1, decide_eq_true (Nat.le_trans this.2 hn)⟩
section
variable {K : PySem.W.Frag} {F H : Hp} {al : List Addr}
mutual
theorem Rep.dp (hF : ∀ b o, F b = some o → H b = some o) : ∀ (d : D) (v : V) (n : Nat), Rep K F al d v → d.okd n = true → Dp K H v d.py
  | .non, v, n, h, k => by rw [h.non]; simp only [D.py]; exact .non
  | .bl b, v, n, h, k => by rw [h.bl]; simp only [D.py]; exact .bl b
  | .int b, v, n, h, k => by rw [h.int]; simp only [D.py]; exact .int b
  | .str b, v, n, h, k => by rw [h.str]; simp only [D.py]; exact .str b
  | .tup l, v, 0, h, k => by simp [D.okd] at k
  | .tup l, v, n + 1, h, k => by
    obtain ⟨a, xs, rfl, s, r⟩ := h.tup
    simp only [D.py]
    exact .tup (Same.seqT hF s) (Reps.dp hF l xs n r (by simpa [D.okd] using k))
  | .lst l, v, 0, h, k => by simp [D.okd] at k
  | .lst l, v, n + 1, h, k => by
    obtain ⟨a, xs, rfl, s, r⟩ := h.lst
    simp only [D.py]
    exact .lst (SqL.of (hF _ _ s)) (Reps.dp hF l xs n r (by simpa [D.okd] using k))
  | .frz l, v, 0, h, k => by simp [D.okd] at k
  | .frz l, v, n + 1, h, k => by
    obtain ⟨a, xs, rfl, s, r⟩ := h.frz
    simp only [D.py]
    exact .lst (Same.seq hF s) (Reps.dp hF l xs n r (by simpa [D.okd] using k))
  | .dct _ _, v, n, h, k => by simp [D.okd] at k
  | .obj _, v, n, h, k => by simp [D.okd] at k
  | .glo _, v, n, h, k => by simp [D.okd] at k
  | .ty _, v, n, h, k => by simp [D.okd] at k
theorem Reps.dp (hF : ∀ b o, F b = some o → H b = some o) : ∀ (ds : List D) (vs : List V) (n : Nat), Reps K F al ds vs → D.okdL ds n = true → DpAll K H vs (D.pyL ds)
  | [], vs, n, h, k => by simp only [Reps] at h; rw [h]; simp only [D.pyL]; exact .nil
  | d :: ds, vs, n, h, k => by
    simp only [Reps] at h
    obtain ⟨v, r, rfl, h1, h2⟩ := h
    have k' : d.okd n = true ∧ D.okdL ds n = true := by simpa [D.okdL] using k
    simp only [D.pyL]
    exact .cons (Rep.dp hF d v n h1 k'.1) (Reps.dp hF ds r n h2 k'.2)
end
end
def eqO (x y : D) : Option D := if x.okd 20 = true ∧ y.okd 20 = true then some (.bl (PyData.eqv x.py y.py)) else none
def neO (x y : D) : Option D := if x.okd 20 = true ∧ y.okd 20 = true then some (.bl (!PyData.eqv x.py y.py)) else none
section
variable {K : PySem.W.Frag}
theorem od_eq : OpD K (rEqD K) (purO eqO) := OpD.pure fun g H x y dx dy d Q hF rx ry h w => by
  unfold eqO at h
  split at h
  · rename_i c
    cases h
    exact ⟨_, _, Rep.dp hF _ _ _ rx c.1, Rep.dp hF _ _ _ ry c.2, D.shaped c.1 (by decide), D.shaped c.2 (by decide), w _ Rep.mkB⟩
  · cases h
theorem od_ne : OpD K (rNeD K) (purO neO) := OpD.pure fun g H x y dx dy d Q hF rx ry h w => by
  unfold neO at h
  split at h
  · rename_i c
    cases h
    exact ⟨_, _, Rep.dp hF _ _ _ rx c.1, Rep.dp hF _ _ _ ry c.2, D.shaped c.1 (by decide), D.shaped c.2 (by decide), w _ Rep.mkB⟩
  · cases h
/-- is None -/
@[simp] def D.isNon : D → Bool
  | .non => true
  | _ => false
def isNO : D → D → Option D
  | x, .non => some (.bl x.isNon)
  | _, _ => none
def notNO : D → D → Option D
  | x, .non => some (.bl (!x.isNon))
  | _, _ => none
theorem Rep.isNon {F : Hp} {al : List Addr} {d : D} {v : V} (h : Rep K F al d v) : decide (v = .non) = d.isNon := by
  cases d with
  | non => rw [h.non]; rfl
  | bl b => rw [h.bl]; rfl
  | int b => rw [h.int]; rfl
  | str b => rw [h.str]; rfl
  | tup b => obtain ⟨a, xs, rfl, _⟩ := h.tup; rfl
  | lst b => obtain ⟨a, xs, rfl, _⟩ := h.lst; rfl
  | frz b => obtain ⟨a, xs, rfl, _⟩ := h.frz; rfl
  | dct ks vs => simp only [Rep] at h; obtain ⟨a, xs, rfl, _⟩ := h; rfl
  | obj n => simp only [Rep] at h; obtain ⟨a, _, rfl⟩ := h; rfl
  | glo n => simp only [Rep] at h; rw [h]; rfl
  | ty n => simp only [Rep] at h; rw [h]; rfl
theorem od_isN : OpD K (fun x y H Q => y = .non ∧ Q (.bl (decide (x = .non))) H) (purO isNO) := OpD.pure fun g H x y dx dy d Q hF rx ry h w => by
  unfold isNO at h
  split at h
  · cases h; exact ⟨ry.non, by rw [rx.isNon]; exact w _ Rep.mkB⟩
  · cases h
theorem od_notN : OpD K (fun x y H Q => y = .non ∧ Q (.bl (!decide (x = .non))) H) (purO notNO) := OpD.pure fun g H x y dx dy d Q hF rx ry h w => by
  unfold notNO at h
  split at h
  · cases h; exact ⟨ry.non, by rw [rx.isNon]; exact w _ Rep.mkB⟩
  · cases h
/-- x in a sequence of flat things -/
def D.flat : D → Bool
  | .non => true
  | .bl _ => true
  | .int _ => true
  | .str _ => true
  | _ => false
def D.fv : D → V
  | .bl b => .bl b
  | .int i => .int i
  | .str x => .str x
  | _ => .non
theorem Rep.fv {F : Hp} {al : List Addr} {d : D} {v : V} (h : Rep K F al d v) (f : d.flat = true) : v = d.fv ∧ flatV v = true := by
  cases d with
  | non => rw [h.non]; exact ⟨rfl, rfl⟩
  | bl b => rw [h.bl]; exact ⟨rfl, rfl⟩
  | int b => rw [h.int]; exact ⟨rfl, rfl⟩
  | str b => rw [h.str]; exact ⟨rfl, rfl⟩
  | _ => cases f
theorem Reps.fv {F : Hp} {al : List Addr} : ∀ {ds : List D} {vs : List V}, Reps K F al ds vs → ds.all D.flat = true → vs = ds.map D.fv ∧ vs.all flatV = true
  | [], vs, h, f => by simp only [Reps] at h; rw [h]; exact ⟨rfl, rfl⟩
  | d :: ds, vs, h, f => by
    simp only [Reps] at h
    obtain ⟨v, r, rfl, h1, h2⟩ := h
    have f' : d.flat = true ∧ ds.all D.flat = true := by simpa using f
    obtain ⟨e1, e2⟩ := h1.fv f'.1
    obtain ⟨e3, e4⟩ := Reps.fv h2 f'.2
    exact ⟨by rw [e1, e3]; rfl, by rw [List.all_cons, e2, e4]; rfl⟩
def D.items : D → Option (List D)
  | .tup l => some l
  | .lst l => some l
  | .frz l => some l
  | _ => none
theorem Rep.items {F H : Hp} {al : List Addr} {d : D} {l : List D} {v : V} (hF : ∀ b o, F b = some o → H b = some o) (h : Rep K F al d v) (e : d.items = some l) : ∃ p xs, v = .ref p ∧ (SqL K H p xs ∨ SqT K H p xs) ∧ Reps K F al l xs := by
  cases d with
  | tup b => cases e; obtain ⟨a, xs, rfl, s, r⟩ := h.tup; exact ⟨a, xs, rfl, .inr (Same.seqT hF s), r⟩
  | lst b => cases e; obtain ⟨a, xs, rfl, s, r⟩ := h.lst; exact ⟨a, xs, rfl, .inl (SqL.of (hF _ _ s)), r⟩
  | frz b => cases e; obtain ⟨a, xs, rfl, s, r⟩ := h.frz; exact ⟨a, xs, rfl, .inl (Same.seq hF s), r⟩
  | _ => cases e
def inO (x y : D) : Option D := match y.items with
  | some l => if x.flat = true ∧ l.all D.flat = true then some (.bl (inV x.fv (l.map D.fv))) else none
  | none => none
def notInO (x y : D) : Option D := match y.items with
  | some l => if x.flat = true ∧ l.all D.flat = true then some (.bl (!inV x.fv (l.map D.fv))) else none
  | none => none
theorem od_in : OpD K (rIn K false) (purO inO) := OpD.pure fun g H x y dx dy d Q hF rx ry h w => by
  unfold inO at h
  split at h
  · rename_i l e
    split at h
    · rename_i c
      cases h
      obtain ⟨p, xs, rfl, s, r⟩ := ry.items hF e
      obtain ⟨e1, e2⟩ := rx.fv c.1
      obtain ⟨e3, e4⟩ := r.fv c.2
      refine ⟨p, xs, rfl, s, e2, e4, ?_⟩
      rw [e1, e3]
      exact w _ Rep.mkB
    · cases h
  · cases h
theorem od_notIn : OpD K (rIn K true) (purO notInO) := OpD.pure fun g H x y dx dy d Q hF rx ry h w => by
  unfold notInO at h
  split at h
  · rename_i l e
    split at h
    · rename_i c
      cases h
      obtain ⟨p, xs, rfl, s, r⟩ := ry.items hF e
      obtain ⟨e1, e2⟩ := rx.fv c.1
      obtain ⟨e3, e4⟩ := r.fv c.2
      refine ⟨p, xs, rfl, s, e2, e4, ?_⟩
      rw [e1, e3]
      exact w _ Rep.mkB
    · cases h
  · cases h
end

section
variable {X : Cx} {Wx : WX} {a b c : Expr} {rest : List Expr} {ma mb mc : M D} {ta tb tc : M Bool} {pos : Pos}
@[simp] def andT (a b : M Bool) : M Bool := fun ρ => (a ρ).bind fun x ρ1 => match x with
  | true => b ρ1
  | false => .ok false ρ1
@[simp] def orT (a b : M Bool) : M Bool := fun ρ => (a ρ).bind fun x ρ1 => match x with
  | true => .ok true ρ1
  | false => b ρ1
@[simp] def notT (a : M Bool) : M Bool := fun ρ => (a ρ).bind fun x ρ1 => .ok (!x) ρ1
theorem dw_and1 (ha : DT X Wx ta a) : DW X Wx ta (.BoolOp .And [a] pos) := pw_and1 ha
theorem dw_or1 (ha : DT X Wx ta a) : DW X Wx ta (.BoolOp .Or [a] pos) := pw_or1 ha
theorem dw_and (ha : DT X Wx ta a) (hb : DW X Wx tb (.BoolOp .And (b :: rest) pos)) : DW X Wx (andT ta tb) (.BoolOp .And (a :: b :: rest) pos) := pw_imp (pw_and ha hb) (by
  rintro σ H Q ⟨g, ρ, ok, w⟩
  refine ⟨g, ρ, ok, Res.W_imp (Res.W_bind w) (fun x ρ1 w1 => ?_) fun _ _ z => z⟩
  intro g1 H1 e1 ok1
  cases x with
  | true =>
    rw [if_pos rfl]
    exact ⟨g1, ρ1, ok1, Res.W_imp w1 (fun x ρ2 w2 g2 H2 e2 ok2 => w2 g2 H2 (e1.trans e2) ok2) fun _ _ z => z.mono e1⟩
  | false =>
    rw [if_neg (by decide)]
    exact w1 g1 H1 e1 ok1)
theorem dw_or (ha : DT X Wx ta a) (hb : DW X Wx tb (.BoolOp .Or (b :: rest) pos)) : DW X Wx (orT ta tb) (.BoolOp .Or (a :: b :: rest) pos) := pw_imp (pw_or ha hb) (by
  rintro σ H Q ⟨g, ρ, ok, w⟩
  refine ⟨g, ρ, ok, Res.W_imp (Res.W_bind w) (fun x ρ1 w1 => ?_) fun _ _ z => z⟩
  intro g1 H1 e1 ok1
  cases x with
  | false =>
    rw [if_neg (by decide)]
    exact ⟨g1, ρ1, ok1, Res.W_imp w1 (fun x ρ2 w2 g2 H2 e2 ok2 => w2 g2 H2 (e1.trans e2) ok2) fun _ _ z => z.mono e1⟩
  | true =>
    rw [if_pos rfl]
    exact w1 g1 H1 e1 ok1)
theorem dt_w {m : M Bool} (h : DW X Wx m a) : DT X Wx m a := PW.pt h
theorem dt_not (ha : DT X Wx ta a) : DT X Wx (notT ta) (.UnaryOp .Not a pos) := pt_imp (pt_not ha) (by
  rintro σ H Q ⟨g, ρ, ok, w⟩
  refine ⟨g, ρ, ok, Res.W_imp (Res.W_bind w) (fun x ρ1 w1 => ?_) fun _ _ z => z⟩
  intro g1 H1 e1 ok1
  exact w1 g1 H1 e1 ok1)
/-- truth of any value -/
@[simp] def D.tru : D → Option Bool
  | .non => some false
  | .bl b => some b
  | .int i => some (i != 0)
  | .str x => if x.length ≤ sizeLine then some ((x.length : Int) != 0) else none
  | .tup l => some (!l.isEmpty)
  | .lst l => some (!l.isEmpty)
  | .frz l => some (!l.isEmpty)
  | _ => none
@[simp] def truD (m : M D) : M Bool := fun ρ => (m ρ).bind fun d ρ1 => match d.tru with
  | some b => .ok b ρ1
  | none => .bad
theorem Reps.emp {K : PySem.W.Frag} {F : Hp} {al : List Addr} {ds : List D} {xs : List V} (r : Reps K F al ds xs) : xs.isEmpty = ds.isEmpty := by
  cases ds with
  | nil => simp only [Reps] at r; rw [r]; rfl
  | cons d ds => simp only [Reps] at r; obtain ⟨v, r', rfl, _⟩ := r; rfl
theorem dt_tru (ha : DE X Wx ma a) (he : ∀ whole, isTrue a X.env whole = (do let v ← whole; standAt a.pos; holding [v] (truthy v))) : DT X Wx (truD ma) a := pt_imp (pt_truth ha he) (by
  rintro σ H Q ⟨g, ρ, ok, w⟩
  refine ⟨g, ρ, ok, Res.W_imp (Res.W_bind w) (fun d ρ1 w1 => ?_) fun _ _ z => z⟩
  intro g1 H1 v e1 ok1 rv
  cases e : d.tru with
  | none => rw [e] at w1; exact w1.elim
  | some k =>
    rw [e] at w1
    refine ⟨k, ?_, w1 g1 H1 e1 ok1⟩
    cases d with
    | non => cases e; rw [rv.non]; rfl
    | bl b => cases e; rw [rv.bl]; rfl
    | int b => cases e; rw [rv.int]; rfl
    | str b =>
      rw [rv.str]
      simp only [D.tru] at e
      split at e
      · cases e; exact ⟨by assumption, rfl⟩
      · cases e
    | tup l =>
      cases e
      obtain ⟨p, xs, rfl, s, r⟩ := rv.tup
      exact .inr (.inl ⟨xs, Same.seqT ok1.fs s, by rw [r.emp]⟩)
    | lst l =>
      cases e
      obtain ⟨p, xs, rfl, s, r⟩ := rv.lst
      exact .inl ⟨xs, SqL.of (ok1.fs _ _ s), by rw [r.emp]⟩
    | frz l =>
      cases e
      obtain ⟨p, xs, rfl, s, r⟩ := rv.frz
      exact .inl ⟨xs, Same.seq ok1.fs s, by rw [r.emp]⟩
    | _ => cases e)
/-- a if c else b -/
@[simp] def iteD {α : Type} (c : M Bool) (a b : M α) : M α := fun ρ => (c ρ).bind fun x ρ1 => match x with
  | true => a ρ1
  | false => b ρ1
theorem de_ife (hc : DT X Wx tc c) (ha : DE X Wx ma a) (hb : DE X Wx mb b) : DE X Wx (iteD tc ma mb) (.IfExp c a b pos) := pe_imp (pe_ifExp hc ha hb) (by
  rintro σ H Q ⟨g, ρ, ok, w⟩
  refine ⟨g, ρ, ok, Res.W_imp (Res.W_bind w) (fun x ρ1 w1 => ?_) fun _ _ z => z⟩
  intro g1 H1 e1 ok1
  cases x with
  | true =>
    rw [if_pos rfl]
    exact ⟨g1, ρ1, ok1, Res.W_imp w1 (fun d ρ2 w2 g2 H2 v e2 ok2 rv => w2 g2 H2 v (e1.trans e2) ok2 rv) fun _ _ z => z.mono e1⟩
  | false =>
    rw [if_neg (by decide)]
    exact ⟨g1, ρ1, ok1, Res.W_imp w1 (fun d ρ2 w2 g2 H2 v e2 ok2 rv => w2 g2 H2 v (e1.trans e2) ok2 rv) fun _ _ z => z.mono e1⟩)
/-- a and b, a or b as values: all but the last truth values -/
@[simp] def andV (a b : M D) : M D := fun ρ => (a ρ).bind fun x ρ1 => match x with
  | .bl true => b ρ1
  | .bl false => .ok (.bl false) ρ1
  | _ => .bad
@[simp] def orV (a b : M D) : M D := fun ρ => (a ρ).bind fun x ρ1 => match x with
  | .bl false => b ρ1
  | .bl true => .ok (.bl true) ρ1
  | _ => .bad
theorem de_one {op : BoolOp} (h : DE X Wx ma a) : DE X Wx ma (.BoolOp op [a] pos) := pe_one h
theorem de_andV (ha : DE X Wx ma a) (hb : DE X Wx mb (.BoolOp .And (b :: rest) pos)) : DE X Wx (andV ma mb) (.BoolOp .And (a :: b :: rest) pos) := pe_imp (pe_and ha hb) (by
  rintro σ H Q ⟨g, ρ, ok, w⟩
  refine ⟨g, ρ, ok, Res.W_imp (Res.W_bind w) (fun x ρ1 w1 => ?_) fun _ _ z => z⟩
  intro g1 H1 v e1 ok1 rv
  cases x with
  | bl x =>
    refine ⟨x, rv.bl, ?_⟩
    cases x with
    | true =>
      rw [if_pos rfl]
      exact ⟨g1, ρ1, ok1, Res.W_imp w1 (fun d ρ2 w2 g2 H2 v e2 ok2 rv => w2 g2 H2 v (e1.trans e2) ok2 rv) fun _ _ z => z.mono e1⟩
    | false =>
      rw [if_neg (by decide)]
      exact w1 g1 H1 _ e1 ok1 Rep.mkB
  | _ => exact w1.elim)
theorem de_orV (ha : DE X Wx ma a) (hb : DE X Wx mb (.BoolOp .Or (b :: rest) pos)) : DE X Wx (orV ma mb) (.BoolOp .Or (a :: b :: rest) pos) := pe_imp (pe_or ha hb) (by
  rintro σ H Q ⟨g, ρ, ok, w⟩
  refine ⟨g, ρ, ok, Res.W_imp (Res.W_bind w) (fun x ρ1 w1 => ?_) fun _ _ z => z⟩
  intro g1 H1 v e1 ok1 rv
  cases x with
  | bl x =>
    refine ⟨x, rv.bl, ?_⟩
    cases x with
    | false =>
      rw [if_neg (by decide)]
      exact ⟨g1, ρ1, ok1, Res.W_imp w1 (fun d ρ2 w2 g2 H2 v e2 ok2 rv => w2 g2 H2 v (e1.trans e2) ok2 rv) fun _ _ z => z.mono e1⟩
    | true =>
      rw [if_pos rfl]
      exact w1 g1 H1 _ e1 ok1 Rep.mkB
  | _ => exact w1.elim)
@[simp] def notV (a : M D) : M D := fun ρ => (a ρ).bind fun x ρ1 => match x with
  | .bl b => .ok (.bl (!b)) ρ1
  | _ => .bad
theorem de_notV (ha : DE X Wx ma a) : DE X Wx (notV ma) (.UnaryOp .Not a pos) := pe_imp (pe_not ha) (by
  rintro σ H Q ⟨g, ρ, ok, w⟩
  refine ⟨g, ρ, ok, Res.W_imp (Res.W_bind w) (fun x ρ1 w1 => ?_) fun _ _ z => z⟩
  intro g1 H1 v e1 ok1 rv
  cases x with
  | bl x => exact ⟨x, rv.bl, w1 g1 H1 _ e1 ok1 Rep.mkB⟩
  | _ => exact w1.elim)
/-- -a -/
@[simp] def negO : D → Option D
  | .int i => some (.int (-i))
  | _ => none
@[simp] def un1O (h : D → Option D) (m : M D) : M D := fun ρ => (m ρ).bind fun x ρ1 => match h x with
  | some d => .ok d ρ1
  | none => .bad
theorem de_neg (ha : DE X Wx ma a) : DE X Wx (un1O negO ma) (.UnaryOp .USub a pos) := pe_imp (pe_un un_neg ha) (by
  rintro σ H Q ⟨g, ρ, ok, w⟩
  refine ⟨g, ρ, ok, Res.W_imp (Res.W_bind w) (fun x ρ1 w1 => ?_) fun _ _ z => z⟩
  intro g1 H1 v e1 ok1 rv
  cases x with
  | int x => exact ⟨x, rv.int, w1 g1 H1 _ e1 ok1 Rep.mkI⟩
  | _ => exact w1.elim)

variable {e : Expr} {es : List Expr} {me : M D} {mes : M (List D)}
@[simp] def nilA : M (List D) := fun ρ => .ok [] ρ
@[simp] def consA (m : M D) (r : M (List D)) : M (List D) := fun ρ => (m ρ).bind fun d ρ1 => (r ρ1).bind fun ds ρ2 => .ok (d :: ds) ρ2
theorem da_nil : DA X Wx nilA [] := pa_imp pa_nil fun σ H Q ⟨g, ρ, ok, w⟩ => w g H [] (Ext.refl g) ok Reps.nil
theorem da_cons (he : DE X Wx me e) (hr : DA X Wx mes es) (hs : starEach (e :: es) X.env = (false, eval e X.env) :: starEach es X.env) : DA X Wx (consA me mes) (e :: es) := pa_imp (pa_cons he hr hs) (by
  rintro σ H Q ⟨g, ρ, ok, w⟩
  refine ⟨g, ρ, ok, Res.W_imp (Res.W_bind w) (fun d ρ1 w1 => ?_) fun _ _ z => z⟩
  intro g1 H1 v e1 ok1 rv
  refine ⟨g1, ρ1, ok1, Res.W_imp (Res.W_bind w1) (fun ds ρ2 w2 => ?_) fun _ _ z => z.mono e1⟩
  intro g2 H2 vs e2 ok2 rvs
  exact w2 g2 H2 _ (e1.trans e2) ok2 (Reps.cons (Rep.mono e2.f e2.al _ _ rv) rvs))
@[simp] def tupD (m : M (List D)) : M D := fun ρ => (m ρ).bind fun ds ρ1 => if ds.length ≤ sizeLine then .ok (.tup ds) ρ1 else .bad
theorem de_tup {x1 : Nat} (h : DA X Wx mes es) : DE X Wx (tupD mes) (.Tuple es x1 pos) := pe_imp (pe_tup h) (by
  rintro σ H Q ⟨g, ρ, ok, w⟩
  refine ⟨g, ρ, ok, Res.W_imp (Res.W_bind w) (fun ds ρ1 w1 => ?_) fun _ _ z => z⟩
  intro g1 H1 vs e1 ok1 rvs
  split at w1
  · refine ⟨by rw [rvs.length]; assumption, fun p n => ?_⟩
    obtain ⟨g2, e2, ok2, r2⟩ := new_tup ok1 rvs n
    exact w1 g2 _ _ (e1.trans e2) ok2 r2
  · exact w1.elim)
@[simp] def lstR (m : M (List D)) : M RV := fun ρ => (m ρ).bind fun ds ρ1 => if ds.length ≤ sizeLine then .ok (.o ds) ρ1 else .bad
theorem dr_lst (h : DA X Wx mes es) : DR X Wx (lstR mes) (.List es pos) := pe_imp (pe_lst h) (by
  rintro σ H Q ⟨g, ρ, ok, w⟩
  refine ⟨g, ρ, ok, Res.W_imp (Res.W_bind w) (fun ds ρ1 w1 => ?_) fun _ _ z => z⟩
  intro g1 H1 vs e1 ok1 rvs
  split at w1
  · refine ⟨by rw [rvs.length]; assumption, fun p n => ?_⟩
    obtain ⟨ok2, r2⟩ := new_own ok1 rvs n
    exact w1 g1 _ _ e1 ok2 r2
  · exact w1.elim)
/-- what is one's own is let go as data -/
@[simp] def frzM (m : M RV) : M D := fun ρ => (m ρ).bind fun r ρ1 => match r with
  | .v d => .ok d ρ1
  | .o l => .ok (.lst l) ρ1
  | .od ks => .ok (.dct (ks.map (·.1)) (ks.map (·.2))) ρ1
theorem RVOk.freeze {K : PySem.W.Frag} {g : Gh} {H : Hp} {σ : L2.St} {ρ : En} {r : RV} {v : V} (ok : EnOk K g H σ ρ) (h : RVOk K g H r v) : ∃ g', Ext g g' ∧ EnOk K g' H σ ρ ∧ Rep K g'.F g'.al (match r with | .v d => d | .o l => .lst l | .od ks => .dct (ks.map (·.1)) (ks.map (·.2))) v := by
  cases r with
  | v d => exact ⟨g, Ext.refl g, ok, h⟩
  | o l =>
    obtain ⟨a, xs, rfl, h1, h2, h3, h4, r⟩ := h
    have e := Gh.frz_ext (o := .lst xs) h2 h3
    exact ⟨g.frz a (.lst xs), e, ok.freeze h1 h2 h4, Rep.mkL upd_same (Reps.mono e.f e.al _ _ r)⟩
  | od ks =>
    obtain ⟨a, kvs, rfl, h1, h2, h3, h4, z, r⟩ := h
    have e := Gh.frz_ext (o := .dK kvs) h2 h3
    refine ⟨g.frz a (.dK kvs), e, ok.freeze h1 h2 h4, ?_⟩
    simp only [Rep]
    exact ⟨a, kvs, rfl, upd_same, z, Reps.mono e.f e.al _ _ r⟩
theorem de_frz {m : M RV} (h : DR X Wx m e) : DE X Wx (frzM m) e := pe_imp h (by
  rintro σ H Q ⟨g, ρ, ok, w⟩
  refine ⟨g, ρ, ok, Res.W_imp (Res.W_bind w) (fun r ρ1 w1 => ?_) fun _ _ z => z⟩
  intro g1 H1 v e1 ok1 rv
  obtain ⟨g2, e2, ok2, r2⟩ := rv.freeze ok1
  cases r with
  | v d => exact w1 g2 H1 v (e1.trans e2) ok2 r2
  | o l => exact w1 g2 H1 v (e1.trans e2) ok2 r2
  | od ks => exact w1 g2 H1 v (e1.trans e2) ok2 r2)
@[simp] def valR (m : M D) : M RV := fun ρ => (m ρ).bind fun d ρ1 => .ok (.v d) ρ1
theorem dr_val (h : DE X Wx me e) : DR X Wx (valR me) e := pe_imp h (by
  rintro σ H Q ⟨g, ρ, ok, w⟩
  refine ⟨g, ρ, ok, Res.W_imp (Res.W_bind w) (fun d ρ1 w1 => ?_) fun _ _ z => z⟩
  intro g1 H1 v e1 ok1 rv
  exact w1 g1 H1 v e1 ok1 rv)

def ixO (x y : D) : Option D := match y with
  | .int i => (match x with
    | .tup l => atI l i
    | .lst l => atI l i
    | .frz l => atI l i
    | .str z => if z.length ≤ sizeLine then (atI z.cps.toList i).map fun c => .str ⟨#[c]⟩ else none
    | _ => none)
  | _ => none
theorem Reps.at {K : PySem.W.Frag} {F : Hp} {al : List Addr} {ds : List D} {vs : List V} {i : Int} {d : D} (r : Reps K F al ds vs) (h : atI ds i = some d) : ∃ v, atI vs i = some v ∧ Rep K F al d v := by
  unfold atI at h ⊢
  rw [r.length]
  cases e : ixN ds.length i with
  | none => rw [e] at h; cases h
  | some j =>
    rw [e] at h
    exact r.get h
theorem od_ix {K : PySem.W.Frag} : OpD K (rIx K) (purO ixO) := OpD.pure fun g H x y dx dy d Q hF rx ry h w => by
  unfold ixO at h
  cases dy with
  | int i =>
    dsimp only at h
    cases dx with
    | tup l =>
      obtain ⟨p, xs, rfl, s, r⟩ := rx.tup
      obtain ⟨v, e, rv⟩ := r.at h
      exact .inr (.inl ⟨p, xs, i, v, rfl, ry.int, Same.seqT hF s, e, w _ rv⟩)
    | lst l =>
      obtain ⟨p, xs, rfl, s, r⟩ := rx.lst
      obtain ⟨v, e, rv⟩ := r.at h
      exact .inl ⟨p, xs, i, v, rfl, ry.int, SqL.of (hF _ _ s), e, w _ rv⟩
    | frz l =>
      obtain ⟨p, xs, rfl, s, r⟩ := rx.frz
      obtain ⟨v, e, rv⟩ := r.at h
      exact .inl ⟨p, xs, i, v, rfl, ry.int, Same.seq hF s, e, w _ rv⟩
    | str z =>
      dsimp only at h
      split at h
      · rename_i hl
        cases e : atI z.cps.toList i with
        | none => rw [e] at h; cases h
        | some c =>
          rw [e] at h
          cases h
          exact .inr (.inr ⟨z, i, c, rx.str, ry.int, hl, e, w _ Rep.mkS⟩)
      · cases h
    | _ => cases h
  | _ => cases h
theorem de_ix (ha : DE X Wx ma a) (hb : DE X Wx mb b) (hs : PlainIx b) : DE X Wx (bin2 (purO ixO) ma mb) (.Subscript a b pos) := pe_imp (pe_ix ix_seq ha hb hs) (tOp_of od_ix)
/-- an item of a list that is one's own -/
@[simp] def ixOwn (i : Nat) (mb : M D) : M D := fun ρ => match ρ.sl[i]? with
  | some (.own _) => (mb ρ).bind fun y ρ1 => match ρ1.sl[i]?, y with
    | some (.own l), .int j => (match atI l j with
      | some d => .ok d ρ1
      | none => .bad)
    | _, _ => .bad
  | _ => .bad
theorem EnOk.own_at {K : PySem.W.Frag} {g : Gh} {H : Hp} {σ : L2.St} {ρ : En} {i : Nat} {l : List D} (ok : EnOk K g H σ ρ) (e : ρ.sl[i]? = some (.own l)) : ∃ a xs, σ[i]? = some (some (.ref a)) ∧ H a = some (.lst xs) ∧ g.ow a = some (.sl i) ∧ Reps K g.F g.al l xs := by
  obtain ⟨a, xs, e1, e2, e3, r⟩ := ok.sl i _ e
  refine ⟨a, xs, ?_, e2, e3, r⟩
  cases q : σ[i]? with
  | none => rw [q] at e1; cases e1
  | some o => rw [q] at e1; exact congrArg some e1
theorem de_ixOwn (i : Nat) {x : Str} {px : Pos} (hN : X.N[i]? = some x) (hv : Vis X.env.scope x) (hd : (x == ("__debug__" : Str)) = false) (hcd : (x == ("__classdict__" : Str)) = false) (hb : DE X Wx mb b) (hs : PlainIx b) : DE X Wx (ixOwn i mb) (.Subscript (.Name x px) b pos) :=
  pe_imp (pe_ix ix_list (pe_var hN hv hd hcd) hb hs) (by
  rintro σ H Q ⟨g, ρ, ok, w⟩
  unfold ixOwn at w
  cases e : ρ.sl[i]? with
  | none => rw [e] at w; exact w.elim
  | some s =>
    rw [e] at w
    cases s with
    | own l =>
      obtain ⟨p, xs, e1, e2, e3, r⟩ := ok.own_at e
      refine ⟨.ref p, e1, g, ρ, ok, Res.W_imp (Res.W_bind w) (fun y ρ1 w1 => ?_) fun _ _ z => z⟩
      intro g1 H1 v x1 ok1 rv
      cases e' : ρ1.sl[i]? with
      | none => rw [e'] at w1; exact w1.elim
      | some s' =>
        rw [e'] at w1
        cases s' with
        | own l' =>
          cases y with
          | int j =>
            dsimp only at w1
            split at w1
            · rename_i d ed
              obtain ⟨p', xs', f1, f2, f3, r'⟩ := ok1.own_at e'
              rw [e1] at f1
              cases f1
              obtain ⟨u, eu, ru⟩ := r'.at ed
              exact ⟨p, xs', j, u, rfl, rv.int, SqL.of f2, eu, w1 g1 H1 u x1 ok1 ru⟩
            · exact w1.elim
          | _ => exact w1.elim
        | _ => exact w1.elim
    | _ => exact w.elim)
end
end LW
set_option maxHeartbeats 200000
namespace LWZ
open PySem PySem.Spec PyProof.Rows L2
open Builtin.SmallTypes (nextOf nextOrEnd)

section
variable {prog : Program} {w : World} {A : Around} {E : Value → Shared → Prop} {s : Shared}
/-- a StopIteration is raised -/
theorem stop_raised {α : Type} {Q : α → Shared → Prop} (hh : A.handled = none) (hE : ∀ h' e, (∀ c o, s.heap.get? c = some o → h'.get? c = some o) → (∃ o, h'.get? e = some o ∧ o.cls = .type "StopIteration") → E (.ref e) { s with heap := h' }) :
    wpAny (model prog w) A (Builtin.SmallTypes.stopIteration : Sem α) Q E s := by
  unfold Builtin.SmallTypes.stopIteration
  refine wpAny_bind ?_
  simp only [newExc, newTuple]
  refine wpAny_bind (wpAny_newObj_type ?_ (by size_fits))
  refine wpAny_bind (m := firstArgMember _ _) (wpAny_of_eq (a := Value.none) (by first | rfl | (simp only [firstArgMember]; rfl)) ?_)
  refine wpAny_newObj_type ?_ (by size_fits)
  simp only [raiseNew]
  refine wpAny_bind (wpAny_handled ?_)
  rw [hh]
  refine wpAny_bind (wpAny_pure (wpAny_throw ?_))
  exact hE _ _ (fun c o e => Heap.get?_push_of_some _ (Heap.get?_push_of_some _ e)) ⟨_, Heap.get?_push_size _ rfl, rfl⟩

variable {it : Addr} {fp : List Addr} {n i : Nat} {P : Nat → Value → Prop} {St : Nat → Heap → Prop}
/-- one draw that may end -/
theorem draw_item {Q : Option Value → Shared → Prop} (D : Draws prog w A it fp n P St) (hi : i < n) (st : St i s.heap)
    (hQ : ∀ x h' tk, P i x → St (i + 1) h' → Heap.SameBut it s.heap h' → Q (some x) { s with heap := h', toks := tk }) : wpAny (model prog w) A (nextOrEnd (.ref it)) Q E s := by
  unfold Builtin.SmallTypes.nextOrEnd
  exact wpAny_bind (wpAny_attempt (D.item i s _ _ hi st fun x h' tk p q r => wpAny_pure (hQ x h' tk p q r)))
theorem draw_end {Q : Option Value → Shared → Prop} (D : Draws prog w A it fp n P St) (st : St n s.heap)
    (hQ : ∀ h', Heap.ExtBut it s.heap h' → Q none { s with heap := h' }) : wpAny (model prog w) A (nextOrEnd (.ref it)) Q E s := by
  unfold Builtin.SmallTypes.nextOrEnd
  refine wpAny_bind (wpAny_attempt (D.done s _ _ st fun h' e p q => ?_))
  obtain ⟨o, ho, hc⟩ := q
  exact wpAny_bind (wpAny_isInstance (T := "StopIteration") (b := true) ⟨o, ho, hc⟩ isSubtype_stop (wpAny_pure (hQ h' p)))
end

/-- a zip that is strict -/
abbrev ZS (h : Heap) (z T U : Addr) (f : Value) : Prop :=
  h.get? z = some { cls := .type "zip", dict := none, data := .fields #[f, .bool false, .bool true, .ref T, .ref U], slots := #[] }
abbrev Two (h : Heap) (T : Addr) (a b : Value) : Prop := h.get? T = some { cls := .type "tuple", data := .seq #[a, b] }
structure Sep (z T U i j : Addr) (fp fq : List Addr) : Prop where
  Tz : T ≠ z
  Uz : U ≠ z
  TU : T ≠ U
  Ti : T ≠ i
  Tj : T ≠ j
  mi : i ∈ fp
  mj : j ∈ fq
  zp : z ∉ fp
  zq : z ∉ fq
  Up : U ∉ fp
  Uq : U ∉ fq
  iq : i ∉ fq
  jp : j ∉ fp
section
variable {prog : Program} {w : World} {A : Around} {E : Value → Shared → Prop} {s : Shared} {z T U i j : Addr} {fp fq : List Addr} {n k : Nat} {P1 P2 : Nat → Value → Prop} {S1 S2 : Nat → Heap → Prop} {a b : Value}
theorem Sep.zi (S : Sep z T U i j fp fq) : z ≠ i := fun e => S.zp (e ▸ S.mi)
theorem Sep.zj (S : Sep z T U i j fp fq) : z ≠ j := fun e => S.zq (e ▸ S.mj)
theorem Sep.Ui (S : Sep z T U i j fp fq) : U ≠ i := fun e => S.Up (e ▸ S.mi)
theorem Sep.Uj (S : Sep z T U i j fp fq) : U ≠ j := fun e => S.Uq (e ▸ S.mj)
theorem put_two {x : Value} {m : Nat} {Q : Unit → Shared → Prop} (hT : Two s.heap U a b) (h : ∀ h', h'.get? U = some { cls := .type "tuple", data := .seq ((#[a, b] : Array Value).setIfInBounds m x) } → Heap.SameBut U s.heap h' → Q () { s with heap := h' }) :
    wpAny (model prog w) A (updateSeq U (·.setIfInBounds m x)) Q E s :=
  wpAny_updateSeq hT rfl (h _ (by rw [Heap.get?_update_self _ hT rfl]; simp [Obj.mapSeq]) (Heap.SameBut.update ..))

theorem zs_item {Q : Value → Shared → Prop} (S : Sep z T U i j fp fq) (D1 : Draws prog w A i fp n P1 S1) (D2 : Draws prog w A j fq n P2 S2) (hz : ZS s.heap z T U .none) (hT : Two s.heap T (.ref i) (.ref j)) (hU : Two s.heap U a b) (t1 : S1 k s.heap) (t2 : S2 k s.heap) (hk : k < n)
    (hQ : ∀ x y h' tk, P1 k x → P2 k y → ZS h' z T U (rawInt s.heap.objs.size) → Two h' U x y → S1 (k + 1) h' → S2 (k + 1) h' → Two h' s.heap.objs.size x y → (∀ c o, c ≠ z → c ≠ U → c ≠ i → c ≠ j → s.heap.get? c = some o → h'.get? c = some o) → Q (.ref s.heap.objs.size) { s with heap := h', toks := tk }) :
    wpAny (model prog w) A (Builtin.«zip.__next__» ⟨[.ref z], []⟩) (fun fin s' => ∃ v, fin = .done (.ret v) ∧ Q v s') E s := by
  obtain ⟨hp, g, d, tk0, os⟩ := s
  change wpAny _ _ (field (.ref z) 2 >>= _) _ _ _
  refine wpAny_bind (wpAny_field hz rfl (x := .bool true) rfl ?_)
  change wpAny _ _ (field (.ref z) 3 >>= _) _ _ _
  refine wpAny_bind (wpAny_field hz rfl (x := .ref T) rfl ?_)
  refine wpAny_bind (wpAny_seqItems hT rfl ?_)
  change wpAny _ _ (Builtin.SmallTypes.ownedTupleIsFree (.ref z) >>= _) _ _ _
  refine wpAny_bind ?_
  unfold Builtin.SmallTypes.ownedTupleIsFree
  refine wpAny_bind (wpAny_field hz rfl (x := .none) rfl (wpAny_pure ?_))
  simp only [if_true]
  refine wpAny_bind (wpAny_rule (wpAny_bind (wpAny_field hz rfl (x := .ref U) rfl (wpAny_bind (wpAny_setField_rec hz (by simp) fun g0 hz0 k0 => ?_)))))
  replace hz0 : ZS g0 z T U .ellipsis := hz0
  replace k0 : Heap.SameBut z hp g0 := k0
  refine wpAny_bind ?_
  simp only [List.zipIdx_cons, List.zipIdx_nil, List.forIn_cons, List.forIn_nil]
  refine wpAny_bind (wpAny_bind (wpAny_onRaise ?_))
  change wpAny _ _ (nextOrEnd (.ref i)) _ _ ⟨g0, g, d, tk0, os⟩
  refine draw_item D1 hk (D1.over t1 k0 S.zp) fun x p1 tk1 hx n1 k1 => ?_
  replace k1 : Heap.SameBut i g0 p1 := k1
  have u1 : Two p1 U a b := k1.extBut _ _ S.Ui (k0.extBut _ _ S.Uz hU)
  refine wpAny_bind (wpAny_seqItems (s := ⟨p1, g, d, tk1, os⟩) u1 rfl (wpAny_bind (put_two (s := ⟨p1, g, d, tk1, os⟩) u1 fun g1 hU1 k2 => ?_)))
  replace hU1 : Two g1 U x b := hU1
  replace k2 : Heap.SameBut U p1 g1 := k2
  refine wpAny_bind (wpAny_letGo (wpAny_pure (wpAny_bind (wpAny_bind (wpAny_onRaise ?_)))))
  show wpAny _ _ (nextOrEnd (.ref j)) _ _ ⟨g1, g, d, tk1, os⟩
  refine draw_item D2 hk (D2.over (D2.over (D2.over t2 k0 S.zq) k1 S.iq) k2 S.Uq) fun y p2 tk2 hy n2 k3 => ?_
  replace k3 : Heap.SameBut j g1 p2 := k3
  have u2 : Two p2 U x b := k3.extBut _ _ S.Uj hU1
  refine wpAny_bind (wpAny_seqItems (s := ⟨p2, g, d, tk2, os⟩) u2 rfl (wpAny_bind (put_two (s := ⟨p2, g, d, tk2, os⟩) u2 fun g2 hU2 k4 => ?_)))
  replace hU2 : Two g2 U x y := hU2
  replace k4 : Heap.SameBut U p2 g2 := k4
  refine wpAny_bind (wpAny_letGo (wpAny_pure (wpAny_pure ?_)))
  refine wpAny_bind (wpAny_seqItems (s := ⟨g2, g, d, tk2, os⟩) hU2 rfl (wpAny_bind (wpAny_newTuple ?_)))
  have hsz : g2.objs.size = hp.objs.size := by rw [k4.1, k3.1, k2.1, k1.1, k0.1]
  have hzz : ZS g2 z T U .ellipsis := k4.extBut _ _ S.Uz.symm (k3.extBut _ _ S.zj (k2.extBut _ _ S.Uz.symm (k1.extBut _ _ S.zi hz0)))
  have up0 : ∀ c o, c ≠ z → c ≠ U → c ≠ i → c ≠ j → hp.get? c = some o → g2.get? c = some o := fun c o cz cU ci cj e => k4.extBut _ _ cU (k3.extBut _ _ cj (k2.extBut _ _ cU (k1.extBut _ _ ci (k0.extBut _ _ cz e))))
  have m1 : S1 (k + 1) g2 := D1.over (D1.over (D1.over n1 k2 S.Up) k3 S.jp) k4 S.Up
  have m2 : S2 (k + 1) g2 := D2.over n2 k4 S.Uq
  have zlt : z < g2.objs.size := Heap.lt_size hzz
  show wpAny _ _ (Builtin.SmallTypes.ownedTupleHandOut (.ref z) (.ref g2.objs.size) >>= _) _ _ ⟨g2.push { cls := .type "tuple", data := .seq #[x, y] }, g, d, tk2, os⟩
  refine wpAny_bind ?_
  unfold Builtin.SmallTypes.ownedTupleHandOut
  have z6 : ZS (g2.push { cls := .type "tuple", data := .seq #[x, y] }) z T U .ellipsis := Heap.get?_push_of_some _ hzz
  refine wpAny_bind (wpAny_setField_rec z6 (by simp) fun h7 z7 k7 => ?_)
  replace z7 : ZS h7 z T U (rawInt g2.objs.size) := z7
  refine wpAny_setField_rec z7 (by simp) fun h8 z8 k8 => ?_
  replace z8 : ZS h8 z T U (rawInt g2.objs.size) := z8
  replace k7 : Heap.SameBut z (g2.push { cls := .type "tuple", data := .seq #[x, y] }) h7 := k7
  replace k8 : Heap.SameBut z h7 h8 := k8
  have up : ∀ c o, c ≠ z → g2.get? c = some o → h8.get? c = some o := fun c o cz e => k8.extBut _ _ cz (k7.extBut _ _ cz (Heap.get?_push_of_some _ e))
  have t8 : Two h8 g2.objs.size x y := k8.extBut _ _ (Nat.ne_of_gt zlt) (k7.extBut _ _ (Nat.ne_of_gt zlt) (Heap.get?_push_size _ rfl))
  rw [hsz] at z8 t8
  refine wpAny_pure ⟨_, rfl, ?_⟩
  show Q (.ref g2.objs.size) ⟨h8, g, d, tk2, os⟩
  rw [hsz]
  exact hQ x y h8 tk2 hx hy z8 (up _ _ S.Uz hU2) (D1.frame _ _ _ m1 fun c hc o e => up c o (fun q => S.zp (q ▸ hc)) e) (D2.frame _ _ _ m2 fun c hc o e => up c o (fun q => S.zq (q ▸ hc)) e) t8 fun c o cz cU ci cj e => up c o cz (up0 c o cz cU ci cj e)

theorem zs_end {Q : Fin → Shared → Prop} (hh : A.handled = none) (S : Sep z T U i j fp fq) (D1 : Draws prog w A i fp n P1 S1) (D2 : Draws prog w A j fq n P2 S2) (hz : ZS s.heap z T U .none) (hT : Two s.heap T (.ref i) (.ref j)) (hU : Two s.heap U a b) (t1 : S1 n s.heap) (t2 : S2 n s.heap)
    (hE : ∀ h' e, (∀ c o, c ≠ z → c ≠ U → c ≠ i → c ≠ j → s.heap.get? c = some o → h'.get? c = some o) → (∃ o, h'.get? e = some o ∧ o.cls = .type "StopIteration") → E (.ref e) { s with heap := h' }) :
    wpAny (model prog w) A (Builtin.«zip.__next__» ⟨[.ref z], []⟩) Q E s := by
  obtain ⟨hp, g, d, tk0, os⟩ := s
  change wpAny _ _ (field (.ref z) 2 >>= _) _ _ _
  refine wpAny_bind (wpAny_field hz rfl (x := .bool true) rfl ?_)
  change wpAny _ _ (field (.ref z) 3 >>= _) _ _ _
  refine wpAny_bind (wpAny_field hz rfl (x := .ref T) rfl ?_)
  refine wpAny_bind (wpAny_seqItems hT rfl ?_)
  change wpAny _ _ (Builtin.SmallTypes.ownedTupleIsFree (.ref z) >>= _) _ _ _
  refine wpAny_bind ?_
  unfold Builtin.SmallTypes.ownedTupleIsFree
  refine wpAny_bind (wpAny_field hz rfl (x := .none) rfl (wpAny_pure ?_))
  simp only [if_true]
  refine wpAny_bind (wpAny_rule (wpAny_bind (wpAny_field hz rfl (x := .ref U) rfl (wpAny_bind (wpAny_setField_rec hz (by simp) fun g0 hz0 k0 => ?_)))))
  replace hz0 : ZS g0 z T U .ellipsis := hz0
  replace k0 : Heap.SameBut z hp g0 := k0
  refine wpAny_bind ?_
  simp only [List.zipIdx_cons, List.zipIdx_nil, List.forIn_cons, List.forIn_nil]
  refine wpAny_bind (wpAny_bind (wpAny_onRaise ?_))
  change wpAny _ _ (nextOrEnd (.ref i)) _ _ ⟨g0, g, d, tk0, os⟩
  refine draw_end D1 (D1.over t1 k0 S.zp) fun p1 k1 => ?_
  replace k1 : Heap.ExtBut i g0 p1 := k1
  have z1 : ZS p1 z T U .ellipsis := k1 _ _ S.zi hz0
  refine wpAny_bind (wpAny_setField_rec (s := ⟨p1, g, d, tk0, os⟩) z1 (by simp) fun g1 _ k2 => ?_)
  replace k2 : Heap.SameBut z p1 g1 := k2
  refine wpAny_bind ?_
  change wpAny _ _ (forIn (([Value.ref i, Value.ref j].drop 1).zipIdx 1) _ _ >>= _) _ _ _
  simp only [List.drop_succ_cons, List.drop_zero, List.zipIdx_cons, List.zipIdx_nil, List.forIn_cons, List.forIn_nil]
  refine wpAny_bind (wpAny_bind (wpAny_bind ?_))
  have d2 : S2 n g1 := D2.over (D2.frame _ _ _ (D2.over t2 k0 S.zq) fun c hc o e => k1 _ _ (fun q => S.iq (q ▸ hc)) e) k2 S.zq
  refine draw_end (s := ⟨g1, g, d, tk0, os⟩) D2 d2 fun p2 k3 => ?_
  replace k3 : Heap.ExtBut j g1 p2 := k3
  rw [if_neg (by decide)]
  refine wpAny_pure (wpAny_pure (wpAny_bind (wpAny_rule (stop_raised hh fun h' e k4 he => ?_))))
  exact hE h' e (fun c o cz cU ci cj q => k4 _ _ (k3 _ _ cj (k2.extBut _ _ cz (k1 _ _ ci (k0.extBut _ _ cz q))))) he
theorem zs_next {Q : Option Value → Shared → Prop} (S : Sep z T U i j fp fq) (D1 : Draws prog w A.in1 i fp n P1 S1) (D2 : Draws prog w A.in1 j fq n P2 S2) (hz : ZS s.heap z T U .none) (hT : Two s.heap T (.ref i) (.ref j)) (hU : Two s.heap U a b) (t1 : S1 k s.heap) (t2 : S2 k s.heap) (hk : k < n)
    (hQ : ∀ x y h' tk, P1 k x → P2 k y → ZS h' z T U (rawInt s.heap.objs.size) → Two h' U x y → S1 (k + 1) h' → S2 (k + 1) h' → Two h' s.heap.objs.size x y → (∀ c o, c ≠ z → c ≠ U → c ≠ i → c ≠ j → s.heap.get? c = some o → h'.get? c = some o) → Q (some (.ref s.heap.objs.size)) { s with heap := h', toks := tk }) :
    wpAny (model prog w) A (pyNext (.ref z)) Q E s := by
  have ty : s.TypeIs (.ref z) "zip" := ⟨_, hz, rfl⟩
  unfold pyNext
  refine wpAny_bind (wpAny_attempt (wpAny_callSpecial?_slot (name := Str.ofString "__next__") ty F.slot_zip_next (wpAny_call_entry F.slot_zip_next ty F.entry_zip_next ?_ (F.args_zip_next_1 _))))
  exact zs_item S D1 D2 hz hT hU t1 t2 hk fun x y h' tk y1 y2 c1 c2 c3 c4 c5 c6 => wpAny_pure (hQ x y h' tk y1 y2 c1 c2 c3 c4 c5 c6)
theorem zs_stop {Q : Option Value → Shared → Prop} (hh : A.handled = none) (S : Sep z T U i j fp fq) (D1 : Draws prog w A.in1 i fp n P1 S1) (D2 : Draws prog w A.in1 j fq n P2 S2) (hz : ZS s.heap z T U .none) (hT : Two s.heap T (.ref i) (.ref j)) (hU : Two s.heap U a b) (t1 : S1 n s.heap) (t2 : S2 n s.heap)
    (hQ : ∀ h', (∀ c o, c ≠ z → c ≠ U → c ≠ i → c ≠ j → s.heap.get? c = some o → h'.get? c = some o) → Q none { s with heap := h' }) : wpAny (model prog w) A (pyNext (.ref z)) Q E s := by
  have ty : s.TypeIs (.ref z) "zip" := ⟨_, hz, rfl⟩
  unfold pyNext
  refine wpAny_bind (wpAny_attempt (wpAny_callSpecial?_slot (name := Str.ofString "__next__") ty F.slot_zip_next (wpAny_call_entry F.slot_zip_next ty F.entry_zip_next (zs_end (show A.in1.handled = none from hh) S D1 D2 hz hT hU t1 t2 fun h' e hk he => ?_) (F.args_zip_next_1 _))))
  obtain ⟨o, ho, hc⟩ := he
  exact wpAny_bind (wpAny_isInstance (T := "StopIteration") (b := true) ⟨o, ho, hc⟩ isSubtype_stop (wpAny_pure (hQ _ hk)))
theorem zs_go {elts : List Expr} {x1 : Nat} {pos : Pos} {t : Addr} {Q : Unit → Shared → Prop} (hz : ZS s.heap z T U (rawInt t)) (hQ : ∀ h', ZS h' z T U .none → Heap.SameBut z s.heap h' → Q () { s with heap := h' }) :
    wpAny (model prog w) A (letOwnedTupleGo (.Tuple elts x1 pos) (.ref z) (.ref t)) Q E s := by
  unfold letOwnedTupleGo
  refine wpAny_bind (wpAny_load hz ?_)
  dsimp only
  rw [if_pos (by simp)]
  refine wpAny_bind (wpAny_rule ?_)
  change wpAny _ _ (setField (.ref z) 0 .none) Q E s
  exact wpAny_setField_rec hz (by simp) fun h' a1 a2 => hQ h' a1 a2
theorem zs_self {f : Value} {Q : Value → Shared → Prop} (hz : ZS s.heap z T U f) (h : Q (.ref z) s) : wpAny (model prog w) A (pyIter (.ref z)) Q E s := by
  have ty : s.TypeIs (.ref z) "zip" := ⟨_, hz, rfl⟩
  refine wpAny_pyIter_slot ty F.slot_zip_iter (wpAny_call_entry F.slot_zip_iter ty F.entry_zip_iter ?_ (F.args_zip_iter_1 _))
  exact wpAny_pure ⟨_, rfl, "zip", _, ty, F.slot_zip_next.lookup, h⟩
/-- the walk of a strict zip of two of one length -/
theorem walks_strict (hh : A.handled = none) (S : Sep z T U i j fp fq) (D1 : Draws prog w A.in1 i fp n P1 S1) (D2 : Draws prog w A.in1 j fq n P2 S2) :
    WalksT prog w A z (z :: T :: U :: (fp ++ fq)) [z, U, i, j] n (fun k vals => ∃ x y, P1 k x ∧ P2 k y ∧ vals = #[x, y])
      (fun k h => ZS h z T U .none ∧ Two h T (.ref i) (.ref j) ∧ (∃ a b, Two h U a b) ∧ S1 k h ∧ S2 k h)
      (fun k t h => ZS h z T U (rawInt t) ∧ Two h T (.ref i) (.ref j) ∧ (∃ a b, Two h U a b) ∧ S1 (k + 1) h ∧ S2 (k + 1) h ∧ t ≠ z ∧ t ≠ U ∧ t ≠ i ∧ t ≠ j) where
  sub := fun c hc => by
    have hc' : c = z ∨ c = U ∨ c = i ∨ c = j := by simpa using hc
    have := S.mi
    have := S.mj
    rcases hc' with rfl | rfl | rfl | rfl <;> simp [*]
  frame := fun k h h' st hk => by
    obtain ⟨hz, hT, ⟨a, b, hU⟩, t1, t2⟩ := st
    exact ⟨hk z (by simp) _ hz, hk T (by simp) _ hT, ⟨a, b, hk U (by simp) _ hU⟩, D1.frame _ _ _ t1 fun c hc o e => hk c (by simp [hc]) o e, D2.frame _ _ _ t2 fun c hc o e => hk c (by simp [hc]) o e⟩
  item := fun k s Q E hk st hQ => by
    obtain ⟨hz, hT, ⟨a, b, hU⟩, t1, t2⟩ := st
    have lt : ∀ {c o}, s.heap.get? c = some o → s.heap.objs.size ≠ c := fun e => Nat.ne_of_gt (Heap.lt_size e)
    have l1 : s.heap.objs.size ≠ i := by obtain ⟨_, e⟩ := D1.live _ _ t1; exact lt e
    have l2 : s.heap.objs.size ≠ j := by obtain ⟨_, e⟩ := D2.live _ _ t2; exact lt e
    refine zs_next S D1 D2 hz hT hU t1 t2 hk fun x y h' tk y1 y2 c1 c2 c3 c4 c5 kk => ?_
    exact hQ s.heap.objs.size #[x, y] h' tk ⟨x, y, y1, y2, rfl⟩ (Nat.le_refl _) ⟨_, c5, rfl, _, rfl⟩ ⟨c1, kk _ _ S.Tz S.TU S.Ti S.Tj hT, ⟨_, _, c2⟩, c3, c4, lt hz, lt hU, l1, l2⟩
      fun c o hc e => by
        have hc' : c ≠ z ∧ c ≠ U ∧ c ≠ i ∧ c ≠ j := by simpa using hc
        exact kk c o hc'.1 hc'.2.1 hc'.2.2.1 hc'.2.2.2 e
  go := fun elts x1 pos k t s Q E st hQ => by
    obtain ⟨hz, hT, ⟨a, b, hU⟩, t1, t2, _⟩ := st
    exact zs_go hz fun h' z' k' => hQ h' ⟨z', k'.extBut _ _ S.Tz hT, ⟨a, b, k'.extBut _ _ S.Uz hU⟩, D1.over t1 k' S.zp, D2.over t2 k' S.zq⟩ fun c o hc e => k'.extBut _ _ (fun q => hc (by simp [q])) e
  apart := fun k t h st hc => by
    obtain ⟨_, _, _, _, _, n1, n2, n3, n4⟩ := st
    have hc' : t = z ∨ t = U ∨ t = i ∨ t = j := by simpa using hc
    rcases hc' with e | e | e | e
    · exact n1 e
    · exact n2 e
    · exact n3 e
    · exact n4 e
  done := fun s Q E st hQ => by
    obtain ⟨hz, hT, ⟨a, b, hU⟩, t1, t2⟩ := st
    refine zs_stop hh S D1 D2 hz hT hU t1 t2 fun h' kk => hQ h' s.toks fun c o hc e => ?_
    have hc' : c ≠ z ∧ c ≠ U ∧ c ≠ i ∧ c ≠ j := by simpa using hc
    exact kk c o hc'.1 hc'.2.1 hc'.2.2.1 hc'.2.2.2 e
  self := fun k s Q E st hQ => zs_self st.1 hQ
end

namespace F
theorem tc (a b : Value) : checkTypeCall "zip" ⟨[a, b], [(Str.ofString "strict", .bool true)]⟩ = pure () := by kernel_rfl
theorem nc (a b : Value) : checkBuiltinCall "zip.__new__" ⟨[.type "zip", a, b], [(Str.ofString "strict", .bool true)]⟩ = pure () := by kernel_rfl
theorem ac (obj a b : Value) : argsOk "object.__init__" ⟨[obj, a, b], [(Str.ofString "strict", .bool true)]⟩ := by unfold argsOk; kernel_rfl
end F
abbrev h3 (h : Heap) (o p : Obj) : Heap := ((h.push o).push p).push { cls := .type "tuple", data := .seq #[.ref h.objs.size, .ref (h.push o).objs.size] }
abbrev h4 (h : Heap) (o p : Obj) : Heap := (h3 h o p).push { cls := .type "tuple", data := .seq #[.none, .none] }
abbrev h5 (h : Heap) (o p : Obj) : Heap := (h4 h o p).push { cls := .type "zip", data := .fields #[.none, .bool false, .bool true, .ref ((h.push o).push p).objs.size, .ref (h3 h o p).objs.size] }
theorem new_strict {v u : Value} {o p : Obj} {G1 G2 : Heap → Prop} (B1 : Begins v o G1) (B2 : Begins u p G2) :
    Meets (Builtin.«zip.__new__» ⟨[.type "zip", v, u], [(Str.ofString "strict", .bool true)]⟩) (fun _ R s => (G1 s.heap ∧ G2 s.heap) ∧ R (.ok (.ret (.ref (h4 s.heap o p).objs.size))) { s with heap := h5 s.heap o p }) :=
  .of_wp fun prog w A R s h => by
    obtain ⟨hp, g, d, tk, os⟩ := s
    obtain ⟨⟨k1, k2⟩, h⟩ := h
    have hsub := sub_zip
    have e2 : (Str.ofString "strict" != ("strict" : Str)) = false := by decide +kernel
    have e3 : (Str.ofString "strict" == ("strict" : Str)) = true := by decide +kernel
    have b1 : ∀ {A' : Around} {E : Value → Shared → Prop} {Q : Value → Shared → Prop}, Q (.ref hp.objs.size) ⟨hp.push o, g, d, tk, os⟩ → wpAny (model prog w) A' (pyIter v) Q E ⟨hp, g, d, tk, os⟩ :=
      fun q => B1.iter prog w _ _ ⟨hp, g, d, tk, os⟩ _ k1 q
    have b2 : ∀ {A' : Around} {E : Value → Shared → Prop} {Q : Value → Shared → Prop}, Q (.ref (hp.push o).objs.size) ⟨(hp.push o).push p, g, d, tk, os⟩ → wpAny (model prog w) A' (pyIter u) Q E ⟨hp.push o, g, d, tk, os⟩ :=
      fun q => B2.iter prog w _ _ ⟨hp.push o, g, d, tk, os⟩ _ (B2.keeps _ _ k2 fun b o' e => Heap.get?_push_of_some _ e) q
    wp_walk using b1, b2
    exact ⟨_, rfl, h⟩
section
variable {prog : Program} {w : World} {A : Around} {E : Value → Shared → Prop} {s : Shared}
theorem strict_made {v u : Value} {o p : Obj} {G1 G2 : Heap → Prop} {Q : Value → Shared → Prop} (B1 : Begins v o G1) (B2 : Begins u p G2) (k1 : G1 s.heap) (k2 : G2 s.heap)
    (h : ∀ h', ZS h' (s.heap.objs.size + 4) (s.heap.objs.size + 2) (s.heap.objs.size + 3) .none → Two h' (s.heap.objs.size + 2) (.ref s.heap.objs.size) (.ref (s.heap.objs.size + 1)) → Two h' (s.heap.objs.size + 3) .none .none →
      h'.get? s.heap.objs.size = some o → h'.get? (s.heap.objs.size + 1) = some p → (∀ c o, s.heap.get? c = some o → h'.get? c = some o) → Q (.ref (s.heap.objs.size + 4)) { s with heap := h' }) :
    wpAny (model prog w) A (call (.type "zip") [v, u] [(Str.ofString "strict", .bool true)]) Q E s := by
  refine callType_newKw PySem.F.called_zip (by decide) (F.tc _ _) (F.nc _ _) (fun obj => F.ac obj _ _) PySem.F.entry_zip_new (new_strict B1 B2) ⟨⟨k1, k2⟩, ?_⟩
  have z1 : (s.heap.push o).objs.size = s.heap.objs.size + 1 := by rw [Heap.size_push]
  have z2 : ((s.heap.push o).push p).objs.size = s.heap.objs.size + 2 := by rw [Heap.size_push, z1]
  have z3 : (h3 s.heap o p).objs.size = s.heap.objs.size + 3 := by rw [Heap.size_push, z2]
  have z4 : (h4 s.heap o p).objs.size = s.heap.objs.size + 4 := by rw [Heap.size_push, z3]
  have g5 : (h5 s.heap o p).get? (h4 s.heap o p).objs.size = some _ := Heap.get?_push_size _ rfl
  have g4 : (h5 s.heap o p).get? (h3 s.heap o p).objs.size = some _ := Heap.get?_push_of_some _ (Heap.get?_push_size _ rfl)
  have g3 : (h5 s.heap o p).get? ((s.heap.push o).push p).objs.size = some _ := Heap.get?_push_of_some _ (Heap.get?_push_of_some _ (Heap.get?_push_size _ rfl))
  have g2 : (h5 s.heap o p).get? (s.heap.push o).objs.size = some _ := Heap.get?_push_of_some _ (Heap.get?_push_of_some _ (Heap.get?_push_of_some _ (Heap.get?_push_size _ B2.free)))
  have g1 : (h5 s.heap o p).get? s.heap.objs.size = some _ := Heap.get?_push_of_some _ (Heap.get?_push_of_some _ (Heap.get?_push_of_some _ (Heap.get?_push_of_some _ (Heap.get?_push_size _ B1.free))))
  change _ ∧ _
  rw [z2, z3, z4] at g5
  rw [z1, z2] at g3
  rw [z3] at g4
  rw [z1] at g2
  rw [z4]
  exact ⟨⟨_, g5, rfl⟩, h _ g5 g3 g4 g1 g2 fun c o q => Heap.get?_push_of_some _ (Heap.get?_push_of_some _ (Heap.get?_push_of_some _ (Heap.get?_push_of_some _ (Heap.get?_push_of_some _ q))))⟩
end
set_option maxHeartbeats 1000000 in
theorem new_enum {v : Value} {o : Obj} {G : Heap → Prop} (B : Begins v o G) :
    Meets (Builtin.«enumerate.__new__» ⟨[.type "enumerate", v], []⟩) (fun _ R s => G s.heap ∧
      R (.ok (.ret (.ref (s.heap.push o).objs.size))) { s with heap := (s.heap.push o).push { cls := .type "enumerate", data := .fields #[.none, .bool false, .ref s.heap.objs.size, rawInt 0, .none, .none] } }) :=
  .of_wp fun prog w A R s h => by
    obtain ⟨hp, g, d, tk, os⟩ := s
    obtain ⟨k1, h⟩ := h
    have hsub := sub_enumerate
    have b1 : ∀ {A' : Around} {E : Value → Shared → Prop} {Q : Value → Shared → Prop}, Q (.ref hp.objs.size) ⟨hp.push o, g, d, tk, os⟩ → wpAny (model prog w) A' (pyIter v) Q E ⟨hp, g, d, tk, os⟩ :=
      fun q => B.iter prog w _ _ ⟨hp, g, d, tk, os⟩ _ k1 q
    wp_walk using b1
    refine wpAny_stack_any fun st => wpAny_pure ?_
    split
    · rename_i c _ _ _ _ _
      cases (c == Value.type "enumerate") <;> (wp_walk using b1; exact ⟨_, rfl, h⟩)
    · wp_walk using b1
      exact ⟨_, rfl, h⟩
section
variable {prog : Program} {w : World} {A : Around} {E : Value → Shared → Prop} {s : Shared}
theorem enum_made {v : Value} {o : Obj} {G : Heap → Prop} {Q : Value → Shared → Prop} (B : Begins v o G) (k1 : G s.heap)
    (h : ∀ h', IsEnum h' (s.heap.objs.size + 1) s.heap.objs.size 0 .none → h'.get? s.heap.objs.size = some o → (∀ b o, s.heap.get? b = some o → h'.get? b = some o) → Q (.ref (s.heap.objs.size + 1)) { s with heap := h' }) :
    wpAny (model prog w) A (call (.type "enumerate") [v]) Q E s := by
  refine callType_new PySem.F.called_enumerate (by decide) (PySem.F.typeCall_enumerate_1 _) (PySem.F.newCall_enumerate_1 _) (fun obj => PySem.F.args_object_init_2 obj _) PySem.F.entry_enumerate_new (new_enum B) ⟨k1, ?_⟩
  have hz : (s.heap.push o).objs.size = s.heap.objs.size + 1 := Heap.size_push ..
  change _ ∧ _
  rw [hz]
  have he : IsEnum ((s.heap.push o).push { cls := .type "enumerate", data := .fields #[.none, .bool false, .ref s.heap.objs.size, rawInt 0, .none, .none] }) (s.heap.objs.size + 1) s.heap.objs.size 0 .none := by
    have q := Heap.get?_push_size (s.heap.push o) (o := { cls := .type "enumerate", data := .fields #[.none, .bool false, .ref s.heap.objs.size, rawInt 0, .none, .none] }) rfl
    rw [hz] at q
    exact q
  exact ⟨⟨_, he, rfl⟩, h _ he (Heap.get?_push_of_some _ (Heap.get?_push_size _ B.free)) fun b o q => Heap.get?_push_of_some _ (Heap.get?_push_of_some _ q)⟩
end
end LWZ
set_option maxHeartbeats 200000
namespace LW
open PySem PySem.Spec PyProof.Rows L2

/-- a list or a tuple that is read, by its kind -/
def SqB (t : Bool) (K : PySem.W.Frag) (H : Hp) (a : Addr) (xs : List V) : Prop := match t with
  | true => SqT K H a xs
  | false => SqL K H a xs
def ItB (t : Bool) (h : Heap) (it a : Addr) (i : Nat) : Prop := match t with
  | true => h.IsTupleIter it a i
  | false => h.IsListIter it a i
def CtB (t : Bool) (h : Heap) (a : Addr) (its : Array Value) : Prop := match t with
  | true => h.IsTuple a its
  | false => h.IsList a its
def itObj (t : Bool) (a : Addr) : Obj := match t with
  | true => { cls := .type "tuple_iterator", data := .fields #[.ref a, .int 0 0] }
  | false => { cls := .type "list_iterator", data := .fields #[.ref a, .int 0 0] }
theorem SqB.mono {t : Bool} {K : PySem.W.Frag} {H H' : Hp} {a : Addr} {xs : List V} (e : ∀ b o, H b = some o → H' b = some o) (h : SqB t K H a xs) : SqB t K H' a xs := by
  cases t with
  | true => exact Same.seqT e h
  | false => exact Same.seq e h
theorem ItB.obj {t : Bool} {h : Heap} {it a : Addr} {i : Nat} (x : ItB t h it a i) : ∃ o, h.get? it = some o ∧ ∀ v, o.data ≠ .cell v := by
  cases t with
  | true => obtain ⟨o, e, c, d⟩ := x; exact ⟨o, e, fun v z => by rw [d] at z; cases z⟩
  | false => obtain ⟨o, e, c, d⟩ := x; exact ⟨o, e, fun v z => by rw [d] at z; cases z⟩
theorem ItB.keep {t : Bool} {h h' : Heap} {it a : Addr} {i : Nat} (x : ItB t h it a i) (k : ∀ o, h.get? it = some o → h'.get? it = some o) : ItB t h' it a i := by
  cases t with
  | true => exact Heap.IsTupleIter.at x k
  | false => exact Heap.IsListIter.at x k
theorem ItB.lt {t : Bool} {h : Heap} {it a : Addr} {i : Nat} (x : ItB t h it a i) : it < h.objs.size := by
  obtain ⟨o, e, _⟩ := x.obj
  exact Heap.lt_size e
theorem itB_new {t : Bool} {h : Heap} {it a : Addr} (e : h.get? it = some (itObj t a)) : ItB t h it a 0 := by
  cases t with
  | true => exact ⟨_, e, rfl, rfl⟩
  | false => exact ⟨_, e, rfl, rfl⟩
section
variable {X : Cx} {pins : List (Addr × Obj)} {σ : L2.St} {H : Hp} {s : Shared} {a : Addr} {xs ys : List V} {t : Bool}
theorem sqB_read (I : Inv X pins σ H s) (h : SqB t X.K H a xs) : ∃ its : List Value, Vals xs its ∧ CtB t s.heap a its.toArray ∧ a < s.heap.objs.size := by
  cases t with
  | true =>
    obtain ⟨its, r, p, _⟩ := I.tuple h
    exact ⟨its, r, p, p.lt⟩
  | false =>
    obtain ⟨its, r, p, _⟩ := I.list h
    exact ⟨its, r, p.isList, p.lt⟩
end
theorem drawsB {prog : Program} {w : World} {A : Around} (hh : A.handled = none) (t : Bool) (it l : Addr) (hne : l ≠ it) (items : Array Value) :
    Draws prog w A it [it, l] items.size (fun i v => items[i]? = some v) (fun i h => ItB t h it l i ∧ CtB t h l items) := by
  cases t with
  | true => exact Draws.tuple hh it l hne items
  | false => exact Draws.list hh it l hne items
theorem beginsB (t : Bool) (l : Addr) (items : Array Value) : Begins (.ref l) (itObj t l) fun h => CtB t h l items := by
  cases t with
  | true => exact begins_tuple l items
  | false => exact begins_list l items

/-- n new tuples, the i-th holds vals i, while C stands -/
def Itq (n : Nat) (C : Hp → Prop) (vals : Nat → List V) : It :=
  ⟨fun i H => C H ∧ i < n, fun i H v H' => ∃ T, v = .ref T ∧ H T = none ∧ H' = upd H T (.tup (vals i)), fun i H => C H ∧ n ≤ i⟩
theorem turn_gen {P : Program} {w : World} {K : PySem.W.Frag} {elts : List Expr} {kk : Nat} {tpos : Pos} {it : Addr} {fp : List Addr} {tn : Nat → Heap → Prop} {n : Nat} {C : Hp → Prop} {vals : Nat → List V} (mem : it ∈ fp) (hn : ∀ i h, tn i h → i ≤ n) (hv : ∀ i, (vals i).length ≤ sizeLine)
    (obj : ∀ i h, tn i h → ∀ b ∈ fp, ∃ o, h.get? b = some o ∧ ∀ v, o.data ≠ .cell v)
    (keep : ∀ i h h', tn i h → (∀ b ∈ fp, ∀ o, h.get? b = some o → h'.get? b = some o) → tn i h')
    (self : ∀ (A : Around) (i : Nat) (s : Shared) (Q : Value → Shared → Prop) (E : Value → Shared → Prop), tn i s.heap → Q (.ref it) s → wpAny (model P w) A (pyIter (.ref it)) Q E s)
    (step : ∀ (X : Cx), X.prog = P → X.w = w → X.K = K → X.calm = true → ∀ (i : Nat) (pins : List (Addr × Obj)) (s : Shared) (σ : L2.St) (H : Hp), Inv X pins σ H s → tn i s.heap → C H →
      ∃ (wr fp' : List Addr) (Pt : Nat → Array Value → Prop) (St : Nat → Heap → Prop) (Mid : Nat → Addr → Heap → Prop), WalksT P w X.A it fp' wr n Pt St Mid ∧ St i s.heap ∧ (∀ h', i < n → St (i + 1) h' → tn (i + 1) h') ∧ (∀ j vs, Pt j vs → Vals (vals j) vs.toList) ∧ ∀ b ∈ wr, b ∈ fp) :
    Turn P w K (.Tuple elts kk tpos) (Itq n C vals) fp it tn where
  mem := mem
  obj := obj
  keep := keep
  self := self
  item := by
    intro X hP hw hK hc i pins s σ H E I hf st hg
    obtain ⟨hC, hi⟩ := hg
    obtain ⟨wr, fp', Pt, St, Mid, W, s0, s1, hv', hwr⟩ := step X hP hw hK hc i pins s σ H I st hC
    subst hP hw hK
    refine W.item i s _ _ hi s0 fun T vs h1 tk hp hT ht hm k1 => ?_
    refine ⟨.ref T, rfl, W.go elts kk tpos i T { s with heap := h1, toks := tk } _ _ hm fun h2 s2 k2 => ?_⟩
    have kk' : ∀ b o, b ∉ wr → s.heap.get? b = some o → h2.get? b = some o := fun b o hb e => k2 b o hb (k1 b o hb e)
    have nT : T ∉ wr := W.apart i T h1 hm
    have r := hv' i vs hp
    have new : ObjOk X.prog X.w (upd H T (.tup (vals i))) h2 T (.tup (vals i)) := by
      refine ⟨hv i, vs.toList, r, ?_⟩
      obtain ⟨o, e, c1, c2⟩ := ht
      exact ⟨o, k2 T o nT e, c1, by simpa using c2⟩
    have I1 : Inv X pins σ (upd H T (.tup (vals i))) { s with heap := h2, toks := tk } := I.turnedNew (ch := wr) kk' (fun b hb => hf b (hwr b hb)) hT new
    refine ⟨.ref T, _, I1, rfl, ⟨T, rfl, I.hok.fresh hT, rfl⟩, s1 h2 hi s2, fun b hb => ?_⟩
    obtain ⟨o, e, _⟩ := obj i s.heap st b hb
    rw [upd_ne (Nat.ne_of_lt (Nat.lt_of_lt_of_le (Heap.lt_size e) hT))]
    exact (hf b hb).1
  done := by
    intro X hP hw hK hc i pins s σ H E I hf st hg
    obtain ⟨hC, hi⟩ := hg
    have e : i = n := Nat.le_antisymm (hn i _ st) hi
    obtain ⟨wr, fp', Pt, St, Mid, W, s0, s1, hv', hwr⟩ := step X hP hw hK hc i pins s σ H I st hC
    subst hP hw hK e
    exact W.done s _ _ s0 fun h' tk k => ⟨rfl, I.turnedL k fun b hb => hf b (hwr b hb)⟩

/-- the pairs of a zip -/
def zV (xs ys : List V) (i : Nat) : List V := [xs.getD i .non, ys.getD i .non]
abbrev zIs (b : Bool) (h : Heap) (z T U : Addr) (f : Value) : Prop := h.get? z = some { cls := .type "zip", dict := none, data := .fields #[f, .bool false, .bool b, .ref T, .ref U], slots := #[] }
theorem vals_at {xs : List V} {its : List Value} (r : Vals xs its) {i : Nat} {u : Value} (h : its.toArray[i]? = some u) : RelV (xs.getD i .non) u := by
  have h' : its[i]? = some u := by simpa using h
  have l := r.length
  have hi : i < its.length := (List.getElem?_eq_some_iff.mp h').1
  have e : xs[i]? = some (xs[i]'(by omega)) := by simp
  obtain ⟨u', e1, r1⟩ := r.get e
  rw [h'] at e1
  cases e1
  rw [List.getD_eq_getElem?_getD, e]
  exact r1
theorem nm (z p q : Nat) (h1 : z ≠ p) (h2 : z ≠ q) : z ∉ [p, q] := by simp [h1, h2]
theorem zip_sep1 (a1 a2 m : Nat) {z T U i1 i2 : Nat} (g1 : a1 < m) (g2 : a2 < m) (e1 : i1 = m) (e2 : i2 = m + 1) (e3 : T = m + 2) (e4 : U = m + 3) (e5 : z = m + 4) : LWZ.Sep z T U i1 i2 [i1, a1] [i2, a2] := by
  subst e1 e2 e3 e4 e5
  refine ⟨?_, ?_, ?_, ?_, ?_, by simp, by simp, nm _ _ _ ?_ ?_, nm _ _ _ ?_ ?_, nm _ _ _ ?_ ?_, nm _ _ _ ?_ ?_, nm _ _ _ ?_ ?_, nm _ _ _ ?_ ?_⟩ <;> (first | exact Nat.ne_of_gt (by omega) | exact Nat.ne_of_lt (by omega))
theorem zip_sep2 (a1 a2 m : Nat) {z T U i1 i2 : Nat} (g1 : a1 < m) (g2 : a2 < m) (e1 : i1 = m) (e2 : i2 = m + 1) (e3 : T = m + 2) (e4 : U = m + 3) (e5 : z = m + 4) : ZipSep2 z T U i1 i2 [i1, a1] [i2, a2] := by
  subst e1 e2 e3 e4 e5
  refine ⟨?_, ?_, ?_, ?_, by simp, nm _ _ _ ?_ ?_, nm _ _ _ ?_ ?_, ?_, by simp, nm _ _ _ ?_ ?_, nm _ _ _ ?_ ?_, nm _ _ _ ?_ ?_, nm _ _ _ ?_ ?_⟩ <;> (first | exact Nat.ne_of_gt (by omega) | exact Nat.ne_of_lt (by omega))
theorem turn_zipB {P : Program} {w : World} {K : PySem.W.Frag} {elts : List Expr} {kk : Nat} {tpos : Pos} {b t1 t2 : Bool} {a1 a2 z T U i1 i2 m : Addr} {xs ys : List V} (hl : b = true → xs.length = ys.length) (hm : a1 < m ∧ a2 < m ∧ i1 = m ∧ i2 = m + 1 ∧ T = m + 2 ∧ U = m + 3 ∧ z = m + 4) :
    Turn P w K (.Tuple elts kk tpos) (Itq (min xs.length ys.length) (fun H => SqB t1 K H a1 xs ∧ SqB t2 K H a2 ys) (zV xs ys)) [z, T, U, i1, i2] z
      (fun i h => i ≤ min xs.length ys.length ∧ zIs b h z T U .none ∧ LWZ.Two h T (.ref i1) (.ref i2) ∧ (∃ x y, LWZ.Two h U x y) ∧ ItB t1 h i1 a1 i ∧ ItB t2 h i2 a2 i) := by
  obtain ⟨g1, g2, e1, e2, e3, e4, e5⟩ := hm
  refine turn_gen (by simp) (fun i h st => st.1) (fun i => by show 2 ≤ sizeLine; decide) (fun i h st c hc => ?_) (fun i h h' st k => ?_) (fun A i s Q E st h => ?_) ?_
  · obtain ⟨_, hz, hT, ⟨x, y, hU⟩, h1, h2⟩ := st
    have e' : c = z ∨ c = T ∨ c = U ∨ c = i1 ∨ c = i2 := by simpa using hc
    rcases e' with q | q | q | q | q
    · rw [q]; exact ⟨_, hz, fun v q => nomatch q⟩
    · rw [q]; exact ⟨_, hT, fun v q => nomatch q⟩
    · rw [q]; exact ⟨_, hU, fun v q => nomatch q⟩
    · rw [q]; exact h1.obj
    · rw [q]; exact h2.obj
  · obtain ⟨hi, hz, hT, ⟨x, y, hU⟩, h1, h2⟩ := st
    exact ⟨hi, k z (by simp) _ hz, k T (by simp) _ hT, ⟨x, y, k U (by simp) _ hU⟩, h1.keep (k i1 (by simp)), h2.keep (k i2 (by simp))⟩
  · cases b with
    | true => exact LWZ.zs_self st.2.1 h
    | false => exact wpAny_pyIter_zip st.2.1 h
  · intro X hP hw hK hc i pins s σ H I st hC
    subst hP hw hK
    obtain ⟨c1, c2⟩ := hC
    obtain ⟨hi, hz, hT, ⟨x, y, hU⟩, h1, h2⟩ := st
    obtain ⟨its, rv, p1, l1⟩ := sqB_read I c1
    obtain ⟨its2, rv2, p2, l2⟩ := sqB_read I c2
    have hd1 : X.A.in1.handled = none := I.ok.hd hc
    have n1 : a1 ≠ i1 := by rw [e1]; exact Nat.ne_of_lt g1
    have n2 : a2 ≠ i2 := by rw [e2]; exact Nat.ne_of_lt (Nat.lt_succ_of_lt g2)
    have D1 := drawsB (prog := X.prog) (w := X.w) hd1 t1 i1 a1 n1 its.toArray
    have D2 := drawsB (prog := X.prog) (w := X.w) hd1 t2 i2 a2 n2 its2.toArray
    have len1 : its.toArray.size = xs.length := by simp [rv.length]
    have len2 : its2.toArray.size = ys.length := by simp [rv2.length]
    have vs : ∀ j (vals : Array Value), (∃ x y, its.toArray[j]? = some x ∧ its2.toArray[j]? = some y ∧ vals = #[x, y]) → Vals (zV xs ys j) vals.toList := by
      rintro j vals ⟨x, y, hx, hy, rfl⟩
      exact .cons (vals_at rv hx) (.cons (vals_at rv2 hy) .nil)
    cases b with
    | true =>
      have hl' := hl rfl
      have S : LWZ.Sep z T U i1 i2 [i1, a1] [i2, a2] := by
        exact zip_sep1 a1 a2 m g1 g2 e1 e2 e3 e4 e5
      have mn : min xs.length ys.length = its.toArray.size := by omega
      have D2' : Draws X.prog X.w X.A.in1 i2 [i2, a2] its.toArray.size (fun i v => its2.toArray[i]? = some v) (fun i h => ItB t2 h i2 a2 i ∧ CtB t2 h a2 its2.toArray) := by
        rw [show its.toArray.size = its2.toArray.size by omega]
        exact D2
      have W := LWZ.walks_strict (I.ok.hd hc) S D1 D2'
      rw [← mn] at W
      refine ⟨_, _, _, _, _, W, ⟨hz, hT, ⟨x, y, hU⟩, ⟨h1, p1⟩, h2, p2⟩, fun h' hi' st' => ?_, vs, fun c hc => ?_⟩
      · exact ⟨by omega, st'.1, st'.2.1, st'.2.2.1, st'.2.2.2.1.1, st'.2.2.2.2.1⟩
      · have e' : c = z ∨ c = U ∨ c = i1 ∨ c = i2 := by simpa using hc
        rcases e' with q | q | q | q <;> simp [q]
    | false =>
      have S : ZipSep2 z T U i1 i2 [i1, a1] [i2, a2] := by
        exact zip_sep2 a1 a2 m g1 g2 e1 e2 e3 e4 e5
      have W := WalksT.zipD2 S D1 D2
      rw [len1, len2] at W
      refine ⟨_, _, _, _, _, W, ⟨hz, hT, ⟨x, y, hU⟩, ⟨h1, p1⟩, h2, p2⟩, fun h' hi' st' => ?_, vs, fun c hc => ?_⟩
      · exact ⟨by omega, st'.1, st'.2.1, st'.2.2.1, st'.2.2.2.1.1, st'.2.2.2.2.1⟩
      · have e' : c = z ∨ c = U ∨ c = i1 ∨ c = i2 := by simpa using hc
        rcases e' with q | q | q | q <;> simp [q]
/-- zip(a, b), zip(a, b, strict=True) of lists and tuples -/
def iZipB (K : PySem.W.Frag) (b : Bool) (ta : TA) : TI := fun σ H R => ta σ H fun vs H1 => ∃ t1 t2 a1 a2 xs ys, vs = [.ref a1, .ref a2] ∧ SqB t1 K H1 a1 xs ∧ SqB t2 K H1 a2 ys ∧ (b = true → xs.length = ys.length) ∧
  R (Itq (min xs.length ys.length) (fun H => SqB t1 K H a1 xs ∧ SqB t2 K H a2 ys) (zV xs ys)) H1
section
variable {X : Cx}
theorem zip_laid {tg : Expr} {elts : List Expr} {kk : Nat} {tpos : Pos} {pins : List (Addr × Obj)} {σ : L2.St} {H1 : Hp} {s1 : Shared} {h' : Heap} {R : It → Hp → Prop} {b t1 t2 : Bool} {a1 a2 : Addr} {xs ys : List V} {E : Value → Shared → Prop} (I1 : Inv X pins σ H1 s1) (hl : b = true → xs.length = ys.length)
    (l1 : a1 < s1.heap.objs.size) (l2 : a2 < s1.heap.objs.size) (hz : zIs b h' (s1.heap.objs.size + 4) (s1.heap.objs.size + 2) (s1.heap.objs.size + 3) .none) (hT : LWZ.Two h' (s1.heap.objs.size + 2) (.ref s1.heap.objs.size) (.ref (s1.heap.objs.size + 1))) (hU : LWZ.Two h' (s1.heap.objs.size + 3) .none .none)
    (o1 : h'.get? s1.heap.objs.size = some (itObj t1 a1)) (o2 : h'.get? (s1.heap.objs.size + 1) = some (itObj t2 a2)) (k : ∀ c o, s1.heap.get? c = some o → h'.get? c = some o) (q : R (Itq (min xs.length ys.length) (fun H => SqB t1 X.K H a1 xs ∧ SqB t2 X.K H a2 ys) (zV xs ys)) H1) :
    wpAny (model X.prog X.w) X.A (pyIter (.ref (s1.heap.objs.size + 4))) (PIE X pins σ (.Tuple elts kk tpos) R) E { s1 with heap := h' } := by
  have I2 : Inv X pins σ H1 { s1 with heap := h' } := I1.kept (t' := s1.toks) k
  have fin : PIE X pins σ (.Tuple elts kk tpos) R (.ref (s1.heap.objs.size + 4)) { s1 with heap := h' } := by
    refine ⟨s1.heap.objs.size + 4, [s1.heap.objs.size + 4, s1.heap.objs.size + 2, s1.heap.objs.size + 3, s1.heap.objs.size, s1.heap.objs.size + 1], _, _, H1, rfl, I2, turn_zipB (b := b) hl ⟨l1, l2, rfl, rfl, rfl, rfl, rfl⟩, ⟨Nat.zero_le _, hz, hT, ⟨_, _, hU⟩, itB_new o1, itB_new o2⟩, fun c hcm => ?_, q⟩
    have e' : c = s1.heap.objs.size + 4 ∨ c = s1.heap.objs.size + 2 ∨ c = s1.heap.objs.size + 3 ∨ c = s1.heap.objs.size ∨ c = s1.heap.objs.size + 1 := by simpa using hcm
    have hle : s1.heap.objs.size ≤ c := by
      rcases e' with z | z | z | z | z <;> (rw [z]; omega)
    exact I1.fpOk hle (I1.hok.fresh hle)
  cases b with
  | true => exact LWZ.zs_self hz fin
  | false => exact wpAny_pyIter_zip hz fin
theorem pi_zipB {e e2 : Expr} {ta : TA} {p pos tpos : Pos} {elts : List Expr} {kk : Nat} (hg : Gl X "zip") (hm : X.mg "zip" = none) (ha : PA X [e, e2] ta) (hs : starEach [e, e2] X.env = (false, eval e X.env) :: starEach [e2] X.env) (hpl : (backTo pos (starEach [e2] X.env)).any (·.1) = false) :
    PI X (.Tuple elts kk tpos) (.Call (.Name "zip" p) [e, e2] [] pos) (iZipB X.K false ta) := by
  refine ⟨fun pins s σ H R I h => ?_⟩
  refine Call_ (ld_blt I hg hm PyProof.Rows.boot_zip (PyProof.Rows.callWith_type1 (thn (ha.run pos pins s σ H _ I h) fun us s1 ⟨vs, H1, I1, r1, q1⟩ => ?_) hs hpl))
  obtain ⟨t1, t2, a1, a2, xs, ys, ex, c1, c2, hl, q⟩ := q1
  subst ex
  cases r1 with
  | cons r rr =>
    cases rr with
    | cons r' rr =>
      cases rr
      cases r
      cases r'
      obtain ⟨its, rv, p1, l1⟩ := sqB_read I1 c1
      obtain ⟨its2, rv2, p2, l2⟩ := sqB_read I1 c2
      exact zip_begins2 (beginsB t1 a1 its.toArray) (beginsB t2 a2 its2.toArray) p1 p2 fun h' hz hT hU o1 o2 hsz k => zip_laid (tg := e) (b := false) I1 hl l1 l2 hz hT hU o1 o2 k q
/-- a built-in class called with keywords -/
theorem type_kw {M : Model} {A : Around} {E : Value → Shared → Prop} {s : Shared} {env : Env} {pos : Pos} {T : String} {e : Expr} {rest : List Expr} {kws : List Keyword} {Q : Value → Shared → Prop}
    (h : wpAny M A (spliced (backTo pos (starEach (e :: rest) env))) (fun vs s₁ => wpAny M A (evalAll ((backToKw pos (keywordEach kws env)).map (·.2))) (fun kvs s₂ => wpAny M A (call (.type T) vs (((backToKw pos (keywordEach kws env)).filterMap (·.1)).zip kvs)) Q E s₂) E s₁) E s)
    (he : backTo pos (starEach (e :: rest) env) = (false, eval e env) :: backTo pos (starEach rest env)) (hplain : (backTo pos (starEach (e :: rest) env)).any (·.1) = false) (hall : (backToKw pos (keywordEach kws env)).all (·.1.isSome) = true) (hkw : (backToKw pos (keywordEach kws env)).any (·.1.isNone) = false) :
    wpAny M A (callWith pos (.type T) [] (backTo pos (starEach (e :: rest) env)) (backToKw pos (keywordEach kws env))) Q E s := by
  unfold callWith
  refine wpAny_bind (wpAny_holding ?_)
  rw [he] at h
  have h2 := evalArgs_kwB (f := .type T) (Q := fun a s₁ => wpAny M A (call (.type T) ([] ++ a.pos) a.kw) Q E s₁) hall h
  rw [← he] at h2
  refine wpAny_mono h2 (fun a s₁ h₁ => wpAny_bind (wpAny_standAt ?_)) fun _ _ x => x
  simp only [hplain, hkw, Bool.or_false]
  refine wpAny_bind (wpAny_pure ?_)
  exact wpAny_bind (wpAny_mono h₁ (fun r s₂ hr => wpAny_bind (wpAny_holding (wpAny_point (wpAny_pure hr)))) fun _ _ x => x)
theorem pi_zipS {e e2 : Expr} {ta : TA} {p pos tpos kp cp : Pos} {elts : List Expr} {kk j : Nat} (hg : Gl X "zip") (hm : X.mg "zip" = none) (ha : PA X [e, e2] ta) (hs : backTo pos (starEach [e, e2] X.env) = (false, eval e X.env) :: backTo pos (starEach [e2] X.env)) (hpl : (backTo pos (starEach [e, e2] X.env)).any (·.1) = false) :
    PI X (.Tuple elts kk tpos) (.Call (.Name "zip" p) [e, e2] [⟨some "strict", .Constant (.bool true) j cp, kp⟩] pos) (iZipB X.K true ta) := by
  refine ⟨fun pins s σ H R I h => ?_⟩
  refine wpAny_Call_Name_kw (ld_blt I hg hm PyProof.Rows.boot_zip ?_)
  refine type_kw (thn (ha.run pos pins s σ H _ I h) fun us s1 ⟨vs, H1, I1, r1, q1⟩ => kws_cons (Constant_bool (kws_nil ?_))) hs hpl rfl rfl
  change wpAny _ _ (call (.type "zip") us [(Str.ofString "strict", .bool true)]) _ _ _
  obtain ⟨t1, t2, a1, a2, xs, ys, ex, c1, c2, hl, q⟩ := q1
  subst ex
  cases r1 with
  | cons r rr =>
    cases rr with
    | cons r' rr =>
      cases rr
      cases r
      cases r'
      obtain ⟨its, rv, p1, l1⟩ := sqB_read I1 c1
      obtain ⟨its2, rv2, p2, l2⟩ := sqB_read I1 c2
      exact LWZ.strict_made (beginsB t1 a1 its.toArray) (beginsB t2 a2 its2.toArray) p1 p2 fun h' hz hT hU o1 o2 k => zip_laid (tg := e) (b := true) I1 hl l1 l2 hz hT hU o1 o2 k q
end

def eV (xs : List V) (i : Nat) : List V := [.int (i : Nat), xs.getD i .non]
theorem enum_sep (a m : Nat) {e i1 : Nat} (g1 : a < m) (e1 : i1 = m) (e2 : e = m + 1) : e ∉ [i1, a] := by
  subst e1 e2
  exact nm _ _ _ (Nat.succ_ne_self _) (Nat.ne_of_gt (by omega))
theorem turn_enumB {P : Program} {w : World} {K : PySem.W.Frag} {elts : List Expr} {kk : Nat} {tpos : Pos} {t : Bool} {a e i1 m : Addr} {xs : List V} (hm : a < m ∧ i1 = m ∧ e = m + 1) :
    Turn P w K (.Tuple elts kk tpos) (Itq xs.length (fun H => SqB t K H a xs) (eV xs)) [e, i1] e (fun i h => i ≤ xs.length ∧ (∃ old, IsEnum h e i1 ((i : Nat) : Int) old) ∧ ItB t h i1 a i) := by
  obtain ⟨g1, e1, e2⟩ := hm
  refine turn_gen (by simp) (fun i h st => st.1) (fun i => by show 2 ≤ sizeLine; decide) (fun i h st c hc => ?_) (fun i h h' st k => ?_) (fun A i s Q E st h => ?_) ?_
  · obtain ⟨_, ⟨old, he⟩, h1⟩ := st
    have e' : c = e ∨ c = i1 := by simpa using hc
    rcases e' with q | q
    · rw [q]; exact ⟨_, he, fun v q => nomatch q⟩
    · rw [q]; exact h1.obj
  · obtain ⟨hi, ⟨old, he⟩, h1⟩ := st
    exact ⟨hi, ⟨old, k e (by simp) _ he⟩, h1.keep (k i1 (by simp))⟩
  · obtain ⟨hi, ⟨old, he⟩, h1⟩ := st
    exact wpAny_pyIter_enum he h
  · intro X hP hw hK hc i pins s σ H I st hC
    subst hP hw hK
    obtain ⟨hi, ⟨old, he⟩, h1⟩ := st
    obtain ⟨its, rv, p1, l1⟩ := sqB_read I hC
    have hd1 : X.A.in1.handled = none := I.ok.hd hc
    have n1 : a ≠ i1 := by rw [e1]; exact Nat.ne_of_lt g1
    have D1 := drawsB (prog := X.prog) (w := X.w) hd1 t i1 a n1 its.toArray
    have len1 : xs.length = its.toArray.size := by simp [rv.length]
    have W := WalksT.enumerateD D1 e (by rw [e1, e2]; exact Nat.succ_ne_self _) (enum_sep a m g1 e1 e2) (by simp)
    rw [← len1] at W
    refine ⟨_, _, _, _, _, W, ⟨⟨old, he⟩, h1, p1⟩, fun h' hi' st' => ⟨by omega, ?_, st'.2.1⟩, fun j vs hp => ?_, fun c hc => by simpa using hc⟩
    · obtain ⟨old', q⟩ := st'.1
      exact ⟨old', q⟩
    · obtain ⟨t', x, hx, rfl⟩ := hp
      exact .cons ⟨t', rfl⟩ (.cons (vals_at rv hx) .nil)
def iEnumB (K : PySem.W.Frag) (ta : TA) : TI := fun σ H R => ta σ H fun vs H1 => ∃ t a xs, vs = [.ref a] ∧ SqB t K H1 a xs ∧ R (Itq xs.length (fun H => SqB t K H a xs) (eV xs)) H1
theorem pi_enumB {X : Cx} {e : Expr} {ta : TA} {p pos tpos : Pos} {elts : List Expr} {kk : Nat} (hg : Gl X "enumerate") (hm : X.mg "enumerate" = none) (ha : PA X [e] ta) (hs : starEach [e] X.env = [(false, eval e X.env)]) :
    PI X (.Tuple elts kk tpos) (.Call (.Name "enumerate" p) [e] [] pos) (iEnumB X.K ta) := by
  refine ⟨fun pins s σ H R I h => ?_⟩
  refine Call_ (ld_blt I hg hm boot_enumerate (PyProof.Rows.callWith_type1 (thn (ha.run pos pins s σ H _ I h) fun us s1 ⟨vs, H1, I1, r1, q1⟩ => ?_) hs rfl))
  obtain ⟨t, a, xs, ex, c1, q⟩ := q1
  subst ex
  cases r1 with
  | cons r rr =>
    cases rr
    cases r
    obtain ⟨its, rv, p1, l1⟩ := sqB_read I1 c1
    refine LWZ.enum_made (beginsB t a its.toArray) p1 fun h' he o1 k => wpAny_pyIter_enum he ?_
    have I2 : Inv X pins σ H1 { s1 with heap := h' } := I1.kept (t' := s1.toks) k
    refine ⟨s1.heap.objs.size + 1, [s1.heap.objs.size + 1, s1.heap.objs.size], _, _, H1, rfl, I2, turn_enumB ⟨l1, rfl, rfl⟩, ⟨Nat.zero_le _, ⟨_, he⟩, itB_new o1⟩, fun c hcm => ?_, q⟩
    have e' : c = s1.heap.objs.size + 1 ∨ c = s1.heap.objs.size := by simpa using hcm
    have hle : s1.heap.objs.size ≤ c := by
      rcases e' with z | z <;> (rw [z]; omega)
    exact I1.fpOk hle (I1.hok.fresh hle)
/-- the items, while C stands -/
def Itx (C : Hp → Prop) (xs : List V) : It := ⟨fun i H => C H ∧ i < xs.length, fun i H v H' => H' = H ∧ xs[i]? = some v, fun i H => C H ∧ xs.length ≤ i⟩
theorem Turn.conv {P : Program} {w : World} {K : PySem.W.Frag} {tg : Expr} {J J' : It} {fp : List Addr} {it : Addr} {tn : Nat → Heap → Prop} (T : Turn P w K tg J fp it tn) (h1 : ∀ i H, J'.go i H → J.go i H) (h2 : ∀ i H v H', J'.go i H → J.yld i H v H' → J'.yld i H v H') (h3 : ∀ i H, J'.stop i H → J.stop i H) : Turn P w K tg J' fp it tn where
  mem := T.mem
  obj := T.obj
  keep := T.keep
  self := T.self
  item := by
    intro X hP hw hK hc i pins s σ H E I hf st hg
    refine thn (T.item X hP hw hK hc i pins s σ H E I hf st (h1 _ _ hg)) fun r s1 ⟨u, e, h⟩ => ⟨u, e, thn h fun _ s2 ⟨x, H', I', r', y, z⟩ => ⟨x, H', I', r', h2 _ _ _ _ hg y, z⟩⟩
  done := fun X hP hw hK hc i pins s σ H E I hf st hg => T.done X hP hw hK hc i pins s σ H E I hf st (h3 _ _ hg)
def iSeqB (K : PySem.W.Frag) (te : TE) : TI := fun σ H R => te σ H fun x H1 => ∃ t a xs, x = .ref a ∧ SqB t K H1 a xs ∧ R (Itx (fun H => SqB t K H a xs) xs) H1
theorem pi_seqB {X : Cx} {tg e : Expr} {te : TE} (he : PE X e te) : PI X tg e (iSeqB X.K te) := by
  refine ⟨fun pins s σ H R I h => ?_⟩
  refine thn (he.run pins s σ H _ I h) fun v s1 ⟨x, H1, I1, r1, q1⟩ => ?_
  obtain ⟨t, a, xs, ex, c1, q⟩ := q1
  subst ex
  cases r1
  obtain ⟨its, rv, p1, l1⟩ := sqB_read I1 c1
  have fp : ∀ b ∈ [s1.heap.objs.size], FpOk X pins H1 b := fun b hb => by
    have e : b = s1.heap.objs.size := by simpa using hb
    rw [e]
    exact I1.fpOk (Nat.le_refl _) (I1.hok.fresh (Nat.le_refl _))
  refine (beginsB t a its.toArray).iter _ _ _ _ s1 _ p1 ?_
  have I2 : Inv X pins σ H1 { s1 with heap := s1.heap.push (itObj t a) } := I1.kept (t' := s1.toks) fun b o e => Heap.get?_push_of_some _ e
  cases t with
  | true =>
    refine ⟨s1.heap.objs.size, [s1.heap.objs.size], _, _, H1, rfl, I2, Turn.conv (turn_tuple a s1.heap.objs.size) ?_ ?_ ?_, ⟨_, Heap.get?_push_size _ rfl, rfl, rfl⟩, fp, q⟩
    · exact fun i H z => ⟨xs, xs[i]'z.2, z.1, by simp [z.2]⟩
    · exact fun i H v H' z y => ⟨y.1, y.2 xs z.1⟩
    · exact fun i H z => ⟨xs, z.1, z.2⟩
  | false =>
    refine ⟨s1.heap.objs.size, [s1.heap.objs.size], _, _, H1, rfl, I2, Turn.conv (turn_list a s1.heap.objs.size) ?_ ?_ ?_, ⟨_, Heap.get?_push_size _ rfl, rfl, rfl⟩, fp, q⟩
    · exact fun i H z => ⟨xs, xs[i]'z.2, z.1, by simp [z.2]⟩
    · exact fun i H v H' z y => ⟨y.1, y.2 xs z.1⟩
    · exact fun i H z => ⟨xs, z.1, z.2⟩
end LW
set_option maxHeartbeats 200000
namespace LW
open PySem PySem.Spec PyProof.Rows L2

structure Ext0 (g g' : Gh) : Prop where
  f : ∀ a o, g.F a = some o → g'.F a = some o
  al : ∀ (n : Nat) (a : Addr), g.al[n]? = some a → g'.al[n]? = some a
theorem Ext.to0 {g g' : Gh} (e : Ext g g') : Ext0 g g' := ⟨e.f, e.al⟩
theorem Ext0.refl (g : Gh) : Ext0 g g := ⟨fun _ _ h => h, fun _ _ h => h⟩
theorem Ext0.trans {a b c : Gh} (p : Ext0 a b) (q : Ext0 b c) : Ext0 a c := ⟨fun x o h => q.f x o (p.f x o h), fun n x h => q.al n x (p.al n x h)⟩
structure JOk (K : PySem.W.Frag) (J : It) (ds : List D) (g : Gh) : Prop where
  go : ∀ (i : Nat) (d : D), ds[i]? = some d → ∀ g1 H σ ρ, Ext0 g g1 → EnOk K g1 H σ ρ → J.go i H ∧ ∀ x H', J.yld i H x H' → ∃ g2, Ext g1 g2 ∧ EnOk K g2 H' σ ρ ∧ Rep K g2.F g2.al d x
  stop : ∀ g1 H σ ρ, Ext0 g g1 → EnOk K g1 H σ ρ → J.stop ds.length H
theorem JOk.mono {K : PySem.W.Frag} {J : It} {ds : List D} {g g1 : Gh} (h : JOk K J ds g) (e : Ext0 g g1) : JOk K J ds g1 :=
  ⟨fun i d hd g2 H σ ρ e2 ok => h.go i d hd g2 H σ ρ (e.trans e2) ok, fun g2 H σ ρ e2 ok => h.stop g2 H σ ρ (e.trans e2) ok⟩
def tI (K : PySem.W.Frag) (Wx : WX) (m : M (List D)) : TI := fun σ H R => ∃ g ρ, EnOk K g H σ ρ ∧ (m ρ).W (fun ds ρ' => ∀ g' H' J, Ext g g' → EnOk K g' H' σ ρ' → JOk K J ds g' → R J H') (xW K Wx g σ)
abbrev DI (X : Cx) (Wx : WX) (m : M (List D)) (tg e : Expr) : Prop := PI X tg e (tI X.K Wx m)
theorem pi_imp {X : Cx} {tg e : Expr} {t t' : TI} (h : PI X tg e t) (w : ∀ σ H R, t' σ H R → t σ H R) : PI X tg e t' := ⟨fun pins s σ H R I z => h.run pins s σ H R I (w _ _ _ z)⟩
/-- the items of a list or a tuple -/
@[simp] def itsD (m : M D) : M (List D) := fun ρ => (m ρ).bind fun d ρ1 => match d.items with
  | some l => .ok l ρ1
  | none => .bad
theorem Rep.seqB {K : PySem.W.Frag} {F : Hp} {al : List Addr} {d : D} {l : List D} {v : V} (h : Rep K F al d v) (e : d.items = some l) : ∃ t p xs, v = .ref p ∧ SqB t K F p xs ∧ Reps K F al l xs := by
  cases d with
  | tup b => cases e; obtain ⟨a, xs, rfl, s, r⟩ := h.tup; exact ⟨true, a, xs, rfl, s, r⟩
  | lst b => cases e; obtain ⟨a, xs, rfl, s, r⟩ := h.lst; exact ⟨false, a, xs, rfl, SqL.of s, r⟩
  | frz b => cases e; obtain ⟨a, xs, rfl, s, r⟩ := h.frz; exact ⟨false, a, xs, rfl, s, r⟩
  | _ => cases e
section
variable {X : Cx} {Wx : WX}
theorem di_seq {tg e : Expr} {m : M D} (h : DE X Wx m e) : DI X Wx (itsD m) tg e := pi_imp (pi_seqB h) (by
  rintro σ H R ⟨g, ρ, ok, w⟩
  refine ⟨g, ρ, ok, Res.W_imp (Res.W_bind w) (fun d ρ1 w1 => ?_) fun _ _ z => z⟩
  intro g1 H1 v e1 ok1 rv
  cases e : d.items with
  | none => rw [e] at w1; exact w1.elim
  | some l =>
    rw [e] at w1
    obtain ⟨t, p, xs, rfl, s, r⟩ := rv.seqB e
    refine ⟨t, p, xs, rfl, s.mono ok1.fs, w1 g1 H1 _ e1 ok1 ⟨fun i d hd g2 H2 σ2 ρ2 e2 ok2 => ?_, fun g2 H2 σ2 ρ2 e2 ok2 => ?_⟩⟩
    · have hi : i < xs.length := by rw [r.length]; exact (List.getElem?_eq_some_iff.mp hd).1
      refine ⟨⟨s.mono fun b o q => ok2.fs _ _ (e2.f _ _ q), hi⟩, ?_⟩
      rintro x H' ⟨rfl, hx⟩
      obtain ⟨u, e3, ru⟩ := r.get hd
      rw [hx] at e3
      cases e3
      exact ⟨g2, Ext.refl _, ok2, Rep.mono e2.f e2.al _ _ ru⟩
    · exact ⟨s.mono fun b o q => ok2.fs _ _ (e2.f _ _ q), by rw [r.length]; exact Nat.le_refl _⟩)
/-- the pairs of two things -/
def zipL : List D → List D → List D
  | x :: xs, y :: ys => .tup [x, y] :: zipL xs ys
  | _, _ => []
theorem zipL_length : ∀ (xs ys : List D), (zipL xs ys).length = min xs.length ys.length
  | [], ys => by cases ys <;> simp [zipL]
  | x :: xs, [] => by simp [zipL]
  | x :: xs, y :: ys => by simp only [zipL, List.length_cons, zipL_length xs ys]; omega
theorem zipL_get : ∀ (xs ys : List D) (i : Nat) (d : D), (zipL xs ys)[i]? = some d → ∃ x y, xs[i]? = some x ∧ ys[i]? = some y ∧ d = .tup [x, y]
  | [], ys, i, d, h => by cases ys <;> simp [zipL] at h
  | x :: xs, [], i, d, h => by simp [zipL] at h
  | x :: xs, y :: ys, 0, d, h => by simp [zipL] at h; exact ⟨x, y, rfl, rfl, h.symm⟩
  | x :: xs, y :: ys, i + 1, d, h => by
    have := zipL_get xs ys i d (by simpa [zipL] using h)
    simpa using this
/-- zip(a, b), strict or not -/
@[simp] def zipD (b : Bool) (m : M (List D)) : M (List D) := fun ρ => (m ρ).bind fun ds ρ1 => match ds with
  | [x, y] => (match x.items, y.items with
    | some l, some r => if b = true then (if l.length = r.length then .ok (zipL l r) ρ1 else .bad) else .ok (zipL l r) ρ1
    | _, _ => .bad)
  | _ => .bad
theorem Reps.two {K : PySem.W.Frag} {F : Hp} {al : List Addr} {x y : D} {vs : List V} (h : Reps K F al [x, y] vs) : ∃ u v, vs = [u, v] ∧ Rep K F al x u ∧ Rep K F al y v := by
  simp only [Reps] at h
  obtain ⟨v, r, rfl, h1, v', r', rfl, h2, rfl⟩ := h
  exact ⟨v, v', rfl, h1, h2⟩
theorem Reps.sing {K : PySem.W.Frag} {F : Hp} {al : List Addr} {x : D} {vs : List V} (h : Reps K F al [x] vs) : ∃ u, vs = [u] ∧ Rep K F al x u := by
  simp only [Reps] at h
  obtain ⟨v, r, rfl, h1, rfl⟩ := h
  exact ⟨v, rfl, h1⟩
theorem tZip_of {b : Bool} {ma : M (List D)} : ∀ σ H R, tI X.K Wx (zipD b ma) σ H R → iZipB X.K b (tA X.K Wx ma) σ H R := by
  rintro σ H R ⟨g, ρ, ok, w⟩
  refine ⟨g, ρ, ok, Res.W_imp (Res.W_bind w) (fun ds ρ1 w1 => ?_) fun _ _ z => z⟩
  intro g1 H1 vs e1 ok1 rvs
  match ds, w1 with
  | [x, y], w1 =>
    dsimp only at w1
    cases ex : x.items with
    | none => rw [ex] at w1; exact w1.elim
    | some l =>
      cases ey : y.items with
      | none => rw [ex, ey] at w1; exact w1.elim
      | some r =>
        rw [ex, ey] at w1
        dsimp only at w1
        obtain ⟨u, v, rfl, r1, r2⟩ := rvs.two
        obtain ⟨t1, p1, xs, rfl, s1, q1⟩ := r1.seqB ex
        obtain ⟨t2, p2, ys, rfl, s2, q2⟩ := r2.seqB ey
        have l1 := q1.length
        have l2 := q2.length
        have hw : (b = true → l.length = r.length) ∧ ∀ g' H' J, Ext g g' → EnOk X.K g' H' σ ρ1 → JOk X.K J (zipL l r) g' → R J H' := by
          cases b with
          | true =>
            rw [if_pos rfl] at w1
            by_cases c : l.length = r.length
            · rw [if_pos c] at w1; exact ⟨fun _ => c, w1⟩
            · rw [if_neg c] at w1; exact w1.elim
          | false =>
            rw [if_neg (by decide)] at w1
            exact ⟨fun q => (by cases q), w1⟩
        refine ⟨t1, t2, p1, p2, xs, ys, rfl, s1.mono ok1.fs, s2.mono ok1.fs, fun q => by have := hw.1 q; omega, ?_⟩
        refine hw.2 g1 H1 _ e1 ok1 ⟨fun i d hd g2 H2 σ2 ρ2 e2 ok2 => ?_, fun g2 H2 σ2 ρ2 e2 ok2 => ?_⟩
        · have c1 := s1.mono fun b o q => ok2.fs _ _ (e2.f _ _ q)
          have c2 := s2.mono fun b o q => ok2.fs _ _ (e2.f _ _ q)
          obtain ⟨dx, dy, hx, hy, rfl⟩ := zipL_get _ _ _ _ hd
          obtain ⟨u1, f1, rx⟩ := q1.get hx
          obtain ⟨u2, f2, ry⟩ := q2.get hy
          have b1 := (List.getElem?_eq_some_iff.mp f1).1
          have b2 := (List.getElem?_eq_some_iff.mp f2).1
          refine ⟨⟨⟨c1, c2⟩, by omega⟩, ?_⟩
          rintro x H' ⟨T, rfl, nT, rfl⟩
          have ez : zV xs ys i = [u1, u2] := by
            unfold zV
            rw [List.getD_eq_getElem?_getD, List.getD_eq_getElem?_getD, f1, f2]
            rfl
          rw [ez]
          obtain ⟨g3, e3, k3, r3⟩ := new_tup ok2 (Reps.cons (Rep.mono e2.f e2.al _ _ rx) (Reps.one (Rep.mono e2.f e2.al _ _ ry))) nT
          exact ⟨g3, e3, k3, r3⟩
        · refine ⟨⟨s1.mono fun b o q => ok2.fs _ _ (e2.f _ _ q), s2.mono fun b o q => ok2.fs _ _ (e2.f _ _ q)⟩, ?_⟩
          rw [zipL_length]
          omega
  | [], w1 => exact w1.elim
  | [_], w1 => exact w1.elim
  | _ :: _ :: _ :: _, w1 => exact w1.elim
theorem di_zip {e e2 : Expr} {ma : M (List D)} {p pos tpos : Pos} {elts : List Expr} {kk : Nat} (hg : Gl X "zip") (hm : X.mg "zip" = none) (ha : DA X Wx ma [e, e2]) (hs : starEach [e, e2] X.env = (false, eval e X.env) :: starEach [e2] X.env) (hpl : (backTo pos (starEach [e2] X.env)).any (·.1) = false) :
    DI X Wx (zipD false ma) (.Tuple elts kk tpos) (.Call (.Name "zip" p) [e, e2] [] pos) := pi_imp (pi_zipB hg hm ha hs hpl) tZip_of
theorem di_zipS {e e2 : Expr} {ma : M (List D)} {p pos tpos kp cp : Pos} {elts : List Expr} {kk j : Nat} (hg : Gl X "zip") (hm : X.mg "zip" = none) (ha : DA X Wx ma [e, e2]) (hs : backTo pos (starEach [e, e2] X.env) = (false, eval e X.env) :: backTo pos (starEach [e2] X.env)) (hpl : (backTo pos (starEach [e, e2] X.env)).any (·.1) = false) :
    DI X Wx (zipD true ma) (.Tuple elts kk tpos) (.Call (.Name "zip" p) [e, e2] [⟨some "strict", .Constant (.bool true) j cp, kp⟩] pos) := pi_imp (pi_zipS hg hm ha hs hpl) tZip_of
/-- the numbered items -/
def enumL : Nat → List D → List D
  | _, [] => []
  | n, x :: xs => .tup [.int (n : Nat), x] :: enumL (n + 1) xs
theorem enumL_length : ∀ (n : Nat) (xs : List D), (enumL n xs).length = xs.length
  | _, [] => rfl
  | n, x :: xs => by simp only [enumL, List.length_cons, enumL_length (n + 1) xs]
theorem enumL_get : ∀ (xs : List D) (n i : Nat) (d : D), (enumL n xs)[i]? = some d → ∃ x, xs[i]? = some x ∧ d = .tup [.int ((n + i : Nat) : Int), x]
  | [], n, i, d, h => by simp [enumL] at h
  | x :: xs, n, 0, d, h => by simp [enumL] at h; exact ⟨x, rfl, by rw [← h]; rfl⟩
  | x :: xs, n, i + 1, d, h => by
    obtain ⟨y, h1, h2⟩ := enumL_get xs (n + 1) i d (by simpa [enumL] using h)
    exact ⟨y, by simpa using h1, by rw [h2]; congr 4; omega⟩
@[simp] def enumD (m : M (List D)) : M (List D) := fun ρ => (m ρ).bind fun ds ρ1 => match ds with
  | [x] => (match x.items with
    | some l => .ok (enumL 0 l) ρ1
    | none => .bad)
  | _ => .bad
theorem di_enum {e : Expr} {ma : M (List D)} {p pos tpos : Pos} {elts : List Expr} {kk : Nat} (hg : Gl X "enumerate") (hm : X.mg "enumerate" = none) (ha : DA X Wx ma [e]) (hs : starEach [e] X.env = [(false, eval e X.env)]) :
    DI X Wx (enumD ma) (.Tuple elts kk tpos) (.Call (.Name "enumerate" p) [e] [] pos) := pi_imp (pi_enumB hg hm ha hs) (by
  rintro σ H R ⟨g, ρ, ok, w⟩
  refine ⟨g, ρ, ok, Res.W_imp (Res.W_bind w) (fun ds ρ1 w1 => ?_) fun _ _ z => z⟩
  intro g1 H1 vs e1 ok1 rvs
  match ds, w1 with
  | [x], w1 =>
    dsimp only at w1
    cases ex : x.items with
    | none => rw [ex] at w1; exact w1.elim
    | some l =>
      rw [ex] at w1
      obtain ⟨u, rfl, r1⟩ := rvs.sing
      obtain ⟨t1, p1, xs, rfl, s1, q1⟩ := r1.seqB ex
      refine ⟨t1, p1, xs, rfl, s1.mono ok1.fs, ?_⟩
      refine w1 g1 H1 _ e1 ok1 ⟨fun i d hd g2 H2 σ2 ρ2 e2 ok2 => ?_, fun g2 H2 σ2 ρ2 e2 ok2 => ?_⟩
      · obtain ⟨dx, hx, rfl⟩ := enumL_get _ _ _ _ hd
        obtain ⟨u1, f1, rx⟩ := q1.get hx
        have b1 := (List.getElem?_eq_some_iff.mp f1).1
        refine ⟨⟨s1.mono fun b o q => ok2.fs _ _ (e2.f _ _ q), b1⟩, ?_⟩
        rintro x H' ⟨T, rfl, nT, rfl⟩
        have ez : eV xs i = [.int (i : Nat), u1] := by
          unfold eV
          rw [List.getD_eq_getElem?_getD, f1]
          rfl
        rw [ez, Nat.zero_add]
        obtain ⟨g3, e3, k3, r3⟩ := new_tup ok2 (Reps.cons Rep.mkI (Reps.one (Rep.mono e2.f e2.al _ _ rx))) nT
        exact ⟨g3, e3, k3, r3⟩
      · refine ⟨s1.mono fun b o q => ok2.fs _ _ (e2.f _ _ q), ?_⟩
        rw [enumL_length, q1.length]
        exact Nat.le_refl _
  | [], w1 => exact w1.elim
  | _ :: _ :: _, w1 => exact w1.elim)
/-- range(n), range(a, b) -/
def rngL (lo : Int) : Nat → List D
  | 0 => []
  | n + 1 => .int lo :: rngL (lo + 1) n
theorem rngL_length : ∀ (n : Nat) (lo : Int), (rngL lo n).length = n
  | 0, _ => rfl
  | n + 1, lo => by simp only [rngL, List.length_cons, rngL_length n]
theorem rngL_get : ∀ (n : Nat) (lo : Int) (i : Nat) (d : D), (rngL lo n)[i]? = some d → i < n ∧ d = .int (lo + (i : Nat))
  | 0, lo, i, d, h => by simp [rngL] at h
  | n + 1, lo, 0, d, h => by simp [rngL] at h; exact ⟨by omega, by rw [← h]; simp⟩
  | n + 1, lo, i + 1, d, h => by
    obtain ⟨h1, h2⟩ := rngL_get n (lo + 1) i d (by simpa [rngL] using h)
    exact ⟨by omega, by rw [h2]; congr 1; omega⟩
theorem nb62 {j : Int} (h : j.natAbs ≤ 1000000000) : -(2 ^ 62) ≤ j ∧ j < 2 ^ 62 := by
  rw [show (2 : Int) ^ 62 = 4611686018427387904 by simp]
  omega
def rng1 (m : M (List D)) : M (List D) := fun ρ => (m ρ).bind fun ds ρ1 => match ds with
  | [.int j] => if j.natAbs ≤ 1000000000 then .ok (rngL 0 j.toNat) ρ1 else .bad
  | _ => .bad
def rng2 (m : M (List D)) : M (List D) := fun ρ => (m ρ).bind fun ds ρ1 => match ds with
  | [.int i, .int j] => if i.natAbs ≤ 1000000000 ∧ j.natAbs ≤ 1000000000 then .ok (rngL i (j - i).toNat) ρ1 else .bad
  | _ => .bad
theorem jok_rng {K : PySem.W.Frag} {lo : Int} {n : Nat} {g : Gh} : JOk K (Itr lo n) (rngL lo n) g :=
  ⟨fun i d hd g2 H2 σ2 ρ2 e2 ok2 => by
    obtain ⟨h1, rfl⟩ := rngL_get _ _ _ _ hd
    refine ⟨h1, ?_⟩
    rintro x H' ⟨rfl, rfl⟩
    exact ⟨g2, Ext.refl _, ok2, Rep.mkI⟩, fun g2 H2 σ2 ρ2 e2 ok2 => by rw [rngL_length]; exact Nat.le_refl _⟩
theorem di_rng1 {tg a : Expr} {ma : M (List D)} {p pos : Pos} (hg : Gl X "range") (hm : X.mg "range" = none) (ha : DA X Wx ma [a]) (hs : starEach [a] X.env = [(false, eval a X.env)]) : DI X Wx (rng1 ma) tg (.Call (.Name "range" p) [a] [] pos) := pi_imp (pi_range1 hg hm ha hs) (by
  rintro σ H R ⟨g, ρ, ok, w⟩
  refine ⟨g, ρ, ok, Res.W_imp (Res.W_bind w) (fun ds ρ1 w1 => ?_) fun _ _ z => z⟩
  intro g1 H1 vs e1 ok1 rvs
  split at w1
  · rename_i j
    split at w1
    · rename_i c
      obtain ⟨u, rfl, r1⟩ := rvs.sing
      exact ⟨j, by rw [r1.int], (nb62 c).1, (nb62 c).2, w1 g1 H1 _ e1 ok1 jok_rng⟩
    · exact w1.elim
  · exact w1.elim)
theorem di_rng2 {tg a b : Expr} {ma : M (List D)} {p pos : Pos} (hg : Gl X "range") (hm : X.mg "range" = none) (ha : DA X Wx ma [a, b]) (hs : starEach [a, b] X.env = [(false, eval a X.env), (false, eval b X.env)]) (hs2 : starEach [b] X.env = [(false, eval b X.env)]) : DI X Wx (rng2 ma) tg (.Call (.Name "range" p) [a, b] [] pos) := pi_imp (pi_range2 hg hm ha hs hs2) (by
  rintro σ H R ⟨g, ρ, ok, w⟩
  refine ⟨g, ρ, ok, Res.W_imp (Res.W_bind w) (fun ds ρ1 w1 => ?_) fun _ _ z => z⟩
  intro g1 H1 vs e1 ok1 rvs
  split at w1
  · rename_i i j
    split at w1
    · rename_i c
      obtain ⟨u, v, rfl, r1, r2⟩ := rvs.two
      exact ⟨i, j, by rw [r1.int, r2.int], ⟨(nb62 c.1).1, (nb62 c.1).2, (nb62 c.2).1, (nb62 c.2).2⟩, w1 g1 H1 _ e1 ok1 jok_rng⟩
    · exact w1.elim
  · exact w1.elim)
/-- range(a, b, -1) -/
def rngD (hi : Int) : Nat → List D
  | 0 => []
  | n + 1 => .int hi :: rngD (hi - 1) n
theorem rngD_length : ∀ (n : Nat) (lo : Int), (rngD lo n).length = n
  | 0, _ => rfl
  | n + 1, lo => by simp only [rngD, List.length_cons, rngD_length n]
theorem rngD_get : ∀ (n : Nat) (lo : Int) (i : Nat) (d : D), (rngD lo n)[i]? = some d → i < n ∧ d = .int (lo + (i : Nat) * (-1))
  | 0, lo, i, d, h => by simp [rngD] at h
  | n + 1, lo, 0, d, h => by simp [rngD] at h; exact ⟨by omega, by rw [← h]; simp⟩
  | n + 1, lo, i + 1, d, h => by
    obtain ⟨h1, h2⟩ := rngD_get n (lo - 1) i d (by simpa [rngD] using h)
    exact ⟨by omega, by rw [h2]; congr 1; omega⟩
def rng3 (m : M (List D)) : M (List D) := fun ρ => (m ρ).bind fun ds ρ1 => match ds with
  | [.int i, .int j, .int (-1)] => if i.natAbs ≤ 1000000000 ∧ j.natAbs ≤ 1000000000 then .ok (rngD i (i - j).toNat) ρ1 else .bad
  | _ => .bad
theorem Reps.three {K : PySem.W.Frag} {F : Hp} {al : List Addr} {x y z : D} {vs : List V} (h : Reps K F al [x, y, z] vs) : ∃ u v w, vs = [u, v, w] ∧ Rep K F al x u ∧ Rep K F al y v ∧ Rep K F al z w := by
  simp only [Reps] at h
  obtain ⟨v, r, rfl, h1, v', r', rfl, h2, v2, r2, rfl, h3, rfl⟩ := h
  exact ⟨v, v', v2, rfl, h1, h2, h3⟩
theorem di_rng3 {tg a b c : Expr} {ma : M (List D)} {p pos : Pos} (hg : Gl X "range") (hm : X.mg "range" = none) (ha : DA X Wx ma [a, b, c]) (hs : starEach [a, b, c] X.env = (false, eval a X.env) :: starEach [b, c] X.env) (hpl : (backTo pos (starEach [b, c] X.env)).any (·.1) = false) :
    DI X Wx (rng3 ma) tg (.Call (.Name "range" p) [a, b, c] [] pos) := pi_imp (pi_range3 hg hm ha hs hpl) (by
  rintro σ H R ⟨g, ρ, ok, w⟩
  refine ⟨g, ρ, ok, Res.W_imp (Res.W_bind w) (fun ds ρ1 w1 => ?_) fun _ _ z => z⟩
  intro g1 H1 vs e1 ok1 rvs
  split at w1
  · rename_i i j
    split at w1
    · rename_i c
      obtain ⟨u, v, w, rfl, r1, r2, r3⟩ := rvs.three
      refine ⟨i, j, -1, (i - j).toNat, by rw [r1.int, r2.int, r3.int], RgC.neg (nb62 c.1).1 (nb62 c.1).2 (nb62 c.2).1 (nb62 c.2).2, w1 g1 H1 _ e1 ok1 ⟨fun k d hd g2 H2 σ2 ρ2 e2 ok2 => ?_, fun g2 H2 σ2 ρ2 e2 ok2 => by rw [rngD_length]; exact Nat.le_refl _⟩⟩
      obtain ⟨h1, rfl⟩ := rngD_get _ _ _ _ hd
      refine ⟨h1, ?_⟩
      rintro x H' ⟨rfl, rfl⟩
      exact ⟨g2, Ext.refl _, ok2, Rep.mkI⟩
    · exact w1.elim
  · exact w1.elim)
end

@[simp] def En.set (ρ : En) (i : Nat) (s : SD) : En := { ρ with sl := ρ.sl.set i s }
/-- only those slots are touched -/
structure OffAt (is : List Nat) (σ σ' : L2.St) : Prop where
  len : σ'.length = σ.length
  at_ : ∀ j, j ∉ is → σ'[j]? = σ[j]?
def gT (K : PySem.W.Frag) (b : D → M Unit) (is : List Nat) : TG := fun v σ H Q => ∃ g ρ d, EnOk K g H σ ρ ∧ Rep K g.F g.al d v ∧
  (b d ρ).W (fun _ ρ' => ∀ g' H' σ', Ext g g' → EnOk K g' H' σ' ρ' → OffAt is σ σ' → Q σ' H') (fun _ _ => False)
def gTs (K : PySem.W.Frag) (b : List D → M Unit) (is : List Nat) : TGs := fun vs σ H Q => ∃ g ρ ds, EnOk K g H σ ρ ∧ Reps K g.F g.al ds vs ∧
  (b ds ρ).W (fun _ ρ' => ∀ g' H' σ', Ext g g' → EnOk K g' H' σ' ρ' → OffAt is σ σ' → Q σ' H') (fun _ _ => False)
abbrev DG (X : Cx) (b : D → M Unit) (is : List Nat) (tg : Expr) : Prop := PG X tg (gT X.K b is)
abbrev DGs (X : Cx) (b : List D → M Unit) (is : List Nat) (ts : List Expr) : Prop := PGs X ts (gTs X.K b is)
theorem pg_imp {X : Cx} {tg : Expr} {t t' : TG} (h : PG X tg t) (w : ∀ v σ H Q, t' v σ H Q → t v σ H Q) : PG X tg t' := ⟨fun pins s σ H v u Q I r z => h.run pins s σ H v u Q I r (w _ _ _ _ z)⟩
theorem pgs_imp {X : Cx} {ts : List Expr} {t t' : TGs} (h : PGs X ts t) (w : ∀ v σ H Q, t' v σ H Q → t v σ H Q) : PGs X ts t' := ⟨fun pins s σ H v u Q I r z => h.run pins s σ H v u Q I r (w _ _ _ _ z)⟩
section
variable {K : PySem.W.Frag} {g : Gh} {H : Hp} {σ : L2.St} {ρ : En}
theorem join_set {σ : L2.St} {i j : Nat} {v : Option V} : ((σ.set i v)[j]?).join = if i = j ∧ j < σ.length then v else (σ[j]?).join := by
  rw [List.getElem?_set]
  by_cases e : i = j
  · subst e
    by_cases h : i < σ.length
    · simp [h]
    · simp [h]
  · simp [e]
/-- a slot takes data -/
theorem EnOk.setVal {i : Nat} {d : D} {v : V} (ok : EnOk K g H σ ρ) (r : Rep K g.F g.al d v) : EnOk K g H (σ.set i (some v)) (ρ.set i (.val d)) := by
  refine ⟨ok.fs, ok.fo, ok.bs, ok.bo, ok.oh, by simp [En.set, ok.len], fun j s e => ?_, ok.all, ok.ob, ok.fr⟩
  have e' : (ρ.sl.set i (.val d))[j]? = some s := e
  rw [List.getElem?_set] at e'
  rw [join_set, ok.len]
  by_cases c : i = j
  · subst c
    by_cases h : i < ρ.sl.length
    · rw [if_pos rfl, if_pos h] at e'
      cases e'
      rw [if_pos ⟨rfl, h⟩]
      exact ⟨v, rfl, r⟩
    · rw [if_pos rfl, if_neg h] at e'
      cases e'
  · rw [if_neg c] at e'
    rw [if_neg (fun z => c z.1)]
    exact ok.sl j s e'
/-- a slot is forgotten -/
theorem EnOk.kill {i : Nat} (ok : EnOk K g H σ ρ) : EnOk K g H σ (ρ.set i .un) := by
  refine ⟨ok.fs, ok.fo, ok.bs, ok.bo, ok.oh, by simp [En.set, ok.len], fun j s e => ?_, ok.all, ok.ob, ok.fr⟩
  have e' : (ρ.sl.set i .un)[j]? = some s := e
  rw [List.getElem?_set] at e'
  by_cases c : i = j
  · subst c
    by_cases h : i < ρ.sl.length
    · rw [if_pos rfl, if_pos h] at e'
      cases e'
      trivial
    · rw [if_pos rfl, if_neg h] at e'
      cases e'
  · rw [if_neg c] at e'
    exact ok.sl j s e'
@[simp] def RV.sd : RV → SD
  | .v d => .val d
  | .o l => .own l
  | .od ks => .ownd ks
/-- a slot takes what is one's own -/
theorem EnOk.setR {i : Nat} {r : RV} {v : V} (ok : EnOk K g H σ ρ) (h : RVOk K g H r v) (hi : i < ρ.sl.length) : ∃ g', Ext g g' ∧ EnOk K g' H (σ.set i (some v)) (ρ.set i r.sd) ∧ g'.F = g.F ∧ g'.al = g.al ∧ ∀ b, ((∃ d, r = .v d) ∨ V.ref b ≠ v) → g'.ow b = g.ow b := by
  have key : ∀ (a : Addr) (s : SD), v = .ref a → (∃ o, H a = some o) → g.F a = none → g.B a = none → g.ow a = none → SlotOk K { g with ow := fun b => if b = a then some (.sl i) else g.ow b } H (.sl i) s (some v) →
      ∃ g', Ext g g' ∧ EnOk K g' H (σ.set i (some v)) (ρ.set i s) ∧ g'.F = g.F ∧ g'.al = g.al ∧ ∀ b, V.ref b ≠ v → g'.ow b = g.ow b := by
    intro a s ev hH hF hB hO hs
    refine ⟨{ g with ow := fun b => if b = a then some (.sl i) else g.ow b }, ⟨fun _ _ z => z, fun _ _ z => .inl z, rfl, fun _ _ z => z, fun _ _ _ _ z => z⟩, ?_⟩
    have mv : ∀ (b : Addr) (w : Ow) (o : HO), g.ow b = some w → H b = some o → (if b = a then some (Ow.sl i) else g.ow b) = some w ∧ H b = some o := fun b w o q z => by
      have : b ≠ a := fun e => by rw [e, hO] at q; cases q
      rw [if_neg this]
      exact ⟨q, z⟩
    have ok1 : EnOk K { g with ow := fun b => if b = a then some (.sl i) else g.ow b } H σ ρ := ok.move (g' := { g with ow := fun b => if b = a then some (.sl i) else g.ow b }) (fun _ _ z => z) rfl mv ok.fs (fun b o z => by
      have : b ≠ a := fun e => by rw [e] at z; rw [show g.F a = some o from z] at hF; cases hF
      show (if b = a then some (Ow.sl i) else g.ow b) = none
      rw [if_neg this]
      exact ok.fo b o z) ok.bs (fun b o z => by
      have : b ≠ a := fun e => by rw [e] at z; rw [show g.B a = some o from z] at hB; cases hB
      show (if b = a then some (Ow.sl i) else g.ow b) = none
      rw [if_neg this]
      exact ok.bo b o z) fun b w z => by
      by_cases e : b = a
      · rw [e]; exact hH
      · have z' : (if b = a then some (Ow.sl i) else g.ow b) = some w := z
        rw [if_neg e] at z'
        exact ok.oh b w z'
    refine ⟨⟨ok1.fs, ok1.fo, ok1.bs, ok1.bo, ok1.oh, by simp [En.set, ok.len], fun j s' e => ?_, ok1.all, ok1.ob, ok1.fr⟩, rfl, rfl, fun b nb => if_neg fun c => nb (by rw [c, ev])⟩
    have e' : (ρ.sl.set i s)[j]? = some s' := e
    rw [List.getElem?_set] at e'
    rw [join_set, ok.len]
    by_cases c : i = j
    · subst c
      rw [if_pos rfl, if_pos hi] at e'
      cases e'
      rw [if_pos ⟨rfl, hi⟩]
      exact hs
    · rw [if_neg c] at e'
      rw [if_neg (fun z => c z.1)]
      exact ok1.sl j s' e'
  have fin : ∀ {P : Gh → Prop}, (∃ g', Ext g g' ∧ P g' ∧ g'.F = g.F ∧ g'.al = g.al ∧ ∀ b, V.ref b ≠ v → g'.ow b = g.ow b) → (∀ d, r ≠ .v d) → ∃ g', Ext g g' ∧ P g' ∧ g'.F = g.F ∧ g'.al = g.al ∧ ∀ b, ((∃ d, r = .v d) ∨ V.ref b ≠ v) → g'.ow b = g.ow b :=
    fun ⟨g', a1, a2, a3, a4, a5⟩ ne => ⟨g', a1, a2, a3, a4, fun b z => z.elim (fun ⟨d, e⟩ => (ne d e).elim) (a5 b)⟩
  cases r with
  | v d => exact ⟨g, Ext.refl g, ok.setVal h, rfl, rfl, fun _ _ => rfl⟩
  | o l =>
    obtain ⟨a, xs, rfl, h1, h2, h3, h4, r⟩ := h
    exact fin (key a _ rfl ⟨_, h1⟩ h2 h3 h4 ⟨a, xs, rfl, h1, if_pos rfl, r⟩) (fun d e => by cases e)
  | od ks =>
    obtain ⟨a, kvs, rfl, h1, h2, h3, h4, z, r⟩ := h
    exact fin (key a _ rfl ⟨_, h1⟩ h2 h3 h4 ⟨a, kvs, rfl, h1, if_pos rfl, z, r⟩) (fun d e => by cases e)
end
@[simp] def setU (i : Nat) (d : D) : M Unit := fun ρ => .ok () (ρ.set i (.val d))
section
variable {X : Cx} {Wx : WX} {pos : Pos}
theorem dg_name (i : Nat) {x : Str} (hN : X.N.Nodup) (hi : X.N[i]? = some x) (hx : Loc X.env.scope x) (hf : X.fn x = true ∨ X.env.scope.names.lookup x = some .local) : DG X (setU i) [i] (.Name x pos) := pg_imp (pg_name hN hi hx hf) (by
  rintro v σ H Q ⟨g, ρ, d, ok, r, w⟩
  exact w g H _ (Ext.refl g) (ok.setVal r) ⟨List.length_set .., fun j hj => by
    have : i ≠ j := fun e => hj (by simp [e])
    rw [List.getElem?_set_ne this]⟩)
@[simp] def nilG : List D → M Unit := fun ds ρ => match ds with
  | [] => .ok () ρ
  | _ => .bad
@[simp] def consG (b : D → M Unit) (r : List D → M Unit) : List D → M Unit := fun ds ρ => match ds with
  | d :: ds => (b d ρ).bind fun _ ρ1 => r ds ρ1
  | [] => .bad
theorem dgs_nil : DGs X nilG [] [] := pgs_imp pgs_nil (by
  rintro v σ H Q ⟨g, ρ, ds, ok, r, w⟩
  cases ds with
  | nil => simp only [Reps] at r; exact ⟨r, w g H σ (Ext.refl g) ok ⟨rfl, fun _ _ => rfl⟩⟩
  | cons d ds => exact w.elim)
theorem dgs_cons {e : Expr} {es : List Expr} {b : D → M Unit} {r : List D → M Unit} {is js : List Nat} (h1 : DG X b is e) (h2 : DGs X r js es) (hs : (assignEach (e :: es) X.env).map (·.2) = assign e X.env :: (assignEach es X.env).map (·.2)) : DGs X (consG b r) (is ++ js) (e :: es) := pgs_imp (pgs_cons h1 h2 hs) (by
  rintro vs σ H Q ⟨g, ρ, ds, ok, rr, w⟩
  cases ds with
  | nil => exact w.elim
  | cons d ds =>
    simp only [Reps] at rr
    obtain ⟨v, vr, rfl, r1, r2⟩ := rr
    refine ⟨v, vr, rfl, g, ρ, d, ok, r1, Res.W_imp (Res.W_bind w) (fun _ ρ1 w1 => ?_) fun _ _ z => z⟩
    intro g1 H1 σ1 e1 ok1 k1
    refine ⟨g1, ρ1, ds, ok1, Reps.mono e1.f e1.al _ _ r2, Res.W_imp w1 (fun _ ρ2 w2 g2 H2 σ2 e2 ok2 k2 => ?_) fun _ _ z => z⟩
    exact w2 g2 H2 σ2 (e1.trans e2) ok2 ⟨k2.len.trans k1.len, fun j hj => by
      have hj' : j ∉ is ∧ j ∉ js := by simpa using hj
      rw [k2.at_ j hj'.2, k1.at_ j hj'.1]⟩)
/-- a tuple taken apart -/
@[simp] def tupU (n : Nat) (r : List D → M Unit) : D → M Unit := fun d ρ => match d with
  | .tup l => if l.length = n then r l ρ else .bad
  | _ => .bad
theorem dg_tup {es : List Expr} {k n : Nat} {r : List D → M Unit} {is : List Nat} (hc : X.calm = true) (h : DGs X r is es) (hn : (assignEach es X.env).length = n) (hst : (assignEach es X.env).findIdx? (·.1) = none) : DG X (tupU n r) is (.Tuple es k pos) := pg_imp (pg_tup hc h hn hst) (by
  rintro v σ H Q ⟨g, ρ, d, ok, rr, w⟩
  cases d with
  | tup l =>
    obtain ⟨a, xs, rfl, s, r1⟩ := rr.tup
    dsimp only [tupU] at w
    split at w
    · rename_i c
      exact ⟨a, xs, rfl, Same.seqT ok.fs s, by rw [r1.length]; exact c, g, ρ, l, ok, r1, w⟩
    · exact w.elim
  | _ => exact w.elim)
end
end LW
set_option maxHeartbeats 200000
namespace LW
open PySem PySem.Spec PyProof.Rows L2

section
variable {X : Cx} {Wx : WX} {pos : Pos} {st : Stmt} {sts : List Stmt} {e : Expr} {me : M D}
@[simp] def nopM : M Fl := fun ρ => .ok .nx ρ
def seqM (a b : M Fl) : M Fl := fun ρ => (a ρ).bind fun fl ρ1 => match fl with
  | .nx => b ρ1
  | .bk => .ok .bk ρ1
  | .ct => .ok .ct ρ1
  | .rt r => .ok (.rt r) ρ1
theorem dss_nil : DSs X Wx nopM [] := pss_imp pss_nil fun E σ H ⟨g, ρ, ok, w⟩ => w g H σ (Ext.refl g) ok
theorem dss_cons {m1 m2 : M Fl} (h1 : DS X Wx m1 st) (h2 : DSs X Wx m2 sts) : DSs X Wx (seqM m1 m2) (st :: sts) := pss_imp (pss_cons h1 h2) (by
  rintro E σ H ⟨g, ρ, ok, w⟩
  refine ⟨g, ρ, ok, Res.W_imp (Res.W_bind w) (fun fl ρ1 w1 => ?_) fun _ _ z => z⟩
  intro g1 H1 σ1 e1 ok1
  cases fl with
  | nx => exact ⟨g1, ρ1, ok1, Res.W_imp w1 (fun _ _ z => z.mono e1) fun _ _ z => z.mono e1⟩
  | bk => exact w1 g1 H1 σ1 e1 ok1
  | ct => exact w1 g1 H1 σ1 e1 ok1
  | rt r => exact w1 g1 H1 σ1 e1 ok1)
/-- the last statement stands alone -/
theorem dss_one {m : M Fl} (h : DS X Wx m st) : DSs X Wx m [st] := pss_one h
/-- slots are forgotten -/
@[simp] def killM : List Nat → M Fl
  | [] => nopM
  | i :: is => fun ρ => killM is (ρ.set i .un)
theorem killM_ok {K : PySem.W.Frag} {g : Gh} {H : Hp} {σ : L2.St} : ∀ {is : List Nat} {ρ : En}, EnOk K g H σ ρ → ∃ ρ', killM is ρ = .ok .nx ρ' ∧ EnOk K g H σ ρ'
  | [], ρ, ok => ⟨ρ, rfl, ok⟩
  | i :: is, ρ, ok => killM_ok (is := is) ok.kill
theorem dss_kill {is : List Nat} {m : M Fl} (h : DSs X Wx m sts) : DSs X Wx (seqM (killM is) m) sts := pss_imp h (by
  rintro E σ H ⟨g, ρ, ok, w⟩
  obtain ⟨ρ', e, ok'⟩ := killM_ok (is := is) ok
  unfold seqM at w
  rw [e] at w
  exact ⟨g, ρ', ok', w⟩)
theorem dss_killEnd {is : List Nat} : DSs X Wx (killM is) [] := pss_imp pss_nil (by
  rintro E σ H ⟨g, ρ, ok, w⟩
  obtain ⟨ρ', e, ok'⟩ := killM_ok (is := is) ok
  rw [e] at w
  exact w g H σ (Ext.refl g) ok')
/-- a list of one's own is let go as data -/
@[simp] def letM (i : Nat) : M Fl := fun ρ => match ρ.sl[i]? with
  | some (.own l) => .ok .nx (ρ.set i (.val (.lst l)))
  | some (.ownd ks) => .ok .nx (ρ.set i (.val (.dct (ks.map (·.1)) (ks.map (·.2)))))
  | _ => .bad
theorem EnOk.letGo {K : PySem.W.Frag} {g : Gh} {H : Hp} {σ : L2.St} {ρ : En} {i : Nat} {a : Addr} {o : HO} {d : D} {v : V} (ok : EnOk K g H σ ρ) (hs : (σ[i]?).join = some v) (hH : H a = some o) (hw : g.ow a = some (.sl i))
    (hr : ∀ F : Hp, (∀ b u, g.F b = some u → F b = some u) → F a = some o → Rep K F g.al d v) : ∃ g', Ext g g' ∧ EnOk K g' H σ (ρ.set i (.val d)) := by
  have nF : g.F a = none := by
    cases q : g.F a with
    | none => rfl
    | some z => rw [ok.fo _ _ q] at hw; cases hw
  have nB : g.B a = none := by
    cases q : g.B a with
    | none => rfl
    | some z => rw [ok.bo _ _ q] at hw; cases hw
  have hF : ∀ b u, g.F b = some u → upd g.F a o b = some u := fun b u q => by rw [upd_ne (ne_of_none q nF)]; exact q
  have cases_F : ∀ b u, upd g.F a o b = some u → (b = a ∧ u = o) ∨ (b ≠ a ∧ g.F b = some u) := fun b u q => by
    by_cases c : b = a
    · rw [c, upd_same] at q; cases q; exact .inl ⟨c, rfl⟩
    · rw [upd_ne c] at q; exact .inr ⟨c, q⟩
  refine ⟨{ g with F := upd g.F a o, ow := fun b => if b = a then none else g.ow b }, ⟨hF, fun b u q => ?_, rfl, fun _ _ z => z, fun _ _ _ _ z => z⟩, ?_, ?_, ok.bs, ?_, ?_, by simp [En.set, ok.len], ?_, ok.all, ?_, ok.fr⟩
  · rcases cases_F b u q with ⟨c, _⟩ | ⟨_, q⟩
    · rw [c]; exact .inr nB
    · exact .inl q
  · intro b u q
    rcases cases_F b u q with ⟨c, e⟩ | ⟨_, q⟩
    · rw [c, e]; exact hH
    · exact ok.fs _ _ q
  · intro b u q
    show (if b = a then none else g.ow b) = none
    rcases cases_F b u q with ⟨c, e⟩ | ⟨c, q⟩
    · rw [if_pos c]
    · rw [if_neg c]; exact ok.fo _ _ q
  · intro b u q
    show (if b = a then none else g.ow b) = none
    by_cases c : b = a
    · rw [if_pos c]
    · rw [if_neg c]; exact ok.bo _ _ q
  · intro b w q
    have q' : (if b = a then none else g.ow b) = some w := q
    by_cases c : b = a
    · rw [if_pos c] at q'; cases q'
    · rw [if_neg c] at q'; exact ok.oh _ _ q'
  · intro j s e
    have e' : (ρ.sl.set i (.val d))[j]? = some s := e
    rw [List.getElem?_set] at e'
    by_cases c : i = j
    · subst c
      by_cases h : i < ρ.sl.length
      · rw [if_pos rfl, if_pos h] at e'
        cases e'
        exact ⟨v, hs, hr _ hF upd_same⟩
      · rw [if_pos rfl, if_neg h] at e'
        cases e'
    · rw [if_neg c] at e'
      refine (ok.sl j s e').mono hF (fun _ _ z => z) fun b u q z => ⟨?_, z⟩
      have : b ≠ a := fun x => by rw [x, hw] at q; cases q; exact c rfl
      show (if b = a then none else g.ow b) = _
      rw [if_neg this]; exact q
  · intro n c fs e
    obtain ⟨p, dx, fvs, e1, e2, e3, e4⟩ := ok.ob n c fs e
    have np : ∀ b w, g.ow b = some w → w ≠ .sl i → (if b = a then none else g.ow b) = some w := fun b w q z => by
      have : b ≠ a := fun x => by rw [x, hw] at q; cases q; exact z rfl
      rw [if_neg this]; exact q
    exact ⟨p, dx, fvs, e1, e2, np _ _ e3 (fun z => by cases z), FldsOk.mono (g := g) (g' := { g with F := upd g.F a o, ow := fun b => if b = a then none else g.ow b }) (H := H) (H' := H) hF (fun _ _ z => z) (fun _ _ _ z => z) (fun f b u q z => ⟨np _ _ q (fun z => by cases z), z⟩) e4⟩
theorem letM_ok {K : PySem.W.Frag} {g : Gh} {H : Hp} {σ : L2.St} {i : Nat} {ρ : En} {P : Fl → En → Prop} {Q : Ex → En → Prop} (ok : EnOk K g H σ ρ) (w : (letM i ρ).W P Q) : ∃ g' ρ', letM i ρ = .ok .nx ρ' ∧ Ext g g' ∧ EnOk K g' H σ ρ' := by
  unfold letM at w ⊢
  cases e : ρ.sl[i]? with
  | none => rw [e] at w; exact w.elim
  | some s =>
    rw [e] at w
    cases s with
    | own l =>
      obtain ⟨a, xs, e1, e2, e3, r⟩ := ok.sl i _ e
      obtain ⟨g', x, k⟩ := ok.letGo (d := .lst l) e1 e2 e3 fun F hF hA => Rep.mkL hA (Reps.mono hF (fun _ _ z => z) _ _ r)
      exact ⟨g', _, rfl, x, k⟩
    | ownd ks =>
      obtain ⟨a, xs, e1, e2, e3, z, r⟩ := ok.sl i _ e
      obtain ⟨g', x, k⟩ := ok.letGo (d := .dct (ks.map (·.1)) (ks.map (·.2))) e1 e2 e3 fun F hF hA => by
        simp only [Rep]
        exact ⟨a, xs, rfl, hA, z, Reps.mono hF (fun _ _ z => z) _ _ r⟩
      exact ⟨g', _, rfl, x, k⟩
    | _ => exact w.elim
theorem dss_let {i : Nat} {m : M Fl} (h : DSs X Wx m sts) : DSs X Wx (seqM (letM i) m) sts := pss_imp h (by
  rintro E σ H ⟨g, ρ, ok, w⟩
  obtain ⟨g', ρ', e, x, ok'⟩ := letM_ok ok (Res.W_bind w)
  unfold seqM at w
  rw [e] at w
  exact ⟨g', ρ', ok', Res.W_imp w (fun _ _ z => z.mono x) fun _ _ z => z.mono x⟩)

def asgM (m : M D) (b : D → M Unit) : M Fl := fun ρ => (m ρ).bind fun d ρ1 => (b d ρ1).bind fun _ ρ2 => .ok .nx ρ2
theorem Res.noex {α β : Type} {r : Res α} {f : α → En → Res β} {P : α → En → Prop} {E : Ex → En → Prop} (h : r.W P E) (k : ∀ e ρ, r = .exc e ρ → False) : r.W P fun _ _ => False := by
  cases r with
  | ok a ρ => exact h
  | exc e ρ => exact (k e ρ rfl).elim
  | bad => exact h
/-- exceptions are out of the question here -/
@[simp] def nox {α : Type} (r : Res α) : Res α := match r with
  | .exc _ _ => .bad
  | r => r
theorem nox_W {α : Type} {r : Res α} {P : α → En → Prop} {E : Ex → En → Prop} (h : (nox r).W P E) : r.W P fun _ _ => False := by
  cases r <;> exact h
theorem nox_W2 {α : Type} {r : Res α} {P : α → En → Prop} {E E' : Ex → En → Prop} (h : (nox r).W P E) : r.W P E' := by
  cases r with
  | ok a ρ => exact h
  | exc e ρ => exact h.elim
  | bad => exact h
@[simp] def asgT (m : M D) (b : D → M Unit) : M Fl := fun ρ => (m ρ).bind fun d ρ1 => (nox (b d ρ1)).bind fun _ ρ2 => .ok .nx ρ2
theorem ds_asg {tg : Expr} {b : D → M Unit} {is : List Nat} (he : DE X Wx me e) (hg : DG X b is tg) (hs : swapsWithSole [tg] e pos.line X.env = pure false) (hw : swappedStores [tg] e X.env = pure none) (h1 : (assignEach [tg] X.env).map (·.2) = [assign tg X.env]) : DS X Wx (asgT me b) (.Assign [tg] e pos) := ps_imp (ps_asg he hg hs hw h1) (by
  rintro E σ H ⟨g, ρ, ok, w⟩
  refine ⟨g, ρ, ok, Res.W_imp (Res.W_bind w) (fun d ρ1 w1 => ?_) fun _ _ z => z.toW⟩
  intro g1 H1 v e1 ok1 rv
  refine ⟨g1, ρ1, d, ok1, rv, Res.W_imp (nox_W (Res.W_bind w1)) (fun _ ρ2 w2 => ?_) fun _ _ z => z⟩
  intro g2 H2 σ2 e2 ok2 _
  exact w2 g2 H2 σ2 (e1.trans e2) ok2)
/-- name = e -/
@[simp] def setM (i : Nat) (m : M RV) : M Fl := fun ρ => (m ρ).bind fun r ρ1 => if i < ρ1.sl.length then .ok .nx (ρ1.set i r.sd) else .bad
theorem tSet_of {i : Nat} {m : M RV} {t : TE} (h : ∀ σ H Q, tR X.K Wx m σ H Q → t σ H Q) : ∀ E σ H, tS X.K Wx (setM i m) E σ H → tAsg t (gName i) E σ H := by
  rintro E σ H ⟨g, ρ, ok, w⟩
  refine h σ H _ ⟨g, ρ, ok, Res.W_imp (Res.W_bind w) (fun r ρ1 w1 => ?_) fun _ _ z => z.toW⟩
  intro g1 H1 v e1 ok1 rv
  by_cases hi : i < ρ1.sl.length
  · rw [if_pos hi] at w1
    obtain ⟨g2, e2, ok2, _⟩ := ok1.setR rv hi
    exact w1 g2 H1 _ (e1.trans e2) ok2
  · rw [if_neg hi] at w1
    exact w1.elim
theorem ds_set (i : Nat) {x : Str} {m : M RV} {pos' : Pos} (hN : X.N.Nodup) (hi : X.N[i]? = some x) (hx : Loc X.env.scope x) (he : DR X Wx m e) (hs : swapsWith e (some (.Name x pos')) pos.line X.env = pure false) (hf : X.fn x = true ∨ X.env.scope.names.lookup x = some .local) :
    DS X Wx (setM i m) (.Assign [.Name x pos'] e pos) := ps_imp (ps_set hN hi hx he hs hf) (tSet_of fun _ _ _ z => z)
@[simp] def retM' (m : M RV) : M Fl := fun ρ => (m ρ).bind fun r ρ1 => .ok (.rt r) ρ1
theorem ds_ret {m : M RV} (he : DR X Wx m e) : DS X Wx (retM' m) (.Return (some e) pos) := ps_imp (ps_ret he) (by
  rintro E σ H ⟨g, ρ, ok, w⟩
  refine ⟨g, ρ, ok, Res.W_imp (Res.W_bind w) (fun r ρ1 w1 => ?_) fun _ _ z => z.toW⟩
  intro g1 H1 v e1 ok1 rv
  exact w1 g1 H1 σ e1 ok1 v rv)
@[simp] def retN : M Fl := fun ρ => .ok (.rt (.v .non)) ρ
theorem ds_retN : DS X Wx retN (.Return none pos) := ps_imp ps_retN fun E σ H ⟨g, ρ, ok, w⟩ => w g H σ (Ext.refl g) ok .non (show Rep X.K g.F g.al .non .non from Rep.mkN)
theorem ds_pass : DS X Wx nopM (.Pass pos) := ps_imp ps_pass fun E σ H ⟨g, ρ, ok, w⟩ => w g H σ (Ext.refl g) ok
@[simp] def brkM : M Fl := fun ρ => .ok .bk ρ
@[simp] def cntM : M Fl := fun ρ => .ok .ct ρ
theorem ds_break : DS X Wx brkM (.Break pos) := ps_imp ps_break fun E σ H ⟨g, ρ, ok, w⟩ => w g H σ (Ext.refl g) ok
theorem ds_cont : DS X Wx cntM (.Continue pos) := ps_imp ps_continue fun E σ H ⟨g, ρ, ok, w⟩ => w g H σ (Ext.refl g) ok
@[simp] def exprM {α : Type} (m : M α) : M Fl := fun ρ => (m ρ).bind fun _ ρ1 => .ok .nx ρ1
theorem ds_expr (he : DE X Wx me e) (hs : swapsWith e none pos.line X.env = pure false) : DS X Wx (exprM me) (.Expr e pos) := ps_imp (ps_expr he hs) (by
  rintro E σ H ⟨g, ρ, ok, w⟩
  refine ⟨g, ρ, ok, Res.W_imp (Res.W_bind w) (fun d ρ1 w1 => ?_) fun _ _ z => z.toW⟩
  intro g1 H1 v e1 ok1 rv
  exact w1 g1 H1 σ e1 ok1)
theorem ds_doc {x : Str} {j : Nat} {p : Pos} : DS X Wx nopM (.Expr (.Constant (.str x) j p) pos) := ps_imp ps_doc fun E σ H ⟨g, ρ, ok, w⟩ => w g H σ (Ext.refl g) ok
/-- a statement that is never reached -/
theorem ds_bad : DS X Wx (badM : M Fl) st := ps_imp ps_never fun E σ H ⟨g, ρ, ok, w⟩ => w.elim
theorem dss_bad : DSs X Wx (badM : M Fl) sts := pss_imp pss_never fun E σ H ⟨g, ρ, ok, w⟩ => w.elim
@[simp] def ifM (c : M Bool) (a b : M Fl) : M Fl := iteD c a b
theorem ds_if {c : Expr} {p q : List Stmt} {mc : M Bool} {ma mb : M Fl} (hc : DT X Wx mc c) (ha : DSs X Wx ma p) (hb : DSs X Wx mb q) : DS X Wx (ifM mc ma mb) (.If c p q pos) := ps_imp (ps_if hc ha hb) (by
  rintro E σ H ⟨g, ρ, ok, w⟩
  refine ⟨g, ρ, ok, Res.W_imp (Res.W_bind w) (fun b ρ1 w1 => ?_) fun _ _ z => z.toW⟩
  intro g1 H1 e1 ok1
  cases b with
  | true =>
    rw [if_pos rfl]
    exact ⟨g1, ρ1, ok1, Res.W_imp w1 (fun _ _ z => z.mono e1) fun _ _ z => z.mono e1⟩
  | false =>
    rw [if_neg (by decide)]
    exact ⟨g1, ρ1, ok1, Res.W_imp w1 (fun _ _ z => z.mono e1) fun _ _ z => z.mono e1⟩)
/-- a, b = x, y -/
@[simp] def parM (i j : Nat) (m : M (List D)) : M Fl := fun ρ => (m ρ).bind fun ds ρ1 => match ds with
  | [x, y] => .ok .nx ((ρ1.set i (.val x)).set j (.val y))
  | _ => .bad
theorem ds_par (i j : Nat) {x y : Str} {a b : Expr} {ma : M (List D)} {px py pt : Pos} {kt k2 : Nat} {pt2 : Pos} (hc : X.calm = true) (hN : X.N.Nodup) (hi : X.N[i]? = some x) (hj : X.N[j]? = some y) (hij : i ≠ j) (hx : X.env.scope.names.lookup x = some .local) (hy : X.env.scope.names.lookup y = some .local) (ha : DA X Wx ma [a, b])
    (hw : swappedStores [.Tuple [.Name x px, .Name y py] kt pt] (.Tuple [a, b] k2 pt2) X.env = pure (some [x, y])) (hs : swapsWithSole [.Tuple [.Name x px, .Name y py] kt pt] (.Tuple [a, b] k2 pt2) pos.line X.env = pure false) :
    DS X Wx (parM i j ma) (.Assign [.Tuple [.Name x px, .Name y py] kt pt] (.Tuple [a, b] k2 pt2) pos) := ps_imp (ps_par hc hN hi hj hij hx hy ha hw hs) (by
  rintro E σ H ⟨g, ρ, ok, w⟩
  refine ⟨g, ρ, ok, Res.W_imp (Res.W_bind w) (fun ds ρ1 w1 => ?_) fun _ _ z => z.toW⟩
  intro g1 H1 vs e1 ok1 rv
  split at w1
  · obtain ⟨u, v, rfl, r1, r2⟩ := rv.two
    exact ⟨u, v, rfl, w1 g1 H1 _ e1 ((ok1.setVal r1).setVal r2)⟩
  · exact w1.elim)

def forGo : List D → (D → M Unit) → M Fl → M Fl
  | [], _, _ => nopM
  | d :: ds, b, body => fun ρ => (nox (b d ρ)).bind fun _ ρ1 => (body ρ1).bind fun fl ρ2 => match fl with
    | .nx => forGo ds b body ρ2
    | .ct => forGo ds b body ρ2
    | .bk => .ok .nx ρ2
    | .rt r => .ok (.rt r) ρ2
@[simp] def forM (m : M (List D)) (b : D → M Unit) (body : M Fl) : M Fl := fun ρ => (m ρ).bind fun ds ρ1 => forGo ds b body ρ1
theorem ds_for {tg iter : Expr} {body : List Stmt} {m : M (List D)} {b : D → M Unit} {is : List Nat} {mb : M Fl} (hp : PassesOwn (model X.prog X.w) X.A X.env X.xe) (hc : X.calm = true) (hi : DI X Wx m tg iter) (hg : DG X b is tg) (hb : DSs X Wx mb body) (hs : ∀ x, foldedSetIterable iter X.env x = pure x) :
    DS X Wx (forM m b mb) (.For tg iter body [] pos) := ps_imp (ps_for hp hc hi hg hb hs) (by
  rintro E σ H ⟨g, ρ, ok, w⟩
  refine ⟨g, ρ, ok, Res.W_imp (Res.W_bind w) (fun ds ρ1 w1 => ?_) fun _ _ z => z.toW⟩
  intro g1 H1 J e1 ok1 jok
  refine ⟨fun i k σ H => i ≤ ds.length ∧ k = ds.length - i ∧ ∃ g2 ρ2, Ext g1 g2 ∧ EnOk X.K g2 H σ ρ2 ∧ (forGo (ds.drop i) b mb ρ2).W (flP X.K E g2) (xS X.K Wx g2), ⟨_, Nat.zero_le _, rfl, g1, ρ1, Ext.refl _, ok1, ?_⟩, ?_⟩
  · exact Res.W_imp w1 (fun _ _ z => z.mono e1) fun _ _ z => z.mono e1
  rintro i k σ2 H2 ⟨hi, rfl, g2, ρ2, e2, ok2, w2⟩
  by_cases hlt : i < ds.length
  · have hd : ds[i]? = some ds[i] := by simp [hlt]
    rw [List.drop_eq_getElem_cons hlt] at w2
    obtain ⟨j1, j2⟩ := jok.go i _ hd g2 H2 σ2 ρ2 e2.to0 ok2
    refine .inr ⟨j1, fun σ' H' => ∃ g2 ρ2, Ext g1 g2 ∧ EnOk X.K g2 H' σ' ρ2 ∧ (forGo (ds.drop (i + 1)) b mb ρ2).W (flP X.K E g2) (xS X.K Wx g2), fun σ' H' ⟨g3, ρ3, e3, ok3, w3⟩ => ⟨ds.length - (i + 1), by omega, by omega, rfl, g3, ρ3, e3, ok3, w3⟩, fun x H3 y => ?_⟩
    obtain ⟨g3, e3, ok3, r3⟩ := j2 x H3 y
    refine ⟨g3, ρ2, _, ok3, r3, Res.W_imp (nox_W (Res.W_bind w2)) (fun _ ρ4 w4 => ?_) fun _ _ z => z⟩
    intro g4 H4 σ4 e4 ok4 _
    refine ⟨g4, ρ4, ok4, Res.W_imp (Res.W_bind w4) (fun fl ρ5 w5 => ?_) fun _ _ z => z.mono (e3.trans e4)⟩
    intro g5 H5 σ5 e5 ok5
    have x5 := (e3.trans e4).trans e5
    cases fl with
    | nx => exact ⟨g5, ρ5, e2.trans x5, ok5, Res.W_imp w5 (fun _ _ z => z.mono x5) fun _ _ z => z.mono x5⟩
    | ct => exact ⟨g5, ρ5, e2.trans x5, ok5, Res.W_imp w5 (fun _ _ z => z.mono x5) fun _ _ z => z.mono x5⟩
    | bk => exact w5 g5 H5 σ5 x5 ok5
    | rt r => exact w5 g5 H5 σ5 x5 ok5
  · have e' : i = ds.length := by omega
    subst e'
    rw [List.drop_length] at w2
    exact .inl ⟨jok.stop g2 H2 σ2 ρ2 e2.to0 ok2, w2 g2 H2 σ2 (Ext.refl _) ok2⟩)

/-- at most n turns -/
def whileN (c : M Bool) (body : M Fl) : Nat → M Fl
  | 0 => badM
  | n + 1 => fun ρ => (c ρ).bind fun b ρ1 => match b with
    | false => .ok .nx ρ1
    | true => (body ρ1).bind fun fl ρ2 => match fl with
      | .nx => whileN c body n ρ2
      | .ct => whileN c body n ρ2
      | .bk => .ok .nx ρ2
      | .rt r => .ok (.rt r) ρ2
def Res.isBad {α : Type} : Res α → Bool
  | .bad => true
  | _ => false
theorem Res.W_nb {α : Type} (r : Res α) {P : α → En → Prop} {E : Ex → En → Prop} (h : r.W P E) : r.isBad = false := by
  cases r with
  | bad => exact h.elim
  | _ => rfl
theorem Res.bind_nb {α β : Type} {r : Res α} {f f' : α → En → Res β} (h : ((r.bind f).isBad) = false) (k : ∀ a ρ, (f a ρ).isBad = false → f' a ρ = f a ρ) : r.bind f' = r.bind f := by
  cases r with
  | ok a ρ => exact k a ρ h
  | exc e ρ => rfl
  | bad => rfl
theorem whileN_mono {c : M Bool} {body : M Fl} : ∀ {n m : Nat} {ρ : En}, n ≤ m → (whileN c body n ρ).isBad = false → whileN c body m ρ = whileN c body n ρ
  | 0, m, ρ, h, k => by cases k
  | n + 1, 0, ρ, h, k => by omega
  | n + 1, m + 1, ρ, h, k => by
    unfold whileN at k ⊢
    refine Res.bind_nb k fun b ρ1 k1 => ?_
    cases b with
    | false => rfl
    | true =>
      refine Res.bind_nb k1 fun fl ρ2 k2 => ?_
      cases fl with
      | nx => exact whileN_mono (by omega) k2
      | ct => exact whileN_mono (by omega) k2
      | bk => rfl
      | rt r => rfl
open Classical in
/-- as many turns as it takes -/
noncomputable def whileM (c : M Bool) (body : M Fl) : M Fl := fun ρ => if h : ∃ n, (whileN c body n ρ).isBad = false then whileN c body h.choose ρ else .bad
theorem whileM_of {c : M Bool} {body : M Fl} {n : Nat} {ρ : En} (h : (whileN c body n ρ).isBad = false) : whileM c body ρ = whileN c body n ρ := by
  unfold whileM
  have hx : ∃ n, (whileN c body n ρ).isBad = false := ⟨n, h⟩
  rw [dif_pos hx]
  rcases Nat.le_total n hx.choose with l | l
  · exact whileN_mono l h
  · exact (whileN_mono l hx.choose_spec).symm
/-- one turn of a while that ends -/
theorem whileM_turn {c : M Bool} {body : M Fl} {ρ ρ1 ρ2 : En} {r : Res Fl} (hc : c ρ = .ok true ρ1) (hb : body ρ1 = .ok .nx ρ2) (hr : whileM c body ρ2 = r) (nb : r.isBad = false) : whileM c body ρ = r := by
  unfold whileM at hr
  split at hr
  · rename_i hx
    have e := hx.choose_spec
    rw [hr] at e
    have : whileN c body (hx.choose + 1) ρ = r := by
      unfold whileN
      rw [hc]
      simp only [Res.bind_ok]
      rw [hb]
      simp only [Res.bind_ok]
      exact hr
    rw [whileM_of (n := hx.choose + 1) (by rw [this]; exact nb)]
    exact this
  · rw [← hr] at nb
    cases nb
theorem whileM_stop {c : M Bool} {body : M Fl} {ρ ρ1 : En} (hc : c ρ = .ok false ρ1) : whileM c body ρ = .ok .nx ρ1 := by
  have e : whileN c body 1 ρ = .ok .nx ρ1 := by
    unfold whileN
    rw [hc]
    rfl
  rw [whileM_of (n := 1) (by rw [e]; rfl)]
  exact e
theorem whileM_leave {c : M Bool} {body : M Fl} {ρ ρ1 ρ2 : En} {r : RV} (hc : c ρ = .ok true ρ1) (hb : body ρ1 = .ok (.rt r) ρ2) : whileM c body ρ = .ok (.rt r) ρ2 := by
  have e : whileN c body 1 ρ = .ok (.rt r) ρ2 := by
    unfold whileN
    rw [hc]
    simp only [Res.bind_ok]
    rw [hb]
    rfl
  rw [whileM_of (n := 1) (by rw [e]; rfl)]
  exact e
theorem ds_while {c : Expr} {body : List Stmt} {mc : M Bool} {mb : M Fl} (hp : PassesOwn (model X.prog X.w) X.A X.env X.xe) (hc : DT X Wx mc c) (hb : DSs X Wx mb body) : DS X Wx (whileM mc mb) (.While c body [] pos) := ps_imp (ps_while hp hc hb) (by
  rintro E σ H ⟨g, ρ, ok, w⟩
  have nb := Res.W_nb _ w
  unfold whileM at w nb
  split at w
  case isFalse => exact w.elim
  rename_i hx
  refine ⟨fun n σ H => ∃ g2 ρ2, Ext g g2 ∧ EnOk X.K g2 H σ ρ2 ∧ (whileN mc mb n ρ2).W (flP X.K E g2) (xS X.K Wx g2), ⟨_, g, ρ, Ext.refl _, ok, w⟩, ?_⟩
  rintro n σ2 H2 ⟨g2, ρ2, e2, ok2, w2⟩
  cases n with
  | zero => exact w2.elim
  | succ n =>
    unfold whileN at w2
    refine ⟨g2, ρ2, ok2, Res.W_imp (Res.W_bind w2) (fun b ρ3 w3 => ?_) fun _ _ z => z.toW⟩
    intro g3 H3 e3 ok3
    cases b with
    | false =>
      rw [if_neg (by decide)]
      exact w3 g3 H3 σ2 e3 ok3
    | true =>
      rw [if_pos rfl]
      refine ⟨fun σ' H' => ∃ g2 ρ2, Ext g g2 ∧ EnOk X.K g2 H' σ' ρ2 ∧ (whileN mc mb n ρ2).W (flP X.K E g2) (xS X.K Wx g2), fun σ' H' z => ⟨n, by omega, z⟩, ?_⟩
      refine ⟨g3, ρ3, ok3, Res.W_imp (Res.W_bind w3) (fun fl ρ4 w4 => ?_) fun _ _ z => z.mono e3⟩
      intro g4 H4 σ4 e4 ok4
      have x4 := e3.trans e4
      cases fl with
      | nx => exact ⟨g4, ρ4, e2.trans x4, ok4, Res.W_imp w4 (fun _ _ z => z.mono x4) fun _ _ z => z.mono x4⟩
      | ct => exact ⟨g4, ρ4, e2.trans x4, ok4, Res.W_imp w4 (fun _ _ z => z.mono x4) fun _ _ z => z.mono x4⟩
      | bk => exact w4 g4 H4 σ4 x4 ok4
      | rt r => exact w4 g4 H4 σ4 x4 ok4)
end
end LW
set_option maxHeartbeats 200000
namespace LW
open PySem PySem.Spec PyProof.Rows L2

section
variable {K : PySem.W.Frag} {g g' : Gh} {H H' : Hp} {σ σ' : L2.St} {ρ ρ' : En} {p : Addr} {o : HO}
structure Nob (g : Gh) (p : Addr) : Prop where
  f : g.F p = none
  b : g.B p = none
  o : g.ow p = none
theorem EnOk.nob (h : EnOk K g H σ ρ) (n : H p = none) : Nob g p := ⟨h.Fn n, h.Bn n, h.On n⟩
def Gh.prot (g : Gh) (p : Addr) (o : HO) : Gh := { g with B := upd g.B p o }
theorem Gh.prot_ext0 : Ext0 g (g.prot p o) := ⟨fun _ _ h => h, fun _ _ h => h⟩
theorem EnOk.prot (h : EnOk K g H σ ρ) (e : H p = some o) (n : Nob g p) : EnOk K (g.prot p o) H σ ρ := by
  refine h.move (fun _ _ z => z) rfl (fun _ _ _ z e => ⟨z, e⟩) h.fs h.fo (fun a u z => ?_) (fun a u z => ?_) h.oh
  · have z' : upd g.B p o a = some u := z
    by_cases c : a = p
    · rw [c, upd_same] at z'; cases z'; rw [c]; exact e
    · rw [upd_ne c] at z'; exact h.bs _ _ z'
  · have z' : upd g.B p o a = some u := z
    by_cases c : a = p
    · rw [c]; exact n.o
    · rw [upd_ne c] at z'; exact h.bo _ _ z'
/-- given back -/
def Gh.unprot (g' g : Gh) : Gh := { g' with B := g.B }
theorem Gh.unprot_ext (e : Ext (g.prot p o) g') (n : Nob g p) : Ext g (g'.unprot g) := by
  refine ⟨e.f, fun a u z => ?_, rfl, e.al, e.ad⟩
  rcases e.n a u z with q | q
  · exact .inl q
  · have q' : upd g.B p o a = none := q
    by_cases c : a = p
    · rw [c, upd_same] at q'; cases q'
    · rw [upd_ne c] at q'; exact .inr q'
theorem Gh.unprot_nob (e : Ext (g.prot p o) g') (n : Nob g p) (h : EnOk K g' H' σ' ρ') : Nob (g'.unprot g) p ∧ H' p = some o := by
  have hB : g'.B p = some o := by rw [e.b]; exact upd_same
  refine ⟨⟨?_, n.b, h.bo _ _ hB⟩, h.bs _ _ hB⟩
  show g'.F p = none
  cases q : g'.F p with
  | none => rfl
  | some z =>
    rcases e.n _ _ q with x | x
    · rw [show (g.prot p o).F p = g.F p from rfl, n.f] at x; cases x
    · rw [show (g.prot p o).B p = some o from upd_same] at x; cases x
theorem EnOk.unprot (e : Ext (g.prot p o) g') (n : Nob g p) (h : EnOk K g' H' σ' ρ') : EnOk K (g'.unprot g) H' σ' ρ' := by
  have k : ∀ a u, g.B a = some u → g'.B a = some u := fun a u z => by
    have : a ≠ p := fun c => by rw [c, n.b] at z; cases z
    rw [e.b]; show upd g.B p o a = some u; rw [upd_ne this]; exact z
  exact h.move (fun _ _ z => z) rfl (fun _ _ _ z e => ⟨z, e⟩) h.fs h.fo (fun a u z => h.bs a u (k a u z)) (fun a u z => h.bo a u (k a u z)) h.oh
/-- nobody's object is written -/
theorem EnOk.poke {u : HO} (h : EnOk K g H σ ρ) (n : Nob g p) : EnOk K g (upd H p u) σ ρ := by
  have k : ∀ a w, w ≠ none → w = g.F a ∨ w = g.B a → a ≠ p := fun a w hw c e => by
    rw [e, n.f, n.b] at c
    rcases c with c | c <;> exact hw c
  refine h.move (fun _ _ z => z) rfl (fun a w v z e => ⟨z, ?_⟩) (fun a v z => ?_) h.fo (fun a v z => ?_) h.bo (fun a w z => ?_)
  · have : a ≠ p := fun c => by rw [c, n.o] at z; cases z
    rw [upd_ne this]; exact e
  · rw [upd_ne (k a (some v) (by simp) (.inl z.symm))]; exact h.fs _ _ z
  · rw [upd_ne (k a (some v) (by simp) (.inr z.symm))]; exact h.bs _ _ z
  · have : a ≠ p := fun c => by rw [c, n.o] at z; cases z
    obtain ⟨v, e⟩ := h.oh _ _ z
    exact ⟨v, by rw [upd_ne this]; exact e⟩
/-- other slots, the same things -/
theorem EnOk.reslot (h : EnOk K g H σ ρ) (hob : ρ'.ob = ρ.ob) (hl : σ'.length = ρ'.sl.length) (hs : ∀ i s, ρ'.sl[i]? = some s → SlotOk K g H (.sl i) s (σ'[i]?.join)) : EnOk K g H σ' ρ' :=
  ⟨h.fs, h.fo, h.bs, h.bo, h.oh, hl, hs, by rw [hob]; exact h.all, fun n c fs e => h.ob n c fs (by rw [← hob]; exact e), by rw [hob]; exact h.fr⟩
end

def En.kills (ρ : En) (vs : List Nat) : En := { ρ with sl := ρ.sl.mapIdx fun i s => if i ∈ vs then .un else s }
def SD.keep : Option SD → SD
  | some (.val d) => .val d
  | _ => .un
def En.back (ρ ρ0 : En) (vs : List Nat) : En := { ρ with sl := ρ.sl.mapIdx fun i s => if i ∈ vs then SD.keep (ρ0.sl[i]?) else s }
theorem wipe_at {σ : L2.St} {j : Nat} : ∀ {vs : List Nat}, (wipe σ vs)[j]? = if j ∈ vs then (if j < σ.length then some none else none) else σ[j]?
  | [] => by simp [wipe]
  | v :: vs => by
    unfold wipe
    rw [List.getElem?_set, wipe_length, wipe_at (vs := vs)]
    by_cases c : v = j
    · subst c; simp
    · have c' : ¬ j = v := fun e => c e.symm
      simp [c, c']
theorem wipe_off {σ σ' : L2.St} {is vs : List Nat} (h : OffAt is (wipe σ vs) σ') (hv : ∀ i ∈ is, i ∈ vs) : wipe σ' vs = wipe σ vs := by
  refine List.ext_getElem? fun j => ?_
  have hl : σ'.length = σ.length := by rw [h.len, wipe_length]
  rw [wipe_at, wipe_at, hl]
  by_cases c : j ∈ vs
  · rw [if_pos c, if_pos c]
  · rw [if_neg c, if_neg c, h.at_ j (fun z => c (hv j z)), wipe_at, if_neg c]
section
variable {K : PySem.W.Frag} {g g0 : Gh} {H H0 : Hp} {σ : L2.St} {ρ ρ0 : En} {vs : List Nat}
theorem EnOk.wipe (h : EnOk K g H σ ρ) : EnOk K g H (wipe σ vs) (ρ.kills vs) := by
  refine h.reslot rfl (by simp [En.kills, wipe_length, h.len]) fun i s e => ?_
  have e' : (ρ.sl.mapIdx fun i s => if i ∈ vs then SD.un else s)[i]? = some s := e
  rw [List.getElem?_mapIdx] at e'
  cases q : ρ.sl[i]? with
  | none => rw [q] at e'; cases e'
  | some z =>
    rw [q] at e'
    by_cases c : i ∈ vs
    · simp [c] at e'
      rw [← e']; trivial
    · simp [c] at e'
      rw [← e', wipe_at, if_neg c]
      exact h.sl i z q
theorem EnOk.unwipe (h : EnOk K g H (L2.wipe σ vs) ρ) (h0 : EnOk K g0 H0 σ ρ0) (x : Ext0 g0 g) : EnOk K g H σ (ρ.back ρ0 vs) := by
  refine h.reslot rfl (by have := h.len; rw [wipe_length] at this; simp [En.back, this]) fun i s e => ?_
  have e' : (ρ.sl.mapIdx fun i s => if i ∈ vs then SD.keep (ρ0.sl[i]?) else s)[i]? = some s := e
  rw [List.getElem?_mapIdx] at e'
  cases q : ρ.sl[i]? with
  | none => rw [q] at e'; cases e'
  | some z =>
    rw [q] at e'
    by_cases c : i ∈ vs
    · simp [c] at e'
      rw [← e']
      unfold SD.keep
      split
      · rename_i d ed
        obtain ⟨v, ev, r⟩ := h0.sl i _ ed
        exact ⟨v, ev, Rep.mono x.f x.al _ _ r⟩
      · trivial
    · simp [c] at e'
      rw [← e']
      have := h.sl i z q
      rw [wipe_at, if_neg c] at this
      exact this
end
def W0 : WX := fun _ _ _ _ => False
def lcGo (b : D → M Unit) (t : M Bool) (el : M D) (vs : List Nat) : List D → List D → M (List D)
  | [], acc => fun ρ => .ok acc ρ
  | d :: ds, acc => fun ρ => (b d ρ).bind fun _ ρ1 => (t ρ1).bind fun x ρ2 => match x with
    | true => (el ρ2).bind fun y ρ3 => lcGo b t el vs ds (acc ++ [y]) (ρ3.kills vs)
    | false => lcGo b t el vs ds acc (ρ2.kills vs)
/-- [el for b in m if t], the block's names at vs -/
def lcM (m : M (List D)) (b : D → M Unit) (t : M Bool) (el : M D) (vs : List Nat) : M RV := fun ρ => (m ρ).bind fun ds ρ1 => if ds.length ≤ sizeLine then
    (nox (lcGo b t el vs ds [] (ρ1.kills vs))).bind fun l ρ2 => .ok (.o l) (ρ2.back ρ1 vs)
  else .bad
theorem tLc_of {K : PySem.W.Frag} {Wx : WX} {m : M (List D)} {b : D → M Unit} {t : M Bool} {el : M D} {is vs : List Nat} (hv : ∀ i ∈ is, i ∈ vs) : ∀ σ H Q, tR K Wx (lcM m b t el vs) σ H Q → tLc (tI K Wx m) (gT K b is) (tT K W0 t) (tD K W0 el) vs σ H Q := by
  rintro σ H Q ⟨g, ρ, ok, w⟩
  refine ⟨g, ρ, ok, Res.W_imp (Res.W_bind w) (fun ds ρ1 w1 => ?_) fun _ _ z => z⟩
  intro g1 H1 J e1 ok1 jok D nD
  by_cases hz : ds.length ≤ sizeLine
  case neg => rw [if_neg hz] at w1; exact w1.elim
  rw [if_pos hz] at w1
  let Wk : Nat → Hp → Prop := fun i H => i ≤ ds.length ∧ ∃ g2 ρ2 acc xs, Ext g1 g2 ∧ EnOk K g2 H (wipe σ vs) ρ2 ∧ H D = some (.lst xs) ∧ Nob g2 D ∧ Reps K g2.F g2.al acc xs ∧ acc.length ≤ i ∧
    (lcGo b t el vs (ds.drop i) acc ρ2).W (fun l ρ3 => ∀ g' H' v, Ext g2 g' → EnOk K g' H' σ (ρ3.back ρ1 vs) → RVOk K g' H' (.o l) v → Q v H') (fun _ _ => False)
  refine ⟨fun i k H => k = ds.length - i ∧ Wk i H, ⟨_, rfl, Nat.zero_le _, g1, _, [], [], Ext.refl _, (ok1.laid nD).wipe, upd_same, ok1.nob nD, Reps.nil, Nat.le_refl _, ?_⟩, ?_⟩
  · refine Res.W_imp (nox_W (Res.W_bind w1)) (fun l ρ2 w2 => ?_) fun _ _ z => z
    intro g2 H2 v e2 ok2 rv
    exact w2 g2 H2 v (e1.trans e2) ok2 rv
  rintro i k H2 ⟨rfl, hi, g2, ρ2, acc, xs, e2, ok2, hD, nb, rr, hl, w2⟩
  by_cases hlt : i < ds.length
  · have hd : ds[i]? = some ds[i] := by simp [hlt]
    rw [List.drop_eq_getElem_cons hlt] at w2
    have okp := ok2.prot hD nb
    obtain ⟨j1, j2⟩ := jok.go i _ hd _ H2 _ ρ2 (e2.to0.trans Gh.prot_ext0) okp
    refine .inr ⟨j1, Wk (i + 1), fun H' z => ⟨ds.length - (i + 1), by omega, rfl, z⟩, fun x H3 y => ?_⟩
    obtain ⟨g3, e3, ok3, r3⟩ := j2 x H3 y
    refine ⟨g3, ρ2, _, ok3, r3, Res.W_imp (Res.W_bind w2) (fun _ ρ4 w4 => ?_) fun _ _ z => z⟩
    intro g4 H4 σ4 e4 ok4 off
    have hw := wipe_off off hv
    refine ⟨hw, g4, ρ4, ok4, Res.W_imp (Res.W_bind w4) (fun x ρ5 w5 => ?_) fun _ _ z => z.elim⟩
    intro g5 H5 e5 ok5
    have x5 := (e3.trans e4).trans e5
    cases x with
    | false =>
      rw [if_neg (by decide)]
      have okb := (EnOk.unprot x5 nb ok5).wipe (vs := vs)
      rw [hw] at okb
      obtain ⟨nb5, hD5⟩ := Gh.unprot_nob x5 nb ok5
      have xx := Gh.unprot_ext x5 nb
      refine ⟨by omega, _, _, acc, xs, e2.trans xx, okb, hD5, nb5, Reps.mono xx.f xx.al _ _ rr, by omega, Res.W_imp w5 (fun l ρ6 w6 => ?_) fun _ _ z => z⟩
      exact fun g' H' v x' => w6 g' H' v (xx.trans x')
    | true =>
      rw [if_pos rfl]
      refine ⟨g5, ρ5, ok5, Res.W_imp (Res.W_bind w5) (fun y ρ6 w6 => ?_) fun _ _ z => z.elim⟩
      intro g6 H6 v6 e6 ok6 r6
      have x6 := x5.trans e6
      obtain ⟨nb6, hD6⟩ := Gh.unprot_nob x6 nb ok6
      have xx := Gh.unprot_ext x6 nb
      have hlen := rr.length
      refine ⟨xs, hD6, by omega, ?_⟩
      have okb := ((EnOk.unprot x6 nb ok6).poke (u := .lst (xs ++ [v6])) nb6).wipe (vs := vs)
      rw [hw] at okb
      refine ⟨by omega, _, _, acc ++ [y], xs ++ [v6], e2.trans xx, okb, upd_same, nb6, Reps.append (Reps.mono xx.f xx.al _ _ rr) (Reps.one r6), by simp; omega, Res.W_imp w6 (fun l ρ7 w7 => ?_) fun _ _ z => z⟩
      exact fun g' H' v x' => w7 g' H' v (xx.trans x')
  · have e' : i = ds.length := by omega
    subst e'
    rw [List.drop_length] at w2
    exact .inl ⟨jok.stop g2 H2 _ ρ2 e2.to0 ok2, w2 g2 H2 _ (Ext.refl _) (ok2.unwipe ok1 e2.to0) ⟨D, xs, rfl, hD, nb.f, nb.b, nb.o, rr⟩⟩
section
variable {X : Cx} {Wx : WX}
abbrev DTs (X : Cx) (Wx : WX) (m : M Bool) (es : List Expr) : Prop := PTs X es (tT X.K Wx m)
@[simp] def yesT : M Bool := fun ρ => .ok true ρ
theorem dts_nil : DTs X Wx yesT [] := ⟨fun pins s σ H Q I ⟨g, ρ, ok, w⟩ => pts_nil.run pins s σ H Q I (w g H (Ext.refl g) ok)⟩
theorem dts_one {c : Expr} {m : M Bool} (h : DT X Wx m c) : DTs X Wx m [c] := pts_one h
theorem dr_lc {elt tg iter : Expr} {ifs : List Expr} {scope : Scope} {own : List (Str × Nat)} {pos : Pos} {m : M (List D)} {b : D → M Unit} {is : List Nat} {t : M Bool} {el : M D} (hc : X.calm = true) (hN : X.N.Nodup) (hi : DI X Wx m tg iter) (ok : BlkOk X.N X.env.scope scope own) (hv : ∀ i ∈ is, i ∈ own.map (·.2))
    (hg : ∀ (s : Shared) (H : Hp) (C : Addr) (cl : List (Str × Addr)) (fp : List Addr), DG (X.blk s H scope (compEnvC scope cl C X.env) fp) b is tg) (ht : ∀ (s : Shared) (H : Hp) (C : Addr) (cl : List (Str × Addr)) (fp : List Addr), DTs (X.blk s H scope (compEnvC scope cl C X.env) fp) W0 t ifs)
    (he : ∀ (s : Shared) (H : Hp) (C : Addr) (cl : List (Str × Addr)) (fp : List Addr), DE (X.blk s H scope (compEnvC scope cl C X.env) fp) W0 el elt) (hs : ∀ x, foldedSetIterable iter X.env x = pure x) :
    DR X Wx (lcM m b t el (own.map (·.2))) (.ListComp elt [⟨tg, iter, ifs, 0⟩] scope pos) := pe_imp (pe_lc hc hN hi ok hg ht he hs) (tLc_of hv)
theorem ds_setLc (i : Nat) {y : Str} {py : Pos} {elt tg iter : Expr} {ifs : List Expr} {scope : Scope} {own : List (Str × Nat)} {pos spos : Pos} {m : M (List D)} {b : D → M Unit} {is : List Nat} {t : M Bool} {el : M D} (hc : X.calm = true) (hN : X.N.Nodup) (hy : X.N[i]? = some y) (hyl : X.env.scope.names.lookup y = some .local)
    (hsw : swapsWith (.ListComp elt [⟨tg, iter, ifs, 0⟩] scope pos) (some (.Name y py)) spos.line X.env = pure true) (hi : DI X Wx m tg iter) (ok : BlkOk X.N X.env.scope scope own) (hv : ∀ i ∈ is, i ∈ own.map (·.2))
    (hg : ∀ (s : Shared) (H : Hp) (C : Addr) (cl : List (Str × Addr)) (fp : List Addr), DG (X.blk s H scope (compEnvC scope cl C X.env) fp) b is tg) (ht : ∀ (s : Shared) (H : Hp) (C : Addr) (cl : List (Str × Addr)) (fp : List Addr), DTs (X.blk s H scope (compEnvC scope cl C X.env) fp) W0 t ifs)
    (he : ∀ (s : Shared) (H : Hp) (C : Addr) (cl : List (Str × Addr)) (fp : List Addr), DE (X.blk s H scope (compEnvC scope cl C X.env) fp) W0 el elt) (hs : ∀ x, foldedSetIterable iter X.env x = pure x) :
    DS X Wx (setM i (lcM m b t el (own.map (·.2)))) (.Assign [.Name y py] (.ListComp elt [⟨tg, iter, ifs, 0⟩] scope pos) spos) := ps_imp (ps_setLc hc hN hy hyl hsw hi ok hg ht he hs) (tSet_of (tLc_of hv))
end
end LW
set_option maxHeartbeats 200000
namespace LW
open PySem PySem.Spec PyProof.Rows L2

section
variable {K : PySem.W.Frag} {g g' : Gh} {H H' : Hp} {σ σ' : L2.St} {ρ ρ' : En}
def Ow.isSl : Option Ow → Bool
  | some (.sl _) => true
  | _ => false
/-- the ghost for a callee: what the slots own is another's -/
def Gh.call (g : Gh) (H : Hp) : Gh := { g with B := fun a => if Ow.isSl (g.ow a) = true then H a else g.B a, ow := fun a => if Ow.isSl (g.ow a) = true then none else g.ow a }
/-- and behind the call -/
def Gh.ret (g' g : Gh) : Gh := { g' with B := g.B, ow := fun a => if Ow.isSl (g.ow a) = true then g.ow a else (if Ow.isSl (g'.ow a) = true then none else g'.ow a) }
theorem Gh.call_ext0 : Ext0 g (g.call H) := ⟨fun _ _ h => h, fun _ _ h => h⟩
theorem isSl_none {o : Option Ow} (h : o = none) : ¬ Ow.isSl o = true := by rw [h]; decide
theorem EnOk.call (h : EnOk K g H σ ρ) : EnOk K (g.call H) H [] ⟨[], ρ.ob⟩ := by
  refine ⟨h.fs, fun a o q => ?_, fun a o q => ?_, fun a o q => ?_, fun a w q => ?_, rfl, fun i s e => by simp at e, h.all, fun n c fs e => ?_, h.fr⟩
  · show (if Ow.isSl (g.ow a) = true then none else g.ow a) = none
    rw [h.fo _ _ q]; rfl
  · have q' : (if Ow.isSl (g.ow a) = true then H a else g.B a) = some o := q
    by_cases c : Ow.isSl (g.ow a) = true
    · rw [if_pos c] at q'; exact q'
    · rw [if_neg c] at q'; exact h.bs _ _ q'
  · have q' : (if Ow.isSl (g.ow a) = true then H a else g.B a) = some o := q
    show (if Ow.isSl (g.ow a) = true then none else g.ow a) = none
    by_cases c : Ow.isSl (g.ow a) = true
    · rw [if_pos c]
    · rw [if_neg c] at q' ⊢; exact h.bo _ _ q'
  · have q' : (if Ow.isSl (g.ow a) = true then none else g.ow a) = some w := q
    by_cases c : Ow.isSl (g.ow a) = true
    · rw [if_pos c] at q'; cases q'
    · rw [if_neg c] at q'; exact h.oh _ _ q'
  · obtain ⟨a, dx, fvs, e1, e2, e3, e4⟩ := h.ob n c fs e
    have k : ∀ b w, g.ow b = some w → (∀ i, w ≠ .sl i) → (if Ow.isSl (g.ow b) = true then none else g.ow b) = some w := fun b w z ne => by
      rw [z]
      cases w with
      | sl i => exact (ne i rfl).elim
      | _ => rfl
    exact ⟨a, dx, fvs, e1, e2, k _ _ e3 (fun i z => by cases z), FldsOk.mono (g := g) (g' := g.call H) (H := H) (H' := H) (fun _ _ z => z) (fun _ _ z => z) (fun _ _ _ z => z) (fun f b u q z => ⟨k _ _ q (fun i z => by cases z), z⟩) e4⟩
theorem Gh.ret_ext (e : Ext (g.call H) g') (hoh : ∀ a w, g.ow a = some w → ∃ o, H a = some o) : Ext g (g'.ret g) := by
  refine ⟨e.f, fun a o z => ?_, rfl, e.al, e.ad⟩
  rcases e.n a o z with q | q
  · exact .inl q
  · have q' : (if Ow.isSl (g.ow a) = true then H a else g.B a) = none := q
    by_cases c : Ow.isSl (g.ow a) = true
    · rw [if_pos c] at q'
      cases w : g.ow a with
      | none => rw [w] at c; cases c
      | some x =>
        obtain ⟨o', z'⟩ := hoh _ _ w
        rw [z'] at q'; cases q'
    · rw [if_neg c] at q'; exact .inr q'
theorem EnOk.ret (h : EnOk K g H σ ρ) (e : Ext (g.call H) g') (h' : EnOk K g' H' [] ρ') : EnOk K (g'.ret g) H' σ ⟨ρ.sl, ρ'.ob⟩ ∧ ∀ r v, RVOk K g' H' r v → RVOk K (g'.ret g) H' r v := by
  have bsl : ∀ a i, g.ow a = some (.sl i) → ∃ o, H a = some o ∧ g'.B a = some o := fun a i z => by
    obtain ⟨o, q⟩ := h.oh _ _ z
    refine ⟨o, q, ?_⟩
    rw [e.b]
    show (if Ow.isSl (g.ow a) = true then H a else g.B a) = some o
    rw [if_pos (by rw [z]; rfl)]; exact q
  have sl_of : ∀ a, Ow.isSl (g.ow a) = true → ∃ i, g.ow a = some (.sl i) := fun a c => by
    cases w : g.ow a with
    | none => rw [w] at c; cases c
    | some x =>
      cases x with
      | sl i => exact ⟨i, rfl⟩
      | _ => rw [w] at c; cases c
  have nsl : ∀ a, g'.B a = none → ¬ Ow.isSl (g.ow a) = true := fun a z c => by
    obtain ⟨i, w⟩ := sl_of a c
    obtain ⟨o, _, q⟩ := bsl a i w
    rw [q] at z; cases z
  have nslF : ∀ a o, g'.F a = some o → ¬ Ow.isSl (g.ow a) = true := fun a o z c => by
    obtain ⟨i, w⟩ := sl_of a c
    rcases e.n _ _ z with q | q
    · have q' : g.F a = some o := q
      rw [h.fo _ _ q'] at w; cases w
    · obtain ⟨o', _, q'⟩ := bsl a i w
      rw [← e.b, q'] at q; cases q
  have keepO : ∀ a w, g'.ow a = some w → (∀ i, w ≠ .sl i) → (if Ow.isSl (g.ow a) = true then g.ow a else (if Ow.isSl (g'.ow a) = true then none else g'.ow a)) = some w := fun a w z ne => by
    have : ¬ Ow.isSl (g.ow a) = true := fun c => by
      obtain ⟨i, w'⟩ := sl_of a c
      obtain ⟨o, _, q⟩ := bsl a i w'
      rw [h'.bo _ _ q] at z; cases z
    rw [if_neg this, z]
    cases w with
    | sl i => exact (ne i rfl).elim
    | _ => rfl
  have ons : ∀ a, g'.ow a = none → ¬ Ow.isSl (g.ow a) = true → (if Ow.isSl (g.ow a) = true then g.ow a else (if Ow.isSl (g'.ow a) = true then none else g'.ow a)) = none := fun a z c => by
    rw [if_neg c, z]; rfl
  have gB : ∀ a o, g.B a = some o → ¬ Ow.isSl (g.ow a) = true ∧ g'.B a = some o := fun a o z => by
    have c : ¬ Ow.isSl (g.ow a) = true := isSl_none (h.bo _ _ z)
    refine ⟨c, ?_⟩
    rw [e.b]
    show (if Ow.isSl (g.ow a) = true then H a else g.B a) = some o
    rw [if_neg c]; exact z
  refine ⟨⟨h'.fs, fun a o z => ons a (h'.fo _ _ z) (nslF a o z), fun a o z => h'.bs _ _ (gB a o z).2, fun a o z => ons a (h'.bo _ _ (gB a o z).2) (gB a o z).1, fun a w z => ?_, h.len, fun i s es => ?_, h'.all, fun n c fs en => ?_, h'.fr⟩, fun r v rv => ?_⟩
  · have z' : (if Ow.isSl (g.ow a) = true then g.ow a else (if Ow.isSl (g'.ow a) = true then none else g'.ow a)) = some w := z
    by_cases c : Ow.isSl (g.ow a) = true
    · obtain ⟨i, w'⟩ := sl_of a c
      obtain ⟨o, _, q⟩ := bsl a i w'
      exact ⟨o, h'.bs _ _ q⟩
    · rw [if_neg c] at z'
      by_cases c2 : Ow.isSl (g'.ow a) = true
      · rw [if_pos c2] at z'; cases z'
      · rw [if_neg c2] at z'; exact h'.oh _ _ z'
  · refine (h.sl i s es).mono (g := g) (g' := g'.ret g) (H := H) (H' := H') (fun b o z => e.f b o z) e.al fun a o z hz => ?_
    obtain ⟨o', q1, q2⟩ := bsl a i z
    rw [hz] at q1
    cases q1
    refine ⟨?_, h'.bs _ _ q2⟩
    show (if Ow.isSl (g.ow a) = true then g.ow a else _) = _
    rw [if_pos (by rw [z]; rfl)]; exact z
  · obtain ⟨a, dx, fvs, e1, e2, e3, e4⟩ := h'.ob n c fs en
    exact ⟨a, dx, fvs, e1, e2, keepO _ _ e3 (fun i z => by cases z), FldsOk.mono (g := g') (g' := g'.ret g) (H := H') (H' := H') (fun _ _ z => z) (fun _ _ z => z) (fun _ _ _ z => z) (fun f b u q z => ⟨keepO _ _ q (fun i z => by cases z), z⟩) e4⟩
  · have nbk : ∀ a, g'.F a = none → g'.B a = none → g'.ow a = none → g.B a = none ∧ (g'.ret g).ow a = none := fun a n1 n2 n3 => by
      refine ⟨?_, ons a n3 (nsl a n2)⟩
      cases q : g.B a with
      | none => rfl
      | some o => rw [(gB a o q).2] at n2; cases n2
    cases r with
    | v d => exact rv
    | o l =>
      obtain ⟨a, xs, rfl, q1, q2, q3, q4, q5⟩ := rv
      obtain ⟨m1, m2⟩ := nbk a q2 q3 q4
      exact ⟨a, xs, rfl, q1, q2, m1, m2, q5⟩
    | od ks =>
      obtain ⟨a, xs, rfl, q1, q2, q3, q4, q5, q6⟩ := rv
      obtain ⟨m1, m2⟩ := nbk a q2 q3 q4
      exact ⟨a, xs, rfl, q1, q2, m1, m2, q5, q6⟩
end

def spD (K : PySem.W.Frag) (n : Nat) (Ph : List D → M RV) : Sp := fun vs H Q E => vs.length = n ∧ ∃ g ob ds, EnOk K g H [] ⟨[], ob⟩ ∧ Reps K g.F g.al ds vs ∧
  (Ph ds ⟨[], ob⟩).W (fun r ρ' => ∀ g' H' v, Ext g g' → EnOk K g' H' [] ⟨[], ρ'.ob⟩ → RVOk K g' H' r v → Q v H') (fun e ρ' => ∀ g' H' cv dd, Ext g g' → EnOk K g' H' [] ⟨[], ρ'.ob⟩ → ExOk K g' e cv dd → E cv dd H')
/-- the slots at a def's start -/
@[simp] def slots0 (n : Nat) (ds : List D) : List SD := ds.map .val ++ List.replicate (n - ds.length) .un
/-- what a body computes -/
@[simp] def callF (n : Nat) (den : M Fl) : List D → M RV := fun ds ρ => match den ⟨slots0 n ds, ρ.ob⟩ with
  | .ok .nx ρ' => .ok (.v .non) ⟨[], ρ'.ob⟩
  | .ok (.rt r) ρ' => .ok r ⟨[], ρ'.ob⟩
  | .ok _ _ => .bad
  | .exc e ρ' => .exc e ⟨[], ρ'.ob⟩
  | .bad => .bad
theorem start_ok {K : PySem.W.Frag} {g : Gh} {H : Hp} {ob : List OD} {ds : List D} {vs : List V} {N : List Str} (h : EnOk K g H [] ⟨[], ob⟩) (r : Reps K g.F g.al ds vs) (hl : ds.length ≤ N.length) : EnOk K g H (L2.start N vs) ⟨slots0 N.length ds, ob⟩ := by
  have lv := r.length
  refine h.reslot rfl (by simp [L2.start, slots0, lv]) fun i s e => ?_
  have e' : (ds.map SD.val ++ List.replicate (N.length - ds.length) SD.un)[i]? = some s := e
  show SlotOk K g H (.sl i) s ((vs.map some ++ List.replicate (N.length - vs.length) none)[i]?.join)
  by_cases c : i < ds.length
  · rw [List.getElem?_append_left (by simpa using c)] at e'
    rw [List.getElem?_append_left (by simpa [lv] using c)]
    rw [List.getElem?_map] at e' ⊢
    cases q : ds[i]? with
    | none => rw [q] at e'; cases e'
    | some d =>
      rw [q] at e'
      cases e'
      obtain ⟨v, ev, rv⟩ := r.get q
      rw [ev]
      exact ⟨v, rfl, rv⟩
  · rw [List.getElem?_append_right (by simpa using c)] at e'
    have := List.mem_of_getElem? e'
    rw [(List.mem_replicate.mp this).2]
    trivial
section
variable {P : Program} {w : World} {K : PySem.W.Frag} {mg : Str → Option Value} {base : Heap} {x qual : Str} {params : Arguments} {body : List Stmt} {scope : Scope} {dvs : List V} {kws : List (Str × V)} {f : Addr} {fd : FuncData}
/-- THE RULE: a def from its body -/
theorem fn_body {N ps : List Str} {k : Nat} {den : M Fl} (F : FunD K x qual params body scope dvs kws f fd) (S : FnScope N ps scope)
    (hb : ∀ (cdv : Value) (A : Around) (outer : List Env) (s : Shared) (H : Hp) (E : XK), Room k (A.deeper (envOfC qual scope s.heap.objs.size f cdv)) → DSs (cxOf (CX P w) P w K mg base N qual scope f cdv A outer s H E) (fun cls d _ H => E cls d H) den body) :
    FnOk P w K mg base (CX P w) (k + 1) f fd ps (spD K ps.length (callF N.length den)) := by
  refine F.ok S (fun vs H Q E h => h.1) fun cdv A outer s H vs Q E room ⟨hl, g, ob, ds, ok, r, wr⟩ => ?_
  refine ⟨_, hb cdv A outer s H E room, g, ⟨slots0 N.length ds, ob⟩, start_ok ok r ?_, ?_⟩
  · have h1 := r.length
    have h2 : (N.take ps.length).length = ps.length := by rw [S.pre]
    rw [List.length_take] at h2
    omega
  · unfold callF at wr
    cases q : den ⟨slots0 N.length ds, ob⟩ with
    | bad => rw [q] at wr; exact wr.elim
    | exc e ρ' =>
      rw [q] at wr
      exact fun g' H' σ' cv dd x' ok' xo => wr g' H' cv dd x' (ok'.reslot rfl rfl fun i s e => by simp at e) xo
    | ok fl ρ' =>
      rw [q] at wr
      cases fl with
      | nx => exact fun g' H' σ' x' ok' => wr g' H' _ x' (ok'.reslot rfl rfl fun i s e => by simp at e) (show Rep K g'.F g'.al .non .non from Rep.mkN)
      | rt rr => exact fun g' H' σ' x' ok' v rv => wr g' H' v x' (ok'.reslot rfl rfl fun i s e => by simp at e) rv
      | bk => exact wr.elim
      | ct => exact wr.elim
end
section
variable {X : Cx} {Wx : WX} {x : Str} {p pos : Pos} {e : Expr} {es : List Expr} {k : Nat} {f : Addr} {fd : FuncData} {ps : List Str} {m : M (List D)} {Ph : List D → M RV}
@[simp] def callM (n : Nat) (m : M (List D)) (d0 : List D) (Ph : List D → M RV) : M RV := fun ρ => (m ρ).bind fun ds ρ1 => if (ds ++ d0).length = n then (match Ph (ds ++ d0) ⟨[], ρ1.ob⟩ with
  | .ok r ρ2 => .ok r ⟨ρ1.sl, ρ2.ob⟩
  | .exc e ρ2 => .exc e ⟨ρ1.sl, ρ2.ob⟩
  | .bad => .bad) else .bad
/-- the defaults, as data -/
def Dfl (K : PySem.W.Frag) (d0 : List D) (dvs : List V) : Prop := ∀ F al, Reps K F al d0 dvs
theorem Dfl.nil {K : PySem.W.Frag} : Dfl K [] [] := fun _ _ => Reps.nil
/-- the callee runs; what it lets out is told by this frame's wish -/
def tCallX (sp : Sp) (dvs : List V) (Wx : WX) (t : TA) : TE := fun σ H Q => t σ H fun vs H1 => sp (vs ++ dvs) H1 Q fun cls d H' => Wx cls d σ H'
theorem run_fnX {sp : Sp} {dvs : List V} {ds : List Value} {pins : List (Addr × Obj)} {σ : L2.St} {H : Hp} {s : Shared} {Q : VK} {us : List Value} {vs : List V} (F : FnOk X.prog X.w X.K X.mg X.base (CX X.prog X.w) k f fd ps sp) (hr : Room k X.A) (hb : Binds X.K fd ps ds) (hd : Vals dvs ds) (tk : Takes X Wx)
    (I : Inv X pins σ H s) (r : Vals vs us) (h : sp (vs ++ dvs) H Q fun cls d H' => Wx cls d σ H') : wpAny (model X.prog X.w) X.A (call (.ref f) us) (EP X pins σ Q) X.xe s := by
  have r2 : Vals (vs ++ dvs) (us ++ ds) := r.append hd
  have hl : (us ++ ds).length = ps.length := by rw [← r2.length]; exact F.len _ _ _ _ h
  refine wpAny_call (codeAny_mono (F.run X.A X.stack s H ⟨us, []⟩ (us ++ ds) (vs ++ dvs) Q _ hr I.env0 (hb s us I.kIn hl) r2 h) fun r s' hq => ?_)
  cases r with
  | error e => exact tk e s' (XE.of_call I (fun cls d H' z => z) hq)
  | ok fl =>
    cases fl with
    | ret u => exact I.after hq
    | next => exact False.elim hq
    | brk => exact False.elim hq
    | cont => exact False.elim hq
theorem pe_callX {sp : Sp} {dvs : List V} {ds : List Value} {t : TA} (F : FnOk X.prog X.w X.K X.mg X.base (CX X.prog X.w) k f fd ps sp) (hr : Room k X.A) (hg : Gl X x) (hm : X.mg x = some (.ref f)) (hk : PySem.W.keepIn X.K (.ref f) = true) (hb : Binds X.K fd ps ds) (hd : Vals dvs ds) (tk : Takes X Wx)
    (ha : PA X (e :: es) t) (hdb : (x == ("__debug__" : Str)) = false) (he : starEach (e :: es) X.env = (false, eval e X.env) :: starEach es X.env) (hpl : (backTo pos (starEach es X.env)).any (·.1) = false) : PE X (.Call (.Name x p) (e :: es) [] pos) (tCallX sp dvs Wx t) := by
  refine ⟨fun pins s σ H Q I h => ?_⟩
  refine wpAny_Call_Name_kw (ld_glob I hg hm ?_ hdb)
  refine PySem.W.callWith_K (h₀ := X.base) I.ok.mod.kin hk (thn (ha.run pos pins s σ H _ I h) fun us s1 ⟨vs, H1, I1, r, q⟩ => ⟨I1.kIn, ?_⟩) he hpl
  exact run_fnX F hr hb hd tk I1 r q
theorem pe_callX0 {sp : Sp} {dvs : List V} {ds : List Value} (F : FnOk X.prog X.w X.K X.mg X.base (CX X.prog X.w) k f fd ps sp) (hr : Room k X.A) (hg : Gl X x) (hm : X.mg x = some (.ref f)) (hk : PySem.W.keepIn X.K (.ref f) = true) (hb : Binds X.K fd ps ds) (hd : Vals dvs ds) (tk : Takes X Wx)
    (hdb : (x == ("__debug__" : Str)) = false) : PE X (.Call (.Name x p) [] [] pos) (tCallX sp dvs Wx tNil) := by
  refine ⟨fun pins s σ H Q I h => ?_⟩
  refine wpAny_Call_Name_kw (ld_glob I hg hm ?_ hdb)
  exact PySem.W.callWith_K0 I.kIn hk (run_fnX (us := []) F hr hb hd tk I .nil h)
theorem tCall_of {K : PySem.W.Frag} {n : Nat} {d0 : List D} {dvs : List V} (hd0 : Dfl K d0 dvs) : ∀ σ H Q, tR K Wx (callM n m d0 Ph) σ H Q → tCallX (spD K n Ph) dvs Wx (tA K Wx m) σ H Q := by
  rintro σ H Q ⟨g, ρ, ok, w⟩
  refine ⟨g, ρ, ok, Res.W_imp (Res.W_bind w) (fun ds ρ1 w1 => ?_) fun _ _ z => z⟩
  intro g1 H1 vs e1 ok1 rv
  have rr := Reps.append rv (hd0 g1.F g1.al)
  by_cases c : (ds ++ d0).length = n
  · rw [if_pos c] at w1
    refine ⟨by rw [rr.length]; exact c, g1.call H1, ρ1.ob, ds ++ d0, ok1.call, rr, ?_⟩
    cases q : Ph (ds ++ d0) ⟨[], ρ1.ob⟩ with
    | bad => rw [q] at w1; exact w1.elim
    | ok r ρ2 =>
      rw [q] at w1
      intro g' H' v x' ok' rv'
      obtain ⟨k1, k2⟩ := ok1.ret x' ok'
      exact w1 _ H' v (e1.trans (Gh.ret_ext x' ok1.oh)) k1 (k2 _ _ rv')
    | exc ee ρ2 =>
      rw [q] at w1
      intro g' H' cv dd x' ok' xo
      obtain ⟨k1, k2⟩ := ok1.ret x' ok'
      exact w1 _ H' cv dd (e1.trans (Gh.ret_ext x' ok1.oh)) k1 xo
  · rw [if_neg c] at w1
    exact w1.elim
/-- f(e, ..) -/
theorem dr_call {d0 : List D} {dvs : List V} {ds : List Value} (F : FnOk X.prog X.w X.K X.mg X.base (CX X.prog X.w) k f fd ps (spD X.K ps.length Ph)) (hr : Room k X.A) (hg : Gl X x) (hm : X.mg x = some (.ref f)) (hk : PySem.W.keepIn X.K (.ref f) = true) (hb : Binds X.K fd ps ds) (hd : Vals dvs ds) (hd0 : Dfl X.K d0 dvs) (tk : Takes X Wx)
    (ha : DA X Wx m (e :: es)) (hdb : (x == ("__debug__" : Str)) = false) (he : starEach (e :: es) X.env = (false, eval e X.env) :: starEach es X.env) (hpl : (backTo pos (starEach es X.env)).any (·.1) = false) :
    DR X Wx (callM ps.length m d0 Ph) (.Call (.Name x p) (e :: es) [] pos) := pe_imp (pe_callX F hr hg hm hk hb hd tk ha hdb he hpl) (tCall_of hd0)
theorem takes0 {X : Cx} (s : Shared) (H : Hp) (scope : Scope) (cenv : Env) (fp : List Addr) : Takes (X.blk s H scope cenv fp) W0 := fun u s' ⟨_, _, _, _, _, _, _, _, _, _, _, _, _, _, _, _, w⟩ => w.elim
end
end LW
set_option maxHeartbeats 200000
namespace LW
open PySem PySem.Spec PyProof.Rows L2

section
variable {K : PySem.W.Frag} {g g' : Gh} {H H' : Hp} {σ σ' : L2.St} {ρ ρ' : En} {i : Nat} {a : Addr} {o : HO} {s : SD}
/-- an owned object of a slot is written -/
theorem EnOk.put (h : EnOk K g H σ ρ) (hw : g.ow a = some (.sl i)) (hs : SlotOk K g (upd H a o) (.sl i) s (σ[i]?.join)) : EnOk K g (upd H a o) σ (ρ.set i s) := by
  have nF : ∀ b u, g.F b = some u → b ≠ a := fun b u q c => by have := h.fo _ _ q; rw [c, hw] at this; cases this
  have nB : ∀ b u, g.B b = some u → b ≠ a := fun b u q c => by have := h.bo _ _ q; rw [c, hw] at this; cases this
  have nO : ∀ b w, g.ow b = some w → w ≠ .sl i → b ≠ a := fun b w q ne c => by rw [c, hw] at q; cases q; exact ne rfl
  refine ⟨fun b u q => by rw [upd_ne (nF b u q)]; exact h.fs _ _ q, h.fo, fun b u q => by rw [upd_ne (nB b u q)]; exact h.bs _ _ q, h.bo, fun b w q => ?_, by simp [En.set, h.len], fun j s' e => ?_, h.all, fun n c fs e => ?_, h.fr⟩
  · by_cases c : b = a
    · exact ⟨o, by rw [c, upd_same]⟩
    · obtain ⟨u, e⟩ := h.oh _ _ q
      exact ⟨u, by rw [upd_ne c]; exact e⟩
  · have e' : (ρ.sl.set i s)[j]? = some s' := e
    rw [List.getElem?_set] at e'
    by_cases c : i = j
    · subst c
      by_cases hl : i < ρ.sl.length
      · rw [if_pos rfl, if_pos hl] at e'
        cases e'
        exact hs
      · rw [if_pos rfl, if_neg hl] at e'
        cases e'
    · rw [if_neg c] at e'
      exact (h.sl j s' e').mono (g := g) (g' := g) (fun _ _ z => z) (fun _ _ z => z) fun b u q z => ⟨q, by rw [upd_ne (nO b _ q (fun e => c (by cases e; rfl)))]; exact z⟩
  · obtain ⟨p, dx, fvs, e1, e2, e3, e4⟩ := h.ob n c fs e
    exact ⟨p, dx, fvs, e1, by rw [upd_ne (nO _ _ e3 (fun e => by cases e))]; exact e2, e3, FldsOk.mono (g := g) (g' := g) (H := H) (H' := upd H a o) (fun _ _ z => z) (fun _ _ z => z) (fun _ _ _ z => z) (fun f b u q z => ⟨q, by rw [upd_ne (nO b _ q (fun e => by cases e))]; exact z⟩) e4⟩
/-- a slot lets go of what it owns: it is nobody's -/
def Gh.drop (g : Gh) (a : Addr) : Gh := { g with ow := fun b => if b = a then none else g.ow b }
theorem Gh.drop_ext : Ext g (g.drop a) := ⟨fun _ _ z => z, fun _ _ z => .inl z, rfl, fun _ _ z => z, fun _ _ _ _ z => z⟩
theorem EnOk.drop (h : EnOk K g H σ ρ) (hw : g.ow a = some (.sl i)) : EnOk K (g.drop a) H σ (ρ.set i .un) ∧ Nob (g.drop a) a := by
  have nn : ∀ b, g.ow b = none → (if b = a then none else g.ow b) = none := fun b z => by
    by_cases c : b = a
    · rw [if_pos c]
    · rw [if_neg c]; exact z
  have kp : ∀ b w, g.ow b = some w → w ≠ .sl i → (if b = a then none else g.ow b) = some w := fun b w q ne => by
    have : b ≠ a := fun c => by rw [c, hw] at q; cases q; exact ne rfl
    rw [if_neg this]; exact q
  refine ⟨⟨h.fs, fun b u q => nn b (h.fo _ _ q), h.bs, fun b u q => nn b (h.bo _ _ q), fun b w q => ?_, by simp [En.set, h.len], fun j s' e => ?_, h.all, fun n c fs e => ?_, h.fr⟩, ?_, ?_, if_pos rfl⟩
  · have q' : (if b = a then none else g.ow b) = some w := q
    by_cases c : b = a
    · rw [if_pos c] at q'; cases q'
    · rw [if_neg c] at q'; exact h.oh _ _ q'
  · have e' : (ρ.sl.set i SD.un)[j]? = some s' := e
    rw [List.getElem?_set] at e'
    by_cases c : i = j
    · subst c
      by_cases hl : i < ρ.sl.length
      · rw [if_pos rfl, if_pos hl] at e'
        cases e'
        trivial
      · rw [if_pos rfl, if_neg hl] at e'
        cases e'
    · rw [if_neg c] at e'
      exact (h.sl j s' e').mono (g := g) (g' := g.drop a) (fun _ _ z => z) (fun _ _ z => z) fun b u q z => ⟨kp b _ q (fun e => c (by cases e; rfl)), z⟩
  · obtain ⟨p, dx, fvs, e1, e2, e3, e4⟩ := h.ob n c fs e
    exact ⟨p, dx, fvs, e1, e2, kp _ _ e3 (fun e => by cases e), FldsOk.mono (g := g) (g' := g.drop a) (H := H) (H' := H) (fun _ _ z => z) (fun _ _ z => z) (fun _ _ _ z => z) (fun f b u q z => ⟨kp b _ q (fun e => by cases e), z⟩) e4⟩
  · show g.F a = none
    cases q : g.F a with
    | none => rfl
    | some z => rw [h.fo _ _ q] at hw; cases hw
  · show g.B a = none
    cases q : g.B a with
    | none => rfl
    | some z => rw [h.bo _ _ q] at hw; cases hw
theorem EnOk.slot_at {d : SD} (ok : EnOk K g H σ ρ) (e : ρ.sl[i]? = some d) {x : V} (h : σ[i]?.join = some x) : σ[i]? = some (some x) := by
  cases q : σ[i]? with
  | none => rw [q] at h; cases h
  | some o => rw [q] at h; exact congrArg some h
theorem EnOk.ownd_at {ks : List (Key × D)} (ok : EnOk K g H σ ρ) (e : ρ.sl[i]? = some (.ownd ks)) : ∃ a kvs, σ[i]? = some (some (.ref a)) ∧ H a = some (.dK kvs) ∧ g.ow a = some (.sl i) ∧ kvs.map (·.1) = ks.map (·.1) ∧ Reps K g.F g.al (ks.map (·.2)) (kvs.map (·.2)) := by
  obtain ⟨a, kvs, e1, e2, e3, r⟩ := ok.sl i _ e
  exact ⟨a, kvs, ok.slot_at e e1, e2, e3, r⟩
end
/-- a name's thing is handed on -/
@[simp] def takeM (i : Nat) : M RV := fun ρ => match ρ.sl[i]? with
  | some (.own l) => .ok (.o l) (ρ.set i .un)
  | some (.ownd ks) => .ok (.od ks) (ρ.set i .un)
  | some (.val d) => .ok (.v d) ρ
  | _ => .bad
section
variable {X : Cx} {Wx : WX} {pos px apos cpos : Pos} {x : Str} {e : Expr} {me : M D}
theorem dr_take (i : Nat) (hN : X.N[i]? = some x) (hv : Vis X.env.scope x) (hd : (x == ("__debug__" : Str)) = false) (hcd : (x == ("__classdict__" : Str)) = false) : DR X Wx (takeM i) (.Name x pos) := pe_imp (pe_var hN hv hd hcd) (by
  rintro σ H Q ⟨g, ρ, ok, w⟩
  unfold takeM at w
  cases es : ρ.sl[i]? with
  | none => rw [es] at w; exact w.elim
  | some s =>
    rw [es] at w
    cases s with
    | un => exact w.elim
    | val d =>
      obtain ⟨v, ev, r⟩ := ok.sl i _ es
      exact ⟨v, ok.slot_at es ev, w g H v (Ext.refl g) ok r⟩
    | own l =>
      obtain ⟨a, xs, e1, e2, e3, r⟩ := ok.own_at es
      obtain ⟨k1, k2⟩ := ok.drop e3
      exact ⟨_, e1, w _ H _ Gh.drop_ext k1 ⟨a, xs, rfl, e2, k2.f, k2.b, k2.o, r⟩⟩
    | ownd l =>
      obtain ⟨a, xs, e1, e2, e3, z, r⟩ := ok.ownd_at es
      obtain ⟨k1, k2⟩ := ok.drop e3
      exact ⟨_, e1, w _ H _ Gh.drop_ext k1 ⟨a, xs, rfl, e2, k2.f, k2.b, k2.o, z, r⟩⟩)
/-- a method of the list in slot i, with arguments: f tells the answer and the new list -/
@[simp] def mtO (i : Nat) (f : List D → List D → Option (D × List D)) (m : M (List D)) : M D := fun ρ => match ρ.sl[i]? with
  | some (.own _) => (m ρ).bind fun ds ρ1 => (match ρ1.sl[i]? with
    | some (.own l) => (match f l ds with
      | some (d, l') => .ok d (ρ1.set i (.own l'))
      | none => .bad)
    | _ => .bad)
  | _ => .bad
/-- what such a method asks -/
def MtD (K : PySem.W.Frag) (r : V → List V → Hp → VK → Prop) (f : List D → List D → Option (D × List D)) : Prop := ∀ (g : Gh) (H : Hp) (a : Addr) (xs vs : List V) (l ds l' : List D) (d : D) (Q : VK), (∀ b o, g.F b = some o → H b = some o) → H a = some (.lst xs) → Reps K g.F g.al l xs → Reps K g.F g.al ds vs → f l ds = some (d, l') →
  (∀ ys v, Reps K g.F g.al l' ys → Rep K g.F g.al d v → Q v (upd H a (.lst ys))) → r (.ref a) vs H Q
theorem own_fin {K : PySem.W.Frag} {g : Gh} {H : Hp} {σ : L2.St} {ρ : En} {i : Nat} {a : Addr} {ys : List V} {l' : List D} (ok : EnOk K g H σ ρ) (e1 : σ[i]? = some (some (.ref a))) (e3 : g.ow a = some (.sl i)) (r : Reps K g.F g.al l' ys) : EnOk K g (upd H a (.lst ys)) σ (ρ.set i (.own l')) :=
  ok.put e3 ⟨a, ys, by rw [e1]; rfl, upd_same, e3, r⟩
theorem tMt_of {r : V → List V → Hp → VK → Prop} {f : List D → List D → Option (D × List D)} {i : Nat} {m : M (List D)} (hm : MtD X.K r f) : ∀ σ H Q, tD X.K Wx (mtO i f m) σ H Q → tBM X.K "list" r (tVar i) (tA X.K Wx m) σ H Q := by
  rintro σ H Q ⟨g, ρ, ok, w⟩
  unfold mtO at w
  cases es : ρ.sl[i]? with
  | none => rw [es] at w; exact w.elim
  | some s =>
    rw [es] at w
    cases s with
    | own l =>
      obtain ⟨a, xs, e1, e2, e3, rr⟩ := ok.own_at es
      refine ⟨.ref a, e1, .inl ⟨rfl, xs, SqL.of e2⟩, g, ρ, ok, Res.W_imp (Res.W_bind w) (fun ds ρ1 w1 => ?_) fun _ _ z => z⟩
      intro g1 H1 vs x1 ok1 rvs
      cases es1 : ρ1.sl[i]? with
      | none => rw [es1] at w1; exact w1.elim
      | some s1 =>
        rw [es1] at w1
        cases s1 with
        | own l1 =>
          obtain ⟨a', xs', f1, f2, f3, rr'⟩ := ok1.own_at es1
          rw [e1] at f1
          cases f1
          dsimp only at w1
          cases q : f l1 ds with
          | none => rw [q] at w1; exact w1.elim
          | some dl =>
            rw [q] at w1
            exact hm g1 H1 a xs' vs l1 ds dl.2 dl.1 Q ok1.fs f2 rr' rvs q fun ys v ry rv => w1 g1 _ v x1 (own_fin ok1 (by rw [e1]) f3 ry) rv
        | _ => exact w1.elim
    | _ => exact w.elim
theorem tMt0_of {r : V → List V → Hp → VK → Prop} {f : List D → List D → Option (D × List D)} {i : Nat} (hm : MtD X.K r f) : ∀ σ H Q, tD X.K Wx (mtO i f nilA) σ H Q → tBM0 X.K "list" r (tVar i) σ H Q := by
  rintro σ H Q ⟨g, ρ, ok, w⟩
  unfold mtO at w
  cases es : ρ.sl[i]? with
  | none => rw [es] at w; exact w.elim
  | some s =>
    rw [es] at w
    cases s with
    | own l =>
      obtain ⟨a, xs, e1, e2, e3, rr⟩ := ok.own_at es
      refine ⟨.ref a, e1, .inl ⟨rfl, xs, SqL.of e2⟩, ?_⟩
      unfold nilA at w
      rw [Res.bind_ok, es] at w
      dsimp only at w
      cases q : f l [] with
      | none => rw [q] at w; exact w.elim
      | some dl =>
        rw [q] at w
        exact hm g H a xs [] l [] dl.2 dl.1 Q ok.fs e2 rr Reps.nil q fun ys v ry rv => w g _ v (Ext.refl g) (own_fin ok e1 e3 ry) rv
    | _ => exact w.elim
@[simp] def appF (l ds : List D) : Option (D × List D) := match ds with
  | [d] => if l.length < sizeLine then some (.non, l ++ [d]) else none
  | _ => none
@[simp] def popF (l ds : List D) : Option (D × List D) := match ds with
  | [] => (l[l.length - 1]?).map fun d => (d, l.dropLast)
  | _ => none
@[simp] def popAtF (l ds : List D) : Option (D × List D) := match ds with
  | [.int k] => if k.natAbs ≤ 1000000000 then (match seqIndex? k l.length with
    | some j => (l[j]?).map fun d => (d, l.eraseIdx j)
    | none => none) else none
  | _ => none
@[simp] def extF (l ds : List D) : Option (D × List D) := match ds with
  | [.lst ys] => if l.length + ys.length ≤ sizeLine then some (.non, l ++ ys) else none
  | _ => none
theorem Reps.dropLast {K : PySem.W.Frag} {F : Hp} {al : List Addr} {ds : List D} {vs : List V} (r : Reps K F al ds vs) : Reps K F al ds.dropLast vs.dropLast := by
  rw [List.dropLast_eq_take, List.dropLast_eq_take, r.length]
  exact Reps.take _ r
theorem Reps.eraseIdx {K : PySem.W.Frag} {F : Hp} {al : List Addr} {ds : List D} {vs : List V} (r : Reps K F al ds vs) (j : Nat) : Reps K F al (ds.eraseIdx j) (vs.eraseIdx j) := by
  rw [List.eraseIdx_eq_take_drop_succ, List.eraseIdx_eq_take_drop_succ]
  exact Reps.append (Reps.take _ r) (Reps.drop _ r)
theorem md_append {K : PySem.W.Frag} : MtD K rAppend appF := by
  intro g H a xs vs l ds l' d Q hF hH r rs q w
  unfold appF at q
  split at q
  · split at q
    · cases q
      obtain ⟨v, rfl, rv⟩ := rs.sing
      exact ⟨a, xs, v, rfl, rfl, hH, by rw [r.length]; assumption, w _ _ (Reps.append r (Reps.one rv)) Rep.mkN⟩
    · cases q
  · cases q
theorem md_pop {K : PySem.W.Frag} : MtD K rPop popF := by
  intro g H a xs vs l ds l' d Q hF hH r rs q w
  unfold popF at q
  split at q
  · cases e : l[l.length - 1]? with
    | none => rw [e] at q; cases q
    | some z =>
      rw [e] at q
      cases q
      obtain ⟨v, ev, rv⟩ := r.get e
      simp only [Reps] at rs
      exact ⟨a, xs, v, rfl, rs, hH, by rw [r.length]; exact ev, w _ _ r.dropLast rv⟩
  · cases q
theorem md_popAt {K : PySem.W.Frag} : MtD K rPopAt popAtF := by
  intro g H a xs vs l ds l' d Q hF hH r rs q w
  unfold popAtF at q
  split at q
  · split at q
    · rename_i k hk
      split at q
      · rename_i j hj
        cases e : l[j]? with
        | none => rw [e] at q; cases q
        | some z =>
          rw [e] at q
          cases q
          obtain ⟨v, ev, rv⟩ := r.get e
          obtain ⟨u, rfl, ru⟩ := rs.sing
          exact ⟨a, xs, k, j, v, rfl, by rw [ru.int], hH, by rw [show (2 : Int) ^ 63 = 9223372036854775808 by simp]; omega, by rw [show (2 : Int) ^ 63 = 9223372036854775808 by simp]; omega, by rw [r.length]; exact hj, ev, w _ _ (r.eraseIdx j) rv⟩
      · cases q
    · cases q
  · cases q
theorem md_extend {K : PySem.W.Frag} : MtD K rExtend extF := by
  intro g H a xs vs l ds l' d Q hF hH r rs q w
  unfold extF at q
  split at q
  · split at q
    · cases q
      obtain ⟨v, rfl, rv⟩ := rs.sing
      obtain ⟨b, ys, rfl, s, r2⟩ := rv.lst
      exact ⟨a, b, xs, ys, rfl, rfl, hH, hF _ _ s, by rw [r.length, r2.length]; assumption, w _ _ (Reps.append r r2) Rep.mkN⟩
    · cases q
  · cases q
/-- x.m(e, ..) of one's own list in slot i -/
theorem de_mt (i : Nat) {es : List Expr} {name : Str} {id : String} {r : V → List V → Hp → VK → Prop} {f : List D → List D → Option (D × List D)} {m : M (List D)} (slot : Slot "list" name id) (hty : typeOf (.builtin id) = pure (.type "method_descriptor")) (hm : MtR X id r) (hd : MtD X.K r f)
    (hN : X.N[i]? = some x) (hv : Vis X.env.scope x) (hdb : (x == ("__debug__" : Str)) = false) (hcd : (x == ("__classdict__" : Str)) = false) (ha : DA X Wx m (e :: es)) (hbase : attributeBase (.Name x px) name X.env (eval (.Name x px) X.env) = eval (.Name x px) X.env)
    (hfew : ((backTo cpos (starEach (e :: es) X.env)).all (fun x => !x.1) && (backToKw cpos (keywordEach [] X.env)).all (fun x => x.1.isSome) && decide ((e :: es).length + ([] : List Keyword).length + (if ([] : List Keyword).isEmpty then 0 else 1) < 30)) = true)
    (hline : (apos.endLine == cpos.line) = true) (hs : starEach (e :: es) X.env = (false, eval e X.env) :: starEach es X.env) (hpl : (backTo cpos (starEach es X.env)).any (·.1) = false) : DE X Wx (mtO i f m) (.Call (.Attribute (.Name x px) name apos) (e :: es) [] cpos) :=
  pe_imp (pe_bm PySem.F.plainAttrs_list slot hty hm (pe_var hN hv hdb hcd) ha hbase hfew hline hs hpl) (tMt_of hd)
theorem de_mt0 (i : Nat) {name : Str} {id : String} {r : V → List V → Hp → VK → Prop} {f : List D → List D → Option (D × List D)} (slot : Slot "list" name id) (hty : typeOf (.builtin id) = pure (.type "method_descriptor")) (hm : MtR X id r) (hd : MtD X.K r f)
    (hN : X.N[i]? = some x) (hv : Vis X.env.scope x) (hdb : (x == ("__debug__" : Str)) = false) (hcd : (x == ("__classdict__" : Str)) = false) (hbase : attributeBase (.Name x px) name X.env (eval (.Name x px) X.env) = eval (.Name x px) X.env) (hline : (apos.endLine == cpos.line) = true) :
    DE X Wx (mtO i f nilA) (.Call (.Attribute (.Name x px) name apos) [] [] cpos) :=
  pe_imp (pe_bm0 PySem.F.plainAttrs_list slot hty hm (pe_var hN hv hdb hcd) hbase hline) (tMt0_of hd)
end
end LW
set_option maxHeartbeats 200000
namespace LW
open PySem PySem.Spec PyProof.Rows L2

section
variable {X : Cx} {Wx : WX} {pos px spos : Pos} {x : Str} {e ie o : Expr} {es : List Expr} {me mi : M D}
/-- x[i] = .., x one's own list in slot i -/
@[simp] def setIx (i : Nat) (mi : M D) : D → M Unit := fun d ρ => match ρ.sl[i]? with
  | some (.own _) => (nox (mi ρ)).bind fun y ρ1 => (match ρ1.sl[i]?, y with
    | some (.own l), .int k => (match ixN l.length k with
      | some j => .ok () (ρ1.set i (.own (l.set j d)))
      | none => .bad)
    | _, _ => .bad)
  | _ => .bad
theorem dg_setIx (i : Nat) (hN : X.N[i]? = some x) (hv : Vis X.env.scope x) (hd : (x == ("__debug__" : Str)) = false) (hcd : (x == ("__classdict__" : Str)) = false) (hi : DE X W0 mi ie)
    (ha : ∀ v, assign (.Subscript (.Name x px) ie pos) X.env v = (do
      let ov ← holding [v] (eval (.Name x px) X.env)
      let iv ← holding [v, ov] (eval ie X.env)
      standAt pos
      holding [v, ov, iv] (setItem ov iv v)
      release [v, ov, iv] [])) : DG X (setIx i mi) [] (.Subscript (.Name x px) ie pos) := pg_imp (pg_sub (pe_var hN hv hd hcd) hi set_list ha) (by
  rintro v σ H Q ⟨g, ρ, d, ok, r, w⟩
  unfold setIx at w
  cases es : ρ.sl[i]? with
  | none => rw [es] at w; exact w.elim
  | some s =>
    rw [es] at w
    cases s with
    | own l =>
      obtain ⟨a, xs, e1, e2, e3, rr⟩ := ok.own_at es
      refine ⟨.ref a, e1, g, ρ, ok, Res.W_imp (nox_W (Res.W_bind w)) (fun y ρ1 w1 => ?_) fun _ _ z => z.elim⟩
      intro g1 H1 y' x1 ok1 ry
      cases es1 : ρ1.sl[i]? with
      | none => rw [es1] at w1; exact w1.elim
      | some s1 =>
        rw [es1] at w1
        cases s1 with
        | own l1 =>
          cases y with
          | int k =>
            obtain ⟨a', xs', f1, f2, f3, rr'⟩ := ok1.own_at es1
            rw [e1] at f1
            cases f1
            dsimp only at w1
            cases q : ixN l1.length k with
            | none => rw [q] at w1; exact w1.elim
            | some j =>
              rw [q] at w1
              refine ⟨a, xs', k, j, rfl, ry.int, f2, by rw [rr'.length]; exact q, ?_⟩
              exact w1 g1 _ σ x1 (own_fin ok1 e1 f3 (Reps.set j rr' (Rep.mono x1.f x1.al _ _ r))) ⟨rfl, fun _ _ => rfl⟩
          | _ => exact w1.elim
        | _ => exact w1.elim
    | _ => exact w.elim)

@[simp] def D.key : D → Option Key
  | .int i => some (.inl i)
  | .str z => some (.inr z)
  | _ => none
theorem Rep.key {K : PySem.W.Frag} {F : Hp} {al : List Addr} {d : D} {v : V} {k : Key} (h : Rep K F al d v) (e : d.key = some k) : v = kV k := by
  cases d with
  | int i => cases e; exact h.int
  | str i => cases e; exact h.str
  | _ => cases e
def valD (kvs : List (Key × D)) (k : Key) : Option D := (kvs.find? fun kv => decide (kv.1 = k)).map (·.2)
def putD (kvs : List (Key × D)) (k : Key) (v : D) : List (Key × D) :=
  if (kvs.any fun kv => decide (kv.1 = k)) = true then kvs.map (fun kv => if kv.1 = k then (kv.1, v) else kv) else kvs ++ [(k, v)]
section
variable {K : PySem.W.Frag} {F : Hp} {al : List Addr}
/-- pairs that go together -/
theorem prs_cons {ks : List (Key × D)} {k : Key} {d : D} {kvs : List (Key × V)} (h1 : kvs.map (·.1) = ((k, d) :: ks).map (·.1)) (h2 : Reps K F al (((k, d) :: ks).map (·.2)) (kvs.map (·.2))) : ∃ v r, kvs = (k, v) :: r ∧ Rep K F al d v ∧ r.map (·.1) = ks.map (·.1) ∧ Reps K F al (ks.map (·.2)) (r.map (·.2)) := by
  cases kvs with
  | nil => simp at h1
  | cons p r =>
    obtain ⟨k', v⟩ := p
    simp only [List.map_cons, List.cons.injEq] at h1
    simp only [List.map_cons, Reps] at h2
    obtain ⟨v', r', e, h3, h4⟩ := h2
    cases e
    exact ⟨v, r, by rw [h1.1], h3, h1.2, h4⟩
theorem prs_val : ∀ {ks : List (Key × D)} {kvs : List (Key × V)} {k : Key} {d : D}, kvs.map (·.1) = ks.map (·.1) → Reps K F al (ks.map (·.2)) (kvs.map (·.2)) → valD ks k = some d → ∃ v, valV kvs k = some v ∧ Rep K F al d v
  | [], kvs, k, d, h1, h2, e => by simp [valD] at e
  | (k', d') :: ks, kvs, k, d, h1, h2, e => by
    obtain ⟨v, r, rfl, h3, h4, h5⟩ := prs_cons h1 h2
    unfold valD at e
    unfold valV
    rw [List.find?_cons] at e ⊢
    by_cases c : k' = k
    · simp only [c, decide_true] at e ⊢
      cases e
      exact ⟨v, rfl, h3⟩
    · simp only [c, decide_false] at e ⊢
      exact prs_val h4 h5 e
theorem prs_none : ∀ {ks : List (Key × D)} {kvs : List (Key × V)} {k : Key}, kvs.map (·.1) = ks.map (·.1) → valD ks k = none → valV kvs k = none
  | [], kvs, k, h1, e => by
    cases kvs with
    | nil => rfl
    | cons p r => simp at h1
  | (k', d') :: ks, kvs, k, h1, e => by
    cases kvs with
    | nil => simp at h1
    | cons p r =>
      obtain ⟨k2, v⟩ := p
      simp only [List.map_cons, List.cons.injEq] at h1
      obtain ⟨h1, h2⟩ := h1
      subst h1
      unfold valD at e
      unfold valV
      rw [List.find?_cons] at e ⊢
      by_cases c : k2 = k
      · simp only [c, decide_true] at e; cases e
      · simp only [c, decide_false] at e ⊢
        exact prs_none h2 e
theorem prs_any : ∀ {ks : List (Key × D)} {kvs : List (Key × V)} {k : Key}, kvs.map (·.1) = ks.map (·.1) → (kvs.any fun kv => decide (kv.1 = k)) = ks.any fun kv => decide (kv.1 = k)
  | [], kvs, k, h => by
    cases kvs with
    | nil => rfl
    | cons p r => simp at h
  | p' :: ks, kvs, k, h => by
    cases kvs with
    | nil => simp at h
    | cons p r =>
      simp only [List.map_cons, List.cons.injEq] at h
      rw [List.any_cons, List.any_cons, h.1, prs_any h.2]
theorem prs_map : ∀ {ks : List (Key × D)} {kvs : List (Key × V)} {k : Key} {d : D} {v : V}, kvs.map (·.1) = ks.map (·.1) → Reps K F al (ks.map (·.2)) (kvs.map (·.2)) → Rep K F al d v →
    (kvs.map (fun kv => if kv.1 = k then (kv.1, v) else kv)).map (·.1) = (ks.map (fun kv => if kv.1 = k then (kv.1, d) else kv)).map (·.1) ∧ Reps K F al ((ks.map (fun kv => if kv.1 = k then (kv.1, d) else kv)).map (·.2)) ((kvs.map (fun kv => if kv.1 = k then (kv.1, v) else kv)).map (·.2))
  | [], kvs, k, d, v, h1, h2, h3 => by
    cases kvs with
    | nil => exact ⟨rfl, Reps.nil⟩
    | cons p r => simp at h1
  | (k', d') :: ks, kvs, k, d, v, h1, h2, h3 => by
    obtain ⟨v', r, rfl, h4, h5, h6⟩ := prs_cons h1 h2
    obtain ⟨i1, i2⟩ := prs_map (k := k) h5 h6 h3
    by_cases c : k' = k
    · simp only [List.map_cons, c, if_true]
      exact ⟨by rw [i1], Reps.cons h3 i2⟩
    · simp only [List.map_cons, c, if_false]
      exact ⟨by rw [i1], Reps.cons h4 i2⟩
theorem prs_put {ks : List (Key × D)} {kvs : List (Key × V)} {k : Key} {d : D} {v : V} (h1 : kvs.map (·.1) = ks.map (·.1)) (h2 : Reps K F al (ks.map (·.2)) (kvs.map (·.2))) (h3 : Rep K F al d v) : (putK kvs k v).map (·.1) = (putD ks k d).map (·.1) ∧ Reps K F al ((putD ks k d).map (·.2)) ((putK kvs k v).map (·.2)) := by
  unfold putK putD
  rw [prs_any h1]
  by_cases c : (ks.any fun kv => decide (kv.1 = k)) = true
  · rw [if_pos c, if_pos c]
    exact prs_map h1 h2 h3
  · rw [if_neg c, if_neg c, List.map_append, List.map_append, List.map_append, List.map_append, h1]
    exact ⟨rfl, Reps.append h2 (Reps.one h3)⟩
end
@[simp] def dctR : M RV := fun ρ => .ok (.od []) ρ
theorem dr_dct : DR X Wx dctR (.Dict [] [] pos) := pe_imp pe_dnewK (by
  rintro σ H Q ⟨g, ρ, ok, w⟩ p n
  exact w g _ _ (Ext.refl g) (ok.laid n) ⟨p, [], rfl, upd_same, ok.Fn n, ok.Bn n, ok.On n, rfl, Reps.nil⟩)
/-- x[k], x one's own dict in slot i -/
@[simp] def dgetO (i : Nat) (mi : M D) : M D := fun ρ => match ρ.sl[i]? with
  | some (.ownd _) => (mi ρ).bind fun y ρ1 => (match ρ1.sl[i]?, y.key with
    | some (.ownd ks), some k => (match valD ks k with
      | some d => .ok d ρ1
      | none => .bad)
    | _, _ => .bad)
  | _ => .bad
theorem de_dgetO (i : Nat) (hu : X.A.units + 1 < cLine) (hN : X.N[i]? = some x) (hv : Vis X.env.scope x) (hd : (x == ("__debug__" : Str)) = false) (hcd : (x == ("__classdict__" : Str)) = false) (hi : DE X Wx mi ie) (hs : NoSl ie) : DE X Wx (dgetO i mi) (.Subscript (.Name x px) ie pos) := pe_imp (pe_dget hu (pe_var hN hv hd hcd) hi hs) (by
  rintro σ H Q ⟨g, ρ, ok, w⟩
  unfold dgetO at w
  cases es : ρ.sl[i]? with
  | none => rw [es] at w; exact w.elim
  | some s =>
    rw [es] at w
    cases s with
    | ownd l =>
      obtain ⟨a, xs, e1, _⟩ := ok.ownd_at es
      refine ⟨.ref a, e1, g, ρ, ok, Res.W_imp (Res.W_bind w) (fun y ρ1 w1 => ?_) fun _ _ z => z⟩
      intro g1 H1 y' x1 ok1 ry
      cases es1 : ρ1.sl[i]? with
      | none => rw [es1] at w1; exact w1.elim
      | some s1 =>
        rw [es1] at w1
        cases s1 with
        | ownd ks =>
          cases ek : y.key with
          | none => rw [ek] at w1; exact w1.elim
          | some k =>
            rw [ek] at w1
            obtain ⟨a', kvs, f1, f2, f3, f4, f5⟩ := ok1.ownd_at es1
            rw [e1] at f1
            cases f1
            dsimp only at w1
            cases q : valD ks k with
            | none => rw [q] at w1; exact w1.elim
            | some d =>
              rw [q] at w1
              obtain ⟨v, ev, rv⟩ := prs_val f4 f5 q
              refine ⟨a, v, rfl, ?_, w1 g1 H1 v x1 ok1 rv⟩
              rw [ry.key ek, ← ev]
              exact DGet.k f2
        | _ => exact w1.elim
    | _ => exact w.elim)
/-- x[k] = v, x one's own dict in slot i -/
@[simp] def dputM (i : Nat) (mi mv : M D) : M Fl := fun ρ => (mv ρ).bind fun d ρ0 => match ρ0.sl[i]? with
  | some (.ownd _) => (mi ρ0).bind fun y ρ1 => (match ρ1.sl[i]?, y.key with
    | some (.ownd ks), some k => if ks.length < sizeLine then .ok .nx (ρ1.set i (.ownd (putD ks k d))) else .bad
    | _, _ => .bad)
  | _ => .bad
theorem ds_dput (i : Nat) {ve : Expr} {mv : M D} (hu : X.A.units + 1 < cLine) (hN : X.N[i]? = some x) (hv : Vis X.env.scope x) (hd : (x == ("__debug__" : Str)) = false) (hcd : (x == ("__classdict__" : Str)) = false) (hi : DE X Wx mi ie) (hve : DE X Wx mv ve) (hs : swapsWith ve (some (.Subscript (.Name x px) ie pos)) spos.line X.env = pure false) :
    DS X Wx (dputM i mi mv) (.Assign [.Subscript (.Name x px) ie pos] ve spos) := ps_imp (ps_dput hu (pe_var hN hv hd hcd) hi hve hs) (by
  rintro E σ H ⟨g, ρ, ok, w⟩
  refine ⟨g, ρ, ok, Res.W_imp (Res.W_bind w) (fun d ρ0 w0 => ?_) fun _ _ z => z.toW⟩
  intro g0 H0 v x0 ok0 rv
  cases es : ρ0.sl[i]? with
  | none => rw [es] at w0; exact w0.elim
  | some s =>
    rw [es] at w0
    cases s with
    | ownd l =>
      obtain ⟨a, xs, e1, _⟩ := ok0.ownd_at es
      refine ⟨.ref a, e1, g0, ρ0, ok0, Res.W_imp (Res.W_bind w0) (fun y ρ1 w1 => ?_) fun _ _ z => (z.mono x0).toW⟩
      intro g1 H1 y' x1 ok1 ry
      cases es1 : ρ1.sl[i]? with
      | none => rw [es1] at w1; exact w1.elim
      | some s1 =>
        rw [es1] at w1
        cases s1 with
        | ownd ks =>
          cases ek : y.key with
          | none => rw [ek] at w1; exact w1.elim
          | some k =>
            rw [ek] at w1
            obtain ⟨a', kvs, f1, f2, f3, f4, f5⟩ := ok1.ownd_at es1
            rw [e1] at f1
            cases f1
            dsimp only at w1
            by_cases hl : ks.length < sizeLine
            · rw [if_pos hl] at w1
              obtain ⟨p1, p2⟩ := prs_put (k := k) f4 f5 (Rep.mono x1.f x1.al _ _ rv)
              have hl' : kvs.length < sizeLine := by
                have h1 := congrArg List.length f4
                simp only [List.length_map] at h1
                rw [h1]
                exact hl
              refine ⟨a, _, rfl, ?_, w1 g1 _ σ (x0.trans x1) (ok1.put (o := .dK (putK kvs k v)) f3 ⟨a, _, by rw [e1]; rfl, upd_same, f3, p1, p2⟩)⟩
              rw [ry.key ek]
              exact DPut.k f2 hl'
            · rw [if_neg hl] at w1
              exact w1.elim
        | _ => exact w1.elim
    | _ => exact w0.elim)
end

/-- what a call of a built-in asks -/
def CbD (K : PySem.W.Frag) (r : List V → Hp → VK → Prop) (f : List D → Option RV) : Prop := ∀ (g : Gh) (H : Hp) (σ : L2.St) (ρ : En) (ds : List D) (vs : List V) (rv : RV) (Q : VK), EnOk K g H σ ρ → Reps K g.F g.al ds vs → f ds = some rv →
  (∀ g' H' v, Ext g g' → EnOk K g' H' σ ρ → RVOk K g' H' rv v → Q v H') → r vs H Q
@[simp] def cbM (f : List D → Option RV) (m : M (List D)) : M RV := fun ρ => (m ρ).bind fun ds ρ1 => match f ds with
  | some r => .ok r ρ1
  | none => .bad
section
variable {X : Cx} {Wx : WX} {pos p : Pos} {x : Str} {e : Expr} {es : List Expr} {m : M (List D)}
theorem tCB_of {r : List V → Hp → VK → Prop} {f : List D → Option RV} (h : CbD X.K r f) : ∀ σ H Q, tR X.K Wx (cbM f m) σ H Q → tCB r (tA X.K Wx m) σ H Q := by
  rintro σ H Q ⟨g, ρ, ok, w⟩
  refine ⟨g, ρ, ok, Res.W_imp (Res.W_bind w) (fun ds ρ1 w1 => ?_) fun _ _ z => z⟩
  intro g1 H1 vs e1 ok1 rv
  cases q : f ds with
  | none => rw [q] at w1; exact w1.elim
  | some rr =>
    rw [q] at w1
    exact h g1 H1 σ ρ1 ds vs rr Q ok1 rv q fun g' H' v x' ok' r' => w1 g' H' v (e1.trans x') ok' r'
theorem dr_callB {id : String} {r : List V → Hp → VK → Prop} {f : List D → Option RV} (hc : CallR X (.builtin id) r) (h : CbD X.K r f) (hg : Gl X x) (hm : X.mg x = none) (hv : bootBuiltins x = some (.builtin id)) (ha : DA X Wx m (e :: es)) (hn : x ≠ "__name__") (hdb : (x == ("__debug__" : Str)) = false)
    (he : starEach (e :: es) X.env = (false, eval e X.env) :: starEach es X.env) (hpl : (backTo pos (starEach es X.env)).any (·.1) = false) : DR X Wx (cbM f m) (.Call (.Name x p) (e :: es) [] pos) := pe_imp (pe_callB hc hg hm hv ha hn hdb he hpl) (tCB_of h)
theorem dr_callTy {T : String} {r : List V → Hp → VK → Prop} {f : List D → Option RV} (hc : CallR X (.type T) r) (h : CbD X.K r f) (hg : Gl X x) (hm : X.mg x = none) (hv : bootBuiltins x = some (.type T)) (ha : DA X Wx m (e :: es)) (hn : x ≠ "__name__") (hdb : (x == ("__debug__" : Str)) = false)
    (he : starEach (e :: es) X.env = (false, eval e X.env) :: starEach es X.env) (hpl : (backTo pos (starEach es X.env)).any (·.1) = false) : DR X Wx (cbM f m) (.Call (.Name x p) (e :: es) [] pos) := pe_imp (pe_callTy hc hg hm hv ha hn hdb he hpl) (tCB_of h)
theorem rvI {K : PySem.W.Frag} {g : Gh} {H : Hp} {i : Int} : RVOk K g H (.v (.int i)) (.int i) := show Rep K g.F g.al (.int i) (.int i) from Rep.mkI
theorem rvB {K : PySem.W.Frag} {g : Gh} {H : Hp} {i : Bool} : RVOk K g H (.v (.bl i)) (.bl i) := show Rep K g.F g.al (.bl i) (.bl i) from Rep.mkB
theorem rvS {K : PySem.W.Frag} {g : Gh} {H : Hp} {i : Str} : RVOk K g H (.v (.str i)) (.str i) := show Rep K g.F g.al (.str i) (.str i) from Rep.mkS
@[simp] def absF : List D → Option RV
  | [.int i] => some (.v (.int (if i < 0 then -i else i)))
  | _ => none
@[simp] def intF : List D → Option RV
  | [.int i] => some (.v (.int i))
  | [.bl b] => some (.v (.int (if b then 1 else 0)))
  | _ => none
@[simp] def lenF : List D → Option RV
  | [.str z] => if z.length ≤ sizeLine then some (.v (.int z.length)) else none
  | [x] => match x.items with
    | some l => some (.v (.int l.length))
    | none => none
  | _ => none
@[simp] def listF : List D → Option RV
  | [x] => match x.items with
    | some l => some (.o l)
    | none => none
  | _ => none
@[simp] def tupleF : List D → Option RV
  | [x] => match x.items with
    | some l => some (.v (.tup l))
    | none => none
  | _ => none
def D.bool? : D → Option Bool
  | .bl b => some b
  | _ => none
def blsD : List D → Option (List Bool)
  | [] => some []
  | .bl b :: r => (blsD r).map (b :: ·)
  | _ => none
@[simp] def anyF : List D → Option RV
  | [.lst l] => (blsD l).map fun bs => .v (.bl (bs.any id))
  | _ => none
@[simp] def allF : List D → Option RV
  | [.lst l] => (blsD l).map fun bs => .v (.bl (bs.all id))
  | _ => none
theorem cb_abs {K : PySem.W.Frag} : CbD K (fun xs H Q => ∃ i, xs = [.int i] ∧ Q (.int (if i < 0 then -i else i)) H) absF := by
  intro g H σ ρ ds vs rv Q ok r q w
  unfold absF at q
  split at q
  · cases q
    obtain ⟨u, rfl, ru⟩ := r.sing
    exact ⟨_, by rw [ru.int], w g H _ (Ext.refl g) ok rvI⟩
  · cases q
theorem cb_int {K : PySem.W.Frag} : CbD K (fun xs H Q => (∃ i, xs = [.int i] ∧ Q (.int i) H) ∨ ∃ k, xs = [.bl k] ∧ Q (.int (if k then 1 else 0)) H) intF := by
  intro g H σ ρ ds vs rv Q ok r q w
  unfold intF at q
  split at q
  · cases q
    obtain ⟨u, rfl, ru⟩ := r.sing
    exact .inl ⟨_, by rw [ru.int], w g H _ (Ext.refl g) ok rvI⟩
  · cases q
    obtain ⟨u, rfl, ru⟩ := r.sing
    exact .inr ⟨_, by rw [ru.bl], w g H _ (Ext.refl g) ok rvI⟩
  · cases q
theorem cb_len {K : PySem.W.Frag} : CbD K (fun xs H Q => ∃ x n, xs = [x] ∧ LenV K x H n ∧ Q (.int n) H) lenF := by
  intro g H σ ρ ds vs rv Q ok r q w
  unfold lenF at q
  split at q
  · split at q
    · cases q
      obtain ⟨u, rfl, ru⟩ := r.sing
      refine ⟨_, _, rfl, ?_, w g H _ (Ext.refl g) ok rvI⟩
      rw [ru.str]
      exact ⟨by assumption, rfl⟩
    · cases q
  · split at q
    · rename_i l e
      cases q
      obtain ⟨u, rfl, ru⟩ := r.sing
      obtain ⟨p, xs, rfl, s, r'⟩ := ru.items ok.fs e
      refine ⟨_, l.length, rfl, ?_, w g H _ (Ext.refl g) ok rvI⟩
      rcases s with s | s
      · exact .inl ⟨xs, s, r'.length.symm⟩
      · exact .inr ⟨xs, s, r'.length.symm⟩
    · cases q
  · cases q
theorem cb_list {K : PySem.W.Frag} : CbD K (fun xs H Q => ∃ p ys, xs = [.ref p] ∧ (SqL K H p ys ∨ SqT K H p ys) ∧ ∀ l, H l = none → Q (.ref l) (upd H l (.lst ys))) listF := by
  intro g H σ ρ ds vs rv Q ok r q w
  unfold listF at q
  split at q
  · split at q
    · rename_i l e
      cases q
      obtain ⟨u, rfl, ru⟩ := r.sing
      obtain ⟨p, xs, rfl, s, r'⟩ := ru.items ok.fs e
      refine ⟨p, xs, rfl, s, fun l' n => ?_⟩
      obtain ⟨k1, k2⟩ := new_own ok r' n
      exact w g _ _ (Ext.refl g) k1 k2
    · cases q
  · cases q
theorem cb_tuple {K : PySem.W.Frag} : CbD K (fun xs H Q => ∃ p ys, xs = [.ref p] ∧ ((SqL K H p ys ∧ ∀ l, H l = none → Q (.ref l) (upd H l (.tup ys))) ∨ (SqT K H p ys ∧ Q (.ref p) H))) tupleF := by
  intro g H σ ρ ds vs rv Q ok r q w
  unfold tupleF at q
  split at q
  · rename_i d
    obtain ⟨u, rfl, ru⟩ := r.sing
    have key : ∀ (p : Addr) (xs : List V) (l : List D), rv = .v (.tup l) → SqL K H p xs → Reps K g.F g.al l xs → ∀ l', H l' = none → Q (.ref l') (upd H l' (.tup xs)) := fun p xs l e s r' l' n => by
      subst e
      obtain ⟨g', x', k, rr⟩ := new_tup ok r' n
      exact w g' _ _ x' k rr
    cases d with
    | tup l =>
      cases q
      obtain ⟨p, xs, rfl, s, r'⟩ := ru.tup
      exact ⟨p, xs, rfl, .inr ⟨Same.seqT ok.fs s, w g H _ (Ext.refl g) ok ru⟩⟩
    | lst l =>
      cases q
      obtain ⟨p, xs, rfl, s, r'⟩ := ru.lst
      exact ⟨p, xs, rfl, .inl ⟨SqL.of (ok.fs _ _ s), key p xs l rfl (SqL.of (ok.fs _ _ s)) r'⟩⟩
    | frz l =>
      cases q
      obtain ⟨p, xs, rfl, s, r'⟩ := ru.frz
      exact ⟨p, xs, rfl, .inl ⟨Same.seq ok.fs s, key p xs l rfl (Same.seq ok.fs s) r'⟩⟩
    | _ => cases q
  · cases q
theorem blsD_reps {K : PySem.W.Frag} {F : Hp} {al : List Addr} : ∀ {l : List D} {bs : List Bool} {xs : List V}, blsD l = some bs → Reps K F al l xs → xs = bs.map V.bl
  | [], bs, xs, e, r => by cases e; simp only [Reps] at r; rw [r]; rfl
  | d :: ds, bs, xs, e, r => by
    simp only [Reps] at r
    obtain ⟨v, r', rfl, r1, r2⟩ := r
    cases d with
    | bl b =>
      simp only [blsD] at e
      cases q : blsD ds with
      | none => rw [q] at e; cases e
      | some cs =>
        rw [q] at e
        cases e
        rw [blsD_reps q r2, r1.bl]
        rfl
    | _ => cases e
theorem cb_any {K : PySem.W.Frag} : CbD K (rAny K) anyF := by
  intro g H σ ρ ds vs rv Q ok r q w
  unfold anyF at q
  split at q
  · rename_i l
    obtain ⟨u, rfl, ru⟩ := r.sing
    obtain ⟨p, xs, rfl, s, r'⟩ := ru.lst
    cases e : blsD l with
    | none => rw [e] at q; cases q
    | some bs =>
      rw [e] at q
      cases q
      have := blsD_reps e r'
      subst this
      exact ⟨p, bs, rfl, SqL.of (ok.fs _ _ s), w g H _ (Ext.refl g) ok rvB⟩
  · cases q
theorem cb_all {K : PySem.W.Frag} : CbD K (rAll K) allF := by
  intro g H σ ρ ds vs rv Q ok r q w
  unfold allF at q
  split at q
  · rename_i l
    obtain ⟨u, rfl, ru⟩ := r.sing
    obtain ⟨p, xs, rfl, s, r'⟩ := ru.lst
    cases e : blsD l with
    | none => rw [e] at q; cases q
    | some bs =>
      rw [e] at q
      cases q
      have := blsD_reps e r'
      subst this
      exact ⟨p, bs, rfl, SqL.of (ok.fs _ _ s), w g H _ (Ext.refl g) ok rvB⟩
  · cases q
end
end LW
set_option maxHeartbeats 200000
namespace LW
open PySem PySem.Spec PyProof.Rows L2

theorem tuple_mul1 (l : Addr) (items : Array Value) (n : Nat) (dd : Option Addr) (sl : Array (Option Value)) (u : Tok) :
    Meets (Builtin.«tuple.__mul__» ⟨[.ref l, .int 1 u], []⟩) (fun _ R s => s.heap.get? l = some { cls := .type "tuple", dict := dd, data := .seq items n, slots := sl } ∧ R (.ok (.ret (Value.ref l))) s) :=
  .of_wp fun prog w A R s h => by
    obtain ⟨hp, g, d, tk, os⟩ := s
    obtain ⟨hl, h⟩ := h
    have f1 := AutoSeq1.idx_int
    wp_walk using wpAny_loadPart' hl
    exact ⟨_, rfl, h⟩
theorem tuple_mul0 (l : Addr) (items : Array Value) (n : Nat) (dd : Option Addr) (sl : Array (Option Value)) (u : Tok) (c1 : (items.isEmpty || (0 : Int) == 1) = false) :
    Meets (Builtin.«tuple.__mul__» ⟨[.ref l, .int 0 u], []⟩) (fun _ R s => s.heap.get? l = some { cls := .type "tuple", dict := dd, data := .seq items n, slots := sl } ∧ R (.ok (.ret (Value.ref s.heap.objs.size))) { s with heap := s.heap.push { cls := Value.type "tuple", data := Data.seq #[] } }) :=
  .of_wp fun prog w A R s h => by
    obtain ⟨hp, g, d, tk, os⟩ := s
    obtain ⟨hl, h⟩ := h
    have f1 := AutoSeq1.idx_int
    wp_walk using wpAny_loadPart' hl
    repeat (first
      | (refine wpAny_ite_false (decide_eq_false (by rw [c1]; exact Bool.false_ne_true)) ?_; wp_walk using wpAny_loadPart' hl))
    exact ⟨_, rfl, h⟩
def rRep1 (K : PySem.W.Frag) : R2 := fun x y H Q => ∃ l xs, x = .ref l ∧ y = .int 1 ∧ SqT K H l xs ∧ Q (.ref l) H
def rRep0 (K : PySem.W.Frag) : R2 := fun x y H Q => ∃ l xs, x = .ref l ∧ y = .int 0 ∧ SqT K H l xs ∧ xs ≠ [] ∧ ∀ p, H p = none → Q (.ref p) (upd H p (.tup []))
section
variable {X : Cx}
theorem op_rep1 : OpR X (binaryOp .Mult) (rRep1 X.K) := by
  intro pins s σ H x y v u Q I rx ry h
  obtain ⟨l, xs, rfl, rfl, hT, q⟩ := h
  cases rx
  obtain ⟨t, rfl⟩ := ry
  obtain ⟨its, r, ⟨⟨cls, dd, data, sl⟩, ho, hc, n, hd⟩, hs⟩ := I.tuple hT
  simp only at hc hd
  subst hc hd
  exact wpAny_binaryOp_repeat_ref (T := "tuple") (U := "int") (by decide) ⟨_, ho, rfl⟩ (fun s' => typeIs_int s' 1 t) noFill_tuple_mul F.fills_int_mul F.slot_int_rmul repeat_tuple F.slot_int_index.lookup
    (call_meets F.slot_int_rmul (typeIs_int s 1 t) F.entry_int_rmul (F.args_int_rmul_2 _ _) (int_rmul_tuple 1 t l its.toArray n dd sl)
      ⟨ho, rfl, ⟨_, ho, rfl⟩, call_meets F.slot_tuple_mul ⟨_, ho, rfl⟩ F.entry_tuple_mul (F.args_tuple_mul_2 _ _) (tuple_mul1 l its.toArray n dd sl t) ⟨ho, ⟨.ref l, H, I, rfl, q⟩⟩⟩)
theorem op_rep0 : OpR X (binaryOp .Mult) (rRep0 X.K) := by
  intro pins s σ H x y v u Q I rx ry h
  obtain ⟨l, xs, rfl, rfl, hT, hne, q⟩ := h
  cases rx
  obtain ⟨t, rfl⟩ := ry
  obtain ⟨its, r, ⟨⟨cls, dd, data, sl⟩, ho, hc, n, hd⟩, hs⟩ := I.tuple hT
  simp only at hc hd
  subst hc hd
  have hle : its.length = xs.length := r.length.symm
  have c1 : (its.toArray.isEmpty || (0 : Int) == 1) = false := by
    cases its with
    | nil => exact (hne (List.eq_nil_of_length_eq_zero hle.symm)).elim
    | cons a b => rfl
  refine wpAny_binaryOp_repeat_ref (T := "tuple") (U := "int") (by decide) ⟨_, ho, rfl⟩ (fun s' => typeIs_int s' 0 t) noFill_tuple_mul F.fills_int_mul F.slot_int_rmul repeat_tuple F.slot_int_index.lookup
    (call_meets F.slot_int_rmul (typeIs_int s 0 t) F.entry_int_rmul (F.args_int_rmul_2 _ _) (int_rmul_tuple 0 t l its.toArray n dd sl)
      ⟨ho, rfl, ⟨_, ho, rfl⟩, call_meets F.slot_tuple_mul ⟨_, ho, rfl⟩ F.entry_tuple_mul (F.args_tuple_mul_2 _ _) (tuple_mul0 l its.toArray n dd sl t c1) ⟨ho, ?_⟩⟩)
  refine ⟨.ref s.heap.objs.size, _, I.laid (t' := s.toks) (o := .tup []) (fun b ob q => Heap.get?_push_of_some _ q) (Nat.le_refl _) ?_, rfl, q _ (I.hok.fresh (Nat.le_refl _))⟩
  exact ⟨Nat.zero_le _, [], .nil, IsTup.new _ _⟩
def rRepA (K : PySem.W.Frag) : R2 := fun x y H Q => rRep0 K x y H Q ∨ rRep1 K x y H Q ∨ rRepT K x y H Q
theorem op_repA : OpR X (binaryOp .Mult) (rRepA X.K) := op_rep0.or (op_rep1.or op_repT)
end
def mulT : D → D → Option D
  | .tup a, .int k => if a ≠ [] ∧ 0 ≤ k ∧ k.natAbs ≤ 1000 ∧ a.length ≤ 1000 then some (.tup (List.replicate k.toNat a).flatten) else none
  | _, _ => none
instance {a : List D} : Decidable (a ≠ []) := match a with
  | [] => .isFalse fun h => h rfl
  | _ :: _ => .isTrue fun h => by cases h
theorem od_mulT {K : PySem.W.Frag} : OpD K (rRepA K) (purO mulT) := by
  intro g H σ ρ x y dx dy Q Wx ok rx ry w
  unfold purO mulT at w
  cases dx with
  | tup a =>
    cases dy with
    | int k =>
      dsimp only at w
      split at w
      case h_2 => exact w.elim
      rename_i d ed
      split at ed
      case isFalse => cases ed
      cases ed
      rename_i hl
      obtain ⟨p, xs, rfl, s1, r1⟩ := rx.tup
      have l1 := r1.length
      have ne : xs ≠ [] := fun e => hl.1 (r1.nil_iff.mp e)
      have s1' := Same.seqT ok.fs s1
      by_cases c0 : k = 0
      · subst c0
        exact .inl ⟨p, xs, rfl, ry.int, s1', ne, fun p' n => by
          obtain ⟨g', x', k', r'⟩ := new_tup ok Reps.nil n
          exact w g' _ _ x' k' r'⟩
      · by_cases c1 : k = 1
        · subst c1
          refine .inr (.inl ⟨p, xs, rfl, ry.int, s1', ?_⟩)
          have e : (List.replicate (1 : Int).toNat a).flatten = a := by simp
          rw [e] at w
          exact w g H _ (Ext.refl g) ok (Rep.mkT s1 r1)
        · refine .inr (.inr ⟨p, k, xs, rfl, ry.int, s1', ne, by omega, by have := hl.2.2.1; omega, by rw [l1]; exact hl.2.2.2, fun p' n => ?_⟩)
          obtain ⟨g', x', k', r'⟩ := new_tup ok (r1.rep k.toNat) n
          exact w g' _ _ x' k' r'
    | _ => exact w.elim
  | _ => exact w.elim

def cutD (l : List D) (lo hi : Option Int) : List D := (l.drop (HT.sIx l.length 0 lo)).take (HT.sIx l.length l.length hi - HT.sIx l.length 0 lo)
theorem Reps.cut {K : PySem.W.Frag} {F : Hp} {al : List Addr} {ds : List D} {vs : List V} (r : Reps K F al ds vs) (lo hi : Option Int) : Reps K F al (cutD ds lo hi) (cutV vs lo hi) := by
  unfold cutD cutV
  rw [r.length]
  exact Reps.take _ (Reps.drop _ r)
def tO (K : PySem.W.Frag) (Wx : WX) (m : M (Option Int)) : TO := fun σ H Q => ∃ g ρ, EnOk K g H σ ρ ∧ (m ρ).W (fun o ρ' => ∀ g' H', Ext g g' → EnOk K g' H' σ ρ' → Q o H') (xW K Wx g σ)
abbrev DO (X : Cx) (Wx : WX) (m : M (Option Int)) (e : Option Expr) : Prop := PO X e (tO X.K Wx m)
@[simp] def noPart : M (Option Int) := fun ρ => .ok none ρ
@[simp] def partM (m : M D) : M (Option Int) := fun ρ => (m ρ).bind fun d ρ1 => match d with
  | .int i => .ok (some i) ρ1
  | _ => .bad
theorem RVOk.hold {K : PySem.W.Frag} {g : Gh} {H : Hp} {σ : L2.St} {ρ : En} {r : RV} {v : V} (ok : EnOk K g H σ ρ) (h : RVOk K g H r v) : ∃ gp, EnOk K gp H σ ρ ∧ Ext0 g gp ∧ ∀ g2 H2 σ2 ρ2, Ext gp g2 → EnOk K g2 H2 σ2 ρ2 → ∃ g3, Ext g g3 ∧ EnOk K g3 H2 σ2 ρ2 ∧ RVOk K g3 H2 r v ∧ g3.F = g2.F ∧ g3.al = g2.al ∧
    ∀ r2 v2, RVOk K g2 H2 r2 v2 → RVOk K g3 H2 r2 v2 ∧ ((∃ d, r = .v d) ∨ (∃ d, r2 = .v d) ∨ v2 ≠ v) := by
  have key : ∀ (a : Addr) (o : HO), v = .ref a → H a = some o → Nob g a → (∀ g3 H2, Ext g g3 → Nob g3 a → H2 a = some o → RVOk K g3 H2 r v) → ∃ gp, EnOk K gp H σ ρ ∧ Ext0 g gp ∧ ∀ g2 H2 σ2 ρ2, Ext gp g2 → EnOk K g2 H2 σ2 ρ2 → ∃ g3, Ext g g3 ∧ EnOk K g3 H2 σ2 ρ2 ∧ RVOk K g3 H2 r v ∧ g3.F = g2.F ∧ g3.al = g2.al ∧
      ∀ r2 v2, RVOk K g2 H2 r2 v2 → RVOk K g3 H2 r2 v2 ∧ ((∃ d, r = .v d) ∨ (∃ d, r2 = .v d) ∨ v2 ≠ v) := by
    intro a o ev hH nb hr
    refine ⟨g.prot a o, ok.prot hH nb, Gh.prot_ext0, fun g2 H2 σ2 ρ2 x2 ok2 => ?_⟩
    obtain ⟨nb2, hH2⟩ := Gh.unprot_nob x2 nb ok2
    have xx := Gh.unprot_ext x2 nb
    have hB : g2.B a = some o := by rw [x2.b]; exact upd_same
    refine ⟨g2.unprot g, xx, EnOk.unprot x2 nb ok2, hr _ _ xx nb2 hH2, rfl, rfl, fun r2 v2 h2 => ?_⟩
    have nB : ∀ b, g2.B b = none → g.B b = none ∧ b ≠ a := fun b z => by
      have hne : b ≠ a := fun c => by rw [c, hB] at z; cases z
      refine ⟨?_, hne⟩
      rw [x2.b] at z
      have z' : upd g.B a o b = none := z
      rw [upd_ne hne] at z'; exact z'
    cases r2 with
    | v d => exact ⟨h2, .inr (.inl ⟨d, rfl⟩)⟩
    | o l =>
      obtain ⟨b, xs, rfl, q1, q2, q3, q4, q5⟩ := h2
      obtain ⟨m1, m2⟩ := nB b q3
      exact ⟨⟨b, xs, rfl, q1, q2, m1, q4, q5⟩, .inr (.inr fun e => by rw [ev] at e; cases e; exact m2 rfl)⟩
    | od ks =>
      obtain ⟨b, xs, rfl, q1, q2, q3, q4, q5, q6⟩ := h2
      obtain ⟨m1, m2⟩ := nB b q3
      exact ⟨⟨b, xs, rfl, q1, q2, m1, q4, q5, q6⟩, .inr (.inr fun e => by rw [ev] at e; cases e; exact m2 rfl)⟩
  cases r with
  | v d => exact ⟨g, ok, Ext0.refl g, fun g2 H2 σ2 ρ2 x2 ok2 => ⟨g2, x2, ok2, Rep.mono x2.f x2.al _ _ h, rfl, rfl, fun r2 v2 h2 => ⟨h2, .inl ⟨d, rfl⟩⟩⟩⟩
  | o l =>
    obtain ⟨a, xs, rfl, q1, q2, q3, q4, q5⟩ := h
    exact key a _ rfl q1 ⟨q2, q3, q4⟩ fun g3 H2 x3 nb hH => ⟨a, xs, rfl, hH, nb.f, nb.b, nb.o, Reps.mono x3.f x3.al _ _ q5⟩
  | od ks =>
    obtain ⟨a, xs, rfl, q1, q2, q3, q4, q5, q6⟩ := h
    exact key a _ rfl q1 ⟨q2, q3, q4⟩ fun g3 H2 x3 nb hH => ⟨a, xs, rfl, hH, nb.f, nb.b, nb.o, q5, Reps.mono x3.f x3.al _ _ q6⟩
section
variable {X : Cx} {Wx : WX} {pos p2 px : Pos} {x : Str} {e a : Expr} {lo hi : Option Expr} {me : M D} {ml mh : M (Option Int)}
theorem do_none : DO X Wx noPart none := ⟨fun pins s σ H Q I ⟨g, ρ, ok, w⟩ => po_none.run pins s σ H Q I (w g H (Ext.refl g) ok)⟩
theorem do_some (h : DE X Wx me e) : DO X Wx (partM me) (some e) := ⟨fun pins s σ H Q I ⟨g, ρ, ok, w⟩ => (po_some h).run pins s σ H Q I (by
  refine ⟨g, ρ, ok, Res.W_imp (Res.W_bind w) (fun d ρ1 w1 => ?_) fun _ _ z => z⟩
  intro g1 H1 v e1 ok1 rv
  cases d with
  | int i => exact ⟨i, rv.int, w1 g1 H1 e1 ok1⟩
  | _ => exact w1.elim)⟩
@[simp] def sliceR (me : M D) (ml mh : M (Option Int)) : M RV := fun ρ => (me ρ).bind fun d ρ1 => (ml ρ1).bind fun l ρ2 => (mh ρ2).bind fun h ρ3 => match d with
  | .tup xs => .ok (.v (.tup (cutD xs l h))) ρ3
  | .lst xs => .ok (.o (cutD xs l h)) ρ3
  | .frz xs => .ok (.o (cutD xs l h)) ρ3
  | .str z => if z.length ≤ sizeLine then .ok (.v (.str (cutS z l h))) ρ3 else .bad
  | _ => .bad
theorem sIx_full {n : Nat} {lo hi : Option Int} {l : List D} (e : l.length = n) (h : HT.sIx n 0 lo = 0 ∧ HT.sIx n n hi = n) : cutD l lo hi = l := by
  unfold cutD
  rw [e, h.1, h.2]
  simp [← e]
theorem dr_slice (he : DE X Wx me e) (hl : DO X Wx ml lo) (hu : DO X Wx mh hi) : DR X Wx (sliceR me ml mh) (.Subscript e (.Slice lo hi none p2) pos) := pe_imp (pe_slice (sl_tupA.or (sl_list.or sl_str)) he hl hu) (by
  rintro σ H Q ⟨g, ρ, ok, w⟩
  refine ⟨g, ρ, ok, Res.W_imp (Res.W_bind w) (fun d ρ1 w1 => ?_) fun _ _ z => z⟩
  intro g1 H1 v e1 ok1 rv
  refine ⟨g1, ρ1, ok1, Res.W_imp (Res.W_bind w1) (fun l ρ2 w2 => ?_) fun _ _ z => z.mono e1⟩
  intro g2 H2 e2 ok2
  refine ⟨g2, ρ2, ok2, Res.W_imp (Res.W_bind w2) (fun h ρ3 w3 => ?_) fun _ _ z => (z.mono e1).mono e2⟩
  intro g3 H3 e3 ok3
  have e23 := e2.trans e3
  have rv := Rep.mono e23.f e23.al _ _ rv
  cases d with
  | tup xs =>
    obtain ⟨p, ys, rfl, s, r⟩ := rv.tup
    refine .inl ⟨p, ys, rfl, Same.seqT ok3.fs s, fun c => ?_, fun c p' n => ?_⟩
    · rw [r.length] at c
      dsimp only at w3
      rw [sIx_full rfl c] at w3
      exact w3 g3 H3 _ (e1.trans e23) ok3 rv
    · obtain ⟨g', x', k', r'⟩ := new_tup ok3 (r.cut l h) n
      exact w3 g' _ _ ((e1.trans e23).trans x') k' r'
  | lst xs =>
    obtain ⟨p, ys, rfl, s, r⟩ := rv.lst
    refine .inr (.inl ⟨p, ys, rfl, SqL.of (ok3.fs _ _ s), fun p' n => ?_⟩)
    obtain ⟨k1, k2⟩ := new_own ok3 (r.cut l h) n
    exact w3 g3 _ _ (e1.trans e23) k1 k2
  | frz xs =>
    obtain ⟨p, ys, rfl, s, r⟩ := rv.frz
    refine .inr (.inl ⟨p, ys, rfl, Same.seq ok3.fs s, fun p' n => ?_⟩)
    obtain ⟨k1, k2⟩ := new_own ok3 (r.cut l h) n
    exact w3 g3 _ _ (e1.trans e23) k1 k2
  | str z =>
    dsimp only at w3
    split at w3
    · refine .inr (.inr ⟨z, rv.str, by assumption, w3 g3 H3 _ (e1.trans e23) ok3 rvS⟩)
    · exact w3.elim
  | _ => exact w3.elim)
/-- x[a:b], x one's own list -/
@[simp] def sliceO (i : Nat) (ml mh : M (Option Int)) : M RV := fun ρ => match ρ.sl[i]? with
  | some (.own _) => (ml ρ).bind fun l ρ2 => (mh ρ2).bind fun h ρ3 => (match ρ3.sl[i]? with
    | some (.own xs) => .ok (.o (cutD xs l h)) ρ3
    | _ => .bad)
  | _ => .bad
theorem dr_sliceO (i : Nat) (hN : X.N[i]? = some x) (hv : Vis X.env.scope x) (hd : (x == ("__debug__" : Str)) = false) (hcd : (x == ("__classdict__" : Str)) = false) (hl : DO X Wx ml lo) (hu : DO X Wx mh hi) : DR X Wx (sliceO i ml mh) (.Subscript (.Name x px) (.Slice lo hi none p2) pos) := pe_imp (pe_slice sl_list (pe_var hN hv hd hcd) hl hu) (by
  rintro σ H Q ⟨g, ρ, ok, w⟩
  unfold sliceO at w
  cases es : ρ.sl[i]? with
  | none => rw [es] at w; exact w.elim
  | some s =>
    rw [es] at w
    cases s with
    | own l =>
      obtain ⟨a, xs, e1, e2, e3, rr⟩ := ok.own_at es
      refine ⟨.ref a, e1, g, ρ, ok, Res.W_imp (Res.W_bind w) (fun l ρ2 w2 => ?_) fun _ _ z => z⟩
      intro g2 H2 x2 ok2
      refine ⟨g2, ρ2, ok2, Res.W_imp (Res.W_bind w2) (fun h ρ3 w3 => ?_) fun _ _ z => z.mono x2⟩
      intro g3 H3 x3 ok3
      cases es1 : ρ3.sl[i]? with
      | none => rw [es1] at w3; exact w3.elim
      | some s1 =>
        rw [es1] at w3
        cases s1 with
        | own l1 =>
          obtain ⟨a', xs', f1, f2, f3, rr'⟩ := ok3.own_at es1
          rw [e1] at f1
          cases f1
          refine ⟨a, xs', rfl, SqL.of f2, fun p' n => ?_⟩
          obtain ⟨k1, k2⟩ := new_own ok3 (rr'.cut l h) n
          exact w3 g3 _ _ (x2.trans x3) k1 k2
        | _ => exact w3.elim
    | _ => exact w.elim)

def CsD (K : PySem.W.Frag) (r : List V → Hp → VK → Prop) (f : List D → Option RV) : Prop := ∀ (g : Gh) (H : Hp) (σ : L2.St) (ρ : En) (p : Addr) (ys : List V) (l : List D) (rv : RV) (Q : VK), EnOk K g H σ ρ → H p = some (.lst ys) → Reps K g.F g.al l ys → f l = some rv →
  (∀ g' H' v, Ext g g' → EnOk K g' H' σ ρ → RVOk K g' H' rv v → Q v H') → r [.ref p] H Q
@[simp] def cbO (i : Nat) (f : List D → Option RV) : M RV := fun ρ => match ρ.sl[i]? with
  | some (.own l) => (match f l with
    | some r => .ok r ρ
    | none => .bad)
  | _ => .bad
theorem tCBO_of {i : Nat} {r : List V → Hp → VK → Prop} {f : List D → Option RV} (h : CsD X.K r f) : ∀ σ H Q, tR X.K Wx (cbO i f) σ H Q → tCB r (tCons (tVar i) tNil) σ H Q := by
  rintro σ H Q ⟨g, ρ, ok, w⟩
  unfold cbO at w
  cases es : ρ.sl[i]? with
  | none => rw [es] at w; exact w.elim
  | some s =>
    rw [es] at w
    cases s with
    | own l =>
      obtain ⟨a, xs, e1, e2, e3, rr⟩ := ok.own_at es
      dsimp only at w
      cases q : f l with
      | none => rw [q] at w; exact w.elim
      | some rv =>
        rw [q] at w
        exact ⟨.ref a, e1, h g H σ ρ a xs l rv Q ok e2 rr q fun g' H' v x' ok' r' => w g' H' v x' ok' r'⟩
    | _ => exact w.elim
variable {p : Pos} {y : Str}
theorem dr_callBO (i : Nat) {id : String} {r : List V → Hp → VK → Prop} {f : List D → Option RV} (hc : CallR X (.builtin id) r) (h : CsD X.K r f) (hg : Gl X y) (hm : X.mg y = none) (hvb : bootBuiltins y = some (.builtin id)) (hN : X.N[i]? = some x) (hv : Vis X.env.scope x) (hd : (x == ("__debug__" : Str)) = false) (hcd : (x == ("__classdict__" : Str)) = false) (hn : y ≠ "__name__") (hdb : (y == ("__debug__" : Str)) = false)
    (he : starEach [.Name x px] X.env = (false, eval (.Name x px) X.env) :: starEach [] X.env) (hpl : (backTo pos (starEach [] X.env)).any (·.1) = false) : DR X Wx (cbO i f) (.Call (.Name y p) [.Name x px] [] pos) := pe_imp (pe_callB hc hg hm hvb (pa_cons (pe_var hN hv hd hcd) pa_nil he) hn hdb he hpl) (tCBO_of h)
theorem dr_callTyO (i : Nat) {T : String} {r : List V → Hp → VK → Prop} {f : List D → Option RV} (hc : CallR X (.type T) r) (h : CsD X.K r f) (hg : Gl X y) (hm : X.mg y = none) (hvb : bootBuiltins y = some (.type T)) (hN : X.N[i]? = some x) (hv : Vis X.env.scope x) (hd : (x == ("__debug__" : Str)) = false) (hcd : (x == ("__classdict__" : Str)) = false) (hn : y ≠ "__name__") (hdb : (y == ("__debug__" : Str)) = false)
    (he : starEach [.Name x px] X.env = (false, eval (.Name x px) X.env) :: starEach [] X.env) (hpl : (backTo pos (starEach [] X.env)).any (·.1) = false) : DR X Wx (cbO i f) (.Call (.Name y p) [.Name x px] [] pos) := pe_imp (pe_callTy hc hg hm hvb (pa_cons (pe_var hN hv hd hcd) pa_nil he) hn hdb he hpl) (tCBO_of h)
@[simp] def lenS (l : List D) : Option RV := some (.v (.int l.length))
@[simp] def listS (l : List D) : Option RV := some (.o l)
@[simp] def tupleS (l : List D) : Option RV := some (.v (.tup l))
theorem cs_len {K : PySem.W.Frag} : CsD K (fun xs H Q => ∃ x n, xs = [x] ∧ LenV K x H n ∧ Q (.int n) H) lenS := by
  intro g H σ ρ p ys l rv Q ok h r q w
  cases q
  exact ⟨_, l.length, rfl, .inl ⟨ys, SqL.of h, r.length.symm⟩, w g H _ (Ext.refl g) ok rvI⟩
theorem cs_list {K : PySem.W.Frag} : CsD K (fun xs H Q => ∃ p ys, xs = [.ref p] ∧ (SqL K H p ys ∨ SqT K H p ys) ∧ ∀ l, H l = none → Q (.ref l) (upd H l (.lst ys))) listS := by
  intro g H σ ρ p ys l rv Q ok h r q w
  cases q
  refine ⟨p, ys, rfl, .inl (SqL.of h), fun l' n => ?_⟩
  obtain ⟨k1, k2⟩ := new_own ok r n
  exact w g _ _ (Ext.refl g) k1 k2
theorem cs_tuple {K : PySem.W.Frag} : CsD K (fun xs H Q => ∃ p ys, xs = [.ref p] ∧ ((SqL K H p ys ∧ ∀ l, H l = none → Q (.ref l) (upd H l (.tup ys))) ∨ (SqT K H p ys ∧ Q (.ref p) H))) tupleS := by
  intro g H σ ρ p ys l rv Q ok h r q w
  cases q
  refine ⟨p, ys, rfl, .inl ⟨SqL.of h, fun l' n => ?_⟩⟩
  obtain ⟨g', x', k, rr⟩ := new_tup ok r n
  exact w g' _ _ x' k rr

@[simp] def parR (i j : Nat) (m1 m2 : M RV) : M Fl := fun ρ => (m1 ρ).bind fun r1 ρ1 => (m2 ρ1).bind fun r2 ρ2 => if i < ρ2.sl.length ∧ j < ρ2.sl.length then .ok .nx ((ρ2.set i r1.sd).set j r2.sd) else .bad
theorem ds_parR (i j : Nat) {x y : Str} {a b : Expr} {m1 m2 : M RV} {px py pt : Pos} {kt k2 : Nat} {pt2 : Pos} (hc : X.calm = true) (hN : X.N.Nodup) (hi : X.N[i]? = some x) (hj : X.N[j]? = some y) (hij : i ≠ j) (hx : X.env.scope.names.lookup x = some .local) (hy : X.env.scope.names.lookup y = some .local) (h1 : DR X Wx m1 a) (h2 : DR X Wx m2 b)
    (hs1 : starEach [a, b] X.env = (false, eval a X.env) :: starEach [b] X.env) (hs2 : starEach [b] X.env = (false, eval b X.env) :: starEach [] X.env)
    (hw : swappedStores [.Tuple [.Name x px, .Name y py] kt pt] (.Tuple [a, b] k2 pt2) X.env = pure (some [x, y])) (hs : swapsWithSole [.Tuple [.Name x px, .Name y py] kt pt] (.Tuple [a, b] k2 pt2) pos.line X.env = pure false) :
    DS X Wx (parR i j m1 m2) (.Assign [.Tuple [.Name x px, .Name y py] kt pt] (.Tuple [a, b] k2 pt2) pos) := ps_imp (ps_par hc hN hi hj hij hx hy (pa_cons h1 (pa_cons h2 pa_nil hs2) hs1) hw hs) (by
  rintro E σ H ⟨g, ρ, ok, w⟩
  refine ⟨g, ρ, ok, Res.W_imp (Res.W_bind w) (fun r1 ρ1 w1 => ?_) fun _ _ z => z.toW⟩
  intro g1 H1 v1 e1 ok1 rv1
  obtain ⟨gp, okp, ep, fin⟩ := rv1.hold ok1
  refine ⟨gp, ρ1, okp, Res.W_imp (Res.W_bind w1) (fun r2 ρ2 w2 => ?_) fun ee ρ' z g' H' cv dd x' ok' xo => ?_⟩
  · intro g2 H2 v2 e2 ok2 rv2
    obtain ⟨g3, e3, ok3, rv1', _, _, f3⟩ := fin g2 H2 σ ρ2 e2 ok2
    obtain ⟨rv2', dis⟩ := f3 r2 v2 rv2
    refine ⟨v1, v2, rfl, ?_⟩
    by_cases c : i < ρ2.sl.length ∧ j < ρ2.sl.length
    · rw [if_pos c] at w2
      obtain ⟨g4, e4, ok4, hF, hA, hO⟩ := ok3.setR rv1' c.1
      have rv2'' : RVOk X.K g4 H2 r2 v2 := by
        have ho : ∀ b, (∀ d, r2 ≠ .v d) → v2 = .ref b → g3.ow b = none → g4.ow b = none := fun b ne ev z => by
          rw [hO b ?_]
          · exact z
          · rcases dis with q | ⟨d, q⟩ | q
            · exact .inl q
            · exact (ne d q).elim
            · exact .inr fun e => q (ev.trans e)
        cases r2 with
        | v d => exact Rep.mono e4.f e4.al _ _ rv2'
        | o l =>
          obtain ⟨b, xs, rfl, q1, q2, q3, q4, q5⟩ := rv2'
          exact ⟨b, xs, rfl, q1, by rw [hF]; exact q2, by rw [e4.b]; exact q3, ho b (fun d e => by cases e) rfl q4, Reps.mono e4.f e4.al _ _ q5⟩
        | od ks =>
          obtain ⟨b, xs, rfl, q1, q2, q3, q4, q5, q6⟩ := rv2'
          exact ⟨b, xs, rfl, q1, by rw [hF]; exact q2, by rw [e4.b]; exact q3, ho b (fun d e => by cases e) rfl q4, q5, Reps.mono e4.f e4.al _ _ q6⟩
      obtain ⟨g5, e5, ok5, _⟩ := ok4.setR rv2'' (by simpa [En.set] using c.2)
      exact w2 g5 H2 _ (((e1.trans e3).trans e4).trans e5) ok5
    · rw [if_neg c] at w2
      exact w2.elim
  · obtain ⟨g3, e3, ok3, _, hF, hA, _⟩ := fin g' H' σ ρ' x' ok'
    refine z g3 H' σ cv dd (e1.trans e3) ok3 ?_
    obtain ⟨c1, c2⟩ := xo
    refine ⟨c1, ?_⟩
    rcases c2 with c2 | ⟨p, xs, c3, c4, c5⟩
    · exact .inl c2
    · exact .inr ⟨p, xs, c3, by rw [hF]; exact c4, by rw [hF, hA]; exact c5⟩)
end
end LW
set_option maxHeartbeats 200000
namespace LW
open PySem PySem.Spec PyProof.Rows L2

def visB (sc : Scope) (x : Str) : Bool := match sc.names.lookup x with
  | some .local => true
  | some .cell => true
  | some .free => true
  | _ => false
theorem vis_of {sc : Scope} {x : Str} (h : visB sc x = true) : Vis sc x := by
  unfold visB at h
  unfold Vis
  split at h
  · rename_i e; exact .inl e
  · rename_i e; exact .inr (.inl e)
  · rename_i e; exact .inr (.inr e)
  · cases h
def locB (sc : Scope) (x : Str) : Bool := match sc.names.lookup x with
  | some .local => true
  | some .cell => true
  | _ => false
theorem loc_of {sc : Scope} {x : Str} (h : locB sc x = true) : L2.Loc sc x := by
  unfold locB at h
  unfold L2.Loc
  split at h
  · rename_i e; exact .inl e
  · rename_i e; exact .inr e
  · cases h
def fnB (X : Cx) (x : Str) : Bool := X.fn x || (match X.env.scope.names.lookup x with
  | some .local => true
  | _ => false)
theorem fn_of {X : Cx} {x : Str} (h : fnB X x = true) : X.fn x = true ∨ X.env.scope.names.lookup x = some .local := by
  unfold fnB at h
  rcases Bool.or_eq_true_iff.mp h with e | e
  · exact .inl e
  · split at e
    · rename_i q; exact .inr q
    · cases e
theorem takesW0 {X : Cx} : Takes X W0 := fun u s' ⟨_, _, _, _, _, _, _, _, _, _, _, _, _, _, _, _, w⟩ => w.elim
theorem u64 {k : Nat} {A : Around} (h : Room k A) : A.units + 64 < cLine := h.units
theorem pyl_dp {k : Nat} {A : Around} (h : Room k A) (hk : 32 ≤ k) : A.depth + 100 < recursionLimit := by
  have := h.dp
  omega
section
variable {X : Cx} {Wx : WX} {st : Stmt}
/-- behind a statement what its name owns is let go -/
theorem ds_then {m : M Fl} {i : Nat} (h : DS X Wx m st) : DS X Wx (seqM m (letM i)) st := ps_imp h (by
  rintro E σ H ⟨g, ρ, ok, w⟩
  refine ⟨g, ρ, ok, Res.W_imp (Res.W_bind w) (fun fl ρ1 w1 => ?_) fun _ _ z => z⟩
  intro g1 H1 σ1 e1 ok1
  cases fl with
  | nx =>
    obtain ⟨g2, ρ2, e, x2, ok2⟩ := letM_ok ok1 w1
    have w1' : (letM i ρ1).W (flP X.K E g) (xS X.K Wx g) := w1
    rw [e] at w1'
    exact w1' g2 H1 σ1 (e1.trans x2) ok2
  | bk => exact w1 g1 H1 σ1 e1 ok1
  | ct => exact w1 g1 H1 σ1 e1 ok1
  | rt r => exact w1 g1 H1 σ1 e1 ok1)
end
end LW
set_option maxHeartbeats 200000
namespace LP
open PySem LW
/-- need_rate: rate -/
noncomputable def m_need_rate : M Fl := ifM (tstD (bin2 (purO leI) (bin2 (purO ixO) (locD 0) (cstD (.int 0))) (cstD (.int 0)))) (badM) (nopM)
noncomputable def Ph_need_rate : List D → M RV := callF 1 m_need_rate
/-- common: one, other -/
noncomputable def m_common : M Fl := seqM (whileM (tstD (bin2 (purO gtI) (locD 1) (cstD (.int 0)))) (parM 0 1 (consA (locD 1) (consA (bin2 (purO modI) (locD 0) (locD 1)) (nilA))))) (retM' (valR (locD 0)))
noncomputable def Ph_common : List D → M RV := callF 2 m_common
/-- part: upper, lower, both -/
noncomputable def m_part : M Fl := seqM (ifM (tstD (bin2 (purO eqO) (locD 1) (cstD (.int 0)))) (badM) (nopM)) (seqM (ifM (tstD (bin2 (purO ltI) (locD 1) (cstD (.int 0)))) (parM 0 1 (consA (bin2 (purO subI) (cstD (.int 0)) (locD 0)) (consA (bin2 (purO subI) (cstD (.int 0)) (locD 1)) (nilA)))) (nopM)) (seqM (setM 2 (valR (frzM (callM 2 (consA (frzM (cbM absF (consA (locD 0) (nilA)))) (consA (locD 1) (nilA))) [] (Ph_common))))) (retM' (valR (tupD (consA (bin2 (purO fdivI) (locD 0) (locD 2)) (consA (bin2 (purO fdivI) (locD 1) (locD 2)) (nilA))))))))
noncomputable def Ph_part : List D → M RV := callF 3 m_part
/-- less: one, other -/
noncomputable def m_less : M Fl := retM' (callM 2 (consA (bin2 (purO subI) (bin2 (purO mulI) (bin2 (purO ixO) (locD 0) (cstD (.int 0))) (bin2 (purO ixO) (locD 1) (cstD (.int 1)))) (bin2 (purO mulI) (bin2 (purO ixO) (locD 1) (cstD (.int 0))) (bin2 (purO ixO) (locD 0) (cstD (.int 1))))) (consA (bin2 (purO mulI) (bin2 (purO ixO) (locD 0) (cstD (.int 1))) (bin2 (purO ixO) (locD 1) (cstD (.int 1)))) (nilA))) [] (Ph_part))
noncomputable def Ph_less : List D → M RV := callF 2 m_less
/-- lacking: table, rate, gains, found, store, row, line, at, share -/
noncomputable def m_lacking : M Fl := seqM (setM 3 (lstR (nilA))) (seqM (forM (enumD (consA (locD 0) (nilA))) (tupU 2 (consG (setU 4) (consG (setU 5) (nilG)))) (seqM (seqM (setM 6 (lcM (enumD (consA (locD 5) (nilA))) (tupU 2 (consG (setU 7) (consG (setU 8) (nilG)))) (yesT) (iteD (tstD (bin2 (purO eqO) (locD 7) (locD 4))) (frzM (callM 2 (consA (locD 1) (consA (locD 8) (nilA))) [] (Ph_less))) (frzM (callM 2 (consA (cstD (.tup [(.int 0), (.int 1)])) (consA (locD 8) (nilA))) [] (Ph_less)))) [7, 8])) (letM 6)) (exprM (mtO 3 appF (consA (bin2 (purO addL) (locD 6) (frzM (lstR (consA (bin2 (purO ixO) (locD 2) (locD 4)) (nilA))))) (nilA)))))) (retM' (takeM 3)))
noncomputable def Ph_lacking : List D → M RV := callF 9 m_lacking
/-- order: one, other, apart -/
noncomputable def m_order : M Fl := seqM (setM 2 (valR (bin2 (purO subI) (bin2 (purO mulI) (bin2 (purO ixO) (locD 0) (cstD (.int 0))) (bin2 (purO ixO) (locD 1) (cstD (.int 1)))) (bin2 (purO mulI) (bin2 (purO ixO) (locD 1) (cstD (.int 0))) (bin2 (purO ixO) (locD 0) (cstD (.int 1))))))) (retM' (valR (bin2 (purO subI) (frzM (cbM intF (consA (bin2 (purO gtI) (locD 2) (cstD (.int 0))) (nilA)))) (frzM (cbM intF (consA (bin2 (purO ltI) (locD 2) (cstD (.int 0))) (nilA)))))))
noncomputable def Ph_order : List D → M RV := callF 3 m_order
/-- over: one, other -/
noncomputable def m_over : M Fl := seqM (ifM (tstD (bin2 (purO eqO) (bin2 (purO ixO) (locD 1) (cstD (.int 0))) (cstD (.int 0)))) (badM) (nopM)) (retM' (callM 2 (consA (bin2 (purO mulI) (bin2 (purO ixO) (locD 0) (cstD (.int 0))) (bin2 (purO ixO) (locD 1) (cstD (.int 1)))) (consA (bin2 (purO mulI) (bin2 (purO ixO) (locD 0) (cstD (.int 1))) (bin2 (purO ixO) (locD 1) (cstD (.int 0)))) (nilA))) [] (Ph_part)))
noncomputable def Ph_over : List D → M RV := callF 2 m_over
/-- times: one, other -/
noncomputable def m_times : M Fl := retM' (callM 2 (consA (bin2 (purO mulI) (bin2 (purO ixO) (locD 0) (cstD (.int 0))) (bin2 (purO ixO) (locD 1) (cstD (.int 0)))) (consA (bin2 (purO mulI) (bin2 (purO ixO) (locD 0) (cstD (.int 1))) (bin2 (purO ixO) (locD 1) (cstD (.int 1)))) (nilA))) [] (Ph_part))
noncomputable def Ph_times : List D → M RV := callF 2 m_times
/-- without: row, other, many, one, two -/
noncomputable def m_without : M Fl := retM' (lcM (zipD true (consA (locD 0) (consA (locD 1) (nilA)))) (tupU 2 (consG (setU 3) (consG (setU 4) (nilG)))) (yesT) (frzM (callM 2 (consA (locD 3) (consA (frzM (callM 2 (consA (locD 2) (consA (locD 4) (nilA))) [] (Ph_times))) (nilA))) [] (Ph_less))) [3, 4])
noncomputable def Ph_without : List D → M RV := callF 5 m_without
/-- led: table, rate, gains, rows, at, below, many -/
noncomputable def m_led : M Fl := seqM (setM 3 (callM 3 (consA (locD 0) (consA (locD 1) (consA (locD 2) (nilA)))) [] (Ph_lacking))) (seqM (forM (rng1 (consA (frzM (cbO 3 lenS)) (nilA))) (setU 4) (seqM (ifM (tstD (bin2 (purO leI) (frzM (callM 2 (consA (bin2 (purO ixO) (ixOwn 3 (locD 4)) (locD 4)) (consA (cstD (.tup [(.int 0), (.int 1)])) (nilA))) [] (Ph_order))) (cstD (.int 0)))) (seqM (letM 3) (retM' (valR (tupD (consA (locD 4) (consA (locD 3) (nilA))))))) (nopM)) (forM (rng2 (consA (bin2 (purO addI) (locD 4) (cstD (.int 1))) (consA (frzM (cbO 3 lenS)) (nilA)))) (setU 5) (seqM (setM 6 (valR (frzM (callM 2 (consA (bin2 (purO ixO) (ixOwn 3 (locD 5)) (locD 4)) (consA (bin2 (purO ixO) (ixOwn 3 (locD 4)) (locD 4)) (nilA))) [] (Ph_over))))) (ifM (tstD (bin2 (purO neO) (locD 6) (cstD (.tup [(.int 0), (.int 1)])))) (asgT (frzM (callM 3 (consA (ixOwn 3 (locD 5)) (consA (ixOwn 3 (locD 4)) (consA (locD 6) (nilA)))) [] (Ph_without))) (setIx 3 (locD 5))) (nopM)))))) (seqM (letM 3) (retM' (valR (tupD (consA (frzM (cbM lenF (consA (locD 3) (nilA)))) (consA (locD 3) (nilA))))))))
noncomputable def Ph_led : List D → M RV := callF 7 m_led
/-- back_from: rows, first, column, found, at, rest, later -/
noncomputable def m_back_from : M Fl := seqM (setM 3 (dctR)) (seqM (forM (rng3 (consA (bin2 (purO subI) (locD 1) (cstD (.int 1))) (consA (un1O negO (cstD (.int 1))) (consA (un1O negO (cstD (.int 1))) (nilA))))) (setU 4) (seqM (setM 5 (valR (bin2 (purO ixO) (bin2 (purO ixO) (locD 0) (locD 4)) (locD 2)))) (seqM (forM (rng2 (consA (bin2 (purO addI) (locD 4) (cstD (.int 1))) (consA (locD 1) (nilA)))) (setU 6) (setM 5 (valR (frzM (callM 2 (consA (locD 5) (consA (frzM (callM 2 (consA (bin2 (purO ixO) (bin2 (purO ixO) (locD 0) (locD 4)) (locD 6)) (consA (dgetO 3 (locD 6)) (nilA))) [] (Ph_times))) (nilA))) [] (Ph_less)))))) (dputM 3 (locD 4) (frzM (callM 2 (consA (locD 5) (consA (bin2 (purO ixO) (bin2 (purO ixO) (locD 0) (locD 4)) (locD 4)) (nilA))) [] (Ph_over))))))) (retM' (lcM (rng1 (consA (locD 1) (nilA))) (setU 4) (yesT) (dgetO 3 (locD 4)) [4])))
noncomputable def Ph_back_from : List D → M RV := callF 7 m_back_from
/-- solved: table, rate, many, far, rows, ahead, one -/
noncomputable def m_solved : M Fl := seqM (exprM (frzM (callM 1 (consA (locD 1) (nilA)) [] (Ph_need_rate)))) (seqM (setM 2 (valR (frzM (cbM lenF (consA (locD 0) (nilA)))))) (seqM (asgT (frzM (callM 3 (consA (locD 0) (consA (locD 1) (consA (bin2 (purO mulL) (frzM (lstR (consA (cstD (.tup [(.int 1), (.int 1)])) (nilA)))) (locD 2)) (nilA)))) [] (Ph_led))) (tupU 2 (consG (setU 3) (consG (setU 4) (nilG))))) (seqM (ifM (tstD (bin2 (purO eqO) (locD 3) (locD 2))) (retM' (valR (tupD (consA (cstD (.str "falls")) (consA (frzM (callM 3 (consA (locD 4) (consA (locD 2) (consA (locD 2) (nilA)))) [] (Ph_back_from))) (nilA)))))) (nopM)) (seqM (seqM (setM 5 (lcM (itsD (frzM (callM 3 (consA (locD 4) (consA (locD 3) (consA (locD 3) (nilA)))) [] (Ph_back_from)))) (setU 6) (yesT) (frzM (callM 2 (consA (cstD (.tup [(.int 0), (.int 1)])) (consA (locD 6) (nilA))) [] (Ph_less))) [6])) (letM 5)) (retM' (valR (tupD (consA (cstD (.str "holds")) (consA (bin2 (purO addL) (bin2 (purO addL) (locD 5) (frzM (lstR (consA (cstD (.tup [(.int 1), (.int 1)])) (nilA))))) (bin2 (purO mulL) (frzM (lstR (consA (cstD (.tup [(.int 0), (.int 1)])) (nilA)))) (bin2 (purO subI) (bin2 (purO subI) (locD 2) (locD 3)) (cstD (.int 1))))) (nilA))))))))))
noncomputable def Ph_solved : List D → M RV := callF 7 m_solved
/-- plus: one, other -/
noncomputable def m_plus : M Fl := retM' (callM 2 (consA (bin2 (purO addI) (bin2 (purO mulI) (bin2 (purO ixO) (locD 0) (cstD (.int 0))) (bin2 (purO ixO) (locD 1) (cstD (.int 1)))) (bin2 (purO mulI) (bin2 (purO ixO) (locD 1) (cstD (.int 0))) (bin2 (purO ixO) (locD 0) (cstD (.int 1))))) (consA (bin2 (purO mulI) (bin2 (purO ixO) (locD 0) (cstD (.int 1))) (bin2 (purO ixO) (locD 1) (cstD (.int 1)))) (nilA))) [] (Ph_part))
noncomputable def Ph_plus : List D → M RV := callF 2 m_plus
/-- sum_of: row, filling, found, share, content -/
noncomputable def m_sum_of : M Fl := seqM (setM 2 (valR (cstD (.tup [(.int 0), (.int 1)])))) (seqM (forM (zipD true (consA (locD 0) (consA (locD 1) (nilA)))) (tupU 2 (consG (setU 3) (consG (setU 4) (nilG)))) (ifM (andT (tstD (bin2 (purO neO) (bin2 (purO ixO) (locD 3) (cstD (.int 0))) (cstD (.int 0)))) (tstD (bin2 (purO neO) (bin2 (purO ixO) (locD 4) (cstD (.int 0))) (cstD (.int 0))))) (setM 2 (valR (frzM (callM 2 (consA (locD 2) (consA (frzM (callM 2 (consA (locD 3) (consA (locD 4) (nilA))) [] (Ph_times))) (nilA))) [] (Ph_plus))))) (nopM))) (retM' (valR (locD 2))))
noncomputable def Ph_sum_of : List D → M RV := callF 5 m_sum_of
/-- weighs: table, rate, weight, row, one -/
noncomputable def m_weighs : M Fl := seqM (exprM (frzM (callM 1 (consA (locD 1) (nilA)) [] (Ph_need_rate)))) (seqM (ifM (orT (tstD (bin2 (purO neO) (frzM (cbM lenF (consA (locD 2) (nilA)))) (frzM (cbM lenF (consA (locD 0) (nilA)))))) (truD (frzM (cbM anyF (consA (frzM (lcM (itsD (locD 2)) (setU 4) (yesT) (bin2 (purO leI) (bin2 (purO ixO) (locD 4) (cstD (.int 0))) (cstD (.int 0))) [4])) (nilA)))))) (retM' (valR (cstD (.bl false)))) (nopM)) (retM' (cbM allF (consA (frzM (lcM (zipD false (consA (locD 0) (consA (locD 2) (nilA)))) (tupU 2 (consG (setU 3) (consG (setU 4) (nilG)))) (yesT) (bin2 (purO ltI) (frzM (callM 2 (consA (frzM (callM 2 (consA (locD 3) (consA (locD 2) (nilA))) [] (Ph_sum_of))) (consA (frzM (callM 2 (consA (locD 1) (consA (locD 4) (nilA))) [] (Ph_times))) (nilA))) [] (Ph_order))) (cstD (.int 0))) [3, 4])) (nilA)))))
noncomputable def Ph_weighs : List D → M RV := callF 5 m_weighs
/-- good_filling: many, filling, one -/
noncomputable def m_good_filling : M Fl := seqM (ifM (orT (tstD (bin2 (purO neO) (frzM (cbM lenF (consA (locD 1) (nilA)))) (locD 0))) (truD (frzM (cbM anyF (consA (frzM (lcM (itsD (locD 1)) (setU 2) (yesT) (bin2 (purO ltI) (bin2 (purO ixO) (locD 2) (cstD (.int 0))) (cstD (.int 0))) [2])) (nilA)))))) (retM' (valR (cstD (.bl false)))) (nopM)) (retM' (cbM anyF (consA (frzM (lcM (itsD (locD 1)) (setU 2) (yesT) (bin2 (purO gtI) (bin2 (purO ixO) (locD 2) (cstD (.int 0))) (cstD (.int 0))) [2])) (nilA))))
noncomputable def Ph_good_filling : List D → M RV := callF 3 m_good_filling
/-- holds_up: table, rate, filling, row, one -/
noncomputable def m_holds_up : M Fl := seqM (exprM (frzM (callM 1 (consA (locD 1) (nilA)) [] (Ph_need_rate)))) (seqM (ifM (notT (truD (frzM (callM 2 (consA (frzM (cbM lenF (consA (locD 0) (nilA)))) (consA (locD 2) (nilA))) [] (Ph_good_filling))))) (retM' (valR (cstD (.bl false)))) (nopM)) (retM' (cbM allF (consA (frzM (lcM (zipD false (consA (locD 0) (consA (locD 2) (nilA)))) (tupU 2 (consG (setU 3) (consG (setU 4) (nilG)))) (yesT) (bin2 (purO geI) (frzM (callM 2 (consA (frzM (callM 2 (consA (locD 3) (consA (locD 2) (nilA))) [] (Ph_sum_of))) (consA (frzM (callM 2 (consA (locD 1) (consA (locD 4) (nilA))) [] (Ph_times))) (nilA))) [] (Ph_order))) (cstD (.int 0))) [3, 4])) (nilA)))))
noncomputable def Ph_holds_up : List D → M RV := callF 5 m_holds_up
end LP
set_option maxHeartbeats 200000
namespace LW
open PySem PySem.Spec PyProof.Rows L2
@[simp] theorem seqM_at (a b : M Fl) (ρ : En) : seqM a b ρ = (a ρ).bind fun fl ρ1 => match fl with
  | .nx => b ρ1
  | .bk => .ok .bk ρ1
  | .ct => .ok .ct ρ1
  | .rt r => .ok (.rt r) ρ1 := rfl
@[simp] theorem items_tup (l : List D) : (D.tup l).items = some l := rfl
@[simp] theorem items_lst (l : List D) : (D.lst l).items = some l := rfl
@[simp] theorem items_frz (l : List D) : (D.frz l).items = some l := rfl
@[simp] theorem ixO_tup (l : List D) (i : Int) : ixO (.tup l) (.int i) = L2.atI l i := rfl
@[simp] theorem ixO_lst (l : List D) (i : Int) : ixO (.lst l) (.int i) = L2.atI l i := rfl
@[simp] theorem ixO_frz (l : List D) (i : Int) : ixO (.frz l) (.int i) = L2.atI l i := rfl
theorem mulI_ok {i j : Int} (h : mulOk i j) : mulI (.int i) (.int j) = some (.int (i * j)) := by
  show (if mulOk i j then _ else _) = _
  rw [if_pos h]
/-- == of ints -/
@[simp] theorem eqO_int {i j : Int} : eqO (.int i) (.int j) = some (.bl (decide (i = j))) := by
  have : PyData.eqv (.int i) (.int j) = decide (i = j) := by
    by_cases h : i = j
    · subst h; simp [PyData.eqv]
    · simp [PyData.eqv, h]
  simp [eqO, D.okd, D.py, this]
@[simp] theorem neO_int {i j : Int} : neO (.int i) (.int j) = some (.bl (!decide (i = j))) := by
  have : PyData.eqv (.int i) (.int j) = decide (i = j) := by
    by_cases h : i = j
    · subst h; simp [PyData.eqv]
    · simp [PyData.eqv, h]
  simp [neO, D.okd, D.py, this]
@[simp] theorem sl1 : (1 : Nat) ≤ sizeLine := by decide
@[simp] theorem sl2 : (2 : Nat) ≤ sizeLine := by decide
@[simp] theorem sl3 : (3 : Nat) ≤ sizeLine := by decide
@[simp] theorem sl4 : (4 : Nat) ≤ sizeLine := by decide
@[simp] theorem sl5 : (5 : Nat) ≤ sizeLine := by decide
@[simp] theorem sl6 : (6 : Nat) ≤ sizeLine := by decide
@[simp] theorem sl7 : (7 : Nat) ≤ sizeLine := by decide
@[simp] theorem sl8 : (8 : Nat) ≤ sizeLine := by decide
@[simp] theorem slz : (0 : Nat) < sizeLine := by decide
end LW
set_option maxHeartbeats 200000
namespace LP
open PySem LW
theorem fmod_pos {a b : Int} (hb : 0 < b) : a.fmod b = a % b := Int.fmod_eq_emod_of_nonneg a (Int.le_of_lt hb)
theorem fdiv_pos {a b : Int} (hb : 0 < b) : a.fdiv b = a / b := Int.fdiv_eq_ediv_of_nonneg a (Int.le_of_lt hb)
theorem gcd_step {a b : Int} (ha : 0 ≤ a) (hb : 0 < b) : Int.gcd a b = Int.gcd b (a % b) := by
  have h := Int.gcd_add_mul_right_right b (a % b) (a / b)
  have e : a % b + a / b * b = a := by rw [Int.add_comm, Int.mul_comm]; exact Int.mul_ediv_add_emod a b
  rw [e, Int.gcd_comm] at h
  exact h
theorem common_loop : ∀ (n : Nat) (a b : Int) (ob : List OD), 0 ≤ a → 0 ≤ b → b.toNat ≤ n →
    whileM (tstD (bin2 (purO gtI) (locD 1) (cstD (.int 0)))) (parM 0 1 (consA (locD 1) (consA (bin2 (purO modI) (locD 0) (locD 1)) (nilA)))) ⟨[.val (.int a), .val (.int b)], ob⟩ = .ok .nx ⟨[.val (.int (Int.gcd a b)), .val (.int 0)], ob⟩
  | 0, a, b, ob, ha, hb, h => by
    have e : b = 0 := by omega
    subst e
    have : ((Int.gcd a 0 : Nat) : Int) = a := by rw [Int.gcd_zero_right]; omega
    rw [this]
    exact whileM_stop (by simp)
  | n + 1, a, b, ob, ha, hb, h => by
    by_cases e : b = 0
    · subst e
      have : ((Int.gcd a 0 : Nat) : Int) = a := by rw [Int.gcd_zero_right]; omega
      rw [this]
      exact whileM_stop (by simp)
    · have hp : 0 < b := by omega
      have h1 : 0 ≤ a % b := Int.emod_nonneg _ e
      have h2 : a % b < b := Int.emod_lt_of_pos _ hp
      have ih := common_loop n b (a % b) ob hb h1 (by omega)
      rw [gcd_step ha hp]
      exact whileM_turn (ρ1 := ⟨[.val (.int a), .val (.int b)], ob⟩) (by simp [hp]) (by simp [e, fmod_pos hp]) ih rfl
theorem common_ok {a b : Int} {ρ : En} (ha : 0 ≤ a) (hb : 0 ≤ b) : Ph_common [.int a, .int b] ρ = .ok (.v (.int (Int.gcd a b))) ⟨[], ρ.ob⟩ := by
  have := common_loop b.toNat a b ρ.ob ha hb (Nat.le_refl _)
  simp [Ph_common, m_common, this]
/-- a part, as data -/
def rD (r : Rat) : D := .tup [.int r.num, .int r.den]
theorem num_pos {u l : Int} (hl : 0 < l) : u / (Int.gcd u l : Int) = (Rat.divInt u l).num := by
  rw [Rat.num_divInt, Int.sign_eq_one_of_pos hl, Int.one_mul, Int.gcd_comm]
theorem den_pos {u l : Int} (hl : 0 < l) : l / (Int.gcd u l : Int) = ((Rat.divInt u l).den : Nat) := by
  rw [Rat.den_divInt, if_neg (by omega), Int.natCast_ediv, Int.gcd_comm]
  congr 1
  omega
theorem gcd_abs (u l : Int) : Int.gcd (if u < 0 then -u else u) l = Int.gcd u l := by
  split
  · exact Int.neg_gcd
  · rfl
theorem part_ok {u l : Int} {ρ : En} (hl : l ≠ 0) : Ph_part [.int u, .int l] ρ = .ok (.v (rD (Rat.divInt u l))) ⟨[], ρ.ob⟩ := by
  have key : ∀ (u l : Int) (ob : List OD), 0 < l → Ph_common [.int (if u < 0 then -u else u), .int l] ⟨[], ob⟩ = .ok (.v (.int (Int.gcd u l))) ⟨[], ob⟩ := fun u l ob h => by
    rw [common_ok (by split <;> omega) (by omega), gcd_abs]
  have fin : ∀ u l : Int, 0 < l → ((Int.gcd u l : Nat) : Int) ≠ 0 ∧ u.fdiv (Int.gcd u l) = (Rat.divInt u l).num ∧ l.fdiv (Int.gcd u l) = ((Rat.divInt u l).den : Nat) := fun u l h => by
    have h0 : 0 < ((Int.gcd u l : Nat) : Int) := by
      have := Int.gcd_pos_of_ne_zero_right u (show l ≠ 0 by omega)
      omega
    refine ⟨by omega, ?_, ?_⟩
    · rw [fdiv_pos h0, num_pos h]
    · rw [fdiv_pos h0, den_pos h]
  by_cases h : l < 0
  · have hp : 0 < 0 - l := by omega
    obtain ⟨e0, e1, e2⟩ := fin (0 - u) (0 - l) hp
    have en : Rat.divInt (0 - u) (0 - l) = Rat.divInt u l := by
      have := Rat.neg_divInt_neg u l
      rw [Int.zero_sub, Int.zero_sub]
      exact this
    rw [en] at e1 e2
    have hk := key (0 - u) (0 - l) ρ.ob hp
    simp at hk e0 e1 e2
    simp only [Ph_part, m_part]
    simp [h, hl, hk, e0, e1, e2, rD]
  · have hp : 0 < l := by omega
    obtain ⟨e0, e1, e2⟩ := fin u l hp
    have hk := key u l ρ.ob hp
    simp only [Ph_part, m_part]
    simp [h, hl, hk, e0, e1, e2, rD]
end LP
set_option maxHeartbeats 200000
namespace LP
open PySem LW
/-- both parts have less than n bits -/
structure Sz (r : Rat) (n : Nat) : Prop where
  num : r.num.natAbs < 2 ^ n
  den : r.den < 2 ^ n
theorem Sz.mono {r : Rat} {m n : Nat} (h : Sz r m) (hmn : m ≤ n) : Sz r n :=
  ⟨Nat.lt_of_lt_of_le h.num (Nat.pow_le_pow_right (by decide) hmn), Nat.lt_of_lt_of_le h.den (Nat.pow_le_pow_right (by decide) hmn)⟩
theorem blen_le {i : Int} {n : Nat} (h : i.natAbs < 2 ^ n) (hn : 1 ≤ n) : blen i ≤ n := by
  unfold blen
  by_cases z : i.natAbs = 0
  · rw [z]; simp [Nat.log2_zero]; exact hn
  · have := (Nat.log2_lt z).mpr h
    omega
theorem mulOk_of {i j : Int} {m n : Nat} (hi : i.natAbs < 2 ^ m) (hj : j.natAbs < 2 ^ n) (hm : 1 ≤ m) (hn : 1 ≤ n) (h : m + n ≤ 67108864) : mulOk i j := by
  have h1 := blen_le hi hm
  have h2 := blen_le hj hn
  show blen i + blen j ≤ 67108864
  omega
theorem Sz.one_le {r : Rat} {n : Nat} (h : Sz r n) : 1 ≤ n := by
  have := r.den_pos
  have h2 := h.den
  cases n with
  | zero => simp at h2; omega
  | succ n => omega
theorem mul_lt {x y m n : Nat} (hx : x < 2 ^ m) (hy : y < 2 ^ n) : x * y < 2 ^ (m + n) := by
  rw [Nat.pow_add]
  by_cases h : y = 0
  · subst h
    rw [Nat.mul_zero]
    exact Nat.mul_pos (Nat.pow_pos (by decide)) (Nat.pow_pos (by decide))
  · exact Nat.lt_of_lt_of_le (Nat.mul_lt_mul_of_pos_right hx (by omega)) (Nat.mul_le_mul_left _ (Nat.le_of_lt hy))
/-- a quotient is no longer than its parts -/
theorem Sz.divInt {u l : Int} {n : Nat} (hl : l ≠ 0) (hu : u.natAbs < 2 ^ n) (h : l.natAbs < 2 ^ n) : Sz (Rat.divInt u l) n := by
  constructor
  · rw [Rat.num_divInt]
    have e : (l.sign * u / (Int.gcd l u : Int)).natAbs ≤ u.natAbs := by
      refine Nat.le_trans (Int.natAbs_ediv_le_natAbs _ _) ?_
      rw [Int.natAbs_mul]
      have : l.sign.natAbs ≤ 1 := by
        rcases Int.lt_trichotomy l 0 with c | c | c
        · rw [Int.sign_eq_neg_one_of_neg c]; decide
        · exact (hl c).elim
        · rw [Int.sign_eq_one_of_pos c]; decide
      calc l.sign.natAbs * u.natAbs ≤ 1 * u.natAbs := Nat.mul_le_mul_right _ this
        _ = u.natAbs := Nat.one_mul _
    exact Nat.lt_of_le_of_lt e hu
  · rw [Rat.den_divInt, if_neg hl]
    exact Nat.lt_of_le_of_lt (Nat.div_le_self _ _) h
section
variable {a b : Rat} {m n : Nat} {ρ : En}
theorem den_ne (a : Rat) : ((a.den : Nat) : Int) ≠ 0 := by
  have := a.den_pos
  omega
theorem mk_div (u : Int) (d : Nat) : Rat.divInt u (d : Int) = mkRat u d := Rat.divInt_ofNat u d
theorem times_eq (a b : Rat) : Rat.divInt (a.num * b.num) (a.den * b.den) = a * b := by
  rw [Rat.mul_def', ← mk_div]; push_cast; rfl
theorem less_eq (a b : Rat) : Rat.divInt (a.num * b.den - b.num * a.den) (a.den * b.den) = a - b := by
  rw [Rat.sub_def', ← mk_div]; push_cast; rfl
theorem plus_eq (a b : Rat) : Rat.divInt (a.num * b.den + b.num * a.den) (a.den * b.den) = a + b := by
  rw [Rat.add_def', ← mk_div]; push_cast; rfl
theorem over_eq (a b : Rat) (h : b.num ≠ 0) : Rat.divInt (a.num * b.den) (a.den * b.num) = a / b := by
  rw [Rat.div_def, Rat.inv_def, ← Rat.num_divInt_den a, Rat.divInt_mul_divInt, Rat.num_divInt_den]
theorem den_lt (h : Sz a m) : ((a.den : Nat) : Int).natAbs < 2 ^ m := by rw [Int.natAbs_natCast]; exact h.den
theorem Sz.mul (ha : Sz a m) (hb : Sz b n) : Sz (a * b) (m + n) := by
  rw [← times_eq]
  refine Sz.divInt ?_ ?_ ?_
  · exact Int.mul_ne_zero (den_ne a) (den_ne b)
  · rw [Int.natAbs_mul]; exact mul_lt ha.num hb.num
  · rw [Int.natAbs_mul]; exact mul_lt (den_lt ha) (den_lt hb)
theorem add_lt {x y : Int} {k : Nat} (hx : x.natAbs < 2 ^ k) (hy : y.natAbs < 2 ^ k) : (x + y).natAbs < 2 ^ (k + 1) ∧ (x - y).natAbs < 2 ^ (k + 1) := by
  rw [Nat.pow_succ]
  constructor <;> omega
theorem cross_lt (ha : Sz a m) (hb : Sz b n) : (a.num * b.den).natAbs < 2 ^ (m + n) ∧ (b.num * a.den).natAbs < 2 ^ (m + n) := by
  constructor
  · rw [Int.natAbs_mul]; exact mul_lt ha.num (den_lt hb)
  · rw [Int.natAbs_mul, Nat.add_comm]; exact mul_lt hb.num (den_lt ha)
theorem Sz.sub (ha : Sz a m) (hb : Sz b n) : Sz (a - b) (m + n + 1) := by
  obtain ⟨h1, h2⟩ := cross_lt ha hb
  rw [← less_eq]
  refine Sz.divInt (Int.mul_ne_zero (den_ne a) (den_ne b)) (add_lt h1 h2).2 ?_
  rw [Int.natAbs_mul, Nat.pow_succ]
  have := mul_lt (den_lt ha) (den_lt hb)
  omega
theorem Sz.add (ha : Sz a m) (hb : Sz b n) : Sz (a + b) (m + n + 1) := by
  obtain ⟨h1, h2⟩ := cross_lt ha hb
  rw [← plus_eq]
  refine Sz.divInt (Int.mul_ne_zero (den_ne a) (den_ne b)) (add_lt h1 h2).1 ?_
  rw [Int.natAbs_mul, Nat.pow_succ]
  have := mul_lt (den_lt ha) (den_lt hb)
  omega
theorem num_ne (h : b ≠ 0) : b.num ≠ 0 := fun e => h (Rat.num_eq_zero.mp e)
theorem Sz.div (ha : Sz a m) (hb : Sz b n) (h : b ≠ 0) : Sz (a / b) (m + n) := by
  rw [← over_eq a b (num_ne h)]
  refine Sz.divInt (Int.mul_ne_zero (den_ne a) (num_ne h)) ?_ ?_
  · rw [Int.natAbs_mul]; exact mul_lt ha.num (den_lt hb)
  · rw [Int.natAbs_mul]; exact mul_lt (den_lt ha) hb.num
variable (ha : Sz a m) (hb : Sz b n) (h : m + n ≤ 67108864)
include ha hb h
theorem ok4 : mulOk a.num b.num ∧ mulOk a.num b.den ∧ mulOk b.num a.den ∧ mulOk a.den b.den ∧ mulOk a.den b.num :=
  ⟨mulOk_of ha.num hb.num ha.one_le hb.one_le h, mulOk_of ha.num (den_lt hb) ha.one_le hb.one_le h, mulOk_of hb.num (den_lt ha) hb.one_le ha.one_le (by omega),
    mulOk_of (den_lt ha) (den_lt hb) ha.one_le hb.one_le h, mulOk_of (den_lt ha) hb.num ha.one_le hb.one_le h⟩
theorem times_ok : Ph_times [rD a, rD b] ρ = .ok (.v (rD (a * b))) ⟨[], ρ.ob⟩ := by
  obtain ⟨h1, h2, h3, h4, h5⟩ := ok4 ha hb h
  have := part_ok (u := a.num * b.num) (l := a.den * b.den) (ρ := ⟨[], ρ.ob⟩) (Int.mul_ne_zero (den_ne a) (den_ne b))
  rw [times_eq] at this
  simp [Ph_times, m_times, rD, ixO, L2.atI, L2.ixN, mulI_ok, h1, h4] at this ⊢
  simp [this]
theorem less_ok : Ph_less [rD a, rD b] ρ = .ok (.v (rD (a - b))) ⟨[], ρ.ob⟩ := by
  obtain ⟨h1, h2, h3, h4, h5⟩ := ok4 ha hb h
  have := part_ok (u := a.num * b.den - b.num * a.den) (l := a.den * b.den) (ρ := ⟨[], ρ.ob⟩) (Int.mul_ne_zero (den_ne a) (den_ne b))
  rw [less_eq] at this
  simp [Ph_less, m_less, rD, ixO, L2.atI, L2.ixN, mulI_ok, h2, h3, h4] at this ⊢
  simp [this]
theorem plus_ok : Ph_plus [rD a, rD b] ρ = .ok (.v (rD (a + b))) ⟨[], ρ.ob⟩ := by
  obtain ⟨h1, h2, h3, h4, h5⟩ := ok4 ha hb h
  have := part_ok (u := a.num * b.den + b.num * a.den) (l := a.den * b.den) (ρ := ⟨[], ρ.ob⟩) (Int.mul_ne_zero (den_ne a) (den_ne b))
  rw [plus_eq] at this
  simp [Ph_plus, m_plus, rD, ixO, L2.atI, L2.ixN, mulI_ok, h2, h3, h4] at this ⊢
  simp [this]
theorem over_ok (hb0 : b ≠ 0) : Ph_over [rD a, rD b] ρ = .ok (.v (rD (a / b))) ⟨[], ρ.ob⟩ := by
  obtain ⟨h1, h2, h3, h4, h5⟩ := ok4 ha hb h
  have hn := num_ne hb0
  have := part_ok (u := a.num * b.den) (l := a.den * b.num) (ρ := ⟨[], ρ.ob⟩) (Int.mul_ne_zero (den_ne a) hn)
  rw [over_eq a b hn] at this
  simp [Ph_over, m_over, rD, ixO, L2.atI, L2.ixN, mulI_ok, h2, h5, hn] at this ⊢
  simp [this]
/-- the sign of a - b -/
def ordI (a b : Rat) : Int := if b < a then 1 else if a < b then -1 else 0
theorem order_ok : Ph_order [rD a, rD b] ρ = .ok (.v (.int (ordI a b))) ⟨[], ρ.ob⟩ := by
  obtain ⟨h1, h2, h3, h4, h5⟩ := ok4 ha hb h
  simp [Ph_order, m_order, rD, ixO, L2.atI, L2.ixN, mulI_ok, h2, h3]
  unfold ordI
  have e1 := Rat.lt_iff a b
  have e2 := Rat.lt_iff b a
  by_cases c1 : b < a
  · have d1 := e2.mp c1
    have d2 : ¬ a.num * b.den < b.num * a.den := by omega
    simp [c1]
    rw [if_pos (by omega), if_neg (by omega)]
    rfl
  · have d1 : ¬ b.num * a.den < a.num * b.den := fun z => c1 (e2.mpr z)
    by_cases c2 : a < b
    · have d2 := e1.mp c2
      simp [c1, c2]
      rw [if_neg (by omega), if_pos (by omega)]
      rfl
    · have d2 : ¬ a.num * b.den < b.num * a.den := fun z => c2 (e1.mpr z)
      simp [c1, c2]
      rw [if_neg (by omega), if_neg (by omega)]
      rfl
end
end LP
set_option maxHeartbeats 200000
namespace LW
open PySem PySem.Spec PyProof.Rows L2
theorem lcGo_map {α : Type} {b : D → M Unit} {t : M Bool} {el : M D} {vs : List Nat} {e f : α → D} {ρ : En} : ∀ (xs : List α) (acc : List D), (∀ x ∈ xs, ∃ ρa ρb ρc, b (e x) ρ = .ok () ρa ∧ t ρa = .ok true ρb ∧ el ρb = .ok (f x) ρc ∧ ρc.kills vs = ρ) → lcGo b t el vs (xs.map e) acc ρ = .ok (acc ++ xs.map f) ρ
  | [], acc, h => by simp [lcGo]
  | x :: xs, acc, h => by
    obtain ⟨ρa, ρb, ρc, h1, h2, h3, h4⟩ := h x (List.mem_cons_self ..)
    have ih := lcGo_map xs (acc ++ [f x]) fun y hy => h y (List.mem_cons_of_mem _ hy)
    rw [List.map_cons, lcGo]
    dsimp only
    rw [h1, Res.bind_ok, h2, Res.bind_ok]
    dsimp only
    rw [h3, Res.bind_ok, h4, ih, List.map_cons, List.append_assoc]
    rfl
/-- a comprehension without tests -/
theorem lcM_map {α : Type} {m : M (List D)} {b : D → M Unit} {el : M D} {vs : List Nat} {e f : α → D} {ρ ρ1 ρk ρ2 : En} {xs : List α} (hm : m ρ = .ok (xs.map e) ρ1) (hl : xs.length ≤ sizeLine) (hk : ρ1.kills vs = ρk) (h : ∀ x ∈ xs, ∃ ρa ρc, b (e x) ρk = .ok () ρa ∧ el ρa = .ok (f x) ρc ∧ ρc.kills vs = ρk) (hb : ρk.back ρ1 vs = ρ2) :
    lcM m b yesT el vs ρ = .ok (.o (xs.map f)) ρ2 := by
  unfold lcM
  rw [hm, Res.bind_ok]
  rw [if_pos (by simpa using hl), hk, lcGo_map (t := yesT) (f := f) xs [] fun x hx => (h x hx).elim fun ρa q => q.elim fun ρc q => ⟨ρa, ρa, ρc, q.1, rfl, q.2.1, q.2.2⟩]
  change (Res.bind (Res.ok ([] ++ xs.map f) ρk) fun l ρ2 => Res.ok (RV.o l) (ρ2.back ρ1 vs)) = _
  rw [Res.bind_ok, hb]
  rfl
/-- a comprehension with a test -/
theorem lcGo_filter {α : Type} {b : D → M Unit} {t : M Bool} {el : M D} {vs : List Nat} {e f : α → D} {p : α → Bool} {ρ : En} : ∀ (xs : List α) (acc : List D), (∀ x ∈ xs, ∃ ρa ρb, b (e x) ρ = .ok () ρa ∧ t ρa = .ok (p x) ρb ∧ (p x = false → ρb.kills vs = ρ) ∧ (p x = true → ∃ ρc, el ρb = .ok (f x) ρc ∧ ρc.kills vs = ρ)) → lcGo b t el vs (xs.map e) acc ρ = .ok (acc ++ (xs.filter p).map f) ρ
  | [], acc, h => by simp [lcGo]
  | x :: xs, acc, h => by
    obtain ⟨ρa, ρb, h1, h2, h3, h4⟩ := h x (List.mem_cons_self ..)
    have ih := fun acc' => lcGo_filter xs acc' fun y hy => h y (List.mem_cons_of_mem _ hy)
    rw [List.map_cons, lcGo]
    dsimp only
    rw [h1, Res.bind_ok, h2, Res.bind_ok]
    cases c : p x with
    | true =>
      obtain ⟨ρc, h5, h6⟩ := h4 c
      dsimp only
      rw [h5, Res.bind_ok, h6, ih, List.filter_cons, if_pos c, List.map_cons, List.append_assoc]
      rfl
    | false =>
      dsimp only
      rw [h3 c, ih, List.filter_cons, if_neg (by rw [c]; decide)]
theorem lcM_filter {α : Type} {m : M (List D)} {b : D → M Unit} {t : M Bool} {el : M D} {vs : List Nat} {e f : α → D} {p : α → Bool} {ρ ρ1 ρk ρ2 : En} {xs : List α} (hm : m ρ = .ok (xs.map e) ρ1) (hl : xs.length ≤ sizeLine) (hk : ρ1.kills vs = ρk)
    (h : ∀ x ∈ xs, ∃ ρa ρb, b (e x) ρk = .ok () ρa ∧ t ρa = .ok (p x) ρb ∧ (p x = false → ρb.kills vs = ρk) ∧ (p x = true → ∃ ρc, el ρb = .ok (f x) ρc ∧ ρc.kills vs = ρk)) (hb : ρk.back ρ1 vs = ρ2) :
    lcM m b t el vs ρ = .ok (.o ((xs.filter p).map f)) ρ2 := by
  unfold lcM
  rw [hm, Res.bind_ok]
  rw [if_pos (by simpa using hl), hk, lcGo_filter xs [] h]
  change (Res.bind (Res.ok ([] ++ (xs.filter p).map f) ρk) fun l ρ2 => Res.ok (RV.o l) (ρ2.back ρ1 vs)) = _
  rw [Res.bind_ok, hb]
  rfl
/-- a for loop that goes through -/
theorem forGo_inv {b : D → M Unit} {body : M Fl} (I : Nat → En → Prop) : ∀ (ds : List D) (i : Nat) (ρ : En), I i ρ → (∀ j d ρ, ds[j]? = some d → I (i + j) ρ → ∃ ρ1 ρ2, b d ρ = .ok () ρ1 ∧ (body ρ1 = .ok .nx ρ2 ∨ body ρ1 = .ok .ct ρ2) ∧ I (i + j + 1) ρ2) → ∃ ρ', forGo ds b body ρ = .ok .nx ρ' ∧ I (i + ds.length) ρ'
  | [], i, ρ, h0, h => ⟨ρ, rfl, h0⟩
  | d :: ds, i, ρ, h0, h => by
    obtain ⟨ρ1, ρ2, h1, h2, h3⟩ := h 0 d ρ rfl h0
    obtain ⟨ρ', h4, h5⟩ := forGo_inv I ds (i + 1) ρ2 h3 fun j d' ρ3 hd hI => by
      have := h (j + 1) d' ρ3 (by simpa using hd) (by rw [show i + (j + 1) = i + 1 + j by omega]; exact hI)
      rw [show i + (j + 1) + 1 = i + 1 + j + 1 by omega] at this
      exact this
    refine ⟨ρ', ?_, by rw [List.length_cons, show i + (ds.length + 1) = i + 1 + ds.length by omega]; exact h5⟩
    rw [forGo]
    dsimp only
    rw [h1]
    show Res.bind (body ρ1) _ = _
    rcases h2 with h2 | h2 <;> (rw [h2, Res.bind_ok]; exact h4)
/-- a for loop that may return: R tells of the end by return -/
theorem forGo_ret {b : D → M Unit} {body : M Fl} (I : Nat → En → Prop) (R : RV → En → Prop) : ∀ (ds : List D) (i : Nat) (ρ : En), I i ρ → (∀ j d ρ, ds[j]? = some d → I (i + j) ρ → ∃ ρ1, b d ρ = .ok () ρ1 ∧ ((∃ ρ2, (body ρ1 = .ok .nx ρ2 ∨ body ρ1 = .ok .ct ρ2) ∧ I (i + j + 1) ρ2) ∨ ∃ r ρ2, body ρ1 = .ok (.rt r) ρ2 ∧ R r ρ2)) →
    (∃ ρ', forGo ds b body ρ = .ok .nx ρ' ∧ I (i + ds.length) ρ') ∨ ∃ r ρ', forGo ds b body ρ = .ok (.rt r) ρ' ∧ R r ρ'
  | [], i, ρ, h0, h => .inl ⟨ρ, rfl, h0⟩
  | d :: ds, i, ρ, h0, h => by
    obtain ⟨ρ1, h1, h2⟩ := h 0 d ρ rfl h0
    rcases h2 with ⟨ρ2, h2, h3⟩ | ⟨r, ρ2, h2, h3⟩
    · have ih := forGo_ret I R ds (i + 1) ρ2 h3 fun j d' ρ3 hd hI => by
        have := h (j + 1) d' ρ3 (by simpa using hd) (by rw [show i + (j + 1) = i + 1 + j by omega]; exact hI)
        rw [show i + (j + 1) + 1 = i + 1 + j + 1 by omega] at this
        exact this
      have e : forGo (d :: ds) b body ρ = forGo ds b body ρ2 := by
        rw [forGo]
        dsimp only
        rw [h1]
        show Res.bind (body ρ1) _ = _
        rcases h2 with h2 | h2 <;> (rw [h2, Res.bind_ok])
      rw [e, List.length_cons, show i + (ds.length + 1) = i + 1 + ds.length by omega]
      exact ih
    · refine .inr ⟨r, ρ2, ?_, h3⟩
      rw [forGo]
      dsimp only
      rw [h1]
      show Res.bind (body ρ1) _ = _
      rw [h2, Res.bind_ok]
theorem zipL_map {α β : Type} {e : α → D} {f : β → D} : ∀ (xs : List α) (ys : List β), zipL (xs.map e) (ys.map f) = (xs.zip ys).map fun p => .tup [e p.1, f p.2]
  | [], ys => by cases ys <;> rfl
  | x :: xs, [] => rfl
  | x :: xs, y :: ys => by
    simp only [List.map_cons, zipL, List.zip_cons_cons, zipL_map xs ys]
theorem enumL_map {α : Type} {e : α → D} : ∀ (xs : List α) (n : Nat), enumL n (xs.map e) = (xs.zipIdx n).map fun p => .tup [.int (p.2 : Nat), e p.1]
  | [], n => rfl
  | x :: xs, n => by
    simp only [List.map_cons, enumL, List.zipIdx_cons, enumL_map xs (n + 1)]
theorem rngL_map : ∀ (n : Nat) (lo : Nat), rngL (lo : Int) n = (List.range' lo n).map fun i => .int (i : Nat)
  | 0, lo => rfl
  | n + 1, lo => by
    simp only [rngL, List.range'_succ, List.map_cons]
    have := rngL_map n (lo + 1)
    rw [← this]
    rfl
theorem rng1_ok {m : M (List D)} {ρ ρ1 : En} {b : Nat} (h : m ρ = .ok [.int (b : Nat)] ρ1) (hb : b ≤ 1000000000) : rng1 m ρ = .ok ((List.range' 0 b).map fun i => .int (i : Nat)) ρ1 := by
  unfold rng1
  rw [h, Res.bind_ok]
  dsimp only
  rw [if_pos (by omega), Int.toNat_natCast, ← rngL_map b 0]
  rfl
theorem rng2_ok {m : M (List D)} {ρ ρ1 : En} {a b : Nat} (h : m ρ = .ok [.int (a : Nat), .int (b : Nat)] ρ1) (ha : a ≤ 1000000000) (hb : b ≤ 1000000000) : rng2 m ρ = .ok ((List.range' a (b - a)).map fun i => .int (i : Nat)) ρ1 := by
  have e2 : ((b : Int) - (a : Int)).toNat = b - a := by omega
  unfold rng2
  rw [h, Res.bind_ok]
  dsimp only
  rw [if_pos ⟨by omega, by omega⟩, e2, ← rngL_map (b - a) a]
@[simp] theorem forM_at {m : M (List D)} {b : D → M Unit} {body : M Fl} {ρ : En} : forM m b body ρ = (m ρ).bind fun ds ρ1 => forGo ds b body ρ1 := rfl
theorem cb1_of {m : M RV} {f : List D → Option RV} {ρ ρ1 : En} {l : List D} {r : RV} (h : m ρ = .ok (.o l) ρ1) (hf : f [.lst l] = some r) : cbM f (consA (frzM m) nilA) ρ = .ok r ρ1 := by
  unfold cbM consA frzM
  rw [h]
  simp [hf]
theorem frzM_v {m : M RV} {ρ ρ1 : En} {d : D} (h : m ρ = .ok (.v d) ρ1) : frzM m ρ = .ok d ρ1 := by unfold frzM; rw [h]; rfl
theorem truD_bl {m : M D} {ρ ρ1 : En} {b : Bool} (h : m ρ = .ok (.bl b) ρ1) : truD m ρ = .ok b ρ1 := by unfold truD; rw [h]; rfl
theorem ret_of {m : M RV} {ρ ρ1 : En} {r : RV} (h : m ρ = .ok r ρ1) : retM' m ρ = .ok (.rt r) ρ1 := by unfold retM'; rw [h]; rfl
theorem orT_ff {a b : M Bool} {ρ ρ1 : En} {x : Res Bool} (h : a ρ = .ok false ρ1) (h2 : b ρ1 = x) : orT a b ρ = x := by unfold orT; rw [h]; exact h2
theorem ifM_ff {c : M Bool} {a b : M Fl} {ρ ρ1 : En} (h : c ρ = .ok false ρ1) : ifM c a b ρ = b ρ1 := by unfold ifM iteD; rw [h]; rfl
theorem ifM_tt {c : M Bool} {a b : M Fl} {ρ ρ1 : En} (h : c ρ = .ok true ρ1) : ifM c a b ρ = a ρ1 := by unfold ifM iteD; rw [h]; rfl
theorem frzM_o {m : M RV} {ρ ρ1 : En} {l : List D} (h : m ρ = .ok (.o l) ρ1) : frzM m ρ = .ok (.lst l) ρ1 := by unfold frzM; rw [h]; rfl
theorem bin2_of {a b : M D} {h : D → D → Option D} {ρ ρ1 ρ2 : En} {x y z : D} (ha : a ρ = .ok x ρ1) (hb : b ρ1 = .ok y ρ2) (hz : h x y = some z) : bin2 (purO h) a b ρ = .ok z ρ2 := by
  unfold bin2
  rw [ha, Res.bind_ok, hb, Res.bind_ok]
  unfold purO
  rw [hz]
theorem setM_v {i : Nat} {m : M D} {ρ ρ1 : En} {d : D} (h : m ρ = .ok d ρ1) (hi : i < ρ1.sl.length) : setM i (valR m) ρ = .ok .nx (ρ1.set i (.val d)) := by
  unfold setM valR
  rw [h, Res.bind_ok, Res.bind_ok, if_pos hi]
  rfl
theorem seqM_nx {a b : M Fl} {ρ ρ1 : En} (h : a ρ = .ok .nx ρ1) : seqM a b ρ = b ρ1 := by rw [seqM_at, h]; rfl
theorem seqM_rt {a b : M Fl} {ρ ρ1 : En} {r : RV} (h : a ρ = .ok (.rt r) ρ1) : seqM a b ρ = .ok (.rt r) ρ1 := by rw [seqM_at, h]; rfl
theorem forM_ok {m : M (List D)} {b : D → M Unit} {body : M Fl} {ρ ρ1 : En} {ds : List D} {x : Res Fl} (h : m ρ = .ok ds ρ1) (h2 : forGo ds b body ρ1 = x) : forM m b body ρ = x := by rw [forM_at, h]; exact h2
theorem callF_rt {n : Nat} {den : M Fl} {ds : List D} {ρ : En} {s : List SD} {ob : List OD} {r : RV} (h : den ⟨slots0 n ds, ρ.ob⟩ = .ok (.rt r) ⟨s, ob⟩) : callF n den ds ρ = .ok r ⟨[], ob⟩ := by unfold callF; rw [h]
theorem callF_nx {n : Nat} {den : M Fl} {ds : List D} {ρ : En} {s : List SD} {ob : List OD} (h : den ⟨slots0 n ds, ρ.ob⟩ = .ok .nx ⟨s, ob⟩) : callF n den ds ρ = .ok (.v .non) ⟨[], ob⟩ := by unfold callF; rw [h]
end LW
set_option maxHeartbeats 200000
namespace LP
open PySem LW
def rL (l : List Rat) : D := .lst (l.map rD)
def rT (l : List Rat) : D := .tup (l.map rD)
/-- all of a row have less than n bits -/
def SzL (l : List Rat) (n : Nat) : Prop := ∀ x ∈ l, Sz x n
theorem SzL.mono {l : List Rat} {m n : Nat} (h : SzL l m) (hmn : m ≤ n) : SzL l n := fun x hx => (h x hx).mono hmn
@[simp] theorem rL_items {l : List Rat} : (rL l).items = some (l.map rD) := rfl
@[simp] theorem rT_items {l : List Rat} : (rT l).items = some (l.map rD) := rfl
theorem without_ok {a b : List Rat} {m : Rat} {A B M : Nat} {ρ : En} (h : a.length = b.length) (hl : a.length ≤ sizeLine) (ha : SzL a A) (hb : SzL b B) (hm : Sz m M) (hs : A + (M + B) ≤ 67108864) :
    Ph_without [rL a, rL b, rD m] ρ = .ok (.o ((List.zipWith (fun p q => p - m * q) a b).map rD)) ⟨[], ρ.ob⟩ := by
  have key := lcM_map (m := zipD true (consA (locD 0) (consA (locD 1) (nilA)))) (b := tupU 2 (consG (setU 3) (consG (setU 4) (nilG)))) (el := frzM (callM 2 (consA (locD 3) (consA (frzM (callM 2 (consA (locD 2) (consA (locD 4) (nilA))) [] (Ph_times))) (nilA))) [] (Ph_less))) (vs := [3, 4])
    (e := fun p : Rat × Rat => .tup [rD p.1, rD p.2]) (f := fun p => rD (p.1 - m * p.2)) (xs := a.zip b)
    (ρ := ⟨[.val (rL a), .val (rL b), .val (rD m), .un, .un], ρ.ob⟩) (ρ1 := ⟨[.val (rL a), .val (rL b), .val (rD m), .un, .un], ρ.ob⟩) (ρk := ⟨[.val (rL a), .val (rL b), .val (rD m), .un, .un], ρ.ob⟩) (ρ2 := ⟨[.val (rL a), .val (rL b), .val (rD m), .un, .un], ρ.ob⟩)
    (by simp [h, zipL_map]) (by simp [h] ; omega) (by simp [En.kills]) (fun p hp => by
      have h1 := ha _ (List.of_mem_zip hp).1
      have h2 := hb _ (List.of_mem_zip hp).2
      refine ⟨⟨[.val (rL a), .val (rL b), .val (rD m), .val (rD p.1), .val (rD p.2)], ρ.ob⟩, ⟨[.val (rL a), .val (rL b), .val (rD m), .val (rD p.1), .val (rD p.2)], ρ.ob⟩, by simp, ?_, by simp [En.kills]⟩
      simp [times_ok hm h2 (by omega), less_ok h1 (hm.mul h2) hs]) (by simp [En.back, SD.keep])
  simp only [Ph_without, m_without]
  simp only [callF, retM', slots0, List.map_cons, List.map_nil, List.length_cons, List.length_nil]
  rw [show ([SD.val (rL a), SD.val (rL b), SD.val (rD m)] ++ List.replicate (5 - (0 + 1 + 1 + 1)) SD.un) = [.val (rL a), .val (rL b), .val (rD m), .un, .un] from rfl, key]
  rw [← List.map_uncurry_zip_eq_zipWith]
  simp [Function.comp_def]
end LP
set_option maxHeartbeats 200000
namespace LP
open PySem LW
def sumN : Nat → (Nat → Rat) → Rat
  | 0, _ => 0
  | n + 1, f => sumN n f + f n
theorem sumN_congr {f g : Nat → Rat} : ∀ {n : Nat}, (∀ i, i < n → f i = g i) → sumN n f = sumN n g
  | 0, _ => rfl
  | n + 1, h => by
    show sumN n f + f n = sumN n g + g n
    rw [sumN_congr fun i hi => h i (by omega), h n (by omega)]
theorem sumN_add {f g : Nat → Rat} : ∀ {n : Nat}, sumN n (fun i => f i + g i) = sumN n f + sumN n g
  | 0 => by simp [sumN]; grind
  | n + 1 => by
    show sumN n (fun i => f i + g i) + (f n + g n) = _
    rw [sumN_add]
    show _ = sumN n f + f n + (sumN n g + g n)
    grind
theorem sumN_mul {f : Nat → Rat} {c : Rat} : ∀ {n : Nat}, sumN n (fun i => c * f i) = c * sumN n f
  | 0 => by simp [sumN]
  | n + 1 => by
    show sumN n (fun i => c * f i) + c * f n = c * (sumN n f + f n)
    rw [sumN_mul]
    grind
theorem sumN_le {f g : Nat → Rat} : ∀ {n : Nat}, (∀ i, i < n → f i ≤ g i) → sumN n f ≤ sumN n g
  | 0, _ => by simp [sumN]
  | n + 1, h => by
    show sumN n f + f n ≤ sumN n g + g n
    have h1 := sumN_le (n := n) fun i hi => h i (by omega)
    have h2 := h n (by omega)
    grind
theorem sumN_nonneg {f : Nat → Rat} : ∀ {n : Nat}, (∀ i, i < n → 0 ≤ f i) → 0 ≤ sumN n f
  | 0, _ => by simp [sumN]
  | n + 1, h => by
    show 0 ≤ sumN n f + f n
    have h1 := sumN_nonneg (n := n) fun i hi => h i (by omega)
    have h2 := h n (by omega)
    grind
theorem sumN_zero : ∀ {n : Nat}, sumN n (fun _ => 0) = 0
  | 0 => rfl
  | n + 1 => by show sumN n _ + 0 = 0; rw [sumN_zero]; grind
theorem sumN_swap {f : Nat → Nat → Rat} {m : Nat} : ∀ {n : Nat}, sumN n (fun i => sumN m (fun j => f i j)) = sumN m (fun j => sumN n (fun i => f i j))
  | 0 => by simp [sumN]; rw [sumN_zero]
  | n + 1 => by
    show sumN n _ + sumN m _ = _
    rw [sumN_swap, ← sumN_add]
    rfl
theorem sumN_lt {f g : Nat → Rat} : ∀ {n : Nat}, (∀ i, i < n → f i ≤ g i) → (∃ i, i < n ∧ f i < g i) → sumN n f < sumN n g
  | 0, _, h => by obtain ⟨i, hi, _⟩ := h; omega
  | n + 1, h, ⟨i, hi, hlt⟩ => by
    show sumN n f + f n < sumN n g + g n
    have h2 := h n (by omega)
    by_cases c : i = n
    · subst c
      have h1 := sumN_le (n := i) fun j hj => h j (by omega)
      grind
    · have h1 := sumN_lt (n := n) (fun j hj => h j (by omega)) ⟨i, by omega, hlt⟩
      grind
/-- an item of a row, 0 outside -/
def at0 (l : List Rat) (i : Nat) : Rat := l.getD i 0
theorem at0_get {l : List Rat} {i : Nat} (h : i < l.length) : l[i]? = some (at0 l i) := by
  unfold at0
  rw [List.getD_eq_getElem?_getD]
  simp [h]
theorem at0_mem {l : List Rat} {i : Nat} (h : i < l.length) : at0 l i ∈ l := by
  have := at0_get h
  exact List.mem_of_getElem? this
theorem at0_of {l : List Rat} {i : Nat} {x : Rat} (h : l[i]? = some x) : at0 l i = x := by
  unfold at0
  rw [List.getD_eq_getElem?_getD, h]
  rfl
/-- the sum of the products -/
def dot (n : Nat) (a b : List Rat) : Rat := sumN n fun i => at0 a i * at0 b i
theorem Sz.zero : Sz 0 1 := ⟨by decide, by decide⟩
theorem Sz.one' : Sz 1 1 := ⟨by decide, by decide⟩
theorem rD0 : D.tup [.int 0, .int 1] = rD 0 := rfl
theorem rD1 : D.tup [.int 1, .int 1] = rD 1 := rfl
theorem rD_num {r : Rat} : ixO (rD r) (.int 0) = some (.int r.num) := by simp [rD, ixO, L2.atI, L2.ixN]
theorem Sz.dot {a b : List Rat} {A B n : Nat} (ha : SzL a A) (hb : SzL b B) (h1 : n ≤ a.length) (h2 : n ≤ b.length) : Sz (dot n a b) (n * (A + B + 1) + 1) := by
  induction n with
  | zero => exact Sz.zero.mono (by omega)
  | succ n ih =>
    have := (ih (by omega) (by omega)).add ((ha _ (at0_mem (i := n) (by omega))).mul (hb _ (at0_mem (i := n) (by omega))))
    refine Sz.mono this ?_
    rw [Nat.add_mul, Nat.one_mul]
    omega
theorem sum_of_core {a b : List Rat} {A B : Nat} {da : D} {ob : List OD} (hda : da.items = some (a.map rD)) (h : a.length = b.length) (ha : SzL a A) (hb : SzL b B) (hs : (a.length + 1) * (A + B + 1) + 1 ≤ 67108864) (ρ : En) (hρ : ρ = ⟨[.val da, .val (rL b), .val (rD 0), .un, .un], ob⟩) :
    ∃ s3 s4, forM (zipD true (consA (locD 0) (consA (locD 1) (nilA)))) (tupU 2 (consG (setU 3) (consG (setU 4) (nilG)))) (ifM (andT (tstD (bin2 (purO neO) (bin2 (purO ixO) (locD 3) (cstD (.int 0))) (cstD (.int 0)))) (tstD (bin2 (purO neO) (bin2 (purO ixO) (locD 4) (cstD (.int 0))) (cstD (.int 0))))) (setM 2 (valR (frzM (callM 2 (consA (locD 2) (consA (frzM (callM 2 (consA (locD 3) (consA (locD 4) (nilA))) [] (Ph_times))) (nilA))) [] (Ph_plus))))) (nopM)) ρ = .ok .nx ⟨[.val da, .val (rL b), .val (rD (dot a.length a b)), s3, s4], ob⟩ := by
  subst hρ
  have e1 : zipD true (consA (locD 0) (consA (locD 1) (nilA))) ⟨[.val da, .val (rL b), .val (rD 0), .un, .un], ob⟩ = .ok ((a.zip b).map fun p => .tup [rD p.1, rD p.2]) ⟨[.val da, .val (rL b), .val (rD 0), .un, .un], ob⟩ := by
    simp [hda, h, zipL_map]
  obtain ⟨ρ', h1, s3, s4, h2⟩ := forGo_inv (b := tupU 2 (consG (setU 3) (consG (setU 4) (nilG)))) (body := ifM (andT (tstD (bin2 (purO neO) (bin2 (purO ixO) (locD 3) (cstD (.int 0))) (cstD (.int 0)))) (tstD (bin2 (purO neO) (bin2 (purO ixO) (locD 4) (cstD (.int 0))) (cstD (.int 0))))) (setM 2 (valR (frzM (callM 2 (consA (locD 2) (consA (frzM (callM 2 (consA (locD 3) (consA (locD 4) (nilA))) [] (Ph_times))) (nilA))) [] (Ph_plus))))) (nopM))
    (fun i ρ => ∃ s3 s4, ρ = ⟨[.val da, .val (rL b), .val (rD (dot i a b)), s3, s4], ob⟩) ((a.zip b).map fun p => .tup [rD p.1, rD p.2]) 0 ⟨[.val da, .val (rL b), .val (rD 0), .un, .un], ob⟩ ⟨_, _, rfl⟩ (by
      rintro j d ρ hd ⟨s3, s4, rfl⟩
      rw [Nat.zero_add] at *
      have hj : j < a.length := by
        have := (List.getElem?_eq_some_iff.mp hd).1
        simp [h] at this
        omega
      have ea := at0_get hj
      have eb := at0_get (l := b) (i := j) (by omega)
      have ed : d = .tup [rD (at0 a j), rD (at0 b j)] := by
        have : (a.zip b)[j]? = some (at0 a j, at0 b j) := by
          rw [List.getElem?_zip_eq_some]
          exact ⟨ea, eb⟩
        rw [List.getElem?_map, this] at hd
        exact (Option.some.inj hd).symm
      subst ed
      have sa := ha _ (at0_mem hj)
      have sb := hb _ (at0_mem (l := b) (i := j) (by omega))
      have sd := Sz.dot (n := j) ha hb (by omega) (by omega)
      have bnd : j * (A + B + 1) + 1 + (A + B) ≤ 67108864 := by
        have : (j + 1) * (A + B + 1) ≤ (a.length + 1) * (A + B + 1) := Nat.mul_le_mul_right _ (by omega)
        rw [Nat.add_mul, Nat.one_mul] at this
        omega
      refine ⟨⟨[.val da, .val (rL b), .val (rD (dot j a b)), .val (rD (at0 a j)), .val (rD (at0 b j))], ob⟩, ⟨[.val da, .val (rL b), .val (rD (dot (j + 1) a b)), .val (rD (at0 a j)), .val (rD (at0 b j))], ob⟩, by simp, .inl ?_, ⟨_, _, rfl⟩⟩
      have hdot : dot (j + 1) a b = dot j a b + at0 a j * at0 b j := rfl
      by_cases c1 : (at0 a j).num = 0
      · have z : at0 a j = 0 := Rat.num_eq_zero.mp c1
        have : dot (j + 1) a b = dot j a b := by rw [hdot, z]; grind
        rw [this]
        simp [rD_num, c1]
      · by_cases c2 : (at0 b j).num = 0
        · have z : at0 b j = 0 := Rat.num_eq_zero.mp c2
          have : dot (j + 1) a b = dot j a b := by rw [hdot, z]; grind
          rw [this]
          simp [rD_num, c1, c2]
        · rw [hdot]
          simp [rD_num, c1, c2, times_ok sa sb (by omega), plus_ok sd (sa.mul sb) bnd])
  refine ⟨s3, s4, ?_⟩
  rw [forM_at, e1, Res.bind_ok, h1, h2]
  simp [h]
theorem sum_of_ok {a b : List Rat} {A B : Nat} {da : D} {ρ : En} (hda : da.items = some (a.map rD)) (h : a.length = b.length) (ha : SzL a A) (hb : SzL b B) (hs : (a.length + 1) * (A + B + 1) + 1 ≤ 67108864) :
    Ph_sum_of [da, rL b] ρ = .ok (.v (rD (dot a.length a b))) ⟨[], ρ.ob⟩ := by
  obtain ⟨s3, s4, e⟩ := sum_of_core hda h ha hb hs _ (rfl : (⟨[.val da, .val (rL b), .val (rD 0), .un, .un], ρ.ob⟩ : En) = _)
  simp only [Ph_sum_of, m_sum_of, callF, seqM_at]
  simp only [setM, valR, cstD, Res.bind_ok, slots0, List.map_cons, List.map_nil, List.length_cons, List.length_nil, rD0]
  rw [if_pos (by simp)]
  rw [show En.set ⟨[SD.val da, SD.val (rL b)] ++ List.replicate (5 - (0 + 1 + 1)) SD.un, ρ.ob⟩ 2 (RV.sd (RV.v (rD 0))) = ⟨[.val da, .val (rL b), .val (rD 0), .un, .un], ρ.ob⟩ from rfl]
  rw [Res.bind_ok]
  dsimp only
  rw [e]
  simp
end LP
set_option maxHeartbeats 200000
namespace LP
open PySem LW
/-- a table: a list of rows that are tuples -/
def tD (T : List (List Rat)) : D := .lst (T.map rT)
def lackRow (r : Rat) (i : Nat) (row : List Rat) (g : Rat) : List Rat := (row.zipIdx.map fun p => (if p.2 = i then r else 0) - p.1) ++ [g]
def lackL (T : List (List Rat)) (r : Rat) (gains : List Rat) : List (List Rat) := T.zipIdx.map fun p => lackRow r p.2 p.1 (at0 gains p.2)
theorem lack_line {r : Rat} {row : List Rat} {i A B : Nat} {s0 s2 s3 s4 s6 s7 s8 : SD} {ob : List OD} (hl : row.length ≤ sizeLine) (hr : Sz r B) (hB : 1 ≤ B) (hrow : SzL row A) (hs : B + A ≤ 67108864) :
    ∃ t7 t8, lcM (enumD (consA (locD 5) (nilA))) (tupU 2 (consG (setU 7) (consG (setU 8) (nilG)))) (yesT) (iteD (tstD (bin2 (purO eqO) (locD 7) (locD 4))) (frzM (callM 2 (consA (locD 1) (consA (locD 8) (nilA))) [] (Ph_less))) (frzM (callM 2 (consA (cstD (.tup [(.int 0), (.int 1)])) (consA (locD 8) (nilA))) [] (Ph_less)))) [7, 8]
      ⟨[s0, .val (rD r), s2, s3, .val (.int (i : Nat)), .val (rT row), s6, s7, s8], ob⟩ = .ok (.o ((row.zipIdx.map fun p => (if p.2 = i then r else 0) - p.1).map rD)) ⟨[s0, .val (rD r), s2, s3, .val (.int (i : Nat)), .val (rT row), s6, t7, t8], ob⟩ := by
  refine ⟨SD.keep (some s7), SD.keep (some s8), ?_⟩
  have key := lcM_map (m := enumD (consA (locD 5) (nilA))) (b := tupU 2 (consG (setU 7) (consG (setU 8) (nilG)))) (el := iteD (tstD (bin2 (purO eqO) (locD 7) (locD 4))) (frzM (callM 2 (consA (locD 1) (consA (locD 8) (nilA))) [] (Ph_less))) (frzM (callM 2 (consA (cstD (.tup [(.int 0), (.int 1)])) (consA (locD 8) (nilA))) [] (Ph_less)))) (vs := [7, 8])
    (e := fun p : Rat × Nat => .tup [.int (p.2 : Nat), rD p.1]) (f := fun p => rD ((if p.2 = i then r else 0) - p.1)) (xs := row.zipIdx) (ρ := ⟨[s0, .val (rD r), s2, s3, .val (.int (i : Nat)), .val (rT row), s6, s7, s8], ob⟩) (ρ1 := ⟨[s0, .val (rD r), s2, s3, .val (.int (i : Nat)), .val (rT row), s6, s7, s8], ob⟩)
    (ρk := ⟨[s0, .val (rD r), s2, s3, .val (.int (i : Nat)), .val (rT row), s6, .un, .un], ob⟩) (ρ2 := ⟨[s0, .val (rD r), s2, s3, .val (.int (i : Nat)), .val (rT row), s6, SD.keep (some s7), SD.keep (some s8)], ob⟩)
    (by simp [enumL_map]) (by simpa using hl) (by simp [En.kills]) (fun p hp => by
      have h1 : Sz p.1 A := hrow _ (List.fst_mem_of_mem_zipIdx hp)
      refine ⟨⟨[s0, .val (rD r), s2, s3, .val (.int (i : Nat)), .val (rT row), s6, .val (.int (p.2 : Nat)), .val (rD p.1)], ob⟩, ⟨[s0, .val (rD r), s2, s3, .val (.int (i : Nat)), .val (rT row), s6, .val (.int (p.2 : Nat)), .val (rD p.1)], ob⟩, by simp, ?_, by simp [En.kills]⟩
      by_cases c : p.2 = i
      · simp [c, less_ok hr h1 hs]
      · have c' : ¬ ((p.2 : Int) = (i : Int)) := by omega
        simp [c, c', rD0, less_ok (Sz.zero.mono hB) h1 hs]) (by simp [En.back])
  rw [key, List.map_map]
  rfl
theorem lackL_length {T : List (List Rat)} {r : Rat} {gains : List Rat} : (lackL T r gains).length = T.length := by simp [lackL]
theorem lackL_get {T : List (List Rat)} {r : Rat} {gains : List Rat} {i : Nat} {row : List Rat} (h : T[i]? = some row) : (lackL T r gains)[i]? = some (lackRow r i row (at0 gains i)) := by
  unfold lackL
  rw [List.getElem?_map, List.getElem?_zipIdx, h]
  simp
theorem take_succ_get {α : Type} {l : List α} {i : Nat} {x : α} (h : l[i]? = some x) : l.take (i + 1) = l.take i ++ [x] := by
  rw [List.take_add_one, h]
  rfl
theorem lacking_ok {T : List (List Rat)} {r : Rat} {gains : List Rat} {A B : Nat} {ρ : En} (hT : ∀ row ∈ T, row.length ≤ 1000 ∧ SzL row A) (hg : gains.length = T.length) (hn : T.length ≤ 1000) (hr : Sz r B) (hB : 1 ≤ B) (hs : B + A ≤ 67108864) :
    Ph_lacking [tD T, rD r, rL gains] ρ = .ok (.o ((lackL T r gains).map rL)) ⟨[], ρ.ob⟩ := by
  have big : (1000 : Nat) ≤ sizeLine := by decide
  obtain ⟨ρ', h1, s4, s5, s6, s7, s8, h2⟩ := forGo_inv (b := tupU 2 (consG (setU 4) (consG (setU 5) (nilG)))) (body := seqM (seqM (setM 6 (lcM (enumD (consA (locD 5) (nilA))) (tupU 2 (consG (setU 7) (consG (setU 8) (nilG)))) (yesT) (iteD (tstD (bin2 (purO eqO) (locD 7) (locD 4))) (frzM (callM 2 (consA (locD 1) (consA (locD 8) (nilA))) [] (Ph_less))) (frzM (callM 2 (consA (cstD (.tup [(.int 0), (.int 1)])) (consA (locD 8) (nilA))) [] (Ph_less)))) [7, 8])) (letM 6)) (exprM (mtO 3 appF (consA (bin2 (purO addL) (locD 6) (frzM (lstR (consA (bin2 (purO ixO) (locD 2) (locD 4)) (nilA))))) (nilA)))))
    (fun i ρ' => ∃ s4 s5 s6 s7 s8, ρ' = ⟨[.val (tD T), .val (rD r), .val (rL gains), .own (((lackL T r gains).take i).map rL), s4, s5, s6, s7, s8], ρ.ob⟩) (T.zipIdx.map fun p => .tup [.int (p.2 : Nat), rT p.1]) 0 ⟨[.val (tD T), .val (rD r), .val (rL gains), .own [], .un, .un, .un, .un, .un], ρ.ob⟩ ⟨_, _, _, _, _, rfl⟩ (by
      rintro j d ρ2 hd ⟨s4, s5, s6, s7, s8, rfl⟩
      rw [Nat.zero_add] at *
      rw [List.getElem?_map, List.getElem?_zipIdx] at hd
      cases hrow : T[j]? with
      | none => rw [hrow] at hd; cases hd
      | some row =>
        rw [hrow] at hd
        have ed := (Option.some.inj hd).symm
        subst ed
        simp only [Nat.add_comm 0 j] at *
        have hj : j < T.length := (List.getElem?_eq_some_iff.mp hrow).1
        obtain ⟨q1, q2⟩ := hT row (List.mem_of_getElem? hrow)
        obtain ⟨t7, t8, hline⟩ := lack_line (s0 := .val (tD T)) (s2 := .val (rL gains)) (s3 := .own (((lackL T r gains).take j).map rL)) (s4 := s4) (s6 := s6) (s7 := s7) (s8 := s8) (ob := ρ.ob) (i := j) (Nat.le_trans q1 big) hr hB q2 hs
        have hgj := at0_get (l := gains) (i := j) (by omega)
        refine ⟨⟨[.val (tD T), .val (rD r), .val (rL gains), .own (((lackL T r gains).take j).map rL), .val (.int (j : Nat)), .val (rT row), s6, s7, s8], ρ.ob⟩, ⟨[.val (tD T), .val (rD r), .val (rL gains), .own (((lackL T r gains).take (j + 1)).map rL), .val (.int (j : Nat)), .val (rT row), .val (rL (row.zipIdx.map fun p => (if p.2 = j then r else 0) - p.1)), t7, t8], ρ.ob⟩, by simp, .inl ?_, ⟨_, _, _, _, _, rfl⟩⟩
        have hix : L2.atI (gains.map rD) (j : Int) = some (rD (at0 gains j)) := L2.atI_nat (by rw [List.getElem?_map, hgj]; rfl)
        have hlen : ((row.zipIdx.map fun p => (if p.2 = j then r else 0) - p.1).map rD).length + [rD (at0 gains j)].length ≤ sizeLine := by
          simp
          have : (1001 : Nat) ≤ sizeLine := by decide
          omega
        have happ : ((lackL T r gains).take j).length < sizeLine := by
          rw [List.length_take]
          have : (1001 : Nat) ≤ sizeLine := by decide
          omega
        have hnext : ((lackL T r gains).take (j + 1)).map rL = ((lackL T r gains).take j).map rL ++ [rL (lackRow r j row (at0 gains j))] := by
          rw [take_succ_get (lackL_get hrow), List.map_append]
          rfl
        rw [hnext]
        simp only [seqM_at, setM, hline, Res.bind_ok]
        have hadd : addL (rL (row.zipIdx.map fun p => (if p.2 = j then r else 0) - p.1)) (.lst [rD (at0 gains j)]) = some (rL (lackRow r j row (at0 gains j))) := by
          unfold addL rL
          dsimp only
          rw [if_pos hlen]
          congr 2
          rw [lackRow, List.map_append]
          rfl
        simp [rL, hix] at hadd ⊢
        simp [hadd]
        rw [if_pos (by simpa using happ)]
        rfl)
  rw [Nat.zero_add, List.length_map, List.length_zipIdx] at h2
  have hfull : (lackL T r gains).take T.length = lackL T r gains := by rw [← lackL_length (r := r) (gains := gains)]; exact List.take_length
  rw [hfull] at h2
  have e1 : enumD (consA (locD 0) (nilA)) ⟨[.val (tD T), .val (rD r), .val (rL gains), .own [], .un, .un, .un, .un, .un], ρ.ob⟩ = .ok (T.zipIdx.map fun p => .tup [.int (p.2 : Nat), rT p.1]) ⟨[.val (tD T), .val (rD r), .val (rL gains), .own [], .un, .un, .un, .un, .un], ρ.ob⟩ := by
    simp [tD, enumL_map]
  refine callF_rt (s := [.val (tD T), .val (rD r), .val (rL gains), .un, s4, s5, s6, s7, s8]) ?_
  rw [m_lacking, seqM_nx (ρ1 := ⟨[.val (tD T), .val (rD r), .val (rL gains), .own [], .un, .un, .un, .un, .un], ρ.ob⟩) (by simp), seqM_nx (forM_ok e1 h1), h2]
  simp
end LP
set_option maxHeartbeats 200000
namespace LP
open PySem LW
def rowR (R : List (List Rat)) (i : Nat) : List Rat := R.getD i []
def ent (R : List (List Rat)) (i j : Nat) : Rat := at0 (rowR R i) j
theorem row_get {R : List (List Rat)} {i : Nat} (h : i < R.length) : R[i]? = some (rowR R i) := by
  unfold rowR
  rw [List.getD_eq_getElem?_getD]
  simp [h]
theorem row_of {R : List (List Rat)} {i : Nat} {l : List Rat} (h : R[i]? = some l) : rowR R i = l := by
  unfold rowR
  rw [List.getD_eq_getElem?_getD, h]
  rfl
theorem row_mem {R : List (List Rat)} {i : Nat} (h : i < R.length) : rowR R i ∈ R := List.mem_of_getElem? (row_get h)
/-- a row times a vector -/
def lin (m : Nat) (R : List (List Rat)) (i : Nat) (x : Nat → Rat) : Rat := sumN m fun j => ent R i j * x j
structure Stg (n : Nat) (R0 R : List (List Rat)) (at_ : Nat) : Prop where
  len : R.length = n
  row : ∀ i, i < n → (rowR R i).length = n + 1
  off : ∀ i j, i < n → j < n → i ≠ j → ent R i j ≤ 0
  gain : ∀ i, i < n → 0 < ent R i n
  piv : ∀ c, c < at_ → 0 < ent R c c
  low : ∀ c i, c < at_ → c < i → i < n → ent R i c = 0
  same : ∀ (x : Nat → Rat) (i : Nat), i < n → (∀ c, c < i → lin (n + 1) R c x = 0) → lin (n + 1) R0 i x = lin (n + 1) R i x
/-- row b less m times row a -/
def rowOp (R : List (List Rat)) (b a : Nat) (m : Rat) : List (List Rat) := R.set b (List.zipWith (fun p q => p - m * q) (rowR R b) (rowR R a))
theorem rowOp_row {R : List (List Rat)} {b a i : Nat} {m : Rat} (hb : b < R.length) : rowR (rowOp R b a m) i = if i = b then List.zipWith (fun p q => p - m * q) (rowR R b) (rowR R a) else rowR R i := by
  unfold rowOp rowR
  rw [List.getD_eq_getElem?_getD, List.getElem?_set]
  by_cases c : b = i
  · subst c
    simp [hb]
  · have c' : ¬ i = b := fun e => c e.symm
    rw [if_neg c, if_neg c', List.getD_eq_getElem?_getD]
theorem zip_at {l r : List Rat} {m : Rat} {j : Nat} (h : l.length = r.length) (hj : j < l.length) : at0 (List.zipWith (fun p q => p - m * q) l r) j = at0 l j - m * at0 r j := by
  refine at0_of ?_
  rw [List.getElem?_zipWith, at0_get hj, at0_get (l := r) (by omega)]
theorem rowOp_ent {R : List (List Rat)} {b a i j : Nat} {m : Rat} (hb : b < R.length) (hl : (rowR R b).length = (rowR R a).length) (hj : j < (rowR R b).length) : ent (rowOp R b a m) i j = if i = b then ent R b j - m * ent R a j else ent R i j := by
  unfold ent
  rw [rowOp_row hb]
  by_cases c : i = b
  · rw [if_pos c, if_pos c, zip_at hl hj]
  · rw [if_neg c, if_neg c]
theorem rowOp_lin {R : List (List Rat)} {b a i n : Nat} {m : Rat} {x : Nat → Rat} (hb : b < R.length) (hl : (rowR R b).length = (rowR R a).length) (hn : n ≤ (rowR R b).length) : lin n (rowOp R b a m) i x = if i = b then lin n R b x - m * lin n R a x else lin n R i x := by
  unfold lin
  by_cases c : i = b
  · rw [if_pos c]
    have h1 : sumN n (fun j => ent (rowOp R b a m) i j * x j) = sumN n (fun j => ent R b j * x j + (-m) * (ent R a j * x j)) := sumN_congr fun j hj => by
      rw [rowOp_ent hb hl (by omega), if_pos c]
      grind
    rw [h1, sumN_add, sumN_mul]
    grind
  · rw [if_neg c]
    exact sumN_congr fun j hj => by rw [rowOp_ent hb hl (by omega), if_neg c]
theorem nonpos_div {a b : Rat} (ha : a ≤ 0) (hb : 0 < b) : a / b ≤ 0 := by
  rw [Rat.div_def]
  have h1 : 0 < b⁻¹ := Rat.inv_pos.mpr hb
  have h2 := Rat.mul_nonneg (a := -a) (b := b⁻¹) (by grind) (by grind)
  grind
theorem mul_nn {a b : Rat} (ha : a ≤ 0) (hb : b ≤ 0) : 0 ≤ a * b := by
  have := Rat.mul_nonneg (a := -a) (b := -b) (by grind) (by grind)
  grind
theorem mul_np {a b : Rat} (ha : a ≤ 0) (hb : 0 ≤ b) : a * b ≤ 0 := by
  have := Rat.mul_nonneg (a := -a) (b := b) (by grind) (by grind)
  grind
theorem Stg.op {n at_ b : Nat} {R0 R : List (List Rat)} (S : Stg n R0 R at_) (hp : 0 < ent R at_ at_) (hab : at_ < b) (hb : b < n) : Stg n R0 (rowOp R b at_ (ent R b at_ / ent R at_ at_)) at_ ∧ ent (rowOp R b at_ (ent R b at_ / ent R at_ at_)) b at_ = 0 := by
  have hb' : b < R.length := by rw [S.len]; exact hb
  have l1 := S.row b hb
  have l2 := S.row at_ (by omega)
  have hl : (rowR R b).length = (rowR R at_).length := by omega
  have hm : ent R b at_ / ent R at_ at_ ≤ 0 := nonpos_div (S.off b at_ hb (by omega) (by omega)) hp
  have he : ∀ i j, j < n + 1 → ent (rowOp R b at_ (ent R b at_ / ent R at_ at_)) i j = if i = b then ent R b j - ent R b at_ / ent R at_ at_ * ent R at_ j else ent R i j := fun i j hj => rowOp_ent hb' hl (by omega)
  have hL : ∀ i x, lin (n + 1) (rowOp R b at_ (ent R b at_ / ent R at_ at_)) i x = if i = b then lin (n + 1) R b x - ent R b at_ / ent R at_ at_ * lin (n + 1) R at_ x else lin (n + 1) R i x := fun i x => rowOp_lin hb' hl (by omega)
  have hz : ent R b at_ - ent R b at_ / ent R at_ at_ * ent R at_ at_ = 0 := by
    rw [Rat.div_mul_cancel (by grind)]
    grind
  refine ⟨⟨by unfold rowOp; rw [List.length_set]; exact S.len, fun i hi => ?_, fun i j hi hj hij => ?_, fun i hi => ?_, fun c hc => ?_, fun c i hc hci hi => ?_, fun x i hi hx => ?_⟩, ?_⟩
  · rw [rowOp_row hb']
    by_cases c : i = b
    · rw [if_pos c, List.length_zipWith]; omega
    · rw [if_neg c]; exact S.row i hi
  · rw [he i j (by omega)]
    by_cases c : i = b
    · rw [if_pos c]
      subst c
      by_cases c2 : j = at_
      · subst c2; rw [hz]; grind
      · have := S.off i j hi hj hij
        have h2 := mul_nn hm (S.off at_ j (by omega) hj (fun e => c2 e.symm))
        grind
    · rw [if_neg c]; exact S.off i j hi hj hij
  · rw [he i n (by omega)]
    by_cases c : i = b
    · rw [if_pos c]
      have h1 := S.gain b hb
      have h2 := mul_np hm (Rat.le_of_lt (S.gain at_ (by omega)))
      grind
    · rw [if_neg c]; exact S.gain i hi
  · rw [he c c (by omega), if_neg (by omega)]
    exact S.piv c hc
  · rw [he i c (by omega)]
    by_cases d : i = b
    · rw [if_pos d, S.low c b hc (by omega) hb, S.low c at_ hc hc (by omega)]
      grind
    · rw [if_neg d]; exact S.low c i hc hci hi
  · have hx' : ∀ c, c < i → lin (n + 1) R c x = 0 := fun c hc => by
      have h1 := hx c hc
      rw [hL] at h1
      by_cases d : c = b
      · rw [if_pos d] at h1
        subst d
        have h2 := hx at_ (by omega)
        rw [hL, if_neg (by omega)] at h2
        rw [h2] at h1
        grind
      · rw [if_neg d] at h1; exact h1
    rw [S.same x i hi hx', hL]
    by_cases d : i = b
    · rw [if_pos d, hx' at_ (by omega), d]
      grind
    · rw [if_neg d]
  · rw [he b at_ (by omega), if_pos rfl]
    exact hz
theorem Stg.next {n at_ : Nat} {R0 R : List (List Rat)} (S : Stg n R0 R at_) (hp : 0 < ent R at_ at_) (hl : ∀ i, at_ < i → i < n → ent R i at_ = 0) : Stg n R0 R (at_ + 1) :=
  ⟨S.len, S.row, S.off, S.gain, fun c hc => by
    by_cases d : c = at_
    · rw [d]; exact hp
    · exact S.piv c (by omega), fun c i hc hci hi => by
    by_cases d : c = at_
    · rw [d] at hci ⊢; exact hl i hci hi
    · exact S.low c i (by omega) hci hi, S.same⟩
/-- where the table's part is nought nothing is to be done -/
theorem div_zero_iff {a b : Rat} (hb : 0 < b) : a / b = 0 ↔ a = 0 := by
  constructor
  · intro h
    have := Rat.div_mul_cancel (a := a) (b := b) (by grind)
    rw [h] at this
    grind
  · intro h
    rw [h, Rat.div_def]
    grind
theorem lackRow_length {r : Rat} {i : Nat} {row : List Rat} {g : Rat} : (lackRow r i row g).length = row.length + 1 := by simp [lackRow]
theorem lackRow_at {r : Rat} {i j : Nat} {row : List Rat} {g : Rat} (hj : j < row.length) : at0 (lackRow r i row g) j = (if j = i then r else 0) - at0 row j := by
  refine at0_of ?_
  unfold lackRow
  rw [List.getElem?_append_left (by simpa using hj), List.getElem?_map, List.getElem?_zipIdx, at0_get hj]
  simp
theorem lackRow_gain {r : Rat} {i : Nat} {row : List Rat} {g : Rat} : at0 (lackRow r i row g) row.length = g := by
  refine at0_of ?_
  unfold lackRow
  rw [List.getElem?_append_right (by simp)]
  simp
theorem lackL_row {T : List (List Rat)} {r : Rat} {gains : List Rat} {i : Nat} (h : i < T.length) : rowR (lackL T r gains) i = lackRow r i (rowR T i) (at0 gains i) := row_of (lackL_get (row_get h))
/-- a square table of parts that are not below nought -/
structure Tab (n : Nat) (T : List (List Rat)) : Prop where
  len : T.length = n
  row : ∀ i, i < n → (rowR T i).length = n
  nn : ∀ i j, i < n → j < n → 0 ≤ ent T i j
theorem Stg.start {n : Nat} {T : List (List Rat)} {r : Rat} {gains : List Rat} (h : Tab n T) (hg : ∀ i, i < n → 0 < at0 gains i) : Stg n (lackL T r gains) (lackL T r gains) 0 := by
  have hr : ∀ i, i < n → rowR (lackL T r gains) i = lackRow r i (rowR T i) (at0 gains i) := fun i hi => lackL_row (by rw [h.len]; exact hi)
  refine ⟨by rw [lackL_length]; exact h.len, fun i hi => by rw [hr i hi, lackRow_length, h.row i hi], fun i j hi hj hij => ?_, fun i hi => ?_, fun c hc => by omega, fun c i hc => by omega, fun x i hi _ => rfl⟩
  · unfold ent
    rw [hr i hi, lackRow_at (by rw [h.row i hi]; exact hj), if_neg (fun e => hij e.symm)]
    have := h.nn i j hi hj
    unfold ent at this
    grind
  · unfold ent
    rw [hr i hi]
    have e := lackRow_gain (r := r) (i := i) (row := rowR T i) (g := at0 gains i)
    rw [h.row i hi] at e
    rw [e]
    exact hg i hi
end LP
set_option maxHeartbeats 200000
namespace LP
open PySem LW
theorem atI_map {α : Type} {l : List α} {e : α → D} {i : Nat} {x : α} (h : l[i]? = some x) : L2.atI (l.map e) (i : Int) = some (e x) := L2.atI_nat (by rw [List.getElem?_map, h]; rfl)
theorem ixN_nat {n i : Nat} (h : i < n) : L2.ixN n (i : Int) = some i := by
  unfold L2.ixN
  rw [if_pos (by omega), if_pos (by omega)]
  rfl
theorem rD_inj {a b : Rat} : (a.num = b.num ∧ a.den = b.den) ↔ a = b := ⟨fun h => Rat.ext h.1 h.2, fun h => by rw [h]; exact ⟨rfl, rfl⟩⟩
theorem neO_rD {a b : Rat} : neO (rD a) (rD b) = some (.bl (!decide (a = b))) := by
  have e : PyData.eqv (D.py (rD a)) (D.py (rD b)) = decide (a = b) := by
    have : PyData.eqv (D.py (rD a)) (D.py (rD b)) = (decide (a.num = b.num) && decide (a.den = b.den)) := by
      simp [rD, D.py, D.pyL, PyData.eqv, PyData.eqvAll]
      rw [Bool.eq_iff_iff]
      simp
      omega
    rw [this]
    by_cases c : a = b
    · subst c; simp
    · have : ¬ (a.num = b.num ∧ a.den = b.den) := fun z => c (rD_inj.mp z)
      simp [c]
      exact fun h1 h2 => c (rD_inj.mp ⟨h1, h2⟩)
  unfold neO
  rw [if_pos ⟨by simp [rD, D.okd, D.okdL], by simp [rD, D.okd, D.okdL]⟩, e]
theorem ordI_le {a : Rat} : decide (ordI a 0 ≤ 0) = decide (a ≤ 0) := by
  unfold ordI
  by_cases c : 0 < a
  · rw [if_pos c]
    have : ¬ a ≤ 0 := by grind
    simp [this]
  · rw [if_neg c]
    have : a ≤ 0 := by grind
    split <;> simp [this]
theorem ent_get {R : List (List Rat)} {i j : Nat} (hj : j < (rowR R i).length) : (rowR R i)[j]? = some (ent R i j) := at0_get hj
/-- what led's rows are while column at_ is cleared up to row b -/
structure Sta (n : Nat) (R0 R : List (List Rat)) (at_ b B : Nat) : Prop where
  s : Stg n R0 R at_
  up : ∀ i, i < n → (i ≤ at_ ∨ b ≤ i) → SzL (rowR R i) B
  lo : ∀ i, at_ < i → i < b → i < n → SzL (rowR R i) (4 * B + 1)
  z : ∀ i, at_ < i → i < b → i < n → ent R i at_ = 0
theorem Sta.sz {n at_ b B i j : Nat} {R0 R : List (List Rat)} (S : Sta n R0 R at_ b B) (hi : i < n) (hj : j < n + 1) (h : i ≤ at_ ∨ b ≤ i) : Sz (ent R i j) B := S.up i hi h _ (at0_mem (by rw [S.s.row i hi]; exact hj))
theorem zipWith_sz {l r : List Rat} {m : Rat} {A B M : Nat} (ha : SzL l A) (hb : SzL r B) (hm : Sz m M) : SzL (List.zipWith (fun p q => p - m * q) l r) (A + (M + B) + 1) := by
  intro x hx
  rw [← List.map_uncurry_zip_eq_zipWith] at hx
  obtain ⟨p, hp, rfl⟩ := List.mem_map.mp hx
  exact (ha _ (List.of_mem_zip hp).1).sub (hm.mul (hb _ (List.of_mem_zip hp).2))
theorem Sta.step {n at_ b B : Nat} {R0 R : List (List Rat)} (S : Sta n R0 R at_ b B) (hp : 0 < ent R at_ at_) (hab : at_ < b) (hb : b < n) : Sta n R0 (rowOp R b at_ (ent R b at_ / ent R at_ at_)) at_ (b + 1) B := by
  obtain ⟨h1, h2⟩ := S.s.op hp hab hb
  have hb' : b < R.length := by rw [S.s.len]; exact hb
  have hrow : ∀ i, rowR (rowOp R b at_ (ent R b at_ / ent R at_ at_)) i = if i = b then List.zipWith (fun p q => p - ent R b at_ / ent R at_ at_ * q) (rowR R b) (rowR R at_) else rowR R i := fun i => rowOp_row hb'
  have hm : Sz (ent R b at_ / ent R at_ at_) (B + B) := (S.sz hb (by omega) (.inr (Nat.le_refl _))).div (S.sz (by omega) (by omega) (.inl (Nat.le_refl _))) (by grind)
  have hnew := zipWith_sz (S.up b hb (.inr (Nat.le_refl _))) (S.up at_ (by omega) (.inl (Nat.le_refl _))) hm
  refine ⟨h1, fun i hi h => ?_, fun i h3 h4 hi => ?_, fun i h3 h4 hi => ?_⟩
  · rw [hrow, if_neg (by omega)]
    exact S.up i hi (by omega)
  · rw [hrow]
    by_cases c : i = b
    · rw [if_pos c]
      exact hnew.mono (by omega)
    · rw [if_neg c]; exact S.lo i h3 (by omega) hi
  · by_cases c : i = b
    · rw [c]; exact h2
    · have hl : (rowR R b).length = (rowR R at_).length := by rw [S.s.row b hb, S.s.row at_ (by omega)]
      rw [rowOp_ent hb' hl (by rw [S.s.row b hb]; omega), if_neg c]
      exact S.z i h3 (by omega) hi
theorem Sta.skip {n at_ b B : Nat} {R0 R : List (List Rat)} (S : Sta n R0 R at_ b B) (hz : ent R b at_ = 0) (hab : at_ < b) (hb : b < n) : Sta n R0 R at_ (b + 1) B := by
  refine ⟨S.s, fun i hi h => S.up i hi (by omega), fun i h3 h4 hi => ?_, fun i h3 h4 hi => ?_⟩
  · by_cases c : i = b
    · exact (S.up i hi (.inr (by omega))).mono (by omega)
    · exact S.lo i h3 (by omega) hi
  · by_cases c : i = b
    · rw [c]; exact hz
    · exact S.z i h3 (by omega) hi
theorem Sta.next {n at_ B : Nat} {R0 R : List (List Rat)} (S : Sta n R0 R at_ n B) (hp : 0 < ent R at_ at_) (ha : at_ < n) : Sta n R0 R (at_ + 1) (at_ + 2) (5 * B) := by
  have hB : 1 ≤ B := (S.sz ha (j := 0) (by omega) (.inl (Nat.le_refl _))).one_le
  refine ⟨S.s.next hp fun i h1 h2 => S.z i h1 h2 h2, fun i hi h => ?_, fun i h1 h2 hi => by omega, fun i h1 h2 hi => by omega⟩
  by_cases c : i ≤ at_
  · exact (S.up i hi (.inl c)).mono (by omega)
  · exact (S.lo i (by omega) hi hi).mono (by omega)
noncomputable abbrev ledIn : M Fl := (seqM (setM 6 (valR (frzM (callM 2 (consA (bin2 (purO ixO) (ixOwn 3 (locD 5)) (locD 4)) (consA (bin2 (purO ixO) (ixOwn 3 (locD 4)) (locD 4)) (nilA))) [] (Ph_over))))) (ifM (tstD (bin2 (purO neO) (locD 6) (cstD (.tup [(.int 0), (.int 1)])))) (asgT (frzM (callM 3 (consA (ixOwn 3 (locD 5)) (consA (ixOwn 3 (locD 4)) (consA (locD 6) (nilA)))) [] (Ph_without))) (setIx 3 (locD 5))) (nopM)))
theorem ledIn_ok {n at_ b B : Nat} {R0 R : List (List Rat)} {s0 s1 s2 s6 : SD} {ob : List OD} (S : Sta n R0 R at_ b B) (hp : 0 < ent R at_ at_) (hab : at_ < b) (hb : b < n) (hn : n ≤ 100) (hs : 4 * B ≤ 67108864) :
    ∃ R' s6', ledIn ⟨[s0, s1, s2, .own (R.map rL), .val (.int (at_ : Nat)), .val (.int (b : Nat)), s6], ob⟩ = .ok .nx ⟨[s0, s1, s2, .own (R'.map rL), .val (.int (at_ : Nat)), .val (.int (b : Nat)), s6'], ob⟩ ∧ Sta n R0 R' at_ (b + 1) B ∧ rowR R' at_ = rowR R at_ := by
  have hb' : b < R.length := by rw [S.s.len]; exact hb
  have ha' : at_ < R.length := by omega
  have lb := S.s.row b hb
  have la := S.s.row at_ (by omega)
  have g1 := atI_map (e := rL) (row_get hb')
  have g2 := atI_map (e := rL) (row_get ha')
  have g3 := atI_map (e := rD) (ent_get (R := R) (i := b) (j := at_) (by omega))
  have g4 := atI_map (e := rD) (ent_get (R := R) (i := at_) (j := at_) (by omega))
  have s1' := S.sz (i := b) (j := at_) hb (by omega) (.inr (Nat.le_refl _))
  have s2' := S.sz (i := at_) (j := at_) (by omega) (by omega) (.inl (Nat.le_refl _))
  have hov : ∀ ρ : En, Ph_over [rD (ent R b at_), rD (ent R at_ at_)] ρ = .ok (.v (rD (ent R b at_ / ent R at_ at_))) ⟨[], ρ.ob⟩ := fun ρ => over_ok s1' s2' (by omega) (by grind)
  have hne : neO (rD (ent R b at_ / ent R at_ at_)) (rD 0) = some (.bl (!decide (ent R b at_ / ent R at_ at_ = 0))) := neO_rD
  have hm : Sz (ent R b at_ / ent R at_ at_) (B + B) := s1'.div s2' (by grind)
  have ix1 : ixO (rL (rowR R b)) (.int (at_ : Nat)) = some (rD (ent R b at_)) := g3
  have ix2 : ixO (rL (rowR R at_)) (.int (at_ : Nat)) = some (rD (ent R at_ at_)) := g4
  have first : ∀ s, setM 6 (valR (frzM (callM 2 (consA (bin2 (purO ixO) (ixOwn 3 (locD 5)) (locD 4)) (consA (bin2 (purO ixO) (ixOwn 3 (locD 4)) (locD 4)) (nilA))) [] (Ph_over)))) ⟨[s0, s1, s2, .own (R.map rL), .val (.int (at_ : Nat)), .val (.int (b : Nat)), s], ob⟩ = .ok .nx ⟨[s0, s1, s2, .own (R.map rL), .val (.int (at_ : Nat)), .val (.int (b : Nat)), .val (rD (ent R b at_ / ent R at_ at_))], ob⟩ := fun s => by
    simp [g1, g2, ix1, ix2, hov]
  by_cases c : ent R b at_ / ent R at_ at_ = 0
  · refine ⟨R, .val (rD (ent R b at_ / ent R at_ at_)), ?_, S.skip ((div_zero_iff hp).mp c) hab hb, rfl⟩
    have hne0 : neO (rD 0) (rD 0) = some (.bl false) := by rw [neO_rD]; simp
    rw [ledIn, seqM_nx (first s6)]
    simp [rD0, c, hne0]
  · have big : (101 : Nat) ≤ sizeLine := by decide
    have hw : ∀ ρ : En, Ph_without [rL (rowR R b), rL (rowR R at_), rD (ent R b at_ / ent R at_ at_)] ρ = .ok (.o ((List.zipWith (fun p q => p - ent R b at_ / ent R at_ at_ * q) (rowR R b) (rowR R at_)).map rD)) ⟨[], ρ.ob⟩ := fun ρ =>
      without_ok (by omega) (by omega) (S.up b hb (.inr (Nat.le_refl _))) (S.up at_ (by omega) (.inl (Nat.le_refl _))) hm (by omega)
    refine ⟨rowOp R b at_ (ent R b at_ / ent R at_ at_), .val (rD (ent R b at_ / ent R at_ at_)), ?_, S.step hp hab hb, by rw [rowOp_row hb', if_neg (by omega)]⟩
    rw [ledIn, seqM_nx (first s6)]
    simp [rD0, hne, c, g1, g2, hw, ixN_nat hb']
    rw [rowOp, List.map_set]
    simp [rL]
noncomputable abbrev ledOut : M Fl := (seqM (ifM (tstD (bin2 (purO leI) (frzM (callM 2 (consA (bin2 (purO ixO) (ixOwn 3 (locD 4)) (locD 4)) (consA (cstD (.tup [(.int 0), (.int 1)])) (nilA))) [] (Ph_order))) (cstD (.int 0)))) (seqM (letM 3) (retM' (valR (tupD (consA (locD 4) (consA (locD 3) (nilA))))))) (nopM)) (forM (rng2 (consA (bin2 (purO addI) (locD 4) (cstD (.int 1))) (consA (frzM (cbO 3 lenS)) (nilA)))) (setU 5) ledIn))
/-- how led ends at column far -/
theorem ledOut_ok {n at_ B : Nat} {R0 R : List (List Rat)} {s0 s1 s2 s5 s6 : SD} {ob : List OD} (S : Sta n R0 R at_ (at_ + 1) B) (ha : at_ < n) (hn : n ≤ 100) (hs : 4 * B ≤ 67108864) :
    (∃ R' s5' s6', ledOut ⟨[s0, s1, s2, .own (R.map rL), .val (.int (at_ : Nat)), s5, s6], ob⟩ = .ok .nx ⟨[s0, s1, s2, .own (R'.map rL), .val (.int (at_ : Nat)), s5', s6'], ob⟩ ∧ Sta n R0 R' (at_ + 1) (at_ + 2) (5 * B)) ∨
    (∃ s', ledOut ⟨[s0, s1, s2, .own (R.map rL), .val (.int (at_ : Nat)), s5, s6], ob⟩ = .ok (.rt (.v (.tup [.int (at_ : Nat), .lst (R.map rL)]))) ⟨s', ob⟩ ∧ ent R at_ at_ ≤ 0) := by
  have ha' : at_ < R.length := by rw [S.s.len]; exact ha
  have la := S.s.row at_ ha
  have g2 := atI_map (e := rL) (row_get ha')
  have ix2 : ixO (rL (rowR R at_)) (.int (at_ : Nat)) = some (rD (ent R at_ at_)) := atI_map (e := rD) (ent_get (R := R) (i := at_) (j := at_) (by omega))
  have s2' := S.sz (i := at_) (j := at_) ha (by omega) (.inl (Nat.le_refl _))
  have hB := s2'.one_le
  have ho : ∀ ρ : En, Ph_order [rD (ent R at_ at_), rD 0] ρ = .ok (.v (.int (ordI (ent R at_ at_) 0))) ⟨[], ρ.ob⟩ := fun ρ => order_ok s2' (Sz.zero.mono hB) (by omega)
  by_cases c : ent R at_ at_ ≤ 0
  · refine .inr ⟨[s0, s1, s2, .val (.lst (R.map rL)), .val (.int (at_ : Nat)), s5, s6], ?_, c⟩
    have hd : (ordI (ent R at_ at_) 0 ≤ 0) := by have := ordI_le (a := ent R at_ at_); rw [decide_eq_true c] at this; exact of_decide_eq_true this
    have q : ifM (tstD (bin2 (purO leI) (frzM (callM 2 (consA (bin2 (purO ixO) (ixOwn 3 (locD 4)) (locD 4)) (consA (cstD (.tup [(.int 0), (.int 1)])) (nilA))) [] (Ph_order))) (cstD (.int 0)))) (seqM (letM 3) (retM' (valR (tupD (consA (locD 4) (consA (locD 3) (nilA))))))) (nopM) ⟨[s0, s1, s2, .own (R.map rL), .val (.int (at_ : Nat)), s5, s6], ob⟩ = .ok (.rt (.v (.tup [.int (at_ : Nat), .lst (R.map rL)]))) ⟨[s0, s1, s2, .val (.lst (R.map rL)), .val (.int (at_ : Nat)), s5, s6], ob⟩ := by
      simp [g2, ix2, rD0, ho, hd]
    rw [ledOut, seqM_rt q]
  · have hp : 0 < ent R at_ at_ := by grind
    have hd : ¬ (ordI (ent R at_ at_) 0 ≤ 0) := fun z => by have := ordI_le (a := ent R at_ at_); rw [decide_eq_true z] at this; exact c (of_decide_eq_true this.symm)
    have e1 : rng2 (consA (bin2 (purO addI) (locD 4) (cstD (.int 1))) (consA (frzM (cbO 3 lenS)) (nilA))) ⟨[s0, s1, s2, .own (R.map rL), .val (.int (at_ : Nat)), s5, s6], ob⟩ = .ok ((List.range' (at_ + 1) (n - (at_ + 1))).map fun i => .int (i : Nat)) ⟨[s0, s1, s2, .own (R.map rL), .val (.int (at_ : Nat)), s5, s6], ob⟩ := by
      exact rng2_ok (by simp [S.s.len]) (by omega) (by omega)
    obtain ⟨ρ', h1, R', s5', s6', h2, S', h3⟩ := forGo_inv (b := setU 5) (body := ledIn) (fun i ρ' => ∃ R' s5' s6', ρ' = ⟨[s0, s1, s2, .own (R'.map rL), .val (.int (at_ : Nat)), s5', s6'], ob⟩ ∧ Sta n R0 R' at_ (at_ + 1 + i) B ∧ rowR R' at_ = rowR R at_) ((List.range' (at_ + 1) (n - (at_ + 1))).map fun i => .int (i : Nat)) 0 ⟨[s0, s1, s2, .own (R.map rL), .val (.int (at_ : Nat)), s5, s6], ob⟩ ⟨R, _, _, rfl, S, rfl⟩ (by
        rintro j d ρ2 hd2 ⟨R', s5', s6', rfl, S', h3⟩
        rw [Nat.zero_add] at *
        have hj : j < n - (at_ + 1) := by simpa using (List.getElem?_eq_some_iff.mp hd2).1
        have ed : d = .int ((at_ + 1 + j : Nat) : Int) := by
          rw [List.getElem?_map, List.getElem?_range' hj] at hd2
          have := (Option.some.inj hd2).symm
          rw [this]
          simp
        subst ed
        have hp' : 0 < ent R' at_ at_ := by unfold ent; rw [h3]; exact hp
        obtain ⟨R2, s62, q1, q2, q3⟩ := ledIn_ok (s0 := s0) (s1 := s1) (s2 := s2) (s6 := s6') (ob := ob) S' hp' (by omega) (by omega) hn hs
        exact ⟨⟨[s0, s1, s2, .own (R'.map rL), .val (.int (at_ : Nat)), .val (.int ((at_ + 1 + j : Nat) : Int)), s6'], ob⟩, _, by simp, .inl q1, R2, _, _, rfl, q2, q3.trans h3⟩)
    rw [Nat.zero_add, List.length_map, List.length_range'] at S'
    have S'' : Sta n R0 R' at_ n B := by rw [show at_ + 1 + (n - (at_ + 1)) = n by omega] at S'; exact S'
    refine .inl ⟨R', s5', s6', ?_, S''.next (by unfold ent; rw [h3]; exact hp) ha⟩
    have q : ifM (tstD (bin2 (purO leI) (frzM (callM 2 (consA (bin2 (purO ixO) (ixOwn 3 (locD 4)) (locD 4)) (consA (cstD (.tup [(.int 0), (.int 1)])) (nilA))) [] (Ph_order))) (cstD (.int 0)))) (seqM (letM 3) (retM' (valR (tupD (consA (locD 4) (consA (locD 3) (nilA))))))) (nopM) ⟨[s0, s1, s2, .own (R.map rL), .val (.int (at_ : Nat)), s5, s6], ob⟩ = .ok .nx ⟨[s0, s1, s2, .own (R.map rL), .val (.int (at_ : Nat)), s5, s6], ob⟩ := by
      simp [g2, ix2, rD0, ho, hd]
    rw [ledOut, seqM_nx q, forM_ok e1 h1, h2]
end LP
set_option maxHeartbeats 200000
namespace LP
open PySem LW
theorem Sta.start {n B : Nat} {R : List (List Rat)} (S : Stg n R R 0) (h : ∀ i, i < n → SzL (rowR R i) B) : Sta n R R 0 1 B :=
  ⟨S, fun i hi _ => h i hi, fun i h1 h2 hi => by omega, fun i h1 h2 hi => by omega⟩
/-- where led stops: at column far (far = n: it went through) -/
structure Led (n : Nat) (R0 R : List (List Rat)) (far B : Nat) : Prop where
  s : Stg n R0 R far
  le : far ≤ n
  end_ : far < n → ent R far far ≤ 0
  sz : ∀ i, i < n → SzL (rowR R i) B
theorem led_loop {n B : Nat} {R0 : List (List Rat)} {s0 s1 s2 : SD} {ob : List OD} (S : Sta n R0 R0 0 1 B) (hn : n ≤ 100) (hs : 4 * (5 ^ n * B) ≤ 67108864) :
    (∃ R s4 s5 s6, forM (rng1 (consA (frzM (cbO 3 lenS)) (nilA))) (setU 4) ledOut ⟨[s0, s1, s2, .own (R0.map rL), .un, .un, .un], ob⟩ = .ok .nx ⟨[s0, s1, s2, .own (R.map rL), s4, s5, s6], ob⟩ ∧ Led n R0 R n (5 ^ n * B)) ∨
    (∃ R far s', forM (rng1 (consA (frzM (cbO 3 lenS)) (nilA))) (setU 4) ledOut ⟨[s0, s1, s2, .own (R0.map rL), .un, .un, .un], ob⟩ = .ok (.rt (.v (.tup [.int (far : Nat), .lst (R.map rL)]))) ⟨s', ob⟩ ∧ far < n ∧ Led n R0 R far (5 ^ n * B)) := by
  have e1 : rng1 (consA (frzM (cbO 3 lenS)) (nilA)) ⟨[s0, s1, s2, .own (R0.map rL), .un, .un, .un], ob⟩ = .ok ((List.range' 0 n).map fun i => .int (i : Nat)) ⟨[s0, s1, s2, .own (R0.map rL), .un, .un, .un], ob⟩ := rng1_ok (by simp [S.s.len]) (by omega)
  have pw : ∀ i, i ≤ n → 5 ^ i * B ≤ 5 ^ n * B := fun i hi => Nat.mul_le_mul_right _ (Nat.pow_le_pow_right (by decide) hi)
  have res := forGo_ret (b := setU 4) (body := ledOut) (fun i ρ' => ∃ R s4 s5 s6, ρ' = ⟨[s0, s1, s2, .own (R.map rL), s4, s5, s6], ob⟩ ∧ Sta n R0 R i (i + 1) (5 ^ i * B)) (fun r ρ' => ∃ R far s', r = .v (.tup [.int (far : Nat), .lst (R.map rL)]) ∧ ρ' = ⟨s', ob⟩ ∧ far < n ∧ Led n R0 R far (5 ^ n * B))
    ((List.range' 0 n).map fun i => .int (i : Nat)) 0 ⟨[s0, s1, s2, .own (R0.map rL), .un, .un, .un], ob⟩ ⟨R0, _, _, _, rfl, by simpa using S⟩ (by
      rintro j d ρ2 hd ⟨R, s4, s5, s6, rfl, S'⟩
      rw [Nat.zero_add] at *
      have hj : j < n := by simpa using (List.getElem?_eq_some_iff.mp hd).1
      have ed : d = .int (j : Nat) := by
        rw [List.getElem?_map, List.getElem?_range' hj] at hd
        have := (Option.some.inj hd).symm
        rw [this]
        simp
      subst ed
      have hb := pw j (by omega)
      refine ⟨⟨[s0, s1, s2, .own (R.map rL), .val (.int (j : Nat)), s5, s6], ob⟩, by simp, ?_⟩
      rcases ledOut_ok (s0 := s0) (s1 := s1) (s2 := s2) (s5 := s5) (s6 := s6) (ob := ob) S' hj hn (by omega) with ⟨R', s5', s6', q1, q2⟩ | ⟨s', q1, q2⟩
      · refine .inl ⟨_, .inl q1, R', _, _, _, rfl, ?_⟩
        rw [show 5 ^ (j + 1) * B = 5 * (5 ^ j * B) by rw [Nat.pow_succ]; rw [Nat.mul_comm (5 ^ j) 5, Nat.mul_assoc]]
        exact q2
      · exact .inr ⟨_, _, q1, R, j, s', rfl, rfl, hj, S'.s, by omega, fun _ => q2, fun i hi => (S'.up i hi (by omega)).mono hb⟩)
  rcases res with ⟨ρ', h1, R, s4, s5, s6, h2, S'⟩ | ⟨r, ρ', h1, R, far, s', hr, h2, hf, L⟩
  · rw [Nat.zero_add, List.length_map, List.length_range'] at S'
    exact .inl ⟨R, s4, s5, s6, by rw [forM_ok e1 h1, h2], S'.s, Nat.le_refl _, fun h => by omega, fun i hi => S'.up i hi (by omega)⟩
  · exact .inr ⟨R, far, s', by rw [forM_ok e1 h1, hr, h2], hf, L⟩
theorem lackRow_sz {r : Rat} {i A B : Nat} {row : List Rat} {g : Rat} (hr : Sz r B) (hB : 1 ≤ B) (hrow : SzL row A) (hg : Sz g (B + A + 1)) : SzL (lackRow r i row g) (B + A + 1) := by
  intro x hx
  unfold lackRow at hx
  rcases List.mem_append.mp hx with h | h
  · obtain ⟨p, hp, rfl⟩ := List.mem_map.mp h
    have h1 : Sz p.1 A := hrow _ (List.fst_mem_of_mem_zipIdx hp)
    split
    · exact hr.sub h1
    · exact (Sz.zero.mono hB).sub h1
  · rw [List.mem_singleton.mp h]; exact hg
theorem led_ok {n A B : Nat} {T : List (List Rat)} {r : Rat} {gains : List Rat} {ρ : En} (h : Tab n T) (hn : n ≤ 100) (hT : ∀ i, i < n → SzL (rowR T i) A) (hg : gains.length = n) (hg1 : ∀ i, i < n → at0 gains i = 1) (hr : Sz r B) (hB : 1 ≤ B) (hs : 4 * (5 ^ n * (B + A + 1)) ≤ 67108864) :
    ∃ R far, Ph_led [tD T, rD r, rL gains] ρ = .ok (.v (.tup [.int (far : Nat), .lst (R.map rL)])) ⟨[], ρ.ob⟩ ∧ Led n (lackL T r gains) R far (5 ^ n * (B + A + 1)) := by
  have p1 : 1 ≤ 5 ^ n := Nat.pow_pos (by decide)
  have hq : B + A + 1 ≤ 5 ^ n * (B + A + 1) := by
    calc B + A + 1 = 1 * (B + A + 1) := (Nat.one_mul _).symm
      _ ≤ _ := Nat.mul_le_mul_right _ p1
  have hrows : ∀ row ∈ T, row.length ≤ 1000 ∧ SzL row A := fun row hrow => by
    obtain ⟨i, hi, e⟩ := List.getElem_of_mem hrow
    have e' : rowR T i = row := row_of (by rw [← e]; simp [hi])
    have hi' : i < n := by rw [← h.len]; exact hi
    rw [← e']
    exact ⟨by rw [h.row i hi']; omega, hT i hi'⟩
  have hl : ∀ ρ : En, Ph_lacking [tD T, rD r, rL gains] ρ = .ok (.o ((lackL T r gains).map rL)) ⟨[], ρ.ob⟩ := fun ρ => lacking_ok hrows (by rw [hg, h.len]) (by rw [h.len]; omega) hr hB (by omega)
  have S0 : Stg n (lackL T r gains) (lackL T r gains) 0 := Stg.start h fun i hi => by rw [hg1 i hi]; decide
  have SS := Sta.start S0 (B := B + A + 1) fun i hi => by
    rw [lackL_row (by rw [h.len]; exact hi)]
    exact lackRow_sz hr hB (hT i hi) (by rw [hg1 i hi]; exact Sz.one'.mono (by omega))
  have f1 : setM 3 (callM 3 (consA (locD 0) (consA (locD 1) (consA (locD 2) (nilA)))) [] (Ph_lacking)) ⟨slots0 7 [tD T, rD r, rL gains], ρ.ob⟩ = .ok .nx ⟨[.val (tD T), .val (rD r), .val (rL gains), .own ((lackL T r gains).map rL), .un, .un, .un], ρ.ob⟩ := by
    simp [hl]
  rcases led_loop (s0 := .val (tD T)) (s1 := .val (rD r)) (s2 := .val (rL gains)) (ob := ρ.ob) SS hn hs with ⟨R, s4, s5, s6, q1, L⟩ | ⟨R, far, s', q1, hf, L⟩
  · refine ⟨R, n, ?_, L⟩
    refine callF_rt (s := [.val (tD T), .val (rD r), .val (rL gains), .val (.lst (R.map rL)), s4, s5, s6]) ?_
    rw [m_led, seqM_nx f1, seqM_nx q1]
    simp [L.s.len]
  · refine ⟨R, far, ?_, L⟩
    refine callF_rt (s := s') ?_
    rw [m_led, seqM_nx f1, seqM_rt q1]
end LP
set_option maxHeartbeats 200000
namespace LP
open PySem LW
/-- what has been found: the last m of f, the last first -/
def fnd (x : Nat → Rat) (f m : Nat) : List (L2.Key × D) := (List.range m).map fun t => (Sum.inl ((f : Int) - 1 - (t : Nat)), rD (x (f - 1 - t)))
theorem fnd_succ {x : Nat → Rat} {f m : Nat} : fnd x f (m + 1) = fnd x f m ++ [(Sum.inl ((f : Int) - 1 - (m : Nat)), rD (x (f - 1 - m)))] := by
  unfold fnd
  rw [List.range_succ, List.map_append]
  rfl
theorem fnd_congr {x y : Nat → Rat} {f m : Nat} (hm : m ≤ f) (h : ∀ i, f - m ≤ i → i < f → x i = y i) : fnd x f m = fnd y f m := by
  unfold fnd
  refine List.map_congr_left fun t ht => ?_
  have := List.mem_range.mp ht
  rw [h (f - 1 - t) (by omega) (by omega)]
theorem fnd_val {x : Nat → Rat} {f m k : Nat} (hm : m ≤ f) (h1 : f - m ≤ k) (h2 : k < f) : valD (fnd x f m) (Sum.inl (k : Int)) = some (rD (x k)) := by
  induction m with
  | zero => omega
  | succ m ih =>
    rw [fnd_succ]
    unfold valD
    rw [List.find?_append]
    by_cases c : f - m ≤ k
    · have := ih (by omega) c
      unfold valD at this
      cases q : (fnd x f m).find? fun kv => decide (kv.1 = Sum.inl (k : Int)) with
      | none => rw [q] at this; cases this
      | some z => rw [q] at this; simpa [q] using this
    · have e : k = f - 1 - m := by omega
      have hnone : (fnd x f m).find? (fun kv => decide (kv.1 = Sum.inl (k : Int))) = none := by
        rw [List.find?_eq_none]
        intro p hp
        unfold fnd at hp
        obtain ⟨t, ht, rfl⟩ := List.mem_map.mp hp
        have := List.mem_range.mp ht
        simp
        omega
      have hk : ((f : Int) - 1 - (m : Nat)) = (k : Int) := by omega
      rw [hnone]
      simp [hk, e]
theorem fnd_put {x : Nat → Rat} {f m : Nat} {d : D} (hm : m < f) : putD (fnd x f m) (Sum.inl ((f : Int) - 1 - (m : Nat))) d = fnd x f m ++ [(Sum.inl ((f : Int) - 1 - (m : Nat)), d)] := by
  unfold putD
  rw [if_neg]
  intro h
  obtain ⟨p, hp, hq⟩ := List.any_eq_true.mp h
  unfold fnd at hp
  obtain ⟨t, ht, rfl⟩ := List.mem_map.mp hp
  have := List.mem_range.mp ht
  simp at hq
  omega
/-- the part of a row behind its place, times what was found -/
def tail (R : List (List Rat)) (x : Nat → Rat) (at_ m : Nat) : Rat := sumN m fun t => ent R at_ (at_ + 1 + t) * x (at_ + 1 + t)
theorem tail_congr {R : List (List Rat)} {x y : Nat → Rat} {at_ m : Nat} (h : ∀ i, at_ < i → i < at_ + 1 + m → x i = y i) : tail R x at_ m = tail R y at_ m := sumN_congr fun t ht => by rw [h (at_ + 1 + t) (by omega) (by omega)]
/-- the sizes of what is found -/
def GB (B : Nat) : Nat → Nat
  | 0 => 0
  | m + 1 => 2 * B + m * (B + GB B m + 1)
theorem GB_mono {B : Nat} : ∀ m, GB B m ≤ GB B (m + 1)
  | 0 => Nat.zero_le _
  | m + 1 => by
    have ih := GB_mono (B := B) m
    show 2 * B + m * (B + GB B m + 1) ≤ 2 * B + (m + 1) * (B + GB B (m + 1) + 1)
    have : m * (B + GB B m + 1) ≤ (m + 1) * (B + GB B (m + 1) + 1) := Nat.mul_le_mul (by omega) (by omega)
    omega
theorem GB_le {B : Nat} : ∀ {m n : Nat}, m ≤ n → GB B m ≤ GB B n
  | m, n, h => by
    induction n with
    | zero => rw [show m = 0 by omega]; exact Nat.le_refl _
    | succ n ih =>
      by_cases c : m ≤ n
      · exact Nat.le_trans (ih c) (GB_mono n)
      · rw [show m = n + 1 by omega]; exact Nat.le_refl _
/-- what is asked of the rows that one comes back from -/
structure Bk (R : List (List Rat)) (f c B : Nat) : Prop where
  len : f ≤ R.length
  row : ∀ i, i < f → c < (rowR R i).length ∧ f ≤ (rowR R i).length
  piv : ∀ i, i < f → 0 < ent R i i
  sz : ∀ i, i < f → SzL (rowR R i) B
theorem Bk.szE {R : List (List Rat)} {f c B i j : Nat} (h : Bk R f c B) (hi : i < f) (hj : j < (rowR R i).length) : Sz (ent R i j) B := h.sz i hi _ (at0_mem hj)
noncomputable abbrev bkIn : M Fl := setM 5 (valR (frzM (callM 2 (consA (locD 5) (consA (frzM (callM 2 (consA (bin2 (purO ixO) (bin2 (purO ixO) (locD 0) (locD 4)) (locD 6)) (consA (dgetO 3 (locD 6)) (nilA))) [] (Ph_times))) (nilA))) [] (Ph_less))))
theorem GB_step {B m j : Nat} (hj : j ≤ m) : B + j * (B + GB B m + 1) + B ≤ GB B (m + 1) := by
  show _ ≤ 2 * B + m * (B + GB B m + 1)
  have : j * (B + GB B m + 1) ≤ m * (B + GB B m + 1) := Nat.mul_le_mul_right _ hj
  omega
theorem bkIn_loop {R : List (List Rat)} {f c B m : Nat} {x : Nat → Rat} {s1 s2 s6 : SD} {ob : List OD} (h : Bk R f c B) (hf : f ≤ 100) (hm : m < f) (hx : ∀ i, f - m ≤ i → i < f → Sz (x i) (GB B m)) (hs : GB B (m + 1) ≤ 67108864) (hs1 : s1 = .val (.int (f : Nat))) :
    ∃ s6', forM (rng2 (consA (bin2 (purO addI) (locD 4) (cstD (.int 1))) (consA (locD 1) (nilA)))) (setU 6) bkIn ⟨[.val (.lst (R.map rL)), s1, s2, .ownd (fnd x f m), .val (.int ((f - 1 - m : Nat) : Int)), .val (rD (ent R (f - 1 - m) c)), s6], ob⟩ =
      .ok .nx ⟨[.val (.lst (R.map rL)), s1, s2, .ownd (fnd x f m), .val (.int ((f - 1 - m : Nat) : Int)), .val (rD (ent R (f - 1 - m) c - tail R x (f - 1 - m) m)), s6'], ob⟩ ∧ Sz (ent R (f - 1 - m) c - tail R x (f - 1 - m) m) (B + m * (B + GB B m + 1)) := by
  subst hs1
  have e1 : rng2 (consA (bin2 (purO addI) (locD 4) (cstD (.int 1))) (consA (locD 1) (nilA))) ⟨[.val (.lst (R.map rL)), .val (.int (f : Nat)), s2, .ownd (fnd x f m), .val (.int ((f - 1 - m : Nat) : Int)), .val (rD (ent R (f - 1 - m) c)), s6], ob⟩ = .ok ((List.range' (f - 1 - m + 1) (f - (f - 1 - m + 1))).map fun i => .int (i : Nat)) ⟨[.val (.lst (R.map rL)), .val (.int (f : Nat)), s2, .ownd (fnd x f m), .val (.int ((f - 1 - m : Nat) : Int)), .val (rD (ent R (f - 1 - m) c)), s6], ob⟩ := rng2_ok (by simp) (by omega) (by omega)
  have hi : f - 1 - m < f := by omega
  have hrow := h.row _ hi
  have hR : f - 1 - m < R.length := Nat.lt_of_lt_of_le hi h.len
  obtain ⟨ρ', h1, s6', h2, h3⟩ := forGo_inv (b := setU 6) (body := bkIn) (fun j ρ' => ∃ s6', ρ' = ⟨[.val (.lst (R.map rL)), .val (.int (f : Nat)), s2, .ownd (fnd x f m), .val (.int ((f - 1 - m : Nat) : Int)), .val (rD (ent R (f - 1 - m) c - tail R x (f - 1 - m) j)), s6'], ob⟩ ∧ Sz (ent R (f - 1 - m) c - tail R x (f - 1 - m) j) (B + j * (B + GB B m + 1)))
    ((List.range' (f - 1 - m + 1) (f - (f - 1 - m + 1))).map fun i => .int (i : Nat)) 0 ⟨[.val (.lst (R.map rL)), .val (.int (f : Nat)), s2, .ownd (fnd x f m), .val (.int ((f - 1 - m : Nat) : Int)), .val (rD (ent R (f - 1 - m) c)), s6], ob⟩
    ⟨s6, by rw [show ent R (f - 1 - m) c - tail R x (f - 1 - m) 0 = ent R (f - 1 - m) c by show _ - 0 = _; grind], by rw [show ent R (f - 1 - m) c - tail R x (f - 1 - m) 0 = ent R (f - 1 - m) c by show _ - 0 = _; grind]; exact (h.szE hi hrow.1).mono (by omega)⟩ (by
      rintro j d ρ2 hd ⟨s6', rfl, hz⟩
      rw [Nat.zero_add] at *
      have hj : j < f - (f - 1 - m + 1) := by simpa using (List.getElem?_eq_some_iff.mp hd).1
      have ed : d = .int ((f - 1 - m + 1 + j : Nat) : Int) := by
        rw [List.getElem?_map, List.getElem?_range' hj] at hd
        have := (Option.some.inj hd).symm
        rw [this]
        simp
      subst ed
      have g1 := atI_map (e := rL) (row_get hR)
      have g2 : ixO (rL (rowR R (f - 1 - m))) (.int ((f - 1 - m + 1 + j : Nat) : Int)) = some (rD (ent R (f - 1 - m) (f - 1 - m + 1 + j))) := atI_map (e := rD) (ent_get (by omega))
      have g3 := fnd_val (x := x) (f := f) (m := m) (k := f - 1 - m + 1 + j) (by omega) (by omega) (by omega)
      have z1 := h.szE hi (j := f - 1 - m + 1 + j) (by omega)
      have z2 := hx (f - 1 - m + 1 + j) (by omega) (by omega)
      have st := GB_step (B := B) (m := m) (j := j + 1) (by omega)
      have st' : B + j * (B + GB B m + 1) + (B + GB B m) ≤ 67108864 := by
        rw [Nat.add_mul, Nat.one_mul] at st
        omega
      have st2 : B + GB B m ≤ 67108864 := by omega
      have ht : ∀ ρ : En, Ph_times [rD (ent R (f - 1 - m) (f - 1 - m + 1 + j)), rD (x (f - 1 - m + 1 + j))] ρ = .ok (.v (rD (ent R (f - 1 - m) (f - 1 - m + 1 + j) * x (f - 1 - m + 1 + j)))) ⟨[], ρ.ob⟩ := fun ρ => times_ok z1 z2 st2
      have hval : ent R (f - 1 - m) c - tail R x (f - 1 - m) j - ent R (f - 1 - m) (f - 1 - m + 1 + j) * x (f - 1 - m + 1 + j) = ent R (f - 1 - m) c - tail R x (f - 1 - m) (j + 1) := by
        have : tail R x (f - 1 - m) (j + 1) = tail R x (f - 1 - m) j + ent R (f - 1 - m) (f - 1 - m + 1 + j) * x (f - 1 - m + 1 + j) := rfl
        rw [this]
        grind
      have hls : ∀ ρ : En, Ph_less [rD (ent R (f - 1 - m) c - tail R x (f - 1 - m) j), rD (ent R (f - 1 - m) (f - 1 - m + 1 + j) * x (f - 1 - m + 1 + j))] ρ = .ok (.v (rD (ent R (f - 1 - m) c - tail R x (f - 1 - m) (j + 1)))) ⟨[], ρ.ob⟩ := fun ρ => by
        rw [less_ok hz (z1.mul z2) st', hval]
      refine ⟨⟨[.val (.lst (R.map rL)), .val (.int (f : Nat)), s2, .ownd (fnd x f m), .val (.int ((f - 1 - m : Nat) : Int)), .val (rD (ent R (f - 1 - m) c - tail R x (f - 1 - m) j)), .val (.int ((f - 1 - m + 1 + j : Nat) : Int))], ob⟩, ⟨[.val (.lst (R.map rL)), .val (.int (f : Nat)), s2, .ownd (fnd x f m), .val (.int ((f - 1 - m : Nat) : Int)), .val (rD (ent R (f - 1 - m) c - tail R x (f - 1 - m) (j + 1))), .val (.int ((f - 1 - m + 1 + j : Nat) : Int))], ob⟩, by simp, .inl ?_, _, rfl, ?_⟩
      · rw [bkIn]
        generalize (f - 1 - m + 1 + j : Nat) = k at *
        generalize (f - 1 - m : Nat) = a at *
        simp [g1, g2, g3, ht, hls]
      · have := hz.sub (z1.mul z2)
        rw [hval] at this
        refine this.mono ?_
        rw [Nat.add_mul, Nat.one_mul]
        omega)
  rw [Nat.zero_add, List.length_map, List.length_range', show f - (f - 1 - m + 1) = m by omega] at h2 h3
  exact ⟨s6', by rw [forM_ok e1 h1, h2], h3⟩
end LP
set_option maxHeartbeats 200000
namespace LP
open PySem LW
theorem rngD_map : ∀ (n : Nat) (hi : Int), rngD hi n = (List.range n).map fun t => .int (hi - (t : Nat))
  | 0, hi => rfl
  | n + 1, hi => by
    rw [rngD, rngD_map n (hi - 1), List.range_succ_eq_map, List.map_cons, List.map_map]
    refine congr (congrArg _ (by simp)) (List.map_congr_left fun t _ => ?_)
    simp
    omega
theorem rng3_ok {m : M (List D)} {ρ ρ1 : En} {f : Nat} (h : m ρ = .ok [.int ((f : Int) - 1), .int (-1), .int (-1)] ρ1) (hf : f ≤ 1000000000) : rng3 m ρ = .ok ((List.range f).map fun t => .int ((f : Int) - 1 - (t : Nat))) ρ1 := by
  have e2 : ((f : Int) - 1 - (-1)).toNat = f := by omega
  unfold rng3
  rw [h, Res.bind_ok]
  change (if ((f : Int) - 1).natAbs ≤ 1000000000 ∧ (-1 : Int).natAbs ≤ 1000000000 then Res.ok (rngD ((f : Int) - 1) ((f : Int) - 1 - (-1)).toNat) ρ1 else Res.bad) = _
  rw [if_pos ⟨by omega, by decide⟩, e2, rngD_map]
noncomputable abbrev bkBody : M Fl := seqM (setM 5 (valR (bin2 (purO ixO) (bin2 (purO ixO) (locD 0) (locD 4)) (locD 2)))) (seqM (forM (rng2 (consA (bin2 (purO addI) (locD 4) (cstD (.int 1))) (consA (locD 1) (nilA)))) (setU 6) bkIn) (dputM 3 (locD 4) (frzM (callM 2 (consA (locD 5) (consA (bin2 (purO ixO) (bin2 (purO ixO) (locD 0) (locD 4)) (locD 4)) (nilA))) [] (Ph_over)))))
/-- the i-th equation -/
def Eqn (R : List (List Rat)) (f c : Nat) (x : Nat → Rat) (i : Nat) : Prop := ent R i i * x i = ent R i c - tail R x i (f - 1 - i)
theorem bkBody_ok {R : List (List Rat)} {f c B m : Nat} {x : Nat → Rat} {s1 s2 s5 s6 : SD} {ob : List OD} (h : Bk R f c B) (hf : f ≤ 100) (hm : m < f) (hx : ∀ i, f - m ≤ i → i < f → Sz (x i) (GB B m)) (he : ∀ i, f - m ≤ i → i < f → Eqn R f c x i) (hs : GB B (m + 1) ≤ 67108864) (hs1 : s1 = .val (.int (f : Nat))) (hs2 : s2 = .val (.int (c : Nat))) :
    ∃ y s5' s6', bkBody ⟨[.val (.lst (R.map rL)), s1, s2, .ownd (fnd x f m), .val (.int ((f - 1 - m : Nat) : Int)), s5, s6], ob⟩ = .ok .nx ⟨[.val (.lst (R.map rL)), s1, s2, .ownd (fnd y f (m + 1)), .val (.int ((f - 1 - m : Nat) : Int)), s5', s6'], ob⟩ ∧
      (∀ i, f - (m + 1) ≤ i → i < f → Sz (y i) (GB B (m + 1))) ∧ ∀ i, f - (m + 1) ≤ i → i < f → Eqn R f c y i := by
  have hi : f - 1 - m < f := by omega
  have hrow := h.row _ hi
  have hR : f - 1 - m < R.length := Nat.lt_of_lt_of_le hi h.len
  have g1 := atI_map (e := rL) (row_get hR)
  have g2 : ixO (rL (rowR R (f - 1 - m))) (.int (c : Nat)) = some (rD (ent R (f - 1 - m) c)) := atI_map (e := rD) (ent_get hrow.1)
  have g3 : ixO (rL (rowR R (f - 1 - m))) (.int ((f - 1 - m : Nat) : Int)) = some (rD (ent R (f - 1 - m) (f - 1 - m))) := atI_map (e := rD) (ent_get (by omega))
  have f1 : setM 5 (valR (bin2 (purO ixO) (bin2 (purO ixO) (locD 0) (locD 4)) (locD 2))) ⟨[.val (.lst (R.map rL)), s1, s2, .ownd (fnd x f m), .val (.int ((f - 1 - m : Nat) : Int)), s5, s6], ob⟩ = .ok .nx ⟨[.val (.lst (R.map rL)), s1, s2, .ownd (fnd x f m), .val (.int ((f - 1 - m : Nat) : Int)), .val (rD (ent R (f - 1 - m) c)), s6], ob⟩ := by
    subst hs2
    generalize (f - 1 - m : Nat) = a at *
    simp [g1, g2]
  obtain ⟨s6', f2, hz⟩ := bkIn_loop (s2 := s2) (s6 := s6) (ob := ob) h hf hm hx hs hs1
  have hp := h.piv _ hi
  have zp := h.szE hi (j := f - 1 - m) (by omega)
  have st := GB_step (B := B) (m := m) (j := m) (Nat.le_refl _)
  have ho : ∀ ρ : En, Ph_over [rD (ent R (f - 1 - m) c - tail R x (f - 1 - m) m), rD (ent R (f - 1 - m) (f - 1 - m))] ρ = .ok (.v (rD ((ent R (f - 1 - m) c - tail R x (f - 1 - m) m) / ent R (f - 1 - m) (f - 1 - m)))) ⟨[], ρ.ob⟩ := fun ρ => over_ok hz zp (by omega) (by grind)
  have zy := hz.div zp (by grind)
  have hlen : (fnd x f m).length < sizeLine := by
    unfold fnd
    rw [List.length_map, List.length_range]
    have : (101 : Nat) ≤ sizeLine := by decide
    omega
  have hk : ((f : Int) - 1 - (m : Nat)) = ((f - 1 - m : Nat) : Int) := by omega
  have hput := fnd_put (x := x) (f := f) (m := m) (d := rD ((ent R (f - 1 - m) c - tail R x (f - 1 - m) m) / ent R (f - 1 - m) (f - 1 - m))) hm
  rw [hk] at hput
  have hmul := Rat.div_mul_cancel (a := ent R (f - 1 - m) c - tail R x (f - 1 - m) m) (b := ent R (f - 1 - m) (f - 1 - m)) (by grind)
  refine ⟨fun i => if i = f - 1 - m then (ent R (f - 1 - m) c - tail R x (f - 1 - m) m) / ent R (f - 1 - m) (f - 1 - m) else x i, .val (rD (ent R (f - 1 - m) c - tail R x (f - 1 - m) m)), s6', ?_, ?_, ?_⟩
  · rw [bkBody, seqM_nx f1, seqM_nx f2, fnd_succ, hk, if_pos rfl]
    rw [← fnd_congr (x := x) (y := fun i => if i = f - 1 - m then (ent R (f - 1 - m) c - tail R x (f - 1 - m) m) / ent R (f - 1 - m) (f - 1 - m) else x i) (by omega) (fun i h1 h2 => by rw [if_neg (by omega)]), ← hput]
    generalize (ent R (f - 1 - m) c - tail R x (f - 1 - m) m) = q at *
    generalize (f - 1 - m : Nat) = a at *
    simp [g1, g3, ho]
    exact hlen
  · intro i h1 h2
    dsimp only
    by_cases c1 : i = f - 1 - m
    · rw [if_pos c1]
      exact zy.mono (by omega)
    · rw [if_neg c1]
      exact (hx i (by omega) h2).mono (GB_mono m)
  · intro i h1 h2
    unfold Eqn
    by_cases c1 : i = f - 1 - m
    · subst c1
      dsimp only
      rw [if_pos rfl, Rat.mul_comm, hmul, show f - 1 - (f - 1 - m) = m by omega]
      congr 1
      exact tail_congr fun j h3 h4 => by rw [if_neg (by omega)]
    · dsimp only
      rw [if_neg c1]
      have := he i (by omega) h2
      unfold Eqn at this
      rw [this]
      congr 1
      exact tail_congr fun j h3 h4 => by rw [if_neg (by omega)]
theorem back_ok {R : List (List Rat)} {f c B : Nat} {ρ : En} (h : Bk R f c B) (hf : f ≤ 100) (hs : GB B f ≤ 67108864) :
    ∃ x : Nat → Rat, Ph_back_from [.lst (R.map rL), .int (f : Nat), .int (c : Nat)] ρ = .ok (.o ((List.range' 0 f).map fun i => rD (x i))) ⟨[], ρ.ob⟩ ∧ (∀ i, i < f → Eqn R f c x i) ∧ ∀ i, i < f → Sz (x i) (GB B f) := by
  have e1 : rng3 (consA (bin2 (purO subI) (locD 1) (cstD (.int 1))) (consA (un1O negO (cstD (.int 1))) (consA (un1O negO (cstD (.int 1))) (nilA)))) ⟨[.val (.lst (R.map rL)), .val (.int (f : Nat)), .val (.int (c : Nat)), .ownd [], .un, .un, .un], ρ.ob⟩ = .ok ((List.range f).map fun t => .int ((f : Int) - 1 - (t : Nat))) ⟨[.val (.lst (R.map rL)), .val (.int (f : Nat)), .val (.int (c : Nat)), .ownd [], .un, .un, .un], ρ.ob⟩ := rng3_ok (by simp) (by omega)
  obtain ⟨ρ', h1, x, s4, s5, s6, h2, h3, h4⟩ := forGo_inv (b := setU 4) (body := bkBody) (fun m ρ' => ∃ x s4 s5 s6, ρ' = ⟨[.val (.lst (R.map rL)), .val (.int (f : Nat)), .val (.int (c : Nat)), .ownd (fnd x f m), s4, s5, s6], ρ.ob⟩ ∧ (∀ i, f - m ≤ i → i < f → Sz (x i) (GB B m)) ∧ ∀ i, f - m ≤ i → i < f → Eqn R f c x i)
    ((List.range f).map fun t => .int ((f : Int) - 1 - (t : Nat))) 0 ⟨[.val (.lst (R.map rL)), .val (.int (f : Nat)), .val (.int (c : Nat)), .ownd [], .un, .un, .un], ρ.ob⟩ ⟨fun _ => 0, _, _, _, rfl, fun i h1 h2 => by omega, fun i h1 h2 => by omega⟩ (by
      rintro m d ρ2 hd ⟨x, s4, s5, s6, rfl, hx, he⟩
      rw [Nat.zero_add] at *
      have hm : m < f := by simpa using (List.getElem?_eq_some_iff.mp hd).1
      have ed : d = .int ((f - 1 - m : Nat) : Int) := by
        rw [List.getElem?_map, List.getElem?_range hm] at hd
        have := (Option.some.inj hd).symm
        rw [this]
        exact congrArg D.int (by omega)
      subst ed
      have hs' : GB B (m + 1) ≤ 67108864 := Nat.le_trans (GB_le (by omega)) hs
      obtain ⟨y, s5', s6', q1, q2, q3⟩ := bkBody_ok (s1 := .val (.int (f : Nat))) (s2 := .val (.int (c : Nat))) (s5 := s5) (s6 := s6) (ob := ρ.ob) h hf hm hx he hs' rfl rfl
      exact ⟨⟨[.val (.lst (R.map rL)), .val (.int (f : Nat)), .val (.int (c : Nat)), .ownd (fnd x f m), .val (.int ((f - 1 - m : Nat) : Int)), s5, s6], ρ.ob⟩, _, by simp, .inl q1, y, _, _, _, rfl, q2, q3⟩)
  rw [Nat.zero_add, List.length_map, List.length_range] at h2 h3 h4
  refine ⟨x, ?_, fun i hi => h4 i (by omega) hi, fun i hi => h3 i (by omega) hi⟩
  have big : (100 : Nat) ≤ sizeLine := by decide
  have key := lcM_map (m := rng1 (consA (locD 1) (nilA))) (b := setU 4) (el := dgetO 3 (locD 4)) (vs := [4]) (e := fun i : Nat => D.int (i : Nat)) (f := fun i => rD (x i)) (xs := List.range' 0 f)
    (ρ := ⟨[.val (.lst (R.map rL)), .val (.int (f : Nat)), .val (.int (c : Nat)), .ownd (fnd x f f), s4, s5, s6], ρ.ob⟩) (ρ1 := ⟨[.val (.lst (R.map rL)), .val (.int (f : Nat)), .val (.int (c : Nat)), .ownd (fnd x f f), s4, s5, s6], ρ.ob⟩) (ρk := ⟨[.val (.lst (R.map rL)), .val (.int (f : Nat)), .val (.int (c : Nat)), .ownd (fnd x f f), .un, s5, s6], ρ.ob⟩) (ρ2 := ⟨[.val (.lst (R.map rL)), .val (.int (f : Nat)), .val (.int (c : Nat)), .ownd (fnd x f f), SD.keep (some s4), s5, s6], ρ.ob⟩)
    (rng1_ok (by simp) (by omega)) (by simp; omega) (by simp [En.kills]) (fun i hi => by
      have hif : i < f := by
        have := (List.mem_range'.mp hi)
        omega
      refine ⟨⟨[.val (.lst (R.map rL)), .val (.int (f : Nat)), .val (.int (c : Nat)), .ownd (fnd x f f), .val (.int (i : Nat)), s5, s6], ρ.ob⟩, ⟨[.val (.lst (R.map rL)), .val (.int (f : Nat)), .val (.int (c : Nat)), .ownd (fnd x f f), .val (.int (i : Nat)), s5, s6], ρ.ob⟩, by simp, ?_, by simp [En.kills]⟩
      simp [fnd_val (x := x) (Nat.le_refl f) (show f - f ≤ i by omega) hif]) (by simp [En.back])
  refine callF_rt (s := [.val (.lst (R.map rL)), .val (.int (f : Nat)), .val (.int (c : Nat)), .ownd (fnd x f f), SD.keep (some s4), s5, s6]) ?_
  rw [m_back_from, seqM_nx (ρ1 := ⟨[.val (.lst (R.map rL)), .val (.int (f : Nat)), .val (.int (c : Nat)), .ownd [], .un, .un, .un], ρ.ob⟩) (by simp), seqM_nx (forM_ok e1 h1), h2, retM', key]
  rfl
end LP
set_option maxHeartbeats 200000
namespace LP
open PySem LW
theorem sumN_split {f : Nat → Rat} {i : Nat} : ∀ {m : Nat}, sumN (i + 1 + m) f = sumN i f + f i + sumN m (fun t => f (i + 1 + t))
  | 0 => by show sumN i f + f i = _ + 0; grind
  | m + 1 => by
    show sumN (i + 1 + m) f + f (i + 1 + m) = _ + (sumN m _ + f (i + 1 + m))
    rw [sumN_split]
    grind
theorem sumN_zeros {f : Nat → Rat} {n : Nat} (h : ∀ i, i < n → f i = 0) : sumN n f = 0 := by rw [sumN_congr h, sumN_zero]
/-- a weight, a filling -/
structure Weight (n : Nat) (T : Nat → Nat → Rat) (r : Rat) (w : Nat → Rat) : Prop where
  pos : ∀ i, i < n → 0 < w i
  lt : ∀ i, i < n → sumN n (fun j => T i j * w j) < r * w i
structure Filling (n : Nat) (T : Nat → Nat → Rat) (r : Rat) (f : Nat → Rat) : Prop where
  nn : ∀ i, i < n → 0 ≤ f i
  some : ∃ i, i < n ∧ 0 < f i
  ge : ∀ i, i < n → r * f i ≤ sumN n (fun j => T i j * f j)
theorem ent_lack {n i j : Nat} {T : List (List Rat)} {r : Rat} {gains : List Rat} (h : Tab n T) (hi : i < n) (hj : j < n) : ent (lackL T r gains) i j = (if j = i then r else 0) - ent T i j := by
  unfold ent
  rw [lackL_row (by rw [h.len]; exact hi), lackRow_at (by rw [h.row i hi]; exact hj)]
theorem ent_lackG {n i : Nat} {T : List (List Rat)} {r : Rat} {gains : List Rat} (h : Tab n T) (hi : i < n) : ent (lackL T r gains) i n = at0 gains i := by
  unfold ent
  rw [lackL_row (by rw [h.len]; exact hi)]
  have := lackRow_gain (r := r) (i := i) (row := rowR T i) (g := at0 gains i)
  rw [h.row i hi] at this
  exact this
theorem sum_delta {n i : Nat} {r : Rat} {x : Nat → Rat} (hi : i < n) : sumN n (fun j => (if j = i then r else 0) * x j) = r * x i := by
  have e : n = i + 1 + (n - i - 1) := by omega
  rw [e, sumN_split, sumN_zeros (n := i) (fun j hj => by rw [if_neg (by omega)]; grind), sumN_zeros (n := n - i - 1) (fun j hj => by rw [if_neg (by omega)]; grind), if_pos rfl]
  grind
theorem lin_lack {n i : Nat} {T : List (List Rat)} {r : Rat} {gains : List Rat} {X : Nat → Rat} (h : Tab n T) (hi : i < n) : lin (n + 1) (lackL T r gains) i X = r * X i - sumN n (fun j => ent T i j * X j) + at0 gains i * X n := by
  show sumN n (fun j => ent (lackL T r gains) i j * X j) + ent (lackL T r gains) i n * X n = _
  rw [ent_lackG h hi]
  have e : sumN n (fun j => ent (lackL T r gains) i j * X j) = sumN n (fun j => (if j = i then r else 0) * X j + (-1) * (ent T i j * X j)) := sumN_congr fun j hj => by
    rw [ent_lack h hi hj]
    grind
  rw [e, sumN_add, sumN_mul, sum_delta hi]
  grind
/-- all that stands ahead of a row's own place is cleared -/
theorem lin_row {n far i c : Nat} {R0 R : List (List Rat)} {X x : Nat → Rat} (S : Stg n R0 R far) (hif : i < far) (hfn : far ≤ n) (m : Nat) (hm : i + 1 + m ≤ n + 1) : sumN (i + 1 + m) (fun j => ent R i j * X j) = ent R i i * X i + sumN m (fun t => ent R i (i + 1 + t) * X (i + 1 + t)) := by
  rw [sumN_split, sumN_zeros (n := i) (fun j hj => by rw [S.low j i (by omega) hj (by omega)]; grind)]
  grind
theorem pos_of_mul {a x y : Rat} (ha : 0 < a) (h : a * x = y) (hy : 0 < y) : 0 < x := by
  rw [← h] at hy
  exact (Rat.mul_pos_iff_of_pos_left ha).mp hy
theorem np_of_mul {a x y : Rat} (ha : 0 < a) (h : a * x = y) (hy : y ≤ 0) : x ≤ 0 := by
  refine Rat.not_lt.mp fun c => ?_
  have := Rat.mul_pos ha c
  grind
theorem falls_math {n B : Nat} {T : List (List Rat)} {R : List (List Rat)} {r : Rat} {gains : List Rat} {x : Nat → Rat} (h : Tab n T) (hg1 : ∀ i, i < n → at0 gains i = 1) (L : Led n (lackL T r gains) R n B) (he : ∀ i, i < n → Eqn R n n x i) : Weight n (ent T) r x := by
  have pos : ∀ m i, i + m = n → 0 < m → 0 < x i := by
    intro m
    induction m using Nat.strongRecOn with
    | ind m ih =>
      intro i him hm
      have hi : i < n := by omega
      refine pos_of_mul (L.s.piv i hi) (he i hi) ?_
      have h1 := L.s.gain i hi
      have h2 : tail R x i (n - 1 - i) ≤ 0 := by
        have := sumN_le (n := n - 1 - i) (f := fun t => ent R i (i + 1 + t) * x (i + 1 + t)) (g := fun _ => 0) fun t ht => by
          have hx := ih (n - (i + 1 + t)) (by omega) (i + 1 + t) (by omega) (by omega)
          have ho := L.s.off i (i + 1 + t) hi (by omega) (by omega)
          exact mul_np ho (Rat.le_of_lt hx)
        rw [sumN_zero] at this
        exact this
      grind
  have hX : ∀ i, i < n → lin (n + 1) R i (fun j => if j < n then x j else -1) = 0 := fun i hi => by
    show sumN n (fun j => ent R i j * (if j < n then x j else -1)) + ent R i n * (if n < n then x n else -1) = 0
    rw [if_neg (Nat.lt_irrefl n)]
    have e1 : sumN n (fun j => ent R i j * (if j < n then x j else -1)) = sumN n (fun j => ent R i j * x j) := sumN_congr fun j hj => by rw [if_pos hj]
    have e2 : n = i + 1 + (n - 1 - i) := by omega
    have e3 := lin_row (c := 0) (X := x) (x := x) L.s hi (Nat.le_refl n) (n - 1 - i) (by omega)
    rw [← e2] at e3
    rw [e1, e3]
    have := he i hi
    unfold Eqn tail at this
    rw [this]
    grind
  refine ⟨fun i hi => pos (n - i) i (by omega) (by omega), fun i hi => ?_⟩
  have h0 := L.s.same (fun j => if j < n then x j else -1) i hi fun c hc => hX c (by omega)
  rw [hX i hi, lin_lack h hi, hg1 i hi] at h0
  have e1 : sumN n (fun j => ent T i j * (if j < n then x j else -1)) = sumN n (fun j => ent T i j * x j) := sumN_congr fun j hj => by rw [if_pos hj]
  rw [e1] at h0
  simp only [if_pos hi, if_neg (Nat.lt_irrefl n)] at h0
  grind
theorem holds_math {n far B : Nat} {T : List (List Rat)} {R : List (List Rat)} {r : Rat} {gains : List Rat} {x f : Nat → Rat} (h : Tab n T) (hf : far < n) (L : Led n (lackL T r gains) R far B) (he : ∀ i, i < far → Eqn R far far x i)
    (f1 : ∀ i, i < far → f i = 0 - x i) (f2 : f far = 1) (f3 : ∀ i, far < i → i ≤ n → f i = 0) : Filling n (ent T) r f := by
  have neg : ∀ m i, i + m = far → 0 < m → x i ≤ 0 := by
    intro m
    induction m using Nat.strongRecOn with
    | ind m ih =>
      intro i him hm
      have hi : i < far := by omega
      refine np_of_mul (L.s.piv i hi) (he i hi) ?_
      have h1 := L.s.off i far (by omega) hf (by omega)
      have h2 : 0 ≤ tail R x i (far - 1 - i) := sumN_nonneg fun t ht => by
        have hx := ih (far - (i + 1 + t)) (by omega) (i + 1 + t) (by omega) (by omega)
        have ho := L.s.off i (i + 1 + t) (by omega) (by omega) (by omega)
        exact mul_nn ho hx
      grind
  have fnn : ∀ i, i < n → 0 ≤ f i := fun i hi => by
    by_cases c : i < far
    · rw [f1 i c]
      have := neg (far - i) i (by omega) (by omega)
      grind
    · by_cases c2 : i = far
      · rw [c2, f2]; decide
      · rw [f3 i (by omega) (by omega)]; grind
  have sumX : ∀ i, sumN (n + 1) (fun j => ent R i j * f j) = sumN far (fun j => ent R i j * f j) + ent R i far * f far := fun i => by
    have e : n + 1 = far + 1 + (n - far) := by omega
    rw [e, sumN_split, sumN_zeros (n := n - far) (fun t ht => by rw [f3 (far + 1 + t) (by omega) (by omega)]; grind)]
    grind
  have hX : ∀ i, i < far → lin (n + 1) R i f = 0 := fun i hi => by
    unfold lin
    rw [sumX i, f2]
    have e2 : far = i + 1 + (far - 1 - i) := by omega
    have e3 := lin_row (c := 0) (X := f) (x := f) L.s hi L.le (far - 1 - i) (by omega)
    rw [← e2] at e3
    have e4 : sumN (far - 1 - i) (fun t => ent R i (i + 1 + t) * f (i + 1 + t)) = (-1) * tail R x i (far - 1 - i) := by
      unfold tail
      rw [← sumN_mul]
      exact sumN_congr fun t ht => by rw [f1 (i + 1 + t) (by omega)]; grind
    rw [e3, e4, f1 i hi]
    have := he i hi
    unfold Eqn at this
    grind
  have hfar : lin (n + 1) R far f ≤ 0 := by
    unfold lin
    rw [sumX far, f2, sumN_zeros (n := far) (fun j hj => by rw [L.s.low j far hj hj hf]; grind)]
    have := L.end_ hf
    grind
  refine ⟨fnn, ⟨far, hf, by rw [f2]; decide⟩, fun i hi => ?_⟩
  by_cases c : i ≤ far
  · have h0 := L.s.same f i hi fun c' hc => hX c' (by omega)
    rw [lin_lack h hi, f3 n hf (Nat.le_refl n)] at h0
    have h1 : lin (n + 1) R i f ≤ 0 := by
      by_cases c2 : i = far
      · rw [c2]; exact hfar
      · rw [hX i (by omega)]; grind
    grind
  · rw [f3 i (by omega) (by omega)]
    have := sumN_nonneg (n := n) (f := fun j => ent T i j * f j) fun j hj => Rat.mul_nonneg (h.nn i j hi hj) (fnn j hj)
    grind
end LP
set_option maxHeartbeats 200000
namespace LP
open PySem LW
theorem need_ok {r : Rat} {ρ : En} (h : 0 < r) : Ph_need_rate [rD r] ρ = .ok (.v .non) ⟨[], ρ.ob⟩ := by
  have hn : ¬ r.num ≤ 0 := fun z => by
    have h1 : 0 ≤ r.num := Rat.num_nonneg.mpr (Rat.le_of_lt h)
    have h2 : r.num = 0 := by omega
    have := Rat.num_eq_zero.mp h2
    grind
  refine callF_nx (s := [.val (rD r)]) ?_
  rw [m_need_rate]
  simp [rD_num, hn]
/-- a vector as a list -/
def vec (n : Nat) (x : Nat → Rat) : List Rat := (List.range' 0 n).map x
theorem vec_length {n : Nat} {x : Nat → Rat} : (vec n x).length = n := by simp [vec]
theorem vec_get {n i : Nat} {x : Nat → Rat} (h : i < n) : (vec n x)[i]? = some (x i) := by
  unfold vec
  rw [List.getElem?_map, List.getElem?_range' h]
  simp
theorem at0_vec {n i : Nat} {x : Nat → Rat} (h : i < n) : at0 (vec n x) i = x i := at0_of (vec_get h)
theorem vec_sz {n B : Nat} {x : Nat → Rat} (h : ∀ i, i < n → Sz (x i) B) : SzL (vec n x) B := fun y hy => by
  unfold vec at hy
  obtain ⟨i, hi, rfl⟩ := List.mem_map.mp hy
  have := List.mem_range'.mp hi
  exact h i (by omega)
theorem vec_rD {n : Nat} {x : Nat → Rat} : (List.range' 0 n).map (fun i => rD (x i)) = (vec n x).map rD := by
  unfold vec
  rw [List.map_map]
  rfl
/-- what solved answers -/
def Solved (n : Nat) (T : List (List Rat)) (r : Rat) (W : Nat) (d : D) : Prop :=
  (∃ w, d = .tup [.str "falls", rL w] ∧ w.length = n ∧ SzL w W ∧ Weight n (ent T) r (at0 w)) ∨ (∃ f, d = .tup [.str "holds", rL f] ∧ f.length = n ∧ SzL f W ∧ Filling n (ent T) r (at0 f))
theorem Weight.congr {n : Nat} {T : Nat → Nat → Rat} {r : Rat} {w v : Nat → Rat} (h : Weight n T r w) (e : ∀ i, i < n → w i = v i) : Weight n T r v :=
  ⟨fun i hi => by rw [← e i hi]; exact h.pos i hi, fun i hi => by
    have hs : sumN n (fun j => T i j * v j) = sumN n (fun j => T i j * w j) := sumN_congr fun j hj => by rw [e j hj]
    rw [← e i hi, hs]
    exact h.lt i hi⟩
theorem ones {n : Nat} : (List.replicate n [rD 1]).flatten = (List.replicate n (1 : Rat)).map rD := by
  induction n with
  | zero => rfl
  | succ n ih => rw [List.replicate_succ, List.replicate_succ, List.flatten_cons, ih]; rfl
theorem zeros {n : Nat} : (List.replicate n [rD 0]).flatten = (List.replicate n (0 : Rat)).map rD := by
  induction n with
  | zero => rfl
  | succ n ih => rw [List.replicate_succ, List.replicate_succ, List.flatten_cons, ih]; rfl
theorem mulL_ok {d : D} {n : Nat} (h : n ≤ 100) : mulL (.lst [d]) (.int (n : Nat)) = some (.lst (List.replicate n [d]).flatten) := by
  have big : (100 : Nat) ≤ sizeLine := by decide
  unfold mulL
  dsimp only
  rw [if_pos ⟨by omega, by simp; omega⟩]
  rfl
theorem addL_ok {a b : List D} (h : a.length + b.length ≤ 1000) : addL (.lst a) (.lst b) = some (.lst (a ++ b)) := by
  have big : (1000 : Nat) ≤ sizeLine := by decide
  unfold addL
  dsimp only
  rw [if_pos (by omega)]
theorem solved_ok {n A B : Nat} {T : List (List Rat)} {r : Rat} {ρ : En} (h : Tab n T) (hn : n ≤ 100) (hT : ∀ i, i < n → SzL (rowR T i) A) (hr : Sz r B) (hr0 : 0 < r) (hs1 : 4 * (5 ^ n * (B + A + 1)) ≤ 67108864) (hs2 : GB (5 ^ n * (B + A + 1)) n + 1 ≤ 67108864) :
    ∃ d, Ph_solved [tD T, rD r] ρ = .ok (.v d) ⟨[], ρ.ob⟩ ∧ Solved n T r (GB (5 ^ n * (B + A + 1)) n + 3) d := by
  have hB := hr.one_le
  have hg : (List.replicate n (1 : Rat)).length = n := List.length_replicate
  have hg1 : ∀ i, i < n → at0 (List.replicate n (1 : Rat)) i = 1 := fun i hi => at0_of (by rw [List.getElem?_replicate, if_pos hi])
  obtain ⟨R, far, q1, L⟩ := led_ok (ρ := ⟨[], ρ.ob⟩) h hn hT hg hg1 hr hB hs1
  have bk : ∀ c, c ≤ n → Bk R far c (5 ^ n * (B + A + 1)) := fun c hc => ⟨by rw [L.s.len]; exact L.le, fun i hi => by rw [L.s.row i (by have := L.le; omega)]; have := L.le; omega, L.s.piv, fun i hi => L.sz i (by have := L.le; omega)⟩
  have hlen : (T.map rT).length = n := by rw [List.length_map]; exact h.len
  have ht : (tD T).items = some (T.map rT) := rfl
  have f1 : exprM (frzM (callM 1 (consA (locD 1) (nilA)) [] (Ph_need_rate))) ⟨slots0 7 [tD T, rD r], ρ.ob⟩ = .ok .nx ⟨[.val (tD T), .val (rD r), .un, .un, .un, .un, .un], ρ.ob⟩ := by
    simp [need_ok hr0]
  have f2 : setM 2 (valR (frzM (cbM lenF (consA (locD 0) (nilA))))) ⟨[.val (tD T), .val (rD r), .un, .un, .un, .un, .un], ρ.ob⟩ = .ok .nx ⟨[.val (tD T), .val (rD r), .val (.int (n : Nat)), .un, .un, .un, .un], ρ.ob⟩ := by
    simp [tD, h.len]
  have hmul : mulL (.lst [rD 1]) (.int (n : Nat)) = some (rL (List.replicate n 1)) := by rw [mulL_ok hn, ones]; rfl
  have f3 : asgT (frzM (callM 3 (consA (locD 0) (consA (locD 1) (consA (bin2 (purO mulL) (frzM (lstR (consA (cstD (.tup [(.int 1), (.int 1)])) (nilA)))) (locD 2)) (nilA)))) [] (Ph_led))) (tupU 2 (consG (setU 3) (consG (setU 4) (nilG)))) ⟨[.val (tD T), .val (rD r), .val (.int (n : Nat)), .un, .un, .un, .un], ρ.ob⟩ = .ok .nx ⟨[.val (tD T), .val (rD r), .val (.int (n : Nat)), .val (.int (far : Nat)), .val (.lst (R.map rL)), .un, .un], ρ.ob⟩ := by
    rw [rD1]
    simp [hmul, q1]
  by_cases c : far = n
  · subst c
    obtain ⟨x, b1, b2, b3⟩ := back_ok (R := R) (c := far) (ρ := ⟨[], ρ.ob⟩) (bk far (Nat.le_refl _)) hn (by omega)
    have W := falls_math h hg1 L b2
    refine ⟨_, ?_, .inl ⟨vec far x, rfl, vec_length, (vec_sz b3).mono (by omega), W.congr fun i hi => (at0_vec hi).symm⟩⟩
    refine callF_rt (s := [.val (tD T), .val (rD r), .val (.int (far : Nat)), .val (.int (far : Nat)), .val (.lst (R.map rL)), .un, .un]) ?_
    have f4 : ifM (tstD (bin2 (purO eqO) (locD 3) (locD 2))) (retM' (valR (tupD (consA (cstD (.str "falls")) (consA (frzM (callM 3 (consA (locD 4) (consA (locD 2) (consA (locD 2) (nilA)))) [] (Ph_back_from))) (nilA)))))) (nopM) ⟨[.val (tD T), .val (rD r), .val (.int (far : Nat)), .val (.int (far : Nat)), .val (.lst (R.map rL)), .un, .un], ρ.ob⟩ = .ok (.rt (.v (.tup [.str "falls", rL (vec far x)]))) ⟨[.val (tD T), .val (rD r), .val (.int (far : Nat)), .val (.int (far : Nat)), .val (.lst (R.map rL)), .un, .un], ρ.ob⟩ := by
      rw [vec_rD] at b1
      simp [b1, rL]
    rw [m_solved, seqM_nx f1, seqM_nx f2, seqM_nx f3, seqM_rt f4]
  · have hf : far < n := Nat.lt_of_le_of_ne L.le c
    have gb : GB (5 ^ n * (B + A + 1)) far ≤ GB (5 ^ n * (B + A + 1)) n := GB_le L.le
    obtain ⟨x, b1, b2, b3⟩ := back_ok (R := R) (c := far) (ρ := ⟨[], ρ.ob⟩) (bk far L.le) (by omega) (by omega)
    rw [vec_rD] at b1
    have hf4 : far ≠ n := c
    have f4 : ifM (tstD (bin2 (purO eqO) (locD 3) (locD 2))) (retM' (valR (tupD (consA (cstD (.str "falls")) (consA (frzM (callM 3 (consA (locD 4) (consA (locD 2) (consA (locD 2) (nilA)))) [] (Ph_back_from))) (nilA)))))) (nopM) ⟨[.val (tD T), .val (rD r), .val (.int (n : Nat)), .val (.int (far : Nat)), .val (.lst (R.map rL)), .un, .un], ρ.ob⟩ = .ok .nx ⟨[.val (tD T), .val (rD r), .val (.int (n : Nat)), .val (.int (far : Nat)), .val (.lst (R.map rL)), .un, .un], ρ.ob⟩ := by
      have : ¬ ((far : Int) = (n : Int)) := by omega
      simp [this]
    have key := lcM_map (m := itsD (frzM (callM 3 (consA (locD 4) (consA (locD 3) (consA (locD 3) (nilA)))) [] (Ph_back_from)))) (b := setU 6) (el := frzM (callM 2 (consA (cstD (.tup [(.int 0), (.int 1)])) (consA (locD 6) (nilA))) [] (Ph_less))) (vs := [6]) (e := rD) (f := fun y => rD (0 - y)) (xs := vec far x)
      (ρ := ⟨[.val (tD T), .val (rD r), .val (.int (n : Nat)), .val (.int (far : Nat)), .val (.lst (R.map rL)), .un, .un], ρ.ob⟩) (ρ1 := ⟨[.val (tD T), .val (rD r), .val (.int (n : Nat)), .val (.int (far : Nat)), .val (.lst (R.map rL)), .un, .un], ρ.ob⟩) (ρk := ⟨[.val (tD T), .val (rD r), .val (.int (n : Nat)), .val (.int (far : Nat)), .val (.lst (R.map rL)), .un, .un], ρ.ob⟩) (ρ2 := ⟨[.val (tD T), .val (rD r), .val (.int (n : Nat)), .val (.int (far : Nat)), .val (.lst (R.map rL)), .un, .un], ρ.ob⟩)
      (by simp [b1]) (by rw [vec_length]; exact Nat.le_trans (show far ≤ 100 by omega) (by decide)) (by simp [En.kills]) (fun y hy => by
        have hz := vec_sz b3 y hy
        refine ⟨⟨[.val (tD T), .val (rD r), .val (.int (n : Nat)), .val (.int (far : Nat)), .val (.lst (R.map rL)), .un, .val (rD y)], ρ.ob⟩, ⟨[.val (tD T), .val (rD r), .val (.int (n : Nat)), .val (.int (far : Nat)), .val (.lst (R.map rL)), .un, .val (rD y)], ρ.ob⟩, by simp, ?_, by simp [En.kills]⟩
        simp [rD0, less_ok Sz.zero hz (by omega)]) (by simp [En.back, SD.keep])
    have f5 : seqM (setM 5 (lcM (itsD (frzM (callM 3 (consA (locD 4) (consA (locD 3) (consA (locD 3) (nilA)))) [] (Ph_back_from)))) (setU 6) (yesT) (frzM (callM 2 (consA (cstD (.tup [(.int 0), (.int 1)])) (consA (locD 6) (nilA))) [] (Ph_less))) [6])) (letM 5) ⟨[.val (tD T), .val (rD r), .val (.int (n : Nat)), .val (.int (far : Nat)), .val (.lst (R.map rL)), .un, .un], ρ.ob⟩ = .ok .nx ⟨[.val (tD T), .val (rD r), .val (.int (n : Nat)), .val (.int (far : Nat)), .val (.lst (R.map rL)), .val (.lst ((vec far x).map fun y => rD (0 - y))), .un], ρ.ob⟩ := by
      rw [seqM_at]
      unfold setM
      rw [key, Res.bind_ok]
      simp
    let fl : List Rat := (vec far x).map (fun y => 0 - y) ++ [1] ++ List.replicate (n - far - 1) 0
    have lfl : fl.length = n := by simp [fl, vec_length]; omega
    have a1 : ∀ i, i < far → at0 fl i = 0 - x i := fun i hi => at0_of (by
      show ((vec far x).map (fun y => 0 - y) ++ [1] ++ List.replicate (n - far - 1) 0)[i]? = _
      rw [List.append_assoc, List.getElem?_append_left (by rw [List.length_map, vec_length]; exact hi), List.getElem?_map, vec_get hi]
      rfl)
    have a2 : at0 fl far = 1 := at0_of (by
      show ((vec far x).map (fun y => 0 - y) ++ [1] ++ List.replicate (n - far - 1) 0)[far]? = _
      rw [List.append_assoc, List.getElem?_append_right (by rw [List.length_map, vec_length]; omega), List.length_map, vec_length, Nat.sub_self]
      rfl)
    have a3 : ∀ i, far < i → i ≤ n → at0 fl i = 0 := fun i h1 h2 => by
      unfold at0
      show ((vec far x).map (fun y => 0 - y) ++ [1] ++ List.replicate (n - far - 1) 0).getD i 0 = 0
      rw [List.getD_eq_getElem?_getD, List.getElem?_append_right (by simp [vec_length]; omega), List.getElem?_replicate]
      split <;> rfl
    have szf : SzL fl (GB (5 ^ n * (B + A + 1)) n + 3) := fun y hy => by
      rcases List.mem_append.mp hy with hy | hy
      · rcases List.mem_append.mp hy with hy | hy
        · obtain ⟨z, hz, rfl⟩ := List.mem_map.mp hy
          exact (Sz.zero.sub (vec_sz b3 z hz)).mono (by omega)
        · rw [List.mem_singleton.mp hy]; exact Sz.one'.mono (by omega)
      · rw [(List.mem_replicate.mp hy).2]; exact Sz.zero.mono (by omega)
    refine ⟨.tup [.str "holds", rL fl], ?_, .inr ⟨fl, rfl, lfl, szf, holds_math h hf L b2 a1 a2 a3⟩⟩
    refine callF_rt (s := [.val (tD T), .val (rD r), .val (.int (n : Nat)), .val (.int (far : Nat)), .val (.lst (R.map rL)), .val (.lst ((vec far x).map fun y => rD (0 - y))), .un]) ?_
    rw [m_solved, seqM_nx f1, seqM_nx f2, seqM_nx f3, seqM_nx f4, seqM_nx f5]
    have h1 : addL (.lst ((vec far x).map fun y => rD (0 - y))) (.lst [rD 1]) = some (.lst ((vec far x).map (fun y => rD (0 - y)) ++ [rD 1])) := addL_ok (by rw [List.length_map, vec_length]; show far + 1 ≤ _; omega)
    have hk : ((n : Int) - (far : Int) - 1) = ((n - far - 1 : Nat) : Int) := by omega
    have h2 : mulL (.lst [rD 0]) (.int ((n : Int) - (far : Int) - 1)) = some (.lst ((List.replicate (n - far - 1) (0 : Rat)).map rD)) := by rw [hk, mulL_ok (by omega), zeros]
    have h3 : addL (.lst ((vec far x).map (fun y => rD (0 - y)) ++ [rD 1])) (.lst ((List.replicate (n - far - 1) (0 : Rat)).map rD)) = some (rL fl) := by
      rw [addL_ok (by simp [vec_length]; omega)]
      simp only [rL, fl, List.map_append, List.map_map]
      rfl
    rw [rD0, rD1]
    simp only [List.map_replicate] at h2 h3
    simp [h1, h2, h3]
end LP
set_option maxHeartbeats 200000
namespace LP
open PySem LW
theorem blsD_map {α : Type} {f : α → Bool} : ∀ l : List α, blsD (l.map fun x => .bl (f x)) = some (l.map f)
  | [] => rfl
  | x :: l => by simp only [List.map_cons, blsD, blsD_map l]; rfl
theorem num_le {r : Rat} : decide (r.num ≤ 0) = decide (r ≤ 0) := by
  have h : 0 ≤ -r.num ↔ 0 ≤ -r := by rw [← Rat.neg_num]; exact Rat.num_nonneg
  by_cases c : r ≤ 0
  · have : 0 ≤ -r.num := h.mpr (by grind)
    rw [decide_eq_true c, decide_eq_true (by omega)]
  · have : ¬ r.num ≤ 0 := fun z => c (by have := h.mp (by omega); grind)
    rw [decide_eq_false c, decide_eq_false this]
theorem num_lt0 {r : Rat} : decide (r.num < 0) = decide (r < 0) := by
  have h : 0 ≤ r.num ↔ 0 ≤ r := Rat.num_nonneg
  by_cases c : r < 0
  · have : ¬ 0 ≤ r.num := fun z => by have := h.mp z; grind
    rw [decide_eq_true c, decide_eq_true (by omega)]
  · have : 0 ≤ r.num := h.mpr (by grind)
    rw [decide_eq_false c, decide_eq_false (by omega)]
theorem num_gt0 {r : Rat} : decide (0 < r.num) = decide (0 < r) := by
  have := num_le (r := r)
  by_cases c : 0 < r
  · have h2 : ¬ r ≤ 0 := by grind
    rw [decide_eq_false h2] at this
    have := of_decide_eq_false this
    rw [decide_eq_true c, decide_eq_true (by omega)]
  · have h2 : r ≤ 0 := by grind
    rw [decide_eq_true h2] at this
    have := of_decide_eq_true this
    rw [decide_eq_false c, decide_eq_false (by omega)]
theorem ordI_lt {a b : Rat} : decide (ordI a b < 0) = decide (a < b) := by
  unfold ordI
  by_cases c : b < a
  · rw [if_pos c]
    have : ¬ a < b := by grind
    simp [this]
  · rw [if_neg c]
    by_cases d : a < b
    · rw [if_pos d]; simp [d]
    · rw [if_neg d]; simp [d]
theorem ordI_ge {a b : Rat} : decide (0 ≤ ordI a b) = decide (b ≤ a) := by
  unfold ordI
  by_cases c : b < a
  · rw [if_pos c]
    have : b ≤ a := by grind
    simp [this]
  · rw [if_neg c]
    by_cases d : a < b
    · rw [if_pos d]
      have : ¬ b ≤ a := by grind
      simp [this]
    · rw [if_neg d]
      have : b ≤ a := by grind
      simp [this]
/-- what is asked of a table, a rate and a row before they are weighed -/
structure Wgh (n : Nat) (T : List (List Rat)) (r : Rat) (w : List Rat) (A B W : Nat) : Prop where
  t : Tab n T
  sz : ∀ i, i < n → SzL (rowR T i) A
  rz : Sz r B
  r0 : 0 < r
  len : w.length = n
  wz : SzL w W
  small : n ≤ 100
  fit : (n + 1) * (A + W + 1) + 1 + (B + W) ≤ 67108864
theorem dot_ent {n : Nat} {T : List (List Rat)} {w : List Rat} {i : Nat} (h : (rowR T i).length = n) : dot (rowR T i).length (rowR T i) w = sumN n (fun j => ent T i j * at0 w j) := by
  rw [h]; rfl
theorem zip_row {n : Nat} {T : List (List Rat)} {w : List Rat} {p : List Rat × Rat} (h1 : T.length = n) (h2 : w.length = n) (hp : p ∈ T.zip w) : ∃ i, i < n ∧ p = (rowR T i, at0 w i) := by
  obtain ⟨i, hi, e⟩ := List.getElem_of_mem hp
  have hi' : i < n := by rw [List.length_zip] at hi; omega
  refine ⟨i, hi', ?_⟩
  have : (T.zip w)[i]? = some (rowR T i, at0 w i) := by
    rw [List.getElem?_zip_eq_some]
    exact ⟨row_get (by omega), at0_get (by omega)⟩
  rw [← e]
  rw [List.getElem?_eq_getElem hi] at this
  exact Option.some.inj this
theorem zip_at0 {n i : Nat} {T : List (List Rat)} {w : List Rat} (h1 : T.length = n) (h2 : w.length = n) (hi : i < n) : (rowR T i, at0 w i) ∈ T.zip w := by
  have : (T.zip w)[i]? = some (rowR T i, at0 w i) := by
    rw [List.getElem?_zip_eq_some]
    exact ⟨row_get (by omega), at0_get (by omega)⟩
  exact List.mem_of_getElem? this
theorem cmp_ok {n A B W i : Nat} {T : List (List Rat)} {r : Rat} {w : List Rat} (h : Wgh n T r w A B W) (hi : i < n) :
    (∀ ρ : En, Ph_sum_of [rT (rowR T i), rL w] ρ = .ok (.v (rD (sumN n (fun j => ent T i j * at0 w j)))) ⟨[], ρ.ob⟩) ∧ (∀ ρ : En, Ph_times [rD r, rD (at0 w i)] ρ = .ok (.v (rD (r * at0 w i))) ⟨[], ρ.ob⟩) ∧
    (∀ ρ : En, Ph_order [rD (sumN n (fun j => ent T i j * at0 w j)), rD (r * at0 w i)] ρ = .ok (.v (.int (ordI (sumN n (fun j => ent T i j * at0 w j)) (r * at0 w i)))) ⟨[], ρ.ob⟩) := by
  have hr := h.t.row i hi
  have fit := h.fit
  have hz := h.wz _ (at0_mem (l := w) (i := i) (by rw [h.len]; exact hi))
  have hsum : n * (A + W + 1) ≤ (n + 1) * (A + W + 1) := Nat.mul_le_mul_right _ (by omega)
  have hs : Sz (sumN n (fun j => ent T i j * at0 w j)) (n * (A + W + 1) + 1) := by
    have := Sz.dot (n := n) (h.sz i hi) h.wz (by omega) (by rw [h.len]; exact Nat.le_refl n)
    exact this
  refine ⟨fun ρ => ?_, fun ρ => times_ok h.rz hz (by omega), fun ρ => order_ok hs (h.rz.mul hz) (by omega)⟩
  rw [sum_of_ok (a := rowR T i) (A := A) (B := W) rfl (by rw [hr, h.len]) (h.sz i hi) h.wz (by rw [hr]; omega), dot_ent hr]
theorem weighs_ok {n A B W : Nat} {T : List (List Rat)} {r : Rat} {w : List Rat} {ρ : En} (h : Wgh n T r w A B W) (hw : Weight n (ent T) r (at0 w)) : Ph_weighs [tD T, rD r, rL w] ρ = .ok (.v (.bl true)) ⟨[], ρ.ob⟩ := by
  have big : (100 : Nat) ≤ sizeLine := by decide
  have hn := h.small
  have f1 : exprM (frzM (callM 1 (consA (locD 1) (nilA)) [] (Ph_need_rate))) ⟨slots0 5 [tD T, rD r, rL w], ρ.ob⟩ = .ok .nx ⟨[.val (tD T), .val (rD r), .val (rL w), .un, .un], ρ.ob⟩ := by
    simp [need_ok h.r0]
  have k1 := lcM_map (m := itsD (locD 2)) (b := setU 4) (el := bin2 (purO leI) (bin2 (purO ixO) (locD 4) (cstD (.int 0))) (cstD (.int 0))) (vs := [4]) (e := rD) (f := fun y => D.bl (decide (y ≤ 0))) (xs := w)
    (ρ := ⟨[.val (tD T), .val (rD r), .val (rL w), .un, .un], ρ.ob⟩) (ρ1 := ⟨[.val (tD T), .val (rD r), .val (rL w), .un, .un], ρ.ob⟩) (ρk := ⟨[.val (tD T), .val (rD r), .val (rL w), .un, .un], ρ.ob⟩) (ρ2 := ⟨[.val (tD T), .val (rD r), .val (rL w), .un, .un], ρ.ob⟩)
    (by simp) (by rw [h.len]; omega) (by simp [En.kills]) (fun y hy => ⟨⟨[.val (tD T), .val (rD r), .val (rL w), .un, .val (rD y)], ρ.ob⟩, ⟨[.val (tD T), .val (rD r), .val (rL w), .un, .val (rD y)], ρ.ob⟩, by simp, by simp [rD_num, num_le], by simp [En.kills]⟩) (by simp [En.back, SD.keep])
  have hnone : (w.map fun y => decide (y ≤ 0)).any id = false := by
    rw [List.any_map, List.any_eq_false]
    intro y hy
    obtain ⟨i, hi, e⟩ := List.getElem_of_mem hy
    have hi' : i < n := by rw [← h.len]; exact hi
    have := hw.pos i hi'
    rw [at0_of (by rw [List.getElem?_eq_getElem hi, e])] at this
    simp
    grind
  have f2 : ifM (orT (tstD (bin2 (purO neO) (frzM (cbM lenF (consA (locD 2) (nilA)))) (frzM (cbM lenF (consA (locD 0) (nilA)))))) (truD (frzM (cbM anyF (consA (frzM (lcM (itsD (locD 2)) (setU 4) (yesT) (bin2 (purO leI) (bin2 (purO ixO) (locD 4) (cstD (.int 0))) (cstD (.int 0))) [4])) (nilA)))))) (retM' (valR (cstD (.bl false)))) (nopM) ⟨[.val (tD T), .val (rD r), .val (rL w), .un, .un], ρ.ob⟩ = .ok .nx ⟨[.val (tD T), .val (rD r), .val (rL w), .un, .un], ρ.ob⟩ := by
    have e1 : tstD (bin2 (purO neO) (frzM (cbM lenF (consA (locD 2) (nilA)))) (frzM (cbM lenF (consA (locD 0) (nilA))))) ⟨[.val (tD T), .val (rD r), .val (rL w), .un, .un], ρ.ob⟩ = .ok false ⟨[.val (tD T), .val (rD r), .val (rL w), .un, .un], ρ.ob⟩ := by
      simp [rL, tD, h.len, h.t.len]
    have e2 : truD (frzM (cbM anyF (consA (frzM (lcM (itsD (locD 2)) (setU 4) (yesT) (bin2 (purO leI) (bin2 (purO ixO) (locD 4) (cstD (.int 0))) (cstD (.int 0))) [4])) (nilA)))) ⟨[.val (tD T), .val (rD r), .val (rL w), .un, .un], ρ.ob⟩ = .ok false ⟨[.val (tD T), .val (rD r), .val (rL w), .un, .un], ρ.ob⟩ := by
      refine truD_bl (frzM_v (cb1_of k1 ?_))
      simp only [anyF, blsD_map, Option.map_some, hnone]
    rw [ifM_ff (orT_ff e1 e2)]
    rfl
  have k2 := lcM_map (m := zipD false (consA (locD 0) (consA (locD 2) (nilA)))) (b := tupU 2 (consG (setU 3) (consG (setU 4) (nilG)))) (el := bin2 (purO ltI) (frzM (callM 2 (consA (frzM (callM 2 (consA (locD 3) (consA (locD 2) (nilA))) [] (Ph_sum_of))) (consA (frzM (callM 2 (consA (locD 1) (consA (locD 4) (nilA))) [] (Ph_times))) (nilA))) [] (Ph_order))) (cstD (.int 0))) (vs := [3, 4])
    (e := fun p : List Rat × Rat => .tup [rT p.1, rD p.2]) (f := fun p => D.bl (decide (dot n p.1 w < r * p.2))) (xs := T.zip w)
    (ρ := ⟨[.val (tD T), .val (rD r), .val (rL w), .un, .un], ρ.ob⟩) (ρ1 := ⟨[.val (tD T), .val (rD r), .val (rL w), .un, .un], ρ.ob⟩) (ρk := ⟨[.val (tD T), .val (rD r), .val (rL w), .un, .un], ρ.ob⟩) (ρ2 := ⟨[.val (tD T), .val (rD r), .val (rL w), .un, .un], ρ.ob⟩)
    (by simp [tD, zipL_map]) (by rw [List.length_zip, h.len, h.t.len]; omega) (by simp [En.kills]) (fun p hp => by
      obtain ⟨i, hi, rfl⟩ := zip_row h.t.len h.len hp
      obtain ⟨c1, c2, c3⟩ := cmp_ok h hi
      refine ⟨⟨[.val (tD T), .val (rD r), .val (rL w), .val (rT (rowR T i)), .val (rD (at0 w i))], ρ.ob⟩, ⟨[.val (tD T), .val (rD r), .val (rL w), .val (rT (rowR T i)), .val (rD (at0 w i))], ρ.ob⟩, by simp, ?_, by simp [En.kills]⟩
      have e : dot n (rowR T i) w = sumN n (fun j => ent T i j * at0 w j) := rfl
      simp [c1, c2, c3, ordI_lt, e]) (by simp [En.back, SD.keep])
  have hall : ((T.zip w).map fun p => decide (dot n p.1 w < r * p.2)).all id = true := by
    rw [List.all_map, List.all_eq_true]
    intro p hp
    obtain ⟨i, hi, rfl⟩ := zip_row h.t.len h.len hp
    exact decide_eq_true (hw.lt i hi)
  refine callF_rt (s := [.val (tD T), .val (rD r), .val (rL w), .un, .un]) ?_
  rw [m_weighs, seqM_nx f1, seqM_nx f2]
  refine ret_of (cb1_of k2 ?_)
  simp only [allF, blsD_map, Option.map_some, hall]
theorem good_ok {n : Nat} {w : List Rat} {ρ : En} (hl : w.length = n) (hn : n ≤ 100) (h1 : ∀ i, i < n → 0 ≤ at0 w i) (h2 : ∃ i, i < n ∧ 0 < at0 w i) : Ph_good_filling [.int (n : Nat), rL w] ρ = .ok (.v (.bl true)) ⟨[], ρ.ob⟩ := by
  have big : (100 : Nat) ≤ sizeLine := by decide
  have k1 := lcM_map (m := itsD (locD 1)) (b := setU 2) (el := bin2 (purO ltI) (bin2 (purO ixO) (locD 2) (cstD (.int 0))) (cstD (.int 0))) (vs := [2]) (e := rD) (f := fun y => D.bl (decide (y < 0))) (xs := w)
    (ρ := ⟨[.val (.int (n : Nat)), .val (rL w), .un], ρ.ob⟩) (ρ1 := ⟨[.val (.int (n : Nat)), .val (rL w), .un], ρ.ob⟩) (ρk := ⟨[.val (.int (n : Nat)), .val (rL w), .un], ρ.ob⟩) (ρ2 := ⟨[.val (.int (n : Nat)), .val (rL w), .un], ρ.ob⟩)
    (by simp) (by rw [hl]; omega) (by simp [En.kills]) (fun y hy => ⟨⟨[.val (.int (n : Nat)), .val (rL w), .val (rD y)], ρ.ob⟩, ⟨[.val (.int (n : Nat)), .val (rL w), .val (rD y)], ρ.ob⟩, by simp, by simp [rD_num, num_lt0], by simp [En.kills]⟩) (by simp [En.back, SD.keep])
  have k2 := lcM_map (m := itsD (locD 1)) (b := setU 2) (el := bin2 (purO gtI) (bin2 (purO ixO) (locD 2) (cstD (.int 0))) (cstD (.int 0))) (vs := [2]) (e := rD) (f := fun y => D.bl (decide (0 < y))) (xs := w)
    (ρ := ⟨[.val (.int (n : Nat)), .val (rL w), .un], ρ.ob⟩) (ρ1 := ⟨[.val (.int (n : Nat)), .val (rL w), .un], ρ.ob⟩) (ρk := ⟨[.val (.int (n : Nat)), .val (rL w), .un], ρ.ob⟩) (ρ2 := ⟨[.val (.int (n : Nat)), .val (rL w), .un], ρ.ob⟩)
    (by simp) (by rw [hl]; omega) (by simp [En.kills]) (fun y hy => ⟨⟨[.val (.int (n : Nat)), .val (rL w), .val (rD y)], ρ.ob⟩, ⟨[.val (.int (n : Nat)), .val (rL w), .val (rD y)], ρ.ob⟩, by simp, by simp [rD_num, num_gt0], by simp [En.kills]⟩) (by simp [En.back, SD.keep])
  have hnone : (w.map fun y => decide (y < 0)).any id = false := by
    rw [List.any_map, List.any_eq_false]
    intro y hy
    obtain ⟨i, hi, e⟩ := List.getElem_of_mem hy
    have := h1 i (by omega)
    rw [at0_of (by rw [List.getElem?_eq_getElem hi, e])] at this
    simp
    grind
  have hsome : (w.map fun y => decide (0 < y)).any id = true := by
    obtain ⟨i, hi, hp⟩ := h2
    rw [List.any_map, List.any_eq_true]
    exact ⟨at0 w i, at0_mem (by omega), by simpa using hp⟩
  have f2 : ifM (orT (tstD (bin2 (purO neO) (frzM (cbM lenF (consA (locD 1) (nilA)))) (locD 0))) (truD (frzM (cbM anyF (consA (frzM (lcM (itsD (locD 1)) (setU 2) (yesT) (bin2 (purO ltI) (bin2 (purO ixO) (locD 2) (cstD (.int 0))) (cstD (.int 0))) [2])) (nilA)))))) (retM' (valR (cstD (.bl false)))) (nopM) ⟨slots0 3 [.int (n : Nat), rL w], ρ.ob⟩ = .ok .nx ⟨[.val (.int (n : Nat)), .val (rL w), .un], ρ.ob⟩ := by
    have e1 : tstD (bin2 (purO neO) (frzM (cbM lenF (consA (locD 1) (nilA)))) (locD 0)) ⟨slots0 3 [.int (n : Nat), rL w], ρ.ob⟩ = .ok false ⟨[.val (.int (n : Nat)), .val (rL w), .un], ρ.ob⟩ := by
      simp [rL, hl]
    have e2 : truD (frzM (cbM anyF (consA (frzM (lcM (itsD (locD 1)) (setU 2) (yesT) (bin2 (purO ltI) (bin2 (purO ixO) (locD 2) (cstD (.int 0))) (cstD (.int 0))) [2])) (nilA)))) ⟨[.val (.int (n : Nat)), .val (rL w), .un], ρ.ob⟩ = .ok false ⟨[.val (.int (n : Nat)), .val (rL w), .un], ρ.ob⟩ := by
      refine truD_bl (frzM_v (cb1_of k1 ?_))
      simp only [anyF, blsD_map, Option.map_some, hnone]
    rw [ifM_ff (orT_ff e1 e2)]
    rfl
  refine callF_rt (s := [.val (.int (n : Nat)), .val (rL w), .un]) ?_
  rw [m_good_filling, seqM_nx f2]
  refine ret_of (cb1_of k2 ?_)
  simp only [anyF, blsD_map, Option.map_some, hsome]
theorem holds_up_ok {n A B W : Nat} {T : List (List Rat)} {r : Rat} {w : List Rat} {ρ : En} (h : Wgh n T r w A B W) (hw : Filling n (ent T) r (at0 w)) : Ph_holds_up [tD T, rD r, rL w] ρ = .ok (.v (.bl true)) ⟨[], ρ.ob⟩ := by
  have big : (100 : Nat) ≤ sizeLine := by decide
  have hn := h.small
  have f1 : exprM (frzM (callM 1 (consA (locD 1) (nilA)) [] (Ph_need_rate))) ⟨slots0 5 [tD T, rD r, rL w], ρ.ob⟩ = .ok .nx ⟨[.val (tD T), .val (rD r), .val (rL w), .un, .un], ρ.ob⟩ := by
    simp [need_ok h.r0]
  have hg : ∀ ρ : En, Ph_good_filling [.int (n : Nat), rL w] ρ = .ok (.v (.bl true)) ⟨[], ρ.ob⟩ := fun ρ => good_ok h.len hn hw.nn hw.some
  have f2 : ifM (notT (truD (frzM (callM 2 (consA (frzM (cbM lenF (consA (locD 0) (nilA)))) (consA (locD 2) (nilA))) [] (Ph_good_filling))))) (retM' (valR (cstD (.bl false)))) (nopM) ⟨[.val (tD T), .val (rD r), .val (rL w), .un, .un], ρ.ob⟩ = .ok .nx ⟨[.val (tD T), .val (rD r), .val (rL w), .un, .un], ρ.ob⟩ := by
    simp [tD, h.t.len, hg]
  have k2 := lcM_map (m := zipD false (consA (locD 0) (consA (locD 2) (nilA)))) (b := tupU 2 (consG (setU 3) (consG (setU 4) (nilG)))) (el := bin2 (purO geI) (frzM (callM 2 (consA (frzM (callM 2 (consA (locD 3) (consA (locD 2) (nilA))) [] (Ph_sum_of))) (consA (frzM (callM 2 (consA (locD 1) (consA (locD 4) (nilA))) [] (Ph_times))) (nilA))) [] (Ph_order))) (cstD (.int 0))) (vs := [3, 4])
    (e := fun p : List Rat × Rat => .tup [rT p.1, rD p.2]) (f := fun p => D.bl (decide (r * p.2 ≤ dot n p.1 w))) (xs := T.zip w)
    (ρ := ⟨[.val (tD T), .val (rD r), .val (rL w), .un, .un], ρ.ob⟩) (ρ1 := ⟨[.val (tD T), .val (rD r), .val (rL w), .un, .un], ρ.ob⟩) (ρk := ⟨[.val (tD T), .val (rD r), .val (rL w), .un, .un], ρ.ob⟩) (ρ2 := ⟨[.val (tD T), .val (rD r), .val (rL w), .un, .un], ρ.ob⟩)
    (by simp [tD, zipL_map]) (by rw [List.length_zip, h.len, h.t.len]; omega) (by simp [En.kills]) (fun p hp => by
      obtain ⟨i, hi, rfl⟩ := zip_row h.t.len h.len hp
      obtain ⟨c1, c2, c3⟩ := cmp_ok h hi
      refine ⟨⟨[.val (tD T), .val (rD r), .val (rL w), .val (rT (rowR T i)), .val (rD (at0 w i))], ρ.ob⟩, ⟨[.val (tD T), .val (rD r), .val (rL w), .val (rT (rowR T i)), .val (rD (at0 w i))], ρ.ob⟩, by simp, ?_, by simp [En.kills]⟩
      have e : dot n (rowR T i) w = sumN n (fun j => ent T i j * at0 w j) := rfl
      simp [c1, c2, c3, ordI_ge, e]) (by simp [En.back, SD.keep])
  have hall : ((T.zip w).map fun p => decide (r * p.2 ≤ dot n p.1 w)).all id = true := by
    rw [List.all_map, List.all_eq_true]
    intro p hp
    obtain ⟨i, hi, rfl⟩ := zip_row h.t.len h.len hp
    exact decide_eq_true (hw.ge i hi)
  refine callF_rt (s := [.val (tD T), .val (rD r), .val (rL w), .un, .un]) ?_
  rw [m_holds_up, seqM_nx f1, seqM_nx f2]
  refine ret_of (cb1_of k2 ?_)
  simp only [allF, blsD_map, Option.map_some, hall]
end LP
set_option maxHeartbeats 200000
namespace N57
open PySem LW LP
/-- _law_numbers: _law_script, _law_many, _law_drawn, _law_seed, _law_cell, _law_rest, _law_k -/
noncomputable def m__law_numbers : M Fl := seqM (setM 2 (lstR (nilA))) (seqM (setM 3 (valR (cstD (.int 97)))) (seqM (forM (itsD (frzM (sliceR (locD 0) (noPart) (partM (cstD (.int 63)))))) (setU 4) (seqM (setM 3 (valR (bin2 (purO modI) (bin2 (purO addI) (bin2 (purO addI) (bin2 (purO mulI) (locD 3) (cstD (.int 40014))) (bin2 (purO modI) (locD 4) (cstD (.int 999979)))) (cstD (.int 41))) (cstD (.int 2147483563))))) (seqM (setM 5 (valR (bin2 (purO subI) (locD 4) (bin2 (purO powI) (cstD (.int 10)) (cstD (.int 18)))))) (seqM (ifM (tstD (bin2 (purO ltI) (locD 5) (cstD (.int 0)))) (exprM (mtO 2 appF (consA (bin2 (purO modI) (locD 4) (cstD (.int 9967))) (nilA)))) (nopM)) (forM (rng1 (consA (cstD (.int 60)) (nilA))) (setU 6) (ifM (tstD (bin2 (purO gtI) (locD 5) (cstD (.int 0)))) (seqM (exprM (mtO 2 appF (consA (bin2 (purO modI) (locD 5) (cstD (.int 1013))) (nilA)))) (setM 5 (valR (bin2 (purO fdivI) (locD 5) (cstD (.int 1013)))))) (nopM))))))) (seqM (whileM (tstD (bin2 (purO ltI) (frzM (cbO 2 lenS)) (locD 1))) (seqM (setM 3 (valR (bin2 (purO modI) (bin2 (purO addI) (bin2 (purO addI) (bin2 (purO addI) (bin2 (purO mulI) (locD 3) (locD 3)) (bin2 (purO mulI) (cstD (.int 52774)) (locD 3))) (bin2 (purO mulI) (cstD (.int 23)) (frzM (cbO 2 lenS)))) (cstD (.int 5))) (cstD (.int 2147483629))))) (exprM (mtO 2 appF (consA (bin2 (purO modI) (bin2 (purO fdivI) (locD 3) (cstD (.int 1019))) (cstD (.int 9967))) (nilA)))))) (retM' (sliceO 2 (noPart) (partM (locD 1)))))))
noncomputable def Ph__law_numbers : List D → M RV := callF 7 m__law_numbers
/-- _law_part: _law_up, _law_down, _law_this, _law_that, _law_side -/
noncomputable def m__law_part : M Fl := seqM (parM 2 3 (consA (frzM (cbM absF (consA (locD 0) (nilA)))) (consA (frzM (cbM absF (consA (locD 1) (nilA)))) (nilA)))) (seqM (whileM (tstD (bin2 (purO gtI) (locD 3) (cstD (.int 0)))) (parM 2 3 (consA (locD 3) (consA (bin2 (purO modI) (locD 2) (locD 3)) (nilA))))) (seqM (setM 4 (valR (iteD (tstD (bin2 (purO gtI) (locD 1) (cstD (.int 0)))) (locD 2) (bin2 (purO subI) (cstD (.int 0)) (locD 2))))) (retM' (valR (tupD (consA (bin2 (purO fdivI) (locD 0) (locD 4)) (consA (bin2 (purO fdivI) (locD 1) (locD 4)) (nilA))))))))
noncomputable def Ph__law_part : List D → M RV := callF 5 m__law_part
/-- _law_share: _law_number -/
noncomputable def m__law_share : M Fl := retM' (callM 2 (consA (bin2 (purO ixO) (frzM (lstR (consA (cstD (.int 0)) (consA (cstD (.int 0)) (consA (cstD (.int 1)) (consA (cstD (.int 1)) (consA (cstD (.int 1)) (consA (cstD (.int 2)) (consA (cstD (.int 3)) (consA (cstD (.int 5)) (nilA))))))))))) (bin2 (purO modI) (locD 0) (cstD (.int 8)))) (consA (bin2 (purO ixO) (frzM (lstR (consA (cstD (.int 1)) (consA (cstD (.int 2)) (consA (cstD (.int 3)) (consA (cstD (.int 4)) (consA (cstD (.int 6)) (nilA)))))))) (bin2 (purO modI) (bin2 (purO fdivI) (locD 0) (cstD (.int 8))) (cstD (.int 5)))) (nilA))) [] (Ph__law_part))
noncomputable def Ph__law_share : List D → M RV := callF 1 m__law_share
/-- _law_times: _law_this, _law_that -/
noncomputable def m__law_times : M Fl := retM' (callM 2 (consA (bin2 (purO mulI) (bin2 (purO ixO) (locD 0) (cstD (.int 0))) (bin2 (purO ixO) (locD 1) (cstD (.int 0)))) (consA (bin2 (purO mulI) (bin2 (purO ixO) (locD 0) (cstD (.int 1))) (bin2 (purO ixO) (locD 1) (cstD (.int 1)))) (nilA))) [] (Ph__law_part))
noncomputable def Ph__law_times : List D → M RV := callF 2 m__law_times
/-- _law_menus: _law_d, _law_upto, _law_many, _law_thin, _law_found, _law_k, _law_own, _law_lines, _law_r, _law_some, _law_by, _law_this, _law_at, _law_that -/
noncomputable def m__law_menus : M Fl := seqM (setM 2 (valR (bin2 (purO addI) (cstD (.int 1)) (bin2 (purO modI) (bin2 (purO ixO) (locD 0) (cstD (.int 0))) (locD 1))))) (seqM (setM 3 (valR (bin2 (purO modI) (bin2 (purO fdivI) (bin2 (purO ixO) (locD 0) (cstD (.int 0))) (locD 1)) (cstD (.int 2))))) (seqM (setM 4 (lstR (nilA))) (seqM (forM (rng1 (consA (locD 2) (nilA))) (setU 5) (seqM (setM 6 (valR (frzM (sliceR (locD 0) (partM (bin2 (purO addI) (cstD (.int 1)) (bin2 (purO mulI) (cstD (.int 20)) (locD 5)))) (partM (bin2 (purO addI) (cstD (.int 21)) (bin2 (purO mulI) (cstD (.int 20)) (locD 5)))))))) (seqM (setM 7 (lstR (nilA))) (seqM (forM (rng1 (consA (bin2 (purO addI) (cstD (.int 1)) (bin2 (purO modI) (bin2 (purO ixO) (locD 6) (cstD (.int 1))) (cstD (.int 3)))) (nilA))) (setU 8) (seqM (seqM (setM 9 (lcM (itsD (frzM (sliceR (locD 6) (partM (bin2 (purO addI) (cstD (.int 2)) (bin2 (purO mulI) (cstD (.int 5)) (locD 8)))) (partM (bin2 (purO addI) (bin2 (purO addI) (cstD (.int 2)) (bin2 (purO mulI) (cstD (.int 5)) (locD 8))) (locD 2)))))) (setU 11) (yesT) (frzM (callM 1 (consA (locD 11) (nilA)) [] (Ph__law_share))) [11])) (letM 9)) (seqM (seqM (setM 10 (lcM (rng1 (consA (locD 2) (nilA))) (setU 12) (yesT) (bin2 (purO ixO) (frzM (lstR (consA (tupD (consA (cstD (.int 1)) (consA (cstD (.int 2)) (nilA)))) (consA (tupD (consA (cstD (.int 1)) (consA (cstD (.int 3)) (nilA)))) (consA (tupD (consA (cstD (.int 0)) (consA (cstD (.int 1)) (nilA)))) (nilA)))))) (bin2 (purO modI) (bin2 (purO addI) (bin2 (purO fdivI) (bin2 (purO ixO) (locD 6) (cstD (.int 1))) (cstD (.int 3))) (locD 12)) (cstD (.int 3)))) [12])) (letM 10)) (seqM (ifM (tstD (bin2 (purO eqO) (locD 3) (cstD (.int 1)))) (seqM (setM 9 (lcM (zipD false (consA (locD 9) (consA (locD 10) (nilA)))) (tupU 2 (consG (setU 11) (consG (setU 13) (nilG)))) (yesT) (frzM (callM 2 (consA (locD 11) (consA (locD 13) (nilA))) [] (Ph__law_times))) [11, 13])) (letM 9)) (nopM)) (exprM (mtO 7 appF (consA (frzM (cbM tupleF (consA (locD 9) (nilA)))) (nilA)))))))) (exprM (mtO 4 appF (consA (tupD (consA (bin2 (purO ixO) (frzM (lstR (consA (cstD (.str "we")) (consA (cstD (.str "weather")) (nilA))))) (bin2 (purO modI) (bin2 (purO ixO) (locD 6) (cstD (.int 0))) (cstD (.int 2)))) (consA (frzM (cbO 7 tupleS)) (nilA)))) (nilA)))))))) (retM' (cbO 4 tupleS)))))
noncomputable def Ph__law_menus : List D → M RV := callF 14 m__law_menus
/-- _law_table: _law_book, _law_mine, _law_theirs, _law_left, _law_right, _law_found, _law_whose, _law_lines -/
noncomputable def m__law_table : M Fl := seqM (parR 3 4 (cbM listF (consA (locD 1) (nilA))) (cbM listF (consA (locD 2) (nilA)))) (seqM (setM 5 (lstR (nilA))) (seqM (forM (itsD (locD 0)) (tupU 2 (consG (setU 6) (consG (setU 7) (nilG)))) (exprM (mtO 5 appF (consA (bin2 (purO ixO) (locD 7) (iteD (tstD (bin2 (purO eqO) (locD 6) (cstD (.str "we")))) (mtO 3 popAtF (consA (cstD (.int 0)) (nilA))) (mtO 4 popAtF (consA (cstD (.int 0)) (nilA))))) (nilA))))) (retM' (takeM 5))))
noncomputable def Ph__law_table : List D → M RV := callF 8 m__law_table
/-- _law_stores: _law_book, _law_whose, _law_k -/
noncomputable def m__law_stores : M Fl := retM' (lcM (rng1 (consA (frzM (cbM lenF (consA (locD 0) (nilA)))) (nilA))) (setU 2) (tstD (bin2 (purO eqO) (bin2 (purO ixO) (bin2 (purO ixO) (locD 0) (locD 2)) (cstD (.int 0))) (locD 1))) (locD 2) [2])
noncomputable def Ph__law_stores : List D → M RV := callF 3 m__law_stores
/-- _law_plans: _law_book, _law_whose, _law_found, _law_store, _law_later, _law_plan, _law_at -/
noncomputable def m__law_plans : M Fl := seqM (setM 2 (valR (frzM (lstR (consA (tupD (nilA)) (nilA)))))) (seqM (forM (itsD (frzM (callM 2 (consA (locD 0) (consA (locD 1) (nilA))) [] (Ph__law_stores)))) (setU 3) (seqM (setM 4 (valR (frzM (lstR (nilA))))) (seqM (forM (itsD (locD 2)) (setU 5) (setM 4 (valR (bin2 (purO addL) (locD 4) (frzM (lcM (rng1 (consA (frzM (cbM lenF (consA (bin2 (purO ixO) (bin2 (purO ixO) (locD 0) (locD 3)) (cstD (.int 1))) (nilA)))) (nilA))) (setU 6) (yesT) (bin2 (purO addT) (locD 5) (tupD (consA (locD 6) (nilA)))) [6])))))) (setM 2 (valR (locD 4)))))) (retM' (valR (locD 2))))
noncomputable def Ph__law_plans : List D → M RV := callF 7 m__law_plans
/-- _law_plus: _law_this, _law_that -/
noncomputable def m__law_plus : M Fl := retM' (callM 2 (consA (bin2 (purO addI) (bin2 (purO mulI) (bin2 (purO ixO) (locD 0) (cstD (.int 0))) (bin2 (purO ixO) (locD 1) (cstD (.int 1)))) (bin2 (purO mulI) (bin2 (purO ixO) (locD 1) (cstD (.int 0))) (bin2 (purO ixO) (locD 0) (cstD (.int 1))))) (consA (bin2 (purO mulI) (bin2 (purO ixO) (locD 0) (cstD (.int 1))) (bin2 (purO ixO) (locD 1) (cstD (.int 1)))) (nilA))) [] (Ph__law_part))
noncomputable def Ph__law_plus : List D → M RV := callF 2 m__law_plus
/-- _law_sum: _law_line, _law_some, _law_found, _law_this, _law_that -/
noncomputable def m__law_sum : M Fl := seqM (setM 2 (valR (tupD (consA (cstD (.int 0)) (consA (cstD (.int 1)) (nilA)))))) (seqM (forM (zipD false (consA (locD 0) (consA (locD 1) (nilA)))) (tupU 2 (consG (setU 3) (consG (setU 4) (nilG)))) (setM 2 (valR (frzM (callM 2 (consA (locD 2) (consA (frzM (callM 2 (consA (locD 3) (consA (locD 4) (nilA))) [] (Ph__law_times))) (nilA))) [] (Ph__law_plus)))))) (retM' (valR (locD 2))))
noncomputable def Ph__law_sum : List D → M RV := callF 5 m__law_sum
/-- _law_rate: _law_d -/
noncomputable def m__law_rate : M Fl := retM' (callM 2 (consA (bin2 (purO addI) (cstD (.int 1)) (bin2 (purO modI) (bin2 (purO ixO) (locD 0) (cstD (.int 0))) (cstD (.int 9)))) (consA (bin2 (purO ixO) (frzM (lstR (consA (cstD (.int 1)) (consA (cstD (.int 2)) (consA (cstD (.int 3)) (consA (cstD (.int 4)) (consA (cstD (.int 6)) (nilA)))))))) (bin2 (purO modI) (bin2 (purO ixO) (locD 0) (cstD (.int 1))) (cstD (.int 5)))) (nilA))) [] (Ph__law_part))
noncomputable def Ph__law_rate : List D → M RV := callF 1 m__law_rate
/-- law: _law_script, _law_numbers_here, _law_book, _law_table_here, _law_columns, _law_square, _law_other_book, _law_beside, _law_both, _law_k, _law_pace, _law_word, _law_some, _law_due, _law_to, _law_line, _law_column -/
noncomputable def m_law : M Fl := seqM (setM 1 (valR (frzM (callM 2 (consA (locD 0) (consA (cstD (.int 200)) (nilA))) [] (Ph__law_numbers))))) (seqM (setM 2 (valR (frzM (callM 2 (consA (locD 1) (consA (cstD (.int 3)) (nilA))) [] (Ph__law_menus))))) (seqM (setM 3 (valR (frzM (callM 3 (consA (locD 2) (consA (bin2 (purO ixO) (frzM (callM 2 (consA (locD 2) (consA (cstD (.str "we")) (nilA))) [] (Ph__law_plans))) (un1O negO (cstD (.int 1)))) (consA (bin2 (purO ixO) (frzM (callM 2 (consA (locD 2) (consA (cstD (.str "weather")) (nilA))) [] (Ph__law_plans))) (cstD (.int 0))) (nilA)))) [] (Ph__law_table))))) (seqM (setM 4 (valR (frzM (lcM (rng1 (consA (frzM (cbM lenF (consA (locD 3) (nilA)))) (nilA))) (setU 14) (yesT) (frzM (cbM tupleF (consA (frzM (lcM (itsD (locD 3)) (setU 15) (yesT) (bin2 (purO ixO) (locD 15) (locD 14)) [15])) (nilA)))) [14])))) (seqM (seqM (setM 5 (lcM (itsD (locD 3)) (setU 15) (yesT) (frzM (cbM tupleF (consA (frzM (lcM (itsD (locD 4)) (setU 16) (yesT) (frzM (callM 2 (consA (locD 15) (consA (locD 16) (nilA))) [] (Ph__law_sum))) [16])) (nilA)))) [15])) (letM 5)) (seqM (setM 6 (valR (frzM (callM 2 (consA (bin2 (purO addL) (frzM (lstR (consA (bin2 (purO modI) (bin2 (purO ixO) (locD 1) (cstD (.int 90))) (cstD (.int 2))) (nilA)))) (frzM (sliceR (locD 1) (partM (cstD (.int 100))) (noPart)))) (consA (cstD (.int 2)) (nilA))) [] (Ph__law_menus))))) (seqM (setM 7 (valR (frzM (callM 3 (consA (locD 6) (consA (bin2 (purO ixO) (frzM (callM 2 (consA (locD 6) (consA (cstD (.str "we")) (nilA))) [] (Ph__law_plans))) (cstD (.int 0))) (consA (bin2 (purO ixO) (frzM (callM 2 (consA (locD 6) (consA (cstD (.str "weather")) (nilA))) [] (Ph__law_plans))) (cstD (.int 0))) (nilA)))) [] (Ph__law_table))))) (seqM (setM 8 (valR (bin2 (purO addL) (frzM (lcM (itsD (locD 3)) (setU 15) (yesT) (bin2 (purO addT) (locD 15) (bin2 (purO mulT) (tupD (consA (tupD (consA (cstD (.int 0)) (consA (cstD (.int 1)) (nilA)))) (nilA))) (frzM (cbM lenF (consA (locD 7) (nilA)))))) [15])) (frzM (lcM (itsD (locD 7)) (setU 15) (yesT) (bin2 (purO addT) (bin2 (purO mulT) (tupD (consA (tupD (consA (cstD (.int 0)) (consA (cstD (.int 1)) (nilA)))) (nilA))) (frzM (cbM lenF (consA (locD 3) (nilA))))) (locD 15)) [15]))))) (seqM (forM (rng1 (consA (cstD (.int 5)) (nilA))) (setU 9) (seqM (setM 10 (valR (frzM (callM 1 (consA (frzM (sliceR (locD 1) (partM (bin2 (purO addI) (cstD (.int 84)) (bin2 (purO mulI) (cstD (.int 2)) (locD 9)))) (noPart))) (nilA)) [] (Ph__law_rate))))) (seqM (asgT (frzM (callM 2 (consA (locD 3) (consA (locD 10) (nilA))) [] (Ph_solved))) (tupU 2 (consG (setU 11) (consG (setU 12) (nilG))))) (seqM (ifM (orT (tstD (bin2 (purO neO) (bin2 (purO ixO) (frzM (callM 2 (consA (locD 5) (consA (frzM (callM 2 (consA (locD 10) (consA (locD 10) (nilA))) [] (Ph__law_times))) (nilA))) [] (Ph_solved))) (cstD (.int 0))) (locD 11))) (tstD (bin2 (purO neO) (bin2 (purO ixO) (frzM (callM 2 (consA (locD 4) (consA (locD 10) (nilA))) [] (Ph_solved))) (cstD (.int 0))) (locD 11)))) (retM' (valR (cstD (.bl false)))) (nopM)) (seqM (ifM (andT (tstD (bin2 (purO eqO) (locD 11) (cstD (.str "falls")))) (notT (truD (frzM (callM 3 (consA (locD 5) (consA (frzM (callM 2 (consA (locD 10) (consA (locD 10) (nilA))) [] (Ph__law_times))) (consA (locD 12) (nilA)))) [] (Ph_weighs)))))) (retM' (valR (cstD (.bl false)))) (nopM)) (seqM (ifM (andT (tstD (bin2 (purO eqO) (locD 11) (cstD (.str "holds")))) (notT (truD (frzM (callM 3 (consA (locD 5) (consA (frzM (callM 2 (consA (locD 10) (consA (locD 10) (nilA))) [] (Ph__law_times))) (consA (locD 12) (nilA)))) [] (Ph_holds_up)))))) (retM' (valR (cstD (.bl false)))) (nopM)) (seqM (setM 13 (valR (bin2 (purO ixO) (frzM (lstR (consA (cstD (.str "holds")) (consA (cstD (.str "falls")) (nilA))))) (frzM (cbM intF (consA (andV (bin2 (purO eqO) (locD 11) (cstD (.str "falls"))) (bin2 (purO eqO) (bin2 (purO ixO) (frzM (callM 2 (consA (locD 7) (consA (locD 10) (nilA))) [] (Ph_solved))) (cstD (.int 0))) (cstD (.str "falls")))) (nilA))))))) (ifM (tstD (bin2 (purO neO) (bin2 (purO ixO) (frzM (callM 2 (consA (locD 8) (consA (locD 10) (nilA))) [] (Ph_solved))) (cstD (.int 0))) (locD 13))) (retM' (valR (cstD (.bl false)))) (nopM))))))))) (retM' (valR (cstD (.bl true))))))))))))
noncomputable def Ph_law : List D → M RV := callF 17 m_law
end N57
set_option maxHeartbeats 200000
namespace N57
open PySem LW LP
theorem cut_nat {l : List D} {k : Nat} : cutD l none (some (k : Int)) = l.take k := by
  unfold cutD
  rw [HT.sIx_none, HT.sIx_nat, List.drop_zero, Nat.sub_zero]
  rcases Nat.le_total k l.length with h | h
  · rw [Nat.min_eq_left h]
  · rw [Nat.min_eq_right h, List.take_of_length_le (Nat.le_refl _), List.take_of_length_le h]
/-- a list of numbers, as data -/
def iL (l : List Int) : List D := l.map .int
def Rg (l : List Int) : Prop := ∀ x ∈ l, 0 ≤ x ∧ x < 9967
theorem fmodR {a b : Int} (hb : 0 < b) : 0 ≤ a.fmod b ∧ a.fmod b < b := by
  rw [fmod_pos hb]
  exact ⟨Int.emod_nonneg _ (by omega), Int.emod_lt_of_pos _ hb⟩
theorem Rg.snoc {l : List Int} {x : Int} (h : Rg l) (h1 : 0 ≤ x) (h2 : x < 9967) : Rg (l ++ [x]) := fun y hy => by
  rcases List.mem_append.mp hy with h' | h'
  · exact h y h'
  · rw [List.mem_singleton.mp h']; exact ⟨h1, h2⟩
theorem iL_snoc {l : List Int} {x : Int} : iL (l ++ [x]) = iL l ++ [.int x] := by simp [iL]
theorem iL_len {l : List Int} : (iL l).length = l.length := by simp [iL]
noncomputable abbrev nIn : M Fl := ifM (tstD (bin2 (purO gtI) (locD 5) (cstD (.int 0)))) (seqM (exprM (mtO 2 appF (consA (bin2 (purO modI) (locD 5) (cstD (.int 1013))) (nilA)))) (setM 5 (valR (bin2 (purO fdivI) (locD 5) (cstD (.int 1013)))))) (nopM)
theorem nIn_ok {ds : List Int} {rest : Int} {s0 s1 s3 s4 s6 : SD} {ob : List OD} (h : Rg ds) (hl : ds.length ≤ 100000) :
    ∃ ds' rest', nIn ⟨[s0, s1, .own (iL ds), s3, s4, .val (.int rest), s6], ob⟩ = .ok .nx ⟨[s0, s1, .own (iL ds'), s3, s4, .val (.int rest'), s6], ob⟩ ∧ Rg ds' ∧ ds'.length ≤ ds.length + 1 := by
  have big : (100001 : Nat) ≤ sizeLine := by decide
  by_cases c : 0 < rest
  · have r := fmodR (a := rest) (b := 1013) (by decide)
    refine ⟨ds ++ [rest.fmod 1013], rest.fdiv 1013, ?_, h.snoc r.1 (by omega), by simp⟩
    have hlen : (iL ds).length < sizeLine := by rw [iL_len]; omega
    rw [iL_snoc]
    simp [c, hlen]
  · exact ⟨ds, rest, by simp [c], h, by omega⟩
noncomputable abbrev nOut : M Fl := (seqM (setM 3 (valR (bin2 (purO modI) (bin2 (purO addI) (bin2 (purO addI) (bin2 (purO mulI) (locD 3) (cstD (.int 40014))) (bin2 (purO modI) (locD 4) (cstD (.int 999979)))) (cstD (.int 41))) (cstD (.int 2147483563))))) (seqM (setM 5 (valR (bin2 (purO subI) (locD 4) (bin2 (purO powI) (cstD (.int 10)) (cstD (.int 18)))))) (seqM (ifM (tstD (bin2 (purO ltI) (locD 5) (cstD (.int 0)))) (exprM (mtO 2 appF (consA (bin2 (purO modI) (locD 4) (cstD (.int 9967))) (nilA)))) (nopM)) (forM (rng1 (consA (cstD (.int 60)) (nilA))) (setU 6) nIn))))
theorem seedOk {s c : Int} (h1 : 0 ≤ s) (h2 : s < 2147483648) (hc : c.natAbs < 2 ^ 31) : mulOk s c := mulOk_of (m := 31) (n := 31) (by omega) hc (by decide) (by decide) (by decide)
theorem pow18 : powI (.int 10) (.int 18) = some (.int 1000000000000000000) := by
  unfold powI
  dsimp only
  rw [if_pos (by decide)]
  rfl
theorem nOut_ok {ds : List Int} {seed cell : Int} {s0 s1 s5 s6 : SD} {ob : List OD} (h : Rg ds) (hl : ds.length ≤ 90000) (hs1 : 0 ≤ seed) (hs2 : seed < 2147483563) :
    ∃ ds' seed' s5' s6', nOut ⟨[s0, s1, .own (iL ds), .val (.int seed), .val (.int cell), s5, s6], ob⟩ = .ok .nx ⟨[s0, s1, .own (iL ds'), .val (.int seed'), .val (.int cell), s5', s6'], ob⟩ ∧ Rg ds' ∧ ds'.length ≤ ds.length + 61 ∧ 0 ≤ seed' ∧ seed' < 2147483563 := by
  have big : (100001 : Nat) ≤ sizeLine := by decide
  have hm := mulI_ok (seedOk (c := 40014) hs1 (by omega) (by decide))
  have r1 := fmodR (a := seed * 40014 + cell.fmod 999979 + 41) (b := 2147483563) (by decide)
  have f1 : setM 3 (valR (bin2 (purO modI) (bin2 (purO addI) (bin2 (purO addI) (bin2 (purO mulI) (locD 3) (cstD (.int 40014))) (bin2 (purO modI) (locD 4) (cstD (.int 999979)))) (cstD (.int 41))) (cstD (.int 2147483563)))) ⟨[s0, s1, .own (iL ds), .val (.int seed), .val (.int cell), s5, s6], ob⟩ = .ok .nx ⟨[s0, s1, .own (iL ds), .val (.int ((seed * 40014 + cell.fmod 999979 + 41).fmod 2147483563)), .val (.int cell), s5, s6], ob⟩ := by
    simp [hm]
  generalize (seed * 40014 + cell.fmod 999979 + 41).fmod 2147483563 = seed' at *
  have f2 : setM 5 (valR (bin2 (purO subI) (locD 4) (bin2 (purO powI) (cstD (.int 10)) (cstD (.int 18))))) ⟨[s0, s1, .own (iL ds), .val (.int seed'), .val (.int cell), s5, s6], ob⟩ = .ok .nx ⟨[s0, s1, .own (iL ds), .val (.int seed'), .val (.int cell), .val (.int (cell - 1000000000000000000)), s6], ob⟩ := by
    simp [pow18]
  generalize cell - 1000000000000000000 = rest at *
  have f3 : ∃ ds1, ifM (tstD (bin2 (purO ltI) (locD 5) (cstD (.int 0)))) (exprM (mtO 2 appF (consA (bin2 (purO modI) (locD 4) (cstD (.int 9967))) (nilA)))) (nopM) ⟨[s0, s1, .own (iL ds), .val (.int seed'), .val (.int cell), .val (.int rest), s6], ob⟩ = .ok .nx ⟨[s0, s1, .own (iL ds1), .val (.int seed'), .val (.int cell), .val (.int rest), s6], ob⟩ ∧ Rg ds1 ∧ ds1.length ≤ ds.length + 1 := by
    by_cases c : rest < 0
    · have r := fmodR (a := cell) (b := 9967) (by decide)
      have hlen : (iL ds).length < sizeLine := by rw [iL_len]; omega
      refine ⟨ds ++ [cell.fmod 9967], ?_, h.snoc r.1 r.2, by simp⟩
      rw [iL_snoc]
      simp [c, hlen]
    · exact ⟨ds, by simp [c], h, by omega⟩
  obtain ⟨ds1, f3, h1, hl1⟩ := f3
  have e1 : rng1 (consA (cstD (.int 60)) (nilA)) ⟨[s0, s1, .own (iL ds1), .val (.int seed'), .val (.int cell), .val (.int rest), s6], ob⟩ = .ok ((List.range' 0 60).map fun i => .int (i : Nat)) ⟨[s0, s1, .own (iL ds1), .val (.int seed'), .val (.int cell), .val (.int rest), s6], ob⟩ := rng1_ok (b := 60) (by simp) (by decide)
  obtain ⟨ρ', g1, ds', rest', s6', g2, g3, g4⟩ := forGo_inv (b := setU 6) (body := nIn) (fun i ρ' => ∃ ds' rest' s6', ρ' = ⟨[s0, s1, .own (iL ds'), .val (.int seed'), .val (.int cell), .val (.int rest'), s6'], ob⟩ ∧ Rg ds' ∧ ds'.length ≤ ds1.length + i) ((List.range' 0 60).map fun i => .int (i : Nat)) 0 ⟨[s0, s1, .own (iL ds1), .val (.int seed'), .val (.int cell), .val (.int rest), s6], ob⟩ ⟨ds1, rest, s6, rfl, h1, by omega⟩ (by
    rintro j d ρ2 hd ⟨ds2, rest2, s62, rfl, q1, q2⟩
    rw [Nat.zero_add] at *
    have hj : j < 60 := by simpa using (List.getElem?_eq_some_iff.mp hd).1
    obtain ⟨ds3, rest3, q3, q4, q5⟩ := nIn_ok (rest := rest2) (s0 := s0) (s1 := s1) (s3 := .val (.int seed')) (s4 := .val (.int cell)) (s6 := .val d) (ob := ob) q1 (by omega)
    exact ⟨_, _, by simp [setU], .inl q3, ds3, rest3, _, rfl, q4, by omega⟩)
  rw [Nat.zero_add, List.length_map, List.length_range'] at g4
  refine ⟨ds', seed', .val (.int rest'), s6', ?_, g3, by omega, r1.1, r1.2⟩
  rw [nOut, seqM_nx f1, seqM_nx f2, seqM_nx f3, forM_ok e1 g1, g2]
noncomputable abbrev nWh : M Fl := (seqM (setM 3 (valR (bin2 (purO modI) (bin2 (purO addI) (bin2 (purO addI) (bin2 (purO addI) (bin2 (purO mulI) (locD 3) (locD 3)) (bin2 (purO mulI) (cstD (.int 52774)) (locD 3))) (bin2 (purO mulI) (cstD (.int 23)) (frzM (cbO 2 lenS)))) (cstD (.int 5))) (cstD (.int 2147483629))))) (exprM (mtO 2 appF (consA (bin2 (purO modI) (bin2 (purO fdivI) (locD 3) (cstD (.int 1019))) (cstD (.int 9967))) (nilA)))))
theorem nWh_loop {many : Nat} {s0 s4 s5 s6 : SD} {ob : List OD} (hm : many ≤ 1000) : ∀ (k : Nat) (ds : List Int) (seed : Int), Rg ds → ds.length ≤ 100000 → many - ds.length ≤ k → 0 ≤ seed → seed < 2147483648 →
    ∃ ds' seed', whileM (tstD (bin2 (purO ltI) (frzM (cbO 2 lenS)) (locD 1))) nWh ⟨[s0, .val (.int (many : Nat)), .own (iL ds), .val (.int seed), s4, s5, s6], ob⟩ = .ok .nx ⟨[s0, .val (.int (many : Nat)), .own (iL ds'), .val (.int seed'), s4, s5, s6], ob⟩ ∧ Rg ds' ∧ many ≤ ds'.length
  | k, ds, seed, h, hl, hk, h1, h2 => by
    have big : (100001 : Nat) ≤ sizeLine := by decide
    by_cases c : ds.length < many
    · cases k with
      | zero => omega
      | succ k =>
        have hm1 := mulI_ok (mulOk_of (i := seed) (j := seed) (m := 31) (n := 31) (by omega) (by omega) (by decide) (by decide) (by decide))
        have hm2 := mulI_ok (mulOk_of (i := 52774) (j := seed) (m := 31) (n := 31) (by decide) (by omega) (by decide) (by decide) (by decide))
        have hm3 := mulI_ok (mulOk_of (i := 23) (j := (ds.length : Int)) (m := 31) (n := 31) (by decide) (by omega) (by decide) (by decide) (by decide))
        have r1 := fmodR (a := seed * seed + 52774 * seed + 23 * (ds.length : Int) + 5) (b := 2147483629) (by decide)
        have f1 : setM 3 (valR (bin2 (purO modI) (bin2 (purO addI) (bin2 (purO addI) (bin2 (purO addI) (bin2 (purO mulI) (locD 3) (locD 3)) (bin2 (purO mulI) (cstD (.int 52774)) (locD 3))) (bin2 (purO mulI) (cstD (.int 23)) (frzM (cbO 2 lenS)))) (cstD (.int 5))) (cstD (.int 2147483629)))) ⟨[s0, .val (.int (many : Nat)), .own (iL ds), .val (.int seed), s4, s5, s6], ob⟩ = .ok .nx ⟨[s0, .val (.int (many : Nat)), .own (iL ds), .val (.int ((seed * seed + 52774 * seed + 23 * (ds.length : Int) + 5).fmod 2147483629)), s4, s5, s6], ob⟩ := by
          simp [hm1, hm2, hm3, iL_len]
        generalize (seed * seed + 52774 * seed + 23 * (ds.length : Int) + 5).fmod 2147483629 = seed' at *
        have r2 := fmodR (a := seed'.fdiv 1019) (b := 9967) (by decide)
        have hlen : (iL ds).length < sizeLine := by rw [iL_len]; omega
        have f2 : nWh ⟨[s0, .val (.int (many : Nat)), .own (iL ds), .val (.int seed), s4, s5, s6], ob⟩ = .ok .nx ⟨[s0, .val (.int (many : Nat)), .own (iL (ds ++ [(seed'.fdiv 1019).fmod 9967])), .val (.int seed'), s4, s5, s6], ob⟩ := by
          rw [nWh, seqM_nx f1, iL_snoc]
          simp [hlen]
        obtain ⟨ds', seed2, q1, q2, q3⟩ := nWh_loop hm k (ds ++ [(seed'.fdiv 1019).fmod 9967]) seed' (h.snoc r2.1 r2.2) (by simp; omega) (by simp; omega) r1.1 (by omega)
        refine ⟨ds', seed2, whileM_turn (ρ1 := ⟨[s0, .val (.int (many : Nat)), .own (iL ds), .val (.int seed), s4, s5, s6], ob⟩) ?_ f2 q1 rfl, q2, q3⟩
        have : (ds.length : Int) < (many : Int) := by omega
        simp [iL_len, this]
    · refine ⟨ds, seed, whileM_stop ?_, h, by omega⟩
      have : ¬ (ds.length : Int) < (many : Int) := by omega
      simp [iL_len, this]
theorem numbers_ok {script : List Int} {many : Nat} {ρ : En} (hs : script.length ≤ 100000) (hm : many ≤ 1000) : ∃ ds, Ph__law_numbers [.frz (iL script), .int (many : Nat)] ρ = .ok (.o (iL ds)) ⟨[], ρ.ob⟩ ∧ Rg ds ∧ ds.length = many := by
  have f1 : setM 2 (lstR (nilA)) ⟨slots0 7 [.frz (iL script), .int (many : Nat)], ρ.ob⟩ = .ok .nx ⟨[.val (.frz (iL script)), .val (.int (many : Nat)), .own [], .un, .un, .un, .un], ρ.ob⟩ := by simp
  have f2 : setM 3 (valR (cstD (.int 97))) ⟨[.val (.frz (iL script)), .val (.int (many : Nat)), .own [], .un, .un, .un, .un], ρ.ob⟩ = .ok .nx ⟨[.val (.frz (iL script)), .val (.int (many : Nat)), .own [], .val (.int 97), .un, .un, .un], ρ.ob⟩ := by simp
  have e1 : itsD (frzM (sliceR (locD 0) (noPart) (partM (cstD (.int 63))))) ⟨[.val (.frz (iL script)), .val (.int (many : Nat)), .own [], .val (.int 97), .un, .un, .un], ρ.ob⟩ = .ok (cutD (iL script) none (some 63)) ⟨[.val (.frz (iL script)), .val (.int (many : Nat)), .own [], .val (.int 97), .un, .un, .un], ρ.ob⟩ := by simp
  have hcut : cutD (iL script) none (some 63) = iL (script.take 63) := by
    have := cut_nat (l := iL script) (k := 63)
    rw [show (63 : Int) = ((63 : Nat) : Int) from rfl, this, iL, iL, List.map_take]
  rw [hcut] at e1
  obtain ⟨ρ', g1, ds, seed, s4, s5, s6, g2, g3, g4, g5, g6⟩ := forGo_inv (b := setU 4) (body := nOut) (fun i ρ' => ∃ ds seed s4 s5 s6, ρ' = ⟨[.val (.frz (iL script)), .val (.int (many : Nat)), .own (iL ds), .val (.int seed), s4, s5, s6], ρ.ob⟩ ∧ Rg ds ∧ ds.length ≤ 61 * i ∧ 0 ≤ seed ∧ seed < 2147483563) (iL (script.take 63)) 0 ⟨[.val (.frz (iL script)), .val (.int (many : Nat)), .own [], .val (.int 97), .un, .un, .un], ρ.ob⟩ ⟨[], 97, _, _, _, rfl, fun x hx => (by cases hx), by simp, by decide, by decide⟩ (by
    rintro j d ρ2 hd ⟨ds, seed, s4, s5, s6, rfl, q1, q2, q3, q4⟩
    rw [Nat.zero_add] at *
    have hj : j < 63 := by
      have := (List.getElem?_eq_some_iff.mp hd).1
      rw [iL_len, List.length_take] at this
      omega
    unfold iL at hd
    rw [List.getElem?_map] at hd
    cases hc : (script.take 63)[j]? with
    | none => rw [hc] at hd; cases hd
    | some cell =>
      rw [hc] at hd
      cases hd
      obtain ⟨ds', seed', s5', s6', p1, p2, p3, p4, p5⟩ := nOut_ok (cell := cell) (s0 := .val (.frz (iL script))) (s1 := .val (.int (many : Nat))) (s5 := s5) (s6 := s6) (ob := ρ.ob) q1 (by omega) q3 q4
      exact ⟨_, _, by simp [setU], .inl p1, ds', seed', _, _, _, rfl, p2, by omega, p4, p5⟩)
  rw [Nat.zero_add, iL_len, List.length_take] at g4
  obtain ⟨ds', seed', w1, w2, w3⟩ := nWh_loop (s0 := .val (.frz (iL script))) (s4 := s4) (s5 := s5) (s6 := s6) (ob := ρ.ob) hm many ds seed g3 (by omega) (by omega) g5 (by omega)
  refine ⟨ds'.take many, ?_, fun x hx => w2 x (List.mem_of_mem_take hx), by rw [List.length_take]; omega⟩
  refine callF_rt (s := [.val (.frz (iL script)), .val (.int (many : Nat)), .own (iL ds'), .val (.int seed'), s4, s5, s6]) ?_
  rw [m__law_numbers, seqM_nx f1, seqM_nx f2, seqM_nx (forM_ok e1 g1), g2, seqM_nx w1]
  have hcut2 : cutD (iL ds') none (some (many : Int)) = iL (ds'.take many) := by rw [cut_nat, iL, iL, List.map_take]
  simp [hcut2]
end N57
set_option maxHeartbeats 200000
namespace N57
open PySem LW LP
theorem lpart_loop : ∀ (n : Nat) (a b : Int) (s0 s1 s4 : SD) (ob : List OD), 0 ≤ a → 0 ≤ b → b.toNat ≤ n →
    whileM (tstD (bin2 (purO gtI) (locD 3) (cstD (.int 0)))) (parM 2 3 (consA (locD 3) (consA (bin2 (purO modI) (locD 2) (locD 3)) (nilA)))) ⟨[s0, s1, .val (.int a), .val (.int b), s4], ob⟩ = .ok .nx ⟨[s0, s1, .val (.int (Int.gcd a b)), .val (.int 0), s4], ob⟩
  | 0, a, b, s0, s1, s4, ob, ha, hb, h => by
    have e : b = 0 := by omega
    subst e
    have : ((Int.gcd a 0 : Nat) : Int) = a := by rw [Int.gcd_zero_right]; omega
    rw [this]
    exact whileM_stop (by simp)
  | n + 1, a, b, s0, s1, s4, ob, ha, hb, h => by
    by_cases e : b = 0
    · subst e
      have : ((Int.gcd a 0 : Nat) : Int) = a := by rw [Int.gcd_zero_right]; omega
      rw [this]
      exact whileM_stop (by simp)
    · have hp : 0 < b := by omega
      have h1 : 0 ≤ a % b := Int.emod_nonneg _ e
      have h2 : a % b < b := Int.emod_lt_of_pos _ hp
      have ih := lpart_loop n b (a % b) s0 s1 s4 ob hb h1 (by omega)
      rw [gcd_step ha hp]
      exact whileM_turn (ρ1 := ⟨[s0, s1, .val (.int a), .val (.int b), s4], ob⟩) (by simp [hp]) (by simp [e, fmod_pos hp]) ih rfl
theorem lpart_ok {u l : Int} {ρ : En} (hl : 0 < l) : Ph__law_part [.int u, .int l] ρ = .ok (.v (rD (Rat.divInt u l))) ⟨[], ρ.ob⟩ := by
  have hn : ¬ l < 0 := by omega
  have f1 : parM 2 3 (consA (frzM (cbM absF (consA (locD 0) (nilA)))) (consA (frzM (cbM absF (consA (locD 1) (nilA)))) (nilA))) ⟨slots0 5 [.int u, .int l], ρ.ob⟩ = .ok .nx ⟨[.val (.int u), .val (.int l), .val (.int (if u < 0 then -u else u)), .val (.int l), .un], ρ.ob⟩ := by
    simp [hn]
  have f2 := lpart_loop l.toNat (if u < 0 then -u else u) l (.val (.int u)) (.val (.int l)) .un ρ.ob (by split <;> omega) (by omega) (Nat.le_refl _)
  rw [gcd_abs] at f2
  have h0 : 0 < ((Int.gcd u l : Nat) : Int) := by
    have := Int.gcd_pos_of_ne_zero_right u (show l ≠ 0 by omega)
    omega
  have h0' : ((Int.gcd u l : Nat) : Int) ≠ 0 := by omega
  have e1 : u.fdiv (Int.gcd u l) = (Rat.divInt u l).num := by rw [fdiv_pos h0, num_pos hl]
  have e2 : l.fdiv (Int.gcd u l) = ((Rat.divInt u l).den : Nat) := by rw [fdiv_pos h0, den_pos hl]
  refine callF_rt (s := [.val (.int u), .val (.int l), .val (.int (Int.gcd u l)), .val (.int 0), .val (.int (Int.gcd u l))]) ?_
  rw [m__law_part, seqM_nx f1, seqM_nx f2]
  generalize (Int.gcd u l : Int) = gg at *
  simp [hl, h0', e1, e2, rD]
theorem den_pos' (a : Rat) : (0 : Int) < (a.den : Nat) := by have := a.den_pos; omega
section
variable {a b : Rat} {m n : Nat} {ρ : En} (ha : Sz a m) (hb : Sz b n) (h : m + n ≤ 67108864)
include ha hb h
theorem ltimes_ok : Ph__law_times [rD a, rD b] ρ = .ok (.v (rD (a * b))) ⟨[], ρ.ob⟩ := by
  obtain ⟨h1, h2, h3, h4, h5⟩ := ok4 ha hb h
  have := lpart_ok (u := a.num * b.num) (l := a.den * b.den) (ρ := ⟨[], ρ.ob⟩) (Int.mul_pos (den_pos' a) (den_pos' b))
  rw [times_eq] at this
  simp [Ph__law_times, m__law_times, rD, L2.atI, L2.ixN, mulI_ok, h1, h4] at this ⊢
  simp [this]
theorem lplus_ok : Ph__law_plus [rD a, rD b] ρ = .ok (.v (rD (a + b))) ⟨[], ρ.ob⟩ := by
  obtain ⟨h1, h2, h3, h4, h5⟩ := ok4 ha hb h
  have := lpart_ok (u := a.num * b.den + b.num * a.den) (l := a.den * b.den) (ρ := ⟨[], ρ.ob⟩) (Int.mul_pos (den_pos' a) (den_pos' b))
  rw [plus_eq] at this
  simp [Ph__law_plus, m__law_plus, rD, L2.atI, L2.ixN, mulI_ok, h2, h3, h4] at this ⊢
  simp [this]
end
theorem up_list {k : Int} (h1 : 0 ≤ k) (h2 : k < 8) : ∃ p, L2.atI [D.int 0, D.int 0, D.int 1, D.int 1, D.int 1, D.int 2, D.int 3, D.int 5] k = some (.int p) ∧ 0 ≤ p ∧ p ≤ 5 := by
  have : k = 0 ∨ k = 1 ∨ k = 2 ∨ k = 3 ∨ k = 4 ∨ k = 5 ∨ k = 6 ∨ k = 7 := by omega
  rcases this with e | e | e | e | e | e | e | e <;> (subst e; exact ⟨_, rfl, by decide, by decide⟩)
theorem down_list {k : Int} (h1 : 0 ≤ k) (h2 : k < 5) : ∃ p, L2.atI [D.int 1, D.int 2, D.int 3, D.int 4, D.int 6] k = some (.int p) ∧ 0 < p ∧ p ≤ 6 := by
  have : k = 0 ∨ k = 1 ∨ k = 2 ∨ k = 3 ∨ k = 4 := by omega
  rcases this with e | e | e | e | e <;> (subst e; exact ⟨_, rfl, by decide, by decide⟩)
/-- a small part, not below nought -/
def Sm (q : Rat) (n : Nat) : Prop := 0 ≤ q ∧ Sz q n
theorem share_ok (x : Int) : ∃ q, (∀ ρ : En, Ph__law_share [.int x] ρ = .ok (.v (rD q)) ⟨[], ρ.ob⟩) ∧ Sm q 3 := by
  have r1 := fmodR (a := x) (b := 8) (by decide)
  have r2 := fmodR (a := x.fdiv 8) (b := 5) (by decide)
  obtain ⟨p, e1, p1, p2⟩ := up_list r1.1 r1.2
  obtain ⟨q, e2, q1, q2⟩ := down_list r2.1 r2.2
  refine ⟨Rat.divInt p q, fun ρ => ?_, Rat.divInt_nonneg p1 (by omega), Sz.divInt (by omega) (by omega) (by omega)⟩
  have e3 := lpart_ok (u := p) (l := q) (ρ := ⟨[], ρ.ob⟩) q1
  simp [Ph__law_share, m__law_share, e1, e2, e3]
theorem rate_ok {d : List Int} {ρ : En} (hd : 2 ≤ d.length) : ∃ q, Ph__law_rate [.lst (iL d)] ρ = .ok (.v (rD q)) ⟨[], ρ.ob⟩ ∧ 0 < q ∧ Sz q 4 := by
  match d, hd with
  | x :: y :: r, _ =>
    have r1 := fmodR (a := x) (b := 9) (by decide)
    have r2 := fmodR (a := y) (b := 5) (by decide)
    obtain ⟨q, e2, q1, q2⟩ := down_list r2.1 r2.2
    have e3 := lpart_ok (u := 1 + x.fmod 9) (l := q) (ρ := ⟨[], ρ.ob⟩) q1
    have g1 : L2.atI (iL (x :: y :: r)) (0 : Int) = some (.int x) := L2.atI_nat (j := 0) rfl
    have g2 : L2.atI (iL (x :: y :: r)) (1 : Int) = some (.int y) := L2.atI_nat (j := 1) rfl
    refine ⟨Rat.divInt (1 + x.fmod 9) q, ?_, ?_, Sz.divInt (by omega) (by omega) (by omega)⟩
    · simp [Ph__law_rate, m__law_rate, g1, g2, e2, e3]
    · have h1 : 0 ≤ Rat.divInt (1 + x.fmod 9) q := Rat.divInt_nonneg (by omega) (by omega)
      have h2 : Rat.divInt (1 + x.fmod 9) q ≠ 0 := fun e => by
        have := congrArg Rat.num e
        rw [Rat.divInt_eq_div] at e
        have hq : ((q : Int) : Rat) ≠ 0 := fun z => by
          have := Rat.intCast_eq_zero_iff.mp z
          omega
        have h3 := Rat.div_mul_cancel (a := ((1 + x.fmod 9 : Int) : Rat)) hq
        rw [e, Rat.zero_mul] at h3
        have := Rat.intCast_eq_zero_iff.mp h3.symm
        omega
      grind
/-- the law's own sum of products -/
theorem lsum_ok {a b : List Rat} {A B : Nat} {ρ : En} (h : a.length = b.length) (ha : SzL a A) (hb : SzL b B) (hs : (a.length + 1) * (A + B + 1) + 1 ≤ 67108864) :
    Ph__law_sum [rT a, rT b] ρ = .ok (.v (rD (dot a.length a b))) ⟨[], ρ.ob⟩ := by
  have f1 : setM 2 (valR (tupD (consA (cstD (.int 0)) (consA (cstD (.int 1)) (nilA))))) ⟨slots0 5 [rT a, rT b], ρ.ob⟩ = .ok .nx ⟨[.val (rT a), .val (rT b), .val (rD 0), .un, .un], ρ.ob⟩ := by
    simp [rD0]
  have e1 : zipD false (consA (locD 0) (consA (locD 1) (nilA))) ⟨[.val (rT a), .val (rT b), .val (rD 0), .un, .un], ρ.ob⟩ = .ok ((a.zip b).map fun p => .tup [rD p.1, rD p.2]) ⟨[.val (rT a), .val (rT b), .val (rD 0), .un, .un], ρ.ob⟩ := by
    simp [zipL_map]
  obtain ⟨ρ', h1, s3, s4, h2⟩ := forGo_inv (b := tupU 2 (consG (setU 3) (consG (setU 4) (nilG)))) (body := setM 2 (valR (frzM (callM 2 (consA (locD 2) (consA (frzM (callM 2 (consA (locD 3) (consA (locD 4) (nilA))) [] (Ph__law_times))) (nilA))) [] (Ph__law_plus)))))
    (fun i ρ' => ∃ s3 s4, ρ' = ⟨[.val (rT a), .val (rT b), .val (rD (dot i a b)), s3, s4], ρ.ob⟩) ((a.zip b).map fun p => .tup [rD p.1, rD p.2]) 0 ⟨[.val (rT a), .val (rT b), .val (rD 0), .un, .un], ρ.ob⟩ ⟨_, _, rfl⟩ (by
      rintro j d ρ2 hd ⟨s3, s4, rfl⟩
      rw [Nat.zero_add] at *
      have hj : j < a.length := by
        have := (List.getElem?_eq_some_iff.mp hd).1
        simp [h] at this
        omega
      have ed : d = .tup [rD (at0 a j), rD (at0 b j)] := by
        have : (a.zip b)[j]? = some (at0 a j, at0 b j) := by
          rw [List.getElem?_zip_eq_some]
          exact ⟨at0_get hj, at0_get (by omega)⟩
        rw [List.getElem?_map, this] at hd
        exact (Option.some.inj hd).symm
      subst ed
      have sa := ha _ (at0_mem hj)
      have sb := hb _ (at0_mem (l := b) (i := j) (by omega))
      have sd := Sz.dot (n := j) ha hb (by omega) (by omega)
      have bnd : j * (A + B + 1) + 1 + (A + B) ≤ 67108864 := by
        have : (j + 1) * (A + B + 1) ≤ (a.length + 1) * (A + B + 1) := Nat.mul_le_mul_right _ (by omega)
        rw [Nat.add_mul, Nat.one_mul] at this
        omega
      refine ⟨⟨[.val (rT a), .val (rT b), .val (rD (dot j a b)), .val (rD (at0 a j)), .val (rD (at0 b j))], ρ.ob⟩, ⟨[.val (rT a), .val (rT b), .val (rD (dot (j + 1) a b)), .val (rD (at0 a j)), .val (rD (at0 b j))], ρ.ob⟩, by simp, .inl ?_, ⟨_, _, rfl⟩⟩
      have hdot : dot (j + 1) a b = dot j a b + at0 a j * at0 b j := rfl
      rw [hdot]
      simp [ltimes_ok sa sb (by omega), lplus_ok sd (sa.mul sb) bnd])
  refine callF_rt (s := [.val (rT a), .val (rT b), .val (rD (dot a.length a b)), s3, s4]) ?_
  rw [m__law_sum, seqM_nx f1, seqM_nx (forM_ok e1 h1), h2]
  simp [h]
end N57
set_option maxHeartbeats 200000
namespace N57
open PySem LW LP
noncomputable def shareQ (x : Int) : Rat := Classical.choose (share_ok x)
theorem shareQ_ok (x : Int) : (∀ ρ : En, Ph__law_share [.int x] ρ = .ok (.v (rD (shareQ x))) ⟨[], ρ.ob⟩) ∧ Sm (shareQ x) 3 := Classical.choose_spec (share_ok x)
def byL : List D := [D.tup [.int 1, .int 2], D.tup [.int 1, .int 3], D.tup [.int 0, .int 1]]
theorem by_list (x : Int) : ∃ q, L2.atI byL (x.fmod 3) = some (rD q) ∧ Sm q 2 := by
  have r1 := fmodR (a := x) (b := 3) (by decide)
  have : x.fmod 3 = 0 ∨ x.fmod 3 = 1 ∨ x.fmod 3 = 2 := by omega
  rcases this with e | e | e
  · rw [e]; exact ⟨⟨1, 2, by decide, by decide⟩, rfl, by decide, by decide, by decide⟩
  · rw [e]; exact ⟨⟨1, 3, by decide, by decide⟩, rfl, by decide, by decide, by decide⟩
  · rw [e]; exact ⟨0, rfl, by decide, by decide, by decide⟩
noncomputable def byQ (x : Int) : Rat := Classical.choose (by_list x)
theorem byQ_ok (x : Int) : L2.atI byL (x.fmod 3) = some (rD (byQ x)) ∧ Sm (byQ x) 2 := Classical.choose_spec (by_list x)
theorem Sm.mono {q : Rat} {m n : Nat} (h : Sm q m) (hmn : m ≤ n) : Sm q n := ⟨h.1, h.2.mono hmn⟩
theorem cut_nat2 {l : List Int} {a b : Nat} (hab : a ≤ b) (hb : b ≤ l.length) : cutD (iL l) (some (a : Int)) (some (b : Int)) = iL ((l.drop a).take (b - a)) := by
  unfold cutD
  rw [HT.sIx_nat, HT.sIx_nat, iL_len, Nat.min_eq_left (Nat.le_trans hab hb), Nat.min_eq_left hb]
  simp [iL, List.map_take, List.map_drop]
theorem small_mul {a b : Int} (ha : a.natAbs < 2 ^ 31) (hb : b.natAbs < 2 ^ 31) : mulI (.int a) (.int b) = some (.int (a * b)) := mulI_ok (mulOk_of (m := 31) (n := 31) ha hb (by decide) (by decide) (by decide))
theorem iL_get {l : List Int} {i : Nat} {x : Int} (h : l[i]? = some x) : L2.atI (iL l) (i : Int) = some (.int x) := atI_map (e := D.int) h
/-- a line: n small parts -/
def LineOk (n : Nat) (l : List Rat) : Prop := l.length = n ∧ ∀ x ∈ l, Sm x 5
noncomputable abbrev mIn : M Fl := (seqM (seqM (setM 9 (lcM (itsD (frzM (sliceR (locD 6) (partM (bin2 (purO addI) (cstD (.int 2)) (bin2 (purO mulI) (cstD (.int 5)) (locD 8)))) (partM (bin2 (purO addI) (bin2 (purO addI) (cstD (.int 2)) (bin2 (purO mulI) (cstD (.int 5)) (locD 8))) (locD 2)))))) (setU 11) (yesT) (frzM (callM 1 (consA (locD 11) (nilA)) [] (Ph__law_share))) [11])) (letM 9)) (seqM (seqM (setM 10 (lcM (rng1 (consA (locD 2) (nilA))) (setU 12) (yesT) (bin2 (purO ixO) (frzM (lstR (consA (tupD (consA (cstD (.int 1)) (consA (cstD (.int 2)) (nilA)))) (consA (tupD (consA (cstD (.int 1)) (consA (cstD (.int 3)) (nilA)))) (consA (tupD (consA (cstD (.int 0)) (consA (cstD (.int 1)) (nilA)))) (nilA)))))) (bin2 (purO modI) (bin2 (purO addI) (bin2 (purO fdivI) (bin2 (purO ixO) (locD 6) (cstD (.int 1))) (cstD (.int 3))) (locD 12)) (cstD (.int 3)))) [12])) (letM 10)) (seqM (ifM (tstD (bin2 (purO eqO) (locD 3) (cstD (.int 1)))) (seqM (setM 9 (lcM (zipD false (consA (locD 9) (consA (locD 10) (nilA)))) (tupU 2 (consG (setU 11) (consG (setU 13) (nilG)))) (yesT) (frzM (callM 2 (consA (locD 11) (consA (locD 13) (nilA))) [] (Ph__law_times))) [11, 13])) (letM 9)) (nopM)) (exprM (mtO 7 appF (consA (frzM (cbM tupleF (consA (locD 9) (nilA)))) (nilA)))))))
theorem let_own {i : Nat} {m : M RV} {ρ ρ1 : En} {l : List D} (h : m ρ = .ok (.o l) ρ1) (hi : i < ρ1.sl.length) : seqM (setM i m) (letM i) ρ = .ok .nx (ρ1.set i (.val (.lst l))) := by
  have h1 : setM i m ρ = .ok .nx (ρ1.set i (.own l)) := by
    unfold setM
    rw [h, Res.bind_ok, if_pos hi]
    rfl
  rw [seqM_nx h1]
  unfold letM
  have e : (ρ1.set i (.own l)).sl[i]? = some (.own l) := by
    show (ρ1.sl.set i (.own l))[i]? = _
    rw [List.getElem?_set_self hi]
  rw [e]
  simp [En.set]
theorem mIn_ok {own : List Int} {n r : Nat} {thin : Int} {lines : List (List Rat)} {s0 s1 s4 s5 s9 s10 s11 s12 s13 : SD} {ob : List OD} (ho : own.length = 20) (hn : n ≤ 3) (hr : r ≤ 2) (hl : lines.length ≤ 10) :
    ∃ line t9 t10 t11 t12 t13, mIn ⟨[s0, s1, .val (.int (n : Nat)), .val (.int thin), s4, s5, .val (.lst (iL own)), .own (lines.map rT), .val (.int (r : Nat)), s9, s10, s11, s12, s13], ob⟩ = .ok .nx ⟨[s0, s1, .val (.int (n : Nat)), .val (.int thin), s4, s5, .val (.lst (iL own)), .own ((lines ++ [line]).map rT), .val (.int (r : Nat)), t9, t10, t11, t12, t13], ob⟩ ∧ LineOk n line := by
  have big : (100 : Nat) ≤ sizeLine := by decide
  have hmul := small_mul (a := 5) (b := (r : Int)) (by decide) (by omega)
  have hcut := cut_nat2 (l := own) (a := 2 + 5 * r) (b := 2 + 5 * r + n) (by omega) (by omega)
  have hlen : ((own.drop (2 + 5 * r)).take n).length = n := by rw [List.length_take, List.length_drop]; omega
  rw [show 2 + 5 * r + n - (2 + 5 * r) = n by omega] at hcut
  generalize (own.drop (2 + 5 * r)).take n = xs at hcut hlen
  have e1 : itsD (frzM (sliceR (locD 6) (partM (bin2 (purO addI) (cstD (.int 2)) (bin2 (purO mulI) (cstD (.int 5)) (locD 8)))) (partM (bin2 (purO addI) (bin2 (purO addI) (cstD (.int 2)) (bin2 (purO mulI) (cstD (.int 5)) (locD 8))) (locD 2))))) ⟨[s0, s1, .val (.int (n : Nat)), .val (.int thin), s4, s5, .val (.lst (iL own)), .own (lines.map rT), .val (.int (r : Nat)), s9, s10, s11, s12, s13], ob⟩ = .ok (xs.map D.int) ⟨[s0, s1, .val (.int (n : Nat)), .val (.int thin), s4, s5, .val (.lst (iL own)), .own (lines.map rT), .val (.int (r : Nat)), s9, s10, s11, s12, s13], ob⟩ := by
    have c1 : ((2 + 5 * r : Nat) : Int) = 2 + 5 * (r : Int) := by omega
    have c2 : ((2 + 5 * r + n : Nat) : Int) = 2 + 5 * (r : Int) + (n : Int) := by omega
    rw [c1, c2] at hcut
    simp [hmul, hcut]
    rfl
  have k1 := lcM_map (vs := [11]) (b := setU 11) (el := frzM (callM 1 (consA (locD 11) (nilA)) [] (Ph__law_share))) (f := fun x => rD (shareQ x)) (ρk := ⟨[s0, s1, .val (.int (n : Nat)), .val (.int thin), s4, s5, .val (.lst (iL own)), .own (lines.map rT), .val (.int (r : Nat)), s9, s10, .un, s12, s13], ob⟩) (ρ2 := ⟨[s0, s1, .val (.int (n : Nat)), .val (.int thin), s4, s5, .val (.lst (iL own)), .own (lines.map rT), .val (.int (r : Nat)), s9, s10, SD.keep (some s11), s12, s13], ob⟩) e1 (by omega) (by simp [En.kills]) (fun x hx => by
    refine ⟨⟨[s0, s1, .val (.int (n : Nat)), .val (.int thin), s4, s5, .val (.lst (iL own)), .own (lines.map rT), .val (.int (r : Nat)), s9, s10, .val (.int x), s12, s13], ob⟩, ⟨[s0, s1, .val (.int (n : Nat)), .val (.int thin), s4, s5, .val (.lst (iL own)), .own (lines.map rT), .val (.int (r : Nat)), s9, s10, .val (.int x), s12, s13], ob⟩, by simp, ?_, by simp [En.kills]⟩
    simp [(shareQ_ok x).1]) (by simp [En.back])
  have f1 := let_own (i := 9) k1 (by simp)
  rw [show (xs.map fun x => rD (shareQ x)) = (xs.map shareQ).map rD by rw [List.map_map]; rfl] at f1
  have hl1 : (xs.map shareQ).length = n := by rw [List.length_map]; exact hlen
  have hsz1 : ∀ x ∈ xs.map shareQ, Sm x 3 := fun x hx => by
    obtain ⟨y, _, rfl⟩ := List.mem_map.mp hx
    exact (shareQ_ok y).2
  generalize xs.map shareQ = so at f1 hl1 hsz1
  have f1' : seqM (setM 9 (lcM (itsD (frzM (sliceR (locD 6) (partM (bin2 (purO addI) (cstD (.int 2)) (bin2 (purO mulI) (cstD (.int 5)) (locD 8)))) (partM (bin2 (purO addI) (bin2 (purO addI) (cstD (.int 2)) (bin2 (purO mulI) (cstD (.int 5)) (locD 8))) (locD 2)))))) (setU 11) (yesT) (frzM (callM 1 (consA (locD 11) (nilA)) [] (Ph__law_share))) [11])) (letM 9) ⟨[s0, s1, .val (.int (n : Nat)), .val (.int thin), s4, s5, .val (.lst (iL own)), .own (lines.map rT), .val (.int (r : Nat)), s9, s10, s11, s12, s13], ob⟩ = .ok .nx ⟨[s0, s1, .val (.int (n : Nat)), .val (.int thin), s4, s5, .val (.lst (iL own)), .own (lines.map rT), .val (.int (r : Nat)), .val (rL so), s10, SD.keep (some s11), s12, s13], ob⟩ := f1
  generalize SD.keep (some s11) = t11 at f1'
  obtain ⟨w, hw⟩ : ∃ w, own[1]? = some w := ⟨own[1], by simp [ho]⟩
  have hix := iL_get hw
  have k2 := lcM_map (m := rng1 (consA (locD 2) (nilA))) (vs := [12]) (b := setU 12) (el := bin2 (purO ixO) (frzM (lstR (consA (tupD (consA (cstD (.int 1)) (consA (cstD (.int 2)) (nilA)))) (consA (tupD (consA (cstD (.int 1)) (consA (cstD (.int 3)) (nilA)))) (consA (tupD (consA (cstD (.int 0)) (consA (cstD (.int 1)) (nilA)))) (nilA)))))) (bin2 (purO modI) (bin2 (purO addI) (bin2 (purO fdivI) (bin2 (purO ixO) (locD 6) (cstD (.int 1))) (cstD (.int 3))) (locD 12)) (cstD (.int 3)))) (e := fun i : Nat => D.int (i : Nat)) (f := fun i => rD (byQ (w.fdiv 3 + (i : Nat)))) (xs := List.range' 0 n)
    (ρ := ⟨[s0, s1, .val (.int (n : Nat)), .val (.int thin), s4, s5, .val (.lst (iL own)), .own (lines.map rT), .val (.int (r : Nat)), .val (rL so), s10, t11, s12, s13], ob⟩) (ρ1 := ⟨[s0, s1, .val (.int (n : Nat)), .val (.int thin), s4, s5, .val (.lst (iL own)), .own (lines.map rT), .val (.int (r : Nat)), .val (rL so), s10, t11, s12, s13], ob⟩) (ρk := ⟨[s0, s1, .val (.int (n : Nat)), .val (.int thin), s4, s5, .val (.lst (iL own)), .own (lines.map rT), .val (.int (r : Nat)), .val (rL so), s10, t11, .un, s13], ob⟩) (ρ2 := ⟨[s0, s1, .val (.int (n : Nat)), .val (.int thin), s4, s5, .val (.lst (iL own)), .own (lines.map rT), .val (.int (r : Nat)), .val (rL so), s10, t11, SD.keep (some s12), s13], ob⟩)
    (rng1_ok (by simp) (by omega)) (by rw [List.length_range']; omega) (by simp [En.kills]) (fun i hi => by
    refine ⟨⟨[s0, s1, .val (.int (n : Nat)), .val (.int thin), s4, s5, .val (.lst (iL own)), .own (lines.map rT), .val (.int (r : Nat)), .val (rL so), s10, t11, .val (.int (i : Nat)), s13], ob⟩, ⟨[s0, s1, .val (.int (n : Nat)), .val (.int thin), s4, s5, .val (.lst (iL own)), .own (lines.map rT), .val (.int (r : Nat)), .val (rL so), s10, t11, .val (.int (i : Nat)), s13], ob⟩, by simp, ?_, by simp [En.kills]⟩
    have hb := (byQ_ok (w.fdiv 3 + (i : Nat))).1
    have hix' : L2.atI (iL own) (1 : Int) = some (.int w) := hix
    unfold byL at hb
    simp [hix', hb]) (by simp [En.back])
  have f2 := let_own (i := 10) k2 (by simp)
  rw [show ((List.range' 0 n).map fun i => rD (byQ (w.fdiv 3 + (i : Nat)))) = ((List.range' 0 n).map fun i => byQ (w.fdiv 3 + (i : Nat))).map rD by rw [List.map_map]; rfl] at f2
  have hl2 : ((List.range' 0 n).map fun i => byQ (w.fdiv 3 + ((i : Nat) : Int))).length = n := by simp
  have hsz2 : ∀ x ∈ (List.range' 0 n).map fun i => byQ (w.fdiv 3 + ((i : Nat) : Int)), Sm x 2 := fun x hx => by
    obtain ⟨y, _, rfl⟩ := List.mem_map.mp hx
    exact (byQ_ok _).2
  generalize ((List.range' 0 n).map fun i => byQ (w.fdiv 3 + ((i : Nat) : Int))) = bs at f2 hl2 hsz2
  have f2' : seqM (setM 10 (lcM (rng1 (consA (locD 2) (nilA))) (setU 12) (yesT) (bin2 (purO ixO) (frzM (lstR (consA (tupD (consA (cstD (.int 1)) (consA (cstD (.int 2)) (nilA)))) (consA (tupD (consA (cstD (.int 1)) (consA (cstD (.int 3)) (nilA)))) (consA (tupD (consA (cstD (.int 0)) (consA (cstD (.int 1)) (nilA)))) (nilA)))))) (bin2 (purO modI) (bin2 (purO addI) (bin2 (purO fdivI) (bin2 (purO ixO) (locD 6) (cstD (.int 1))) (cstD (.int 3))) (locD 12)) (cstD (.int 3)))) [12])) (letM 10) ⟨[s0, s1, .val (.int (n : Nat)), .val (.int thin), s4, s5, .val (.lst (iL own)), .own (lines.map rT), .val (.int (r : Nat)), .val (rL so), s10, t11, s12, s13], ob⟩ = .ok .nx ⟨[s0, s1, .val (.int (n : Nat)), .val (.int thin), s4, s5, .val (.lst (iL own)), .own (lines.map rT), .val (.int (r : Nat)), .val (rL so), .val (rL bs), t11, SD.keep (some s12), s13], ob⟩ := f2
  generalize SD.keep (some s12) = t12 at f2'
  have f3 : ∃ line t11' t13, ifM (tstD (bin2 (purO eqO) (locD 3) (cstD (.int 1)))) (seqM (setM 9 (lcM (zipD false (consA (locD 9) (consA (locD 10) (nilA)))) (tupU 2 (consG (setU 11) (consG (setU 13) (nilG)))) (yesT) (frzM (callM 2 (consA (locD 11) (consA (locD 13) (nilA))) [] (Ph__law_times))) [11, 13])) (letM 9)) (nopM) ⟨[s0, s1, .val (.int (n : Nat)), .val (.int thin), s4, s5, .val (.lst (iL own)), .own (lines.map rT), .val (.int (r : Nat)), .val (rL so), .val (rL bs), t11, t12, s13], ob⟩ = .ok .nx ⟨[s0, s1, .val (.int (n : Nat)), .val (.int thin), s4, s5, .val (.lst (iL own)), .own (lines.map rT), .val (.int (r : Nat)), .val (rL line), .val (rL bs), t11', t12, t13], ob⟩ ∧ LineOk n line := by
    by_cases c : thin = 1
    · have k3 := lcM_map (m := zipD false (consA (locD 9) (consA (locD 10) (nilA)))) (vs := [11, 13]) (b := tupU 2 (consG (setU 11) (consG (setU 13) (nilG)))) (el := frzM (callM 2 (consA (locD 11) (consA (locD 13) (nilA))) [] (Ph__law_times))) (e := fun p : Rat × Rat => .tup [rD p.1, rD p.2]) (f := fun p => rD (p.1 * p.2)) (xs := so.zip bs)
        (ρ := ⟨[s0, s1, .val (.int (n : Nat)), .val (.int thin), s4, s5, .val (.lst (iL own)), .own (lines.map rT), .val (.int (r : Nat)), .val (rL so), .val (rL bs), t11, t12, s13], ob⟩) (ρ1 := ⟨[s0, s1, .val (.int (n : Nat)), .val (.int thin), s4, s5, .val (.lst (iL own)), .own (lines.map rT), .val (.int (r : Nat)), .val (rL so), .val (rL bs), t11, t12, s13], ob⟩) (ρk := ⟨[s0, s1, .val (.int (n : Nat)), .val (.int thin), s4, s5, .val (.lst (iL own)), .own (lines.map rT), .val (.int (r : Nat)), .val (rL so), .val (rL bs), .un, t12, .un], ob⟩) (ρ2 := ⟨[s0, s1, .val (.int (n : Nat)), .val (.int thin), s4, s5, .val (.lst (iL own)), .own (lines.map rT), .val (.int (r : Nat)), .val (rL so), .val (rL bs), SD.keep (some t11), t12, SD.keep (some s13)], ob⟩)
        (by simp [zipL_map]) (by rw [List.length_zip]; omega) (by simp [En.kills]) (fun p hp => by
        have h1 := hsz1 _ (List.of_mem_zip hp).1
        have h2 := hsz2 _ (List.of_mem_zip hp).2
        refine ⟨⟨[s0, s1, .val (.int (n : Nat)), .val (.int thin), s4, s5, .val (.lst (iL own)), .own (lines.map rT), .val (.int (r : Nat)), .val (rL so), .val (rL bs), .val (rD p.1), t12, .val (rD p.2)], ob⟩, ⟨[s0, s1, .val (.int (n : Nat)), .val (.int thin), s4, s5, .val (.lst (iL own)), .own (lines.map rT), .val (.int (r : Nat)), .val (rL so), .val (rL bs), .val (rD p.1), t12, .val (rD p.2)], ob⟩, by simp, ?_, by simp [En.kills]⟩
        simp [ltimes_ok h1.2 h2.2 (by decide)]) (by simp [En.back])
      have g3 := let_own (i := 9) k3 (by simp)
      refine ⟨(so.zip bs).map (fun p => p.1 * p.2), SD.keep (some t11), SD.keep (some s13), ?_, by rw [List.length_map, List.length_zip]; omega, fun x hx => ?_⟩
      · rw [ifM_tt (ρ1 := ⟨[s0, s1, .val (.int (n : Nat)), .val (.int thin), s4, s5, .val (.lst (iL own)), .own (lines.map rT), .val (.int (r : Nat)), .val (rL so), .val (rL bs), t11, t12, s13], ob⟩) (by simp [c]), g3]
        simp [rL, List.map_map]
      · obtain ⟨p, hp, rfl⟩ := List.mem_map.mp hx
        have h1 := hsz1 _ (List.of_mem_zip hp).1
        have h2 := hsz2 _ (List.of_mem_zip hp).2
        exact ⟨Rat.mul_nonneg h1.1 h2.1, h1.2.mul h2.2⟩
    · exact ⟨so, t11, s13, by rw [ifM_ff (ρ1 := ⟨[s0, s1, .val (.int (n : Nat)), .val (.int thin), s4, s5, .val (.lst (iL own)), .own (lines.map rT), .val (.int (r : Nat)), .val (rL so), .val (rL bs), t11, t12, s13], ob⟩) (by simp [c])]; rfl, hl1, fun x hx => (hsz1 x hx).mono (by decide)⟩
  obtain ⟨line, t11', t13, f3, hline⟩ := f3
  refine ⟨line, .val (rL line), .val (rL bs), t11', t12, t13, ?_, hline⟩
  rw [mIn, seqM_nx f1', seqM_nx f2', seqM_nx f3]
  have hlen2 : lines.length < sizeLine := by omega
  rw [List.map_append]
  simp [rT, hlen2]
end N57
set_option maxHeartbeats 200000
namespace N57
open PySem LW LP
abbrev Ent : Type := Bool × List (List Rat)
def whoS (b : Bool) : Str := if b then "weather" else "we"
def eD (e : Ent) : D := .tup [.str (whoS e.1), .tup (e.2.map rT)]
def EntOk (n : Nat) (e : Ent) : Prop := 1 ≤ e.2.length ∧ e.2.length ≤ 3 ∧ ∀ l ∈ e.2, LineOk n l
noncomputable abbrev mOut : M Fl := (seqM (setM 6 (valR (frzM (sliceR (locD 0) (partM (bin2 (purO addI) (cstD (.int 1)) (bin2 (purO mulI) (cstD (.int 20)) (locD 5)))) (partM (bin2 (purO addI) (cstD (.int 21)) (bin2 (purO mulI) (cstD (.int 20)) (locD 5)))))))) (seqM (setM 7 (lstR (nilA))) (seqM (forM (rng1 (consA (bin2 (purO addI) (cstD (.int 1)) (bin2 (purO modI) (bin2 (purO ixO) (locD 6) (cstD (.int 1))) (cstD (.int 3)))) (nilA))) (setU 8) mIn) (exprM (mtO 4 appF (consA (tupD (consA (bin2 (purO ixO) (frzM (lstR (consA (cstD (.str "we")) (consA (cstD (.str "weather")) (nilA))))) (bin2 (purO modI) (bin2 (purO ixO) (locD 6) (cstD (.int 0))) (cstD (.int 2)))) (consA (frzM (cbO 7 tupleS)) (nilA)))) (nilA)))))))
theorem who_list (x : Int) : ∃ b, L2.atI [D.str "we", D.str "weather"] (x.fmod 2) = some (.str (whoS b)) := by
  have r1 := fmodR (a := x) (b := 2) (by decide)
  have : x.fmod 2 = 0 ∨ x.fmod 2 = 1 := by omega
  rcases this with e | e
  · rw [e]; exact ⟨false, rfl⟩
  · rw [e]; exact ⟨true, rfl⟩
theorem mOut_ok {d : List Int} {n k : Nat} {thin : Int} {bk : List Ent} {s1 s6 s7 s8 s9 s10 s11 s12 s13 : SD} {ob : List OD} (hn : n ≤ 3) (hk : k < 3) (hd : 21 + 20 * k ≤ d.length) (hb : bk.length ≤ 10) :
    ∃ e t6 t7 t8 t9 t10 t11 t12 t13, mOut ⟨[.val (.lst (iL d)), s1, .val (.int (n : Nat)), .val (.int thin), .own (bk.map eD), .val (.int (k : Nat)), s6, s7, s8, s9, s10, s11, s12, s13], ob⟩ = .ok .nx ⟨[.val (.lst (iL d)), s1, .val (.int (n : Nat)), .val (.int thin), .own ((bk ++ [e]).map eD), .val (.int (k : Nat)), t6, t7, t8, t9, t10, t11, t12, t13], ob⟩ ∧ EntOk n e := by
  have big : (100 : Nat) ≤ sizeLine := by decide
  have hmul := small_mul (a := 20) (b := (k : Int)) (by decide) (by omega)
  have hcut := cut_nat2 (l := d) (a := 1 + 20 * k) (b := 21 + 20 * k) (by omega) hd
  have hlen : ((d.drop (1 + 20 * k)).take (21 + 20 * k - (1 + 20 * k))).length = 20 := by rw [List.length_take, List.length_drop]; omega
  generalize (d.drop (1 + 20 * k)).take (21 + 20 * k - (1 + 20 * k)) = own at hcut hlen
  have c1 : ((1 + 20 * k : Nat) : Int) = 1 + 20 * (k : Int) := by omega
  have c2 : ((21 + 20 * k : Nat) : Int) = 21 + 20 * (k : Int) := by omega
  rw [c1, c2] at hcut
  have f1 : setM 6 (valR (frzM (sliceR (locD 0) (partM (bin2 (purO addI) (cstD (.int 1)) (bin2 (purO mulI) (cstD (.int 20)) (locD 5)))) (partM (bin2 (purO addI) (cstD (.int 21)) (bin2 (purO mulI) (cstD (.int 20)) (locD 5))))))) ⟨[.val (.lst (iL d)), s1, .val (.int (n : Nat)), .val (.int thin), .own (bk.map eD), .val (.int (k : Nat)), s6, s7, s8, s9, s10, s11, s12, s13], ob⟩ = .ok .nx ⟨[.val (.lst (iL d)), s1, .val (.int (n : Nat)), .val (.int thin), .own (bk.map eD), .val (.int (k : Nat)), .val (.lst (iL own)), s7, s8, s9, s10, s11, s12, s13], ob⟩ := by
    simp [hmul, hcut]
  have f2 : setM 7 (lstR (nilA)) ⟨[.val (.lst (iL d)), s1, .val (.int (n : Nat)), .val (.int thin), .own (bk.map eD), .val (.int (k : Nat)), .val (.lst (iL own)), s7, s8, s9, s10, s11, s12, s13], ob⟩ = .ok .nx ⟨[.val (.lst (iL d)), s1, .val (.int (n : Nat)), .val (.int thin), .own (bk.map eD), .val (.int (k : Nat)), .val (.lst (iL own)), .own [], s8, s9, s10, s11, s12, s13], ob⟩ := by
    simp
  obtain ⟨w, hw⟩ : ∃ w, own[1]? = some w := ⟨own[1], by simp [hlen]⟩
  obtain ⟨v, hv⟩ : ∃ v, own[0]? = some v := ⟨own[0], by simp [hlen]⟩
  have hix : L2.atI (iL own) (1 : Int) = some (.int w) := iL_get hw
  have hiv : L2.atI (iL own) (0 : Int) = some (.int v) := iL_get hv
  have rw3 := fmodR (a := w) (b := 3) (by decide)
  obtain ⟨m, hm, hm3⟩ : ∃ m : Nat, 1 + w.fmod 3 = (m : Int) ∧ 1 ≤ m ∧ m ≤ 3 := ⟨(1 + w.fmod 3).toNat, by omega, by omega, by omega⟩
  have e1 : rng1 (consA (bin2 (purO addI) (cstD (.int 1)) (bin2 (purO modI) (bin2 (purO ixO) (locD 6) (cstD (.int 1))) (cstD (.int 3)))) (nilA)) ⟨[.val (.lst (iL d)), s1, .val (.int (n : Nat)), .val (.int thin), .own (bk.map eD), .val (.int (k : Nat)), .val (.lst (iL own)), .own [], s8, s9, s10, s11, s12, s13], ob⟩ = .ok ((List.range' 0 m).map fun i => .int (i : Nat)) ⟨[.val (.lst (iL d)), s1, .val (.int (n : Nat)), .val (.int thin), .own (bk.map eD), .val (.int (k : Nat)), .val (.lst (iL own)), .own [], s8, s9, s10, s11, s12, s13], ob⟩ := rng1_ok (by simp [hix, hm]) (by omega)
  obtain ⟨ρ', g1, lines, t8, t9, t10, t11, t12, t13, g2, g3, g4⟩ := forGo_inv (b := setU 8) (body := mIn) (fun i ρ' => ∃ lines t8 t9 t10 t11 t12 t13, ρ' = ⟨[.val (.lst (iL d)), s1, .val (.int (n : Nat)), .val (.int thin), .own (bk.map eD), .val (.int (k : Nat)), .val (.lst (iL own)), .own (lines.map rT), t8, t9, t10, t11, t12, t13], ob⟩ ∧ lines.length = i ∧ ∀ l ∈ lines, LineOk n l) ((List.range' 0 m).map fun i => .int (i : Nat)) 0 ⟨[.val (.lst (iL d)), s1, .val (.int (n : Nat)), .val (.int thin), .own (bk.map eD), .val (.int (k : Nat)), .val (.lst (iL own)), .own [], s8, s9, s10, s11, s12, s13], ob⟩ ⟨[], _, _, _, _, _, _, rfl, rfl, fun l hl => by cases hl⟩ (by
    rintro j dd ρ2 hd ⟨lines, t8, t9, t10, t11, t12, t13, rfl, q1, q2⟩
    rw [Nat.zero_add] at *
    have hj : j < m := by simpa using (List.getElem?_eq_some_iff.mp hd).1
    have ed : dd = .int (j : Nat) := by
      rw [List.getElem?_map, List.getElem?_range' hj] at hd
      have := (Option.some.inj hd).symm
      rw [this]
      simp
    subst ed
    obtain ⟨line, u9, u10, u11, u12, u13, p1, p2⟩ := mIn_ok (r := j) (thin := thin) (lines := lines) (s0 := .val (.lst (iL d))) (s1 := s1) (s4 := .own (bk.map eD)) (s5 := .val (.int (k : Nat))) (s9 := t9) (s10 := t10) (s11 := t11) (s12 := t12) (s13 := t13) (ob := ob) hlen hn (by omega) (by omega)
    exact ⟨⟨[.val (.lst (iL d)), s1, .val (.int (n : Nat)), .val (.int thin), .own (bk.map eD), .val (.int (k : Nat)), .val (.lst (iL own)), .own (lines.map rT), .val (.int (j : Nat)), t9, t10, t11, t12, t13], ob⟩, _, by simp, .inl p1, lines ++ [line], _, _, _, _, _, _, rfl, by simp [q1], fun l hl => by
      rcases List.mem_append.mp hl with h | h
      · exact q2 l h
      · rw [List.mem_singleton.mp h]; exact p2⟩)
  rw [Nat.zero_add, List.length_map, List.length_range'] at g3
  obtain ⟨b, hb2⟩ := who_list v
  refine ⟨(b, lines), .val (.lst (iL own)), .own (lines.map rT), t8, t9, t10, t11, t12, t13, ?_, by show 1 ≤ lines.length; omega, by show lines.length ≤ 3; omega, g4⟩
  rw [mOut, seqM_nx f1, seqM_nx f2, seqM_nx (forM_ok e1 g1), g2]
  have hlen2 : bk.length < sizeLine := by omega
  rw [List.map_append]
  simp [hiv, hb2, eD, hlen2]
theorem menus_ok {d : List Int} {upto : Nat} {ρ : En} (h1 : 1 ≤ upto) (h2 : upto ≤ 3) (hd : 1 + 20 * upto ≤ d.length) :
    ∃ (bk : List Ent) (n : Nat), Ph__law_menus [.lst (iL d), .int (upto : Nat)] ρ = .ok (.v (.tup (bk.map eD))) ⟨[], ρ.ob⟩ ∧ bk.length = n ∧ 1 ≤ n ∧ n ≤ upto ∧ ∀ e ∈ bk, EntOk n e := by
  obtain ⟨v, hv⟩ : ∃ v, d[0]? = some v := ⟨d[0]'(by omega), by simp⟩
  have hiv : L2.atI (iL d) (0 : Int) = some (.int v) := iL_get hv
  have r1 := fmodR (a := v) (b := (upto : Int)) (by omega)
  obtain ⟨n, hn, hn1⟩ : ∃ n : Nat, 1 + v.fmod upto = (n : Int) ∧ 1 ≤ n ∧ n ≤ upto := ⟨(1 + v.fmod upto).toNat, by omega, by omega, by omega⟩
  have hu : ¬ (upto : Int) = 0 := by omega
  have hu' : ¬ upto = 0 := by omega
  have f1 : setM 2 (valR (bin2 (purO addI) (cstD (.int 1)) (bin2 (purO modI) (bin2 (purO ixO) (locD 0) (cstD (.int 0))) (locD 1)))) ⟨slots0 14 [.lst (iL d), .int (upto : Nat)], ρ.ob⟩ = .ok .nx ⟨[.val (.lst (iL d)), .val (.int (upto : Nat)), .val (.int (n : Nat)), .un, .un, .un, .un, .un, .un, .un, .un, .un, .un, .un], ρ.ob⟩ := by
    simp [hiv, hu', hn]
  have f2 : setM 3 (valR (bin2 (purO modI) (bin2 (purO fdivI) (bin2 (purO ixO) (locD 0) (cstD (.int 0))) (locD 1)) (cstD (.int 2)))) ⟨[.val (.lst (iL d)), .val (.int (upto : Nat)), .val (.int (n : Nat)), .un, .un, .un, .un, .un, .un, .un, .un, .un, .un, .un], ρ.ob⟩ = .ok .nx ⟨[.val (.lst (iL d)), .val (.int (upto : Nat)), .val (.int (n : Nat)), .val (.int ((v.fdiv upto).fmod 2)), .un, .un, .un, .un, .un, .un, .un, .un, .un, .un], ρ.ob⟩ := by
    simp [hiv, hu']
  generalize (v.fdiv upto).fmod 2 = thin at f2
  have f3 : setM 4 (lstR (nilA)) ⟨[.val (.lst (iL d)), .val (.int (upto : Nat)), .val (.int (n : Nat)), .val (.int thin), .un, .un, .un, .un, .un, .un, .un, .un, .un, .un], ρ.ob⟩ = .ok .nx ⟨[.val (.lst (iL d)), .val (.int (upto : Nat)), .val (.int (n : Nat)), .val (.int thin), .own [], .un, .un, .un, .un, .un, .un, .un, .un, .un], ρ.ob⟩ := by
    simp
  have e1 : rng1 (consA (locD 2) (nilA)) ⟨[.val (.lst (iL d)), .val (.int (upto : Nat)), .val (.int (n : Nat)), .val (.int thin), .own [], .un, .un, .un, .un, .un, .un, .un, .un, .un], ρ.ob⟩ = .ok ((List.range' 0 n).map fun i => .int (i : Nat)) ⟨[.val (.lst (iL d)), .val (.int (upto : Nat)), .val (.int (n : Nat)), .val (.int thin), .own [], .un, .un, .un, .un, .un, .un, .un, .un, .un], ρ.ob⟩ := rng1_ok (by simp) (by omega)
  obtain ⟨ρ', g1, bk, t5, t6, t7, t8, t9, t10, t11, t12, t13, g2, g3, g4⟩ := forGo_inv (b := setU 5) (body := mOut) (fun i ρ' => ∃ (bk : List Ent) (t5 t6 t7 t8 t9 t10 t11 t12 t13 : SD), ρ' = ⟨[.val (.lst (iL d)), .val (.int (upto : Nat)), .val (.int (n : Nat)), .val (.int thin), .own (bk.map eD), t5, t6, t7, t8, t9, t10, t11, t12, t13], ρ.ob⟩ ∧ bk.length = i ∧ ∀ e ∈ bk, EntOk n e) ((List.range' 0 n).map fun i => .int (i : Nat)) 0 ⟨[.val (.lst (iL d)), .val (.int (upto : Nat)), .val (.int (n : Nat)), .val (.int thin), .own [], .un, .un, .un, .un, .un, .un, .un, .un, .un], ρ.ob⟩ ⟨[], _, _, _, _, _, _, _, _, _, rfl, rfl, fun e he => by cases he⟩ (by
    rintro j dd ρ2 hd2 ⟨bk, t5, t6, t7, t8, t9, t10, t11, t12, t13, rfl, q1, q2⟩
    rw [Nat.zero_add] at *
    have hj : j < n := by simpa using (List.getElem?_eq_some_iff.mp hd2).1
    have ed : dd = .int (j : Nat) := by
      rw [List.getElem?_map, List.getElem?_range' hj] at hd2
      have := (Option.some.inj hd2).symm
      rw [this]
      simp
    subst ed
    obtain ⟨e, u6, u7, u8, u9, u10, u11, u12, u13, p1, p2⟩ := mOut_ok (d := d) (n := n) (k := j) (thin := thin) (bk := bk) (s1 := .val (.int (upto : Nat))) (s6 := t6) (s7 := t7) (s8 := t8) (s9 := t9) (s10 := t10) (s11 := t11) (s12 := t12) (s13 := t13) (ob := ρ.ob) (by omega) (by omega) (by omega) (by omega)
    exact ⟨⟨[.val (.lst (iL d)), .val (.int (upto : Nat)), .val (.int (n : Nat)), .val (.int thin), .own (bk.map eD), .val (.int (j : Nat)), t6, t7, t8, t9, t10, t11, t12, t13], ρ.ob⟩, _, by simp, .inl p1, bk ++ [e], _, _, _, _, _, _, _, _, _, rfl, by simp [q1], fun e' he => by
      rcases List.mem_append.mp he with h | h
      · exact q2 e' h
      · rw [List.mem_singleton.mp h]; exact p2⟩)
  rw [Nat.zero_add, List.length_map, List.length_range'] at g3
  refine ⟨bk, n, ?_, g3, hn1.1, hn1.2, g4⟩
  refine callF_rt (s := [.val (.lst (iL d)), .val (.int (upto : Nat)), .val (.int (n : Nat)), .val (.int thin), .own (bk.map eD), t5, t6, t7, t8, t9, t10, t11, t12, t13]) ?_
  rw [m__law_menus, seqM_nx f1, seqM_nx f2, seqM_nx f3, seqM_nx (forM_ok e1 g1), g2]
  simp
end N57
set_option maxHeartbeats 200000
namespace LW
open PySem PySem.Spec PyProof.Rows L2
theorem setM_r {i : Nat} {m : M RV} {ρ ρ1 : En} {r : RV} (h : m ρ = .ok r ρ1) (hi : i < ρ1.sl.length) : setM i m ρ = .ok .nx (ρ1.set i r.sd) := by
  unfold setM
  rw [h, Res.bind_ok, if_pos hi]
theorem seqM_2 {a b : M Fl} {ρ ρ1 ρ2 : En} (h : a ρ = .ok .nx ρ1) (k : b ρ1 = .ok .nx ρ2) : seqM a b ρ = .ok .nx ρ2 := by rw [seqM_nx h, k]
/-- what is wanted of a run: of its end, of what it lets out -/
def Wh (Q : Fl → En → Prop) (E : Ex → En → Prop) (x : Res Fl) : Prop := x.W Q E
section
variable {Q : Fl → En → Prop} {E : Ex → En → Prop} {a b k : M Fl} {ρ ρ1 : En}
theorem wh_ok {x : Res Fl} {fl : Fl} (h : x = .ok fl ρ1) (q : Q fl ρ1) : Wh Q E x := by rw [h]; exact q
theorem wh_exc {x : Res Fl} {e : Ex} (h : x = .exc e ρ1) (q : E e ρ1) : Wh Q E x := by rw [h]; exact q
theorem wh_seq (h : a ρ = .ok .nx ρ1) (q : Wh Q E (b ρ1)) : Wh Q E (seqM a b ρ) := by rw [seqM_nx h]; exact q
theorem wh_seq_rt {r : RV} (h : a ρ = .ok (.rt r) ρ1) (q : Q (.rt r) ρ1) : Wh Q E (seqM a b ρ) := by rw [seqM_rt h]; exact q
theorem seqM_exc {e : Ex} (h : a ρ = .exc e ρ1) : seqM a b ρ = .exc e ρ1 := by rw [seqM_at, h]; rfl
theorem wh_seq_exc {e : Ex} (h : a ρ = .exc e ρ1) (q : E e ρ1) : Wh Q E (seqM a b ρ) := by rw [seqM_exc h]; exact q
theorem seqM_assoc : seqM (seqM a b) k ρ = seqM a (seqM b k) ρ := by
  simp only [seqM_at]
  cases a ρ with
  | ok fl ρ2 => cases fl <;> rfl
  | exc e ρ2 => rfl
  | bad => rfl
theorem wh_assoc (q : Wh Q E (seqM a (seqM b k) ρ)) : Wh Q E (seqM (seqM a b) k ρ) := by rw [seqM_assoc]; exact q
theorem wh_nop (q : Wh Q E (k ρ)) : Wh Q E (seqM nopM k ρ) := q
theorem seqM_nopR : seqM a nopM ρ = a ρ := by
  rw [seqM_at]
  cases a ρ with
  | ok fl ρ2 => cases fl <;> rfl
  | exc e ρ2 => rfl
  | bad => rfl
/-- the last statement as one with nothing behind it -/
theorem wh_last (q : Wh Q E (seqM a nopM ρ)) : Wh Q E (a ρ) := (seqM_nopR (a := a) (ρ := ρ)) ▸ q
theorem wh_end (q : Q .nx ρ) : Wh Q E (nopM ρ) := q
theorem wh_if {c : M Bool} {x : Bool} (h : c ρ = .ok x ρ1) (ht : x = true → Wh Q E (seqM a k ρ1)) (hf : x = false → Wh Q E (seqM b k ρ1)) : Wh Q E (seqM (ifM c a b) k ρ) := by
  cases x with
  | true =>
    have e : seqM (ifM c a b) k ρ = seqM a k ρ1 := by
      rw [seqM_at, seqM_at, ifM_tt h]
    rw [e]
    exact ht rfl
  | false =>
    have e : seqM (ifM c a b) k ρ = seqM b k ρ1 := by
      rw [seqM_at, seqM_at, ifM_ff h]
    rw [e]
    exact hf rfl
theorem wh_if_tt {c : M Bool} (h : c ρ = .ok true ρ1) (q : Wh Q E (seqM a k ρ1)) : Wh Q E (seqM (ifM c a b) k ρ) := wh_if h (fun _ => q) (fun z => nomatch z)
theorem wh_if_ff {c : M Bool} (h : c ρ = .ok false ρ1) (q : Wh Q E (seqM b k ρ1)) : Wh Q E (seqM (ifM c a b) k ρ) := wh_if h (fun z => nomatch z) (fun _ => q)
theorem wh_ret {m : M RV} {r : RV} (h : m ρ = .ok r ρ1) (q : Q (.rt r) ρ1) : Wh Q E (retM' m ρ) := wh_ok (ret_of h) q
theorem wh_seq_ret {m : M RV} {r : RV} (h : m ρ = .ok r ρ1) (q : Q (.rt r) ρ1) : Wh Q E (seqM (retM' m) k ρ) := wh_seq_rt (ret_of h) q
theorem wh_imp {Q' : Fl → En → Prop} {E' : Ex → En → Prop} {x : Res Fl} (h : Wh Q' E' x) (hq : ∀ fl ρ, Q' fl ρ → Q fl ρ) (he : ∀ e ρ, E' e ρ → E e ρ) : Wh Q E x := Res.W_imp h hq he
/-- behind a seqM: what the first asks of the second -/
theorem wh_cut (q : Wh (fun fl ρ1 => match fl with
    | .nx => Wh Q E (b ρ1)
    | .bk => Q .bk ρ1
    | .ct => Q .ct ρ1
    | .rt r => Q (.rt r) ρ1) E (a ρ)) : Wh Q E (seqM a b ρ) := by
  unfold Wh at q ⊢
  rw [seqM_at]
  cases h : a ρ with
  | ok fl ρ2 => rw [h] at q; cases fl <;> exact q
  | exc e ρ2 => rw [h] at q; exact q
  | bad => rw [h] at q; exact q
/-- a for loop by an invariant, without break; the body may return where Q says so -/
theorem wh_for {b : D → M Unit} {body : M Fl} {m : M (List D)} {ds : List D} (I : Nat → En → Prop) (hm : m ρ = .ok ds ρ1) (h0 : I 0 ρ1)
    (hs : ∀ j d ρ, ds[j]? = some d → I j ρ → ∃ ρa, b d ρ = .ok () ρa ∧ Wh (fun fl ρ' => match fl with
      | .nx => I (j + 1) ρ'
      | .ct => I (j + 1) ρ'
      | .rt r => Q (.rt r) ρ'
      | .bk => Wh Q E (k ρ')) E (body ρa)) (hk : ∀ ρ', I ds.length ρ' → Wh Q E (k ρ')) : Wh Q E (seqM (forM m b body) k ρ) := by
  have key : ∀ (xs : List D) (j : Nat) (ρ : En), I j ρ → (∀ i d, xs[i]? = some d → ds[j + i]? = some d) → j + xs.length = ds.length → Wh (fun fl ρ1 => match fl with
    | .nx => Wh Q E (k ρ1)
    | .bk => Q .bk ρ1
    | .ct => Q .ct ρ1
    | .rt r => Q (.rt r) ρ1) E (forGo xs b body ρ) := by
    intro xs
    induction xs with
    | nil =>
      intro j ρ hI _ hl
      have : j = ds.length := by simpa using hl
      subst this
      exact hk _ hI
    | cons d xs ih =>
      intro j ρ hI hg hl
      obtain ⟨ρa, h1, h2⟩ := hs j d ρ (hg 0 d rfl) hI
      have e : forGo (d :: xs) b body ρ = (body ρa).bind fun fl ρ2 => match fl with
        | .nx => forGo xs b body ρ2
        | .ct => forGo xs b body ρ2
        | .bk => .ok .nx ρ2
        | .rt r => .ok (.rt r) ρ2 := by
        rw [forGo]
        dsimp only
        rw [h1]
        rfl
      rw [e]
      have step : ∀ ρ2, I (j + 1) ρ2 → Wh (fun fl ρ1 => match fl with
        | .nx => Wh Q E (k ρ1)
        | .bk => Q .bk ρ1
        | .ct => Q .ct ρ1
        | .rt r => Q (.rt r) ρ1) E (forGo xs b body ρ2) := fun ρ2 h3 => ih (j + 1) ρ2 h3 (fun i d' hd => by
          rw [show j + 1 + i = j + (i + 1) by omega]
          exact hg (i + 1) d' (by simpa using hd)) (by rw [List.length_cons] at hl; omega)
      unfold Wh at h2
      cases hb : body ρa with
      | ok fl ρ2 =>
        rw [hb] at h2
        rw [Res.bind_ok]
        cases fl with
        | nx => exact step ρ2 h2
        | ct => exact step ρ2 h2
        | bk => exact h2
        | rt r => exact h2
      | exc e ρ2 => rw [hb] at h2; exact h2
      | bad => rw [hb] at h2; exact h2
  refine wh_cut ?_
  rw [forM_ok hm rfl]
  exact key ds 0 ρ1 h0 (fun i d hd => by rw [Nat.zero_add]; exact hd) (by omega)
/-- a for loop as a fold; the environment is told by the state -/
theorem wh_fold {σ α : Type} {b : D → M Unit} {body : M Fl} {m : M (List D)} (e : α → D) (xs : List α) (I : σ → En) (f : σ → α → σ) (s0 : σ) (hm : m ρ = .ok (xs.map e) (I s0))
    (hs : ∀ s x, x ∈ xs → ∃ ρa, b (e x) (I s) = .ok () ρa ∧ Wh (fun fl ρ' => (fl = .nx ∨ fl = .ct) ∧ ρ' = I (f s x)) (fun _ _ => False) (body ρa)) (hk : Wh Q E (k (I (xs.foldl f s0)))) : Wh Q E (seqM (forM m b body) k ρ) := by
  refine wh_for (fun j ρ' => ρ' = I ((xs.take j).foldl f s0)) hm (by simp) (fun j d ρ' hd hI => ?_) (fun ρ' hI => ?_)
  · rw [List.getElem?_map] at hd
    cases hx : xs[j]? with
    | none => rw [hx] at hd; cases hd
    | some x =>
      rw [hx] at hd
      have hd : e x = d := Option.some.inj hd
      subst hd
      obtain ⟨ρa, h1, h2⟩ := hs ((xs.take j).foldl f s0) x (List.mem_of_getElem? hx)
      refine ⟨ρa, by rw [hI]; exact h1, wh_imp h2 (fun fl ρ2 hh => ?_) fun _ _ z => z.elim⟩
      have e2 : (xs.take (j + 1)).foldl f s0 = f ((xs.take j).foldl f s0) x := by
        rw [List.take_add_one, hx, List.foldl_append]
        rfl
      rcases hh with ⟨rfl | rfl, h4⟩ <;> exact h4.trans (by rw [e2])
  · rw [hI, List.length_map, List.take_length]
    exact hk
end
/-- a def's body that returns -/
theorem callF_wh {n : Nat} {den : M Fl} {ds : List D} {ρ : En} {ob : List OD} {r : RV} (h : Wh (fun fl ρ' => (match fl with
    | .rt r' => r' = r
    | .nx => r = .v .non
    | _ => False) ∧ ρ'.ob = ob) (fun _ _ => False) (den ⟨slots0 n ds, ρ.ob⟩)) : callF n den ds ρ = .ok r ⟨[], ob⟩ := by
  unfold callF
  unfold Wh at h
  cases hd : den ⟨slots0 n ds, ρ.ob⟩ with
  | ok fl ρ2 =>
    rw [hd] at h
    obtain ⟨h1, rfl⟩ := h
    cases fl with
    | rt r' => cases h1; rfl
    | nx => cases h1; rfl
    | bk => exact h1.elim
    | ct => exact h1.elim
  | exc e ρ2 => rw [hd] at h; exact h.elim
  | bad => rw [hd] at h; exact h.elim
end LW
set_option maxHeartbeats 200000
namespace LW
open PySem PySem.Spec PyProof.Rows L2
def putFD (f : Str) (s : FD) : List (Str × FD) → List (Str × FD)
  | [] => [(f, s)]
  | (g, x) :: r => if g = f then (g, s) :: r else (g, x) :: putFD f s r
theorem lkF_put (f g : Str) (s : FD) : ∀ fs : List (Str × FD), lkF g (putFD f s fs) = if f = g then some s else lkF g fs
  | [] => by
    unfold putFD lkF
    rfl
  | (a, x) :: r => by
    unfold putFD
    by_cases h : a = f
    · rw [if_pos h]
      subst h
      by_cases c : a = g
      · simp [lkF, c]
      · simp [lkF, c]
    · rw [if_neg h]
      by_cases c : a = g
      · subst c
        have : ¬ f = a := fun z => h z.symm
        simp [lkF, this]
      · simp only [lkF, if_neg c]
        exact lkF_put f g s r
theorem keys_putFD (f g : Str) (s : FD) : ∀ fs : List (Str × FD), g ∈ (putFD f s fs).map (·.1) → g = f ∨ g ∈ fs.map (·.1)
  | [], h => by
    simp [putFD] at h
    exact .inl h
  | (a, x) :: r, h => by
    unfold putFD at h
    by_cases c : a = f
    · rw [if_pos c] at h
      exact .inr h
    · rw [if_neg c] at h
      rw [List.map_cons, List.mem_cons] at h ⊢
      rcases h with h | h
      · exact .inr (.inl h)
      · exact (keys_putFD f g s r h).elim .inl fun z => .inr (.inr z)
@[simp] def fldV (c f : Str) (d : D) (ρ : En) : Option D := match d with
  | .obj n => (match ρ.ob[n]? with
    | some (.ins c' fs) => if c' = c then (match lkF f fs with
      | some (.val x) => some x
      | _ => none) else none
    | _ => none)
  | _ => none
@[simp] def fldL (c f : Str) (d : D) (ρ : En) : Option (Nat × Nat × List D) := match d with
  | .obj n => (match ρ.ob[n]? with
    | some (.ins c' fs) => if c' = c then (match lkF f fs with
      | some (.own k l) => some (n, k, l)
      | _ => none) else none
    | _ => none)
  | _ => none
@[simp] def fldK (c f : Str) (d : D) (ρ : En) : Option (Nat × Nat × List (Key × D)) := match d with
  | .obj n => (match ρ.ob[n]? with
    | some (.ins c' fs) => if c' = c then (match lkF f fs with
      | some (.ownd k l) => some (n, k, l)
      | _ => none) else none
    | _ => none)
  | _ => none
@[simp] def En.setF (ρ : En) (n : Nat) (f : Str) (s : FD) : En := match ρ.ob[n]? with
  | some (.ins c fs) => ⟨ρ.sl, ρ.ob.set n (.ins c (putFD f s fs))⟩
  | _ => ρ
section
variable {K : PySem.W.Frag} {g g' : Gh} {H H' : Hp} {σ σ' : L2.St} {ρ ρ' : En} {n k : Nat} {c f : Str} {d : D} {v : V} {l : List D}
theorem Rep.obj {F : Hp} {al : List Addr} (h : Rep K F al (.obj n) v) : ∃ a, al[n]? = some a ∧ v = .ref a := by simpa only [Rep] using h
theorem FldsOk.lk {f : Str} : ∀ {fs : List (Str × FD)} {vs : List (Str × V)} {s : FD}, FldsOk K g H n fs vs → lkF f fs = some s → ∃ v, vs.lookup f = some v ∧ FldOk K g H n f s v
  | [], vs, s, h, e => by cases e
  | (f', s') :: r, vs, s, h, e => by
    obtain ⟨h0, v, vr, rfl, h1, h2⟩ := h
    unfold lkF at e
    by_cases q : f' = f
    · subst q
      rw [if_pos rfl] at e
      cases e
      have hb : (f' == f') = true := beq_iff_eq.mpr rfl
      exact ⟨v, by simp only [List.lookup, hb], h1⟩
    · rw [if_neg q] at e
      have hb : (f == f') = false := beq_eq_false_iff_ne.mpr fun z => q z.symm
      simp only [List.lookup, hb]
      exact FldsOk.lk h2 e
theorem FldsOk.lkN {f : Str} : ∀ {fs : List (Str × FD)} {vs : List (Str × V)}, FldsOk K g H n fs vs → lkF f fs = none → vs.lookup f = none
  | [], vs, h, e => by cases h; rfl
  | (f', s') :: r, vs, h, e => by
    obtain ⟨h0, v, vr, rfl, h1, h2⟩ := h
    unfold lkF at e
    by_cases q : f' = f
    · subst q
      rw [if_pos rfl] at e
      cases e
    · rw [if_neg q] at e
      have hb : (f == f') = false := beq_eq_false_iff_ne.mpr fun z => q z.symm
      simp only [List.lookup, hb]
      exact FldsOk.lkN h2 e
theorem FldsOk.len : ∀ {fs : List (Str × FD)} {vs : List (Str × V)}, FldsOk K g H n fs vs → vs.length = fs.length
  | [], vs, h => by cases h; rfl
  | (f', s') :: r, vs, h => by
    obtain ⟨h0, v, vr, rfl, h1, h2⟩ := h
    simp [FldsOk.len h2]
theorem FldsOk.off {f : Str} : ∀ {fs : List (Str × FD)} {vs : List (Str × V)}, f ∉ fs.map (·.1) → FldsOk K g H n fs vs → (∀ f' s' v', f' ≠ f → FldOk K g H n f' s' v' → FldOk K g' H' n f' s' v') → FldsOk K g' H' n fs vs
  | [], vs, hn, h, hk => h
  | (f2, s2) :: r, vs, hn, h, hk => by
    obtain ⟨h0, v2, vr2, rfl, k1, k2⟩ := h
    rw [List.map_cons, List.mem_cons] at hn
    exact ⟨h0, v2, vr2, rfl, hk _ _ _ (fun z => hn (.inl z.symm)) k1, FldsOk.off (fun z => hn (.inr z)) k2 hk⟩
/-- the other fields as they were, one put -/
theorem FldsOk.put {f : Str} {s : FD} {u : V} (hs : FldOk K g' H' n f s u) (hk : ∀ f' s' v', f' ≠ f → FldOk K g H n f' s' v' → FldOk K g' H' n f' s' v') : ∀ {fs : List (Str × FD)} {vs : List (Str × V)}, FldsOk K g H n fs vs → FldsOk K g' H' n (putFD f s fs) (putF f u vs)
  | [], vs, h => by cases h; exact ⟨by simp, u, [], rfl, hs, rfl⟩
  | (f', s') :: r, vs, h => by
    obtain ⟨h0, v, vr, rfl, h1, h2⟩ := h
    unfold putFD putF
    by_cases q : f' = f
    · rw [if_pos q, if_pos q]
      subst q
      exact ⟨h0, u, vr, rfl, hs, h2.off h0 hk⟩
    · rw [if_neg q, if_neg q]
      exact ⟨fun z => (keys_putFD f f' s r z).elim q h0, v, putF f u vr, rfl, hk _ _ _ q h1, FldsOk.put hs hk h2⟩
end
end LW
set_option maxHeartbeats 200000
namespace LW
open PySem PySem.Spec PyProof.Rows L2
theorem putF_same {f : Str} {v : V} : ∀ {fs : List (Str × V)}, fs.lookup f = some v → putF f v fs = fs
  | [], e => by cases e
  | (g, x) :: r, e => by
    unfold putF
    by_cases h : g = f
    · subst h
      have hb : (g == g) = true := beq_iff_eq.mpr rfl
      simp only [List.lookup, hb] at e
      cases e
      rw [if_pos rfl]
    · have hb : (f == g) = false := beq_eq_false_iff_ne.mpr fun z => h z.symm
      simp only [List.lookup, hb] at e
      rw [if_neg h, putF_same e]
section
variable {K : PySem.W.Frag} {g g' : Gh} {H H' : Hp} {σ σ' : L2.St} {ρ ρ' : En} {n k : Nat} {c f : Str} {d : D} {v : V} {l : List D} {fs : List (Str × FD)} {a : Addr} {o : HO} {s : FD}
theorem EnOk.objAt (ok : EnOk K g H σ ρ) (r : Rep K g.F g.al (.obj n) v) (e : ρ.ob[n]? = some (.ins c fs)) : ∃ p dx fvs, v = .ref p ∧ g.al[n]? = some p ∧ H p = some (.ins (He.ga K c) dx fvs) ∧ g.ow p = some (.ob n) ∧ FldsOk K g H n fs fvs := by
  obtain ⟨p, e1, rfl⟩ := r.obj
  obtain ⟨p', dx, fvs, e2, e3, e4, e5⟩ := ok.ob n c fs e
  rw [e1] at e2
  cases e2
  exact ⟨p, dx, fvs, rfl, e1, e3, e4, e5⟩
theorem fldV_inv {x : D} (e : fldV c f d ρ = some x) : ∃ n fs, d = .obj n ∧ ρ.ob[n]? = some (.ins c fs) ∧ lkF f fs = some (.val x) := by
  unfold fldV at e
  split at e
  · rename_i n
    split at e
    · rename_i c' fs hn
      split at e
      · rename_i hc
        subst hc
        split at e
        · rename_i y hy
          cases e
          exact ⟨n, fs, rfl, hn, hy⟩
        · cases e
      · cases e
    · cases e
  · cases e
theorem fldL_inv (e : fldL c f d ρ = some (n, k, l)) : ∃ fs, d = .obj n ∧ ρ.ob[n]? = some (.ins c fs) ∧ lkF f fs = some (.own k l) := by
  unfold fldL at e
  split at e
  · split at e
    · rename_i c' fs hn
      split at e
      · rename_i hc
        subst hc
        split at e
        · rename_i y hy
          cases e
          exact ⟨fs, rfl, hn, hy⟩
        · cases e
      · cases e
    · cases e
  · cases e
theorem fldK_inv {ks : List (Key × D)} (e : fldK c f d ρ = some (n, k, ks)) : ∃ fs, d = .obj n ∧ ρ.ob[n]? = some (.ins c fs) ∧ lkF f fs = some (.ownd k ks) := by
  unfold fldK at e
  split at e
  · split at e
    · rename_i c' fs hn
      split at e
      · rename_i hc
        subst hc
        split at e
        · rename_i y hy
          cases e
          exact ⟨fs, rfl, hn, hy⟩
        · cases e
      · cases e
    · cases e
  · cases e
theorem fldV_ok {x : D} (ok : EnOk K g H σ ρ) (r : Rep K g.F g.al d v) (e : fldV c f d ρ = some x) : ∃ p dx fvs u, v = .ref p ∧ H p = some (.ins (He.ga K c) dx fvs) ∧ fvs.lookup f = some u ∧ Rep K g.F g.al x u := by
  obtain ⟨n, fs, rfl, h1, h2⟩ := fldV_inv e
  obtain ⟨p, dx, fvs, e1, e2, e3, e4, e5⟩ := ok.objAt r h1
  obtain ⟨u, l1, l2⟩ := e5.lk h2
  exact ⟨p, dx, fvs, u, e1, e3, l1, l2⟩
theorem fldL_ok (ok : EnOk K g H σ ρ) (r : Rep K g.F g.al d v) (e : fldL c f d ρ = some (n, k, l)) : d = .obj n ∧ ∃ p dx fvs a xs, v = .ref p ∧ H p = some (.ins (He.ga K c) dx fvs) ∧ fvs.lookup f = some (.ref a) ∧ H a = some (.lst xs) ∧ g.ow a = some (.fl n f) ∧ g.ad n f k = some a ∧ Reps K g.F g.al l xs := by
  obtain ⟨fs, rfl, h1, h2⟩ := fldL_inv e
  obtain ⟨p, dx, fvs, e1, e2, e3, e4, e5⟩ := ok.objAt r h1
  obtain ⟨u, l1, a, xs, rfl, l2, l3, l4, l5⟩ := e5.lk h2
  exact ⟨rfl, p, dx, fvs, a, xs, e1, e3, l1, l2, l3, l4, l5⟩
theorem fldL_again (ok : EnOk K g H σ ρ) (e : fldL c f d ρ = some (n, k, l)) (ha : g.ad n f k = some a) : ∃ xs, H a = some (.lst xs) ∧ g.ow a = some (.fl n f) ∧ Reps K g.F g.al l xs := by
  obtain ⟨fs, rfl, h1, h2⟩ := fldL_inv e
  obtain ⟨p, dx, fvs, e2, e3, e4, e5⟩ := ok.ob _ _ _ h1
  obtain ⟨u, l1, a', xs, rfl, l2, l3, l4, l5⟩ := e5.lk h2
  rw [ha] at l4
  cases l4
  exact ⟨xs, l2, l3, l5⟩
theorem fldK_ok {ks : List (Key × D)} (ok : EnOk K g H σ ρ) (r : Rep K g.F g.al d v) (e : fldK c f d ρ = some (n, k, ks)) : d = .obj n ∧ ∃ p dx fvs a kvs, v = .ref p ∧ H p = some (.ins (He.ga K c) dx fvs) ∧ fvs.lookup f = some (.ref a) ∧ H a = some (.dK kvs) ∧ g.ow a = some (.fl n f) ∧ g.ad n f k = some a ∧ kvs.map (·.1) = ks.map (·.1) ∧ Reps K g.F g.al (ks.map (·.2)) (kvs.map (·.2)) := by
  obtain ⟨fs, rfl, h1, h2⟩ := fldK_inv e
  obtain ⟨p, dx, fvs, e1, e2, e3, e4, e5⟩ := ok.objAt r h1
  obtain ⟨u, l1, a, xs, rfl, l2, l3, l4, l5, l6⟩ := e5.lk h2
  exact ⟨rfl, p, dx, fvs, a, xs, e1, e3, l1, l2, l3, l4, l5, l6⟩
theorem fldK_again {ks : List (Key × D)} (ok : EnOk K g H σ ρ) (e : fldK c f d ρ = some (n, k, ks)) (ha : g.ad n f k = some a) : ∃ kvs, H a = some (.dK kvs) ∧ g.ow a = some (.fl n f) ∧ kvs.map (·.1) = ks.map (·.1) ∧ Reps K g.F g.al (ks.map (·.2)) (kvs.map (·.2)) := by
  obtain ⟨fs, rfl, h1, h2⟩ := fldK_inv e
  obtain ⟨p, dx, fvs, e2, e3, e4, e5⟩ := ok.ob _ _ _ h1
  obtain ⟨u, l1, a', xs, rfl, l2, l3, l4, l5, l6⟩ := e5.lk h2
  rw [ha] at l4
  cases l4
  exact ⟨xs, l2, l3, l5, l6⟩
theorem ob_set_len (ob : List OD) (n : Nat) (x : OD) : (ob.set n x).length = ob.length := by simp
theorem adOk_set {ob : List OD} {n m : Nat} {c : Str} {fs fs' : List (Str × FD)} {f : Str} {j : Nat} (e : ob[n]? = some (.ins c fs)) (h : adOk ob m f j) (hx : m = n → adIn fs f j → adIn fs' f j) : adOk (ob.set n (.ins c fs')) m f j := by
  unfold adOk at h ⊢
  rw [List.getElem?_set]
  by_cases q : n = m
  · subst q
    have hl : n < ob.length := (List.getElem?_eq_some_iff.mp e).1
    rw [if_pos rfl, if_pos hl]
    rw [e] at h
    exact hx rfl h
  · rw [if_neg q]
    exact h
/-- an own list or dict of a field is written in its place -/
theorem EnOk.wrF (h : EnOk K g H σ ρ) (hob : ρ.ob[n]? = some (.ins c fs)) {s0 : FD} (hf : lkF f fs = some s0) (hw : g.ow a = some (.fl n f)) (hv : ∀ u, FldOk K g H n f s0 u → u = .ref a)
    (hs : FldOk K g (upd H a o) n f s (.ref a)) (hc : ∀ f' j, adIn fs f' j → adIn (putFD f s fs) f' j) : EnOk K g (upd H a o) σ (ρ.setF n f s) := by
  have nF : ∀ b u, g.F b = some u → b ≠ a := fun b u q c => by have := h.fo _ _ q; rw [c, hw] at this; cases this
  have nB : ∀ b u, g.B b = some u → b ≠ a := fun b u q c => by have := h.bo _ _ q; rw [c, hw] at this; cases this
  have nO : ∀ b w, g.ow b = some w → w ≠ .fl n f → b ≠ a := fun b w q ne c => by rw [c, hw] at q; cases q; exact ne rfl
  have hl : n < ρ.ob.length := (List.getElem?_eq_some_iff.mp hob).1
  have eS : ρ.setF n f s = ⟨ρ.sl, ρ.ob.set n (.ins c (putFD f s fs))⟩ := by unfold En.setF; rw [hob]
  rw [eS]
  refine ⟨fun b u q => by rw [upd_ne (nF b u q)]; exact h.fs _ _ q, h.fo, fun b u q => by rw [upd_ne (nB b u q)]; exact h.bs _ _ q, h.bo, fun b w q => ?_, h.len, fun j s' e => ?_, by rw [ob_set_len]; exact h.all, fun m c' fs' e => ?_, fun m f' j b q => adOk_set hob (h.fr m f' j b q) fun _ => hc f' j⟩
  · by_cases q2 : b = a
    · exact ⟨o, by rw [q2, upd_same]⟩
    · obtain ⟨u, e⟩ := h.oh _ _ q
      exact ⟨u, by rw [upd_ne q2]; exact e⟩
  · exact (h.sl j s' e).mono (g := g) (g' := g) (fun _ _ z => z) (fun _ _ z => z) fun b u q z => ⟨q, by rw [upd_ne (nO b _ q (fun e => nomatch e))]; exact z⟩
  · have e' : (ρ.ob.set n (.ins c (putFD f s fs)))[m]? = some (.ins c' fs') := e
    rw [List.getElem?_set] at e'
    by_cases q : n = m
    · subst q
      rw [if_pos rfl, if_pos hl] at e'
      cases e'
      obtain ⟨p, dx, fvs, e1, e2, e3, e4⟩ := h.ob n c fs hob
      obtain ⟨u, l1, l2⟩ := e4.lk hf
      have hu := hv u l2
      subst hu
      refine ⟨p, dx, fvs, e1, by rw [upd_ne (nO _ _ e3 (fun e => nomatch e))]; exact e2, e3, ?_⟩
      have := FldsOk.put (g := g) (H := H) hs (fun f' s' v' ne k => k.mono (fun _ _ z => z) (fun _ _ z => z) (fun b u q z => ⟨q, by rw [upd_ne (nO b _ q (fun e => by cases e; exact ne rfl))]; exact z⟩) fun _ _ z => z) e4
      rw [putF_same l1] at this
      exact this
    · rw [if_neg q] at e'
      obtain ⟨p, dx, fvs, e1, e2, e3, e4⟩ := h.ob m c' fs' e'
      exact ⟨p, dx, fvs, e1, by rw [upd_ne (nO _ _ e3 (fun e => nomatch e))]; exact e2, e3, FldsOk.mono (g := g) (g' := g) (H := H) (H' := upd H a o) (fun _ _ z => z) (fun _ _ z => z) (fun _ _ _ z => z) (fun f' b u q2 z => ⟨q2, by rw [upd_ne (nO b _ q2 (fun e => by cases e; exact q rfl))]; exact z⟩) e4⟩
theorem adIn_put_own {k : Nat} {l l' : List D} (hf : lkF f fs = some (.own k l)) (f' : Str) (j : Nat) (h : adIn fs f' j) : adIn (putFD f (.own k l') fs) f' j := by
  unfold adIn at h ⊢
  rw [lkF_put]
  by_cases q : f = f'
  · subst q
    rw [hf] at h
    rw [if_pos rfl]
    exact h
  · rw [if_neg q]
    exact h
theorem adIn_put_ownd {k : Nat} {l l' : List (Key × D)} (hf : lkF f fs = some (.ownd k l)) (f' : Str) (j : Nat) (h : adIn fs f' j) : adIn (putFD f (.ownd k l') fs) f' j := by
  unfold adIn at h ⊢
  rw [lkF_put]
  by_cases q : f = f'
  · subst q
    rw [hf] at h
    rw [if_pos rfl]
    exact h
  · rw [if_neg q]
    exact h
/-- the list of a field is written -/
theorem EnOk.wrL {l' : List D} {ys : List V} (h : EnOk K g H σ ρ) (e : fldL c f d ρ = some (n, k, l)) (ha : g.ad n f k = some a) (r : Reps K g.F g.al l' ys) : EnOk K g (upd H a (.lst ys)) σ (ρ.setF n f (.own k l')) := by
  obtain ⟨fs, rfl, h1, h2⟩ := fldL_inv e
  obtain ⟨xs, e1, e2, e3⟩ := fldL_again h e ha
  refine h.wrF h1 h2 e2 (fun u hu => ?_) ⟨a, ys, rfl, upd_same, e2, ha, r⟩ fun f' j => adIn_put_own h2 f' j
  obtain ⟨a', xs', rfl, _, _, q, _⟩ := hu
  rw [ha] at q
  cases q
  rfl
theorem EnOk.wrK {ks ks' : List (Key × D)} {kvs : List (Key × V)} (h : EnOk K g H σ ρ) (e : fldK c f d ρ = some (n, k, ks)) (ha : g.ad n f k = some a) (r1 : kvs.map (·.1) = ks'.map (·.1)) (r : Reps K g.F g.al (ks'.map (·.2)) (kvs.map (·.2))) : EnOk K g (upd H a (.dK kvs)) σ (ρ.setF n f (.ownd k ks')) := by
  obtain ⟨fs, rfl, h1, h2⟩ := fldK_inv e
  obtain ⟨xs, e1, e2, e3, e4⟩ := fldK_again h e ha
  refine h.wrF h1 h2 e2 (fun u hu => ?_) ⟨a, kvs, rfl, upd_same, e2, ha, r1, r⟩ fun f' j => adIn_put_ownd h2 f' j
  obtain ⟨a', xs', rfl, _, _, q, _⟩ := hu
  rw [ha] at q
  cases q
  rfl
/-- a field is stored -/
def nextK (fs : List (Str × FD)) (f : Str) : Option Nat := match lkF f fs with
  | none => some 0
  | some (.own k _) => some (k + 1)
  | some (.ownd k _) => some (k + 1)
  | some (.val _) => none
theorem adIn_next {j k : Nat} (h : nextK fs f = some k) (a : adIn fs f j) : j < k := by
  unfold nextK at h
  unfold adIn at a
  split at h <;> rename_i q <;> rw [q] at a
  · exact a.elim
  · cases h; exact Nat.lt_succ_of_le a
  · cases h; exact Nat.lt_succ_of_le a
  · cases h
@[simp] def RV.fd (fs : List (Str × FD)) (f : Str) : RV → Option FD
  | .v d => some (.val d)
  | .o l => (nextK fs f).map fun k => .own k l
  | .od ks => (nextK fs f).map fun k => .ownd k ks
theorem EnOk.stVal {dx : Addr} {fvs : List (Str × V)} {p : Addr} {u : V} (h : EnOk K g H σ ρ) (hob : ρ.ob[n]? = some (.ins c fs)) (hp : g.al[n]? = some p) (hH : H p = some (.ins (He.ga K c) dx fvs)) (hw : g.ow p = some (.ob n)) (hs : FldOk K g (upd H p (.ins (He.ga K c) dx (putF f u fvs))) n f s u) (hfv : FldsOk K g H n fs fvs)
    (hc : ∀ f' j b, g.ad n f' j = some b → adIn (putFD f s fs) f' j) : EnOk K g (upd H p (.ins (He.ga K c) dx (putF f u fvs))) σ (ρ.setF n f s) := by
  have nF : ∀ b u, g.F b = some u → b ≠ p := fun b u q c => by have := h.fo _ _ q; rw [c, hw] at this; cases this
  have nB : ∀ b u, g.B b = some u → b ≠ p := fun b u q c => by have := h.bo _ _ q; rw [c, hw] at this; cases this
  have nO : ∀ b w, g.ow b = some w → w ≠ .ob n → b ≠ p := fun b w q ne c => by rw [c, hw] at q; cases q; exact ne rfl
  have hl : n < ρ.ob.length := (List.getElem?_eq_some_iff.mp hob).1
  have eS : ρ.setF n f s = ⟨ρ.sl, ρ.ob.set n (.ins c (putFD f s fs))⟩ := by unfold En.setF; rw [hob]
  rw [eS]
  refine ⟨fun b u q => by rw [upd_ne (nF b u q)]; exact h.fs _ _ q, h.fo, fun b u q => by rw [upd_ne (nB b u q)]; exact h.bs _ _ q, h.bo, fun b w q => ?_, h.len, fun j s' e => ?_, by rw [ob_set_len]; exact h.all, fun m c' fs' e => ?_, fun m f' j b q => adOk_set hob (h.fr m f' j b q) fun em _ => hc f' j b (em ▸ q)⟩
  · by_cases q2 : b = p
    · exact ⟨_, by rw [q2, upd_same]⟩
    · obtain ⟨u, e⟩ := h.oh _ _ q
      exact ⟨u, by rw [upd_ne q2]; exact e⟩
  · exact (h.sl j s' e).mono (g := g) (g' := g) (fun _ _ z => z) (fun _ _ z => z) fun b u q z => ⟨q, by rw [upd_ne (nO b _ q (fun e => nomatch e))]; exact z⟩
  · have e' : (ρ.ob.set n (.ins c (putFD f s fs)))[m]? = some (.ins c' fs') := e
    rw [List.getElem?_set] at e'
    by_cases q : n = m
    · subst q
      rw [if_pos rfl, if_pos hl] at e'
      cases e'
      exact ⟨p, dx, _, hp, upd_same, hw, FldsOk.put (g := g) (H := H) hs (fun f' s' v' ne k => k.mono (fun _ _ z => z) (fun _ _ z => z) (fun b u q z => ⟨q, by rw [upd_ne (nO b _ q (fun e => nomatch e))]; exact z⟩) fun _ _ z => z) hfv⟩
    · rw [if_neg q] at e'
      obtain ⟨p', dx', fvs', e1, e2, e3, e4⟩ := h.ob m c' fs' e'
      exact ⟨p', dx', fvs', e1, by rw [upd_ne (nO _ _ e3 (fun e => by cases e; exact q rfl))]; exact e2, e3, FldsOk.mono (g := g) (g' := g) (H := H) (fun _ _ z => z) (fun _ _ z => z) (fun _ _ _ z => z) (fun f' b u q2 z => ⟨q2, by rw [upd_ne (nO b _ q2 (fun e => nomatch e))]; exact z⟩) e4⟩
/-- a field takes what is one's own, ghost: the address is the field's from now on -/
def Gh.give (g : Gh) (a : Addr) (n : Nat) (f : Str) (k : Nat) : Gh := { g with ow := fun b => if b = a then some (.fl n f) else g.ow b, ad := fun n' f' k' => if n' = n ∧ f' = f ∧ k' = k then some a else g.ad n' f' k' }
theorem Gh.give_ext (hn : g.ad n f k = none) : Ext g (g.give a n f k) := ⟨fun _ _ z => z, fun _ _ z => .inl z, rfl, fun _ _ z => z, fun n' f' k' b z => by
  show (if n' = n ∧ f' = f ∧ k' = k then some a else g.ad n' f' k') = some b
  by_cases q : n' = n ∧ f' = f ∧ k' = k
  · obtain ⟨rfl, rfl, rfl⟩ := q
    rw [hn] at z
    cases z
  · rw [if_neg q]
    exact z⟩
end
end LW
set_option maxHeartbeats 200000
namespace LW
open PySem PySem.Spec PyProof.Rows L2
section
variable {K : PySem.W.Frag} {g g' : Gh} {H H' : Hp} {σ σ' : L2.St} {ρ ρ' : En} {n k : Nat} {c f : Str} {d : D} {v : V} {l : List D} {fs : List (Str × FD)} {a : Addr} {o : HO} {s : FD}
theorem EnOk.giveX (h : EnOk K g H σ ρ) (hob : ρ.ob[n]? = some (.ins c fs)) (hk : nextK fs f = some k) : Ext g (g.give a n f k) := by
  refine Gh.give_ext ?_
  cases q : g.ad n f k with
  | none => rfl
  | some b =>
    have := h.fr n f k b q
    unfold adOk at this
    rw [hob] at this
    exact absurd (adIn_next hk this) (Nat.lt_irrefl k)
theorem length_putFD (f : Str) (s : FD) : ∀ fs : List (Str × FD), (putFD f s fs).length ≤ fs.length + 1
  | [] => by simp [putFD]
  | (a, x) :: r => by
    unfold putFD
    by_cases h : a = f
    · rw [if_pos h]; simp
    · rw [if_neg h, List.length_cons, List.length_cons]
      have := length_putFD f s r
      omega
theorem adIn_put_val {x : D} (f' : Str) (j : Nat) (h : adIn fs f' j) : adIn (putFD f (.val x) fs) f' j := by
  unfold adIn at h ⊢
  rw [lkF_put]
  by_cases q : f = f'
  · rw [if_pos q]
    trivial
  · rw [if_neg q]
    exact h
theorem adIn_put_next (hk : nextK fs f = some k) (hs : (∃ l, s = .own k l) ∨ ∃ ks, s = .ownd k ks) (f' : Str) (j : Nat) (h : adIn fs f' j ∨ (f' = f ∧ j = k)) : adIn (putFD f s fs) f' j := by
  by_cases q : f = f'
  · subst q
    have le : j ≤ k := by
      rcases h with h | h
      · exact Nat.le_of_lt (adIn_next hk h)
      · omega
    unfold adIn
    rw [lkF_put, if_pos rfl]
    rcases hs with ⟨l, rfl⟩ | ⟨l, rfl⟩ <;> exact le
  · rcases h with h | h
    · unfold adIn at h ⊢
      rw [lkF_put, if_neg q]
      exact h
    · exact (q h.1.symm).elim
/-- what the store of a field makes of the environment -/
theorem EnOk.setFld {dx : Addr} {fvs : List (Str × V)} {p : Addr} {u : V} {r : RV} (h : EnOk K g H σ ρ) (hob : ρ.ob[n]? = some (.ins c fs)) (hp : g.al[n]? = some p) (hH : H p = some (.ins (He.ga K c) dx fvs)) (hw : g.ow p = some (.ob n)) (hfv : FldsOk K g H n fs fvs)
    (hr : RVOk K g H r u) (hs : r.fd fs f = some s) : ∃ g', Ext g g' ∧ EnOk K g' (upd H p (.ins (He.ga K c) dx (putF f u fvs))) σ (ρ.setF n f s) := by
  have nb : ∀ b, g.ow b = none → b ≠ p := fun b z q => by rw [q, hw] at z; cases z
  -- a list or dict of one's own
  have own : ∀ (a : Addr) (o : HO) (k : Nat), u = .ref a → H a = some o → g.F a = none → g.B a = none → g.ow a = none → nextK fs f = some k → ((∃ l, s = .own k l) ∨ ∃ ks, s = .ownd k ks) →
      (∀ (g' : Gh) (H' : Hp), (∀ b o, g.F b = some o → g'.F b = some o) → (∀ (n : Nat) (a : Addr), g.al[n]? = some a → g'.al[n]? = some a) → H' a = some o → g'.ow a = some (.fl n f) → g'.ad n f k = some a → FldOk K g' H' n f s u) →
      ∃ g', Ext g g' ∧ EnOk K g' (upd H p (.ins (He.ga K c) dx (putF f u fvs))) σ (ρ.setF n f s) := by
    intro a o k eu hA nF nB nO hk hsk mk
    subst eu
    have x : Ext g (g.give a n f k) := h.giveX hob hk
    have kp : ∀ b w, g.ow b = some w → (g.give a n f k).ow b = some w := fun b w z => by
      have : b ≠ a := fun q => by rw [q, nO] at z; cases z
      show (if b = a then some (Ow.fl n f) else g.ow b) = some w
      rw [if_neg this]; exact z
    -- with the new list as the field's
    have okv : EnOk K (g.give a n f k) (upd H p (.ins (He.ga K c) dx (putF f (.ref a) fvs))) σ (ρ.setF n f s) := by
      have aw : (g.give a n f k).ow a = some (.fl n f) := if_pos rfl
      have aad : (g.give a n f k).ad n f k = some a := if_pos ⟨rfl, rfl, rfl⟩
      have hl : n < ρ.ob.length := (List.getElem?_eq_some_iff.mp hob).1
      have eS : ρ.setF n f s = ⟨ρ.sl, ρ.ob.set n (.ins c (putFD f s fs))⟩ := by unfold En.setF; rw [hob]
      have nP : ∀ b w, g.ow b = some w → w ≠ .ob n → b ≠ p := fun b w q ne c => by rw [c, hw] at q; cases q; exact ne rfl
      have hF : ∀ b u, g.F b = some u → b ≠ p := fun b u q z => by have := h.fo _ _ q; rw [z, hw] at this; cases this
      have hB : ∀ b u, g.B b = some u → b ≠ p := fun b u q z => by have := h.bo _ _ q; rw [z, hw] at this; cases this
      have ap : a ≠ p := nb a nO
      rw [eS]
      refine ⟨fun b u q => by rw [upd_ne (hF b u q)]; exact h.fs _ _ q, fun b u q => ?_, fun b u q => by rw [upd_ne (hB b u q)]; exact h.bs _ _ q, fun b u q => ?_, fun b w q => ?_, h.len, fun j s' e => ?_, by rw [ob_set_len]; exact h.all, fun m c' fs' e => ?_, fun m f' j b q => ?_⟩
      · have : b ≠ a := fun z => by rw [z] at q; rw [show g.F a = some u from q] at nF; cases nF
        show (if b = a then some (Ow.fl n f) else g.ow b) = none
        rw [if_neg this]; exact h.fo b u q
      · have : b ≠ a := fun z => by rw [z] at q; rw [show g.B a = some u from q] at nB; cases nB
        show (if b = a then some (Ow.fl n f) else g.ow b) = none
        rw [if_neg this]; exact h.bo b u q
      · have q' : (if b = a then some (Ow.fl n f) else g.ow b) = some w := q
        by_cases z : b = p
        · exact ⟨_, by rw [z, upd_same]⟩
        · by_cases y : b = a
          · exact ⟨o, by rw [upd_ne z, y]; exact hA⟩
          · rw [if_neg y] at q'
            obtain ⟨o', e⟩ := h.oh b w q'
            exact ⟨o', by rw [upd_ne z]; exact e⟩
      · exact (h.sl j s' e).mono (g := g) (g' := g.give a n f k) (fun _ _ z => z) (fun _ _ z => z) fun b u q z => ⟨kp b _ q, by rw [upd_ne (nP b _ q (fun e => nomatch e))]; exact z⟩
      · have e' : (ρ.ob.set n (.ins c (putFD f s fs)))[m]? = some (.ins c' fs') := e
        rw [List.getElem?_set] at e'
        by_cases q : n = m
        · subst q
          rw [if_pos rfl, if_pos hl] at e'
          cases e'
          refine ⟨p, dx, _, hp, upd_same, kp _ _ hw, FldsOk.put (g := g) (H := H) (g' := g.give a n f k) (H' := upd H p (.ins (He.ga K c) dx (putF f (.ref a) fvs))) (mk (g.give a n f k) _ (fun _ _ z => z) (fun _ _ z => z) (by rw [upd_ne ap]; exact hA) aw aad) (fun f' s' v' ne z => FldOk.mono (g := g) (H := H) (fun _ _ z => z) (fun _ _ z => z) (fun b u q z => ⟨kp b _ q, by rw [upd_ne (nP b _ q (fun e => nomatch e))]; exact z⟩) (fun j b z => x.ad _ _ _ _ z) z) hfv⟩
        · rw [if_neg q] at e'
          obtain ⟨p', dx', fvs', e1, e2, e3, e4⟩ := h.ob m c' fs' e'
          exact ⟨p', dx', fvs', e1, by rw [upd_ne (nP _ _ e3 (fun e => by cases e; exact q rfl))]; exact e2, kp _ _ e3, FldsOk.mono (g := g) (g' := g.give a n f k) (H := H) (fun _ _ z => z) (fun _ _ z => z) (fun f' j b z => x.ad _ _ _ _ z) (fun f' b u q2 z => ⟨kp b _ q2, by rw [upd_ne (nP b _ q2 (fun e => nomatch e))]; exact z⟩) e4⟩
      · have q' : (if m = n ∧ f' = f ∧ j = k then some a else g.ad m f' j) = some b := q
        by_cases z : m = n ∧ f' = f ∧ j = k
        · obtain ⟨rfl, rfl, rfl⟩ := z
          unfold adOk
          rw [List.getElem?_set, if_pos rfl, if_pos hl]
          exact adIn_put_next hk hsk _ _ (.inr ⟨rfl, rfl⟩)
        · rw [if_neg z] at q'
          exact adOk_set hob (h.fr m f' j b q') fun _ y => adIn_put_next hk hsk f' j (.inl y)
    exact ⟨_, x, okv⟩
  cases r with
  | v x =>
    cases hs
    exact ⟨g, Ext.refl g, h.stVal hob hp hH hw (show Rep K g.F g.al x u from hr) hfv fun f' j b q => adIn_put_val f' j (by
      have := h.fr n f' j b q
      unfold adOk at this
      rw [hob] at this
      exact this)⟩
  | o l =>
    obtain ⟨a, xs, eu, h1, h2, h3, h4, h5⟩ := hr
    have hs' : (nextK fs f).map (fun k => FD.own k l) = some s := hs
    obtain ⟨k, q1, q2⟩ := Option.map_eq_some_iff.mp hs'
    subst q2
    exact own a _ k eu h1 h2 h3 h4 q1 (.inl ⟨l, rfl⟩) fun g' H' m1 m2 m3 m4 m5 => ⟨a, xs, eu, m3, m4, m5, Reps.mono m1 m2 _ _ h5⟩
  | od ks =>
    obtain ⟨a, kvs, eu, h1, h2, h3, h4, h5, h6⟩ := hr
    have hs' : (nextK fs f).map (fun k => FD.ownd k ks) = some s := hs
    obtain ⟨k, q1, q2⟩ := Option.map_eq_some_iff.mp hs'
    subst q2
    exact own a _ k eu h1 h2 h3 h4 q1 (.inr ⟨ks, rfl⟩) fun g' H' m1 m2 m3 m4 m5 => ⟨a, kvs, eu, m3, m4, m5, h5, Reps.mono m1 m2 _ _ h6⟩
end
end LW
set_option maxHeartbeats 200000
namespace LW
open PySem PySem.Spec PyProof.Rows L2
/-- a field f of the class c is an instance's own -/
structure FdA (K : PySem.W.Frag) (c f : Str) : Prop where
  cls : Cls K (He.ga K c)
  na : NoAttr K (He.ga K c) f
@[simp] def attrD (c f : Str) (m : M D) : M D := fun ρ => (m ρ).bind fun d ρ1 => match fldV c f d ρ1 with
  | some x => .ok x ρ1
  | none => .bad
@[simp] def ixF (c f : Str) (m mi : M D) : M D := fun ρ => (m ρ).bind fun d ρ1 => match fldL c f d ρ1 with
  | some (_, k, _) => (mi ρ1).bind fun y ρ2 => (match fldL c f d ρ2 with
    | some (_, k', l) => if k' = k then (match ixO (.lst l) y with
      | some z => .ok z ρ2
      | none => .bad) else .bad
    | none => .bad)
  | none => .bad
@[simp] def mtF (c f : Str) (h : List D → List D → Option (D × List D)) (m : M D) (ma : M (List D)) : M D := fun ρ => (m ρ).bind fun d ρ1 => match fldL c f d ρ1 with
  | some (n, k, _) => (ma ρ1).bind fun ds ρ2 => (match fldL c f d ρ2 with
    | some (_, k', l) => if k' = k then (match h l ds with
      | some (x, l') => .ok x (ρ2.setF n f (.own k l'))
      | none => .bad) else .bad
    | none => .bad)
  | none => .bad
@[simp] def cbF (c f : Str) (h : List D → Option RV) (m : M D) : M RV := fun ρ => (m ρ).bind fun d ρ1 => match fldL c f d ρ1 with
  | some (_, _, l) => (match h l with
    | some r => .ok r ρ1
    | none => .bad)
  | none => .bad
@[simp] def dgetF (c f : Str) (m mi : M D) : M D := fun ρ => (m ρ).bind fun d ρ1 => match fldK c f d ρ1 with
  | some (_, k, _) => (mi ρ1).bind fun y ρ2 => (match fldK c f d ρ2, y.key with
    | some (_, k', ks), some z => if k' = k then (match valD ks z with
      | some x => .ok x ρ2
      | none => .bad) else .bad
    | _, _ => .bad)
  | none => .bad
@[simp] def inF (b : Bool) (c f : Str) (mi m : M D) : M D := fun ρ => (mi ρ).bind fun y ρ1 => (m ρ1).bind fun d ρ2 => match fldK c f d ρ2, y.key with
  | some (_, _, ks), some z => .ok (.bl (xor b (valD ks z).isSome)) ρ2
  | _, _ => .bad
@[simp] def dputF (c f : Str) (m mi mv : M D) : M Fl := fun ρ => (mv ρ).bind fun x ρ0 => (m ρ0).bind fun d ρ1 => match fldK c f d ρ1 with
  | some (n, k, _) => (mi ρ1).bind fun y ρ2 => (match fldK c f d ρ2, y.key with
    | some (_, k', ks), some z => if k' = k ∧ ks.length < sizeLine then .ok .nx (ρ2.setF n f (.ownd k (putD ks z x))) else .bad
    | _, _ => .bad)
  | none => .bad
/-- o.f = value, o a local name -/
@[simp] def setFM (i : Nat) (c f : Str) (m : M RV) : M Fl := fun ρ => (m ρ).bind fun r ρ1 => match ρ1.sl[i]? with
  | some (.val (.obj n)) => (match ρ1.ob[n]? with
    | some (.ins c' fs) => if c' = c ∧ fs.length < 999 then (match r.fd fs f with
      | some s => .ok .nx (ρ1.setF n f s)
      | none => .bad) else .bad
    | _ => .bad)
  | _ => .bad
/-- o.f[i] = v -/
@[simp] def setIxF (c f : Str) (m mi : M D) : D → M Unit := fun x ρ => (nox (m ρ)).bind fun d ρ1 => match fldL c f d ρ1 with
  | some (n, k, _) => (nox (mi ρ1)).bind fun y ρ2 => (match fldL c f d ρ2, y with
    | some (_, k', l), .int z => if k' = k then (match ixN l.length z with
      | some j => .ok () (ρ2.setF n f (.own k (l.set j x)))
      | none => .bad) else .bad
    | _, _ => .bad)
  | none => .bad
section
variable {X : Cx} {Wx : WX} {pos pos' px apos cpos spos : Pos} {x c f : Str} {e ie o ve : Expr} {es : List Expr} {me mi mv : M D} {ma : M (List D)}
abbrev AtB (X : Cx) (e : Expr) (f : Str) : Prop := attributeBase e f X.env (eval e X.env) = eval e X.env
theorem de_attr (hc : FdA X.K c f) (he : DE X Wx me e) (hb : AtB X e f) : DE X Wx (attrD c f me) (.Attribute e f pos) := pe_imp (pe_fld he hb) (by
  rintro σ H Q ⟨g, ρ, ok, w⟩
  refine ⟨g, ρ, ok, Res.W_imp (Res.W_bind w) (fun d ρ1 w1 => ?_) fun _ _ z => z⟩
  intro g1 H1 v x1 ok1 rv
  cases q : fldV c f d ρ1 with
  | none => rw [q] at w1; exact w1.elim
  | some y =>
    rw [q] at w1
    obtain ⟨p, dx, fvs, u, e1, e2, e3, e4⟩ := fldV_ok ok1 rv q
    exact ⟨p, _, dx, fvs, u, e1, e2, hc.cls, hc.na, e3, w1 g1 H1 u x1 ok1 e4⟩)
theorem de_ixF (hc : FdA X.K c f) (he : DE X Wx me e) (hb : AtB X e f) (hi : DE X Wx mi ie) (hs : PlainIx ie) : DE X Wx (ixF c f me mi) (.Subscript (.Attribute e f apos) ie pos) := pe_imp (pe_ix ix_seq (pe_fld he hb) hi hs) (by
  rintro σ H Q ⟨g, ρ, ok, w⟩
  refine ⟨g, ρ, ok, Res.W_imp (Res.W_bind w) (fun d ρ1 w1 => ?_) fun _ _ z => z⟩
  intro g1 H1 v x1 ok1 rv
  cases q : fldL c f d ρ1 with
  | none => rw [q] at w1; exact w1.elim
  | some t =>
    obtain ⟨n, k, l⟩ := t
    rw [q] at w1
    obtain ⟨rfl, p, dx, fvs, a, xs, e1, e2, e3, e4, e5, e6, e7⟩ := fldL_ok ok1 rv q
    refine ⟨p, _, dx, fvs, .ref a, e1, e2, hc.cls, hc.na, e3, g1, ρ1, ok1, Res.W_imp (Res.W_bind w1) (fun y ρ2 w2 => ?_) fun _ _ z => z.mono x1⟩
    intro g2 H2 u x2 ok2 ru
    cases q2 : fldL c f (.obj n) ρ2 with
    | none => rw [q2] at w2; exact w2.elim
    | some t2 =>
      obtain ⟨n2, k2, l2⟩ := t2
      rw [q2] at w2
      obtain ⟨fs2, hn, _, _⟩ := fldL_inv q2
      cases hn
      dsimp only at w2
      by_cases ck : k2 = k
      · subst ck
        rw [if_pos rfl] at w2
        obtain ⟨xs2, f1, f2, f3⟩ := fldL_again ok2 q2 (x2.ad _ _ _ _ e6)
        cases y with
        | int i =>
          cases qz : atI l2 i with
          | none => rw [show ixO (.lst l2) (.int i) = atI l2 i from rfl, qz] at w2; exact w2.elim
          | some z =>
            rw [show ixO (.lst l2) (.int i) = atI l2 i from rfl, qz] at w2
            obtain ⟨vz, h1, h2⟩ := f3.at qz
            exact .inl ⟨a, xs2, i, vz, rfl, ru.int, SqL.of f1, h1, w2 g2 H2 vz (x1.trans x2) ok2 h2⟩
        | _ => exact w2.elim
      · rw [if_neg ck] at w2; exact w2.elim)
theorem tMtF_of {r : V → List V → Hp → VK → Prop} {h : List D → List D → Option (D × List D)} (hc : FdA X.K c f) (hm : MtD X.K r h) : ∀ σ H Q, tD X.K Wx (mtF c f h me ma) σ H Q → tBM X.K "list" r (tFld X.K (tD X.K Wx me) f) (tA X.K Wx ma) σ H Q := by
  rintro σ H Q ⟨g, ρ, ok, w⟩
  refine ⟨g, ρ, ok, Res.W_imp (Res.W_bind w) (fun d ρ1 w1 => ?_) fun _ _ z => z⟩
  intro g1 H1 v x1 ok1 rv
  cases q : fldL c f d ρ1 with
  | none => rw [q] at w1; exact w1.elim
  | some t =>
    obtain ⟨n, k, l⟩ := t
    rw [q] at w1
    obtain ⟨rfl, p, dx, fvs, a, xs, e1, e2, e3, e4, e5, e6, e7⟩ := fldL_ok ok1 rv q
    refine ⟨p, _, dx, fvs, .ref a, e1, e2, hc.cls, hc.na, e3, .inl ⟨rfl, xs, SqL.of e4⟩, g1, ρ1, ok1, Res.W_imp (Res.W_bind w1) (fun ds ρ2 w2 => ?_) fun _ _ z => z.mono x1⟩
    intro g2 H2 us x2 ok2 rus
    cases q2 : fldL c f (.obj n) ρ2 with
    | none => rw [q2] at w2; exact w2.elim
    | some t2 =>
      obtain ⟨n2, k2, l2⟩ := t2
      rw [q2] at w2
      obtain ⟨fs2, hn, _, _⟩ := fldL_inv q2
      cases hn
      dsimp only at w2
      by_cases ck : k2 = k
      · subst ck
        rw [if_pos rfl] at w2
        have ad2 := x2.ad _ _ _ _ e6
        obtain ⟨xs2, f1, f2, f3⟩ := fldL_again ok2 q2 ad2
        cases qh : h l2 ds with
        | none => rw [qh] at w2; exact w2.elim
        | some xl =>
          rw [qh] at w2
          exact hm g2 H2 a xs2 us l2 ds xl.2 xl.1 Q ok2.fs f1 f3 rus qh fun ys u ry ru => w2 g2 _ u (x1.trans x2) (ok2.wrL q2 ad2 ry) ru
      · rw [if_neg ck] at w2; exact w2.elim
theorem de_mtF {name : Str} {id : String} {r : V → List V → Hp → VK → Prop} {h : List D → List D → Option (D × List D)} (hc : FdA X.K c f) (he : DE X Wx me o) (hb : AtB X o f) (slot : Slot "list" name id) (hty : typeOf (.builtin id) = pure (.type "method_descriptor")) (hm : MtR X id r) (hd : MtD X.K r h)
    (ha : DA X Wx ma (e :: es)) (hbase : AtB X (.Attribute o f px) name)
    (hfew : ((backTo cpos (starEach (e :: es) X.env)).all (fun x => !x.1) && (backToKw cpos (keywordEach [] X.env)).all (fun x => x.1.isSome) && decide ((e :: es).length + ([] : List Keyword).length + (if ([] : List Keyword).isEmpty then 0 else 1) < 30)) = true)
    (hline : (apos.endLine == cpos.line) = true) (hs : starEach (e :: es) X.env = (false, eval e X.env) :: starEach es X.env) (hpl : (backTo cpos (starEach es X.env)).any (·.1) = false) : DE X Wx (mtF c f h me ma) (.Call (.Attribute (.Attribute o f px) name apos) (e :: es) [] cpos) :=
  pe_imp (pe_bm PySem.F.plainAttrs_list slot hty hm (pe_fld he hb) ha hbase hfew hline hs hpl) (tMtF_of hc hd)
theorem tMtF0_of {r : V → List V → Hp → VK → Prop} {h : List D → List D → Option (D × List D)} (hc : FdA X.K c f) (hm : MtD X.K r h) : ∀ σ H Q, tD X.K Wx (mtF c f h me nilA) σ H Q → tBM0 X.K "list" r (tFld X.K (tD X.K Wx me) f) σ H Q := by
  rintro σ H Q ⟨g, ρ, ok, w⟩
  refine ⟨g, ρ, ok, Res.W_imp (Res.W_bind w) (fun d ρ1 w1 => ?_) fun _ _ z => z⟩
  intro g1 H1 v x1 ok1 rv
  cases q : fldL c f d ρ1 with
  | none => rw [q] at w1; exact w1.elim
  | some t =>
    obtain ⟨n, k, l⟩ := t
    rw [q] at w1
    obtain ⟨rfl, p, dx, fvs, a, xs, e1, e2, e3, e4, e5, e6, e7⟩ := fldL_ok ok1 rv q
    refine ⟨p, _, dx, fvs, .ref a, e1, e2, hc.cls, hc.na, e3, .inl ⟨rfl, xs, SqL.of e4⟩, ?_⟩
    unfold nilA at w1
    dsimp only at w1
    rw [Res.bind_ok, q] at w1
    dsimp only at w1
    rw [if_pos rfl] at w1
    cases qh : h l [] with
    | none => rw [qh] at w1; exact w1.elim
    | some xl =>
      rw [qh] at w1
      exact hm g1 H1 a xs [] l [] xl.2 xl.1 Q ok1.fs e4 e7 Reps.nil qh fun ys u ry ru => w1 g1 _ u x1 (ok1.wrL q e6 ry) ru
theorem de_mtF0 {name : Str} {id : String} {r : V → List V → Hp → VK → Prop} {h : List D → List D → Option (D × List D)} (hc : FdA X.K c f) (he : DE X Wx me o) (hb : AtB X o f) (slot : Slot "list" name id) (hty : typeOf (.builtin id) = pure (.type "method_descriptor")) (hm : MtR X id r) (hd : MtD X.K r h)
    (hbase : AtB X (.Attribute o f px) name) (hline : (apos.endLine == cpos.line) = true) : DE X Wx (mtF c f h me nilA) (.Call (.Attribute (.Attribute o f px) name apos) [] [] cpos) :=
  pe_imp (pe_bm0 PySem.F.plainAttrs_list slot hty hm (pe_fld he hb) hbase hline) (tMtF0_of hc hd)
theorem tCBF_of {r : List V → Hp → VK → Prop} {h : List D → Option RV} (hc : FdA X.K c f) (hh : CsD X.K r h) : ∀ σ H Q, tR X.K Wx (cbF c f h me) σ H Q → tCB r (tCons (tFld X.K (tD X.K Wx me) f) tNil) σ H Q := by
  rintro σ H Q ⟨g, ρ, ok, w⟩
  refine ⟨g, ρ, ok, Res.W_imp (Res.W_bind w) (fun d ρ1 w1 => ?_) fun _ _ z => z⟩
  intro g1 H1 v x1 ok1 rv
  cases q : fldL c f d ρ1 with
  | none => rw [q] at w1; exact w1.elim
  | some t =>
    obtain ⟨n, k, l⟩ := t
    rw [q] at w1
    obtain ⟨rfl, p, dx, fvs, a, xs, e1, e2, e3, e4, e5, e6, e7⟩ := fldL_ok ok1 rv q
    dsimp only at w1
    cases qh : h l with
    | none => rw [qh] at w1; exact w1.elim
    | some rr =>
      rw [qh] at w1
      exact ⟨p, _, dx, fvs, .ref a, e1, e2, hc.cls, hc.na, e3, hh g1 H1 σ ρ1 a xs l rr Q ok1 e4 e7 qh fun g' H' v' x' ok' r' => w1 g' H' v' (x1.trans x') ok' r'⟩
variable {y : Str} {p : Pos}
theorem dr_callBF {id : String} {r : List V → Hp → VK → Prop} {h : List D → Option RV} (hf : FdA X.K c f) (he : DE X Wx me o) (hb : AtB X o f) (hc : CallR X (.builtin id) r) (hh : CsD X.K r h) (hg : Gl X y) (hm : X.mg y = none) (hvb : bootBuiltins y = some (.builtin id)) (hn : y ≠ "__name__") (hdb : (y == ("__debug__" : Str)) = false)
    (hst : starEach [.Attribute o f px] X.env = (false, eval (.Attribute o f px) X.env) :: starEach [] X.env) (hpl : (backTo pos (starEach [] X.env)).any (·.1) = false) : DR X Wx (cbF c f h me) (.Call (.Name y p) [.Attribute o f px] [] pos) := pe_imp (pe_callB hc hg hm hvb (pa_cons (pe_fld he hb) pa_nil hst) hn hdb hst hpl) (tCBF_of hf hh)
theorem dr_callTyF {T : String} {r : List V → Hp → VK → Prop} {h : List D → Option RV} (hf : FdA X.K c f) (he : DE X Wx me o) (hb : AtB X o f) (hc : CallR X (.type T) r) (hh : CsD X.K r h) (hg : Gl X y) (hm : X.mg y = none) (hvb : bootBuiltins y = some (.type T)) (hn : y ≠ "__name__") (hdb : (y == ("__debug__" : Str)) = false)
    (hst : starEach [.Attribute o f px] X.env = (false, eval (.Attribute o f px) X.env) :: starEach [] X.env) (hpl : (backTo pos (starEach [] X.env)).any (·.1) = false) : DR X Wx (cbF c f h me) (.Call (.Name y p) [.Attribute o f px] [] pos) := pe_imp (pe_callTy hc hg hm hvb (pa_cons (pe_fld he hb) pa_nil hst) hn hdb hst hpl) (tCBF_of hf hh)
/-- o.f = value -/
theorem ds_setF (i : Nat) {mr : M RV} (hc : FdA X.K c f) (hN : X.N[i]? = some x) (hv : Vis X.env.scope x) (hd : (x == ("__debug__" : Str)) = false) (hcd : (x == ("__classdict__" : Str)) = false) (hr : DR X Wx mr ve) (hs : swapsWith ve (some (.Attribute (.Name x px) f pos')) pos.line X.env = pure false) :
    DS X Wx (setFM i c f mr) (.Assign [.Attribute (.Name x px) f pos'] ve pos) := ps_imp (ps_fld (pe_var hN hv hd hcd) hr hs) (by
  rintro E σ H ⟨g, ρ, ok, w⟩
  refine ⟨g, ρ, ok, Res.W_imp (Res.W_bind w) (fun r ρ1 w1 => ?_) fun _ _ z => z.toW⟩
  intro g1 H1 v x1 ok1 rv
  cases es : ρ1.sl[i]? with
  | none => rw [es] at w1; exact w1.elim
  | some s =>
    rw [es] at w1
    cases s with
    | val d =>
      cases d with
      | obj n =>
        obtain ⟨u, e1, e2⟩ := ok1.sl i _ es
        cases eo : ρ1.ob[n]? with
        | none => dsimp only at w1; rw [eo] at w1; exact w1.elim
        | some od =>
          dsimp only at w1
          rw [eo] at w1
          cases od with
          | dead => exact w1.elim
          | ins c' fs =>
            dsimp only at w1
            by_cases cc : c' = c ∧ fs.length < 999
            · rw [if_pos cc] at w1
              obtain ⟨rfl, hl⟩ := cc
              cases qr : r.fd fs f with
              | none => rw [qr] at w1; exact w1.elim
              | some s =>
                rw [qr] at w1
                obtain ⟨p, dx, fvs, q1, q2, q3, q4, q5⟩ := ok1.objAt e2 eo
                obtain ⟨g2, x2, ok2⟩ := ok1.setFld eo q2 q3 q4 q5 rv qr
                exact ⟨u, ok1.slot_at es e1, p, _, dx, fvs, q1, q3, hc.cls, hc.na, by rw [q5.len]; omega, w1 g2 _ σ (x1.trans x2) ok2⟩
            · rw [if_neg cc] at w1; exact w1.elim
      | _ => exact w1.elim
    | _ => exact w1.elim)
theorem de_dgetF (hu : X.A.units + 1 < cLine) (hc : FdA X.K c f) (he : DE X Wx me e) (hb : AtB X e f) (hi : DE X Wx mi ie) (hs : NoSl ie) : DE X Wx (dgetF c f me mi) (.Subscript (.Attribute e f apos) ie pos) := pe_imp (pe_dget hu (pe_fld he hb) hi hs) (by
  rintro σ H Q ⟨g, ρ, ok, w⟩
  refine ⟨g, ρ, ok, Res.W_imp (Res.W_bind w) (fun d ρ1 w1 => ?_) fun _ _ z => z⟩
  intro g1 H1 v x1 ok1 rv
  cases q : fldK c f d ρ1 with
  | none => rw [q] at w1; exact w1.elim
  | some t =>
    obtain ⟨n, k, l⟩ := t
    rw [q] at w1
    obtain ⟨rfl, p, dx, fvs, a, kvs, e1, e2, e3, e4, e5, e6, e7, e8⟩ := fldK_ok ok1 rv q
    refine ⟨p, _, dx, fvs, .ref a, e1, e2, hc.cls, hc.na, e3, g1, ρ1, ok1, Res.W_imp (Res.W_bind w1) (fun y ρ2 w2 => ?_) fun _ _ z => z.mono x1⟩
    intro g2 H2 u x2 ok2 ru
    cases q2 : fldK c f (.obj n) ρ2 with
    | none => rw [q2] at w2; exact w2.elim
    | some t2 =>
      obtain ⟨n2, k2, l2⟩ := t2
      cases ey : y.key with
      | none => rw [q2, ey] at w2; exact w2.elim
      | some z =>
        rw [q2, ey] at w2
        obtain ⟨fs2, hn, _, _⟩ := fldK_inv q2
        cases hn
        dsimp only at w2
        by_cases ck : k2 = k
        · subst ck
          rw [if_pos rfl] at w2
          obtain ⟨xs2, f1, f2, f3, f4⟩ := fldK_again ok2 q2 (x2.ad _ _ _ _ e6)
          cases qz : valD l2 z with
          | none => rw [qz] at w2; exact w2.elim
          | some t =>
            rw [qz] at w2
            obtain ⟨vz, h1, h2⟩ := prs_val f3 f4 qz
            refine ⟨a, vz, rfl, ?_, w2 g2 H2 vz (x1.trans x2) ok2 h2⟩
            rw [ru.key ey, ← h1]
            exact DGet.k f1
        · rw [if_neg ck] at w2; exact w2.elim)
theorem valV_some {K : PySem.W.Frag} {F : Hp} {al : List Addr} {ks : List (Key × D)} {kvs : List (Key × V)} {z : Key} (h1 : kvs.map (·.1) = ks.map (·.1)) (h2 : Reps K F al (ks.map (·.2)) (kvs.map (·.2))) : (valV kvs z).isSome = (valD ks z).isSome := by
  cases q : valD ks z with
  | none => rw [prs_none h1 q]; rfl
  | some t =>
    obtain ⟨v, e, _⟩ := prs_val h1 h2 q
    rw [e]
    rfl
theorem tInF_of (hc : FdA X.K c f) : ∀ σ H Q, tD X.K Wx (inF false c f mi me) σ H Q → tDIn (tD X.K Wx mi) (tFld X.K (tD X.K Wx me) f) σ H Q := by
  rintro σ H Q ⟨g, ρ, ok, w⟩
  refine ⟨g, ρ, ok, Res.W_imp (Res.W_bind w) (fun y ρ1 w1 => ?_) fun _ _ z => z⟩
  intro g1 H1 u x1 ok1 ru
  refine ⟨g1, ρ1, ok1, Res.W_imp (Res.W_bind w1) (fun d ρ2 w2 => ?_) fun _ _ z => z.mono x1⟩
  intro g2 H2 v x2 ok2 rv
  cases q : fldK c f d ρ2 with
  | none => rw [q] at w2; exact w2.elim
  | some t =>
    obtain ⟨n, k, l⟩ := t
    cases ey : y.key with
    | none => rw [q, ey] at w2; exact w2.elim
    | some z =>
      rw [q, ey] at w2
      obtain ⟨rfl, p, dx, fvs, a, kvs, e1, e2, e3, e4, e5, e6, e7, e8⟩ := fldK_ok ok2 rv q
      refine ⟨p, _, dx, fvs, .ref a, e1, e2, hc.cls, hc.na, e3, a, _, rfl, by rw [(Rep.mono x2.f x2.al _ _ ru).key ey]; exact DGet.k e4, ?_⟩
      rw [valV_some e7 e8]
      have w3 := w2 g2 H2 (.bl (xor false (valD l z).isSome)) (x1.trans x2) ok2 Rep.mkB
      rw [Bool.false_xor] at w3
      exact w3
/-- o.f[k] = v -/
theorem ds_dputF (hu : X.A.units + 1 < cLine) (hc : FdA X.K c f) (he : DE X Wx me e) (hb : AtB X e f) (hi : DE X Wx mi ie) (hve : DE X Wx mv ve) (hs : swapsWith ve (some (.Subscript (.Attribute e f apos) ie pos)) spos.line X.env = pure false) :
    DS X Wx (dputF c f me mi mv) (.Assign [.Subscript (.Attribute e f apos) ie pos] ve spos) := ps_imp (ps_dput hu (pe_fld he hb) hi hve hs) (by
  rintro E σ H ⟨g, ρ, ok, w⟩
  refine ⟨g, ρ, ok, Res.W_imp (Res.W_bind w) (fun x ρ0 w0 => ?_) fun _ _ z => z.toW⟩
  intro g0 H0 vx x0 ok0 rx
  refine ⟨g0, ρ0, ok0, Res.W_imp (Res.W_bind w0) (fun d ρ1 w1 => ?_) fun _ _ z => (z.mono x0).toW⟩
  intro g1 H1 v x1 ok1 rv
  cases q : fldK c f d ρ1 with
  | none => rw [q] at w1; exact w1.elim
  | some t =>
    obtain ⟨n, k, l⟩ := t
    rw [q] at w1
    obtain ⟨rfl, p, dx, fvs, a, kvs, e1, e2, e3, e4, e5, e6, e7, e8⟩ := fldK_ok ok1 rv q
    refine ⟨p, _, dx, fvs, .ref a, e1, e2, hc.cls, hc.na, e3, g1, ρ1, ok1, Res.W_imp (Res.W_bind w1) (fun y ρ2 w2 => ?_) fun _ _ z => (z.mono (x0.trans x1)).toW⟩
    intro g2 H2 u x2 ok2 ru
    cases q2 : fldK c f (.obj n) ρ2 with
    | none => rw [q2] at w2; exact w2.elim
    | some t2 =>
      obtain ⟨n2, k2, l2⟩ := t2
      cases ey : y.key with
      | none => rw [q2, ey] at w2; exact w2.elim
      | some z =>
        rw [q2, ey] at w2
        obtain ⟨fs2, hn, _, _⟩ := fldK_inv q2
        cases hn
        dsimp only at w2
        by_cases ck : k2 = k ∧ l2.length < sizeLine
        · rw [if_pos ck] at w2
          obtain ⟨rfl, hl⟩ := ck
          have ad2 := x2.ad _ _ _ _ e6
          obtain ⟨xs2, f1, f2, f3, f4⟩ := fldK_again ok2 q2 ad2
          obtain ⟨p1, p2⟩ := prs_put (k := z) f3 f4 (Rep.mono (x1.trans x2).f (x1.trans x2).al _ _ rx)
          have hl' : xs2.length < sizeLine := by
            have h1 := congrArg List.length f3
            simp only [List.length_map] at h1
            rw [h1]
            exact hl
          refine ⟨a, _, rfl, ?_, w2 g2 _ σ ((x0.trans x1).trans x2) (ok2.wrK q2 ad2 p1 p2)⟩
          rw [ru.key ey]
          exact DPut.k f1 hl'
        · rw [if_neg ck] at w2; exact w2.elim)
/-- o.f[i] = v -/
theorem dg_setIxF (hc : FdA X.K c f) (he : DE X W0 me e) (hb : AtB X e f) (hi : DE X W0 mi ie)
    (ha : ∀ v, assign (.Subscript (.Attribute e f apos) ie pos) X.env v = (do
      let ov ← holding [v] (eval (.Attribute e f apos) X.env)
      let iv ← holding [v, ov] (eval ie X.env)
      standAt pos
      holding [v, ov, iv] (setItem ov iv v)
      release [v, ov, iv] [])) : DG X (setIxF c f me mi) [] (.Subscript (.Attribute e f apos) ie pos) := pg_imp (pg_sub (pe_fld he hb) hi set_list ha) (by
  rintro vx σ H Q ⟨g, ρ, x, ok, rx, w⟩
  refine ⟨g, ρ, ok, Res.W_imp (nox_W (Res.W_bind w)) (fun d ρ1 w1 => ?_) fun _ _ z => z.elim⟩
  intro g1 H1 v x1 ok1 rv
  cases q : fldL c f d ρ1 with
  | none => rw [q] at w1; exact w1.elim
  | some t =>
    obtain ⟨n, k, l⟩ := t
    rw [q] at w1
    obtain ⟨rfl, p, dx, fvs, a, xs, e1, e2, e3, e4, e5, e6, e7⟩ := fldL_ok ok1 rv q
    refine ⟨p, _, dx, fvs, .ref a, e1, e2, hc.cls, hc.na, e3, g1, ρ1, ok1, Res.W_imp (nox_W (Res.W_bind w1)) (fun y ρ2 w2 => ?_) fun _ _ z => z.elim⟩
    intro g2 H2 u x2 ok2 ru
    cases q2 : fldL c f (.obj n) ρ2 with
    | none => rw [q2] at w2; exact w2.elim
    | some t2 =>
      obtain ⟨n2, k2, l2⟩ := t2
      rw [q2] at w2
      obtain ⟨fs2, hn, _, _⟩ := fldL_inv q2
      cases hn
      cases y with
      | int z =>
        dsimp only at w2
        by_cases ck : k2 = k
        · subst ck
          rw [if_pos rfl] at w2
          have ad2 := x2.ad _ _ _ _ e6
          obtain ⟨xs2, f1, f2, f3⟩ := fldL_again ok2 q2 ad2
          cases qz : ixN l2.length z with
          | none => rw [qz] at w2; exact w2.elim
          | some j =>
            rw [qz] at w2
            refine ⟨a, xs2, z, j, rfl, ru.int, f1, by rw [f3.length]; exact qz, ?_⟩
            exact w2 g2 _ σ (x1.trans x2) (ok2.wrL q2 ad2 (Reps.set j f3 (Rep.mono (x1.trans x2).f (x1.trans x2).al _ _ rx))) ⟨rfl, fun _ _ => rfl⟩
        · rw [if_neg ck] at w2; exact w2.elim
      | _ => exact w2.elim)
end
end LW
set_option maxHeartbeats 200000
namespace LW
open PySem PySem.Spec PyProof.Rows L2
section
variable {X : Cx} {Wx : WX} {pos pos' px apos cpos spos p : Pos} {x c f m : Str} {e ie o ve : Expr} {es : List Expr} {me mi mv : M D} {ma : M (List D)}
theorem dt_inF (hu : X.A.units + 1 < cLine) (hc : FdA X.K c f) (hi : DE X Wx mi ie) (he : DE X Wx me e) (hb : AtB X e f) (hm : behindInMarks .In (.Attribute e f apos) = false) : DT X Wx (tstD (inF false c f mi me)) (.Compare ie [.In] [.Attribute e f apos] pos) :=
  pt_imp (pt_cmp (pc_din hu hi (pe_fld he hb)) hm) (tTest_of (tInF_of hc))
theorem de_inF (hu : X.A.units + 1 < cLine) (hc : FdA X.K c f) (hi : DE X Wx mi ie) (he : DE X Wx me e) (hb : AtB X e f) (hm : behindInMarks .In (.Attribute e f apos) = false) : DE X Wx (inF false c f mi me) (.Compare ie [.In] [.Attribute e f apos] pos) :=
  pe_imp (pe_cmp (pc_din hu hi (pe_fld he hb)) hm) (tInF_of hc)
/-- a callee's run, seen from its caller -/
@[simp] def runF (Ph : List D → M RV) (ds : List D) : M RV := fun ρ => match Ph ds ⟨[], ρ.ob⟩ with
  | .ok r ρ2 => .ok r ⟨ρ.sl, ρ2.ob⟩
  | .exc e ρ2 => .exc e ⟨ρ.sl, ρ2.ob⟩
  | .bad => .bad
/-- o.m(..), c the class, Ph what the method computes -/
@[simp] def methM (c m : Str) (n : Nat) (me : M D) (ma : M (List D)) (d0 : List D) (Ph : List D → M RV) : M RV := fun ρ => (me ρ).bind fun d ρ1 => match d with
  | .obj j => (match ρ1.ob[j]? with
    | some (.ins c' fs) => if c' = c ∧ lkF m fs = none then ((ma ρ1).bind fun ds ρ2 => if (D.obj j :: (ds ++ d0)).length = n then runF Ph (.obj j :: (ds ++ d0)) ρ2 else .bad) else .bad
    | _ => .bad)
  | _ => .bad
variable {k : Nat} {fa : Addr} {fd : FuncData} {ps : List Str} {Ph : List D → M RV} {sp : Sp} {dvs : List V} {ds : List Value} {t : TA} {ta : TE}
theorem pe_methX {pl : Sem Bool} {C : Addr} (he : PE X o ta) (hc : Cls X.K C) (hm : Meth X.K C m fa) (F : FnOk X.prog X.w X.K X.mg X.base (CX X.prog X.w) k fa fd ps sp) (hr : Room k X.A) (hb : Binds X.K fd ps ds) (hd : Vals dvs ds) (tk : Takes X Wx) (ha : PA X (e :: es) t)
    (hst : starEach (e :: es) X.env = (false, eval e X.env) :: starEach es X.env) (hpl : (backTo pos (starEach es X.env)).any (·.1) = false)
    (ht : eval (.Call (.Attribute o m apos) (e :: es) [] pos) X.env = (do
      let ov ← eval o X.env
      standAt apos.atName
      let (f, first) ← holding [ov] (getMethod ov m pl)
      callWith pos f first (backTo pos (starEach (e :: es) X.env)) (backToKw pos (keywordEach [] X.env)))) :
    PE X (.Call (.Attribute o m apos) (e :: es) [] pos) (fun σ H Q => ta σ H fun x H1 => ∃ a dx fs, x = .ref a ∧ H1 a = some (.ins C dx fs) ∧ fs.lookup m = none ∧ t σ H1 fun vs H2 => sp (x :: (vs ++ dvs)) H2 Q fun cls d H' => Wx cls d σ H') := by
  refine ⟨fun pins s σ H Q I h => ?_⟩
  refine PySem.W.methodCall_KW (pl := pl) (thn (he.run pins s σ H _ I h) fun u s1 ⟨x, H1, I1, rx, a, dx, fs, ex, ea, l, q⟩ => ?_) ht
  subst ex
  obtain rfl : u = Value.ref a := rx
  refine getmeth_ok I1 ea hc hm l ?_
  refine PySem.W.callWith_K (first := [.ref a]) (h₀ := X.base) I.ok.mod.kin hm.kp (thn (ha.run pos pins s1 σ H1 _ I1 q) fun us s2 ⟨vs, H2, I2, r, q2⟩ => ⟨I2.kIn, ?_⟩) hst hpl
  exact run_fnX (us := .ref a :: us) (vs := .ref a :: vs) F hr hb hd tk I2 (.cons rfl r) q2
theorem pe_methX0 {pl : Sem Bool} {C : Addr} (he : PE X o ta) (hc : Cls X.K C) (hm : Meth X.K C m fa) (F : FnOk X.prog X.w X.K X.mg X.base (CX X.prog X.w) k fa fd ps sp) (hr : Room k X.A) (hb : Binds X.K fd ps ds) (hd : Vals dvs ds) (tk : Takes X Wx)
    (ht : eval (.Call (.Attribute o m apos) [] [] pos) X.env = (do
      let ov ← eval o X.env
      standAt apos.atName
      let (f, first) ← holding [ov] (getMethod ov m pl)
      callWith pos f first (backTo pos (starEach [] X.env)) (backToKw pos (keywordEach [] X.env)))) :
    PE X (.Call (.Attribute o m apos) [] [] pos) (fun σ H Q => ta σ H fun x H1 => ∃ a dx fs, x = .ref a ∧ H1 a = some (.ins C dx fs) ∧ fs.lookup m = none ∧ sp (x :: ([] ++ dvs)) H1 Q fun cls d H' => Wx cls d σ H') := by
  refine ⟨fun pins s σ H Q I h => ?_⟩
  refine PySem.W.methodCall_KW (pl := pl) (thn (he.run pins s σ H _ I h) fun u s1 ⟨x, H1, I1, rx, a, dx, fs, ex, ea, l, q⟩ => ?_) ht
  subst ex
  obtain rfl : u = Value.ref a := rx
  refine getmeth_ok I1 ea hc hm l ?_
  exact PySem.W.callWith_K0 (first := [.ref a]) I1.kIn hm.kp (run_fnX (us := [.ref a]) (vs := [.ref a]) F hr hb hd tk I1 (.cons rfl .nil) q)
/-- the callee over data -/
theorem run_spD {g : Gh} {H : Hp} {σ : L2.St} {ρ : En} {n : Nat} {ds : List D} {vs : List V} {Q : VK} (ok : EnOk X.K g H σ ρ) (rv : Reps X.K g.F g.al ds vs) (hn : ds.length = n)
    (w : (runF Ph ds ρ).W (fun r ρ' => ∀ g' H' v, Ext g g' → EnOk X.K g' H' σ ρ' → RVOk X.K g' H' r v → Q v H') (xW X.K Wx g σ)) :
    spD X.K n Ph vs H Q fun cls d H' => Wx cls d σ H' := by
  unfold runF at w
  refine ⟨by rw [rv.length]; exact hn, g.call H, ρ.ob, ds, ok.call, rv, ?_⟩
  cases q : Ph ds ⟨[], ρ.ob⟩ with
  | bad => rw [q] at w; exact w.elim
  | ok r ρ2 =>
    rw [q] at w
    intro g' H' v x' ok' rv'
    obtain ⟨k1, k2⟩ := ok.ret x' ok'
    exact w _ H' v (Gh.ret_ext x' ok.oh) k1 (k2 _ _ rv')
  | exc ee ρ2 =>
    rw [q] at w
    intro g' H' cv dd x' ok' xo
    obtain ⟨k1, k2⟩ := ok.ret x' ok'
    exact w _ H' cv dd (Gh.ret_ext x' ok.oh) k1 xo
theorem dr_meth {pl : Sem Bool} {d0 : List D} (hc : Cls X.K (He.ga X.K c)) (hm : Meth X.K (He.ga X.K c) m fa) (F : FnOk X.prog X.w X.K X.mg X.base (CX X.prog X.w) k fa fd ps (spD X.K ps.length Ph)) (hr : Room k X.A) (hb : Binds X.K fd ps ds) (hd : Vals dvs ds) (hd0 : Dfl X.K d0 dvs) (tk : Takes X Wx)
    (he : DE X Wx me o) (ha : DA X Wx ma (e :: es)) (hst : starEach (e :: es) X.env = (false, eval e X.env) :: starEach es X.env) (hpl : (backTo pos (starEach es X.env)).any (·.1) = false)
    (ht : eval (.Call (.Attribute o m apos) (e :: es) [] pos) X.env = (do
      let ov ← eval o X.env
      standAt apos.atName
      let (f, first) ← holding [ov] (getMethod ov m pl)
      callWith pos f first (backTo pos (starEach (e :: es) X.env)) (backToKw pos (keywordEach [] X.env)))) :
    DR X Wx (methM c m ps.length me ma d0 Ph) (.Call (.Attribute o m apos) (e :: es) [] pos) := pe_imp (pe_methX he hc hm F hr hb hd tk ha hst hpl ht) (by
  rintro σ H Q ⟨g, ρ, ok, w⟩
  refine ⟨g, ρ, ok, Res.W_imp (Res.W_bind w) (fun d ρ1 w1 => ?_) fun _ _ z => z⟩
  intro g1 H1 v x1 ok1 rv
  cases d with
  | obj j =>
    cases eo : ρ1.ob[j]? with
    | none => dsimp only at w1; rw [eo] at w1; exact w1.elim
    | some od =>
      dsimp only at w1
      rw [eo] at w1
      cases od with
      | dead => exact w1.elim
      | ins c' fs =>
        dsimp only at w1
        by_cases cc : c' = c ∧ lkF m fs = none
        · rw [if_pos cc] at w1
          obtain ⟨rfl, hl⟩ := cc
          obtain ⟨a, dx, fvs, q1, q2, q3, q4, q5⟩ := ok1.objAt rv eo
          refine ⟨a, dx, fvs, q1, q3, q5.lkN hl, g1, ρ1, ok1, Res.W_imp (Res.W_bind w1) (fun as ρ2 w2 => ?_) fun _ _ z => z.mono x1⟩
          intro g2 H2 us x2 ok2 rus
          by_cases cn : (D.obj j :: (as ++ d0)).length = ps.length
          · rw [if_pos cn] at w2
            exact run_spD ok2 (Reps.cons (Rep.mono x2.f x2.al _ _ rv) (Reps.append rus (hd0 g2.F g2.al))) cn (Res.W_imp w2 (fun r ρ' z g' H' v' e' => z g' H' v' ((x1.trans x2).trans e')) fun _ _ z => z.mono (x1.trans x2))
          · rw [if_neg cn] at w2; exact w2.elim
        · rw [if_neg cc] at w1; exact w1.elim
  | _ => exact w1.elim)
theorem dr_meth0 {pl : Sem Bool} {d0 : List D} (hc : Cls X.K (He.ga X.K c)) (hm : Meth X.K (He.ga X.K c) m fa) (F : FnOk X.prog X.w X.K X.mg X.base (CX X.prog X.w) k fa fd ps (spD X.K ps.length Ph)) (hr : Room k X.A) (hb : Binds X.K fd ps ds) (hd : Vals dvs ds) (hd0 : Dfl X.K d0 dvs) (tk : Takes X Wx)
    (he : DE X Wx me o)
    (ht : eval (.Call (.Attribute o m apos) [] [] pos) X.env = (do
      let ov ← eval o X.env
      standAt apos.atName
      let (f, first) ← holding [ov] (getMethod ov m pl)
      callWith pos f first (backTo pos (starEach [] X.env)) (backToKw pos (keywordEach [] X.env)))) :
    DR X Wx (methM c m ps.length me nilA d0 Ph) (.Call (.Attribute o m apos) [] [] pos) := pe_imp (pe_methX0 he hc hm F hr hb hd tk ht) (by
  rintro σ H Q ⟨g, ρ, ok, w⟩
  refine ⟨g, ρ, ok, Res.W_imp (Res.W_bind w) (fun d ρ1 w1 => ?_) fun _ _ z => z⟩
  intro g1 H1 v x1 ok1 rv
  cases d with
  | obj j =>
    cases eo : ρ1.ob[j]? with
    | none => dsimp only at w1; rw [eo] at w1; exact w1.elim
    | some od =>
      dsimp only at w1
      rw [eo] at w1
      cases od with
      | dead => exact w1.elim
      | ins c' fs =>
        dsimp only at w1
        by_cases cc : c' = c ∧ lkF m fs = none
        · rw [if_pos cc] at w1
          obtain ⟨rfl, hl⟩ := cc
          obtain ⟨a, dx, fvs, q1, q2, q3, q4, q5⟩ := ok1.objAt rv eo
          refine ⟨a, dx, fvs, q1, q3, q5.lkN hl, ?_⟩
          unfold nilA at w1
          rw [Res.bind_ok] at w1
          by_cases cn : (D.obj j :: ([] ++ d0)).length = ps.length
          · rw [if_pos cn] at w1
            exact run_spD ok1 (Reps.cons rv (Reps.append Reps.nil (hd0 g1.F g1.al))) cn (Res.W_imp w1 (fun r ρ' z g' H' v' e' => z g' H' v' (x1.trans e')) fun _ _ z => z.mono x1)
          · rw [if_neg cn] at w1; exact w1.elim
        · rw [if_neg cc] at w1; exact w1.elim
  | _ => exact w1.elim)
end
end LW
set_option maxHeartbeats 200000
namespace LW
open PySem PySem.Spec PyProof.Rows L2
section
variable {K : PySem.W.Frag} {g g' : Gh} {H H' : Hp} {σ σ' : L2.St} {ρ ρ' : En} {n k : Nat} {c f : Str} {d : D} {v : V} {l : List D} {fs : List (Str × FD)} {a : Addr} {o : HO} {s : FD}
def Gh.born (g : Gh) (x : Addr) (n : Nat) : Gh := { g with al := g.al ++ [x], ow := fun b => if b = x then some (.ob n) else g.ow b }
theorem Gh.born_ext {x : Addr} {n : Nat} : Ext g (g.born x n) := ⟨fun _ _ z => z, fun _ _ z => .inl z, rfl, fun m a e => by
  show (g.al ++ [x])[m]? = some a
  rw [List.getElem?_append_left (List.getElem?_eq_some_iff.mp e).1]
  exact e, fun _ _ _ _ z => z⟩
/-- a new object without fields -/
theorem EnOk.born {x dx : Addr} (h : EnOk K g H σ ρ) (nx : H x = none) (nd : H dx = none) (ne : dx ≠ x) : EnOk K (g.born x ρ.ob.length) (upd (upd H dx (.own x)) x (.ins (He.ga K c) dx [])) σ ⟨ρ.sl, ρ.ob ++ [.ins c []]⟩ := by
  have keep : ∀ b u, H b = some u → (upd (upd H dx (.own x)) x (.ins (He.ga K c) dx [])) b = some u := fun b u e => by
    rw [upd_ne (ne_of_none e nx), upd_ne (ne_of_none e nd)]; exact e
  have ow : ∀ b w, g.ow b = some w → (g.born x ρ.ob.length).ow b = some w := fun b w e => by
    have : b ≠ x := fun z => by rw [z, h.On nx] at e; cases e
    show (if b = x then some (Ow.ob ρ.ob.length) else g.ow b) = some w
    rw [if_neg this]; exact e
  have own : ∀ b, b ≠ x → g.ow b = none → (g.born x ρ.ob.length).ow b = none := fun b hb e => by
    show (if b = x then some (Ow.ob ρ.ob.length) else g.ow b) = none
    rw [if_neg hb]; exact e
  have alk : ∀ (m : Nat) (a : Addr), g.al[m]? = some a → (g.born x ρ.ob.length).al[m]? = some a := Gh.born_ext.al
  refine ⟨fun b u q => keep b u (h.fs b u q), fun b u q => own b (ne_of_none (h.fs b u q) nx) (h.fo b u q), fun b u q => keep b u (h.bs b u q), fun b u q => own b (ne_of_none (h.bs b u q) nx) (h.bo b u q), fun b w q => ?_, h.len, fun i s e => ?_, ?_, fun m c' fs e => ?_, fun m f j b q => ?_⟩
  · by_cases z : b = x
    · exact ⟨_, by rw [z, upd_same]⟩
    · have q' : (if b = x then some (Ow.ob ρ.ob.length) else g.ow b) = some w := q
      rw [if_neg z] at q'
      obtain ⟨u, e⟩ := h.oh b w q'
      exact ⟨u, keep b u e⟩
  · exact (h.sl i s e).mono (g := g) (g' := g.born x ρ.ob.length) (fun _ _ z => z) alk fun b u q z => ⟨ow b _ q, keep b u z⟩
  · show (g.al ++ [x]).length = (ρ.ob ++ [OD.ins c []]).length
    rw [List.length_append, List.length_append, h.all]
    rfl
  · have e' : (ρ.ob ++ [OD.ins c []])[m]? = some (.ins c' fs) := e
    by_cases hm : m < ρ.ob.length
    · rw [List.getElem?_append_left hm] at e'
      obtain ⟨p, dx', fvs, e1, e2, e3, e4⟩ := h.ob m c' fs e'
      exact ⟨p, dx', fvs, alk _ _ e1, keep _ _ e2, ow _ _ e3, FldsOk.mono (g := g) (g' := g.born x ρ.ob.length) (H := H) (fun _ _ z => z) alk (fun _ _ _ z => z) (fun f b u q z => ⟨ow b _ q, keep b u z⟩) e4⟩
    · have hm2 : m = ρ.ob.length := by
        have := (List.getElem?_eq_some_iff.mp e').1
        rw [List.length_append] at this
        simp at this
        omega
      subst hm2
      rw [List.getElem?_append_right (Nat.le_refl _), Nat.sub_self] at e'
      cases e'
      refine ⟨x, dx, [], ?_, upd_same, if_pos rfl, rfl⟩
      show (g.al ++ [x])[ρ.ob.length]? = some x
      rw [← h.all, List.getElem?_append_right (Nat.le_refl _), Nat.sub_self]
      rfl
  · have := h.fr m f j b q
    unfold adOk at this ⊢
    by_cases hm : m < ρ.ob.length
    · rw [List.getElem?_append_left hm]
      exact this
    · rw [List.getElem?_eq_none (by omega)] at this
      exact this.elim
/-- a field's own list is data from now on -/
theorem EnOk.letF {x : D} (h : EnOk K g H σ ρ) (hob : ρ.ob[n]? = some (.ins c fs)) (hf : lkF f fs = some s) (hs : ∀ u, FldOk K g H n f s u → ∃ a o, u = .ref a ∧ H a = some o ∧ g.ow a = some (.fl n f) ∧ ∀ F : Hp, (∀ b u, g.F b = some u → F b = some u) → F a = some o → Rep K F g.al x (.ref a)) :
    ∃ g', Ext g g' ∧ EnOk K g' H σ (ρ.setF n f (.val x)) := by
  obtain ⟨p, dx, fvs, e1, e2, e3, e4⟩ := h.ob n c fs hob
  obtain ⟨u, l1, l2⟩ := e4.lk hf
  obtain ⟨a, o, rfl, hH, hw, hr⟩ := hs u l2
  have nF : g.F a = none := by
    cases q : g.F a with
    | none => rfl
    | some z => rw [h.fo _ _ q] at hw; cases hw
  have nB : g.B a = none := by
    cases q : g.B a with
    | none => rfl
    | some z => rw [h.bo _ _ q] at hw; cases hw
  have hl : n < ρ.ob.length := (List.getElem?_eq_some_iff.mp hob).1
  have eS : ρ.setF n f (.val x) = ⟨ρ.sl, ρ.ob.set n (.ins c (putFD f (.val x) fs))⟩ := by unfold En.setF; rw [hob]
  rw [eS]
  have hF : ∀ b u, g.F b = some u → upd g.F a o b = some u := fun b u q => by rw [upd_ne (ne_of_none q nF)]; exact q
  have cF : ∀ b u, upd g.F a o b = some u → (b = a ∧ u = o) ∨ (b ≠ a ∧ g.F b = some u) := fun b u q => by
    by_cases c : b = a
    · rw [c, upd_same] at q; cases q; exact .inl ⟨c, rfl⟩
    · rw [upd_ne c] at q; exact .inr ⟨c, q⟩
  have np : ∀ b w, g.ow b = some w → w ≠ .fl n f → (if b = a then none else g.ow b) = some w := fun b w q z => by
    have : b ≠ a := fun y => by rw [y, hw] at q; cases q; exact z rfl
    rw [if_neg this]; exact q
  refine ⟨{ g with F := upd g.F a o, ow := fun b => if b = a then none else g.ow b }, ⟨hF, fun b u q => ?_, rfl, fun _ _ z => z, fun _ _ _ _ z => z⟩, ?_, ?_, h.bs, ?_, ?_, h.len, ?_, by rw [ob_set_len]; exact h.all, ?_, ?_⟩
  · rcases cF b u q with ⟨c, _⟩ | ⟨_, q⟩
    · rw [c]; exact .inr nB
    · exact .inl q
  · intro b u q
    rcases cF b u q with ⟨c, e⟩ | ⟨_, q⟩
    · rw [c, e]; exact hH
    · exact h.fs _ _ q
  · intro b u q
    show (if b = a then none else g.ow b) = none
    rcases cF b u q with ⟨c, e⟩ | ⟨c, q⟩
    · rw [if_pos c]
    · rw [if_neg c]; exact h.fo _ _ q
  · intro b u q
    show (if b = a then none else g.ow b) = none
    by_cases c : b = a
    · rw [if_pos c]
    · rw [if_neg c]; exact h.bo _ _ q
  · intro b w q
    have q' : (if b = a then none else g.ow b) = some w := q
    by_cases c : b = a
    · rw [if_pos c] at q'; cases q'
    · rw [if_neg c] at q'; exact h.oh _ _ q'
  · intro j s' e
    exact (h.sl j s' e).mono hF (fun _ _ z => z) fun b u q z => ⟨np _ _ q (fun z => nomatch z), z⟩
  · intro m c' fs' e
    have e' : (ρ.ob.set n (.ins c (putFD f (.val x) fs)))[m]? = some (.ins c' fs') := e
    rw [List.getElem?_set] at e'
    by_cases q : n = m
    · subst q
      rw [if_pos rfl, if_pos hl] at e'
      cases e'
      refine ⟨p, dx, fvs, e1, e2, np _ _ e3 (fun z => nomatch z), ?_⟩
      have := FldsOk.put (K := K) (n := n) (g := g) (H := H) (g' := { g with F := upd g.F a o, ow := fun b => if b = a then none else g.ow b }) (H' := H) (f := f) (s := .val x) (u := .ref a) (hr _ hF upd_same) (fun f' s' v' ne k => FldOk.mono (g := g) (H := H) hF (fun _ _ z => z) (fun b u q z => ⟨np _ _ q (fun y => by cases y; exact ne rfl), z⟩) (fun _ _ z => z) k) e4
      rw [putF_same l1] at this
      exact this
    · rw [if_neg q] at e'
      obtain ⟨p', dx', fvs', e1', e2', e3', e4'⟩ := h.ob m c' fs' e'
      exact ⟨p', dx', fvs', e1', e2', np _ _ e3' (fun z => nomatch z), FldsOk.mono (g := g) (g' := { g with F := upd g.F a o, ow := fun b => if b = a then none else g.ow b }) (H := H) (H' := H) hF (fun _ _ z => z) (fun _ _ _ z => z) (fun f' b u q2 z => ⟨np _ _ q2 (fun y => by cases y; exact q rfl), z⟩) e4'⟩
  · intro m f' j b q
    exact adOk_set hob (h.fr m f' j b q) fun _ y => adIn_put_val f' j y
end
/-- the own list or dict of the field f of the object in slot i is data from now on -/
@[simp] def letFM (i : Nat) (f : Str) : M Fl := fun ρ => match ρ.sl[i]? with
  | some (.val (.obj n)) => (match ρ.ob[n]? with
    | some (.ins _ fs) => (match lkF f fs with
      | some (.own _ l) => .ok .nx (ρ.setF n f (.val (.lst l)))
      | some (.ownd _ ks) => .ok .nx (ρ.setF n f (.val (.dct (ks.map (·.1)) (ks.map (·.2)))))
      | _ => .bad)
    | _ => .bad)
  | _ => .bad
theorem letFM_ok {K : PySem.W.Frag} {g : Gh} {H : Hp} {σ : L2.St} {i : Nat} {f : Str} {ρ : En} {P : Fl → En → Prop} {Q : Ex → En → Prop} (ok : EnOk K g H σ ρ) (w : (letFM i f ρ).W P Q) : ∃ g' ρ', letFM i f ρ = .ok .nx ρ' ∧ Ext g g' ∧ EnOk K g' H σ ρ' := by
  unfold letFM at w ⊢
  cases e : ρ.sl[i]? with
  | none => rw [e] at w; exact w.elim
  | some s =>
    rw [e] at w
    cases s with
    | val d =>
      cases d with
      | obj n =>
        cases eo : ρ.ob[n]? with
        | none => dsimp only at w; rw [eo] at w; exact w.elim
        | some od =>
          dsimp only at w ⊢
          rw [eo] at w
          cases od with
          | dead => exact w.elim
          | ins c fs =>
            dsimp only at w ⊢
            cases ef : lkF f fs with
            | none => rw [ef] at w; exact w.elim
            | some s =>
              rw [ef] at w
              cases s with
              | val d => exact w.elim
              | own k l =>
                obtain ⟨g', x, k'⟩ := ok.letF (x := .lst l) eo ef fun u hu => by
                  obtain ⟨a, xs, rfl, h1, h2, h3, h4⟩ := hu
                  exact ⟨a, _, rfl, h1, h2, fun F hF hA => Rep.mkL hA (Reps.mono hF (fun _ _ z => z) _ _ h4)⟩
                exact ⟨g', _, by rw [eo]; dsimp only; rw [ef], x, k'⟩
              | ownd k ks =>
                obtain ⟨g', x, k'⟩ := ok.letF (x := .dct (ks.map (·.1)) (ks.map (·.2))) eo ef fun u hu => by
                  obtain ⟨a, xs, rfl, h1, h2, h3, h4, h5⟩ := hu
                  refine ⟨a, _, rfl, h1, h2, fun F hF hA => ?_⟩
                  simp only [Rep]
                  exact ⟨a, xs, rfl, hA, h4, Reps.mono hF (fun _ _ z => z) _ _ h5⟩
                exact ⟨g', _, by rw [eo]; dsimp only; rw [ef], x, k'⟩
      | _ => exact w.elim
    | _ => exact w.elim
section
variable {X : Cx} {Wx : WX} {pos p : Pos} {x c f : Str} {e : Expr} {es : List Expr} {sts : List Stmt} {ma : M (List D)} {k : Nat} {fa C : Addr} {fd : FuncData} {ps : List Str} {Ph : List D → M RV} {sp : Sp} {dvs : List V} {ds : List Value} {t : TA}
theorem dss_letF {i : Nat} {m : M Fl} (h : DSs X Wx m sts) : DSs X Wx (seqM (letFM i f) m) sts := pss_imp h (by
  rintro E σ H ⟨g, ρ, ok, w⟩
  obtain ⟨g', ρ', e, x, ok'⟩ := letFM_ok ok (Res.W_bind w)
  unfold seqM at w
  rw [e] at w
  exact ⟨g', ρ', ok', Res.W_imp w (fun _ _ z => z.mono x) fun _ _ z => z.mono x⟩)
theorem dss_letFEnd {i : Nat} : DSs X Wx (letFM i f) [] := pss_imp pss_nil (by
  rintro E σ H ⟨g, ρ, ok, w⟩
  obtain ⟨g', ρ', e, x, ok'⟩ := letFM_ok ok w
  have w' : (letFM i f ρ).W (flP X.K E g) (xS X.K Wx g) := w
  rw [e] at w'
  exact w' g' H σ x ok')
@[simp] def newF (c : Str) (Ph : List D → M RV) (ds : List D) : M D := fun ρ => match Ph (.obj ρ.ob.length :: ds) ⟨[], ρ.ob ++ [OD.ins c []]⟩ with
  | .ok (.v .non) ρ2 => .ok (.obj ρ.ob.length) ⟨ρ.sl, ρ2.ob⟩
  | .exc e ρ2 => .exc e ⟨ρ.sl, ρ2.ob⟩
  | _ => .bad
@[simp] def makeM (c : Str) (n : Nat) (ma : M (List D)) (d0 : List D) (Ph : List D → M RV) : M D := fun ρ => (ma ρ).bind fun ds ρ1 => if (D.obj ρ1.ob.length :: (ds ++ d0)).length = n then newF c Ph (ds ++ d0) ρ1 else .bad
theorem run_makeX {pins : List (Addr × Obj)} {σ : L2.St} {H : Hp} {s : Shared} {Q : VK} {us : List Value} {vs : List V} (M : Mk X.K C fa) (F : FnOk X.prog X.w X.K X.mg X.base (CX X.prog X.w) k fa fd ps sp) (hr : Room (k + 1) X.A) (hb : Binds X.K fd ps ds) (hd : Vals dvs ds) (tk : Takes X Wx)
    (I : Inv X pins σ H s) (r : Vals vs us) (h : ∀ x dx, H x = none → H dx = none → dx ≠ x → sp (.ref x :: (vs ++ dvs)) (upd (upd H dx (.own x)) x (.ins C dx [])) (fun v H2 => v = .non ∧ Q (.ref x) H2) fun cls d H' => Wx cls d σ H') :
    wpAny (model X.prog X.w) X.A (call (.ref C) us) (EP X pins σ Q) X.xe s := by
  have wish := h (s.heap.objs.size + 1) s.heap.objs.size (I.hok.fresh (Nat.le_succ _)) (I.hok.fresh (Nat.le_refl _)) (Nat.ne_of_lt (Nat.lt_succ_self _))
  have J := Inv.made (C := C) I
  have vals : Vals (V.ref (s.heap.objs.size + 1) :: (vs ++ dvs)) (Value.ref (s.heap.objs.size + 1) :: (us ++ ds)) := .cons rfl (r.append hd)
  have len : (Value.ref (s.heap.objs.size + 1) :: us ++ ds).length = ps.length := (vals.length.symm.trans (F.len _ _ _ _ wish))
  refine wpAny_call (make_map (f := fa) I.kIn M.makes M.init (beq_iff_eq.mp M.fn) (codeAny_mono (F.run _ X.stack _ _ ⟨Value.ref (s.heap.objs.size + 1) :: us, []⟩ (Value.ref (s.heap.objs.size + 1) :: (us ++ ds)) _ _ _ (hr.make C us [])
    (J.env0.make C us []) (hb _ (Value.ref (s.heap.objs.size + 1) :: us) J.kIn len) vals wish) fun r s' got => ?_))
  match r, got with
  | .error e, got => exact tk e s' (XE.of_call J (fun cls d H' z => z) got)
  | .ok .next, got => exact False.elim got
  | .ok .brk, got => exact False.elim got
  | .ok .cont, got => exact False.elim got
  | .ok (.ret u), got =>
    obtain ⟨v, H', J2, rel, isN, fin⟩ := J.after got
    subst isN
    exact ⟨rel, ⟨V.ref (s.heap.objs.size + 1), H', J2, rfl, fin⟩⟩
theorem pe_makeX (M : Mk X.K C fa) (F : FnOk X.prog X.w X.K X.mg X.base (CX X.prog X.w) k fa fd ps sp) (hr : Room (k + 1) X.A) (hg : Gl X x) (hm : X.mg x = some (.ref C)) (hb : Binds X.K fd ps ds) (hd : Vals dvs ds) (tk : Takes X Wx)
    (ha : PA X (e :: es) t) (hdb : (x == ("__debug__" : Str)) = false) (he : starEach (e :: es) X.env = (false, eval e X.env) :: starEach es X.env) (hpl : (backTo pos (starEach es X.env)).any (·.1) = false) :
    PE X (.Call (.Name x p) (e :: es) [] pos) (fun σ H Q => t σ H fun vs H1 => ∀ x dx, H1 x = none → H1 dx = none → dx ≠ x → sp (.ref x :: (vs ++ dvs)) (upd (upd H1 dx (.own x)) x (.ins C dx [])) (fun v H2 => v = .non ∧ Q (.ref x) H2) fun cls d H' => Wx cls d σ H') := by
  refine ⟨fun pins s σ H Q I h => ?_⟩
  refine wpAny_Call_Name_kw (ld_glob I hg hm ?_ hdb)
  refine PySem.W.callWith_K (h₀ := X.base) I.ok.mod.kin M.kp (thn (ha.run pos pins s σ H _ I h) fun us s1 ⟨vs, H1, I1, r, q⟩ => ⟨I1.kIn, ?_⟩) he hpl
  exact run_makeX M F hr hb hd tk I1 r q
theorem pe_makeX0 (M : Mk X.K C fa) (F : FnOk X.prog X.w X.K X.mg X.base (CX X.prog X.w) k fa fd ps sp) (hr : Room (k + 1) X.A) (hg : Gl X x) (hm : X.mg x = some (.ref C)) (hb : Binds X.K fd ps ds) (hd : Vals dvs ds) (tk : Takes X Wx) (hdb : (x == ("__debug__" : Str)) = false) :
    PE X (.Call (.Name x p) [] [] pos) (fun σ H Q => ∀ x dx, H x = none → H dx = none → dx ≠ x → sp (.ref x :: ([] ++ dvs)) (upd (upd H dx (.own x)) x (.ins C dx [])) (fun v H2 => v = .non ∧ Q (.ref x) H2) fun cls d H' => Wx cls d σ H') := by
  refine ⟨fun pins s σ H Q I h => ?_⟩
  refine wpAny_Call_Name_kw (ld_glob I hg hm ?_ hdb)
  exact PySem.W.callWith_K0 I.kIn M.kp (run_makeX (us := []) M F hr hb hd tk I .nil h)
theorem run_new {g : Gh} {H : Hp} {σ : L2.St} {ρ : En} {n : Nat} {c : Str} {ds : List D} {vs : List V} {Q : VK} {y dx : Addr} (ok : EnOk X.K g H σ ρ) (rv : Reps X.K g.F g.al ds vs) (hn : (D.obj ρ.ob.length :: ds).length = n) (ny : H y = none) (nd : H dx = none) (ne : dx ≠ y)
    (w : (newF c Ph ds ρ).W (fun d ρ' => ∀ g' H' v, Ext g g' → EnOk X.K g' H' σ ρ' → Rep X.K g'.F g'.al d v → Q v H') (xW X.K Wx g σ)) :
    spD X.K n Ph (.ref y :: vs) (upd (upd H dx (.own y)) y (.ins (He.ga X.K c) dx [])) (fun v H2 => v = .non ∧ Q (.ref y) H2) fun cls d H' => Wx cls d σ H' := by
  unfold newF at w
  have ok2 := ok.born (c := c) ny nd ne
  have x2 : Ext g (g.born y ρ.ob.length) := Gh.born_ext
  have al2 : (g.born y ρ.ob.length).al[ρ.ob.length]? = some y := by
    show (g.al ++ [y])[ρ.ob.length]? = some y
    rw [← ok.all, List.getElem?_append_right (Nat.le_refl _), Nat.sub_self]
    rfl
  have rr : Reps X.K (g.born y ρ.ob.length).F (g.born y ρ.ob.length).al (.obj ρ.ob.length :: ds) (.ref y :: vs) := Reps.cons (by simp only [Rep]; exact ⟨y, al2, rfl⟩) (Reps.mono x2.f x2.al _ _ rv)
  refine ⟨by rw [rr.length]; exact hn, (g.born y ρ.ob.length).call _, ρ.ob ++ [.ins c []], _, ok2.call, rr, ?_⟩
  cases q : Ph (.obj ρ.ob.length :: ds) ⟨[], ρ.ob ++ [OD.ins c []]⟩ with
  | bad => rw [q] at w; exact w.elim
  | ok r ρ2 =>
    rw [q] at w
    cases r with
    | v d =>
      cases d with
      | non =>
        intro g' H' v x' ok' rv'
        obtain ⟨k1, k2⟩ := ok2.ret x' ok'
        have x3 := Gh.ret_ext x' ok2.oh
        exact ⟨Rep.non (show Rep X.K g'.F g'.al .non v from rv'), w _ H' (.ref y) (x2.trans x3) k1 (by simp only [Rep]; exact ⟨y, x3.al _ _ al2, rfl⟩)⟩
      | _ => exact w.elim
    | _ => exact w.elim
  | exc ee ρ2 =>
    rw [q] at w
    intro g' H' cv dd x' ok' xo
    obtain ⟨k1, k2⟩ := ok2.ret x' ok'
    exact w _ H' cv dd (x2.trans (Gh.ret_ext x' ok2.oh)) k1 xo
theorem de_make {d0 : List D} (M : Mk X.K (He.ga X.K c) fa) (F : FnOk X.prog X.w X.K X.mg X.base (CX X.prog X.w) k fa fd ps (spD X.K ps.length Ph)) (hr : Room (k + 1) X.A) (hg : Gl X x) (hm : X.mg x = some (.ref (He.ga X.K c))) (hb : Binds X.K fd ps ds) (hd : Vals dvs ds) (hd0 : Dfl X.K d0 dvs) (tk : Takes X Wx)
    (ha : DA X Wx ma (e :: es)) (hdb : (x == ("__debug__" : Str)) = false) (he : starEach (e :: es) X.env = (false, eval e X.env) :: starEach es X.env) (hpl : (backTo pos (starEach es X.env)).any (·.1) = false) :
    DE X Wx (makeM c ps.length ma d0 Ph) (.Call (.Name x p) (e :: es) [] pos) := pe_imp (pe_makeX M F hr hg hm hb hd tk ha hdb he hpl) (by
  rintro σ H Q ⟨g, ρ, ok, w⟩
  refine ⟨g, ρ, ok, Res.W_imp (Res.W_bind w) (fun as ρ1 w1 => ?_) fun _ _ z => z⟩
  intro g1 H1 vs x1 ok1 rv y dx ny nd ne
  by_cases cn : (D.obj ρ1.ob.length :: (as ++ d0)).length = ps.length
  · rw [if_pos cn] at w1
    exact run_new ok1 (Reps.append rv (hd0 g1.F g1.al)) cn ny nd ne (Res.W_imp w1 (fun r ρ' z g' H' v' e' => z g' H' v' (x1.trans e')) fun _ _ z => z.mono x1)
  · rw [if_neg cn] at w1; exact w1.elim)
theorem de_make0 {d0 : List D} (M : Mk X.K (He.ga X.K c) fa) (F : FnOk X.prog X.w X.K X.mg X.base (CX X.prog X.w) k fa fd ps (spD X.K ps.length Ph)) (hr : Room (k + 1) X.A) (hg : Gl X x) (hm : X.mg x = some (.ref (He.ga X.K c))) (hb : Binds X.K fd ps ds) (hd : Vals dvs ds) (hd0 : Dfl X.K d0 dvs) (tk : Takes X Wx)
    (hdb : (x == ("__debug__" : Str)) = false) : DE X Wx (makeM c ps.length nilA d0 Ph) (.Call (.Name x p) [] [] pos) := pe_imp (pe_makeX0 M F hr hg hm hb hd tk hdb) (by
  rintro σ H Q ⟨g, ρ, ok, w⟩ y dx ny nd ne
  have w1 : (if (D.obj ρ.ob.length :: ([] ++ d0)).length = ps.length then newF c Ph ([] ++ d0) ρ else .bad).W (fun d ρ' => ∀ g' H' v, Ext g g' → EnOk X.K g' H' σ ρ' → Rep X.K g'.F g'.al d v → Q v H') (xW X.K Wx g σ) := w
  by_cases cn : (D.obj ρ.ob.length :: ([] ++ d0)).length = ps.length
  · rw [if_pos cn] at w1
    exact run_new ok (Reps.append Reps.nil (hd0 g.F g.al)) cn ny nd ne w1
  · rw [if_neg cn] at w1; exact w1.elim)
end
end LW
set_option maxHeartbeats 200000
namespace LW
open PySem PySem.Spec PyProof.Rows L2
section
variable {prog : Program} {w : World} {A : Around} {E : Value → Shared → Prop}
/-- m items drawn off a walk -/
theorem draw_of {I : Addr} {fp wr : List Addr} {n : Nat} {P : Nat → Value → Prop} {St : Nat → Heap → Prop} (W : Walks prog w A I fp wr n P St) : ∀ (m i : Nat) (s : Shared) (Q : List Value → Shared → Prop), St i s.heap → i + m ≤ n →
    (∀ (h' : Heap) (tk : Nat) (l : List Value), St (i + m) h' → (∀ b o, b ∉ wr → s.heap.get? b = some o → h'.get? b = some o) → l.length = m → (∀ j v, l[j]? = some v → P (i + j) v) → Q l { s with heap := h', toks := tk }) → wpAny (model prog w) A (draw (.ref I) m) Q E s
  | 0, i, s, Q, st, le, k => wpAny_pure (k s.heap s.toks [] st (fun _ _ _ e => e) rfl (fun j v e => by simp at e))
  | m + 1, i, s, Q, st, le, k => by
    refine wpAny_bind (m := pyNext (.ref I)) (W.item i s _ E (by omega) st fun v h1 t1 pv st1 keep1 => ?_)
    refine wpAny_bind (wpAny_holding (draw_of W m (i + 1) _ _ st1 (by omega) fun h2 t2 l st2 keep2 ll pl => wpAny_pure ?_))
    refine k h2 t2 (v :: l) (by rw [show i + (m + 1) = i + 1 + m by omega]; exact st2) (fun b o hb e => keep2 b o hb (keep1 b o hb e)) (by simp [ll]) fun j u e => ?_
    cases j with
    | zero =>
      have e' : some v = some u := by simpa using e
      rw [← Option.some.inj e', Nat.add_zero]; exact pv
    | succ j =>
      have := pl j u (by simpa using e)
      rw [show i + (j + 1) = i + 1 + j by omega]; exact this
theorem star_tail {I ax : Addr} {items : Array Value} {n i : Nat} {T : String} {St : Nat → Heap → Prop} {s : Shared} {Q : List Value → Shared → Prop} (kind : T = "list_iterator" ∨ T = "tuple_iterator") (hh : A.handled = none)
    (W : ∀ A : Around, A.handled = none → Walks prog w A I [I, ax] [I] items.size (fun i v => items[i]? = some v) St) (ty : ∀ i (u : Shared), St i u.heap → u.TypeIs (.ref I) T) (there : ∀ i h, St i h → I < h.objs.size ∧ ax < h.objs.size)
    (hi : i < n) (hn : n ≤ items.size + 1) (small : items.size ≤ 16384) (st : St 0 s.heap)
    (k : ∀ (h' : Heap) (tk : Nat), (∀ b o, b ≠ I → s.heap.get? b = some o → h'.get? b = some o) → Q (items.toList.take i ++ [.ref h'.objs.size] ++ (items.toList.drop i).drop (items.size + 1 - n)) { s with heap := h'.push { cls := .type "list", data := .seq ((items.toList.drop i).take (items.size + 1 - n)).toArray }, toks := tk }) :
    wpAny (model prog w) A (do
      let first ← holding [.ref I] (draw (.ref I) i)
      if first.length < i then
        rule "unpack.star.too-few-before"
        raiseError "ValueError" s!"not enough values to unpack (expected at least {n - 1}, got {first.length})"
      let rest ← holding first (collect (.ref I))
      let after := n - 1 - i
      if rest.length < after then
        rule "unpack.star.too-few"
        raiseError "ValueError" s!"not enough values to unpack (expected at least {n - 1}, got {i + rest.length})"
      let mid := rest.length - after
      return first ++ [← newList (rest.take mid)] ++ rest.drop mid) Q E s := by
  refine wpAny_bind (wpAny_holding (draw_of (W A hh) i 0 s _ st (by omega) fun h1 t1 first st1 keep1 len1 at1 => ?_))
  have ef : first = items.toList.take i := by
    refine List.ext_getElem? fun j => ?_
    have ea : items.toList[j]? = items[j]? := Array.getElem?_toList
    rw [List.getElem?_take, ea]
    by_cases hj : j < i
    · rw [if_pos hj]
      have hjl : j < first.length := by omega
      have := at1 j first[j] (List.getElem?_eq_getElem hjl)
      rw [Nat.zero_add] at this
      rw [this, List.getElem?_eq_getElem hjl]
    · rw [if_neg hj]
      exact List.getElem?_eq_none (by rw [len1]; omega)
  subst ef
  rw [Nat.zero_add] at st1
  rw [if_neg (by rw [len1]; omega)]
  obtain ⟨lI, lx⟩ := there i h1 st1
  refine wpAny_bind (wpAny_holding (PySem.W.kun_collect (s := { s with heap := h1, toks := t1 }) (ax := ax) (items := items) (T := T) (by rcases kind with h | h <;> simp [h]) (W A.in1 hh) ty (by omega) st1 lI lx (fun h2 t2 keep2 => ?_) (by rw [sizeLine_eq]; omega)))
  have lr : (items.toList.drop i).length = items.size - i := by simp
  have lm : (items.toList.drop i).length - (n - 1 - i) = items.size + 1 - n := by omega
  rw [if_neg (by omega), lm]
  refine wpAny_bind (wpAny_newObj_type (wpAny_pure (k h2 t2 fun b o hb e => keep2 b o hb (keep1 b o (by simpa using hb) e))) ?_)
  show ((items.toList.drop i).take (items.size + 1 - n)).toArray.size ≤ sizeLine
  rw [sizeLine_eq]
  simp
  omega
theorem star_list {l : Addr} {items : Array Value} {n i : Nat} {s : Shared} {Q : List Value → Shared → Prop} (hl : s.heap.IsList l items) (hh : A.handled = none) (hi : i < n) (hn : n ≤ items.size + 1) (small : items.size ≤ 16384)
    (k : ∀ (h' : Heap) (tk : Nat), (∀ b o, s.heap.get? b = some o → h'.get? b = some o) → Q (items.toList.take i ++ [.ref h'.objs.size] ++ (items.toList.drop i).drop (items.size + 1 - n)) { s with heap := h'.push { cls := .type "list", data := .seq ((items.toList.drop i).take (items.size + 1 - n)).toArray }, toks := tk }) :
    wpAny (model prog w) A (unpackItems (.ref l) n (some i)) Q E s := by
  have lt : l < s.heap.objs.size := hl.elim fun o z => Heap.lt_size z.1
  unfold unpackItems notIterableAtAll
  refine wpAny_bind (wpAny_bind (wpAny_specialOf hl.typeIs slot_list_iter.lookup (wpAny_pure ?_)))
  rw [if_neg (by decide)]
  refine wpAny_bind (wpAny_holding (wpAny_pyIter_list hl ?_))
  refine star_tail (I := s.heap.objs.size) (ax := l) (St := fun i h => h.IsListIter s.heap.objs.size l i ∧ h.IsList l items) (.inl rfl) hh (fun A hA => Walks.list hA _ l (Nat.ne_of_lt lt) items) (fun i u z => z.1.typeIs) (fun i h z => ⟨z.1.elim fun o q => Heap.lt_size q.1, z.2.elim fun o q => Heap.lt_size q.1⟩) hi hn small ⟨⟨_, Heap.get?_push_size _ rfl, rfl, rfl⟩, hl.push _⟩ fun h' tk keep => ?_
  exact k h' tk fun b o e => keep b o (Nat.ne_of_lt (Heap.lt_size e)) (Heap.get?_push_of_some _ e)
theorem star_tup {l : Addr} {items : Array Value} {n i : Nat} {s : Shared} {Q : List Value → Shared → Prop} (hl : IsTup s.heap l items) (hh : A.handled = none) (hi : i < n) (hn : n ≤ items.size + 1) (small : items.size ≤ 16384)
    (k : ∀ (h' : Heap) (tk : Nat), (∀ b o, s.heap.get? b = some o → h'.get? b = some o) → Q (items.toList.take i ++ [.ref h'.objs.size] ++ (items.toList.drop i).drop (items.size + 1 - n)) { s with heap := h'.push { cls := .type "list", data := .seq ((items.toList.drop i).take (items.size + 1 - n)).toArray }, toks := tk }) :
    wpAny (model prog w) A (unpackItems (.ref l) n (some i)) Q E s := by
  have lt : l < s.heap.objs.size := hl.elim fun o z => Heap.lt_size z.1
  unfold unpackItems notIterableAtAll
  refine wpAny_bind (wpAny_bind (wpAny_specialOf hl.typeIs slot_tuple_iter.lookup (wpAny_pure ?_)))
  rw [if_neg (by decide)]
  refine wpAny_bind (wpAny_holding (iter_tuple hl ?_))
  refine star_tail (I := s.heap.objs.size) (ax := l) (St := fun i h => h.IsTupleIter s.heap.objs.size l i ∧ h.IsTuple l items) (.inr rfl) hh (fun A hA => Walks.tuple hA _ l (Nat.ne_of_lt lt) items) (fun i u z => z.1.typeIs) (fun i h z => ⟨z.1.elim fun o q => Heap.lt_size q.1, z.2.elim fun o q => Heap.lt_size q.1⟩) hi hn small ⟨⟨_, Heap.get?_push_size _ rfl, rfl, rfl⟩, hl.push _⟩ fun h' tk keep => ?_
  exact k h' tk fun b o e => keep b o (Nat.ne_of_lt (Heap.lt_size e)) (Heap.get?_push_of_some _ e)
end
end LW
set_option maxHeartbeats 200000
namespace LW
open PySem PySem.Spec PyProof.Rows L2
def gStar (K : PySem.W.Frag) (n i : Nat) (t : TGs) : TG := fun v σ H Q => ∃ a xs, v = .ref a ∧ (SqL K H a xs ∨ SqT K H a xs) ∧ n ≤ xs.length + 1 ∧ xs.length ≤ 16384 ∧
  ∀ p, H p = none → t (xs.take i ++ [.ref p] ++ (xs.drop i).drop (xs.length + 1 - n)) σ (upd H p (.lst ((xs.drop i).take (xs.length + 1 - n)))) Q
section
variable {X : Cx} {pos : Pos}
theorem vals_take {vs : List V} {us : List Value} (h : Vals vs us) (n : Nat) : Vals (vs.take n) (us.take n) := by
  induction h generalizing n with
  | nil => simp; exact .nil
  | cons a b ih => cases n with
    | zero => exact .nil
    | succ n => exact .cons a (ih n)
theorem vals_app {vs ws : List V} {us zs : List Value} (h : Vals vs us) (k : Vals ws zs) : Vals (vs ++ ws) (us ++ zs) := h.append k
theorem pg_star {es : List Expr} {k n i : Nat} {t : TGs} (hc : X.calm = true) (h : PGs X es t) (hn : (assignEach es X.env).length = n) (hst : (assignEach es X.env).findIdx? (·.1) = some i) (hi : i < n) : PG X (.Tuple es k pos) (gStar X.K n i t) := by
  refine ⟨fun pins s σ H v u Q I r hw => ?_⟩
  obtain ⟨a, xs, rfl, hq, hl, hz, hw⟩ := hw
  obtain rfl : u = Value.ref a := r
  -- what is behind the unpacking
  have fin : ∀ (its : List Value), Vals xs its → ∀ (h' : Heap) (tk : Nat), (∀ b o, s.heap.get? b = some o → h'.get? b = some o) →
      wpAny (model X.prog X.w) X.A (assignInOrder ((assignEach es X.env).map (·.2)) (its.toArray.toList.take i ++ [.ref h'.objs.size] ++ (its.toArray.toList.drop i).drop (its.toArray.size + 1 - n))) (fun _ s' => ∃ σ' H', Inv X pins σ' H' s' ∧ Q σ' H') X.xe
        { s with heap := h'.push { cls := .type "list", data := .seq ((its.toArray.toList.drop i).take (its.toArray.size + 1 - n)).toArray }, toks := tk } := by
    intro its rv h' tk kp
    have I1 : Inv X pins σ H { s with heap := h', toks := tk } := I.kept kp
    have hf : H h'.objs.size = none := I1.hok.fresh (Nat.le_refl _)
    have e1 : its.toArray.size = xs.length := by simp [rv.length]
    have e2 : its.toArray.toList = its := by simp
    rw [e1, e2]
    have rm : Vals ((xs.drop i).take (xs.length + 1 - n)) ((its.drop i).take (xs.length + 1 - n)) := vals_take (rv.drop i) _
    have I2 : Inv X pins σ (upd H h'.objs.size (.lst ((xs.drop i).take (xs.length + 1 - n)))) { s with heap := h'.push { cls := .type "list", data := .seq ((its.drop i).take (xs.length + 1 - n)).toArray }, toks := tk } := by
      refine I1.laid (fun b u e => Heap.get?_push_of_some _ e) (Nat.le_refl _) ⟨?_, _, 0, rm, Heap.get?_push_size _ rfl⟩
      rw [List.length_take, List.length_drop, sizeLine_eq]
      omega
    exact h.run pins _ σ _ _ _ Q I2 (vals_app (vals_app (vals_take rv i) (.cons (show L2.RelV (.ref h'.objs.size) (Value.ref h'.objs.size) from rfl) .nil)) ((rv.drop i).drop _)) (hw _ hf)
  rw [PyProof.Rows.assign_Tuple]
  refine wpAny_bind (wpAny_standAt ?_)
  unfold unpack
  rw [hn, hst]
  refine wpAny_bind (wpAny_holding ?_)
  rcases hq with hq | hq
  · obtain ⟨its, rv, pl, _⟩ := I.list hq
    have hl' : s.heap.IsList a its.toArray := pl.elim fun o z => z.elim fun m z => ⟨o, z.1, z.2.1, m, z.2.2.2⟩
    exact star_list hl' (I.ok.hd hc) hi (by simp; rw [← rv.length]; exact hl) (by simp; rw [← rv.length]; exact hz) (fin its rv)
  · obtain ⟨its, rv, pl, _⟩ := I.tuple hq
    exact star_tup pl (I.ok.hd hc) hi (by simp; rw [← rv.length]; exact hl) (by simp; rw [← rv.length]; exact hz) (fin its rv)
theorem pgs_star {e : Expr} {p : Pos} {es : List Expr} {t : TG} {u : TGs} (h1 : PG X e t) (h2 : PGs X es u) : PGs X (.Starred e p :: es) (gCons t u) := by
  refine ⟨fun pins s σ H vs us Q I r h => ?_⟩
  obtain ⟨v, vr, e1, h⟩ := h
  subst e1
  cases r with
  | cons r rr =>
    show wpAny _ _ (assignInOrder (assign e X.env :: (assignEach es X.env).map (·.2)) _) _ _ s
    exact assignInOrder_cons (thn (h1.run pins s σ H _ _ _ I r h) fun _ s1 ⟨σ1, H1, I1, q1⟩ => h2.run pins s1 σ1 H1 _ _ Q I1 rr q1)
end
section
variable {X : Cx} {pos : Pos}
@[simp] def starU (n i : Nat) (r : List D → M Unit) : D → M Unit := fun d ρ => match d.items with
  | some l => if n ≤ l.length + 1 ∧ l.length ≤ 16384 then r (l.take i ++ [.lst ((l.drop i).take (l.length + 1 - n))] ++ (l.drop i).drop (l.length + 1 - n)) ρ else .bad
  | none => .bad
theorem dgs_star {e : Expr} {p : Pos} {es : List Expr} {b : D → M Unit} {r : List D → M Unit} {is js : List Nat} (h1 : DG X b is e) (h2 : DGs X r js es) : DGs X (consG b r) (is ++ js) (.Starred e p :: es) := pgs_imp (pgs_star h1 h2) (by
  rintro vs σ H Q ⟨g, ρ, ds, ok, rr, w⟩
  cases ds with
  | nil => exact w.elim
  | cons d ds =>
    simp only [Reps] at rr
    obtain ⟨v, vr, rfl, r1, r2⟩ := rr
    refine ⟨v, vr, rfl, g, ρ, d, ok, r1, Res.W_imp (Res.W_bind w) (fun _ ρ1 w1 => ?_) fun _ _ z => z⟩
    intro g1 H1 σ1 e1 ok1 k1
    refine ⟨g1, ρ1, ds, ok1, Reps.mono e1.f e1.al _ _ r2, Res.W_imp w1 (fun _ ρ2 w2 g2 H2 σ2 e2 ok2 k2 => ?_) fun _ _ z => z⟩
    exact w2 g2 H2 σ2 (e1.trans e2) ok2 ⟨k2.len.trans k1.len, fun j hj => by
      have hj' : j ∉ is ∧ j ∉ js := by simpa using hj
      rw [k2.at_ j hj'.2, k1.at_ j hj'.1]⟩)
theorem dg_star {es : List Expr} {k n i : Nat} {r : List D → M Unit} {is : List Nat} (hc : X.calm = true) (h : DGs X r is es) (hn : (assignEach es X.env).length = n) (hst : (assignEach es X.env).findIdx? (·.1) = some i) (hi : i < n) : DG X (starU n i r) is (.Tuple es k pos) := pg_imp (pg_star hc h hn hst hi) (by
  rintro v σ H Q ⟨g, ρ, d, ok, rr, w⟩
  unfold starU at w
  cases q : d.items with
  | none => rw [q] at w; exact w.elim
  | some l =>
    rw [q] at w
    dsimp only at w
    split at w
    · rename_i c
      obtain ⟨p, xs, rfl, sq, rs⟩ := Rep.items ok.fs rr q
      have hl := rs.length
      refine ⟨p, xs, rfl, sq, by rw [hl]; exact c.1, by rw [hl]; exact c.2, fun a na => ?_⟩
      obtain ⟨g', x', ok', rl⟩ := new_lst ok (Reps.take (xs.length + 1 - n) (Reps.drop i rs)) na
      rw [hl] at ok' rl ⊢
      refine ⟨g', ρ, _, ok', Reps.append (Reps.append (Reps.mono x'.f x'.al _ _ (Reps.take i rs)) (Reps.one rl)) (Reps.mono x'.f x'.al _ _ (Reps.drop _ (Reps.drop i rs))), Res.W_imp w (fun _ ρ2 w2 g2 H2 σ2 e2 ok2 k2 => w2 g2 H2 σ2 (x'.trans e2) ok2 k2) fun _ _ z => z⟩
    · exact w.elim)
def gTsO (K : PySem.W.Frag) (b : List D → M Unit) (is : List Nat) (j : Nat) : TGs := fun vs σ H Q => ∃ g ρ ds l ws v, vs = ws ++ [v] ∧ EnOk K g H σ ρ ∧ Reps K g.F g.al ds ws ∧ RVOk K g H (.o l) v ∧ j < ρ.sl.length ∧
  (b ds ρ).W (fun _ ρ' => ∀ g' H' σ', Ext g g' → EnOk K g' H' σ' (ρ'.set j (.own l)) → OffAt (is ++ [j]) σ σ' → Q σ' H') (fun _ _ => False)
@[simp] def starO (n j : Nat) (r : List D → M Unit) : D → M Unit := fun d ρ => match d.items with
  | some l => if n ≤ l.length + 1 ∧ l.length ≤ 16384 ∧ j < ρ.sl.length then (r (l.take (n - 1)) ρ).bind fun _ ρ1 => .ok () (ρ1.set j (.own (l.drop (n - 1)))) else .bad
  | none => .bad
theorem dgo_last (j : Nat) {x : Str} {px p : Pos} (hN : X.N.Nodup) (hi : X.N[j]? = some x) (hx : Loc X.env.scope x) (hf : X.fn x = true ∨ X.env.scope.names.lookup x = some .local) : PGs X [.Starred (.Name x px) p] (gTsO X.K nilG [] j) := pgs_imp (pgs_star (pg_name hN hi hx hf) pgs_nil) (by
  rintro vs σ H Q ⟨g, ρ, ds, l, ws, v, rfl, ok, rs, rv, hj, w⟩
  cases ds with
  | cons d ds => exact w.elim
  | nil =>
    simp only [Reps] at rs
    subst rs
    obtain ⟨g', x', ok', _⟩ := ok.setR rv hj
    refine ⟨v, [], rfl, rfl, ?_⟩
    exact w g' H _ x' ok' ⟨List.length_set .., fun k hk => by
      have : j ≠ k := fun e => hk (by simp [e])
      rw [List.getElem?_set_ne this]⟩)
theorem dgo_cons {j : Nat} {e : Expr} {es : List Expr} {b : D → M Unit} {r : List D → M Unit} {is js : List Nat} (h1 : DG X b is e) (h2 : PGs X es (gTsO X.K r js j)) (hs : (assignEach (e :: es) X.env).map (·.2) = assign e X.env :: (assignEach es X.env).map (·.2)) : PGs X (e :: es) (gTsO X.K (consG b r) (is ++ js) j) := pgs_imp (pgs_cons h1 h2 hs) (by
  rintro vs σ H Q ⟨g, ρ, ds, l, ws, v, rfl, ok, rs, rv, hj, w⟩
  cases ds with
  | nil => exact w.elim
  | cons d ds =>
    simp only [Reps] at rs
    obtain ⟨v1, vr, rfl, r1, r2⟩ := rs
    obtain ⟨gp, okp, ep, fin⟩ := rv.hold ok
    refine ⟨v1, vr ++ [v], rfl, gp, ρ, d, okp, Rep.mono ep.f ep.al _ _ r1, Res.W_imp (Res.W_bind w) (fun _ ρ1 w1 => ?_) fun _ _ z => z⟩
    intro g1 H1 σ1 e1 ok1 k1
    obtain ⟨g3, e3, ok3, rv3, _⟩ := fin g1 H1 σ1 ρ1 e1 ok1
    refine ⟨g3, ρ1, ds, l, vr, v, rfl, ok3, Reps.mono e3.f e3.al _ _ r2, rv3, ?_, Res.W_imp w1 (fun _ ρ2 w2 g2 H2 σ2 e2 ok2 k2 => ?_) fun _ _ z => z⟩
    · have a1 := ok1.len
      have a2 := ok.len
      have a3 := k1.len
      omega
    · exact w2 g2 H2 σ2 (e3.trans e2) ok2 ⟨k2.len.trans k1.len, fun m hm => by
        have hm' : m ∉ is ∧ m ∉ js ++ [j] := by
          simp only [List.mem_append, List.append_assoc] at hm ⊢
          exact ⟨fun z => hm (.inl z), fun z => hm (.inr z)⟩
        rw [k2.at_ m hm'.2, k1.at_ m hm'.1]⟩)
theorem dg_starO {es : List Expr} {k n j : Nat} {r : List D → M Unit} {is : List Nat} (hc : X.calm = true) (h : PGs X es (gTsO X.K r is j)) (hn : (assignEach es X.env).length = n) (hst : (assignEach es X.env).findIdx? (·.1) = some (n - 1)) (hi : n - 1 < n) : DG X (starO n j r) (is ++ [j]) (.Tuple es k pos) := pg_imp (pg_star hc h hn hst hi) (by
  rintro v σ H Q ⟨g, ρ, d, ok, rr, w⟩
  unfold starO at w
  cases q : d.items with
  | none => rw [q] at w; exact w.elim
  | some l =>
    rw [q] at w
    dsimp only at w
    split at w
    · rename_i c
      obtain ⟨p, xs, rfl, sq, rs⟩ := Rep.items ok.fs rr q
      have hl := rs.length
      refine ⟨p, xs, rfl, sq, by rw [hl]; exact c.1, by rw [hl]; exact c.2.1, fun a na => ?_⟩
      have e1 : (xs.drop (n - 1)).take (xs.length + 1 - n) = xs.drop (n - 1) := List.take_of_length_le (by rw [List.length_drop]; omega)
      have e2 : (xs.drop (n - 1)).drop (xs.length + 1 - n) = [] := List.drop_of_length_le (by rw [List.length_drop]; omega)
      rw [e1, e2, List.append_nil]
      obtain ⟨ok', rl⟩ := new_own ok (Reps.drop (n - 1) rs) na
      exact ⟨g, ρ, l.take (n - 1), l.drop (n - 1), xs.take (n - 1), .ref a, rfl, ok', Reps.take _ rs, rl, c.2.2, Res.W_imp (Res.W_bind w) (fun _ ρ2 w2 g2 H2 σ2 e2 ok2 k2 => w2 g2 H2 σ2 e2 ok2 k2) fun _ _ z => z⟩
    · exact w.elim)
end
end LW
set_option maxHeartbeats 200000
namespace LW
open PySem PySem.Spec PyProof.Rows L2
def lc2Go (b : D → M Unit) (m1 : M (List D)) (b1 : D → M Unit) (el : M D) (vs vs1 : List Nat) : List D → List D → M (List D)
  | [], acc => fun ρ => .ok acc ρ
  | d :: ds, acc => fun ρ => (b d ρ).bind fun _ ρ1 => (m1 ρ1).bind fun ds1 ρ2 => if acc.length + ds1.length ≤ sizeLine then
      (lcGo b1 (fun ρ => .ok true ρ) el vs1 ds1 acc (ρ2.kills vs1)).bind fun acc' ρ3 => lc2Go b m1 b1 el vs vs1 ds acc' (ρ3.kills vs)
    else .bad
/-- [el for b in m for b1 in m1] -/
def lc2M (m : M (List D)) (b : D → M Unit) (m1 : M (List D)) (b1 : D → M Unit) (el : M D) (vs vs1 : List Nat) : M RV := fun ρ => (m ρ).bind fun ds ρ1 =>
  (nox (lc2Go b m1 b1 el vs vs1 ds [] (ρ1.kills vs))).bind fun l ρ2 => .ok (.o l) (ρ2.back ρ1 vs)
theorem wipe_sub {σ : L2.St} {vs1 vs : List Nat} (h : ∀ i ∈ vs1, i ∈ vs) : wipe (wipe σ vs1) vs = wipe σ vs := by
  refine List.ext_getElem? fun j => ?_
  rw [wipe_at, wipe_at, wipe_at, wipe_length]
  by_cases c : j ∈ vs
  · rw [if_pos c, if_pos c]
  · rw [if_neg c, if_neg c, if_neg fun z => c (h j z)]
theorem tLc2_of {K : PySem.W.Frag} {Wx : WX} {m m1 : M (List D)} {b b1 : D → M Unit} {el : M D} {is is1 vs vs1 : List Nat} (hv : ∀ i ∈ is, i ∈ vs) (hv1 : ∀ i ∈ is1, i ∈ vs1) (hvv : ∀ i ∈ vs1, i ∈ vs) : ∀ σ H Q, tR K Wx (lc2M m b m1 b1 el vs vs1) σ H Q →
    tLc2 (tI K Wx m) (gT K b is) (fun σ H Q => Q true H) (tI K W0 m1) (gT K b1 is1) (fun σ H Q => Q true H) (tD K W0 el) vs vs1 σ H Q := by
  rintro σ H Q ⟨g, ρ, ok, w⟩
  refine ⟨g, ρ, ok, Res.W_imp (Res.W_bind w) (fun ds ρ1 w1 => ?_) fun _ _ z => z⟩
  intro g1 H1 J e1 ok1 jok dd nD
  let Fin : Gh → List D → En → Prop := fun g2 l ρ3 => ∀ g' H' v, Ext g2 g' → EnOk K g' H' σ (ρ3.back ρ1 vs) → RVOk K g' H' (.o l) v → Q v H'
  let Wk : Nat → Hp → Prop := fun i H => i ≤ ds.length ∧ ∃ g2 ρ2 acc xs, Ext g1 g2 ∧ EnOk K g2 H (wipe σ vs) ρ2 ∧ H dd = some (.lst xs) ∧ Nob g2 dd ∧ Reps K g2.F g2.al acc xs ∧
    (lc2Go b m1 b1 el vs vs1 (ds.drop i) acc ρ2).W (Fin g2) (fun _ _ => False)
  refine ⟨fun i k H => k = ds.length - i ∧ Wk i H, ⟨_, rfl, Nat.zero_le _, g1, _, [], [], Ext.refl _, (ok1.laid nD).wipe, upd_same, ok1.nob nD, Reps.nil, ?_⟩, ?_⟩
  · refine Res.W_imp (nox_W (Res.W_bind w1)) (fun l ρ2 w2 => ?_) fun _ _ z => z
    intro g2 H2 v e2 ok2 rv
    exact w2 g2 H2 v (e1.trans e2) ok2 rv
  rintro i k H2 ⟨rfl, hi, g2, ρ2, acc, xs, e2, ok2, hD, nb, rr, w2⟩
  by_cases hlt : i < ds.length
  · have hd : ds[i]? = some ds[i] := by simp [hlt]
    rw [List.drop_eq_getElem_cons hlt] at w2
    have okp := ok2.prot hD nb
    obtain ⟨j1, j2⟩ := jok.go i _ hd _ H2 _ ρ2 (e2.to0.trans Gh.prot_ext0) okp
    refine .inr ⟨j1, Wk (i + 1), fun H' z => ⟨ds.length - (i + 1), by omega, rfl, z⟩, fun x H3 y => ?_⟩
    obtain ⟨g3, e3, ok3, r3⟩ := j2 x H3 y
    refine ⟨g3, ρ2, _, ok3, r3, Res.W_imp (Res.W_bind w2) (fun _ ρ4 w4 => ?_) fun _ _ z => z⟩
    intro g4 H4 σ4 e4 ok4 off
    have hw := wipe_off off hv
    refine ⟨hw, ?_⟩
    show (if true = true then _ else _ : Prop)
    rw [if_pos rfl]
    refine ⟨g4, ρ4, ok4, Res.W_imp (Res.W_bind w4) (fun ds1 ρ5 w5 => ?_) fun _ _ z => z.elim⟩
    intro g5 H5 Ji e5 ok5 jok5
    have x5 := (e3.trans e4).trans e5
    obtain ⟨nb5, hD5⟩ := Gh.unprot_nob x5 nb ok5
    have xx5 := Gh.unprot_ext x5 nb
    by_cases hz : acc.length + ds1.length ≤ sizeLine
    case neg => rw [if_neg hz] at w5; exact w5.elim
    rw [if_pos hz] at w5
    -- the inner loop
    let Wi : Nat → Hp → Prop := fun j H => j ≤ ds1.length ∧ ∃ g6 ρ6 acc6 xs6, Ext (g5.unprot g2) g6 ∧ EnOk K g6 H (wipe σ4 vs1) ρ6 ∧ H dd = some (.lst xs6) ∧ Nob g6 dd ∧ Reps K g6.F g6.al acc6 xs6 ∧ acc6.length ≤ acc.length + j ∧
      (lcGo b1 (fun ρ => .ok true ρ) el vs1 (ds1.drop j) acc6 ρ6).W (fun acc' ρ7 => (lc2Go b m1 b1 el vs vs1 (ds.drop (i + 1)) acc' (ρ7.kills vs)).W (Fin g6) fun _ _ => False) (fun _ _ => False)
    refine ⟨fun j k H => k = ds1.length - j ∧ Wi j H, ⟨_, rfl, Nat.zero_le _, _, _, acc, xs, Ext.refl _, (EnOk.unprot x5 nb ok5).wipe, hD5, nb5, Reps.mono xx5.f xx5.al _ _ rr, by omega, ?_⟩, ?_⟩
    · refine Res.W_imp (Res.W_bind w5) (fun acc' ρ7 w7 => ?_) fun _ _ z => z
      exact Res.W_imp w7 (fun l ρ8 w8 => fun g' H' v x' => w8 g' H' v (xx5.trans x')) fun _ _ z => z
    rintro j k H6 ⟨rfl, hj, g6, ρ6, acc6, xs6, e6, ok6, hD6, nb6, rr6, hl6, w6⟩
    by_cases hlt1 : j < ds1.length
    · have hd1 : ds1[j]? = some ds1[j] := by simp [hlt1]
      rw [List.drop_eq_getElem_cons hlt1] at w6
      have okp6 := ok6.prot hD6 nb6
      have x56 : Ext0 g5 g6 := ⟨fun a o z => e6.f a o z, fun m a z => e6.al m a z⟩
      obtain ⟨q1, q2⟩ := jok5.go j _ hd1 _ H6 _ ρ6 (x56.trans Gh.prot_ext0) okp6
      refine .inr ⟨q1, Wi (j + 1), fun H' z => ⟨ds1.length - (j + 1), by omega, rfl, z⟩, fun x H7 y7 => ?_⟩
      obtain ⟨g7, e7, ok7, r7⟩ := q2 x H7 y7
      refine ⟨g7, ρ6, _, ok7, r7, Res.W_imp (Res.W_bind w6) (fun _ ρ8 w8 => ?_) fun _ _ z => z⟩
      intro g8 H8 σ8 e8 ok8 off8
      have hw8 := wipe_off off8 hv1
      refine ⟨hw8, ?_⟩
      show (if true = true then _ else _ : Prop)
      rw [if_pos rfl]
      rw [Res.bind_ok] at w8
      dsimp only at w8
      refine ⟨g8, ρ8, ok8, Res.W_imp (Res.W_bind w8) (fun yv ρ9 w9 => ?_) fun _ _ z => z.elim⟩
      intro g9 H9 v9 e9 ok9 r9
      have x9 := (e7.trans e8).trans e9
      obtain ⟨nb9, hD9⟩ := Gh.unprot_nob x9 nb6 ok9
      have xx9 := Gh.unprot_ext x9 nb6
      have hlen := rr6.length
      refine ⟨xs6, hD9, by omega, ?_⟩
      have okb := ((EnOk.unprot x9 nb6 ok9).poke (u := .lst (xs6 ++ [v9])) nb9).wipe (vs := vs1)
      rw [hw8] at okb
      refine ⟨by omega, _, _, acc6 ++ [yv], xs6 ++ [v9], e6.trans xx9, okb, upd_same, nb9, Reps.append (Reps.mono xx9.f xx9.al _ _ rr6) (Reps.one r9), by simp; omega, Res.W_imp w9 (fun acc' ρ7 w7 => ?_) fun _ _ z => z⟩
      exact Res.W_imp w7 (fun l ρa wa => fun g' H' v x' => wa g' H' v (xx9.trans x')) fun _ _ z => z
    · have ej : j = ds1.length := by omega
      subst ej
      rw [List.drop_length] at w6
      have w6' : (lc2Go b m1 b1 el vs vs1 (ds.drop (i + 1)) acc6 (ρ6.kills vs)).W (Fin g6) fun _ _ => False := w6
      have x56 : Ext0 g5 g6 := ⟨fun a o z => e6.f a o z, fun m a z => e6.al m a z⟩
      refine .inl ⟨jok5.stop g6 H6 _ ρ6 x56 ok6, by omega, g6, _, acc6, xs6, (e2.trans xx5).trans e6, ?_, hD6, nb6, rr6, w6'⟩
      have okw := ok6.wipe (vs := vs)
      rw [wipe_sub hvv, hw] at okw
      exact okw
  · have e' : i = ds.length := by omega
    subst e'
    rw [List.drop_length] at w2
    exact .inl ⟨jok.stop g2 H2 _ ρ2 e2.to0 ok2, w2 g2 H2 _ (Ext.refl _) (ok2.unwipe ok1 e2.to0) ⟨dd, xs, rfl, hD, nb.f, nb.b, nb.o, rr⟩⟩
section
variable {X : Cx} {Wx : WX} {pos pos' px p : Pos} {x y : Str} {c a b e : Expr} {tc : M Bool} {mra mrb : M RV} {mb : M D} {ma : M (List D)}
theorem dr_lc2 {elt tg iter tg1 iter1 : Expr} {scope : Scope} {own : List (Str × Nat)} {m m1 : M (List D)} {b b1 : D → M Unit} {is is1 vs1 : List Nat} {el : M D} (hc : X.calm = true) (hN : X.N.Nodup) (hi : DI X Wx m tg iter) (ok : BlkOk X.N X.env.scope scope own) (hv : ∀ i ∈ is, i ∈ own.map (·.2)) (hv1 : ∀ i ∈ is1, i ∈ vs1) (hvv : ∀ i ∈ vs1, i ∈ own.map (·.2))
    (hg : ∀ (s : Shared) (H : Hp) (C : Addr) (cl : List (Str × Addr)) (fp : List Addr), DG (X.blk s H scope (compEnvC scope cl C X.env) fp) b is tg)
    (hi1 : ∀ (s : Shared) (H : Hp) (C : Addr) (cl : List (Str × Addr)) (fp : List Addr), DI (X.blk s H scope (compEnvC scope cl C X.env) fp) W0 m1 tg1 iter1)
    (hg1 : ∀ (s : Shared) (H : Hp) (C : Addr) (cl : List (Str × Addr)) (fp : List Addr), DG (X.blk s H scope (compEnvC scope cl C X.env) fp) b1 is1 tg1)
    (he : ∀ (s : Shared) (H : Hp) (C : Addr) (cl : List (Str × Addr)) (fp : List Addr), DE (X.blk s H scope (compEnvC scope cl C X.env) fp) W0 el elt) (hs : ∀ x, foldedSetIterable iter X.env x = pure x) (hs1 : ∀ env x, foldedSetIterable iter1 env x = pure x) :
    DR X Wx (lc2M m b m1 b1 el (own.map (·.2)) vs1) (.ListComp elt [⟨tg, iter, [], 0⟩, ⟨tg1, iter1, [], 0⟩] scope pos) := pe_imp (pe_lc2 hc hN hi ok hvv hg (fun _ _ _ _ _ => pts_nil) hi1 hg1 (fun _ _ _ _ _ => pts_nil) he hs hs1) (tLc2_of hv hv1 hvv)
theorem ds_setLc2 (i : Nat) {y : Str} {py : Pos} {elt tg iter tg1 iter1 : Expr} {scope : Scope} {own : List (Str × Nat)} {spos : Pos} {m m1 : M (List D)} {b b1 : D → M Unit} {is is1 vs1 : List Nat} {el : M D} (hc : X.calm = true) (hN : X.N.Nodup) (hy : X.N[i]? = some y) (hyl : X.env.scope.names.lookup y = some .local)
    (hsw : swapsWith (.ListComp elt [⟨tg, iter, [], 0⟩, ⟨tg1, iter1, [], 0⟩] scope pos) (some (.Name y py)) spos.line X.env = pure true) (hi : DI X Wx m tg iter) (ok : BlkOk X.N X.env.scope scope own) (hv : ∀ i ∈ is, i ∈ own.map (·.2)) (hv1 : ∀ i ∈ is1, i ∈ vs1) (hvv : ∀ i ∈ vs1, i ∈ own.map (·.2))
    (hg : ∀ (s : Shared) (H : Hp) (C : Addr) (cl : List (Str × Addr)) (fp : List Addr), DG (X.blk s H scope (compEnvC scope cl C X.env) fp) b is tg)
    (hi1 : ∀ (s : Shared) (H : Hp) (C : Addr) (cl : List (Str × Addr)) (fp : List Addr), DI (X.blk s H scope (compEnvC scope cl C X.env) fp) W0 m1 tg1 iter1)
    (hg1 : ∀ (s : Shared) (H : Hp) (C : Addr) (cl : List (Str × Addr)) (fp : List Addr), DG (X.blk s H scope (compEnvC scope cl C X.env) fp) b1 is1 tg1)
    (he : ∀ (s : Shared) (H : Hp) (C : Addr) (cl : List (Str × Addr)) (fp : List Addr), DE (X.blk s H scope (compEnvC scope cl C X.env) fp) W0 el elt) (hs : ∀ x, foldedSetIterable iter X.env x = pure x) (hs1 : ∀ env x, foldedSetIterable iter1 env x = pure x) :
    DS X Wx (setM i (lc2M m b m1 b1 el (own.map (·.2)) vs1)) (.Assign [.Name y py] (.ListComp elt [⟨tg, iter, [], 0⟩, ⟨tg1, iter1, [], 0⟩] scope pos) spos) := ps_imp (ps_setLc2 hc hN hy hyl hsw hi ok hvv hg (fun _ _ _ _ _ => pts_nil) hi1 hg1 (fun _ _ _ _ _ => pts_nil) he hs hs1) (tSet_of (tLc2_of hv hv1 hvv))
/-- a if c else b, own things -/
theorem dr_ife (hc : DT X Wx tc c) (ha : DR X Wx mra a) (hb : DR X Wx mrb b) : DR X Wx (iteD tc mra mrb) (.IfExp c a b pos) := pe_imp (pe_ifExp hc ha hb) (by
  rintro σ H Q ⟨g, ρ, ok, w⟩
  refine ⟨g, ρ, ok, Res.W_imp (Res.W_bind w) (fun x ρ1 w1 => ?_) fun _ _ z => z⟩
  intro g1 H1 e1 ok1
  cases x with
  | true =>
    rw [if_pos rfl]
    exact ⟨g1, ρ1, ok1, Res.W_imp w1 (fun d ρ2 w2 g2 H2 v e2 ok2 rv => w2 g2 H2 v (e1.trans e2) ok2 rv) fun _ _ z => z.mono e1⟩
  | false =>
    rw [if_neg (by decide)]
    exact ⟨g1, ρ1, ok1, Res.W_imp w1 (fun d ρ2 w2 g2 H2 v e2 ok2 rv => w2 g2 H2 v (e1.trans e2) ok2 rv) fun _ _ z => z.mono e1⟩)
/-- list(range(n)) -/
@[simp] def lrgM (m : M D) : M RV := fun ρ => (m ρ).bind fun d ρ1 => match d with
  | .int n => if n.natAbs ≤ 10000 then .ok (.o (rngL 0 n.toNat)) ρ1 else .bad
  | _ => .bad
theorem rep_rg {K : PySem.W.Frag} {F : Hp} {al : List Addr} : ∀ (n : Nat) (lo : Int), Reps K F al (rngL lo n) ((List.range n).map fun i => V.int (lo + (i : Nat)))
  | 0, lo => Reps.nil
  | n + 1, lo => by
    rw [List.range_succ_eq_map, List.map_cons, List.map_map]
    refine Reps.cons ?_ ?_
    · rw [show lo + ((0 : Nat) : Int) = lo by simp]
      exact Rep.mkI
    · have := rep_rg (K := K) (F := F) (al := al) n (lo + 1)
      refine (congrArg (Reps K F al (rngL (lo + 1) n)) ?_).mp this
      refine List.map_congr_left fun i _ => ?_
      show V.int (lo + 1 + (i : Nat)) = V.int (lo + ((i + 1 : Nat) : Int))
      congr 1
      omega
theorem dr_listRg {ma : M D} (hc : X.calm = true) (hg : Gl X "list") (hm : X.mg "list" = none) (hg2 : Gl X "range") (hm2 : X.mg "range" = none) (ha : DE X Wx ma a) (na : starEach [a] X.env = (false, eval a X.env) :: starEach [] X.env) (na2 : starEach [.Call (.Name "range" px) [a] [] p] X.env = (false, eval (.Call (.Name "range" px) [a] [] p) X.env) :: starEach [] X.env) :
    DR X Wx (lrgM ma) (.Call (.Name "list" pos) [.Call (.Name "range" px) [a] [] p] [] pos') := pe_imp (pe_listRg hc hg hm (prg_1 hg2 hm2 ha na) na2) (by
  rintro σ H Q ⟨g, ρ, ok, w⟩
  refine ⟨g, ρ, ok, Res.W_imp (Res.W_bind w) (fun d ρ1 w1 => ?_) fun _ _ z => z⟩
  intro g1 H1 v e1 ok1 rv
  cases d with
  | int n =>
    dsimp only at w1
    by_cases c : n.natAbs ≤ 10000
    · rw [if_pos c] at w1
      refine ⟨n, rv.int, ⟨by omega, by omega, by omega, by omega, by omega⟩, fun q nq => ?_⟩
      have e : rgV 0 n = (List.range n.toNat).map fun i => V.int (0 + (i : Nat)) := by
        unfold rgV
        rw [show (n - 0).toNat = n.toNat by omega]
      rw [e]
      obtain ⟨k1, k2⟩ := new_own ok1 (rep_rg n.toNat 0) nq
      exact w1 g1 _ _ e1 k1 k2
    · rw [if_neg c] at w1; exact w1.elim
  | _ => exact w1.elim)
/-- a list of one's own in slot i compared as data -/
@[simp] def cmpOwn (h : D → D → Option D) (i : Nat) (mb : M D) : M D := fun ρ => match ρ.sl[i]? with
  | some (.own _) => (mb ρ).bind fun y ρ1 => (match ρ1.sl[i]? with
    | some (.own l) => (match h (.lst l) y with
      | some z => .ok z ρ1
      | none => .bad)
    | _ => .bad)
  | _ => .bad
theorem tCmpOwn_of {op : PyData → PyData → Bool} {h : D → D → Option D} (hh : ∀ x y z, h x y = some z → x.okd 20 = true ∧ y.okd 20 = true ∧ z = .bl (op x.py y.py)) {i : Nat} : ∀ σ H Q, tD X.K Wx (cmpOwn h i mb) σ H Q → tOp (fun x y H Q => ∃ d e, Dp X.K H x d ∧ Dp X.K H y e ∧ SeqAt.shaped d = true ∧ SeqAt.shaped e = true ∧ Q (.bl (op d e)) H) (tVar i) (tD X.K Wx mb) σ H Q := by
  rintro σ H Q ⟨g, ρ, ok, w⟩
  unfold cmpOwn at w
  cases es : ρ.sl[i]? with
  | none => rw [es] at w; exact w.elim
  | some s =>
    rw [es] at w
    cases s with
    | own l =>
      obtain ⟨a, xs, e1, _⟩ := ok.own_at es
      refine ⟨.ref a, e1, g, ρ, ok, Res.W_imp (Res.W_bind w) (fun y ρ1 w1 => ?_) fun _ _ z => z⟩
      intro g1 H1 y' x1 ok1 ry
      cases es1 : ρ1.sl[i]? with
      | none => rw [es1] at w1; exact w1.elim
      | some s1 =>
        rw [es1] at w1
        cases s1 with
        | own l1 =>
          obtain ⟨a', xs', f1, f2, f3, rr⟩ := ok1.own_at es1
          rw [e1] at f1
          cases f1
          dsimp only at w1
          cases q : h (.lst l1) y with
          | none => rw [q] at w1; exact w1.elim
          | some z =>
            rw [q] at w1
            obtain ⟨h1, h2, rfl⟩ := hh _ _ _ q
            have h1' : D.okdL l1 19 = true := by simpa [D.okd] using h1
            refine ⟨_, _, ?_, Rep.dp ok1.fs _ _ _ ry h2, D.shaped h1 (by decide), D.shaped h2 (by decide), w1 g1 H1 _ x1 ok1 Rep.mkB⟩
            simp only [D.py]
            exact .lst (SqL.of f2) (Reps.dp ok1.fs l1 xs' 19 rr h1')
        | _ => exact w1.elim
    | _ => exact w.elim
theorem eqO_sh : ∀ x y z, eqO x y = some z → x.okd 20 = true ∧ y.okd 20 = true ∧ z = .bl (PyData.eqv x.py y.py) := fun x y z h => by
  unfold eqO at h
  split at h
  · rename_i c
    cases h
    exact ⟨c.1, c.2, rfl⟩
  · cases h
theorem neO_sh : ∀ x y z, neO x y = some z → x.okd 20 = true ∧ y.okd 20 = true ∧ z = .bl (!PyData.eqv x.py y.py) := fun x y z h => by
  unfold neO at h
  split at h
  · rename_i c
    cases h
    exact ⟨c.1, c.2, rfl⟩
  · cases h
theorem dt_eqOwn (i : Nat) (hu : X.A.units + 64 < cLine) (hN : X.N[i]? = some x) (hv : Vis X.env.scope x) (hd : (x == ("__debug__" : Str)) = false) (hcd : (x == ("__classdict__" : Str)) = false) (hb : DE X Wx mb b) (hm : behindInMarks .Eq b = false) : DT X Wx (tstD (cmpOwn eqO i mb)) (.Compare (.Name x px) [.Eq] [b] pos) :=
  pt_imp (pt_cmpR (op_eqD hu) (pe_var hN hv hd hcd) hb hm) (tTest_of (tCmpOwn_of (op := fun d e => PyData.eqv d e) eqO_sh))
theorem dt_neOwn (i : Nat) (hu : X.A.units + 64 < cLine) (hN : X.N[i]? = some x) (hv : Vis X.env.scope x) (hd : (x == ("__debug__" : Str)) = false) (hcd : (x == ("__classdict__" : Str)) = false) (hb : DE X Wx mb b) (hm : behindInMarks .NotEq b = false) : DT X Wx (tstD (cmpOwn neO i mb)) (.Compare (.Name x px) [.NotEq] [b] pos) :=
  pt_imp (pt_cmpR (op_neD hu) (pe_var hN hv hd hcd) hb hm) (tTest_of (tCmpOwn_of (op := fun d e => !PyData.eqv d e) neO_sh))
end
end LW
set_option maxHeartbeats 200000
namespace LP
open PySem PySem.Spec PyProof.Rows L2 LW
/-- need_hand: hand -/
noncomputable def m_need_hand : M Fl := ifM (tstD (bin2 (purO notInO) (locD 0) (cstD (.tup [(.str "we"), (.str "weather")])))) (badM) (nopM)
noncomputable def Ph_need_hand : List D → M RV := callF 1 m_need_hand
/-- is_share: one -/
noncomputable def m_is_share : M Fl := retM' (valR (andV (chn (purO leI) (purO leI) (cstD (.int 0)) (bin2 (purO ixO) (locD 0) (cstD (.int 0))) (cstD (.int 999))) (bin2 (purO leI) (bin2 (purO ixO) (locD 0) (cstD (.int 1))) (cstD (.int 20)))))
noncomputable def Ph_is_share : List D → M RV := callF 1 m_is_share
/-- look: menus, hand, rows, row, share -/
noncomputable def m_look : M Fl := seqM (ifM (notT (tstD (chn (purO leI) (purO leI) (cstD (.int 1)) (frzM (cbM lenF (consA (locD 0) (nilA)))) (cstD (.int 5))))) (badM) (nopM)) (seqM (forM (itsD (locD 0)) (tupU 2 (consG (setU 1) (consG (setU 2) (nilG)))) (seqM (exprM (frzM (callM 1 (consA (locD 1) (nilA)) [] (Ph_need_hand)))) (seqM (ifM (notT (tstD (chn (purO leI) (purO leI) (cstD (.int 1)) (frzM (cbM lenF (consA (locD 2) (nilA)))) (cstD (.int 3))))) (badM) (nopM)) (seqM (forM (itsD (locD 2)) (setU 3) (seqM (ifM (orT (tstD (bin2 (purO neO) (frzM (cbM lenF (consA (locD 3) (nilA)))) (frzM (cbM lenF (consA (locD 0) (nilA)))))) (notT (truD (frzM (cbM allF (consA (frzM (lcM (itsD (locD 3)) (setU 4) (yesT) (frzM (callM 1 (consA (locD 4) (nilA)) [] (Ph_is_share))) [4])) (nilA))))))) (badM) (nopM)) (killM [3]))) (seqM (killM [3]) (killM [1, 2, 3])))))) (killM [1, 2, 3]))
noncomputable def Ph_look : List D → M RV := callF 5 m_look
/-- need_filling: many, filling, one -/
noncomputable def m_need_filling : M Fl := ifM (orT (tstD (bin2 (purO neO) (frzM (cbM lenF (consA (locD 1) (nilA)))) (locD 0))) (truD (frzM (cbM anyF (consA (frzM (lcM (itsD (locD 1)) (setU 2) (yesT) (bin2 (purO ltI) (bin2 (purO ixO) (locD 2) (cstD (.int 0))) (cstD (.int 0))) [2])) (nilA)))))) (badM) (nopM)
noncomputable def Ph_need_filling : List D → M RV := callF 3 m_need_filling
/-- need_both: one, other, counts, shapes, menus, hand, rows -/
noncomputable def m_need_both : M Fl := seqM (exprM (frzM (callM 1 (consA (locD 0) (nilA)) [] (Ph_look)))) (seqM (exprM (frzM (callM 1 (consA (locD 1) (nilA)) [] (Ph_look)))) (seqM (seqM (setM 3 (lcM (itsD (tupD (consA (locD 0) (consA (locD 1) (nilA))))) (setU 4) (yesT) (frzM (lcM (itsD (locD 4)) (tupU 2 (consG (setU 5) (consG (setU 6) (nilG)))) (yesT) (tupD (consA (locD 5) (consA (frzM (cbM lenF (consA (locD 6) (nilA)))) (nilA)))) [5, 6])) [4])) (letM 3)) (seqM (ifM (tstD (bin2 (purO neO) (bin2 (purO ixO) (locD 3) (cstD (.int 0))) (bin2 (purO ixO) (locD 3) (cstD (.int 1))))) (badM) (nopM)) (exprM (frzM (callM 2 (consA (frzM (cbM lenF (consA (locD 0) (nilA)))) (consA (locD 2) (nilA))) [] (Ph_need_filling)))))))
noncomputable def Ph_need_both : List D → M RV := callF 7 m_need_both
/-- Span.__init__: self -/
noncomputable def m_Span___init__ : M Fl := setFM 0 "Span" "leads" (dctR)
noncomputable def Ph_Span___init__ : List D → M RV := callF 1 m_Span___init__
/-- Span.rest: self, row, found, at, many, one, lead -/
noncomputable def m_Span_rest : M Fl := seqM (setM 2 (valR (frzM (cbM listF (consA (locD 1) (nilA)))))) (seqM (forM (rng1 (consA (frzM (cbM lenF (consA (locD 2) (nilA)))) (nilA))) (setU 3) (seqM (ifM (andT (tstD (bin2 (purO neO) (bin2 (purO ixO) (locD 2) (locD 3)) (cstD (.tup [(.int 0), (.int 1)])))) (tstD (inF false "Span" "leads" (locD 3) (locD 0)))) (seqM (setM 4 (valR (bin2 (purO ixO) (locD 2) (locD 3)))) (seqM (setM 2 (lcM (zipD true (consA (locD 2) (consA (dgetF "Span" "leads" (locD 0) (locD 3)) (nilA)))) (tupU 2 (consG (setU 5) (consG (setU 6) (nilG)))) (yesT) (frzM (callM 2 (consA (locD 5) (consA (frzM (callM 2 (consA (locD 4) (consA (locD 6) (nilA))) [] (Ph_times))) (nilA))) [] (Ph_less))) [5, 6])) (letM 2))) (nopM)) (seqM (killM [4]) (killM [3, 4])))) (seqM (killM [3, 4]) (retM' (valR (locD 2)))))
noncomputable def Ph_Span_rest : List D → M RV := callF 7 m_Span_rest
/-- Span.put: self, row, found, at, one, other -/
noncomputable def m_Span_put : M Fl := seqM (setM 2 (valR (frzM (methM "Span" "rest" 2 (locD 0) (consA (locD 1) (nilA)) [] Ph_Span_rest)))) (seqM (forM (enumD (consA (locD 2) (nilA))) (tupU 2 (consG (setU 3) (consG (setU 4) (nilG)))) (seqM (ifM (tstD (bin2 (purO neO) (locD 4) (cstD (.tup [(.int 0), (.int 1)])))) (seqM (dputF "Span" "leads" (locD 0) (locD 3) (frzM (lcM (itsD (locD 2)) (setU 5) (yesT) (frzM (callM 2 (consA (locD 5) (consA (locD 4) (nilA))) [] (Ph_over))) [5]))) (retM' (valR (cstD (.bl true))))) (nopM)) (killM [3, 4]))) (seqM (killM [3, 4]) (retM' (valR (cstD (.bl false))))))
noncomputable def Ph_Span_put : List D → M RV := callF 6 m_Span_put
/-- all_plans: menus, stores, found, store, plan, at -/
noncomputable def m_all_plans : M Fl := seqM (setM 2 (valR (frzM (lstR (consA (tupD (nilA)) (nilA)))))) (seqM (forM (itsD (locD 1)) (setU 3) (seqM (seqM (setM 2 (lc2M (itsD (locD 2)) (setU 4) (rng1 (consA (frzM (cbM lenF (consA (bin2 (purO ixO) (bin2 (purO ixO) (locD 0) (locD 3)) (cstD (.int 1))) (nilA)))) (nilA))) (setU 5) (bin2 (purO addT) (locD 4) (tupD (consA (locD 5) (nilA)))) [4, 5] [5])) (letM 2)) (killM [3]))) (seqM (killM [3]) (retM' (valR (locD 2)))))
noncomputable def Ph_all_plans : List D → M RV := callF 6 m_all_plans
/-- row_by: row, table, found, one, shares, had, share -/
noncomputable def m_row_by : M Fl := seqM (setM 2 (valR (bin2 (purO mulL) (frzM (lstR (consA (cstD (.tup [(.int 0), (.int 1)])) (nilA)))) (frzM (cbM lenF (consA (locD 0) (nilA))))))) (seqM (forM (zipD true (consA (locD 0) (consA (locD 1) (nilA)))) (tupU 2 (consG (setU 3) (consG (setU 4) (nilG)))) (seqM (ifM (tstD (bin2 (purO neO) (locD 3) (cstD (.tup [(.int 0), (.int 1)])))) (seqM (setM 2 (lcM (zipD true (consA (locD 2) (consA (locD 4) (nilA)))) (tupU 2 (consG (setU 5) (consG (setU 6) (nilG)))) (yesT) (frzM (callM 2 (consA (locD 5) (consA (frzM (callM 2 (consA (locD 3) (consA (locD 6) (nilA))) [] (Ph_times))) (nilA))) [] (Ph_plus))) [5, 6])) (letM 2)) (nopM)) (killM [3, 4]))) (seqM (killM [3, 4]) (retM' (cbM tupleF (consA (locD 2) (nilA))))))
noncomputable def Ph_row_by : List D → M RV := callF 7 m_row_by
/-- taken: menus, choice, store, at -/
noncomputable def m_taken : M Fl := retM' (lcM (enumD (consA (locD 1) (nilA))) (tupU 2 (consG (setU 2) (consG (setU 3) (nilG)))) (yesT) (bin2 (purO ixO) (bin2 (purO ixO) (bin2 (purO ixO) (locD 0) (locD 2)) (cstD (.int 1))) (locD 3)) [2, 3])
noncomputable def Ph_taken : List D → M RV := callF 4 m_taken
/-- alike: one, other, counts, span, basis, waiting, row, choices, choice, here, there, store, at -/
noncomputable def m_alike : M Fl := seqM (exprM (frzM (callM 3 (consA (locD 0) (consA (locD 1) (consA (locD 2) (nilA)))) [] (Ph_need_both)))) (seqM (setM 3 (valR (makeM "Span" 1 nilA [] Ph_Span___init__))) (seqM (setM 4 (lstR (nilA))) (seqM (setM 5 (iteD (truD (frzM (methM "Span" "put" 2 (locD 3) (consA (locD 2) (nilA)) [] Ph_Span_put))) (lstR (consA (tupD (consA (frzM (cbM tupleF (consA (locD 2) (nilA)))) (consA (frzM (lstR (nilA))) (nilA)))) (nilA))) (lstR (nilA)))) (seqM (whileM (tstD (cmpOwn neO 5 (frzM (lstR (nilA))))) (seqM (letM 5) (seqM (asgT (locD 5) (starO 2 5 (consG (tupU 2 (consG (setU 6) (consG (setU 7) (nilG)))) (nilG)))) (seqM (exprM (mtO 4 appF (consA (locD 6) (nilA)))) (seqM (forM (itsD (frzM (callM 2 (consA (locD 0) (consA (frzM (lrgM (frzM (cbM lenF (consA (locD 0) (nilA)))))) (nilA))) [] (Ph_all_plans)))) (setU 8) (seqM (asgT (tupD (consA (frzM (callM 2 (consA (locD 6) (consA (frzM (callM 2 (consA (locD 0) (consA (locD 8) (nilA))) [] (Ph_taken))) (nilA))) [] (Ph_row_by))) (consA (frzM (callM 2 (consA (locD 6) (consA (frzM (callM 2 (consA (locD 1) (consA (locD 8) (nilA))) [] (Ph_taken))) (nilA))) [] (Ph_row_by))) (nilA)))) (tupU 2 (consG (setU 9) (consG (setU 10) (nilG))))) (seqM (ifM (tstD (bin2 (purO neO) (locD 9) (locD 10))) (seqM (setM 11 (valR (bin2 (purO ixO) (frzM (lcM (rng1 (consA (frzM (cbM lenF (consA (locD 9) (nilA)))) (nilA))) (setU 12) (tstD (bin2 (purO neO) (bin2 (purO ixO) (locD 9) (locD 12)) (bin2 (purO ixO) (locD 10) (locD 12)))) (locD 12) [12])) (cstD (.int 0))))) (retM' (valR (tupD (consA (cstD (.str "apart")) (consA (bin2 (purO addL) (frzM (lstR (consA (locD 8) (nilA)))) (locD 7)) (consA (locD 11) (nilA)))))))) (nopM)) (seqM (ifM (truD (frzM (methM "Span" "put" 2 (locD 3) (consA (locD 9) (nilA)) [] Ph_Span_put))) (exprM (mtO 5 appF (consA (tupD (consA (locD 9) (consA (bin2 (purO addL) (frzM (lstR (consA (locD 8) (nilA)))) (locD 7)) (nilA)))) (nilA)))) (nopM)) (killM [8, 9, 10, 11]))))) (seqM (killM [8, 9, 10, 11]) (killM [6, 7, 8, 9, 10, 11]))))))) (seqM (killM [5, 6, 7, 8, 9, 10, 11]) (seqM (letM 4) (retM' (valR (tupD (consA (cstD (.str "alike")) (consA (locD 4) (nilA))))))))))))
noncomputable def Ph_alike : List D → M RV := callF 13 m_alike
end LP
set_option maxHeartbeats 200000
namespace LW
open PySem
theorem notT_of {a : M Bool} {ρ ρ1 : En} {x : Bool} (h : a ρ = .ok x ρ1) : notT a ρ = .ok (!x) ρ1 := by unfold notT; rw [h]; rfl
theorem all_lc {α : Type} {m : M RV} {ρ ρ2 : En} {p : α → Bool} {xs : List α} (h : m ρ = .ok (.o (xs.map fun x => .bl (p x))) ρ2) : truD (frzM (cbM allF (consA (frzM m) nilA))) ρ = .ok (xs.all p) ρ2 := by
  refine truD_bl (frzM_v (cb1_of h ?_))
  unfold allF
  dsimp only
  rw [LP.blsD_map]
  simp [List.all_map]
theorem any_lc {α : Type} {m : M RV} {ρ ρ2 : En} {p : α → Bool} {xs : List α} (h : m ρ = .ok (.o (xs.map fun x => .bl (p x))) ρ2) : truD (frzM (cbM anyF (consA (frzM m) nilA))) ρ = .ok (xs.any p) ρ2 := by
  refine truD_bl (frzM_v (cb1_of h ?_))
  unfold anyF
  dsimp only
  rw [LP.blsD_map]
  simp [List.any_map]
theorem orT_of {a b : M Bool} {ρ ρ1 ρ2 : En} {x y : Bool} (h : a ρ = .ok x ρ1) (k : x = false → b ρ1 = .ok y ρ2) (e : x = true → ρ1 = ρ2 ∧ y = true) : orT a b ρ = .ok y ρ2 := by
  unfold orT
  rw [h, Res.bind_ok]
  cases x with
  | true => obtain ⟨rfl, rfl⟩ := e rfl; rfl
  | false => exact k rfl
end LW
namespace LP
open PySem LW N57
local macro_rules | `(tactic| walk_at "s") => `(tactic| (refine wh_seq (by (simp [*] <;> exact rfl)) ?_))
/-- a share -/
def Shr (q : Rat) : Prop := 0 ≤ q ∧ q.num ≤ 999 ∧ q.den ≤ 20
def RowOk (n : Nat) (l : List Rat) : Prop := l.length = n ∧ ∀ x ∈ l, Shr x
def MenOk (n : Nat) (e : Ent) : Prop := 1 ≤ e.2.length ∧ e.2.length ≤ 3 ∧ ∀ l ∈ e.2, RowOk n l
/-- menus -/
structure BkOk (n : Nat) (bk : List Ent) : Prop where
  len : bk.length = n
  pos : 1 ≤ n
  le : n ≤ 5
  men : ∀ e ∈ bk, MenOk n e
def bkD (bk : List Ent) : D := .tup (bk.map eD)
theorem need_hand_ok (b : Bool) (ob : List OD) : Ph_need_hand [.str (whoS b)] ⟨[], ob⟩ = .ok (.v .non) ⟨[], ob⟩ := by
  have e : notInO (.str (whoS b)) (.tup [.str "we", .str "weather"]) = some (.bl false) := by
    cases b <;> rfl
  simp [Ph_need_hand, m_need_hand, e]
theorem is_share_ok {q : Rat} (h : Shr q) (ob : List OD) : Ph_is_share [rD q] ⟨[], ob⟩ = .ok (.v (.bl true)) ⟨[], ob⟩ := by
  have h1 : 0 ≤ q.num := Rat.num_nonneg.mpr h.1
  have h2 := h.2.1
  have h3 := h.2.2
  have h4 : (q.den : Int) ≤ 20 := by omega
  simp [Ph_is_share, m_is_share, rD, L2.atI, L2.ixN, h1, h2, h4]
theorem look_ok {n : Nat} {bk : List Ent} (h : BkOk n bk) (ob : List OD) : Ph_look [bkD bk] ⟨[], ob⟩ = .ok (.v .non) ⟨[], ob⟩ := by
  have big : (100 : Nat) ≤ sizeLine := by decide
  have hl := h.len
  have h1 : (1 : Int) ≤ n := by have := h.pos; omega
  have h2 : (n : Int) ≤ 5 := by have := h.le; omega
  unfold Ph_look m_look
  apply callF_wh
  refine wh_if_ff (by (simp [bkD, hl, h1, h2] <;> exact rfl)) (wh_nop ?_)
  refine wh_fold eD bk (fun _ : Unit => ⟨[.val (bkD bk), .un, .un, .un, .un], ob⟩) (fun s _ => s) () (by (simp [bkD] <;> exact rfl)) (fun _ e he => ?_) ?_
  · obtain ⟨r1, r2, r3⟩ := h.men e he
    have r1' : (1 : Int) ≤ e.2.length := by omega
    have r2' : (e.2.length : Int) ≤ 3 := by omega
    refine ⟨_, by (simp [eD] <;> exact rfl), ?_⟩
    refine wh_seq (by (simp [need_hand_ok] <;> exact rfl)) ?_
    refine wh_if_ff (by (simp [r1', r2'] <;> exact rfl)) (wh_nop ?_)
    refine wh_fold rT e.2 (fun _ : Unit => ⟨[.val (bkD bk), .val (.str (whoS e.1)), .val (.tup (e.2.map rT)), .un, .un], ob⟩) (fun s _ => s) () (by (simp <;> exact rfl)) (fun _ l hl => ?_) ?_
    · obtain ⟨q1, q2⟩ := r3 l hl
      refine ⟨_, by (simp [rT] <;> exact rfl), ?_⟩
      refine wh_if_ff (ρ1 := ⟨[.val (bkD bk), .val (.str (whoS e.1)), .val (.tup (e.2.map rT)), .val (rT l), .un], ob⟩) ?_ (wh_nop (wh_ok (fl := .nx) (by (simp <;> exact rfl)) ⟨.inl rfl, rfl⟩))
      refine orT_ff (by (simp [rT, bkD, hl, q1, h.len] <;> exact rfl)) (notT_of (x := true) ?_)
      have ea : (l.all fun _ => true) = true := by simp
      rw [← ea]
      refine all_lc (p := fun _ => true) (lcM_map (e := rD) (xs := l) (by (simp [rT] <;> exact rfl)) (by have := h.le; omega) (by (simp [En.kills] <;> exact rfl)) (fun x hx => ⟨_, _, rfl, by (simp [is_share_ok (q2 x hx)] <;> exact rfl), by simp [En.kills]⟩) (by simp [En.back, SD.keep, bkD, rT]))
    · exact wh_ok (fl := .nx) (by (simp <;> exact rfl)) ⟨.inl rfl, rfl⟩
  · exact wh_ok (fl := .nx) (by (simp <;> exact rfl)) ⟨rfl, rfl⟩
end LP
set_option maxHeartbeats 200000
namespace LW
open PySem PySem.Spec PyProof.Rows L2
section
variable {Q : Fl → En → Prop} {E : Ex → En → Prop} {a k : M Fl} {ρ ρ1 : En}
/-- a for loop as a fold whose states keep P -/
theorem wh_foldP {σ α : Type} {b : D → M Unit} {body : M Fl} {m : M (List D)} (e : α → D) (xs : List α) (I : σ → En) (f : σ → α → σ) (s0 : σ) (P : Nat → σ → Prop) (hm : m ρ = .ok (xs.map e) (I s0)) (h0 : P 0 s0)
    (hs : ∀ j s x, xs[j]? = some x → P j s → P (j + 1) (f s x) ∧ ∃ ρa, b (e x) (I s) = .ok () ρa ∧ Wh (fun fl ρ' => (fl = .nx ∨ fl = .ct) ∧ ρ' = I (f s x)) (fun _ _ => False) (body ρa)) (hk : P xs.length (xs.foldl f s0) → Wh Q E (k (I (xs.foldl f s0)))) : Wh Q E (seqM (forM m b body) k ρ) := by
  refine wh_for (fun j ρ' => P j ((xs.take j).foldl f s0) ∧ ρ' = I ((xs.take j).foldl f s0)) hm ⟨by simpa using h0, by simp⟩ (fun j d ρ' hd hI => ?_) (fun ρ' hI => ?_)
  · rw [List.getElem?_map] at hd
    cases hx : xs[j]? with
    | none => rw [hx] at hd; cases hd
    | some x =>
      rw [hx] at hd
      have hd : e x = d := Option.some.inj hd
      subst hd
      obtain ⟨hP, rfl⟩ := hI
      obtain ⟨p1, ρa, h1, h2⟩ := hs j ((xs.take j).foldl f s0) x hx hP
      have e2 : (xs.take (j + 1)).foldl f s0 = f ((xs.take j).foldl f s0) x := by
        rw [List.take_add_one, hx, List.foldl_append]
        rfl
      refine ⟨ρa, h1, wh_imp h2 (fun fl ρ2 hh => ?_) fun _ _ z => z.elim⟩
      rcases hh with ⟨rfl | rfl, h4⟩ <;> exact ⟨by rw [e2]; exact p1, by rw [e2]; exact h4⟩
  · rw [List.length_map, List.take_length] at hI
    obtain ⟨hP, rfl⟩ := hI
    exact hk hP
/-- the same as the last statement -/
theorem wh_foldP1 {σ α : Type} {b : D → M Unit} {body : M Fl} {m : M (List D)} (e : α → D) (xs : List α) (I : σ → En) (f : σ → α → σ) (s0 : σ) (P : Nat → σ → Prop) (hm : m ρ = .ok (xs.map e) (I s0)) (h0 : P 0 s0)
    (hs : ∀ j s x, xs[j]? = some x → P j s → P (j + 1) (f s x) ∧ ∃ ρa, b (e x) (I s) = .ok () ρa ∧ Wh (fun fl ρ' => (fl = .nx ∨ fl = .ct) ∧ ρ' = I (f s x)) (fun _ _ => False) (body ρa)) (hk : P xs.length (xs.foldl f s0) → Q .nx (I (xs.foldl f s0))) : Wh Q E (forM m b body ρ) :=
  wh_last (wh_foldP e xs I f s0 P hm h0 hs fun p => wh_end (hk p))
end
theorem eqO_self {d : D} (h : d.okd 20 = true) : eqO d d = some (.bl true) := by
  unfold eqO
  rw [if_pos ⟨h, h⟩, PySem.SeqAt.eqv_refl _ (D.okd_lay d 20 h).1]
theorem neO_self {d : D} (h : d.okd 20 = true) : neO d d = some (.bl false) := by
  unfold neO
  rw [if_pos ⟨h, h⟩, PySem.SeqAt.eqv_refl _ (D.okd_lay d 20 h).1]
  rfl
theorem okdL_map {α : Type} {e : α → D} {n : Nat} : ∀ {l : List α}, (∀ x ∈ l, (e x).okd n = true) → D.okdL (l.map e) n = true
  | [], _ => rfl
  | x :: l, h => by
    rw [List.map_cons]
    unfold D.okdL
    rw [h x (List.mem_cons_self ..), okdL_map fun y hy => h y (List.mem_cons_of_mem _ hy)]
    rfl
end LW
namespace LP
open PySem LW
theorem okd_rD (q : Rat) (n : Nat) : (rD q).okd (n + 1) = true := by simp [rD, D.okd, D.okdL]
theorem okd_rT (l : List Rat) (n : Nat) : (rT l).okd (n + 2) = true := by
  unfold rT
  simp only [D.okd]
  exact okdL_map fun x _ => okd_rD x n
theorem okd_rL (l : List Rat) (n : Nat) : (rL l).okd (n + 2) = true := by
  unfold rL
  simp only [D.okd]
  exact okdL_map fun x _ => okd_rD x n
theorem eqv_rD (a b : Rat) : PyData.eqv (rD a).py (rD b).py = decide (a = b) := by
  have h := neO_rD (a := a) (b := b)
  unfold neO at h
  rw [if_pos ⟨okd_rD a 19, okd_rD b 19⟩] at h
  have h2 := D.bl.inj (Option.some.inj h)
  cases h3 : PyData.eqv (rD a).py (rD b).py <;> cases h4 : decide (a = b) <;> rw [h3, h4] at h2 <;> simp_all
theorem eqvAll_rD : ∀ a b : List Rat, PyData.eqvAll (D.pyL (a.map rD)) (D.pyL (b.map rD)) = decide (a = b)
  | [], [] => by simp [D.pyL, PyData.eqvAll]
  | [], y :: ys => by simp [D.pyL, PyData.eqvAll]
  | x :: xs, [] => by simp [D.pyL, PyData.eqvAll]
  | x :: xs, y :: ys => by
    simp only [List.map_cons, D.pyL, PyData.eqvAll, eqv_rD, eqvAll_rD xs ys]
    by_cases h1 : x = y <;> by_cases h2 : xs = ys <;> simp [h1, h2]
theorem eqO_rT {a b : List Rat} : eqO (rT a) (rT b) = some (.bl (decide (a = b))) := by
  unfold eqO
  rw [if_pos ⟨okd_rT a 18, okd_rT b 18⟩]
  have := eqvAll_rD a b
  simp only [rT, D.py, PyData.eqv]
  rw [this]
theorem neO_rT {a b : List Rat} : neO (rT a) (rT b) = some (.bl (!decide (a = b))) := by
  unfold neO
  rw [if_pos ⟨okd_rT a 18, okd_rT b 18⟩]
  have := eqvAll_rD a b
  simp only [rT, D.py, PyData.eqv]
  rw [this]
theorem eqO_rD {a b : Rat} : eqO (rD a) (rD b) = some (.bl (decide (a = b))) := by
  unfold eqO
  rw [if_pos ⟨okd_rD a 19, okd_rD b 19⟩, eqv_rD]
/-- a common denominator, numerators, all of less than m bits -/
def Vz (v : List Rat) (m : Nat) : Prop := ∃ d : Nat, 0 < d ∧ d < 2 ^ m ∧ ∀ x ∈ v, ∃ a : Int, a.natAbs < 2 ^ m ∧ x * (d : Rat) = (a : Rat)
theorem of_mul {x : Rat} {d : Nat} {a : Int} (hd : 0 < d) (h : x * (d : Rat) = (a : Rat)) : x = Rat.divInt a d := by
  have hd' : ((d : Int) : Rat) ≠ 0 := by
    have : (0 : Rat) < ((d : Int) : Rat) := Rat.intCast_pos.mpr (by omega)
    grind
  rw [Rat.divInt_eq_div]
  have e : ((d : Int) : Rat) = (d : Rat) := rfl
  rw [← h, ← e, Rat.mul_div_cancel hd']
theorem Vz.sz {v : List Rat} {m : Nat} (h : Vz v m) {x : Rat} (hx : x ∈ v) : Sz x m := by
  obtain ⟨d, d0, d1, q⟩ := h
  obtain ⟨a, a1, a2⟩ := q x hx
  rw [of_mul d0 a2]
  exact Sz.divInt (by omega) a1 (by simpa using d1)
theorem pow_up {m k : Nat} (h : m ≤ k) : 2 ^ m ≤ 2 ^ k := Nat.pow_le_pow_right (by decide) h
theorem Vz.mono {v : List Rat} {m k : Nat} (h : Vz v m) (hk : m ≤ k) : Vz v k := by
  obtain ⟨d, d0, d1, q⟩ := h
  have := pow_up hk
  exact ⟨d, d0, by omega, fun x hx => (q x hx).elim fun a z => ⟨a, by omega, z.2⟩⟩
theorem Vz.sub {v w : List Rat} {m : Nat} (h : Vz v m) (hw : ∀ x ∈ w, x ∈ v) : Vz w m := by
  obtain ⟨d, d0, d1, q⟩ := h
  exact ⟨d, d0, d1, fun x hx => q x (hw x hx)⟩
theorem Vz.zero {m : Nat} (hm : 1 ≤ m) : Vz [0] m := ⟨1, by decide, by have := pow_up hm; omega, fun x hx => ⟨0, by have := pow_up hm; simp; omega, by
  rw [List.mem_singleton.mp hx]
  simp⟩⟩
theorem cast_mul (a b : Nat) : ((a * b : Nat) : Rat) = (a : Rat) * (b : Rat) := by
  push_cast
  rfl
/-- one list without so many times another one -/
theorem Vz.subMul {f l : List Rat} {m k : Nat} {c : Rat} (hf : Vz f m) (hl : Vz l k) (hc : c ∈ f) : Vz ((f.zip l).map fun q => q.1 - c * q.2) (m + k + 1) := by
  obtain ⟨d, d0, d1, qf⟩ := hf
  obtain ⟨e, e0, e1, ql⟩ := hl
  obtain ⟨cc, c1, c2⟩ := qf c hc
  refine ⟨d * e, Nat.mul_pos d0 e0, Nat.lt_of_lt_of_le (mul_lt d1 e1) (pow_up (by omega)), fun x hx => ?_⟩
  obtain ⟨q, hq, rfl⟩ := List.mem_map.mp hx
  obtain ⟨a, a1, a2⟩ := qf q.1 (List.of_mem_zip hq).1
  obtain ⟨b, b1, b2⟩ := ql q.2 (List.of_mem_zip hq).2
  refine ⟨a * e - cc * b, ?_, ?_⟩
  · have h1 : (a * (e : Int)).natAbs < 2 ^ (m + k) := by rw [Int.natAbs_mul]; exact mul_lt a1 (by simpa using e1)
    have h2 : (cc * b).natAbs < 2 ^ (m + k) := by rw [Int.natAbs_mul]; exact mul_lt c1 b1
    rw [Nat.pow_succ]
    omega
  · rw [cast_mul]
    have e3 : ((a * (e : Int) - cc * b : Int) : Rat) = (a : Rat) * (e : Rat) - (cc : Rat) * (b : Rat) := by
      push_cast
      rfl
    rw [e3, ← a2, ← c2, ← b2]
    grind
theorem Vz.div {f : List Rat} {m : Nat} {c : Rat} (hf : Vz f m) (hc : c ∈ f) (h0 : c ≠ 0) : Vz (f.map fun x => x / c) m := by
  obtain ⟨d, d0, d1, qf⟩ := hf
  obtain ⟨cc, c1, c2⟩ := qf c hc
  have hd : (d : Rat) ≠ 0 := by
    have : (0 : Rat) < (d : Rat) := Rat.natCast_pos.mpr d0
    grind
  have hcc : cc ≠ 0 := fun z => by
    rw [z] at c2
    have c2' : c * (d : Rat) = 0 := c2
    rcases Rat.mul_eq_zero.mp c2' with h | h
    · exact h0 h
    · exact hd h
  refine ⟨cc.natAbs, by omega, c1, fun x hx => ?_⟩
  obtain ⟨y, hy, rfl⟩ := List.mem_map.mp hx
  obtain ⟨a, a1, a2⟩ := qf y hy
  have e : y / c * (cc : Rat) = (a : Rat) := by
    rw [← c2, ← a2, show y / c * (c * (d : Rat)) = y / c * c * (d : Rat) by grind, Rat.div_mul_cancel h0]
  rcases Int.natAbs_eq cc with h | h
  · refine ⟨a, a1, ?_⟩
    have e2 : ((cc.natAbs : Nat) : Rat) = (cc : Rat) := by
      rw [show (cc : Rat) = (((cc.natAbs : Nat) : Int) : Rat) by rw [← h]]
      rfl
    rw [e2]
    exact e
  · refine ⟨-a, by simpa using a1, ?_⟩
    have e2 : ((cc.natAbs : Nat) : Rat) = -(cc : Rat) := by
      have : (cc : Rat) = -((cc.natAbs : Nat) : Rat) := by
        rw [show (cc : Rat) = ((-((cc.natAbs : Nat) : Int) : Int) : Rat) by rw [← h]]
        push_cast
        rfl
      grind
    rw [e2]
    push_cast
    grind
end LP
set_option maxHeartbeats 200000
namespace LP
open PySem LW
abbrev Vc : Type := Nat → Rat
/-- what is got from S by sums and multiples -/
inductive Spn (S : Vc → Prop) : Vc → Prop
  | zero : Spn S (fun _ => 0)
  | mem {v : Vc} (h : S v) : Spn S v
  | lin {u v : Vc} (a b : Rat) (hu : Spn S u) (hv : Spn S v) : Spn S (fun j => a * u j + b * v j)
theorem Spn.trans {S T : Vc → Prop} (h : ∀ v, S v → Spn T v) {u : Vc} (k : Spn S u) : Spn T u := by
  induction k with
  | zero => exact .zero
  | mem z => exact h _ z
  | lin a b _ _ i1 i2 => exact .lin a b i1 i2
theorem Spn.mono {S T : Vc → Prop} (h : ∀ v, S v → T v) {u : Vc} (k : Spn S u) : Spn T u := k.trans fun v z => .mem (h v z)
theorem Spn.of_eq {S : Vc → Prop} {u v : Vc} (k : Spn S u) (h : ∀ j, v j = u j) : Spn S v := by rw [funext h]; exact k
theorem Spn.addMul {S : Vc → Prop} {u v : Vc} (a : Rat) (hu : Spn S u) (hv : Spn S v) : Spn S (fun j => u j + a * v j) := (Spn.lin 1 a hu hv).of_eq fun j => by grind
theorem at0_out {l : List Rat} {i : Nat} (h : l.length ≤ i) : at0 l i = 0 := by
  unfold at0
  rw [List.getD_eq_getElem?_getD, List.getElem?_eq_none h]
  rfl
theorem at0_ext {a b : List Rat} (hl : a.length = b.length) (h : ∀ i, at0 a i = at0 b i) : a = b := by
  refine List.ext_getElem? fun i => ?_
  by_cases c : i < a.length
  · rw [at0_get c, at0_get (hl ▸ c), h]
  · rw [List.getElem?_eq_none (by omega), List.getElem?_eq_none (by omega)]
def lessRow (c : Rat) (f l : List Rat) : List Rat := (f.zip l).map fun q => q.1 - c * q.2
theorem lessRow_len {c : Rat} {f l : List Rat} (h : f.length = l.length) : (lessRow c f l).length = f.length := by simp [lessRow, h]
theorem lessRow_at {c : Rat} {f l : List Rat} (h : f.length = l.length) (i : Nat) : at0 (lessRow c f l) i = at0 f i - c * at0 l i := by
  by_cases hi : i < f.length
  · have e : (lessRow c f l)[i]? = some (at0 f i - c * at0 l i) := by
      unfold lessRow
      rw [List.getElem?_map]
      have : (f.zip l)[i]? = some (at0 f i, at0 l i) := by
        rw [List.getElem?_zip_eq_some]
        exact ⟨at0_get hi, at0_get (h ▸ hi)⟩
      rw [this]
      rfl
    exact at0_of e
  · rw [at0_out (by rw [lessRow_len h]; omega), at0_out (by omega), at0_out (by omega)]
    grind
/-- the leads: where they begin, and themselves -/
abbrev Lds : Type := List (Nat × List Rat)
def SL (L : Lds) : Vc → Prop := fun v => ∃ p ∈ L, v = at0 p.2
structure LdsOk (n g : Nat) (L : Lds) : Prop where
  key : ∀ p ∈ L, p.1 < n
  nd : (L.map (·.1)).Nodup
  len : ∀ p ∈ L, p.2.length = n
  one : ∀ p ∈ L, at0 p.2 p.1 = 1
  zer : ∀ p ∈ L, ∀ j, j < p.1 → at0 p.2 j = 0
  sz : ∀ p ∈ L, Vz p.2 g
def restStep (L : Lds) (f : List Rat) (j : Nat) : List Rat := if at0 f j ≠ 0 then (match L.lookup j with
  | some l => lessRow (at0 f j) f l
  | none => f) else f
theorem lookup_mem {L : Lds} {j : Nat} {l : List Rat} (h : L.lookup j = some l) : (j, l) ∈ L := by
  induction L with
  | nil => cases h
  | cons p L ih =>
    rw [List.lookup_cons] at h
    by_cases c : j = p.1
    · rw [c] at h ⊢
      simp at h
      rw [← h]
      exact List.mem_cons_self ..
    · rw [show (j == p.1) = false by simpa using c] at h
      exact List.mem_cons_of_mem _ (ih h)
theorem lookup_key {L : Lds} {p : Nat × List Rat} (h : p ∈ L) : ∃ l, L.lookup p.1 = some l := by
  induction L with
  | nil => cases h
  | cons q L ih =>
    rw [List.lookup_cons]
    by_cases c : p.1 = q.1
    · exact ⟨q.2, by simp [c]⟩
    · rw [show (p.1 == q.1) = false by simpa using c]
      rcases List.mem_cons.mp h with e | e
      · exact absurd (by rw [e]) c
      · exact ih e
/-- how far the rest is got: f0 at the start, j turns done, s now -/
structure RestIn (n m g : Nat) (L : Lds) (f0 : List Rat) (j : Nat) (s : List Rat) : Prop where
  len : s.length = n
  sz : Vz s (m + j * (g + 1))
  nul : ∀ p ∈ L, p.1 < j → at0 s p.1 = 0
  sp : Spn (SL L) fun i => at0 f0 i - at0 s i
theorem RestIn.start {n m g : Nat} {L : Lds} {f0 : List Rat} (hl : f0.length = n) (hs : Vz f0 m) : RestIn n m g L f0 0 f0 where
  len := hl
  sz := by simpa using hs
  nul := fun p _ z => absurd z (by omega)
  sp := Spn.zero.of_eq fun j => by grind
theorem RestIn.step {n m g : Nat} {L : Lds} {f0 s : List Rat} {j : Nat} (h : LdsOk n g L) (hj : j < n) (k : RestIn n m g L f0 j s) : RestIn n m g L f0 (j + 1) (restStep L s j) := by
  have e1 : m + (j + 1) * (g + 1) = m + j * (g + 1) + g + 1 := by rw [Nat.add_mul]; omega
  unfold restStep
  split
  · rename_i hne
    cases hl : L.lookup j with
    | none =>
      refine ⟨k.len, k.sz.mono (by omega), fun p hp hpj => ?_, k.sp⟩
      by_cases c : p.1 = j
      · obtain ⟨l, e⟩ := lookup_key hp
        rw [c, hl] at e
        cases e
      · exact k.nul p hp (by omega)
    | some l =>
      have hm := lookup_mem hl
      have ll : s.length = l.length := by rw [k.len]; exact (h.len _ hm).symm
      refine ⟨by rw [lessRow_len ll]; exact k.len, ?_, fun p hp hpj => ?_, ?_⟩
      · rw [e1]
        exact Vz.subMul k.sz (h.sz _ hm) (at0_mem (by rw [k.len]; exact hj))
      · dsimp only
        rw [lessRow_at ll]
        by_cases c : p.1 = j
        · rw [c, show at0 l j = 1 from h.one _ hm]
          grind
        · rw [k.nul p hp (by omega), h.zer _ hm p.1 (show p.1 < j by omega)]
          grind
      · refine (Spn.addMul (at0 s j) k.sp (.mem ⟨_, hm, rfl⟩)).of_eq fun i => ?_
        dsimp only
        rw [lessRow_at ll]
        grind
  · rename_i hne
    refine ⟨k.len, k.sz.mono (by omega), fun p hp hpj => ?_, k.sp⟩
    by_cases c : p.1 = j
    · rw [c]; grind
    · exact k.nul p hp (by omega)
/-- a new lead -/
theorem LdsOk.put {n m g g' : Nat} {L : Lds} {f0 r : List Rat} {a : Nat} (h : LdsOk n g L) (k : RestIn n m g L f0 n r) (ha : a < n) (hz : ∀ i, i < a → at0 r i = 0) (hn : at0 r a ≠ 0) (h1 : g ≤ g') (h2 : m + n * (g + 1) ≤ g') : LdsOk n g' (L ++ [(a, r.map fun x => x / at0 r a)]) ∧ L.lookup a = none := by
  have atd : ∀ i, at0 (r.map fun x => x / at0 r a) i = at0 r i / at0 r a := fun i => by
    by_cases c : i < r.length
    · exact at0_of (by rw [List.getElem?_map, at0_get c]; rfl)
    · rw [at0_out (by rw [List.length_map]; omega), at0_out (by omega)]
      grind
  have hnew : L.lookup a = none := by
    cases hl : L.lookup a with
    | none => rfl
    | some l => exact absurd (k.nul _ (lookup_mem hl) ha) hn
  have hin : ∀ p ∈ L, p.1 ≠ a := fun p hp e => by
    obtain ⟨l, z⟩ := lookup_key hp
    rw [e, hnew] at z
    cases z
  refine ⟨⟨fun p hp => ?_, ?_, fun p hp => ?_, fun p hp => ?_, fun p hp => ?_, fun p hp => ?_⟩, hnew⟩
  · rcases List.mem_append.mp hp with z | z
    · exact h.key p z
    · rw [List.mem_singleton.mp z]; exact ha
  · rw [List.map_append, List.nodup_append]
    refine ⟨h.nd, by simp, fun x hx y hy => ?_⟩
    obtain ⟨p, hp, rfl⟩ := List.mem_map.mp hx
    simp at hy
    rw [hy]
    exact hin p hp
  · rcases List.mem_append.mp hp with z | z
    · exact h.len p z
    · rw [List.mem_singleton.mp z]; simpa using k.len
  · rcases List.mem_append.mp hp with z | z
    · exact h.one p z
    · rw [List.mem_singleton.mp z]
      dsimp only
      rw [atd]
      grind
  · rcases List.mem_append.mp hp with z | z
    · exact h.zer p z
    · rw [List.mem_singleton.mp z]
      intro j hj
      dsimp only at hj ⊢
      rw [atd, hz j hj]
      grind
  · rcases List.mem_append.mp hp with z | z
    · exact (h.sz p z).mono h1
    · rw [List.mem_singleton.mp z]
      exact (Vz.div k.sz (at0_mem (by rw [k.len]; exact ha)) hn).mono h2
theorem put_span {n m g : Nat} {L : Lds} {f0 r : List Rat} {a : Nat} (k : RestIn n m g L f0 n r) (hn : at0 r a ≠ 0) : Spn (SL (L ++ [(a, r.map fun x => x / at0 r a)])) (at0 f0) ∧ ∀ v, SL (L ++ [(a, r.map fun x => x / at0 r a)]) v → Spn (fun u => SL L u ∨ u = at0 f0) v := by
  have atd : ∀ i, at0 (r.map fun x => x / at0 r a) i = at0 r i / at0 r a := fun i => by
    by_cases c : i < r.length
    · exact at0_of (by rw [List.getElem?_map, at0_get c]; rfl)
    · rw [at0_out (by rw [List.length_map]; omega), at0_out (by omega)]
      grind
  constructor
  · have s1 : Spn (SL (L ++ [(a, r.map fun x => x / at0 r a)])) fun i => at0 f0 i - at0 r i := k.sp.mono fun v ⟨p, hp, e⟩ => ⟨p, List.mem_append_left _ hp, e⟩
    refine (Spn.addMul (at0 r a) s1 (.mem ⟨_, List.mem_append_right _ (List.mem_singleton.mpr rfl), rfl⟩)).of_eq fun i => ?_
    dsimp only
    rw [atd]
    have : at0 r a * (at0 r i / at0 r a) = at0 r i := by
      rw [Rat.mul_comm, Rat.div_mul_cancel hn]
    grind
  · rintro v ⟨p, hp, rfl⟩
    rcases List.mem_append.mp hp with z | z
    · exact .mem (.inl ⟨p, z, rfl⟩)
    · rw [List.mem_singleton.mp z]
      have s1 : Spn (fun u => SL L u ∨ u = at0 f0) fun i => at0 f0 i - at0 r i := k.sp.mono fun v z => .inl z
      refine (Spn.lin (1 / at0 r a) (-(1 / at0 r a)) (.mem (.inr rfl)) s1).of_eq fun i => ?_
      dsimp only
      rw [atd, Rat.div_def, Rat.div_def]
      grind
theorem zero_span {n m g : Nat} {L : Lds} {f0 r : List Rat} (k : RestIn n m g L f0 n r) (hz : ∀ i, i < n → at0 r i = 0) : Spn (SL L) (at0 f0) := k.sp.of_eq fun i => by
  have : at0 r i = 0 := by
    by_cases c : i < n
    · exact hz i c
    · exact at0_out (by rw [k.len]; omega)
  rw [this]
  grind
/-- the leads as a dict's items -/
def ksD (L : Lds) : List (L2.Key × D) := L.map fun p => (Sum.inl (p.1 : Int), rL p.2)
theorem valD_ks (L : Lds) (j : Nat) : valD (ksD L) (Sum.inl (j : Int)) = (L.lookup j).map rL := by
  induction L with
  | nil => rfl
  | cons p L ih =>
    rw [List.lookup_cons]
    unfold ksD valD at ih ⊢
    rw [List.map_cons, List.find?_cons]
    by_cases c : j = p.1
    · simp [c]
    · have c' : ¬ p.1 = j := fun z => c z.symm
      have e : decide ((Sum.inl (p.1 : Int) : L2.Key) = Sum.inl (j : Int)) = false := decide_eq_false fun z => c' (by have := Sum.inl.inj z; omega)
      simp only [e, show (j == p.1) = false by simpa using c]
      exact ih
theorem putD_new {ks : List (L2.Key × D)} {z : L2.Key} {x : D} (h : valD ks z = none) : putD ks z x = ks ++ [(z, x)] := by
  unfold valD at h
  unfold putD
  rw [if_neg]
  intro hh
  obtain ⟨kv, h1, h2⟩ := List.any_eq_true.mp hh
  have := List.find?_eq_none.mp (Option.map_eq_none_iff.mp h) kv h1
  exact this h2
end LP
set_option maxHeartbeats 200000
namespace LP
open PySem LW
def spO (c : Nat) (L : Lds) : OD := .ins "Span" [("leads", .ownd c (ksD L))]
theorem rangeD {n j x : Nat} (h : (List.range' 0 n)[j]? = some x) : x = j ∧ j < n := by
  have hj : j < n := by simpa using (List.getElem?_eq_some_iff.mp h).1
  rw [List.getElem?_range' hj] at h
  simp at h
  exact ⟨h.symm, hj⟩
theorem key_nat (j : Nat) : D.key (.int (j : Int)) = some (Sum.inl (j : Int)) := rfl
theorem rest_ok {n m g i c : Nat} {L : Lds} {f : List Rat} {fd : D} {ob : List OD} (h : LdsOk n g L) (hn : n ≤ 100) (hfd : fd.items = some (f.map rD)) (hob : ob[i]? = some (spO c L)) (hl : f.length = n) (hs : Vz f m) (hz : m + n * (g + 1) ≤ 20000000) :
    ∃ r, Ph_Span_rest [.obj i, fd] ⟨[], ob⟩ = .ok (.v (rL r)) ⟨[], ob⟩ ∧ RestIn n m g L f n r := by
  have big : (100 : Nat) ≤ sizeLine := by decide
  have pf : RestIn n m g L f n ((List.range' 0 n).foldl (restStep L) f) := by
    have : ∀ k, k ≤ n → RestIn n m g L f k ((List.range' 0 k).foldl (restStep L) f) := by
      intro k
      induction k with
      | zero => intro _; exact RestIn.start hl hs
      | succ k ih =>
        intro hk
        rw [List.range'_concat, List.foldl_append]
        simp only [Nat.zero_add, Nat.one_mul, List.foldl_cons, List.foldl_nil]
        exact (ih (by omega)).step h (by omega)
    exact this n (Nat.le_refl _)
  refine ⟨_, ?_, pf⟩
  have hl2 : (f.map rD).length ≤ sizeLine := by simp; omega
  unfold spO at hob
  unfold Ph_Span_rest m_Span_rest
  apply callF_wh
  refine wh_seq (ρ1 := ⟨[.val (.obj i), .val fd, .val (rL f), .un, .un, .un, .un], ob⟩) (by simp [hfd, rL]) ?_
  refine wh_foldP (fun j : Nat => .int (j : Nat)) (List.range' 0 n) (fun s => ⟨[.val (.obj i), .val fd, .val (rL s), .un, .un, .un, .un], ob⟩) (restStep L) f (RestIn n m g L f) (rng1_ok (by simp [rL, hl] <;> exact rfl) (by omega)) (RestIn.start hl hs) (fun j s x hx k => ?_) (fun k => ?_)
  · obtain ⟨rfl, hj⟩ := rangeD hx
    refine ⟨k.step h hj, ⟨[.val (.obj i), .val fd, .val (rL s), .val (.int (x : Nat)), .un, .un, .un], ob⟩, by simp, ?_⟩
    have e1 : L2.atI (s.map rD) (x : Int) = some (rD (at0 s x)) := atI_map (at0_get (by rw [k.len]; exact hj))
    have e2 : neO (rD (at0 s x)) (.tup [.int 0, .int 1]) = some (.bl (!decide (at0 s x = 0))) := neO_rD (b := 0)
    have e3 := valD_ks L x
    by_cases c0 : at0 s x = 0
    · have eq : restStep L s x = s := by unfold restStep; rw [if_neg (by simp [c0])]
      rw [eq]
      rw [c0] at e1 e2
      refine wh_if_ff (ρ1 := ⟨[.val (.obj i), .val fd, .val (rL s), .val (.int (x : Nat)), .un, .un, .un], ob⟩) (by simp [rL, e1, e2]) (wh_nop ?_)
      exact wh_ok (fl := .nx) (by simp <;> exact rfl) ⟨.inl rfl, rfl⟩
    · cases hk : L.lookup x with
      | none =>
        have eq : restStep L s x = s := by unfold restStep; rw [if_pos c0, hk]
        rw [hk] at e3
        rw [eq]
        refine wh_if_ff (ρ1 := ⟨[.val (.obj i), .val fd, .val (rL s), .val (.int (x : Nat)), .un, .un, .un], ob⟩) (by simp [rL, e1, e2, c0, hob, lkF, key_nat, e3]) (wh_nop ?_)
        exact wh_ok (fl := .nx) (by simp <;> exact rfl) ⟨.inl rfl, rfl⟩
      | some l =>
        have eq : restStep L s x = lessRow (at0 s x) s l := by unfold restStep; rw [if_pos c0, hk]
        rw [hk] at e3
        have hm := lookup_mem hk
        have ll : s.length = l.length := by rw [k.len]; exact (h.len _ hm).symm
        rw [eq]
        refine wh_if_tt (ρ1 := ⟨[.val (.obj i), .val fd, .val (rL s), .val (.int (x : Nat)), .un, .un, .un], ob⟩) (by simp [rL, e1, e2, c0, hob, lkF, key_nat, e3]) ?_
        refine wh_assoc (wh_seq (ρ1 := ⟨[.val (.obj i), .val fd, .val (rL s), .val (.int (x : Nat)), .val (rD (at0 s x)), .un, .un], ob⟩) (by simp [rL, e1]) ?_)
        refine wh_seq (seqM_2 (setM_r (lcM_map (e := fun q : Rat × Rat => .tup [rD q.1, rD q.2]) (f := fun q => rD (q.1 - at0 s x * q.2)) (xs := s.zip l) (ρ1 := ⟨[.val (.obj i), .val fd, .val (rL s), .val (.int (x : Nat)), .val (rD (at0 s x)), .un, .un], ob⟩) ?_ ?_ (by simp [En.kills] <;> exact rfl) (fun q hq => ?_) (by simp [En.back, SD.keep, rL] <;> exact rfl)) (by simp)) (by simp; exact rfl)) ?_
        · simp [rL, hob, lkF, key_nat, e3, ll, zipL_map]
        · rw [List.length_zip, k.len]; omega
        · have z1 := k.sz.sz (List.of_mem_zip hq).1
          have z2 := (h.sz _ hm).sz (List.of_mem_zip hq).2
          have z3 := k.sz.sz (at0_mem (l := s) (i := x) (by rw [k.len]; exact hj))
          have b1 : x * (g + 1) ≤ n * (g + 1) := Nat.mul_le_mul_right _ (by omega)
          have b2 : g + 1 ≤ n * (g + 1) := Nat.le_mul_of_pos_left _ (by omega)
          refine ⟨_, _, rfl, by (simp [times_ok z3 z2 (by omega), less_ok z1 (z3.mul z2) (by omega)] <;> exact rfl), by simp [En.kills]⟩
        · refine wh_ok (fl := .nx) (by simp [rL, lessRow, Function.comp_def]; exact rfl) ⟨.inl rfl, ?_⟩
          simp [rL, lessRow, Function.comp_def]
  · refine wh_seq (by simp; exact rfl) (wh_ret (by simp; exact rfl) ⟨rfl, rfl⟩)
end LP
set_option maxHeartbeats 200000
namespace LP
open PySem LW
theorem least {P : Nat → Prop} : ∀ {n : Nat}, (∃ a, a < n ∧ P a) → ∃ a, a < n ∧ P a ∧ ∀ i, i < a → ¬ P i
  | 0, h => h.elim fun a z => absurd z.1 (by omega)
  | n + 1, h => by
    by_cases c : ∃ a, a < n ∧ P a
    · obtain ⟨a, h1, h2⟩ := least c
      exact ⟨a, by omega, h2⟩
    · obtain ⟨a, h1, h2⟩ := h
      refine ⟨a, h1, h2, fun i hi z => c ⟨i, by omega, z⟩⟩
theorem put_ok {n m g g' i c : Nat} {L : Lds} {f : List Rat} {fd : D} {ob : List OD} (h : LdsOk n g L) (hn : n ≤ 100) (hL : L.length ≤ 99) (hfd : fd.items = some (f.map rD)) (hob : ob[i]? = some (spO c L)) (hl : f.length = n) (hs : Vz f m) (hz : m + n * (g + 1) ≤ 20000000) (h1 : g ≤ g') (h2 : m + n * (g + 1) ≤ g') :
    ∃ b L', Ph_Span_put [.obj i, fd] ⟨[], ob⟩ = .ok (.v (.bl b)) ⟨[], ob.set i (spO c L')⟩ ∧ LdsOk n g' L' ∧ Spn (SL L') (at0 f) ∧ (b = false → L' = L) ∧ (b = true → L'.length = L.length + 1 ∧ (∀ v, SL L v → SL L' v) ∧ ∀ v, SL L' v → Spn (fun u => SL L u ∨ u = at0 f) v) := by
  have big : (100 : Nat) ≤ sizeLine := by decide
  obtain ⟨r, hr, hR⟩ := rest_ok h hn hfd hob hl hs hz
  have hob' := hob
  unfold spO at hob
  have hi : i < ob.length := (List.getElem?_eq_some_iff.mp hob).1
  have e0 : setM 2 (valR (frzM (methM "Span" "rest" 2 (locD 0) (consA (locD 1) (nilA)) [] Ph_Span_rest))) ⟨[.val (.obj i), .val fd, .un, .un, .un, .un], ob⟩ = .ok .nx ⟨[.val (.obj i), .val fd, .val (rL r), .un, .un, .un], ob⟩ := by
    have ne : ¬ (("leads" : Str) = "rest") := by decide
    simp [hob, lkF, hr, ne]
  have neq : ∀ a : Rat, neO (rD a) (.tup [.int 0, .int 1]) = some (.bl (!decide (a = 0))) := fun a => neO_rD (b := 0)
  by_cases cz : ∃ a, a < n ∧ at0 r a ≠ 0
  · obtain ⟨a, ha, hne, hlow⟩ := least cz
    have hlow' : ∀ k, k < a → at0 r k = 0 := fun k hk => by
      have := hlow k hk
      grind
    obtain ⟨q1, q2⟩ := LdsOk.put h hR ha hlow' hne h1 h2
    obtain ⟨q3, q4⟩ := put_span hR hne
    refine ⟨true, _, ?_, q1, q3, fun z => (nomatch z), fun _ => ⟨by simp, fun v ⟨p, hp, e⟩ => ⟨p, List.mem_append_left _ hp, e⟩, q4⟩⟩
    unfold Ph_Span_put m_Span_put
    apply callF_wh
    refine wh_seq e0 ?_
    refine wh_for (fun j ρ' => j ≤ a ∧ ρ' = ⟨[.val (.obj i), .val fd, .val (rL r), .un, .un, .un], ob⟩) (by simp [rL] <;> exact rfl) ⟨Nat.zero_le _, rfl⟩ ?_ ?_
    · rintro j d ρ' hd ⟨hja, rfl⟩
      obtain ⟨x, hx, rfl⟩ := enumL_get _ _ _ _ hd
      have hjn : j < r.length := by
        have := (List.getElem?_eq_some_iff.mp hx).1
        simpa using this
      rw [List.getElem?_map, at0_get hjn] at hx
      have hx := Option.some.inj hx
      subst hx
      refine ⟨⟨[.val (.obj i), .val fd, .val (rL r), .val (.int (j : Nat)), .val (rD (at0 r j)), .un], ob⟩, by simp, ?_⟩
      by_cases c1 : j = a
      · subst c1
        refine wh_if_tt (ρ1 := ⟨[.val (.obj i), .val fd, .val (rL r), .val (.int (j : Nat)), .val (rD (at0 r j)), .un], ob⟩) (by simp [neq, hne]) ?_
        have z3 := hR.sz.sz (at0_mem hjn)
        have comp : lcM (itsD (locD 2)) (setU 5) (yesT) (frzM (callM 2 (consA (locD 5) (consA (locD 4) (nilA))) [] (Ph_over))) [5] ⟨[.val (.obj i), .val fd, .val (rL r), .val (.int (j : Nat)), .val (rD (at0 r j)), .un], ob⟩ = .ok (.o ((r.map fun x => x / at0 r j).map rD)) ⟨[.val (.obj i), .val fd, .val (rL r), .val (.int (j : Nat)), .val (rD (at0 r j)), .un], ob⟩ := by
          rw [List.map_map]
          refine lcM_map (e := rD) (xs := r) (by simp [rL]; exact rfl) (by rw [hR.len]; omega) (by simp [En.kills] <;> exact rfl) (fun x hx => ⟨_, _, rfl, by (simp [over_ok (hR.sz.sz hx) z3 (by omega) hne] <;> exact rfl), by simp [En.kills, rL]⟩) (by simp [En.back, SD.keep, rL])
        have cf := frzM_o comp
        have e3 := valD_ks L j
        rw [q2] at e3
        have e4 := putD_new (x := rL (r.map fun x => x / at0 r j)) e3
        have hLs : (ksD L).length < sizeLine := by simp [ksD]; omega
        have e5 : dputF "Span" "leads" (locD 0) (locD 3) (frzM (lcM (itsD (locD 2)) (setU 5) (yesT) (frzM (callM 2 (consA (locD 5) (consA (locD 4) (nilA))) [] (Ph_over))) [5])) ⟨[.val (.obj i), .val fd, .val (rL r), .val (.int (j : Nat)), .val (rD (at0 r j)), .un], ob⟩ = .ok .nx ⟨[.val (.obj i), .val fd, .val (rL r), .val (.int (j : Nat)), .val (rD (at0 r j)), .un], ob.set i (spO c (L ++ [(j, r.map fun x => x / at0 r j)]))⟩ := by
          have e6 : ksD (L ++ [(j, r.map fun x => x / at0 r j)]) = ksD L ++ [(Sum.inl (j : Int), rL (r.map fun x => x / at0 r j))] := by simp [ksD]
          unfold dputF
          rw [cf, Res.bind_ok, show D.lst (List.map rD (r.map fun x => x / at0 r j)) = rL (r.map fun x => x / at0 r j) from rfl]
          simp [hob, lkF, key_nat, hLs, e4, spO, putFD, e6]
        refine wh_assoc (wh_seq e5 ?_)
        exact wh_seq_ret (by simp <;> exact rfl) ⟨rfl, rfl⟩
      · refine wh_if_ff (ρ1 := ⟨[.val (.obj i), .val fd, .val (rL r), .val (.int (j : Nat)), .val (rD (at0 r j)), .un], ob⟩) (by simp [neq, hlow' j (by omega)]) (wh_nop ?_)
        exact wh_ok (fl := .nx) (by simp <;> exact rfl) ⟨by omega, rfl⟩
    · rintro ρ' ⟨hle, rfl⟩
      rw [enumL_length, List.length_map, hR.len] at hle
      omega
  · have hz0 : ∀ k, k < n → at0 r k = 0 := fun k hk => by
      by_cases e : at0 r k = 0
      · exact e
      · exact absurd ⟨k, hk, e⟩ cz
    have obs : ob.set i (spO c L) = ob := by
      refine List.ext_getElem? fun k => ?_
      rw [List.getElem?_set]
      split
      · rename_i e; subst e; exact hob'.symm
      · rfl
    refine ⟨false, L, ?_, ⟨h.key, h.nd, h.len, h.one, h.zer, fun p hp => (h.sz p hp).mono h1⟩, zero_span hR hz0, fun _ => rfl, fun z => (nomatch z)⟩
    rw [obs]
    unfold Ph_Span_put m_Span_put
    apply callF_wh
    refine wh_seq e0 ?_
    refine wh_for (fun j ρ' => ρ' = ⟨[.val (.obj i), .val fd, .val (rL r), .un, .un, .un], ob⟩) (by simp [rL] <;> exact rfl) rfl ?_ ?_
    · rintro j d ρ' hd rfl
      obtain ⟨x, hx, rfl⟩ := enumL_get _ _ _ _ hd
      have hjn : j < r.length := by
        have := (List.getElem?_eq_some_iff.mp hx).1
        simpa using this
      rw [List.getElem?_map, at0_get hjn] at hx
      have hx := Option.some.inj hx
      subst hx
      refine ⟨⟨[.val (.obj i), .val fd, .val (rL r), .val (.int (j : Nat)), .val (rD (at0 r j)), .un], ob⟩, by simp, ?_⟩
      refine wh_if_ff (ρ1 := ⟨[.val (.obj i), .val fd, .val (rL r), .val (.int (j : Nat)), .val (rD (at0 r j)), .un], ob⟩) (by simp [neq, hz0 j (by rw [← hR.len]; exact hjn)]) (wh_nop ?_)
      exact wh_ok (fl := .nx) (by simp <;> exact rfl) rfl
    · rintro ρ' rfl
      exact wh_seq (by simp <;> exact rfl) (wh_ret (by simp <;> exact rfl) ⟨rfl, rfl⟩)
theorem init_ok {ob : List OD} : Ph_Span___init__ [.obj ob.length] ⟨[], ob ++ [OD.ins "Span" []]⟩ = .ok (.v .non) ⟨[], ob ++ [spO 0 []]⟩ := by
  unfold Ph_Span___init__ m_Span___init__
  apply callF_wh
  refine wh_ok (fl := .nx) (ρ1 := ⟨[.val (.obj ob.length)], ob ++ [spO 0 []]⟩) ?_ ⟨rfl, rfl⟩
  simp [RV.fd, lkF, putFD, spO, ksD, List.set_append, nextK]
end LP
set_option maxHeartbeats 200000
namespace LW
open PySem PySem.Spec PyProof.Rows L2
/-- a comprehension of two clauses -/
theorem lc2Go_map {α β : Type} {b b1 : D → M Unit} {m1 : M (List D)} {el : M D} {vs vs1 : List Nat} {e : α → D} {e1 : β → D} {g : α → List β} {f : α → β → D} {ρ : En} : ∀ (xs : List α) (acc : List D), acc.length + (xs.flatMap g).length ≤ sizeLine →
    (∀ x ∈ xs, ∃ ρa ρb ρk, b (e x) ρ = .ok () ρa ∧ m1 ρa = .ok ((g x).map e1) ρb ∧ ρb.kills vs1 = ρk ∧ ρk.kills vs = ρ ∧ ∀ y ∈ g x, ∃ ρc ρd, b1 (e1 y) ρk = .ok () ρc ∧ el ρc = .ok (f x y) ρd ∧ ρd.kills vs1 = ρk) →
    lc2Go b m1 b1 el vs vs1 (xs.map e) acc ρ = .ok (acc ++ xs.flatMap fun x => (g x).map (f x)) ρ
  | [], acc, _, h => by simp [lc2Go]
  | x :: xs, acc, hl, h => by
    obtain ⟨ρa, ρb, ρk, h1, h2, h3, h4, h5⟩ := h x (List.mem_cons_self ..)
    rw [List.flatMap_cons, List.length_append] at hl
    have ih := lc2Go_map (e1 := e1) (g := g) (f := f) xs (acc ++ (g x).map (f x)) (by rw [List.length_append, List.length_map]; omega) fun y hy => h y (List.mem_cons_of_mem _ hy)
    rw [List.map_cons, lc2Go]
    dsimp only
    rw [h1, Res.bind_ok, h2, Res.bind_ok, if_pos (by rw [List.length_map]; omega), h3, lcGo_map (t := fun ρ => .ok true ρ) (f := f x) (g x) acc fun y hy => (h5 y hy).elim fun ρc q => q.elim fun ρd q => ⟨ρc, ρc, ρd, q.1, rfl, q.2.1, q.2.2⟩, Res.bind_ok, h4, ih, List.flatMap_cons, List.append_assoc]
theorem lc2M_map {α β : Type} {m m1 : M (List D)} {b b1 : D → M Unit} {el : M D} {vs vs1 : List Nat} {e : α → D} {e1 : β → D} {g : α → List β} {f : α → β → D} {ρ ρ1 ρk ρ2 : En} {xs : List α} (hm : m ρ = .ok (xs.map e) ρ1) (hl : (xs.flatMap g).length ≤ sizeLine) (hk : ρ1.kills vs = ρk)
    (h : ∀ x ∈ xs, ∃ ρa ρb ρi, b (e x) ρk = .ok () ρa ∧ m1 ρa = .ok ((g x).map e1) ρb ∧ ρb.kills vs1 = ρi ∧ ρi.kills vs = ρk ∧ ∀ y ∈ g x, ∃ ρc ρd, b1 (e1 y) ρi = .ok () ρc ∧ el ρc = .ok (f x y) ρd ∧ ρd.kills vs1 = ρi) (hb : ρk.back ρ1 vs = ρ2) :
    lc2M m b m1 b1 el vs vs1 ρ = .ok (.o (xs.flatMap fun x => (g x).map (f x))) ρ2 := by
  unfold lc2M
  rw [hm, Res.bind_ok, hk, lc2Go_map (g := g) (f := f) xs [] (by simpa using hl) h]
  change (Res.bind (Res.ok ([] ++ xs.flatMap fun x => (g x).map (f x)) ρk) fun l ρ2 => Res.ok (RV.o l) (ρ2.back ρ1 vs)) = _
  rw [Res.bind_ok, hb]
  rfl
end LW
namespace LP
open PySem LW N57
theorem need_filling_ok {n : Nat} {c : List Rat} {ob : List OD} (hl : c.length = n) (hn : n ≤ 100) (h0 : ∀ x ∈ c, 0 ≤ x) : Ph_need_filling [.int (n : Nat), rL c] ⟨[], ob⟩ = .ok (.v .non) ⟨[], ob⟩ := by
  have big : (100 : Nat) ≤ sizeLine := by decide
  unfold Ph_need_filling m_need_filling
  apply callF_wh
  refine wh_last (wh_if_ff (ρ1 := ⟨[.val (.int (n : Nat)), .val (rL c), .un], ob⟩) ?_ (wh_nop (wh_end ⟨rfl, rfl⟩)))
  refine orT_ff (by simp [rL, hl] <;> exact rfl) ?_
  have ea : (c.any fun x => decide (x.num < 0)) = false := by
    rw [List.any_eq_false]
    intro x hx
    have := Rat.num_nonneg.mpr (h0 x hx)
    have z : ¬ x.num < 0 := by omega
    simp [this]
  rw [← ea]
  refine any_lc (p := fun x : Rat => decide (x.num < 0)) (lcM_map (e := rD) (xs := c) (by (simp [rL] <;> exact rfl)) (by omega) (by simp [En.kills] <;> exact rfl) (fun x hx => ⟨_, _, rfl, by (simp [rD_num] <;> exact rfl), by simp [En.kills, rL]⟩) (by simp [En.back, SD.keep, rL]))
def shD (bk : List Ent) : D := .lst (bk.map fun e => .tup [.str (whoS e.1), .int (e.2.length : Nat)])
theorem shD_okd (bk : List Ent) : (shD bk).okd 20 = true := by
  unfold shD
  simp only [D.okd]
  exact okdL_map fun x _ => by cases x.1 <;> (simp [D.okd, D.okdL, whoS]; decide +kernel)
/-- alike in shape -/
def Shape (A B : List Ent) : Prop := A.map (fun e => (e.1, e.2.length)) = B.map fun e => (e.1, e.2.length)
theorem Shape.shD {A B : List Ent} (h : Shape A B) : shD A = shD B := by
  unfold LP.shD
  have := congrArg (List.map fun q : Bool × Nat => D.tup [.str (whoS q.1), .int (q.2 : Nat)]) h
  rw [List.map_map, List.map_map] at this
  exact congrArg D.lst this
theorem need_both_ok {n : Nat} {A B : List Ent} {c : List Rat} {ob : List OD} (hA : BkOk n A) (hB : BkOk n B) (hs : Shape A B) (hl : c.length = n) (h0 : ∀ x ∈ c, 0 ≤ x) : Ph_need_both [bkD A, bkD B, rL c] ⟨[], ob⟩ = .ok (.v .non) ⟨[], ob⟩ := by
  have big : (100 : Nat) ≤ sizeLine := by decide
  have hn := hA.le
  unfold Ph_need_both m_need_both
  apply callF_wh
  refine wh_seq (ρ1 := ⟨[.val (bkD A), .val (bkD B), .val (rL c), .un, .un, .un, .un], ob⟩) (by simp [look_ok hA]) ?_
  refine wh_seq (ρ1 := ⟨[.val (bkD A), .val (bkD B), .val (rL c), .un, .un, .un, .un], ob⟩) (by simp [look_ok hB]) ?_
  have inner : ∀ X : List Ent, BkOk n X → lcM (itsD (locD 4)) (tupU 2 (consG (setU 5) (consG (setU 6) (nilG)))) (yesT) (tupD (consA (locD 5) (consA (frzM (cbM lenF (consA (locD 6) (nilA)))) (nilA)))) [5, 6] ⟨[.val (bkD A), .val (bkD B), .val (rL c), .un, .val (bkD X), .un, .un], ob⟩ = .ok (.o (X.map fun e => .tup [.str (whoS e.1), .int (e.2.length : Nat)])) ⟨[.val (bkD A), .val (bkD B), .val (rL c), .un, .val (bkD X), .un, .un], ob⟩ := fun X hX => by
    refine lcM_map (e := eD) (xs := X) (ρ1 := ⟨[.val (bkD A), .val (bkD B), .val (rL c), .un, .val (bkD X), .un, .un], ob⟩) (by simp [bkD]) (by rw [hX.len]; omega) (by simp [En.kills] <;> exact rfl) (fun e he => ⟨_, _, by (simp [eD] <;> exact rfl), by (simp [lenF] <;> exact rfl), by simp [En.kills]⟩) (by simp [En.back, SD.keep])
  have outer : lcM (itsD (tupD (consA (locD 0) (consA (locD 1) (nilA))))) (setU 4) (yesT) (frzM (lcM (itsD (locD 4)) (tupU 2 (consG (setU 5) (consG (setU 6) (nilG)))) (yesT) (tupD (consA (locD 5) (consA (frzM (cbM lenF (consA (locD 6) (nilA)))) (nilA)))) [5, 6])) [4] ⟨[.val (bkD A), .val (bkD B), .val (rL c), .un, .un, .un, .un], ob⟩ = .ok (.o ([A, B].map shD)) ⟨[.val (bkD A), .val (bkD B), .val (rL c), .un, .un, .un, .un], ob⟩ := by
    refine lcM_map (e := bkD) (xs := [A, B]) (ρ1 := ⟨[.val (bkD A), .val (bkD B), .val (rL c), .un, .un, .un, .un], ob⟩) (ρk := ⟨[.val (bkD A), .val (bkD B), .val (rL c), .un, .un, .un, .un], ob⟩) (by simp) (by simp) (by simp [En.kills] <;> exact rfl) (fun X hX => ⟨⟨[.val (bkD A), .val (bkD B), .val (rL c), .un, .val (bkD X), .un, .un], ob⟩, ⟨[.val (bkD A), .val (bkD B), .val (rL c), .un, .val (bkD X), .un, .un], ob⟩, by simp, ?_, by simp [En.kills]⟩) (by simp [En.back, SD.keep])
    rcases List.mem_cons.mp hX with e | e
    · rw [e]; exact frzM_o (inner A hA)
    · rw [List.mem_singleton.mp e]; exact frzM_o (inner B hB)
  refine wh_seq (ρ1 := ⟨[.val (bkD A), .val (bkD B), .val (rL c), .val (.lst [shD A, shD B]), .un, .un, .un], ob⟩) (seqM_2 (setM_r outer (by simp)) (by simp)) ?_
  have e1 : neO (shD A) (shD B) = some (.bl false) := by rw [hs.shD]; exact neO_self (shD_okd B)
  refine wh_if_ff (ρ1 := ⟨[.val (bkD A), .val (bkD B), .val (rL c), .val (.lst [shD A, shD B]), .un, .un, .un], ob⟩) (by simp [L2.atI, L2.ixN, e1]) (wh_nop ?_)
  have e2 : Ph_need_filling [.int (n : Int), rL c] ⟨[], ob⟩ = .ok (.v .non) ⟨[], ob⟩ := need_filling_ok hl (by omega) h0
  exact wh_ok (fl := .nx) (by (simp [bkD, hA.len, e2] <;> exact rfl)) ⟨rfl, rfl⟩
end LP
set_option maxHeartbeats 200000
namespace LP
open PySem LW N57
/-- the rows of a store -/
def rowsOf (bk : List Ent) (i : Nat) : List (List Rat) := (bk.getD i (false, [])).2
theorem ent_of {bk : List Ent} {i : Nat} (h : i < bk.length) : ∃ e, bk[i]? = some e ∧ e ∈ bk ∧ rowsOf bk i = e.2 := by
  refine ⟨bk[i], by simp [h], List.getElem_mem h, ?_⟩
  unfold rowsOf
  rw [List.getD_eq_getElem?_getD, List.getElem?_eq_getElem h]
  rfl
def stepPl (bk : List Ent) (found : List (List Nat)) (i : Nat) : List (List Nat) := found.flatMap fun p => (List.range' 0 (rowsOf bk i).length).map fun a => p ++ [a]
def plN (p : List Nat) : D := .tup (p.map fun a => .int (a : Nat))
/-- a choice of rows -/
def Chs (bk : List Ent) (j : Nat) (p : List Nat) : Prop := p.length = j ∧ ∀ i a, p[i]? = some a → a < (rowsOf bk i).length
structure PlIn (n : Nat) (bk : List Ent) (j : Nat) (F : List (List Nat)) : Prop where
  mem : ∀ p, p ∈ F ↔ Chs bk j p
  cnt : F.length ≤ 3 ^ j
theorem chs_succ {bk : List Ent} {j : Nat} {p : List Nat} : Chs bk (j + 1) p ↔ ∃ q a, p = q ++ [a] ∧ Chs bk j q ∧ a < (rowsOf bk j).length := by
  constructor
  · rintro ⟨h1, h2⟩
    have hne : p ≠ [] := by intro z; rw [z] at h1; simp at h1
    have e := List.dropLast_concat_getLast hne
    refine ⟨p.dropLast, p.getLast hne, e.symm, ⟨by simp [h1], fun i a hi => h2 i a ?_⟩, ?_⟩
    · have hl : i < p.dropLast.length := (List.getElem?_eq_some_iff.mp hi).1
      rw [← e, List.getElem?_append_left hl]
      exact hi
    · refine h2 j _ ?_
      rw [List.getLast_eq_getElem]
      simp [h1]
  · rintro ⟨q, a, rfl, ⟨h1, h2⟩, h3⟩
    refine ⟨by simp [h1], fun i b hi => ?_⟩
    by_cases c : i < q.length
    · rw [List.getElem?_append_left c] at hi
      exact h2 i b hi
    · rw [List.getElem?_append_right (by omega)] at hi
      have : i - q.length = 0 := by
        have := (List.getElem?_eq_some_iff.mp hi).1
        simp at this
        omega
      rw [this] at hi
      simp at hi
      rw [← hi, show i = j by omega]
      exact h3
theorem PlIn.step {n j : Nat} {bk : List Ent} {F : List (List Nat)} (h : BkOk n bk) (hj : j < n) (k : PlIn n bk j F) : PlIn n bk (j + 1) (stepPl bk F j) where
  mem p := by
    rw [chs_succ]
    unfold stepPl
    rw [List.mem_flatMap]
    constructor
    · rintro ⟨q, hq, hp⟩
      obtain ⟨a, ha, rfl⟩ := List.mem_map.mp hp
      rw [List.mem_range'_1] at ha
      exact ⟨q, a, rfl, (k.mem q).mp hq, by omega⟩
    · rintro ⟨q, a, rfl, hq, ha⟩
      exact ⟨q, (k.mem q).mpr hq, List.mem_map.mpr ⟨a, by rw [List.mem_range'_1]; omega, rfl⟩⟩
  cnt := by
    have hr : (rowsOf bk j).length ≤ 3 := by
      obtain ⟨e, h1, h2, h3⟩ := ent_of (bk := bk) (i := j) (by rw [h.len]; exact hj)
      rw [h3]
      exact (h.men e h2).2.1
    have : (stepPl bk F j).length = F.length * (rowsOf bk j).length := by
      unfold stepPl
      generalize (rowsOf bk j).length = w
      induction F with
      | nil => simp
      | cons x F ih =>
        rw [List.flatMap_cons, List.length_append, List.length_map, List.length_range']
        have : (List.flatMap (fun p => (List.range' 0 w).map fun a => p ++ [a]) F).length = F.length * w := by
          clear ih k
          induction F with
          | nil => simp
          | cons y F ih => rw [List.flatMap_cons, List.length_append, List.length_map, List.length_range', ih, List.length_cons, Nat.add_mul]; omega
        rw [this, List.length_cons, Nat.add_mul]
        omega
    rw [this, Nat.pow_succ]
    exact Nat.mul_le_mul k.cnt hr
theorem all_plans_ok {n : Nat} {bk : List Ent} {ob : List OD} (h : BkOk n bk) : ∃ F, Ph_all_plans [bkD bk, .lst (rngL 0 n)] ⟨[], ob⟩ = .ok (.v (.lst (F.map plN))) ⟨[], ob⟩ ∧ PlIn n bk n F := by
  have big : (1000 : Nat) ≤ sizeLine := by decide
  have hn := h.le
  have start : PlIn n bk 0 [[]] := ⟨fun p => by
    constructor
    · intro z
      rw [List.mem_singleton.mp z]
      exact ⟨rfl, fun i a z => by simp at z⟩
    · rintro ⟨h1, _⟩
      rw [List.length_eq_zero_iff.mp h1]
      exact List.mem_singleton.mpr rfl, by simp⟩
  have pf : ∀ k, k ≤ n → PlIn n bk k ((List.range' 0 k).foldl (stepPl bk) [[]]) := by
    intro k
    induction k with
    | zero => intro _; exact start
    | succ k ih =>
      intro hk
      rw [List.range'_concat, List.foldl_append]
      simp only [Nat.zero_add, Nat.one_mul, List.foldl_cons, List.foldl_nil]
      exact (ih (by omega)).step h (by omega)
  refine ⟨_, ?_, pf n (Nat.le_refl _)⟩
  have hr : rngL 0 n = (List.range' 0 n).map fun i => D.int (i : Nat) := rngL_map n 0
  rw [hr]
  unfold Ph_all_plans m_all_plans
  apply callF_wh
  refine wh_seq (ρ1 := ⟨[.val (bkD bk), .val (.lst ((List.range' 0 n).map fun i => D.int (i : Nat))), .val (.lst ([[]].map plN)), .un, .un, .un], ob⟩) (by simp [plN]) ?_
  refine wh_foldP (fun j : Nat => .int (j : Nat)) (List.range' 0 n) (fun F => ⟨[.val (bkD bk), .val (.lst ((List.range' 0 n).map fun i => D.int (i : Nat))), .val (.lst (F.map plN)), .un, .un, .un], ob⟩) (stepPl bk) [[]] (PlIn n bk) (by simp) start (fun j F x hx k => ?_) (fun k => ?_)
  · obtain ⟨rfl, hj⟩ := rangeD hx
    refine ⟨k.step h hj, ⟨[.val (bkD bk), .val (.lst ((List.range' 0 n).map fun i => D.int (i : Nat))), .val (.lst (F.map plN)), .val (.int (x : Nat)), .un, .un], ob⟩, by simp, ?_⟩
    obtain ⟨e, h1, h2, h3⟩ := ent_of (bk := bk) (i := x) (by rw [h.len]; exact hj)
    have g1 : L2.atI (bk.map eD) (x : Int) = some (eD e) := atI_map h1
    have hst := (k.step h hj).cnt
    have hp3 : 3 ^ (x + 1) ≤ 243 := by
      have : 3 ^ (x + 1) ≤ 3 ^ 5 := Nat.pow_le_pow_right (by decide) (by omega)
      simpa using this
    have hlt := (h.men e h2).2.1
    have pl : ∀ p ∈ F, p.length = x := fun p hp => ((k.mem p).mp hp).1
    have e0 : ((F.flatMap fun p => (List.range' 0 e.2.length).map fun (a : Nat) => (D.tup (p.map (fun a : Nat => D.int (a : Nat)) ++ [D.int (a : Nat)])))) = (stepPl bk F x).map plN := by
      unfold stepPl plN
      rw [h3, List.map_flatMap]
      simp [Function.comp_def]
    have hcnt : (F.flatMap fun _ => List.range' 0 e.2.length).length ≤ sizeLine := by
      have q := congrArg List.length e0
      simp only [List.length_flatMap, List.length_map, List.length_range'] at q ⊢
      rw [q]
      omega
    refine wh_assoc (wh_seq (setM_r (lc2M_map (e := plN) (e1 := fun a : Nat => D.int (a : Nat)) (g := fun _ => List.range' 0 e.2.length) (f := fun p a => D.tup (p.map (fun a : Nat => D.int (a : Nat)) ++ [D.int (a : Nat)])) (xs := F) (ρ1 := ⟨[.val (bkD bk), .val (.lst ((List.range' 0 n).map fun i => D.int (i : Nat))), .val (.lst (F.map plN)), .val (.int (x : Nat)), .un, .un], ob⟩) (ρk := ⟨[.val (bkD bk), .val (.lst ((List.range' 0 n).map fun i => D.int (i : Nat))), .val (.lst (F.map plN)), .val (.int (x : Nat)), .un, .un], ob⟩) (by simp) hcnt (by simp [En.kills]) (fun p hp => ?_) (by simp [En.back, SD.keep, bkD] <;> exact rfl)) (by simp)) ?_)
    · refine ⟨⟨[.val (bkD bk), .val (.lst ((List.range' 0 n).map fun i => D.int (i : Nat))), .val (.lst (F.map plN)), .val (.int (x : Nat)), .val (plN p), .un], ob⟩, ⟨[.val (bkD bk), .val (.lst ((List.range' 0 n).map fun i => D.int (i : Nat))), .val (.lst (F.map plN)), .val (.int (x : Nat)), .val (plN p), .un], ob⟩, ⟨[.val (bkD bk), .val (.lst ((List.range' 0 n).map fun i => D.int (i : Nat))), .val (.lst (F.map plN)), .val (.int (x : Nat)), .val (plN p), .un], ob⟩, by simp, rng1_ok (by simp [bkD, g1, show ixO (eD e) (.int 1) = some (.tup (e.2.map rT)) from rfl] <;> exact rfl) (by omega), by simp [En.kills], by simp [En.kills], fun a ha => ?_⟩
      refine ⟨⟨[.val (bkD bk), .val (.lst ((List.range' 0 n).map fun i => D.int (i : Nat))), .val (.lst (F.map plN)), .val (.int (x : Nat)), .val (plN p), .val (.int (a : Nat))], ob⟩, ⟨[.val (bkD bk), .val (.lst ((List.range' 0 n).map fun i => D.int (i : Nat))), .val (.lst (F.map plN)), .val (.int (x : Nat)), .val (plN p), .val (.int (a : Nat))], ob⟩, by simp, ?_, by simp [En.kills]⟩
      have := pl p hp
      have z : (p.map fun a : Nat => D.int (a : Nat)).length + [D.int (a : Nat)].length ≤ sizeLine := by simp; omega
      have z2 : addT (plN p) (.tup [.int (a : Nat)]) = some (.tup (p.map (fun a : Nat => D.int (a : Nat)) ++ [D.int (a : Nat)])) := by
        unfold addT plN
        dsimp only
        rw [if_pos z]
      simp [z2]
    · rw [e0]
      exact wh_seq (by simp [RV.sd] <;> exact rfl) (wh_ok (fl := .nx) (by simp <;> exact rfl) ⟨.inl rfl, rfl⟩)
  · exact wh_seq (by simp <;> exact rfl) (wh_ret (by simp <;> exact rfl) ⟨rfl, rfl⟩)
/-- the table of a choice -/
def tk (bk : List Ent) (p : List Nat) : List (List Rat) := p.zipIdx.map fun q => (rowsOf bk q.2).getD q.1 []
theorem tk_len {bk : List Ent} {p : List Nat} : (tk bk p).length = p.length := by simp [tk]
theorem tk_row {bk : List Ent} {n : Nat} {p : List Nat} (h : BkOk n bk) (hp : Chs bk n p) : ∀ l ∈ tk bk p, RowOk n l := by
  intro l hl
  obtain ⟨q, hq, rfl⟩ := List.mem_map.mp hl
  obtain ⟨i, hi⟩ := List.mem_iff_getElem?.mp hq
  rw [List.getElem?_zipIdx] at hi
  obtain ⟨a, ha, rfl⟩ := Option.map_eq_some_iff.mp hi
  have hin : i < bk.length := by rw [h.len, ← hp.1]; exact (List.getElem?_eq_some_iff.mp ha).1
  obtain ⟨e, h1, h2, h3⟩ := ent_of hin
  have hlt := hp.2 i a ha
  simp only [Nat.zero_add]
  rw [h3] at hlt ⊢
  refine (h.men e h2).2.2 _ ?_
  rw [List.getD_eq_getElem?_getD, List.getElem?_eq_getElem hlt]
  exact List.getElem_mem hlt
theorem taken_ok {n : Nat} {bk : List Ent} {p : List Nat} {ob : List OD} (h : BkOk n bk) (hp : Chs bk n p) : Ph_taken [bkD bk, plN p] ⟨[], ob⟩ = .ok (.o ((tk bk p).map rT)) ⟨[], ob⟩ := by
  have big : (1000 : Nat) ≤ sizeLine := by decide
  have hn := h.le
  have hl := hp.1
  unfold Ph_taken m_taken
  apply callF_wh
  have e0 : (tk bk p).map rT = p.zipIdx.map fun q => rT ((rowsOf bk q.2).getD q.1 []) := by simp [tk]
  rw [e0]
  refine wh_ret (ρ1 := ⟨[.val (bkD bk), .val (plN p), .un, .un], ob⟩) (lcM_map (e := fun q : Nat × Nat => .tup [.int (q.2 : Nat), .int (q.1 : Nat)]) (f := fun q : Nat × Nat => rT ((rowsOf bk q.2).getD q.1 [])) (xs := p.zipIdx) (ρ1 := ⟨[.val (bkD bk), .val (plN p), .un, .un], ob⟩) (by simp [plN, enumL_map]) (by rw [List.length_zipIdx]; omega) (by simp [En.kills] <;> exact rfl) (fun q hq => ?_) (by simp [En.back, SD.keep, bkD, plN])) ⟨rfl, rfl⟩
  obtain ⟨i, hi⟩ := List.mem_iff_getElem?.mp hq
  rw [List.getElem?_zipIdx] at hi
  obtain ⟨a, ha, rfl⟩ := Option.map_eq_some_iff.mp hi
  have hin : i < bk.length := by rw [h.len, ← hl]; exact (List.getElem?_eq_some_iff.mp ha).1
  obtain ⟨e, h1, h2, h3⟩ := ent_of hin
  have hlt := hp.2 i a ha
  have g1 : L2.atI (bk.map eD) (i : Int) = some (eD e) := atI_map h1
  have g2 : L2.atI (e.2.map rT) (a : Int) = some (rT ((rowsOf bk i).getD a [])) := atI_map (by
    rw [h3] at hlt ⊢
    rw [List.getD_eq_getElem?_getD, List.getElem?_eq_getElem hlt]
    rfl)
  simp only [Nat.zero_add]
  refine ⟨⟨[.val (bkD bk), .val (plN p), .val (.int (i : Nat)), .val (.int (a : Nat))], ob⟩, ⟨[.val (bkD bk), .val (plN p), .val (.int (i : Nat)), .val (.int (a : Nat))], ob⟩, by simp, ?_, by simp [En.kills]⟩
  have g3 : ixO (eD e) (.int 1) = some (.tup (e.2.map rT)) := rfl
  simp [bkD, g1, g3, g2]
end LP
set_option maxHeartbeats 200000
namespace LP
open PySem LW N57
/-- what a table makes of a row -/
def act (n : Nat) (T : List (List Rat)) (v : Vc) : Vc := fun k => sumN n fun i => v i * ent T i k
def addRow (x : Rat) (f l : List Rat) : List Rat := (f.zip l).map fun q => q.1 + x * q.2
theorem addRow_len {c : Rat} {f l : List Rat} (h : f.length = l.length) : (addRow c f l).length = f.length := by simp [addRow, h]
theorem addRow_at {c : Rat} {f l : List Rat} (h : f.length = l.length) (i : Nat) : at0 (addRow c f l) i = at0 f i + c * at0 l i := by
  by_cases hi : i < f.length
  · have e : (addRow c f l)[i]? = some (at0 f i + c * at0 l i) := by
      unfold addRow
      rw [List.getElem?_map]
      have : (f.zip l)[i]? = some (at0 f i, at0 l i) := by
        rw [List.getElem?_zip_eq_some]
        exact ⟨at0_get hi, at0_get (h ▸ hi)⟩
      rw [this]
      rfl
    exact at0_of e
  · rw [at0_out (by rw [addRow_len h]; omega), at0_out (by omega), at0_out (by omega)]
    grind
/-- the common denominator of shares -/
abbrev LL : Nat := 232792560
theorem LL_dvd : ∀ d : Nat, d ≤ 20 → 0 < d → d ∣ LL := by decide
theorem Shr.up {q : Rat} (h : Shr q) : ∃ b : Int, b.natAbs < 2 ^ 38 ∧ q * (LL : Rat) = (b : Rat) := by
  obtain ⟨c, hc⟩ := LL_dvd q.den h.2.2 q.den_pos
  have h0 := Rat.num_nonneg.mpr h.1
  have hcl : c ≤ LL := by rw [hc]; exact Nat.le_mul_of_pos_left _ q.den_pos
  refine ⟨q.num * c, ?_, ?_⟩
  · rw [Int.natAbs_mul, Int.natAbs_natCast]
    have : q.num.natAbs ≤ 999 := by have := h.2.1; omega
    have h2 : q.num.natAbs * c ≤ 999 * LL := Nat.mul_le_mul this hcl
    have h3 : 999 * LL < 2 ^ 38 := by decide
    omega
  · have e : (LL : Rat) = (q.den : Rat) * (c : Rat) := by rw [hc, cast_mul]
    rw [e]
    have e2 : q * (q.den : Rat) = (q.num : Rat) := by
      have hd : ((q.den : Nat) : Rat) ≠ 0 := by
        have : (0 : Rat) < (q.den : Rat) := Rat.natCast_pos.mpr q.den_pos
        grind
      have e4 : q = (q.num : Rat) / (q.den : Rat) := by
        have := Rat.num_divInt_den q
        rw [Rat.divInt_eq_div] at this
        exact this.symm
      calc q * (q.den : Rat) = (q.num : Rat) / (q.den : Rat) * (q.den : Rat) := by rw [← e4]
        _ = (q.num : Rat) := Rat.div_mul_cancel hd
    have e3 : ((q.num * (c : Int) : Int) : Rat) = (q.num : Rat) * (c : Rat) := by
      push_cast
      rfl
    rw [e3, ← e2]
    grind
/-- a table of shares -/
def ShT (n : Nat) (T : List (List Rat)) : Prop := T.length = n ∧ ∀ l ∈ T, RowOk n l
theorem ShT.row {n : Nat} {T : List (List Rat)} (h : ShT n T) {i : Nat} (hi : i < n) : RowOk n (rowR T i) := h.2 _ (row_mem (by rw [h.1]; exact hi))
theorem part_up {n m j k : Nat} {r : List Rat} {T : List (List Rat)} {d : Nat} (hT : ShT n T) (hr : r.length = n) (hk : k < n) (hd : ∀ x ∈ r, ∃ a : Int, a.natAbs < 2 ^ m ∧ x * (d : Rat) = (a : Rat)) (hj : j ≤ n) : ∃ a : Int, a.natAbs ≤ j * 2 ^ (m + 38) ∧ (sumN j fun i => at0 r i * ent T i k) * ((d * LL : Nat) : Rat) = (a : Rat) := by
  induction j with
  | zero => exact ⟨0, by simp, by show (0 : Rat) * _ = 0; grind⟩
  | succ j ih =>
    obtain ⟨a, a1, a2⟩ := ih (by omega)
    obtain ⟨b, b1, b2⟩ := hd (at0 r j) (at0_mem (by omega))
    have hrow := hT.row (i := j) (by omega)
    obtain ⟨c, c1, c2⟩ := (hrow.2 (ent T j k) (at0_mem (by rw [hrow.1]; exact hk))).up
    refine ⟨a + b * c, ?_, ?_⟩
    · have h1 : (b * c).natAbs < 2 ^ (m + 38) := by rw [Int.natAbs_mul]; exact mul_lt b1 c1
      rw [Nat.add_mul]
      omega
    · rw [sumN, Rat.add_mul, a2, cast_mul]
      have e3 : ((a + b * c : Int) : Rat) = (a : Rat) + (b : Rat) * (c : Rat) := by
        push_cast
        rfl
      rw [e3, ← b2, ← c2]
      grind
theorem part_lt {n m : Nat} (hn : n ≤ 5) {a : Int} {j : Nat} (hj : j ≤ n) (h : a.natAbs ≤ j * 2 ^ (m + 38)) : a.natAbs < 2 ^ (m + 41) := by
  have h1 : j * 2 ^ (m + 38) ≤ 5 * 2 ^ (m + 38) := Nat.mul_le_mul_right _ (by omega)
  have h2 : 2 ^ (m + 41) = 8 * 2 ^ (m + 38) := by rw [show m + 41 = m + 38 + 3 by omega, Nat.pow_add]; omega
  have h3 : 0 < 2 ^ (m + 38) := Nat.pow_pos (by decide)
  omega
theorem part_vz {n m j : Nat} {r s : List Rat} {T : List (List Rat)} (hT : ShT n T) (hn : n ≤ 5) (hr : r.length = n) (hz : Vz r m) (hj : j ≤ n) (hs : s.length = n) (h : ∀ k, k < n → at0 s k = sumN j fun i => at0 r i * ent T i k) : Vz s (m + 41) := by
  obtain ⟨d, d0, d1, q⟩ := hz
  have hp : (2 : Nat) ^ (m + 41) = 2 ^ m * 2 ^ 41 := Nat.pow_add ..
  have hL : LL < 2 ^ 41 := by decide
  refine ⟨d * LL, Nat.mul_pos d0 (by decide), by rw [hp]; exact Nat.mul_lt_mul'' d1 hL, fun x hx => ?_⟩
  obtain ⟨k, hk⟩ := List.mem_iff_getElem?.mp hx
  have hkn : k < n := by rw [← hs]; exact (List.getElem?_eq_some_iff.mp hk).1
  obtain ⟨a, a1, a2⟩ := part_up hT hr hkn q hj
  refine ⟨a, part_lt hn hj a1, ?_⟩
  rw [← at0_of hk, h k hkn]
  exact a2
theorem row_by_ok {n m : Nat} {r : List Rat} {T : List (List Rat)} {ob : List OD} (hT : ShT n T) (hn : n ≤ 5) (hr : r.length = n) (hz : Vz r m) (hm : m ≤ 1000000) : ∃ s, Ph_row_by [rT r, tD T] ⟨[], ob⟩ = .ok (.v (rT s)) ⟨[], ob⟩ ∧ s.length = n ∧ at0 s = act n T (at0 r) ∧ Vz s (m + 41) := by
  have big : (1000 : Nat) ≤ sizeLine := by decide
  have step : ∀ j s (q : Rat × List Rat), (r.zip T)[j]? = some q → (s.length = n ∧ ∀ k, at0 s k = sumN j fun i => at0 r i * ent T i k) → j < n ∧ q.1 = at0 r j ∧ q.2 = rowR T j ∧ q.2.length = n ∧ ((if q.1 ≠ 0 then addRow q.1 s q.2 else s).length = n ∧ ∀ k, at0 (if q.1 ≠ 0 then addRow q.1 s q.2 else s) k = sumN (j + 1) fun i => at0 r i * ent T i k) := by
    rintro j s q hq ⟨h1, h2⟩
    obtain ⟨q1, q2⟩ := List.getElem?_zip_eq_some.mp hq
    have hj : j < n := by rw [← hr]; exact (List.getElem?_eq_some_iff.mp q1).1
    have e1 := (at0_of q1).symm
    have e2 := (row_of q2).symm
    have hl : q.2.length = n := by rw [e2]; exact (hT.row hj).1
    refine ⟨hj, e1, e2, hl, ?_⟩
    split
    · refine ⟨by rw [addRow_len (by rw [h1, hl])]; exact h1, fun k => ?_⟩
      rw [addRow_at (by rw [h1, hl]), h2 k, sumN, e1, e2]
      rfl
    · rename_i hne
      refine ⟨h1, fun k => ?_⟩
      have : at0 r j = 0 := by rw [← e1]; grind
      rw [h2 k, sumN, this]
      grind
  have rep : mulL (.lst [.tup [.int 0, .int 1]]) (.int (n : Nat)) = some (rL (List.replicate n 0)) := by
    unfold mulL
    dsimp only
    rw [if_pos ⟨by omega, by simp; omega⟩]
    simp [rL, rD0]
  have z0 : ∀ k, at0 (List.replicate n 0) k = 0 := fun k => by
    by_cases c : k < n
    · exact at0_of (by rw [List.getElem?_replicate, if_pos c])
    · exact at0_out (by simp; omega)
  have zip5 : (r.zip T).length = n := by rw [List.length_zip, hr, hT.1]; omega
  have start : (List.replicate n (0 : Rat)).length = n ∧ ∀ k, at0 (List.replicate n (0 : Rat)) k = sumN 0 fun i => at0 r i * ent T i k := ⟨by simp, fun k => z0 k⟩
  have pf : ∀ k, k ≤ n → (((r.zip T).take k).foldl (fun s (q : Rat × List Rat) => if q.1 ≠ 0 then addRow q.1 s q.2 else s) (List.replicate n (0 : Rat))).length = n ∧ ∀ c, at0 (((r.zip T).take k).foldl (fun s (q : Rat × List Rat) => if q.1 ≠ 0 then addRow q.1 s q.2 else s) (List.replicate n (0 : Rat))) c = sumN k fun i => at0 r i * ent T i c := by
    intro k
    induction k with
    | zero => intro _; exact start
    | succ k ih =>
      intro hk
      have hx : (r.zip T)[k]? = some ((r.zip T)[k]'(by omega)) := List.getElem?_eq_getElem _
      rw [take_succ_get hx, List.foldl_append]
      exact (step k _ _ hx (ih (by omega))).2.2.2.2
  have fin := pf n (Nat.le_refl _)
  rw [List.take_of_length_le (by omega)] at fin
  refine ⟨_, ?_, fin.1, funext fin.2, part_vz hT hn hr hz (Nat.le_refl _) fin.1 fun k _ => fin.2 k⟩
  unfold Ph_row_by m_row_by
  apply callF_wh
  refine wh_seq (ρ1 := ⟨[.val (rT r), .val (tD T), .val (rL (List.replicate n 0)), .un, .un, .un, .un], ob⟩) (by simp [rT, hr, rep]) ?_
  refine wh_foldP (fun q : Rat × List Rat => .tup [rD q.1, rT q.2]) (r.zip T) (fun s => ⟨[.val (rT r), .val (tD T), .val (rL s), .un, .un, .un, .un], ob⟩) (fun s q => if q.1 ≠ 0 then addRow q.1 s q.2 else s) (List.replicate n (0 : Rat)) (fun j s => s.length = n ∧ ∀ k, at0 s k = sumN j fun i => at0 r i * ent T i k) (by simp [tD, hr, hT.1, zipL_map]) start (fun j s q hq hP => ?_) (fun k => ?_)
  · obtain ⟨hj, e1, e2, hl, hP2⟩ := step j s q hq hP
    refine ⟨hP2, ⟨[.val (rT r), .val (tD T), .val (rL s), .val (rD q.1), .val (rT q.2), .un, .un], ob⟩, by simp, ?_⟩
    have neq : neO (rD q.1) (.tup [.int 0, .int 1]) = some (.bl (!decide (q.1 = 0))) := neO_rD (b := 0)
    by_cases c : q.1 = 0
    · rw [if_neg (by simp [c])]
      rw [c] at neq
      refine wh_if_ff (ρ1 := ⟨[.val (rT r), .val (tD T), .val (rL s), .val (rD q.1), .val (rT q.2), .un, .un], ob⟩) (by simp [c, neq]) (wh_nop ?_)
      exact wh_ok (fl := .nx) (by simp <;> exact rfl) ⟨.inl rfl, rfl⟩
    · rw [if_pos c]
      refine wh_if_tt (ρ1 := ⟨[.val (rT r), .val (tD T), .val (rL s), .val (rD q.1), .val (rT q.2), .un, .un], ob⟩) (by simp [c, neq]) ?_
      have hv : Vz s (m + 41) := part_vz hT hn hr hz (by omega : j ≤ n) hP.1 fun k _ => hP.2 k
      have hq1 : Sz q.1 m := by rw [e1]; exact hz.sz (at0_mem (by omega))
      refine wh_assoc (wh_seq (setM_r (lcM_map (e := fun w : Rat × Rat => .tup [rD w.1, rD w.2]) (f := fun w : Rat × Rat => rD (w.1 + q.1 * w.2)) (xs := s.zip q.2) (ρ1 := ⟨[.val (rT r), .val (tD T), .val (rL s), .val (rD q.1), .val (rT q.2), .un, .un], ob⟩) (by simp [hP.1, hl, zipL_map]) (by rw [List.length_zip]; omega) (by simp [En.kills] <;> exact rfl) (fun w hw => ?_) (by simp [En.back, SD.keep, rL, rT] <;> exact rfl)) (by simp)) ?_)
      · have z1 := hv.sz (List.of_mem_zip hw).1
        have z2 : Sz w.2 39 := by
          obtain ⟨b, b1, b2⟩ := ((hT.row hj).2 w.2 (by rw [← e2]; exact (List.of_mem_zip hw).2)).up
          rw [of_mul (by decide) b2]
          exact Sz.divInt (by decide) (Nat.lt_trans b1 (by decide)) (by decide)
        exact ⟨_, _, rfl, by (simp [times_ok hq1 z2 (by omega), plus_ok z1 (hq1.mul z2) (by omega)] <;> exact rfl), by simp [En.kills, rL, rT]⟩
      · refine wh_seq (ρ1 := ⟨[.val (rT r), .val (tD T), .val (rL (addRow q.1 s q.2)), .val (rD q.1), .val (rT q.2), .un, .un], ob⟩) (by simp [RV.sd, rL, rT, addRow, Function.comp_def] <;> exact rfl) (wh_ok (fl := .nx) (by simp <;> exact rfl) ⟨.inl rfl, rfl⟩)
  · clear k fin pf
    generalize List.foldl (fun s (q : Rat × List Rat) => if q.1 ≠ 0 then addRow q.1 s q.2 else s) (List.replicate n (0 : Rat)) (r.zip T) = s
    exact wh_seq (ρ1 := ⟨[.val (rT r), .val (tD T), .val (rL s), .un, .un, .un, .un], ob⟩) (by simp) (wh_ret (ρ1 := ⟨[.val (rT r), .val (tD T), .val (rL s), .un, .un, .un, .un], ob⟩) (r := .v (rT s)) (by simp [rL, rT]) ⟨rfl, rfl⟩)
end LP
set_option maxHeartbeats 200000
namespace LW
open PySem PySem.Spec PyProof.Rows L2
section
variable {Q : Fl → En → Prop} {E : Ex → En → Prop} {k : M Fl}
/-- a while loop by an invariant that runs down -/
theorem wh_while {c : M Bool} {body : M Fl} (I : Nat → En → Prop) (hs : ∀ m ρ, I m ρ → ∃ x ρ1, c ρ = .ok x ρ1 ∧ (x = false → Wh Q E (k ρ1)) ∧ (x = true → Wh (fun fl ρ' => match fl with
      | .nx => ∃ j, j < m ∧ I j ρ'
      | .rt r => Q (.rt r) ρ'
      | _ => False) (fun _ _ => False) (body ρ1))) : ∀ (m : Nat) (ρ : En), I m ρ → Wh Q E (seqM (whileM c body) k ρ) := by
  have key : ∀ (m : Nat) (ρ : En), I m ρ → ∃ fl ρ', whileM c body ρ = .ok fl ρ' ∧ ((fl = .nx ∧ Wh Q E (k ρ')) ∨ ∃ r, fl = .rt r ∧ Q (.rt r) ρ') := by
    intro m
    induction m using Nat.strongRecOn with
    | ind m ih =>
      intro ρ hI
      obtain ⟨x, ρ1, h1, h2, h3⟩ := hs m ρ hI
      cases x with
      | false => exact ⟨.nx, ρ1, whileM_stop h1, .inl ⟨rfl, h2 rfl⟩⟩
      | true =>
        have hb := h3 rfl
        unfold Wh at hb
        cases e : body ρ1 with
        | ok fl ρ2 =>
          rw [e] at hb
          cases fl with
          | nx =>
            obtain ⟨j, hj, hI2⟩ := hb
            obtain ⟨fl, ρ', g1, g2⟩ := ih j hj ρ2 hI2
            exact ⟨fl, ρ', whileM_turn h1 e g1 rfl, g2⟩
          | rt r => exact ⟨.rt r, ρ2, whileM_leave h1 e, .inr ⟨r, rfl, hb⟩⟩
          | bk => exact hb.elim
          | ct => exact hb.elim
        | exc x ρ2 => rw [e] at hb; exact hb.elim
        | bad => rw [e] at hb; exact hb.elim
  intro m ρ hI
  obtain ⟨fl, ρ', h1, h2⟩ := key m ρ hI
  refine wh_cut ?_
  rw [h1]
  rcases h2 with ⟨rfl, h⟩ | ⟨r, rfl, h⟩
  · exact h
  · exact h
end
/-- a def's body, its end told by a relation -/
theorem callF_whE {n : Nat} {den : M Fl} {ds : List D} {ρ : En} {R : RV → List OD → Prop} (h : Wh (fun fl ρ' => match fl with
    | .rt r => R r ρ'.ob
    | .nx => R (.v .non) ρ'.ob
    | _ => False) (fun _ _ => False) (den ⟨slots0 n ds, ρ.ob⟩)) : ∃ r ob, callF n den ds ρ = .ok r ⟨[], ob⟩ ∧ R r ob := by
  unfold callF
  unfold Wh at h
  cases hd : den ⟨slots0 n ds, ρ.ob⟩ with
  | ok fl ρ2 =>
    rw [hd] at h
    cases fl with
    | rt r => exact ⟨_, _, rfl, h⟩
    | nx => exact ⟨_, _, rfl, h⟩
    | bk => exact h.elim
    | ct => exact h.elim
  | exc e ρ2 => rw [hd] at h; exact h.elim
  | bad => rw [hd] at h; exact h.elim
end LW
namespace LP
open PySem LW N57
def runW (n : Nat) (A : List Ent) : List (List Nat) → Vc → Vc
  | [], v => v
  | p :: w, v => runW n A w (act n (tk A p) v)
theorem runW_app {n : Nat} {A : List Ent} {p : List Nat} : ∀ {w : List (List Nat)} {v : Vc}, runW n A (w ++ [p]) v = act n (tk A p) (runW n A w v)
  | [], v => rfl
  | q :: w, v => runW_app (w := w)
/-- alike: whatever is chosen, the same comes of both -/
def Lik (n : Nat) (A B : List Ent) (v : Vc) : Prop := ∀ w : List (List Nat), (∀ p ∈ w, Chs A n p) → runW n A w v = runW n B w v
theorem act_lin {n : Nat} {T : List (List Rat)} {a b : Rat} {u v : Vc} : act n T (fun j => a * u j + b * v j) = fun k => a * act n T u k + b * act n T v k := by
  funext k
  unfold act
  rw [← sumN_mul, ← sumN_mul, ← sumN_add]
  exact sumN_congr fun i _ => by grind
theorem act_zero {n : Nat} {T : List (List Rat)} : act n T (fun _ => 0) = fun _ => 0 := by
  funext k
  unfold act
  rw [sumN_congr (g := fun _ => (0 : Rat)) fun i _ => by grind]
  exact sumN_zero
theorem lin_spn {n : Nat} {X Y : List (List Rat)} {S T : Vc → Prop} (h : ∀ u, S u → act n X u = act n Y u ∧ Spn T (act n X u)) {v : Vc} (k : Spn S v) : act n X v = act n Y v ∧ Spn T (act n X v) := by
  induction k with
  | zero => rw [act_zero, act_zero]; exact ⟨rfl, .zero⟩
  | mem z => exact h _ z
  | lin a b _ _ i1 i2 =>
    rw [act_lin, act_lin, i1.1, i2.1]
    refine ⟨rfl, ?_⟩
    rw [← i1.1, ← i2.1]
    exact .lin a b i1.2 i2.2
theorem nodup_le : ∀ {n : Nat} {l : List Nat}, l.Nodup → (∀ x ∈ l, x < n) → l.length ≤ n
  | 0, l, _, h => by
    cases l with
    | nil => simp
    | cons x l => exact absurd (h x (List.mem_cons_self ..)) (by omega)
  | n + 1, l, hd, h => by
    by_cases c : n ∈ l
    · have h1 := List.length_erase_of_mem c
      have h2 := nodup_le (n := n) (hd.erase n) fun x hx => by
        have := (List.Nodup.mem_erase_iff hd).mp hx
        have := h x this.2
        omega
      omega
    · have := nodup_le (n := n) hd fun x hx => by
        have := h x hx
        have : x ≠ n := fun e => c (e ▸ hx)
        omega
      omega
theorem LdsOk.cnt {n g : Nat} {L : Lds} (h : LdsOk n g L) : L.length ≤ n := by
  have := nodup_le h.nd fun x hx => by
    obtain ⟨p, hp, rfl⟩ := List.mem_map.mp hx
    exact h.key p hp
  simpa using this
/-- how large leads may be -/
def Gz : Nat → Nat
  | 0 => 400
  | k + 1 => 400 + 5 * (Gz k + 1)
theorem Gz_up {k : Nat} : Gz k ≤ Gz (k + 1) := by
  rw [Gz]
  omega
theorem Gz_le : ∀ {k : Nat}, k ≤ 5 → Gz k ≤ 1600000 := by
  intro k hk
  have : ∀ k, k ≤ 5 → Gz k ≤ 1600000 := by decide
  exact this k hk
abbrev Wt : Type := List Rat × List (List Nat)
/-- a row got at by a word at which both agree -/
def Rch (n : Nat) (A B : List Ent) (c : List Rat) (r : List Rat) : Prop := ∃ w, (∀ p ∈ w, Chs A n p) ∧ at0 r = runW n A w (at0 c) ∧ at0 r = runW n B w (at0 c)
structure Srch (n : Nat) (A B : List Ent) (c : List Rat) (dn : List Rat → List Nat → Prop) (L : Lds) (bs : List (List Rat)) (ws : List Wt) : Prop where
  lds : LdsOk n (Gz L.length) L
  cnt : L.length = bs.length + ws.length
  len : ∀ r, r ∈ bs ∨ (∃ ch, (r, ch) ∈ ws) → r.length = n ∧ Vz r (60 + 41 * L.length) ∧ Rch n A B c r
  chs : ∀ w ∈ ws, w.2.length ≤ L.length
  org : Spn (SL L) (at0 c)
  sp : ∀ v, SL L v → Spn (fun u => ∃ r, (r ∈ bs ∨ ∃ ch, (r, ch) ∈ ws) ∧ u = at0 r) v
  don : ∀ r p, dn r p → act n (tk A p) (at0 r) = act n (tk B p) (at0 r) ∧ Spn (SL L) (act n (tk A p) (at0 r))
theorem Srch.end {n : Nat} {A B : List Ent} {c : List Rat} {L : Lds} {bs : List (List Rat)} (h : Srch n A B c (fun r p => r ∈ bs ∧ Chs A n p) L bs []) : Lik n A B (at0 c) := by
  have key : ∀ (w : List (List Nat)) (v : Vc), (∀ p ∈ w, Chs A n p) → Spn (SL L) v → runW n A w v = runW n B w v := by
    intro w
    induction w with
    | nil => intro v _ _; rfl
    | cons p w ih =>
      intro v hp hv
      have hv2 : Spn (fun u => ∃ r, (r ∈ bs ∨ ∃ ch, (r, ch) ∈ ([] : List Wt)) ∧ u = at0 r) v := hv.trans h.sp
      obtain ⟨e1, e2⟩ := lin_spn (X := tk A p) (Y := tk B p) (T := SL L) (fun u ⟨r, hr, e⟩ => by
        rcases hr with hr | ⟨ch, hr⟩
        · rw [e]; exact h.don r p ⟨hr, hp p (List.mem_cons_self ..)⟩
        · cases hr) hv2
      rw [runW, runW, ← e1]
      exact ih _ (fun q hq => hp q (List.mem_cons_of_mem _ hq)) e2
  exact fun w hw => key w _ hw h.org
/-- a row is taken up -/
theorem Srch.take {n : Nat} {A B : List Ent} {c : List Rat} {L : Lds} {bs : List (List Rat)} {ws : List Wt} {w : Wt} {dn : List Rat → List Nat → Prop} (h : Srch n A B c dn L bs (w :: ws)) : Srch n A B c dn L (bs ++ [w.1]) ws where
  lds := h.lds
  cnt := by
    have := h.cnt
    simp at this ⊢
    omega
  len r hr := by
    refine h.len r ?_
    rcases hr with hr | ⟨ch, hr⟩
    · rcases List.mem_append.mp hr with z | z
      · exact .inl z
      · rw [List.mem_singleton.mp z]; exact .inr ⟨w.2, List.mem_cons_self ..⟩
    · exact .inr ⟨ch, List.mem_cons_of_mem _ hr⟩
  chs x hx := h.chs x (List.mem_cons_of_mem _ hx)
  org := h.org
  sp v hv := (h.sp v hv).mono fun u ⟨r, hr, e⟩ => ⟨r, by
    rcases hr with hr | ⟨ch, hr⟩
    · exact .inl (List.mem_append_left _ hr)
    · rcases List.mem_cons.mp hr with z | z
      · exact .inl (List.mem_append_right _ (by rw [← z]; exact List.mem_singleton.mpr rfl))
      · exact .inr ⟨ch, z⟩, e⟩
  don := h.don
theorem Srch.imp {n : Nat} {A B : List Ent} {c : List Rat} {L : Lds} {bs : List (List Rat)} {ws : List Wt} {dn dn' : List Rat → List Nat → Prop} (h : Srch n A B c dn L bs ws) (k : ∀ r p, dn' r p → dn r p) : Srch n A B c dn' L bs ws := ⟨h.lds, h.cnt, h.len, h.chs, h.org, h.sp, fun r p z => h.don r p (k r p z)⟩
/-- a row is looked at and found in the span -/
theorem Srch.seen {n : Nat} {A B : List Ent} {c : List Rat} {L : Lds} {bs : List (List Rat)} {ws : List Wt} {dn : List Rat → List Nat → Prop} {r0 hs : List Rat} {p0 : List Nat} (h : Srch n A B c dn L bs ws) (e1 : at0 hs = act n (tk A p0) (at0 r0)) (e2 : at0 hs = act n (tk B p0) (at0 r0)) (hsp : Spn (SL L) (at0 hs)) : Srch n A B c (fun r p => dn r p ∨ (r = r0 ∧ p = p0)) L bs ws := ⟨h.lds, h.cnt, h.len, h.chs, h.org, h.sp, fun r p z => by
  rcases z with z | ⟨rfl, rfl⟩
  · exact h.don r p z
  · rw [← e1, ← e2]; exact ⟨rfl, hsp⟩⟩
/-- a row is looked at and put in -/
theorem Srch.put {n : Nat} {A B : List Ent} {c : List Rat} {L L' : Lds} {bs : List (List Rat)} {ws : List Wt} {dn : List Rat → List Nat → Prop} {r0 hs : List Rat} {p0 : List Nat} {ch : List (List Nat)} (h : Srch n A B c dn L bs ws) (hp : Chs A n p0) (hr0 : Rch n A B c r0) (e1 : at0 hs = act n (tk A p0) (at0 r0)) (e2 : at0 hs = act n (tk B p0) (at0 r0)) (hlen : hs.length = n) (hvz : Vz hs (60 + 41 * (L.length + 1))) (hch : ch.length ≤ L.length + 1)
    (g1 : LdsOk n (Gz (L.length + 1)) L') (g2 : Spn (SL L') (at0 hs)) (g3 : L'.length = L.length + 1) (g4 : ∀ v, SL L v → SL L' v) (g5 : ∀ v, SL L' v → Spn (fun u => SL L u ∨ u = at0 hs) v) : Srch n A B c (fun r p => dn r p ∨ (r = r0 ∧ p = p0)) L' bs (ws ++ [(hs, ch)]) where
  lds := by rw [g3]; exact g1
  cnt := by
    have := h.cnt
    simp
    omega
  len r hr := by
    rw [g3]
    have old : (r ∈ bs ∨ ∃ ch, (r, ch) ∈ ws) → r.length = n ∧ Vz r (60 + 41 * (L.length + 1)) ∧ Rch n A B c r := fun z => by
      obtain ⟨q1, q2, q3⟩ := h.len r z
      exact ⟨q1, q2.mono (by omega), q3⟩
    rcases hr with hr | ⟨ch', hr⟩
    · exact old (.inl hr)
    · rcases List.mem_append.mp hr with z | z
      · exact old (.inr ⟨ch', z⟩)
      · have z := List.mem_singleton.mp z
        have zr : r = hs := congrArg Prod.fst z
        subst zr
        refine ⟨hlen, hvz, ?_⟩
        obtain ⟨w, w1, w2, w3⟩ := hr0
        refine ⟨w ++ [p0], fun p hpw => ?_, ?_, ?_⟩
        · rcases List.mem_append.mp hpw with y | y
          · exact w1 p y
          · rw [List.mem_singleton.mp y]; exact hp
        · rw [runW_app, ← w2, e1]
        · rw [runW_app, ← w3, e2]
  chs w hw := by
    rw [g3]
    rcases List.mem_append.mp hw with z | z
    · have := h.chs w z; omega
    · rw [List.mem_singleton.mp z]; exact hch
  org := h.org.mono g4
  sp v hv := (g5 v hv).trans fun u hu => by
    rcases hu with hu | rfl
    · refine (h.sp u hu).mono fun x ⟨r, hr, e⟩ => ⟨r, ?_, e⟩
      rcases hr with hr | ⟨ch', hr⟩
      · exact .inl hr
      · exact .inr ⟨ch', List.mem_append_left _ hr⟩
    · exact .mem ⟨hs, .inr ⟨ch, List.mem_append_right _ (List.mem_singleton.mpr rfl)⟩, rfl⟩
  don r p z := by
    rcases z with z | ⟨rfl, rfl⟩
    · obtain ⟨q1, q2⟩ := h.don r p z
      exact ⟨q1, q2.mono g4⟩
    · rw [← e1, ← e2]; exact ⟨rfl, g2⟩
theorem apart_of {n : Nat} {A B : List Ent} {c r0 hs ts : List Rat} {p0 : List Nat} (hp : Chs A n p0) (hr0 : Rch n A B c r0) (e1 : at0 hs = act n (tk A p0) (at0 r0)) (e2 : at0 ts = act n (tk B p0) (at0 r0)) (hne : at0 hs ≠ at0 ts) : ¬ Lik n A B (at0 c) := by
  obtain ⟨w, w1, w2, w3⟩ := hr0
  intro z
  have := z (w ++ [p0]) fun p hpw => by
    rcases List.mem_append.mp hpw with y | y
    · exact w1 p y
    · rw [List.mem_singleton.mp y]; exact hp
  rw [runW_app, runW_app, ← w2, ← w3, ← e1, ← e2] at this
  exact hne this
end LP
set_option maxHeartbeats 200000
namespace LP
open PySem LW N57
theorem set_last {α : Type} {l : List α} {x y : α} : (l ++ [x]).set l.length y = l ++ [y] := by rw [List.set_append]; simp
theorem get_last {α : Type} {l : List α} {x : α} : (l ++ [x])[l.length]? = some x := by simp
def wD (w : Wt) : D := .tup [rT w.1, .lst (w.2.map plN)]
theorem okd_plN (p : List Nat) (n : Nat) : (plN p).okd (n + 1) = true := by
  unfold plN
  simp only [D.okd]
  exact okdL_map fun x _ => rfl
theorem okd_wD (w : Wt) : (wD w).okd 19 = true := by
  unfold wD
  simp only [D.okd, D.okdL]
  rw [okd_rT w.1 16, okdL_map fun x _ => okd_plN x 16]
  rfl
theorem neO_ws (ws : List Wt) : neO (.lst (ws.map wD)) (.lst []) = some (.bl (!ws.isEmpty)) := by
  unfold neO
  rw [if_pos ⟨by simp only [D.okd]; exact okdL_map fun x _ => okd_wD x, rfl⟩]
  cases ws <;> simp [D.py, D.pyL, PyData.eqv, PyData.eqvAll]
theorem meth_put {ρ : En} {ob0 ob1 : List OD} {L : Lds} {a : Nat} {fd : D} {b : Bool} (h1 : ρ.sl[3]? = some (.val (.obj ob0.length))) (h2 : ρ.sl[a]? = some (.val fd)) (h3 : ρ.ob = ob0 ++ [spO 0 L]) (h : Ph_Span_put [.obj ob0.length, fd] ⟨[], ob0 ++ [spO 0 L]⟩ = .ok (.v (.bl b)) ⟨[], ob1⟩) :
    truD (frzM (methM "Span" "put" 2 (locD 3) (consA (locD a) (nilA)) [] Ph_Span_put)) ρ = .ok b ⟨ρ.sl, ob1⟩ := by
  obtain ⟨sl, ob⟩ := ρ
  dsimp only at h1 h2 h3
  subst h3
  refine truD_bl (frzM_v ?_)
  have e : (ob0 ++ [spO 0 L])[ob0.length]? = some (.ins "Span" [("leads", .ownd 0 (ksD L))]) := get_last
  have ne : ¬ (("leads" : Str) = "put") := by decide
  have e2 : ∀ x, lkF "put" [(("leads" : Str), x)] = none := fun x => by simp [lkF, ne]
  simp [h1, h2, h]
  simp [spO, e2]
theorem Shape.chs {n : Nat} {A B : List Ent} {p : List Nat} (h : Shape A B) (hp : Chs A n p) (hA : BkOk n A) (hB : BkOk n B) : Chs B n p := by
  refine ⟨hp.1, fun i a hi => ?_⟩
  have hin : i < n := by rw [← hp.1]; exact (List.getElem?_eq_some_iff.mp hi).1
  obtain ⟨e, h1, h2, h3⟩ := ent_of (bk := A) (i := i) (by rw [hA.len]; exact hin)
  obtain ⟨e', k1, k2, k3⟩ := ent_of (bk := B) (i := i) (by rw [hB.len]; exact hin)
  have q := congrArg (fun l => l[i]?) h
  simp only [List.getElem?_map, h1, k1, Option.map_some] at q
  have q := congrArg Prod.snd (Option.some.inj q)
  have := hp.2 i a hi
  rw [h3] at this
  rw [k3]
  dsimp only at q
  omega
theorem ShT.of {n : Nat} {bk : List Ent} {p : List Nat} (h : BkOk n bk) (hp : Chs bk n p) : ShT n (tk bk p) := ⟨by rw [tk_len]; exact hp.1, tk_row h hp⟩
/-- what alike answers -/
def Ans (n : Nat) (A B : List Ent) (c : List Rat) (r : RV) : Prop := ∃ wd rest, r = .v (.tup (.str wd :: rest)) ∧ ((wd = "alike" ∧ Lik n A B (at0 c)) ∨ (wd = "apart" ∧ ¬ Lik n A B (at0 c)))

theorem alike_ok {n : Nat} {A B : List Ent} {c : List Rat} {ob0 : List OD} (hA : BkOk n A) (hB : BkOk n B) (hs : Shape A B) (hl : c.length = n) (h0 : ∀ x ∈ c, 0 ≤ x) (hz : Vz c 60) :
    ∃ r ob, Ph_alike [bkD A, bkD B, rL c] ⟨[], ob0⟩ = .ok r ⟨[], ob⟩ ∧ Ans n A B c r := by
  have big : (1000 : Nat) ≤ sizeLine := by decide
  have hn := hA.le
  unfold Ph_alike m_alike
  refine callF_whE (R := fun r _ => Ans n A B c r) ?_
  refine wh_seq (ρ1 := ⟨[.val (bkD A), .val (bkD B), .val (rL c), .un, .un, .un, .un, .un, .un, .un, .un, .un, .un], ob0⟩) (by simp [need_both_ok hA hB hs hl h0]) ?_
  refine wh_seq (ρ1 := ⟨[.val (bkD A), .val (bkD B), .val (rL c), .val (.obj ob0.length), .un, .un, .un, .un, .un, .un, .un, .un, .un], ob0 ++ [spO 0 []]⟩) (by simp [init_ok]) ?_
  refine wh_seq (ρ1 := ⟨[.val (bkD A), .val (bkD B), .val (rL c), .val (.obj ob0.length), .own [], .un, .un, .un, .un, .un, .un, .un, .un], ob0 ++ [spO 0 []]⟩) (by simp) ?_
  have l0 : LdsOk n 400 ([] : Lds) := ⟨by simp, by simp, by simp, by simp, by simp, by simp⟩
  obtain ⟨b, L0, p1, p2, p3, p4, p5⟩ := put_ok (g' := Gz 1) (ob := ob0 ++ [spO 0 []]) (i := ob0.length) (c := 0) (fd := rL c) l0 (by omega) (by simp) rfl get_last hl hz (by omega) (by decide) (by simp only [Gz]; omega)
  rw [set_last] at p1
  have start : ∃ ws, setM 5 (iteD (truD (frzM (methM "Span" "put" 2 (locD 3) (consA (locD 2) (nilA)) [] Ph_Span_put))) (lstR (consA (tupD (consA (frzM (cbM tupleF (consA (locD 2) (nilA)))) (consA (frzM (lstR (nilA))) (nilA)))) (nilA))) (lstR (nilA))) ⟨[.val (bkD A), .val (bkD B), .val (rL c), .val (.obj ob0.length), .own [], .un, .un, .un, .un, .un, .un, .un, .un], ob0 ++ [spO 0 []]⟩ = .ok .nx ⟨[.val (bkD A), .val (bkD B), .val (rL c), .val (.obj ob0.length), .own ([].map rT), .own (ws.map wD), .un, .un, .un, .un, .un, .un, .un], ob0 ++ [spO 0 L0]⟩ ∧ Srch n A B c (fun r p => r ∈ [] ∧ Chs A n p) L0 [] ws := by
    have mp := meth_put (ρ := ⟨[.val (bkD A), .val (bkD B), .val (rL c), .val (.obj ob0.length), .own [], .un, .un, .un, .un, .un, .un, .un, .un], ob0 ++ [spO 0 []]⟩) (a := 2) rfl rfl rfl p1
    cases b with
    | false =>
      have e := p4 rfl
      subst e
      refine ⟨[], ?_, ⟨l0, rfl, fun r hr => ?_, fun w hw => (nomatch hw), p3, fun v ⟨p, hp, _⟩ => (nomatch hp), fun r p z => (nomatch z.1)⟩⟩
      · refine (setM_r (r := .o []) (ρ1 := ⟨[.val (bkD A), .val (bkD B), .val (rL c), .val (.obj ob0.length), .own [], .un, .un, .un, .un, .un, .un, .un, .un], ob0 ++ [spO 0 []]⟩) ?_ (by simp)).trans (by simp <;> exact rfl)
        unfold iteD
        rw [mp, Res.bind_ok]
        simp
      · rcases hr with z | ⟨_, z⟩ <;> cases z
    | true =>
      obtain ⟨q1, q2, q3⟩ := p5 rfl
      refine ⟨[(c, [])], ?_, ⟨by rw [q1]; exact p2, q1, fun r hr => ?_, fun w hw => by rw [List.mem_singleton.mp hw]; simp, p3, fun v hv => (q3 v hv).mono fun u hu => ?_, fun r p z => (nomatch z.1)⟩⟩
      · refine (setM_r (r := .o [wD (c, [])]) (ρ1 := ⟨[.val (bkD A), .val (bkD B), .val (rL c), .val (.obj ob0.length), .own [], .un, .un, .un, .un, .un, .un, .un, .un], ob0 ++ [spO 0 L0]⟩) ?_ (by simp)).trans (by simp <;> exact rfl)
        unfold iteD
        rw [mp, Res.bind_ok]
        simp [wD, rL, rT]
      · rcases hr with z | ⟨ch, z⟩
        · cases z
        · have e : r = c := congrArg Prod.fst (List.mem_singleton.mp z)
          rw [e]
          exact ⟨hl, hz.mono (by omega), [], fun p hp => (nomatch hp), rfl, rfl⟩
      · rcases hu with ⟨p, hp, _⟩ | e
        · cases hp
        · exact ⟨c, .inr ⟨[], List.mem_singleton.mpr rfl⟩, e⟩
  obtain ⟨ws0, st1, st2⟩ := start
  refine wh_seq st1 ?_
  refine wh_while (fun m ρ => ∃ L bs ws, bs.length + m = n ∧ Srch n A B c (fun r p => r ∈ bs ∧ Chs A n p) L bs ws ∧ ρ = ⟨[.val (bkD A), .val (bkD B), .val (rL c), .val (.obj ob0.length), .own (bs.map rT), .own (ws.map wD), .un, .un, .un, .un, .un, .un, .un], ob0 ++ [spO 0 L]⟩) ?_ n _ ⟨L0, [], ws0, by simp, st2, rfl⟩
  rintro m ρ ⟨L, bs, ws, hm, hS, rfl⟩
  cases ws with
  | nil =>
    refine ⟨false, ⟨[.val (bkD A), .val (bkD B), .val (rL c), .val (.obj ob0.length), .own (bs.map rT), .own (([] : List Wt).map wD), .un, .un, .un, .un, .un, .un, .un], ob0 ++ [spO 0 L]⟩, by have nz := neO_ws []; simp only [List.map_nil, List.isEmpty_nil, Bool.not_true] at nz; simp [nz], fun _ => ?_, fun z => (nomatch z)⟩
    refine wh_seq (by simp <;> exact rfl) (wh_seq (by simp <;> exact rfl) (wh_ret (r := .v (.tup [.str "alike", .lst (bs.map rT)])) (ρ1 := ⟨[.val (bkD A), .val (bkD B), .val (rL c), .val (.obj ob0.length), .val (.lst (bs.map rT)), .un, .un, .un, .un, .un, .un, .un, .un], ob0 ++ [spO 0 L]⟩) (by simp) ?_))
    exact ⟨_, _, rfl, .inl ⟨rfl, hS.end⟩⟩
  | cons w ws =>
    have nz := neO_ws (w :: ws)
    refine ⟨true, ⟨[.val (bkD A), .val (bkD B), .val (rL c), .val (.obj ob0.length), .own (bs.map rT), .own ((w :: ws).map wD), .un, .un, .un, .un, .un, .un, .un], ob0 ++ [spO 0 L]⟩, by simp only [List.map_cons, List.isEmpty_cons, Bool.not_false] at nz; simp [nz], fun z => (nomatch z), fun _ => ?_⟩
    have hT := hS.take
    obtain ⟨lw, vw, rw0⟩ := hS.len w.1 (.inr ⟨w.2, List.mem_cons_self ..⟩)
    have cw := hS.chs w (List.mem_cons_self ..)
    have hLn := hS.lds.cnt
    have hcnt := hS.cnt
    simp only [List.length_cons] at hcnt
    have hw1 : ws.length + 1 ≤ 16384 := by omega
    have hw2 : bs.length < sizeLine := by omega
    refine wh_seq (ρ1 := ⟨[.val (bkD A), .val (bkD B), .val (rL c), .val (.obj ob0.length), .own (bs.map rT), .val (.lst ((w :: ws).map wD)), .un, .un, .un, .un, .un, .un, .un], ob0 ++ [spO 0 L]⟩) (by simp) ?_
    refine wh_seq (ρ1 := ⟨[.val (bkD A), .val (bkD B), .val (rL c), .val (.obj ob0.length), .own (bs.map rT), .own (ws.map wD), .val (rT w.1), .val (.lst (w.2.map plN)), .un, .un, .un, .un, .un], ob0 ++ [spO 0 L]⟩) (by simp [wD, hw1]) ?_
    refine wh_seq (ρ1 := ⟨[.val (bkD A), .val (bkD B), .val (rL c), .val (.obj ob0.length), .own ((bs ++ [w.1]).map rT), .own (ws.map wD), .val (rT w.1), .val (.lst (w.2.map plN)), .un, .un, .un, .un, .un], ob0 ++ [spO 0 L]⟩) (by simp [hw2]) ?_
    obtain ⟨F, f1, f2⟩ := all_plans_ok (ob := ob0 ++ [spO 0 L]) hA
    have elen : (bkD A).items = some (A.map eD) := rfl

    refine wh_for (fun j ρ' => ∃ L ws', w.2.length ≤ L.length ∧ Srch n A B c (fun r p => (r ∈ bs ∧ Chs A n p) ∨ (r = w.1 ∧ ∃ i, i < j ∧ F[i]? = some p)) L (bs ++ [w.1]) ws' ∧ ρ' = ⟨[.val (bkD A), .val (bkD B), .val (rL c), .val (.obj ob0.length), .own ((bs ++ [w.1]).map rT), .own (ws'.map wD), .val (rT w.1), .val (.lst (w.2.map plN)), .un, .un, .un, .un, .un], ob0 ++ [spO 0 L]⟩) (ds := F.map plN) (ρ1 := ⟨[.val (bkD A), .val (bkD B), .val (rL c), .val (.obj ob0.length), .own ((bs ++ [w.1]).map rT), .own (ws.map wD), .val (rT w.1), .val (.lst (w.2.map plN)), .un, .un, .un, .un, .un], ob0 ++ [spO 0 L]⟩) ?_ ⟨L, ws, cw, hT.imp fun r p z => ?_, rfl⟩ ?_ ?_
    · simp [bkD, hA.len] at f1 ⊢
      simp [f1, show ((n : Int).natAbs ≤ 10000) by omega, show (n ≤ 10000) by omega]
    · rcases z with z | ⟨_, i, hi, _⟩
      · exact z
      · omega
    · rintro j d ρ' hd ⟨L, ws', cw, hS', rfl⟩
      rw [List.getElem?_map] at hd
      obtain ⟨p, hp, rfl⟩ := Option.map_eq_some_iff.mp hd
      have hpA : Chs A n p := (f2.mem p).mp (List.mem_of_getElem? hp)
      have hpB := hs.chs hpA hA hB
      obtain ⟨lw, vw, rw0⟩ := hS'.len w.1 (.inl (List.mem_append_right _ (List.mem_singleton.mpr rfl)))
      have hLn := hS'.lds.cnt
      obtain ⟨hs_, a1, a2, a3, a4⟩ := row_by_ok (ob := ob0 ++ [spO 0 L]) (ShT.of hA hpA) hn lw vw (by omega)
      obtain ⟨ts, b1, b2, b3, b4⟩ := row_by_ok (ob := ob0 ++ [spO 0 L]) (ShT.of hB hpB) hn lw vw (by omega)
      have t1 := taken_ok (ob := ob0 ++ [spO 0 L]) hA hpA
      have t2 := taken_ok (ob := ob0 ++ [spO 0 L]) hB hpB
      have g1 : ∀ X : List (List Rat), D.lst (X.map rT) = tD X := fun _ => rfl
      refine ⟨⟨[.val (bkD A), .val (bkD B), .val (rL c), .val (.obj ob0.length), .own ((bs ++ [w.1]).map rT), .own (ws'.map wD), .val (rT w.1), .val (.lst (w.2.map plN)), .val (plN p), .un, .un, .un, .un], ob0 ++ [spO 0 L]⟩, by simp, ?_⟩
      refine wh_seq (ρ1 := ⟨[.val (bkD A), .val (bkD B), .val (rL c), .val (.obj ob0.length), .own ((bs ++ [w.1]).map rT), .own (ws'.map wD), .val (rT w.1), .val (.lst (w.2.map plN)), .val (plN p), .val (rT hs_), .val (rT ts), .un, .un], ob0 ++ [spO 0 L]⟩) (by simp [t1, t2, g1, a1, b1]) ?_
      by_cases c1 : hs_ = ts
      · subst c1
        refine wh_if_ff (ρ1 := ⟨[.val (bkD A), .val (bkD B), .val (rL c), .val (.obj ob0.length), .own ((bs ++ [w.1]).map rT), .own (ws'.map wD), .val (rT w.1), .val (.lst (w.2.map plN)), .val (plN p), .val (rT hs_), .val (rT hs_), .un, .un], ob0 ++ [spO 0 L]⟩) (by simp [neO_rT]) (wh_nop ?_)
        have hvz : Vz hs_ (60 + 41 * (L.length + 1)) := a4.mono (by omega)
        have gb := Gz_le (k := L.length) (by omega)
        have b5 : n * (Gz L.length + 1) ≤ 5 * (Gz L.length + 1) := Nat.mul_le_mul_right _ hn
        obtain ⟨b, L', p1, p2, p3, p4, p5⟩ := put_ok (g' := Gz (L.length + 1)) (m := 400) (ob := ob0 ++ [spO 0 L]) (i := ob0.length) (c := 0) (fd := rT hs_) hS'.lds (by omega) (by omega) rfl get_last a2 (hvz.mono (by omega)) (by omega) Gz_up (by simp only [Gz]; omega)
        rw [set_last] at p1
        have mp := meth_put (ρ := ⟨[.val (bkD A), .val (bkD B), .val (rL c), .val (.obj ob0.length), .own ((bs ++ [w.1]).map rT), .own (ws'.map wD), .val (rT w.1), .val (.lst (w.2.map plN)), .val (plN p), .val (rT hs_), .val (rT hs_), .un, .un], ob0 ++ [spO 0 L]⟩) (a := 9) rfl rfl rfl p1
        have dn : ∀ r q, ((r ∈ bs ∧ Chs A n q) ∨ (r = w.1 ∧ ∃ i, i < j + 1 ∧ F[i]? = some q)) → (((r ∈ bs ∧ Chs A n q) ∨ (r = w.1 ∧ ∃ i, i < j ∧ F[i]? = some q)) ∨ (r = w.1 ∧ q = p)) := fun r q z => by
          rcases z with z | ⟨z, i, hi, hq⟩
          · exact .inl (.inl z)
          · by_cases e : i = j
            · rw [e, hp] at hq
              exact .inr ⟨z, (Option.some.inj hq).symm⟩
            · exact .inl (.inr ⟨z, i, by omega, hq⟩)
        cases b with
        | false =>
          have e := p4 rfl
          subst e
          refine wh_if_ff mp (wh_nop ?_)
          exact wh_ok (fl := .nx) (by simp <;> exact rfl) ⟨_, ws', cw, (hS'.seen a3 b3 p3).imp dn, rfl⟩
        | true =>
          obtain ⟨q1, q2, q3⟩ := p5 rfl
          refine wh_if_tt mp ?_
          have hch : (p :: w.2).length ≤ L.length + 1 := by simp only [List.length_cons]; have := cw; omega
          have hadd : addL (.lst [plN p]) (.lst (w.2.map plN)) = some (.lst ((p :: w.2).map plN)) := by
            unfold addL
            dsimp only
            rw [if_pos (by simp; omega)]
            rfl
          have hcnt' := hS'.cnt
          have hw3 : ws'.length < sizeLine := by omega
          refine wh_seq (ρ1 := ⟨[.val (bkD A), .val (bkD B), .val (rL c), .val (.obj ob0.length), .own ((bs ++ [w.1]).map rT), .own ((ws' ++ [(hs_, p :: w.2)]).map wD), .val (rT w.1), .val (.lst (w.2.map plN)), .val (plN p), .val (rT hs_), .val (rT hs_), .un, .un], ob0 ++ [spO 0 L']⟩) (by simp [hadd, wD, hw3]) ?_
          exact wh_ok (fl := .nx) (by simp <;> exact rfl) ⟨L', ws' ++ [(hs_, p :: w.2)], by omega, (hS'.put hpA rw0 a3 b3 a2 hvz hch p2 p3 q1 q2 q3).imp dn, rfl⟩
      · refine wh_if_tt (ρ1 := ⟨[.val (bkD A), .val (bkD B), .val (rL c), .val (.obj ob0.length), .own ((bs ++ [w.1]).map rT), .own (ws'.map wD), .val (rT w.1), .val (.lst (w.2.map plN)), .val (plN p), .val (rT hs_), .val (rT ts), .un, .un], ob0 ++ [spO 0 L]⟩) (by simp [neO_rT, c1]) ?_
        have hdf : ∃ k, k < n ∧ at0 hs_ k ≠ at0 ts k := by
          by_cases z : ∃ k, k < n ∧ at0 hs_ k ≠ at0 ts k
          · exact z
          · refine absurd (at0_ext (by rw [a2, b2]) fun k => ?_) c1
            by_cases e : k < n
            · by_cases y : at0 hs_ k = at0 ts k
              · exact y
              · exact absurd ⟨k, e, y⟩ z
            · rw [at0_out (by omega), at0_out (by omega)]
        have comp : lcM (rng1 (consA (frzM (cbM lenF (consA (locD 9) (nilA)))) (nilA))) (setU 12) (tstD (bin2 (purO neO) (bin2 (purO ixO) (locD 9) (locD 12)) (bin2 (purO ixO) (locD 10) (locD 12)))) (locD 12) [12] ⟨[.val (bkD A), .val (bkD B), .val (rL c), .val (.obj ob0.length), .own ((bs ++ [w.1]).map rT), .own (ws'.map wD), .val (rT w.1), .val (.lst (w.2.map plN)), .val (plN p), .val (rT hs_), .val (rT ts), .un, .un], ob0 ++ [spO 0 L]⟩ = .ok (.o (((List.range' 0 n).filter fun k => !decide (at0 hs_ k = at0 ts k)).map fun k : Nat => .int (k : Nat))) ⟨[.val (bkD A), .val (bkD B), .val (rL c), .val (.obj ob0.length), .own ((bs ++ [w.1]).map rT), .own (ws'.map wD), .val (rT w.1), .val (.lst (w.2.map plN)), .val (plN p), .val (rT hs_), .val (rT ts), .un, .un], ob0 ++ [spO 0 L]⟩ := by
          refine lcM_filter (e := fun k : Nat => .int (k : Nat)) (p := fun k => !decide (at0 hs_ k = at0 ts k)) (xs := List.range' 0 n) (ρ1 := ⟨[.val (bkD A), .val (bkD B), .val (rL c), .val (.obj ob0.length), .own ((bs ++ [w.1]).map rT), .own (ws'.map wD), .val (rT w.1), .val (.lst (w.2.map plN)), .val (plN p), .val (rT hs_), .val (rT ts), .un, .un], ob0 ++ [spO 0 L]⟩) (ρk := ⟨[.val (bkD A), .val (bkD B), .val (rL c), .val (.obj ob0.length), .own ((bs ++ [w.1]).map rT), .own (ws'.map wD), .val (rT w.1), .val (.lst (w.2.map plN)), .val (plN p), .val (rT hs_), .val (rT ts), .un, .un], ob0 ++ [spO 0 L]⟩) (rng1_ok (by simp [rT, a2]) (by omega)) (by simp; omega) (by simp [En.kills]) (fun k hk => ?_) (by simp [En.back, SD.keep, bkD, rT, rL, plN])
          have hkn : k < n := by rw [List.mem_range'_1] at hk; omega
          have x1 : L2.atI (hs_.map rD) (k : Int) = some (rD (at0 hs_ k)) := atI_map (at0_get (by omega))
          have x2 : L2.atI (ts.map rD) (k : Int) = some (rD (at0 ts k)) := atI_map (at0_get (by omega))
          refine ⟨⟨[.val (bkD A), .val (bkD B), .val (rL c), .val (.obj ob0.length), .own ((bs ++ [w.1]).map rT), .own (ws'.map wD), .val (rT w.1), .val (.lst (w.2.map plN)), .val (plN p), .val (rT hs_), .val (rT ts), .un, .val (.int (k : Nat))], ob0 ++ [spO 0 L]⟩, ⟨[.val (bkD A), .val (bkD B), .val (rL c), .val (.obj ob0.length), .own ((bs ++ [w.1]).map rT), .own (ws'.map wD), .val (rT w.1), .val (.lst (w.2.map plN)), .val (plN p), .val (rT hs_), .val (rT ts), .un, .val (.int (k : Nat))], ob0 ++ [spO 0 L]⟩, by simp, by simp [rT, x1, x2, neO_rD], fun _ => by simp [En.kills], fun _ => ⟨⟨[.val (bkD A), .val (bkD B), .val (rL c), .val (.obj ob0.length), .own ((bs ++ [w.1]).map rT), .own (ws'.map wD), .val (rT w.1), .val (.lst (w.2.map plN)), .val (plN p), .val (rT hs_), .val (rT ts), .un, .val (.int (k : Nat))], ob0 ++ [spO 0 L]⟩, by simp, by simp [En.kills]⟩⟩
        obtain ⟨k, k1, k2⟩ := hdf
        obtain ⟨z, zs, hzz⟩ : ∃ z zs, ((List.range' 0 n).filter fun k => !decide (at0 hs_ k = at0 ts k)) = z :: zs := by
          cases e : ((List.range' 0 n).filter fun k => !decide (at0 hs_ k = at0 ts k)) with
          | nil =>
            have := List.filter_eq_nil_iff.mp e k (by rw [List.mem_range'_1]; omega)
            simp [k2] at this
          | cons z zs => exact ⟨z, zs, rfl⟩
        rw [hzz] at comp
        have s1 : setM 11 (valR (bin2 (purO ixO) (frzM (lcM (rng1 (consA (frzM (cbM lenF (consA (locD 9) (nilA)))) (nilA))) (setU 12) (tstD (bin2 (purO neO) (bin2 (purO ixO) (locD 9) (locD 12)) (bin2 (purO ixO) (locD 10) (locD 12)))) (locD 12) [12])) (cstD (.int 0)))) ⟨[.val (bkD A), .val (bkD B), .val (rL c), .val (.obj ob0.length), .own ((bs ++ [w.1]).map rT), .own (ws'.map wD), .val (rT w.1), .val (.lst (w.2.map plN)), .val (plN p), .val (rT hs_), .val (rT ts), .un, .un], ob0 ++ [spO 0 L]⟩ = .ok .nx ⟨[.val (bkD A), .val (bkD B), .val (rL c), .val (.obj ob0.length), .own ((bs ++ [w.1]).map rT), .own (ws'.map wD), .val (rT w.1), .val (.lst (w.2.map plN)), .val (plN p), .val (rT hs_), .val (rT ts), .val (.int (z : Nat)), .un], ob0 ++ [spO 0 L]⟩ := by
          refine (setM_v (bin2_of (frzM_o comp) rfl (z := .int (z : Nat)) (by simp [L2.atI, L2.ixN])) (by simp)).trans ?_
          simp
        refine wh_assoc (wh_seq s1 ?_)
        have hadd : addL (.lst [plN p]) (.lst (w.2.map plN)) = some (.lst ((p :: w.2).map plN)) := by
          unfold addL
          dsimp only
          rw [if_pos (by simp; omega)]
          rfl
        refine wh_seq_ret (r := .v (.tup [.str "apart", .lst ((p :: w.2).map plN), .int (z : Nat)])) (ρ1 := ⟨[.val (bkD A), .val (bkD B), .val (rL c), .val (.obj ob0.length), .own ((bs ++ [w.1]).map rT), .own (ws'.map wD), .val (rT w.1), .val (.lst (w.2.map plN)), .val (plN p), .val (rT hs_), .val (rT ts), .val (.int (z : Nat)), .un], ob0 ++ [spO 0 L]⟩) (by simp [hadd]) ?_
        refine ⟨_, _, rfl, .inr ⟨rfl, apart_of hpA rw0 a3 b3 fun e => c1 (at0_ext (by rw [a2, b2]) fun k => by rw [e])⟩⟩
    · rintro ρ' ⟨L, ws', cw, hS', rfl⟩
      have hcnt' := hS'.cnt
      have hle := hS'.lds.cnt
      simp only [List.length_append, List.length_cons, List.length_nil] at hcnt'
      refine wh_seq (by simp <;> exact rfl) (wh_ok (fl := .nx) (by simp <;> exact rfl) ?_)
      refine ⟨m - 1, by omega, L, (bs ++ [w.1]), ws', by simp; omega, hS'.imp fun r p z => ?_, by simp⟩
      obtain ⟨z1, z2⟩ := z
      rcases List.mem_append.mp z1 with y | y
      · exact .inl ⟨y, z2⟩
      · refine .inr ⟨List.mem_singleton.mp y, ?_⟩
        obtain ⟨i, hi⟩ := List.mem_iff_getElem?.mp ((f2.mem p).mpr z2)
        exact ⟨i, by rw [List.length_map]; exact (List.getElem?_eq_some_iff.mp hi).1, hi⟩
end LP
set_option maxHeartbeats 200000
namespace N60
open PySem PySem.Spec PyProof.Rows L2 LW LP N57
/-- _law_few: _law_d, _law_full, _law_k, _law_whose, _law_lines -/
noncomputable def m__law_few : M Fl := seqM (setM 1 (valR (frzM (callM 2 (consA (bin2 (purO addL) (frzM (lstR (consA (bin2 (purO addI) (cstD (.int 3)) (bin2 (purO modI) (bin2 (purO ixO) (locD 0) (cstD (.int 0))) (cstD (.int 2)))) (nilA)))) (frzM (sliceR (locD 0) (partM (cstD (.int 1))) (noPart)))) (consA (cstD (.int 5)) (nilA))) [] (Ph__law_menus))))) (retM' (cbM tupleF (consA (frzM (lcM (enumD (consA (locD 1) (nilA))) (tupU 2 (consG (setU 2) (consG (tupU 2 (consG (setU 3) (consG (setU 4) (nilG)))) (nilG)))) (yesT) (tupD (consA (locD 3) (consA (frzM (sliceR (locD 4) (noPart) (partM (bin2 (purO addI) (cstD (.int 1)) (frzM (cbM intF (consA (bin2 (purO ltI) (locD 2) (cstD (.int 3))) (nilA)))))))) (nilA)))) [2, 3, 4])) (nilA))))
noncomputable def Ph__law_few : List D → M RV := callF 5 m__law_few
/-- _law_beside: _law_d, _law_book, _law_at, _law_whose, _law_lines, _law_spot, _law_to, _law_line -/
noncomputable def m__law_beside : M Fl := seqM (setM 2 (valR (bin2 (purO modI) (bin2 (purO ixO) (locD 0) (cstD (.int 0))) (frzM (cbM lenF (consA (locD 1) (nilA))))))) (seqM (asgT (bin2 (purO ixO) (locD 1) (locD 2)) (tupU 2 (consG (setU 3) (consG (setU 4) (nilG))))) (seqM (parM 5 6 (consA (bin2 (purO modI) (bin2 (purO ixO) (locD 0) (cstD (.int 1))) (frzM (cbM lenF (consA (locD 4) (nilA))))) (consA (bin2 (purO modI) (bin2 (purO ixO) (locD 0) (cstD (.int 2))) (frzM (cbM lenF (consA (locD 1) (nilA))))) (nilA)))) (seqM (setM 7 (valR (bin2 (purO ixO) (locD 4) (locD 5)))) (seqM (setM 7 (valR (bin2 (purO addT) (bin2 (purO addT) (frzM (sliceR (locD 7) (noPart) (partM (locD 6)))) (tupD (consA (frzM (callM 1 (consA (bin2 (purO ixO) (locD 0) (cstD (.int 3))) (nilA)) [] (Ph__law_share))) (nilA)))) (frzM (sliceR (locD 7) (partM (bin2 (purO addI) (locD 6) (cstD (.int 1)))) (noPart)))))) (seqM (setM 4 (valR (bin2 (purO addT) (bin2 (purO addT) (frzM (sliceR (locD 4) (noPart) (partM (locD 5)))) (tupD (consA (locD 7) (nilA)))) (frzM (sliceR (locD 4) (partM (bin2 (purO addI) (locD 5) (cstD (.int 1)))) (noPart)))))) (retM' (valR (bin2 (purO addT) (bin2 (purO addT) (frzM (sliceR (locD 1) (noPart) (partM (locD 2)))) (tupD (consA (tupD (consA (locD 3) (consA (locD 4) (nilA)))) (nilA)))) (frzM (sliceR (locD 1) (partM (bin2 (purO addI) (locD 2) (cstD (.int 1)))) (noPart)))))))))))
noncomputable def Ph__law_beside : List D → M RV := callF 8 m__law_beside
/-- _law_filling: _law_d, _law_many, _law_found, _law_k -/
noncomputable def m__law_filling : M Fl := seqM (setM 2 (lstR (nilA))) (seqM (forM (rng1 (consA (locD 1) (nilA))) (setU 3) (seqM (exprM (mtO 2 appF (consA (frzM (callM 2 (consA (bin2 (purO ixO) (frzM (lstR (consA (cstD (.int 0)) (consA (cstD (.int 0)) (consA (cstD (.int 1)) (consA (cstD (.int 2)) (consA (cstD (.int 5)) (consA (cstD (.int 9)) (consA (cstD (.int 40)) (nilA)))))))))) (bin2 (purO modI) (bin2 (purO ixO) (locD 0) (locD 3)) (cstD (.int 7)))) (consA (bin2 (purO ixO) (frzM (lstR (consA (cstD (.int 1)) (consA (cstD (.int 1)) (consA (cstD (.int 2)) (consA (cstD (.int 3)) (consA (cstD (.int 12)) (nilA)))))))) (bin2 (purO modI) (bin2 (purO fdivI) (bin2 (purO ixO) (locD 0) (locD 3)) (cstD (.int 7))) (cstD (.int 5)))) (nilA))) [] (Ph__law_part))) (nilA)))) (killM [3]))) (seqM (killM [3]) (retM' (takeM 2))))
noncomputable def Ph__law_filling : List D → M RV := callF 4 m__law_filling
/-- _law_choices: _law_book, _law_found, _law_whose, _law_lines, _law_later, _law_way, _law_at -/
noncomputable def m__law_choices : M Fl := seqM (setM 1 (valR (frzM (lstR (consA (tupD (nilA)) (nilA)))))) (seqM (forM (itsD (locD 0)) (tupU 2 (consG (setU 2) (consG (setU 3) (nilG)))) (seqM (setM 4 (valR (frzM (lstR (nilA))))) (seqM (forM (itsD (locD 1)) (setU 5) (seqM (setM 4 (valR (bin2 (purO addL) (locD 4) (frzM (lcM (rng1 (consA (frzM (cbM lenF (consA (locD 3) (nilA)))) (nilA))) (setU 6) (yesT) (bin2 (purO addT) (locD 5) (tupD (consA (locD 6) (nilA)))) [6]))))) (killM [5]))) (seqM (killM [5]) (seqM (setM 1 (valR (locD 4))) (killM [2, 3, 4, 5])))))) (seqM (killM [2, 3, 4, 5]) (retM' (valR (locD 1)))))
noncomputable def Ph__law_choices : List D → M RV := callF 7 m__law_choices
/-- _law_by: _law_line, _law_table, _law_found, _law_to, _law_shares_now -/
noncomputable def m__law_by : M Fl := seqM (setM 2 (lstR (nilA))) (seqM (forM (rng1 (consA (frzM (cbM lenF (consA (locD 0) (nilA)))) (nilA))) (setU 3) (seqM (exprM (mtO 2 appF (consA (frzM (callM 2 (consA (locD 0) (consA (frzM (lcM (itsD (locD 1)) (setU 4) (yesT) (bin2 (purO ixO) (locD 4) (locD 3)) [4])) (nilA))) [] (Ph__law_sum))) (nilA)))) (killM [3]))) (seqM (killM [3]) (retM' (cbO 2 tupleS))))
noncomputable def Ph__law_by : List D → M RV := callF 5 m__law_by
/-- law: _law_script, _law_numbers_here, _law_first, _law_second, _law_third, _law_counts_now, _law_words, _law_by_here, _law_ways, _law_way, _law_later, _law_at, _law_this, _law_that -/
noncomputable def m_law : M Fl := seqM (setM 1 (valR (frzM (callM 2 (consA (locD 0) (consA (cstD (.int 240)) (nilA))) [] (Ph__law_numbers))))) (seqM (setM 2 (valR (iteD (tstD (bin2 (purO gtI) (bin2 (purO modI) (bin2 (purO ixO) (locD 1) (cstD (.int 62))) (cstD (.int 4))) (cstD (.int 0)))) (frzM (callM 2 (consA (locD 1) (consA (cstD (.int 3)) (nilA))) [] (Ph__law_menus))) (frzM (callM 1 (consA (frzM (sliceR (locD 1) (partM (cstD (.int 130))) (noPart))) (nilA)) [] (Ph__law_few)))))) (seqM (setM 3 (valR (bin2 (purO ixO) (frzM (lstR (consA (locD 2) (consA (frzM (callM 2 (consA (frzM (sliceR (locD 1) (partM (cstD (.int 84))) (noPart))) (consA (locD 2) (nilA))) [] (Ph__law_beside))) (nilA))))) (bin2 (purO modI) (bin2 (purO ixO) (locD 1) (cstD (.int 90))) (cstD (.int 2)))))) (seqM (setM 4 (valR (bin2 (purO ixO) (frzM (lstR (consA (locD 3) (consA (frzM (callM 2 (consA (frzM (sliceR (locD 1) (partM (cstD (.int 91))) (noPart))) (consA (locD 3) (nilA))) [] (Ph__law_beside))) (nilA))))) (bin2 (purO modI) (bin2 (purO ixO) (locD 1) (cstD (.int 97))) (cstD (.int 2)))))) (seqM (setM 5 (valR (frzM (callM 2 (consA (frzM (sliceR (locD 1) (partM (cstD (.int 101))) (noPart))) (consA (frzM (cbM lenF (consA (locD 2) (nilA)))) (nilA))) [] (Ph__law_filling))))) (seqM (setM 5 (valR (frzM (lcM (enumD (consA (locD 5) (nilA))) (tupU 2 (consG (setU 11) (consG (setU 12) (nilG)))) (yesT) (iteD (tstD (bin2 (purO eqO) (bin2 (purO modI) (bin2 (purO ixO) (locD 1) (bin2 (purO addI) (cstD (.int 98)) (locD 11))) (cstD (.int 2))) (cstD (.int 0)))) (locD 12) (tupD (consA (cstD (.int 0)) (consA (cstD (.int 1)) (nilA))))) [11, 12])))) (seqM (seqM (setM 6 (lcM (itsD (frzM (lstR (consA (tupD (consA (locD 2) (consA (locD 3) (nilA)))) (consA (tupD (consA (locD 3) (consA (locD 4) (nilA)))) (consA (tupD (consA (locD 2) (consA (locD 4) (nilA)))) (nilA))))))) (tupU 2 (consG (setU 12) (consG (setU 13) (nilG)))) (yesT) (bin2 (purO ixO) (frzM (callM 3 (consA (locD 12) (consA (locD 13) (consA (locD 5) (nilA)))) [] (Ph_alike))) (cstD (.int 0))) [12, 13])) (letM 6)) (seqM (ifM (andT (tstD (bin2 (purO eqO) (bin2 (purO ixO) (locD 6) (cstD (.int 0))) (cstD (.str "alike")))) (andT (tstD (bin2 (purO eqO) (bin2 (purO ixO) (locD 6) (cstD (.int 1))) (cstD (.str "alike")))) (tstD (bin2 (purO neO) (bin2 (purO ixO) (locD 6) (cstD (.int 2))) (cstD (.str "alike")))))) (retM' (valR (cstD (.bl false)))) (nopM)) (seqM (ifM (andT (tstD (bin2 (purO eqO) (bin2 (purO ixO) (locD 6) (cstD (.int 0))) (cstD (.str "alike")))) (andT (tstD (bin2 (purO eqO) (bin2 (purO ixO) (locD 6) (cstD (.int 1))) (cstD (.str "apart")))) (tstD (bin2 (purO neO) (bin2 (purO ixO) (locD 6) (cstD (.int 2))) (cstD (.str "apart")))))) (retM' (valR (cstD (.bl false)))) (nopM)) (seqM (ifM (orT (tstD (bin2 (purO neO) (bin2 (purO ixO) (frzM (callM 3 (consA (locD 2) (consA (locD 2) (consA (locD 5) (nilA)))) [] (Ph_alike))) (cstD (.int 0))) (cstD (.str "alike")))) (tstD (bin2 (purO neO) (bin2 (purO ixO) (frzM (callM 3 (consA (locD 3) (consA (locD 2) (consA (locD 5) (nilA)))) [] (Ph_alike))) (cstD (.int 0))) (bin2 (purO ixO) (locD 6) (cstD (.int 0)))))) (retM' (valR (cstD (.bl false)))) (nopM)) (seqM (setM 7 (valR (frzM (callM 2 (consA (bin2 (purO addI) (cstD (.int 1)) (bin2 (purO modI) (bin2 (purO ixO) (locD 1) (cstD (.int 110))) (cstD (.int 5)))) (consA (bin2 (purO addI) (cstD (.int 1)) (bin2 (purO modI) (bin2 (purO ixO) (locD 1) (cstD (.int 111))) (cstD (.int 7)))) (nilA))) [] (Ph__law_part))))) (seqM (ifM (tstD (bin2 (purO neO) (bin2 (purO ixO) (frzM (callM 3 (consA (locD 2) (consA (locD 3) (consA (frzM (lcM (itsD (locD 5)) (setU 12) (yesT) (frzM (callM 2 (consA (locD 7) (consA (locD 12) (nilA))) [] (Ph__law_times))) [12])) (nilA)))) [] (Ph_alike))) (cstD (.int 0))) (bin2 (purO ixO) (locD 6) (cstD (.int 0))))) (retM' (valR (cstD (.bl false)))) (nopM)) (seqM (setM 8 (valR (frzM (callM 1 (consA (locD 2) (nilA)) [] (Ph__law_choices))))) (seqM (setM 9 (valR (bin2 (purO ixO) (locD 8) (bin2 (purO modI) (bin2 (purO ixO) (locD 1) (cstD (.int 112))) (frzM (cbM lenF (consA (locD 8) (nilA)))))))) (seqM (setM 10 (valR (frzM (cbM listF (consA (frzM (callM 2 (consA (locD 5) (consA (frzM (lcM (rng1 (consA (frzM (cbM lenF (consA (locD 2) (nilA)))) (nilA))) (setU 11) (yesT) (bin2 (purO ixO) (bin2 (purO ixO) (bin2 (purO ixO) (locD 2) (locD 11)) (cstD (.int 1))) (bin2 (purO ixO) (locD 9) (locD 11))) [11])) (nilA))) [] (Ph__law_by))) (nilA)))))) (seqM (ifM (andT (tstD (bin2 (purO eqO) (bin2 (purO ixO) (locD 6) (cstD (.int 0))) (cstD (.str "alike")))) (tstD (bin2 (purO neO) (bin2 (purO ixO) (frzM (callM 3 (consA (locD 2) (consA (locD 3) (consA (locD 10) (nilA)))) [] (Ph_alike))) (cstD (.int 0))) (cstD (.str "alike"))))) (retM' (valR (cstD (.bl false)))) (nopM)) (retM' (valR (bin2 (purO eqO) (bin2 (purO ixO) (frzM (callM 3 (consA (locD 2) (consA (locD 3) (consA (bin2 (purO mulL) (frzM (lstR (consA (tupD (consA (cstD (.int 0)) (consA (cstD (.int 1)) (nilA)))) (nilA)))) (frzM (cbM lenF (consA (locD 2) (nilA))))) (nilA)))) [] (Ph_alike))) (cstD (.int 0))) (cstD (.str "alike"))))))))))))))))))))
noncomputable def Ph_law : List D → M RV := callF 14 m_law
end N60
set_option maxHeartbeats 200000
namespace N60
open PySem LW LP N57
theorem divInt_le {p d : Int} (hp : 0 ≤ p) (hd : 0 < d) : (Rat.divInt p d).num ≤ p ∧ ((Rat.divInt p d).den : Int) ≤ d := by
  have h0 : 0 < ((Int.gcd p d : Nat) : Int) := by
    have := Int.gcd_pos_of_ne_zero_right p (show d ≠ 0 by omega)
    omega
  constructor
  · rw [← num_pos hd]
    exact Int.ediv_le_self _ hp
  · rw [← den_pos hd]
    exact Int.ediv_le_self _ (by omega)
def S1 (q : Rat) : Prop := 0 ≤ q ∧ q.num ≤ 5 ∧ q.den ≤ 6 ∧ Sz q 3
def S2 (q : Rat) : Prop := 0 ≤ q ∧ q.num ≤ 1 ∧ q.den ≤ 3 ∧ Sz q 2
theorem S1.shr {q : Rat} (h : S1 q) : Shr q := ⟨h.1, by have := h.2.1; omega, by have := h.2.2.1; omega⟩
theorem s_mul {a b : Rat} (h : S1 a) (k : S2 b) : Shr (a * b) := by
  have a0 := Rat.num_nonneg.mpr h.1
  have b0 := Rat.num_nonneg.mpr k.1
  have m1 : a.num * b.num ≤ 5 * 1 := Int.mul_le_mul h.2.1 k.2.1 b0 (by decide)
  have m2 : (a.den : Int) * (b.den : Int) ≤ 6 * 3 := Int.mul_le_mul (by have := h.2.2.1; omega) (by have := k.2.2.1; omega) (by omega) (by decide)
  have q := divInt_le (p := a.num * b.num) (d := (a.den : Int) * (b.den : Int)) (Int.mul_nonneg a0 b0) (Int.mul_pos (den_pos' a) (den_pos' b))
  rw [times_eq] at q
  exact ⟨Rat.mul_nonneg h.1 k.1, by omega, by omega⟩
theorem share_ok (x : Int) : ∃ q, (∀ ρ : En, Ph__law_share [.int x] ρ = .ok (.v (rD q)) ⟨[], ρ.ob⟩) ∧ S1 q := by
  have r1 := fmodR (a := x) (b := 8) (by decide)
  have r2 := fmodR (a := x.fdiv 8) (b := 5) (by decide)
  obtain ⟨p, e1, p1, p2⟩ := up_list r1.1 r1.2
  obtain ⟨q, e2, q1, q2⟩ := down_list r2.1 r2.2
  have dl := divInt_le p1 q1
  refine ⟨Rat.divInt p q, fun ρ => ?_, Rat.divInt_nonneg p1 (by omega), by omega, by omega, Sz.divInt (by omega) (by omega) (by omega)⟩
  have e3 := lpart_ok (u := p) (l := q) (ρ := ⟨[], ρ.ob⟩) q1
  simp [Ph__law_share, m__law_share, e1, e2, e3]
noncomputable def shareQ (x : Int) : Rat := Classical.choose (share_ok x)
theorem shareQ_ok (x : Int) : (∀ ρ : En, Ph__law_share [.int x] ρ = .ok (.v (rD (shareQ x))) ⟨[], ρ.ob⟩) ∧ S1 (shareQ x) := Classical.choose_spec (share_ok x)
theorem by_list (x : Int) : ∃ q, L2.atI byL (x.fmod 3) = some (rD q) ∧ S2 q := by
  have r1 := fmodR (a := x) (b := 3) (by decide)
  have : x.fmod 3 = 0 ∨ x.fmod 3 = 1 ∨ x.fmod 3 = 2 := by omega
  rcases this with e | e | e
  · rw [e]; exact ⟨⟨1, 2, by decide, by decide⟩, rfl, by decide, by decide, by decide, by decide, by decide⟩
  · rw [e]; exact ⟨⟨1, 3, by decide, by decide⟩, rfl, by decide, by decide, by decide, by decide, by decide⟩
  · rw [e]; exact ⟨0, rfl, by decide, by decide, by decide, by decide, by decide⟩
noncomputable def byQ (x : Int) : Rat := Classical.choose (by_list x)
theorem byQ_ok (x : Int) : L2.atI byL (x.fmod 3) = some (rD (byQ x)) ∧ S2 (byQ x) := Classical.choose_spec (by_list x)

theorem mIn_ok {own : List Int} {n r : Nat} {thin : Int} {lines : List (List Rat)} {s0 s1 s4 s5 s9 s10 s11 s12 s13 : SD} {ob : List OD} (ho : own.length = 20) (hn : n ≤ 5) (hr : r ≤ 2) (hl : lines.length ≤ 10) :
    ∃ line t9 t10 t11 t12 t13, mIn ⟨[s0, s1, .val (.int (n : Nat)), .val (.int thin), s4, s5, .val (.lst (iL own)), .own (lines.map rT), .val (.int (r : Nat)), s9, s10, s11, s12, s13], ob⟩ = .ok .nx ⟨[s0, s1, .val (.int (n : Nat)), .val (.int thin), s4, s5, .val (.lst (iL own)), .own ((lines ++ [line]).map rT), .val (.int (r : Nat)), t9, t10, t11, t12, t13], ob⟩ ∧ RowOk n line := by
  have big : (100 : Nat) ≤ sizeLine := by decide
  have hmul := small_mul (a := 5) (b := (r : Int)) (by decide) (by omega)
  have hcut := cut_nat2 (l := own) (a := 2 + 5 * r) (b := 2 + 5 * r + n) (by omega) (by omega)
  have hlen : ((own.drop (2 + 5 * r)).take n).length = n := by rw [List.length_take, List.length_drop]; omega
  rw [show 2 + 5 * r + n - (2 + 5 * r) = n by omega] at hcut
  generalize (own.drop (2 + 5 * r)).take n = xs at hcut hlen
  have e1 : itsD (frzM (sliceR (locD 6) (partM (bin2 (purO addI) (cstD (.int 2)) (bin2 (purO mulI) (cstD (.int 5)) (locD 8)))) (partM (bin2 (purO addI) (bin2 (purO addI) (cstD (.int 2)) (bin2 (purO mulI) (cstD (.int 5)) (locD 8))) (locD 2))))) ⟨[s0, s1, .val (.int (n : Nat)), .val (.int thin), s4, s5, .val (.lst (iL own)), .own (lines.map rT), .val (.int (r : Nat)), s9, s10, s11, s12, s13], ob⟩ = .ok (xs.map D.int) ⟨[s0, s1, .val (.int (n : Nat)), .val (.int thin), s4, s5, .val (.lst (iL own)), .own (lines.map rT), .val (.int (r : Nat)), s9, s10, s11, s12, s13], ob⟩ := by
    have c1 : ((2 + 5 * r : Nat) : Int) = 2 + 5 * (r : Int) := by omega
    have c2 : ((2 + 5 * r + n : Nat) : Int) = 2 + 5 * (r : Int) + (n : Int) := by omega
    rw [c1, c2] at hcut
    simp [hmul, hcut]
    rfl
  have k1 := lcM_map (vs := [11]) (b := setU 11) (el := frzM (callM 1 (consA (locD 11) (nilA)) [] (Ph__law_share))) (f := fun x => rD (shareQ x)) (ρk := ⟨[s0, s1, .val (.int (n : Nat)), .val (.int thin), s4, s5, .val (.lst (iL own)), .own (lines.map rT), .val (.int (r : Nat)), s9, s10, .un, s12, s13], ob⟩) (ρ2 := ⟨[s0, s1, .val (.int (n : Nat)), .val (.int thin), s4, s5, .val (.lst (iL own)), .own (lines.map rT), .val (.int (r : Nat)), s9, s10, SD.keep (some s11), s12, s13], ob⟩) e1 (by omega) (by simp [En.kills]) (fun x hx => by
    refine ⟨⟨[s0, s1, .val (.int (n : Nat)), .val (.int thin), s4, s5, .val (.lst (iL own)), .own (lines.map rT), .val (.int (r : Nat)), s9, s10, .val (.int x), s12, s13], ob⟩, ⟨[s0, s1, .val (.int (n : Nat)), .val (.int thin), s4, s5, .val (.lst (iL own)), .own (lines.map rT), .val (.int (r : Nat)), s9, s10, .val (.int x), s12, s13], ob⟩, by simp, ?_, by simp [En.kills]⟩
    simp [(shareQ_ok x).1]) (by simp [En.back])
  have f1 := let_own (i := 9) k1 (by simp)
  rw [show (xs.map fun x => rD (shareQ x)) = (xs.map shareQ).map rD by rw [List.map_map]; rfl] at f1
  have hl1 : (xs.map shareQ).length = n := by rw [List.length_map]; exact hlen
  have hsz1 : ∀ x ∈ xs.map shareQ, S1 x := fun x hx => by
    obtain ⟨y, _, rfl⟩ := List.mem_map.mp hx
    exact (shareQ_ok y).2
  generalize xs.map shareQ = so at f1 hl1 hsz1
  have f1' : seqM (setM 9 (lcM (itsD (frzM (sliceR (locD 6) (partM (bin2 (purO addI) (cstD (.int 2)) (bin2 (purO mulI) (cstD (.int 5)) (locD 8)))) (partM (bin2 (purO addI) (bin2 (purO addI) (cstD (.int 2)) (bin2 (purO mulI) (cstD (.int 5)) (locD 8))) (locD 2)))))) (setU 11) (yesT) (frzM (callM 1 (consA (locD 11) (nilA)) [] (Ph__law_share))) [11])) (letM 9) ⟨[s0, s1, .val (.int (n : Nat)), .val (.int thin), s4, s5, .val (.lst (iL own)), .own (lines.map rT), .val (.int (r : Nat)), s9, s10, s11, s12, s13], ob⟩ = .ok .nx ⟨[s0, s1, .val (.int (n : Nat)), .val (.int thin), s4, s5, .val (.lst (iL own)), .own (lines.map rT), .val (.int (r : Nat)), .val (rL so), s10, SD.keep (some s11), s12, s13], ob⟩ := f1
  generalize SD.keep (some s11) = t11 at f1'
  obtain ⟨w, hw⟩ : ∃ w, own[1]? = some w := ⟨own[1], by simp [ho]⟩
  have hix := iL_get hw
  have k2 := lcM_map (m := rng1 (consA (locD 2) (nilA))) (vs := [12]) (b := setU 12) (el := bin2 (purO ixO) (frzM (lstR (consA (tupD (consA (cstD (.int 1)) (consA (cstD (.int 2)) (nilA)))) (consA (tupD (consA (cstD (.int 1)) (consA (cstD (.int 3)) (nilA)))) (consA (tupD (consA (cstD (.int 0)) (consA (cstD (.int 1)) (nilA)))) (nilA)))))) (bin2 (purO modI) (bin2 (purO addI) (bin2 (purO fdivI) (bin2 (purO ixO) (locD 6) (cstD (.int 1))) (cstD (.int 3))) (locD 12)) (cstD (.int 3)))) (e := fun i : Nat => D.int (i : Nat)) (f := fun i => rD (byQ (w.fdiv 3 + (i : Nat)))) (xs := List.range' 0 n)
    (ρ := ⟨[s0, s1, .val (.int (n : Nat)), .val (.int thin), s4, s5, .val (.lst (iL own)), .own (lines.map rT), .val (.int (r : Nat)), .val (rL so), s10, t11, s12, s13], ob⟩) (ρ1 := ⟨[s0, s1, .val (.int (n : Nat)), .val (.int thin), s4, s5, .val (.lst (iL own)), .own (lines.map rT), .val (.int (r : Nat)), .val (rL so), s10, t11, s12, s13], ob⟩) (ρk := ⟨[s0, s1, .val (.int (n : Nat)), .val (.int thin), s4, s5, .val (.lst (iL own)), .own (lines.map rT), .val (.int (r : Nat)), .val (rL so), s10, t11, .un, s13], ob⟩) (ρ2 := ⟨[s0, s1, .val (.int (n : Nat)), .val (.int thin), s4, s5, .val (.lst (iL own)), .own (lines.map rT), .val (.int (r : Nat)), .val (rL so), s10, t11, SD.keep (some s12), s13], ob⟩)
    (rng1_ok (by simp) (by omega)) (by rw [List.length_range']; omega) (by simp [En.kills]) (fun i hi => by
    refine ⟨⟨[s0, s1, .val (.int (n : Nat)), .val (.int thin), s4, s5, .val (.lst (iL own)), .own (lines.map rT), .val (.int (r : Nat)), .val (rL so), s10, t11, .val (.int (i : Nat)), s13], ob⟩, ⟨[s0, s1, .val (.int (n : Nat)), .val (.int thin), s4, s5, .val (.lst (iL own)), .own (lines.map rT), .val (.int (r : Nat)), .val (rL so), s10, t11, .val (.int (i : Nat)), s13], ob⟩, by simp, ?_, by simp [En.kills]⟩
    have hb := (byQ_ok (w.fdiv 3 + (i : Nat))).1
    have hix' : L2.atI (iL own) (1 : Int) = some (.int w) := hix
    unfold byL at hb
    simp [hix', hb]) (by simp [En.back])
  have f2 := let_own (i := 10) k2 (by simp)
  rw [show ((List.range' 0 n).map fun i => rD (byQ (w.fdiv 3 + (i : Nat)))) = ((List.range' 0 n).map fun i => byQ (w.fdiv 3 + (i : Nat))).map rD by rw [List.map_map]; rfl] at f2
  have hl2 : ((List.range' 0 n).map fun i => byQ (w.fdiv 3 + ((i : Nat) : Int))).length = n := by simp
  have hsz2 : ∀ x ∈ (List.range' 0 n).map fun i => byQ (w.fdiv 3 + ((i : Nat) : Int)), S2 x := fun x hx => by
    obtain ⟨y, _, rfl⟩ := List.mem_map.mp hx
    exact (byQ_ok _).2
  generalize ((List.range' 0 n).map fun i => byQ (w.fdiv 3 + ((i : Nat) : Int))) = bs at f2 hl2 hsz2
  have f2' : seqM (setM 10 (lcM (rng1 (consA (locD 2) (nilA))) (setU 12) (yesT) (bin2 (purO ixO) (frzM (lstR (consA (tupD (consA (cstD (.int 1)) (consA (cstD (.int 2)) (nilA)))) (consA (tupD (consA (cstD (.int 1)) (consA (cstD (.int 3)) (nilA)))) (consA (tupD (consA (cstD (.int 0)) (consA (cstD (.int 1)) (nilA)))) (nilA)))))) (bin2 (purO modI) (bin2 (purO addI) (bin2 (purO fdivI) (bin2 (purO ixO) (locD 6) (cstD (.int 1))) (cstD (.int 3))) (locD 12)) (cstD (.int 3)))) [12])) (letM 10) ⟨[s0, s1, .val (.int (n : Nat)), .val (.int thin), s4, s5, .val (.lst (iL own)), .own (lines.map rT), .val (.int (r : Nat)), .val (rL so), s10, t11, s12, s13], ob⟩ = .ok .nx ⟨[s0, s1, .val (.int (n : Nat)), .val (.int thin), s4, s5, .val (.lst (iL own)), .own (lines.map rT), .val (.int (r : Nat)), .val (rL so), .val (rL bs), t11, SD.keep (some s12), s13], ob⟩ := f2
  generalize SD.keep (some s12) = t12 at f2'
  have f3 : ∃ line t11' t13, ifM (tstD (bin2 (purO eqO) (locD 3) (cstD (.int 1)))) (seqM (setM 9 (lcM (zipD false (consA (locD 9) (consA (locD 10) (nilA)))) (tupU 2 (consG (setU 11) (consG (setU 13) (nilG)))) (yesT) (frzM (callM 2 (consA (locD 11) (consA (locD 13) (nilA))) [] (Ph__law_times))) [11, 13])) (letM 9)) (nopM) ⟨[s0, s1, .val (.int (n : Nat)), .val (.int thin), s4, s5, .val (.lst (iL own)), .own (lines.map rT), .val (.int (r : Nat)), .val (rL so), .val (rL bs), t11, t12, s13], ob⟩ = .ok .nx ⟨[s0, s1, .val (.int (n : Nat)), .val (.int thin), s4, s5, .val (.lst (iL own)), .own (lines.map rT), .val (.int (r : Nat)), .val (rL line), .val (rL bs), t11', t12, t13], ob⟩ ∧ RowOk n line := by
    by_cases c : thin = 1
    · have k3 := lcM_map (m := zipD false (consA (locD 9) (consA (locD 10) (nilA)))) (vs := [11, 13]) (b := tupU 2 (consG (setU 11) (consG (setU 13) (nilG)))) (el := frzM (callM 2 (consA (locD 11) (consA (locD 13) (nilA))) [] (Ph__law_times))) (e := fun p : Rat × Rat => .tup [rD p.1, rD p.2]) (f := fun p => rD (p.1 * p.2)) (xs := so.zip bs)
        (ρ := ⟨[s0, s1, .val (.int (n : Nat)), .val (.int thin), s4, s5, .val (.lst (iL own)), .own (lines.map rT), .val (.int (r : Nat)), .val (rL so), .val (rL bs), t11, t12, s13], ob⟩) (ρ1 := ⟨[s0, s1, .val (.int (n : Nat)), .val (.int thin), s4, s5, .val (.lst (iL own)), .own (lines.map rT), .val (.int (r : Nat)), .val (rL so), .val (rL bs), t11, t12, s13], ob⟩) (ρk := ⟨[s0, s1, .val (.int (n : Nat)), .val (.int thin), s4, s5, .val (.lst (iL own)), .own (lines.map rT), .val (.int (r : Nat)), .val (rL so), .val (rL bs), .un, t12, .un], ob⟩) (ρ2 := ⟨[s0, s1, .val (.int (n : Nat)), .val (.int thin), s4, s5, .val (.lst (iL own)), .own (lines.map rT), .val (.int (r : Nat)), .val (rL so), .val (rL bs), SD.keep (some t11), t12, SD.keep (some s13)], ob⟩)
        (by simp [zipL_map]) (by rw [List.length_zip]; omega) (by simp [En.kills]) (fun p hp => by
        have h1 := hsz1 _ (List.of_mem_zip hp).1
        have h2 := hsz2 _ (List.of_mem_zip hp).2
        refine ⟨⟨[s0, s1, .val (.int (n : Nat)), .val (.int thin), s4, s5, .val (.lst (iL own)), .own (lines.map rT), .val (.int (r : Nat)), .val (rL so), .val (rL bs), .val (rD p.1), t12, .val (rD p.2)], ob⟩, ⟨[s0, s1, .val (.int (n : Nat)), .val (.int thin), s4, s5, .val (.lst (iL own)), .own (lines.map rT), .val (.int (r : Nat)), .val (rL so), .val (rL bs), .val (rD p.1), t12, .val (rD p.2)], ob⟩, by simp, ?_, by simp [En.kills]⟩
        simp [ltimes_ok h1.2.2.2 h2.2.2.2 (by decide)]) (by simp [En.back])
      have g3 := let_own (i := 9) k3 (by simp)
      refine ⟨(so.zip bs).map (fun p => p.1 * p.2), SD.keep (some t11), SD.keep (some s13), ?_, by rw [List.length_map, List.length_zip]; omega, fun x hx => ?_⟩
      · rw [ifM_tt (ρ1 := ⟨[s0, s1, .val (.int (n : Nat)), .val (.int thin), s4, s5, .val (.lst (iL own)), .own (lines.map rT), .val (.int (r : Nat)), .val (rL so), .val (rL bs), t11, t12, s13], ob⟩) (by simp [c]), g3]
        simp [rL, List.map_map]
      · obtain ⟨p, hp, rfl⟩ := List.mem_map.mp hx
        have h1 := hsz1 _ (List.of_mem_zip hp).1
        have h2 := hsz2 _ (List.of_mem_zip hp).2
        exact s_mul h1 h2
    · exact ⟨so, t11, s13, by rw [ifM_ff (ρ1 := ⟨[s0, s1, .val (.int (n : Nat)), .val (.int thin), s4, s5, .val (.lst (iL own)), .own (lines.map rT), .val (.int (r : Nat)), .val (rL so), .val (rL bs), t11, t12, s13], ob⟩) (by simp [c])]; rfl, hl1, fun x hx => (hsz1 x hx).shr⟩
  obtain ⟨line, t11', t13, f3, hline⟩ := f3
  refine ⟨line, .val (rL line), .val (rL bs), t11', t12, t13, ?_, hline⟩
  rw [mIn, seqM_nx f1', seqM_nx f2', seqM_nx f3]
  have hlen2 : lines.length < sizeLine := by omega
  rw [List.map_append]
  simp [rT, hlen2]

theorem mOut_ok {d : List Int} {n k : Nat} {thin : Int} {bk : List Ent} {s1 s6 s7 s8 s9 s10 s11 s12 s13 : SD} {ob : List OD} (hn : n ≤ 5) (hk : k < 5) (hd : 21 + 20 * k ≤ d.length) (hb : bk.length ≤ 10) :
    ∃ e t6 t7 t8 t9 t10 t11 t12 t13, mOut ⟨[.val (.lst (iL d)), s1, .val (.int (n : Nat)), .val (.int thin), .own (bk.map eD), .val (.int (k : Nat)), s6, s7, s8, s9, s10, s11, s12, s13], ob⟩ = .ok .nx ⟨[.val (.lst (iL d)), s1, .val (.int (n : Nat)), .val (.int thin), .own ((bk ++ [e]).map eD), .val (.int (k : Nat)), t6, t7, t8, t9, t10, t11, t12, t13], ob⟩ ∧ MenOk n e := by
  have big : (100 : Nat) ≤ sizeLine := by decide
  have hmul := small_mul (a := 20) (b := (k : Int)) (by decide) (by omega)
  have hcut := cut_nat2 (l := d) (a := 1 + 20 * k) (b := 21 + 20 * k) (by omega) hd
  have hlen : ((d.drop (1 + 20 * k)).take (21 + 20 * k - (1 + 20 * k))).length = 20 := by rw [List.length_take, List.length_drop]; omega
  generalize (d.drop (1 + 20 * k)).take (21 + 20 * k - (1 + 20 * k)) = own at hcut hlen
  have c1 : ((1 + 20 * k : Nat) : Int) = 1 + 20 * (k : Int) := by omega
  have c2 : ((21 + 20 * k : Nat) : Int) = 21 + 20 * (k : Int) := by omega
  rw [c1, c2] at hcut
  have f1 : setM 6 (valR (frzM (sliceR (locD 0) (partM (bin2 (purO addI) (cstD (.int 1)) (bin2 (purO mulI) (cstD (.int 20)) (locD 5)))) (partM (bin2 (purO addI) (cstD (.int 21)) (bin2 (purO mulI) (cstD (.int 20)) (locD 5))))))) ⟨[.val (.lst (iL d)), s1, .val (.int (n : Nat)), .val (.int thin), .own (bk.map eD), .val (.int (k : Nat)), s6, s7, s8, s9, s10, s11, s12, s13], ob⟩ = .ok .nx ⟨[.val (.lst (iL d)), s1, .val (.int (n : Nat)), .val (.int thin), .own (bk.map eD), .val (.int (k : Nat)), .val (.lst (iL own)), s7, s8, s9, s10, s11, s12, s13], ob⟩ := by
    simp [hmul, hcut]
  have f2 : setM 7 (lstR (nilA)) ⟨[.val (.lst (iL d)), s1, .val (.int (n : Nat)), .val (.int thin), .own (bk.map eD), .val (.int (k : Nat)), .val (.lst (iL own)), s7, s8, s9, s10, s11, s12, s13], ob⟩ = .ok .nx ⟨[.val (.lst (iL d)), s1, .val (.int (n : Nat)), .val (.int thin), .own (bk.map eD), .val (.int (k : Nat)), .val (.lst (iL own)), .own [], s8, s9, s10, s11, s12, s13], ob⟩ := by
    simp
  obtain ⟨w, hw⟩ : ∃ w, own[1]? = some w := ⟨own[1], by simp [hlen]⟩
  obtain ⟨v, hv⟩ : ∃ v, own[0]? = some v := ⟨own[0], by simp [hlen]⟩
  have hix : L2.atI (iL own) (1 : Int) = some (.int w) := iL_get hw
  have hiv : L2.atI (iL own) (0 : Int) = some (.int v) := iL_get hv
  have rw3 := fmodR (a := w) (b := 3) (by decide)
  obtain ⟨m, hm, hm3⟩ : ∃ m : Nat, 1 + w.fmod 3 = (m : Int) ∧ 1 ≤ m ∧ m ≤ 3 := ⟨(1 + w.fmod 3).toNat, by omega, by omega, by omega⟩
  have e1 : rng1 (consA (bin2 (purO addI) (cstD (.int 1)) (bin2 (purO modI) (bin2 (purO ixO) (locD 6) (cstD (.int 1))) (cstD (.int 3)))) (nilA)) ⟨[.val (.lst (iL d)), s1, .val (.int (n : Nat)), .val (.int thin), .own (bk.map eD), .val (.int (k : Nat)), .val (.lst (iL own)), .own [], s8, s9, s10, s11, s12, s13], ob⟩ = .ok ((List.range' 0 m).map fun i => .int (i : Nat)) ⟨[.val (.lst (iL d)), s1, .val (.int (n : Nat)), .val (.int thin), .own (bk.map eD), .val (.int (k : Nat)), .val (.lst (iL own)), .own [], s8, s9, s10, s11, s12, s13], ob⟩ := rng1_ok (by simp [hix, hm]) (by omega)
  obtain ⟨ρ', g1, lines, t8, t9, t10, t11, t12, t13, g2, g3, g4⟩ := forGo_inv (b := setU 8) (body := mIn) (fun i ρ' => ∃ lines t8 t9 t10 t11 t12 t13, ρ' = ⟨[.val (.lst (iL d)), s1, .val (.int (n : Nat)), .val (.int thin), .own (bk.map eD), .val (.int (k : Nat)), .val (.lst (iL own)), .own (lines.map rT), t8, t9, t10, t11, t12, t13], ob⟩ ∧ lines.length = i ∧ ∀ l ∈ lines, RowOk n l) ((List.range' 0 m).map fun i => .int (i : Nat)) 0 ⟨[.val (.lst (iL d)), s1, .val (.int (n : Nat)), .val (.int thin), .own (bk.map eD), .val (.int (k : Nat)), .val (.lst (iL own)), .own [], s8, s9, s10, s11, s12, s13], ob⟩ ⟨[], _, _, _, _, _, _, rfl, rfl, fun l hl => by cases hl⟩ (by
    rintro j dd ρ2 hd ⟨lines, t8, t9, t10, t11, t12, t13, rfl, q1, q2⟩
    rw [Nat.zero_add] at *
    have hj : j < m := by simpa using (List.getElem?_eq_some_iff.mp hd).1
    have ed : dd = .int (j : Nat) := by
      rw [List.getElem?_map, List.getElem?_range' hj] at hd
      have := (Option.some.inj hd).symm
      rw [this]
      simp
    subst ed
    obtain ⟨line, u9, u10, u11, u12, u13, p1, p2⟩ := mIn_ok (r := j) (thin := thin) (lines := lines) (s0 := .val (.lst (iL d))) (s1 := s1) (s4 := .own (bk.map eD)) (s5 := .val (.int (k : Nat))) (s9 := t9) (s10 := t10) (s11 := t11) (s12 := t12) (s13 := t13) (ob := ob) hlen hn (by omega) (by omega)
    exact ⟨⟨[.val (.lst (iL d)), s1, .val (.int (n : Nat)), .val (.int thin), .own (bk.map eD), .val (.int (k : Nat)), .val (.lst (iL own)), .own (lines.map rT), .val (.int (j : Nat)), t9, t10, t11, t12, t13], ob⟩, _, by simp, .inl p1, lines ++ [line], _, _, _, _, _, _, rfl, by simp [q1], fun l hl => by
      rcases List.mem_append.mp hl with h | h
      · exact q2 l h
      · rw [List.mem_singleton.mp h]; exact p2⟩)
  rw [Nat.zero_add, List.length_map, List.length_range'] at g3
  obtain ⟨b, hb2⟩ := who_list v
  refine ⟨(b, lines), .val (.lst (iL own)), .own (lines.map rT), t8, t9, t10, t11, t12, t13, ?_, by show 1 ≤ lines.length; omega, by show lines.length ≤ 3; omega, g4⟩
  rw [mOut, seqM_nx f1, seqM_nx f2, seqM_nx (forM_ok e1 g1), g2]
  have hlen2 : bk.length < sizeLine := by omega
  rw [List.map_append]
  simp [hiv, hb2, eD, hlen2]
theorem menus_ok {d : List Int} {upto : Nat} {ρ : En} (h1 : 1 ≤ upto) (h2 : upto ≤ 5) (hd : 1 + 20 * upto ≤ d.length) :
    ∃ (bk : List Ent) (n : Nat), Ph__law_menus [.lst (iL d), .int (upto : Nat)] ρ = .ok (.v (.tup (bk.map eD))) ⟨[], ρ.ob⟩ ∧ bk.length = n ∧ 1 ≤ n ∧ n ≤ upto ∧ ∀ e ∈ bk, MenOk n e := by
  obtain ⟨v, hv⟩ : ∃ v, d[0]? = some v := ⟨d[0]'(by omega), by simp⟩
  have hiv : L2.atI (iL d) (0 : Int) = some (.int v) := iL_get hv
  have r1 := fmodR (a := v) (b := (upto : Int)) (by omega)
  obtain ⟨n, hn, hn1⟩ : ∃ n : Nat, 1 + v.fmod upto = (n : Int) ∧ 1 ≤ n ∧ n ≤ upto := ⟨(1 + v.fmod upto).toNat, by omega, by omega, by omega⟩
  have hu : ¬ (upto : Int) = 0 := by omega
  have hu' : ¬ upto = 0 := by omega
  have f1 : setM 2 (valR (bin2 (purO addI) (cstD (.int 1)) (bin2 (purO modI) (bin2 (purO ixO) (locD 0) (cstD (.int 0))) (locD 1)))) ⟨slots0 14 [.lst (iL d), .int (upto : Nat)], ρ.ob⟩ = .ok .nx ⟨[.val (.lst (iL d)), .val (.int (upto : Nat)), .val (.int (n : Nat)), .un, .un, .un, .un, .un, .un, .un, .un, .un, .un, .un], ρ.ob⟩ := by
    simp [hiv, hu', hn]
  have f2 : setM 3 (valR (bin2 (purO modI) (bin2 (purO fdivI) (bin2 (purO ixO) (locD 0) (cstD (.int 0))) (locD 1)) (cstD (.int 2)))) ⟨[.val (.lst (iL d)), .val (.int (upto : Nat)), .val (.int (n : Nat)), .un, .un, .un, .un, .un, .un, .un, .un, .un, .un, .un], ρ.ob⟩ = .ok .nx ⟨[.val (.lst (iL d)), .val (.int (upto : Nat)), .val (.int (n : Nat)), .val (.int ((v.fdiv upto).fmod 2)), .un, .un, .un, .un, .un, .un, .un, .un, .un, .un], ρ.ob⟩ := by
    simp [hiv, hu']
  generalize (v.fdiv upto).fmod 2 = thin at f2
  have f3 : setM 4 (lstR (nilA)) ⟨[.val (.lst (iL d)), .val (.int (upto : Nat)), .val (.int (n : Nat)), .val (.int thin), .un, .un, .un, .un, .un, .un, .un, .un, .un, .un], ρ.ob⟩ = .ok .nx ⟨[.val (.lst (iL d)), .val (.int (upto : Nat)), .val (.int (n : Nat)), .val (.int thin), .own [], .un, .un, .un, .un, .un, .un, .un, .un, .un], ρ.ob⟩ := by
    simp
  have e1 : rng1 (consA (locD 2) (nilA)) ⟨[.val (.lst (iL d)), .val (.int (upto : Nat)), .val (.int (n : Nat)), .val (.int thin), .own [], .un, .un, .un, .un, .un, .un, .un, .un, .un], ρ.ob⟩ = .ok ((List.range' 0 n).map fun i => .int (i : Nat)) ⟨[.val (.lst (iL d)), .val (.int (upto : Nat)), .val (.int (n : Nat)), .val (.int thin), .own [], .un, .un, .un, .un, .un, .un, .un, .un, .un], ρ.ob⟩ := rng1_ok (by simp) (by omega)
  obtain ⟨ρ', g1, bk, t5, t6, t7, t8, t9, t10, t11, t12, t13, g2, g3, g4⟩ := forGo_inv (b := setU 5) (body := mOut) (fun i ρ' => ∃ (bk : List Ent) (t5 t6 t7 t8 t9 t10 t11 t12 t13 : SD), ρ' = ⟨[.val (.lst (iL d)), .val (.int (upto : Nat)), .val (.int (n : Nat)), .val (.int thin), .own (bk.map eD), t5, t6, t7, t8, t9, t10, t11, t12, t13], ρ.ob⟩ ∧ bk.length = i ∧ ∀ e ∈ bk, MenOk n e) ((List.range' 0 n).map fun i => .int (i : Nat)) 0 ⟨[.val (.lst (iL d)), .val (.int (upto : Nat)), .val (.int (n : Nat)), .val (.int thin), .own [], .un, .un, .un, .un, .un, .un, .un, .un, .un], ρ.ob⟩ ⟨[], _, _, _, _, _, _, _, _, _, rfl, rfl, fun e he => by cases he⟩ (by
    rintro j dd ρ2 hd2 ⟨bk, t5, t6, t7, t8, t9, t10, t11, t12, t13, rfl, q1, q2⟩
    rw [Nat.zero_add] at *
    have hj : j < n := by simpa using (List.getElem?_eq_some_iff.mp hd2).1
    have ed : dd = .int (j : Nat) := by
      rw [List.getElem?_map, List.getElem?_range' hj] at hd2
      have := (Option.some.inj hd2).symm
      rw [this]
      simp
    subst ed
    obtain ⟨e, u6, u7, u8, u9, u10, u11, u12, u13, p1, p2⟩ := mOut_ok (d := d) (n := n) (k := j) (thin := thin) (bk := bk) (s1 := .val (.int (upto : Nat))) (s6 := t6) (s7 := t7) (s8 := t8) (s9 := t9) (s10 := t10) (s11 := t11) (s12 := t12) (s13 := t13) (ob := ρ.ob) (by omega) (by omega) (by omega) (by omega)
    exact ⟨⟨[.val (.lst (iL d)), .val (.int (upto : Nat)), .val (.int (n : Nat)), .val (.int thin), .own (bk.map eD), .val (.int (j : Nat)), t6, t7, t8, t9, t10, t11, t12, t13], ρ.ob⟩, _, by simp, .inl p1, bk ++ [e], _, _, _, _, _, _, _, _, _, rfl, by simp [q1], fun e' he => by
      rcases List.mem_append.mp he with h | h
      · exact q2 e' h
      · rw [List.mem_singleton.mp h]; exact p2⟩)
  rw [Nat.zero_add, List.length_map, List.length_range'] at g3
  refine ⟨bk, n, ?_, g3, hn1.1, hn1.2, g4⟩
  refine callF_rt (s := [.val (.lst (iL d)), .val (.int (upto : Nat)), .val (.int (n : Nat)), .val (.int thin), .own (bk.map eD), t5, t6, t7, t8, t9, t10, t11, t12, t13]) ?_
  rw [m__law_menus, seqM_nx f1, seqM_nx f2, seqM_nx f3, seqM_nx (forM_ok e1 g1), g2]
  simp

end N60
set_option maxHeartbeats 200000
namespace N60
open PySem LW LP N57
theorem cut_take {l : List D} {k : Nat} : cutD l none (some (k : Int)) = l.take k := cut_nat
theorem cut_drop {l : List D} {k : Nat} : cutD l (some (k : Int)) none = l.drop k := by
  unfold cutD
  rw [HT.sIx_none, HT.sIx_nat]
  rcases Nat.le_total k l.length with h | h
  · rw [Nat.min_eq_left h, List.take_of_length_le (by simp)]
  · rw [Nat.min_eq_right h, List.drop_eq_nil_of_le (Nat.le_refl _), List.drop_eq_nil_of_le h]
    simp
/-- an int brought down to an index -/
theorem to_ix {v : Int} {n : Nat} (hn : 0 < n) : ∃ a : Nat, v.fmod n = (a : Int) ∧ a < n := by
  have r := fmodR (a := v) (b := (n : Int)) (by omega)
  exact ⟨(v.fmod n).toNat, by omega, by omega⟩
theorem set_cut {α : Type} {l : List α} {i : Nat} {x : α} (h : i < l.length) : l.take i ++ [x] ++ l.drop (i + 1) = l.set i x := by
  rw [List.set_eq_take_append_cons_drop, if_pos h]
  simp
def fewB (bk : List Ent) : List Ent := bk.zipIdx.map fun q => (q.1.1, q.1.2.take (if q.2 < 3 then 2 else 1))
theorem fewB_ok {n : Nat} {bk : List Ent} (h : BkOk n bk) : BkOk n (fewB bk) where
  len := by simp [fewB, h.len]
  pos := h.pos
  le := h.le
  men e he := by
    obtain ⟨q, hq, rfl⟩ := List.mem_map.mp he
    have hm : q.1 ∈ bk := by
      obtain ⟨i, hi⟩ := List.mem_iff_getElem?.mp hq
      rw [List.getElem?_zipIdx] at hi
      obtain ⟨a, ha, rfl⟩ := Option.map_eq_some_iff.mp hi
      exact List.mem_of_getElem? ha
    obtain ⟨h1, h2, h3⟩ := h.men q.1 hm
    refine ⟨?_, ?_, fun l hl => h3 l (List.mem_of_mem_take hl)⟩
    · dsimp only
      rw [List.length_take]
      split <;> omega
    · dsimp only
      rw [List.length_take]
      split <;> omega
theorem few_ok {d : List Int} {ob : List OD} (hd : 101 ≤ d.length) (hd2 : d.length ≤ 1000) : ∃ bk n, Ph__law_few [.lst (iL d)] ⟨[], ob⟩ = .ok (.v (bkD bk)) ⟨[], ob⟩ ∧ BkOk n bk := by
  have big : (10000 : Nat) ≤ sizeLine := by decide
  obtain ⟨v, hv⟩ : ∃ v, d[0]? = some v := ⟨d[0]'(by omega), by simp⟩
  have hiv : L2.atI (iL d) (0 : Int) = some (.int v) := iL_get hv
  have hcut : cutD (iL d) (some 1) none = iL d.tail := by
    have := cut_drop (l := iL d) (k := 1)
    rw [show ((1 : Nat) : Int) = 1 from rfl] at this
    rw [this]
    simp [iL]
  obtain ⟨bk, n, e1, e2, e3, e4, e5⟩ := menus_ok (d := (3 + v.fmod 2) :: d.tail) (upto := 5) (ρ := ⟨[], ob⟩) (by decide) (by decide) (by simp; omega)
  have hb : BkOk n bk := ⟨e2, e3, e4, e5⟩
  refine ⟨fewB bk, n, ?_, fewB_ok hb⟩
  replace e1 : Ph__law_menus [.lst (iL ((3 + v.fmod 2) :: d.tail)), .int 5] ⟨[], ob⟩ = .ok (.v (bkD bk)) ⟨[], ob⟩ := e1
  have hadd : addL (.lst [.int (3 + v.fmod 2)]) (.lst (iL (d.tail))) = some (.lst (iL ((3 + v.fmod 2) :: d.tail))) := addL_ok (by simp [iL]; omega)
  unfold Ph__law_few m__law_few
  apply callF_wh
  refine wh_seq (ρ1 := ⟨[.val (.lst (iL d)), .val (bkD bk), .un, .un, .un], ob⟩) (by simp [hiv, hcut, hadd, e1]) ?_
  refine wh_ret (ρ1 := ⟨[.val (.lst (iL d)), .val (bkD bk), .un, .un, .un], ob⟩) (r := .v (bkD (fewB bk))) (cb1_of (l := (fewB bk).map eD) ?_ rfl) ⟨rfl, rfl⟩
  unfold fewB
  rw [List.map_map]
  refine lcM_map (e := fun q : Ent × Nat => .tup [.int (q.2 : Nat), eD q.1]) (xs := bk.zipIdx) (ρ1 := ⟨[.val (.lst (iL d)), .val (bkD bk), .un, .un, .un], ob⟩) (ρk := ⟨[.val (.lst (iL d)), .val (bkD bk), .un, .un, .un], ob⟩) (by simp [bkD, enumL_map]) (by rw [List.length_zipIdx]; omega) (by simp [En.kills]) (fun q hq => ?_) (by simp [En.back, SD.keep, bkD])
  refine ⟨⟨[.val (.lst (iL d)), .val (bkD bk), .val (.int (q.2 : Nat)), .val (.str (whoS q.1.1)), .val (.tup (q.1.2.map rT))], ob⟩, ⟨[.val (.lst (iL d)), .val (bkD bk), .val (.int (q.2 : Nat)), .val (.str (whoS q.1.1)), .val (.tup (q.1.2.map rT))], ob⟩, by simp [eD], ?_, by simp [En.kills]⟩
  have c2 : cutD (q.1.2.map rT) none (some 2) = (q.1.2.take 2).map rT := by
    have := cut_take (l := q.1.2.map rT) (k := 2)
    rw [show ((2 : Nat) : Int) = 2 from rfl] at this
    rw [this, List.map_take]
  have c1 : cutD (q.1.2.map rT) none (some 1) = (q.1.2.take 1).map rT := by
    have := cut_take (l := q.1.2.map rT) (k := 1)
    rw [show ((1 : Nat) : Int) = 1 from rfl] at this
    rw [this, List.map_take]
  by_cases c : q.2 < 3
  · have c' : (q.2 : Int) < 3 := by omega
    simp [c, c', c2, eD]
  · have c' : ¬ (q.2 : Int) < 3 := by omega
    simp [c, c', c1, eD]
theorem add_small {X Y : List D} (h : X.length + Y.length ≤ 1000) : addT (.tup X) (.tup Y) = some (.tup (X ++ Y)) := by
  have big : (1000 : Nat) ≤ sizeLine := by decide
  unfold addT
  dsimp only
  rw [if_pos (by omega)]
theorem beside_walk {dd : List Int} {v0 v1 v2 v3 : Int} {BL EL XL : List D} {wd sh : D} {a s t n m : Nat} {ob : List OD} (i0 : L2.atI (iL dd) (0 : Int) = some (.int v0)) (i1 : L2.atI (iL dd) (1 : Int) = some (.int v1)) (i2 : L2.atI (iL dd) (2 : Int) = some (.int v2)) (i3 : L2.atI (iL dd) (3 : Int) = some (.int v3))
    (hB : BL.length = n) (hE : EL.length = m) (hX : XL.length = n) (hn : n ≤ 5) (hm : m ≤ 3) (ea : v0.fmod n = (a : Int)) (es : v1.fmod m = (s : Int)) (et : v2.fmod n = (t : Int)) (ha : a < n) (hs : s < m) (ht : t < n) (g1 : BL[a]? = some (.tup [wd, .tup EL])) (g2 : EL[s]? = some (.tup XL)) (hsh : ∀ ob, Ph__law_share [.int v3] ⟨[], ob⟩ = .ok (.v sh) ⟨[], ob⟩) :
    Ph__law_beside [.lst (iL dd), .tup BL] ⟨[], ob⟩ = .ok (.v (.tup (BL.set a (.tup [wd, .tup (EL.set s (.tup (XL.set t sh)))])))) ⟨[], ob⟩ := by
  have z1 : (n : Int) ≠ 0 := by omega
  have z2 : (m : Int) ≠ 0 := by omega
  have y1 : n ≠ 0 := by omega
  have y2 : m ≠ 0 := by omega
  have x1 : L2.atI BL (a : Int) = some (.tup [wd, .tup EL]) := L2.atI_nat g1
  have x2 : L2.atI EL (s : Int) = some (.tup XL) := L2.atI_nat g2
  have p1 : cutD XL none (some (t : Int)) = XL.take t := cut_take
  have p2 : cutD XL (some ((t : Int) + 1)) none = XL.drop (t + 1) := by rw [show ((t : Int) + 1) = ((t + 1 : Nat) : Int) by omega, cut_drop]
  have p3 : cutD EL none (some (s : Int)) = EL.take s := cut_take
  have p4 : cutD EL (some ((s : Int) + 1)) none = EL.drop (s + 1) := by rw [show ((s : Int) + 1) = ((s + 1 : Nat) : Int) by omega, cut_drop]
  have p5 : cutD BL none (some (a : Int)) = BL.take a := cut_take
  have p6 : cutD BL (some ((a : Int) + 1)) none = BL.drop (a + 1) := by rw [show ((a : Int) + 1) = ((a + 1 : Nat) : Int) by omega, cut_drop]
  have set3 : ∀ (X : List D) (i : Nat) (x : D), i < X.length → X.length ≤ 500 → addT (.tup (X.take i)) (.tup [x]) = some (.tup (X.take i ++ [x])) ∧ addT (.tup (X.take i ++ [x])) (.tup (X.drop (i + 1))) = some (.tup (X.set i x)) := fun X i x hi hX => by
    refine ⟨add_small (by simp; omega), ?_⟩
    rw [add_small (by simp; omega), ← set_cut hi]
  obtain ⟨q1, q2⟩ := set3 XL t sh (by omega) (by omega)
  obtain ⟨q3, q4⟩ := set3 EL s (.tup (XL.set t sh)) (by omega) (by omega)
  obtain ⟨q5, q6⟩ := set3 BL a (.tup [wd, .tup (EL.set s (.tup (XL.set t sh)))]) (by omega) (by omega)
  unfold Ph__law_beside m__law_beside
  apply callF_wh
  refine wh_seq (ρ1 := ⟨[.val (.lst (iL dd)), .val (.tup BL), .val (.int (a : Nat)), .un, .un, .un, .un, .un], ob⟩) (by simp [i0, hB, y1, ea]) ?_
  refine wh_seq (ρ1 := ⟨[.val (.lst (iL dd)), .val (.tup BL), .val (.int (a : Nat)), .val wd, .val (.tup EL), .un, .un, .un], ob⟩) (by simp [x1]) ?_
  refine wh_seq (ρ1 := ⟨[.val (.lst (iL dd)), .val (.tup BL), .val (.int (a : Nat)), .val wd, .val (.tup EL), .val (.int (s : Nat)), .val (.int (t : Nat)), .un], ob⟩) (by simp [i1, i2, hB, hE, y1, y2, es, et]) ?_
  refine wh_seq (ρ1 := ⟨[.val (.lst (iL dd)), .val (.tup BL), .val (.int (a : Nat)), .val wd, .val (.tup EL), .val (.int (s : Nat)), .val (.int (t : Nat)), .val (.tup XL)], ob⟩) (by simp [x2]) ?_
  refine wh_seq (ρ1 := ⟨[.val (.lst (iL dd)), .val (.tup BL), .val (.int (a : Nat)), .val wd, .val (.tup EL), .val (.int (s : Nat)), .val (.int (t : Nat)), .val (.tup (XL.set t sh))], ob⟩) (by simp [i3, hsh, p1, p2, q1, q2]) ?_
  refine wh_seq (ρ1 := ⟨[.val (.lst (iL dd)), .val (.tup BL), .val (.int (a : Nat)), .val wd, .val (.tup (EL.set s (.tup (XL.set t sh)))), .val (.int (s : Nat)), .val (.int (t : Nat)), .val (.tup (XL.set t sh))], ob⟩) (by simp [p3, p4, q3, q4]) ?_
  exact wh_ret (ρ1 := ⟨[.val (.lst (iL dd)), .val (.tup BL), .val (.int (a : Nat)), .val wd, .val (.tup (EL.set s (.tup (XL.set t sh)))), .val (.int (s : Nat)), .val (.int (t : Nat)), .val (.tup (XL.set t sh))], ob⟩) (by simp [p5, p6, q5, q6]) ⟨rfl, rfl⟩
theorem beside_ok {n : Nat} {d : List Int} {bk : List Ent} (h : BkOk n bk) (hd : 4 ≤ d.length) : ∃ bk', (∀ ob, Ph__law_beside [.lst (iL d), bkD bk] ⟨[], ob⟩ = .ok (.v (bkD bk')) ⟨[], ob⟩) ∧ BkOk n bk' ∧ Shape bk bk' := by
  have hn := h.le
  have hl := h.len
  obtain ⟨v0, v1, v2, v3, r, rfl⟩ : ∃ v0 v1 v2 v3 r, d = v0 :: v1 :: v2 :: v3 :: r := by
    match d, hd with
    | a :: b :: c :: e :: r, _ => exact ⟨a, b, c, e, r, rfl⟩
  obtain ⟨a, ea, ha⟩ := to_ix (v := v0) (n := n) h.pos
  have hab : a < bk.length := by omega
  obtain ⟨e, g1, g2, g3⟩ := ent_of hab
  obtain ⟨m1, m2, m3⟩ := h.men e g2
  obtain ⟨s, es, hs⟩ := to_ix (v := v1) (n := e.2.length) m1
  obtain ⟨t, et, ht⟩ := to_ix (v := v2) (n := n) h.pos
  obtain ⟨l, gl⟩ : ∃ l, e.2[s]? = some l := ⟨_, List.getElem?_eq_getElem hs⟩
  have lok := m3 l (List.mem_of_getElem? gl)
  have sok := shareQ_ok v3
  have rok : RowOk n (l.set t (shareQ v3)) := ⟨by rw [List.length_set]; exact lok.1, fun x hx => by
    rcases List.mem_or_eq_of_mem_set hx with z | z
    · exact lok.2 x z
    · rw [z]; exact sok.2.shr⟩
  refine ⟨bk.set a (e.1, e.2.set s (l.set t (shareQ v3))), fun ob => ?_, ⟨by rw [List.length_set]; exact hl, h.pos, h.le, fun x hx => ?_⟩, ?_⟩
  · have k := beside_walk (ob := ob) (dd := v0 :: v1 :: v2 :: v3 :: r) (BL := bk.map eD) (EL := e.2.map rT) (XL := l.map rD) (wd := .str (whoS e.1)) (sh := rD (shareQ v3)) (iL_get (i := 0) rfl) (iL_get (i := 1) rfl) (iL_get (i := 2) rfl) (iL_get (i := 3) rfl) (by rw [List.length_map]; exact hl) (List.length_map ..) (by rw [List.length_map]; exact lok.1) hn m2 ea es et ha hs ht (by rw [List.getElem?_map, g1]; rfl) (by rw [List.getElem?_map, gl]; rfl) (fun ob => sok.1 ⟨[], ob⟩)
    unfold bkD
    rw [k, List.map_set]
    have er : rT (l.set t (shareQ v3)) = .tup ((l.map rD).set t (rD (shareQ v3))) := by unfold rT; rw [List.map_set]
    have ee : eD (e.1, e.2.set s (l.set t (shareQ v3))) = .tup [.str (whoS e.1), .tup ((e.2.map rT).set s (rT (l.set t (shareQ v3))))] := by unfold eD; rw [List.map_set]
    rw [ee, er]
  · rcases List.mem_or_eq_of_mem_set hx with z | z
    · exact h.men x z
    · rw [z]
      refine ⟨by simpa using m1, by simpa using m2, fun y hy => ?_⟩
      rcases List.mem_or_eq_of_mem_set hy with w | w
      · exact m3 y w
      · rw [w]; exact rok
  · unfold Shape
    rw [List.map_set]
    refine List.ext_getElem? fun i => ?_
    rw [List.getElem?_set]
    split
    · rename_i hi
      subst hi
      rw [if_pos (by rw [List.length_map]; exact hab), List.getElem?_map, g1]
      simp
    · rfl
end N60
set_option maxHeartbeats 200000
namespace N60
open PySem LW LP N57
/-- twelfths, not many -/
def F12 (x : Rat) : Prop := 0 ≤ x ∧ ∃ a : Int, a.natAbs ≤ 480 ∧ x * ((12 : Nat) : Rat) = (a : Rat)
theorem ups_list {k : Int} (h1 : 0 ≤ k) (h2 : k < 7) : ∃ p, L2.atI [D.int 0, D.int 0, D.int 1, D.int 2, D.int 5, D.int 9, D.int 40] k = some (.int p) ∧ 0 ≤ p ∧ p ≤ 40 := by
  have : k = 0 ∨ k = 1 ∨ k = 2 ∨ k = 3 ∨ k = 4 ∨ k = 5 ∨ k = 6 := by omega
  rcases this with e | e | e | e | e | e | e <;> (subst e; exact ⟨_, rfl, by decide, by decide⟩)
theorem downs_list {k : Int} (h1 : 0 ≤ k) (h2 : k < 5) : ∃ p, L2.atI [D.int 1, D.int 1, D.int 2, D.int 3, D.int 12] k = some (.int p) ∧ 0 < p ∧ ∃ m : Int, p * m = 12 ∧ 0 < m ∧ m ≤ 12 := by
  have : k = 0 ∨ k = 1 ∨ k = 2 ∨ k = 3 ∨ k = 4 := by omega
  rcases this with e | e | e | e | e <;> subst e
  · exact ⟨_, rfl, by decide, 12, by decide, by decide, by decide⟩
  · exact ⟨_, rfl, by decide, 12, by decide, by decide, by decide⟩
  · exact ⟨_, rfl, by decide, 6, by decide, by decide, by decide⟩
  · exact ⟨_, rfl, by decide, 4, by decide, by decide, by decide⟩
  · exact ⟨_, rfl, by decide, 1, by decide, by decide, by decide⟩
theorem f12_of {u l m : Int} (hu : 0 ≤ u) (hu2 : u ≤ 40) (hl : 0 < l) (hm : l * m = 12) (hm0 : 0 < m) (hm2 : m ≤ 12) : F12 (Rat.divInt u l) := by
  refine ⟨Rat.divInt_nonneg hu (by omega), u * m, ?_, ?_⟩
  · have h1 : 0 ≤ u * m := Int.mul_nonneg hu (by omega)
    have h2 : u * m ≤ 40 * 12 := Int.mul_le_mul hu2 hm2 (by omega) (by decide)
    omega
  · have e1 : ((12 : Nat) : Rat) = (l : Rat) * (m : Rat) := by
      have : ((l * m : Int) : Rat) = (l : Rat) * (m : Rat) := by push_cast; rfl
      rw [← this, hm]
      rfl
    have hl' : (l : Rat) ≠ 0 := by
      have : (0 : Rat) < (l : Rat) := Rat.intCast_pos.mpr hl
      grind
    have e2 : ((u * m : Int) : Rat) = (u : Rat) * (m : Rat) := by push_cast; rfl
    rw [e1, e2, Rat.divInt_eq_div, ← Rat.mul_assoc, Rat.div_mul_cancel hl']
theorem f12_zero : F12 0 := ⟨by decide, 0, by decide, by simp⟩
theorem f12_vz {c : List Rat} (h : ∀ x ∈ c, F12 x) : Vz c 9 := ⟨12, by decide, by decide, fun x hx => by
  obtain ⟨a, h1, h2⟩ := (h x hx).2
  exact ⟨a, by omega, h2⟩⟩
theorem filling_ok {d : List Int} {n : Nat} {ob : List OD} (hd : n ≤ d.length) (hn : n ≤ 5) : ∃ c : List Rat, Ph__law_filling [.lst (iL d), .int (n : Nat)] ⟨[], ob⟩ = .ok (.o (c.map rD)) ⟨[], ob⟩ ∧ c.length = n ∧ ∀ x ∈ c, F12 x := by
  have big : (10000 : Nat) ≤ sizeLine := by decide
  have key : ∃ r ob', Ph__law_filling [.lst (iL d), .int (n : Nat)] ⟨[], ob⟩ = .ok r ⟨[], ob'⟩ ∧ ∃ c : List Rat, r = .o (c.map rD) ∧ ob' = ob ∧ c.length = n ∧ ∀ x ∈ c, F12 x := by
    unfold Ph__law_filling m__law_filling
    refine callF_whE (R := fun r ob' => ∃ c : List Rat, r = .o (c.map rD) ∧ ob' = ob ∧ c.length = n ∧ ∀ x ∈ c, F12 x) ?_
    refine wh_seq (ρ1 := ⟨[.val (.lst (iL d)), .val (.int (n : Nat)), .own [], .un], ob⟩) (by simp) ?_
    refine wh_for (fun j ρ' => ∃ c : List Rat, ρ' = ⟨[.val (.lst (iL d)), .val (.int (n : Nat)), .own (c.map rD), .un], ob⟩ ∧ c.length = j ∧ ∀ x ∈ c, F12 x) (ds := (List.range' 0 n).map fun i => .int (i : Nat)) (ρ1 := ⟨[.val (.lst (iL d)), .val (.int (n : Nat)), .own [], .un], ob⟩) (rng1_ok (by simp) (by omega)) ⟨[], rfl, rfl, fun x hx => nomatch hx⟩ ?_ ?_
    · rintro j dd ρ' hd2 ⟨c, rfl, hc1, hc2⟩
      rw [List.getElem?_map] at hd2
      obtain ⟨x, hx, rfl⟩ := Option.map_eq_some_iff.mp hd2
      obtain ⟨rfl, hj⟩ := rangeD hx
      obtain ⟨v, hv⟩ : ∃ v, d[x]? = some v := ⟨d[x]'(by omega), by simp⟩
      have iv : L2.atI (iL d) (x : Int) = some (.int v) := iL_get hv
      have r1 := fmodR (a := v) (b := 7) (by decide)
      have r2 := fmodR (a := v.fdiv 7) (b := 5) (by decide)
      obtain ⟨p, e1, p1, p2⟩ := ups_list r1.1 r1.2
      obtain ⟨q, e2, q1, m, m1, m2, m3⟩ := downs_list r2.1 r2.2
      have e3 := lpart_ok (u := p) (l := q) (ρ := ⟨[], ob⟩) q1
      have hl : c.length < sizeLine := by omega
      refine ⟨⟨[.val (.lst (iL d)), .val (.int (n : Nat)), .own (c.map rD), .val (.int (x : Nat))], ob⟩, by simp, ?_⟩
      refine wh_seq (ρ1 := ⟨[.val (.lst (iL d)), .val (.int (n : Nat)), .own ((c ++ [Rat.divInt p q]).map rD), .val (.int (x : Nat))], ob⟩) (by simp [iv, e1, e2, e3, hl]) (wh_ok (fl := .nx) (by simp <;> exact rfl) ⟨c ++ [Rat.divInt p q], by simp, by simp [hc1], fun y hy => ?_⟩)
      rcases List.mem_append.mp hy with z | z
      · exact hc2 y z
      · rw [List.mem_singleton.mp z]; exact f12_of p1 p2 q1 m1 m2 m3
    · rintro ρ' ⟨c, rfl, hc1, hc2⟩
      rw [List.length_map, List.length_range'] at hc1
      exact wh_seq (by simp <;> exact rfl) (wh_ret (r := .o (c.map rD)) (ρ1 := ⟨[.val (.lst (iL d)), .val (.int (n : Nat)), .un, .un], ob⟩) (by simp) ⟨c, rfl, rfl, hc1, hc2⟩)
  obtain ⟨r, ob', h1, c, rfl, rfl, h2, h3⟩ := key
  exact ⟨c, h1, h2, h3⟩
theorem foldl_app {α β : Type} (g : α → List β) : ∀ (xs : List α) (acc : List β), xs.foldl (fun s x => s ++ g x) acc = acc ++ xs.flatMap g
  | [], acc => by simp
  | x :: xs, acc => by rw [List.foldl_cons, foldl_app g xs, List.flatMap_cons, List.append_assoc]
theorem choices_ok {n : Nat} {bk : List Ent} {ob : List OD} (h : BkOk n bk) : ∃ F, Ph__law_choices [bkD bk] ⟨[], ob⟩ = .ok (.v (.lst (F.map plN))) ⟨[], ob⟩ ∧ PlIn n bk n F := by
  have big : (100000 : Nat) ≤ sizeLine := by decide
  have hn := h.le
  have start : PlIn n bk 0 [[]] := ⟨fun p => by
    constructor
    · intro z
      rw [List.mem_singleton.mp z]
      exact ⟨rfl, fun i a z => by simp at z⟩
    · rintro ⟨h1, _⟩
      rw [List.length_eq_zero_iff.mp h1]
      exact List.mem_singleton.mpr rfl, by simp⟩
  have key : ∃ r ob', Ph__law_choices [bkD bk] ⟨[], ob⟩ = .ok r ⟨[], ob'⟩ ∧ ∃ F, r = .v (.lst (F.map plN)) ∧ ob' = ob ∧ PlIn n bk n F := by
    unfold Ph__law_choices m__law_choices
    refine callF_whE (R := fun r ob' => ∃ F, r = .v (.lst (F.map plN)) ∧ ob' = ob ∧ PlIn n bk n F) ?_
    refine wh_seq (ρ1 := ⟨[.val (bkD bk), .val (.lst ([[]].map plN)), .un, .un, .un, .un, .un], ob⟩) (by simp [plN]) ?_
    refine wh_for (fun j ρ' => ∃ F, ρ' = ⟨[.val (bkD bk), .val (.lst (F.map plN)), .un, .un, .un, .un, .un], ob⟩ ∧ PlIn n bk j F) (ds := bk.map eD) (ρ1 := ⟨[.val (bkD bk), .val (.lst ([[]].map plN)), .un, .un, .un, .un, .un], ob⟩) (by simp [bkD]) ⟨_, rfl, start⟩ ?_ ?_
    · rintro j dd ρ' hd2 ⟨F, rfl, hF⟩
      rw [List.getElem?_map] at hd2
      obtain ⟨e, he, rfl⟩ := Option.map_eq_some_iff.mp hd2
      have hj : j < n := by rw [← h.len]; exact (List.getElem?_eq_some_iff.mp he).1
      obtain ⟨e', k1, k2, k3⟩ := ent_of (bk := bk) (i := j) (by rw [h.len]; exact hj)
      have ee : e' = e := by rw [k1] at he; exact Option.some.inj he
      subst ee
      have hS := hF.step h hj
      have hst := hS.cnt
      have hp3 : 3 ^ (j + 1) ≤ 243 := by
        have : 3 ^ (j + 1) ≤ 3 ^ 5 := Nat.pow_le_pow_right (by decide) (by omega)
        simpa using this
      have hlt := (h.men e' k2).2.1
      have pl : ∀ p ∈ F, p.length = j := fun p hp => ((hF.mem p).mp hp).1
      have cntF : F.length ≤ 243 := by
        have : 3 ^ j ≤ 3 ^ 5 := Nat.pow_le_pow_right (by decide) (by omega)
        have := hF.cnt
        omega
      refine ⟨⟨[.val (bkD bk), .val (.lst (F.map plN)), .val (.str (whoS e'.1)), .val (.tup (e'.2.map rT)), .un, .un, .un], ob⟩, by simp [eD], ?_⟩
      refine wh_seq (ρ1 := ⟨[.val (bkD bk), .val (.lst (F.map plN)), .val (.str (whoS e'.1)), .val (.tup (e'.2.map rT)), .val (.lst (([] : List (List Nat)).map plN)), .un, .un], ob⟩) (by simp) ?_
      refine wh_foldP plN F (fun G => ⟨[.val (bkD bk), .val (.lst (F.map plN)), .val (.str (whoS e'.1)), .val (.tup (e'.2.map rT)), .val (.lst (G.map plN)), .un, .un], ob⟩) (fun G p => G ++ (List.range' 0 e'.2.length).map fun a => p ++ [a]) [] (fun i G => G.length ≤ 3 * i) (by simp) (by simp) (fun i G p hp hG => ?_) (fun _ => ?_)
      · have hi : i < F.length := (List.getElem?_eq_some_iff.mp hp).1
        refine ⟨by simp; omega, ⟨[.val (bkD bk), .val (.lst (F.map plN)), .val (.str (whoS e'.1)), .val (.tup (e'.2.map rT)), .val (.lst (G.map plN)), .val (plN p), .un], ob⟩, by simp, ?_⟩
        have plp := pl p (List.mem_of_getElem? hp)
        have comp : lcM (rng1 (consA (frzM (cbM lenF (consA (locD 3) (nilA)))) (nilA))) (setU 6) (yesT) (bin2 (purO addT) (locD 5) (tupD (consA (locD 6) (nilA)))) [6] ⟨[.val (bkD bk), .val (.lst (F.map plN)), .val (.str (whoS e'.1)), .val (.tup (e'.2.map rT)), .val (.lst (G.map plN)), .val (plN p), .un], ob⟩ = .ok (.o (((List.range' 0 e'.2.length).map fun a => p ++ [a]).map plN)) ⟨[.val (bkD bk), .val (.lst (F.map plN)), .val (.str (whoS e'.1)), .val (.tup (e'.2.map rT)), .val (.lst (G.map plN)), .val (plN p), .un], ob⟩ := by
          rw [List.map_map]
          refine lcM_map (e := fun a : Nat => .int (a : Nat)) (xs := List.range' 0 e'.2.length) (ρ1 := ⟨[.val (bkD bk), .val (.lst (F.map plN)), .val (.str (whoS e'.1)), .val (.tup (e'.2.map rT)), .val (.lst (G.map plN)), .val (plN p), .un], ob⟩) (ρk := ⟨[.val (bkD bk), .val (.lst (F.map plN)), .val (.str (whoS e'.1)), .val (.tup (e'.2.map rT)), .val (.lst (G.map plN)), .val (plN p), .un], ob⟩) (rng1_ok (by simp) (by omega)) (by simp; omega) (by simp [En.kills]) (fun a ha => ?_) (by simp [En.back, SD.keep, bkD, plN])
          refine ⟨⟨[.val (bkD bk), .val (.lst (F.map plN)), .val (.str (whoS e'.1)), .val (.tup (e'.2.map rT)), .val (.lst (G.map plN)), .val (plN p), .val (.int (a : Nat))], ob⟩, ⟨[.val (bkD bk), .val (.lst (F.map plN)), .val (.str (whoS e'.1)), .val (.tup (e'.2.map rT)), .val (.lst (G.map plN)), .val (plN p), .val (.int (a : Nat))], ob⟩, by simp, ?_, by simp [En.kills]⟩
          have z2 : addT (plN p) (.tup [.int (a : Nat)]) = some (plN (p ++ [a])) := by
            unfold plN
            rw [add_small (by simp; omega), List.map_append]
            rfl
          simp [z2]
        have z3 : addL (.lst (G.map plN)) (.lst (((List.range' 0 e'.2.length).map fun a => p ++ [a]).map plN)) = some (.lst ((G ++ (List.range' 0 e'.2.length).map fun a => p ++ [a]).map plN)) := by
          rw [addL_ok (by simp; omega), List.map_append]
        refine wh_seq (ρ1 := ⟨[.val (bkD bk), .val (.lst (F.map plN)), .val (.str (whoS e'.1)), .val (.tup (e'.2.map rT)), .val (.lst ((G ++ (List.range' 0 e'.2.length).map fun a => p ++ [a]).map plN)), .val (plN p), .un], ob⟩) ((setM_v (bin2_of (x := .lst (G.map plN)) (by simp) (frzM_o comp) z3) (by simp)).trans (by simp)) ?_
        exact wh_ok (fl := .nx) (by simp <;> exact rfl) ⟨.inl rfl, by simp⟩
      · have ef : F.foldl (fun G p => G ++ (List.range' 0 e'.2.length).map fun a => p ++ [a]) [] = stepPl bk F j := by
          rw [foldl_app, stepPl, k3]
          rfl
        rw [ef]
        refine wh_seq (by simp <;> exact rfl) (wh_seq (ρ1 := ⟨[.val (bkD bk), .val (.lst ((stepPl bk F j).map plN)), .val (.str (whoS e'.1)), .val (.tup (e'.2.map rT)), .val (.lst ((stepPl bk F j).map plN)), .un, .un], ob⟩) (by simp) (wh_ok (fl := .nx) (by simp <;> exact rfl) ⟨_, rfl, hS⟩))
    · rintro ρ' ⟨F, rfl, hF⟩
      rw [List.length_map, h.len] at hF
      exact wh_seq (by simp <;> exact rfl) (wh_ret (r := .v (.lst (F.map plN))) (ρ1 := ⟨[.val (bkD bk), .val (.lst (F.map plN)), .un, .un, .un, .un, .un], ob⟩) (by simp) ⟨F, rfl, rfl, hF⟩)
  obtain ⟨r, ob', h1, F, rfl, rfl, h2⟩ := key
  exact ⟨F, h1, h2⟩
end N60
set_option maxHeartbeats 200000
namespace N60
open PySem LW LP N57
theorem lsum_ok {da db : D} {a b : List Rat} {A B : Nat} {ρ : En} (hda : da.items = some (a.map rD)) (hdb : db.items = some (b.map rD)) (h : a.length = b.length) (ha : SzL a A) (hb : SzL b B) (hs : (a.length + 1) * (A + B + 1) + 1 ≤ 67108864) :
    Ph__law_sum [da, db] ρ = .ok (.v (rD (dot a.length a b))) ⟨[], ρ.ob⟩ := by
  have f1 : setM 2 (valR (tupD (consA (cstD (.int 0)) (consA (cstD (.int 1)) (nilA))))) ⟨slots0 5 [da, db], ρ.ob⟩ = .ok .nx ⟨[.val da, .val db, .val (rD 0), .un, .un], ρ.ob⟩ := by
    simp [rD0]
  have e1 : zipD false (consA (locD 0) (consA (locD 1) (nilA))) ⟨[.val da, .val db, .val (rD 0), .un, .un], ρ.ob⟩ = .ok ((a.zip b).map fun p => .tup [rD p.1, rD p.2]) ⟨[.val da, .val db, .val (rD 0), .un, .un], ρ.ob⟩ := by
    simp [hda, hdb, zipL_map]
  obtain ⟨ρ', h1, s3, s4, h2⟩ := forGo_inv (b := tupU 2 (consG (setU 3) (consG (setU 4) (nilG)))) (body := setM 2 (valR (frzM (callM 2 (consA (locD 2) (consA (frzM (callM 2 (consA (locD 3) (consA (locD 4) (nilA))) [] (Ph__law_times))) (nilA))) [] (Ph__law_plus)))))
    (fun i ρ' => ∃ s3 s4, ρ' = ⟨[.val da, .val db, .val (rD (dot i a b)), s3, s4], ρ.ob⟩) ((a.zip b).map fun p => .tup [rD p.1, rD p.2]) 0 ⟨[.val da, .val db, .val (rD 0), .un, .un], ρ.ob⟩ ⟨_, _, rfl⟩ (by
      rintro j d ρ2 hd ⟨s3, s4, rfl⟩
      rw [Nat.zero_add] at *
      have hj : j < a.length := by
        have := (List.getElem?_eq_some_iff.mp hd).1
        simp [h] at this
        omega
      have ed : d = .tup [rD (at0 a j), rD (at0 b j)] := by
        have : (a.zip b)[j]? = some (at0 a j, at0 b j) := by
          rw [List.getElem?_zip_eq_some]
          exact ⟨at0_get hj, at0_get (by omega)⟩
        rw [List.getElem?_map, this] at hd
        exact (Option.some.inj hd).symm
      subst ed
      have sa := ha _ (at0_mem hj)
      have sb := hb _ (at0_mem (l := b) (i := j) (by omega))
      have sd := Sz.dot (n := j) ha hb (by omega) (by omega)
      have bnd : j * (A + B + 1) + 1 + (A + B) ≤ 67108864 := by
        have : (j + 1) * (A + B + 1) ≤ (a.length + 1) * (A + B + 1) := Nat.mul_le_mul_right _ (by omega)
        rw [Nat.add_mul, Nat.one_mul] at this
        omega
      refine ⟨⟨[.val da, .val db, .val (rD (dot j a b)), .val (rD (at0 a j)), .val (rD (at0 b j))], ρ.ob⟩, ⟨[.val da, .val db, .val (rD (dot (j + 1) a b)), .val (rD (at0 a j)), .val (rD (at0 b j))], ρ.ob⟩, by simp, .inl ?_, ⟨_, _, rfl⟩⟩
      have hdot : dot (j + 1) a b = dot j a b + at0 a j * at0 b j := rfl
      rw [hdot]
      simp [ltimes_ok sa sb (by omega), lplus_ok sd (sa.mul sb) bnd])
  refine callF_rt (s := [.val da, .val db, .val (rD (dot a.length a b)), s3, s4]) ?_
  rw [m__law_sum, seqM_nx f1, seqM_nx (forM_ok e1 h1), h2]
  simp [h]

theorem Shr.sz {q : Rat} (h : Shr q) : Sz q 10 := by
  have h1 := Rat.num_nonneg.mpr h.1
  have h2 := h.2.1
  have h3 := h.2.2
  exact ⟨by omega, by omega⟩
theorem by_ok {n : Nat} {c : List Rat} {T : List (List Rat)} {ob : List OD} (hT : ShT n T) (hn : n ≤ 5) (hl : c.length = n) (hz : Vz c 9) : ∃ s, Ph__law_by [rL c, tD T] ⟨[], ob⟩ = .ok (.v (rT s)) ⟨[], ob⟩ ∧ s.length = n ∧ at0 s = act n T (at0 c) ∧ Vz s 50 := by
  have big : (10000 : Nat) ≤ sizeLine := by decide
  have atm : ∀ (j k : Nat), k < j → at0 ((List.range j).map fun k => act n T (at0 c) k) k = act n T (at0 c) k := fun j k hk => at0_of (by rw [List.getElem?_map, List.getElem?_range hk]; rfl)
  have full : at0 ((List.range n).map fun k => act n T (at0 c) k) = act n T (at0 c) := by
    funext k
    by_cases hk : k < n
    · exact atm n k hk
    · rw [at0_out (by simp; omega)]
      unfold act
      rw [sumN_congr (g := fun _ => (0 : Rat)) fun i hi => ?_]
      · exact sumN_zero.symm
      · have : ent T i k = 0 := at0_out (by rw [(hT.row hi).1]; omega)
        rw [this]
        grind
  refine ⟨(List.range n).map fun k => act n T (at0 c) k, ?_, by simp, full, part_vz hT hn hl hz (Nat.le_refl _) (by simp) fun k hk => by rw [full]; rfl⟩
  unfold Ph__law_by m__law_by
  apply callF_wh
  refine wh_seq (ρ1 := ⟨[.val (rL c), .val (tD T), .own [], .un, .un], ob⟩) (by simp) ?_
  refine wh_for (fun j ρ' => j ≤ n ∧ ρ' = ⟨[.val (rL c), .val (tD T), .own (((List.range j).map fun k => act n T (at0 c) k).map rD), .un, .un], ob⟩) (ds := (List.range' 0 n).map fun i => .int (i : Nat)) (ρ1 := ⟨[.val (rL c), .val (tD T), .own [], .un, .un], ob⟩) (rng1_ok (by simp [rL, hl]) (by omega)) ⟨by omega, by simp⟩ ?_ ?_
  · rintro j dd ρ' hd ⟨hjn, rfl⟩
    rw [List.getElem?_map] at hd
    obtain ⟨x, hx, rfl⟩ := Option.map_eq_some_iff.mp hd
    obtain ⟨rfl, hj⟩ := rangeD hx
    generalize hs : ((List.range x).map fun k => act n T (at0 c) k) = s
    have hlen : s.length = x := by rw [← hs]; simp
    refine ⟨⟨[.val (rL c), .val (tD T), .own (s.map rD), .val (.int (x : Nat)), .un], ob⟩, by simp, ?_⟩
    have comp : lcM (itsD (locD 1)) (setU 4) (yesT) (bin2 (purO ixO) (locD 4) (locD 3)) [4] ⟨[.val (rL c), .val (tD T), .own (s.map rD), .val (.int (x : Nat)), .un], ob⟩ = .ok (.o ((T.map fun row => at0 row x).map rD)) ⟨[.val (rL c), .val (tD T), .own (s.map rD), .val (.int (x : Nat)), .un], ob⟩ := by
      rw [List.map_map]
      refine lcM_map (e := rT) (xs := T) (ρ1 := ⟨[.val (rL c), .val (tD T), .own (s.map rD), .val (.int (x : Nat)), .un], ob⟩) (ρk := ⟨[.val (rL c), .val (tD T), .own (s.map rD), .val (.int (x : Nat)), .un], ob⟩) (by simp [LP.tD]) (by rw [hT.1]; omega) (by simp [En.kills]) (fun row hr => ?_) (by simp [En.back, SD.keep, rL, LP.tD])
      have e1 : L2.atI (row.map rD) (x : Int) = some (rD (at0 row x)) := atI_map (at0_get (by rw [(hT.2 row hr).1]; exact hj))
      exact ⟨⟨[.val (rL c), .val (tD T), .own (s.map rD), .val (.int (x : Nat)), .val (rT row)], ob⟩, ⟨[.val (rL c), .val (tD T), .own (s.map rD), .val (.int (x : Nat)), .val (rT row)], ob⟩, by simp, by simp [rT, e1], by simp [En.kills]⟩
    have cf := frzM_o comp
    have ls := lsum_ok (ρ := ⟨[], ob⟩) (da := rL c) (db := .lst ((T.map fun row => at0 row x).map rD)) (a := c) (b := T.map fun row => at0 row x) (A := 9) (B := 10) rfl rfl (by rw [List.length_map, hT.1, hl]) (fun y hy => hz.sz hy) (fun y hy => by
      obtain ⟨row, hr, rfl⟩ := List.mem_map.mp hy
      have hrow := hT.2 row hr
      exact Shr.sz (hrow.2 _ (at0_mem (by rw [hrow.1]; exact hj)))) (by rw [hl]; have : (n + 1) * (9 + 10 + 1) ≤ 6 * 20 := Nat.mul_le_mul (by omega) (by decide); omega)
    have ed : dot c.length c (T.map fun row => at0 row x) = act n T (at0 c) x := by
      unfold dot act
      rw [hl]
      refine sumN_congr fun i hi => ?_
      have : at0 (T.map fun row => at0 row x) i = ent T i x := at0_of (by rw [List.getElem?_map, row_get (by rw [hT.1]; exact hi)]; rfl)
      rw [this]
    rw [ed] at ls
    have hsl : s.length < sizeLine := by omega
    have el : (((List.range (x + 1)).map fun k => act n T (at0 c) k)) = s ++ [act n T (at0 c) x] := by rw [List.range_succ, List.map_append, hs]; rfl
    refine wh_seq (ρ1 := ⟨[.val (rL c), .val (tD T), .own ((s ++ [act n T (at0 c) x]).map rD), .val (.int (x : Nat)), .un], ob⟩) ?_ (wh_ok (fl := .nx) (by simp <;> exact rfl) ⟨by omega, by rw [el]; simp⟩)
    have e3 : consA (locD 0) (consA (frzM (lcM (itsD (locD 1)) (setU 4) (yesT) (bin2 (purO ixO) (locD 4) (locD 3)) [4])) (nilA)) ⟨[.val (rL c), .val (tD T), .own (s.map rD), .val (.int (x : Nat)), .un], ob⟩ = .ok [rL c, .lst ((T.map fun row => at0 row x).map rD)] ⟨[.val (rL c), .val (tD T), .own (s.map rD), .val (.int (x : Nat)), .un], ob⟩ := by
      have e4 : consA (frzM (lcM (itsD (locD 1)) (setU 4) (yesT) (bin2 (purO ixO) (locD 4) (locD 3)) [4])) (nilA) ⟨[.val (rL c), .val (tD T), .own (s.map rD), .val (.int (x : Nat)), .un], ob⟩ = .ok [.lst ((T.map fun row => at0 row x).map rD)] ⟨[.val (rL c), .val (tD T), .own (s.map rD), .val (.int (x : Nat)), .un], ob⟩ := by
        unfold consA
        rw [cf]
        simp
      generalize consA (frzM (lcM (itsD (locD 1)) (setU 4) (yesT) (bin2 (purO ixO) (locD 4) (locD 3)) [4])) (nilA) = mm at e4
      simp [e4]
    generalize consA (locD 0) (consA (frzM (lcM (itsD (locD 1)) (setU 4) (yesT) (bin2 (purO ixO) (locD 4) (locD 3)) [4])) (nilA)) = mm at e3
    generalize D.lst ((T.map fun row => at0 row x).map rD) = dcol at e3 ls
    simp [e3, ls, hsl]
  · rintro ρ' ⟨_, rfl⟩
    rw [List.length_map, List.length_range']
    exact wh_seq (by simp <;> exact rfl) (wh_ret (r := .v (rT ((List.range n).map fun k => act n T (at0 c) k))) (ρ1 := ⟨[.val (rL c), .val (tD T), .own (((List.range n).map fun k => act n T (at0 c) k).map rD), .un, .un], ob⟩) (by simp [rT]) ⟨rfl, rfl⟩)
theorem lik_refl {n : Nat} {A : List Ent} {v : Vc} : Lik n A A v := fun _ _ => rfl
theorem lik_symm {n : Nat} {A B : List Ent} {v : Vc} (hA : BkOk n A) (hB : BkOk n B) (hs : Shape A B) (h : Lik n A B v) : Lik n B A v := fun w hw => (h w fun p hp => Shape.chs (Eq.symm hs) (hw p hp) hB hA).symm
theorem lik_trans {n : Nat} {A B C : List Ent} {v : Vc} (hA : BkOk n A) (hB : BkOk n B) (hs : Shape A B) (h : Lik n A B v) (k : Lik n B C v) : Lik n A C v := fun w hw => (h w hw).trans (k w fun p hp => Shape.chs hs (hw p hp) hA hB)
theorem runW_mul {n : Nat} {A : List Ent} {a : Rat} : ∀ (w : List (List Nat)) (v : Vc), runW n A w (fun j => a * v j) = fun j => a * runW n A w v j
  | [], v => rfl
  | p :: w, v => by
    have : act n (tk A p) (fun j => a * v j) = fun j => a * act n (tk A p) v j := by
      have := act_lin (n := n) (T := tk A p) (a := a) (b := 0) (u := v) (v := v)
      have e1 : (fun j => a * v j + 0 * v j) = fun j => a * v j := funext fun j => by grind
      rw [e1] at this
      rw [this]
      exact funext fun j => by grind
    rw [runW, this, runW_mul w]
    rfl
theorem lik_mul {n : Nat} {A B : List Ent} {a : Rat} (ha : a ≠ 0) {v : Vc} : Lik n A B (fun j => a * v j) ↔ Lik n A B v := by
  constructor
  · intro h w hw
    have := h w hw
    rw [runW_mul, runW_mul] at this
    funext j
    have := congrFun this j
    have e : a⁻¹ * (a * runW n A w v j) = a⁻¹ * (a * runW n B w v j) := by rw [this]
    rw [← Rat.mul_assoc, ← Rat.mul_assoc, Rat.inv_mul_cancel a ha, Rat.one_mul, Rat.one_mul] at e
    exact e
  · intro h w hw
    rw [runW_mul, runW_mul, h w hw]
theorem lik_step {n : Nat} {A B : List Ent} {v : Vc} {p : List Nat} (hp : Chs A n p) (h : Lik n A B v) : Lik n A B (act n (tk A p) v) := fun w hw => by
  have h1 := h (p :: w) fun q hq => by
    rcases List.mem_cons.mp hq with z | z
    · rw [z]; exact hp
    · exact hw q z
  have h2 := h [p] fun q hq => by rw [List.mem_singleton.mp hq]; exact hp
  have h2 : act n (tk A p) v = act n (tk B p) v := h2
  have h1 : runW n A w (act n (tk A p) v) = runW n B w (act n (tk B p) v) := h1
  rw [h1, h2]
theorem lik_zero {n : Nat} {A B : List Ent} : Lik n A B (fun _ => 0) := by
  have : ∀ (X : List Ent) (w : List (List Nat)), runW n X w (fun _ => 0) = fun _ => 0 := by
    intro X w
    induction w with
    | nil => rfl
    | cons p w ih => rw [runW, act_zero, ih]
  exact fun w _ => by rw [this, this]
end N60
set_option maxHeartbeats 200000
namespace LW
open PySem PySem.Spec PyProof.Rows L2
theorem lcGo_step {b : D → M Unit} {el : M D} {vs : List Nat} {d y : D} {ds acc : List D} {ρ ρa ρc : En} (h1 : b d ρ = .ok () ρa) (h2 : el ρa = .ok y ρc) : lcGo b yesT el vs (d :: ds) acc ρ = lcGo b yesT el vs ds (acc ++ [y]) (ρc.kills vs) := by
  rw [lcGo]
  dsimp only
  rw [h1, Res.bind_ok]
  show (el ρa).bind _ = _
  rw [h2, Res.bind_ok]
theorem lcM_of {m : M (List D)} {b : D → M Unit} {el : M D} {vs : List Nat} {ds l : List D} {ρ ρ1 ρ2 : En} (hm : m ρ = .ok ds ρ1) (hl : ds.length ≤ sizeLine) (h : lcGo b yesT el vs ds [] (ρ1.kills vs) = .ok l ρ2) : lcM m b yesT el vs ρ = .ok (.o l) (ρ2.back ρ1 vs) := by
  unfold lcM
  rw [hm, Res.bind_ok, if_pos hl, h]
  rfl
end LW
namespace N60
open PySem LW LP N57
def WdOk (wd : Str) (P : Prop) : Prop := (wd = "alike" ∧ P) ∨ (wd = "apart" ∧ ¬ P)
theorem okA : (D.str "alike").okd 20 = true := by decide +kernel
theorem okB : (D.str "apart").okd 20 = true := by decide +kernel
theorem strNe : PyData.eqv (D.str "alike").py (D.str "apart").py = false := by decide +kernel
theorem strNe2 : PyData.eqv (D.str "apart").py (D.str "alike").py = false := by decide +kernel
theorem eqAA : eqO (.str "alike") (.str "alike") = some (.bl true) := eqO_self okA
theorem eqBB : eqO (.str "apart") (.str "apart") = some (.bl true) := eqO_self okB
theorem eqAB : eqO (.str "alike") (.str "apart") = some (.bl false) := by unfold eqO; rw [if_pos ⟨okA, okB⟩, strNe]
theorem eqBA : eqO (.str "apart") (.str "alike") = some (.bl false) := by unfold eqO; rw [if_pos ⟨okB, okA⟩, strNe2]
theorem neAA : neO (.str "alike") (.str "alike") = some (.bl false) := neO_self okA
theorem neBB : neO (.str "apart") (.str "apart") = some (.bl false) := neO_self okB
theorem neAB : neO (.str "alike") (.str "apart") = some (.bl true) := by unfold neO; rw [if_pos ⟨okA, okB⟩, strNe]; rfl
theorem neBA : neO (.str "apart") (.str "alike") = some (.bl true) := by unfold neO; rw [if_pos ⟨okB, okA⟩, strNe2]; rfl
theorem al_ok {n : Nat} {A B : List Ent} {c : List Rat} {ma mb mc : M D} {ρ ρ1 ρ2 ρ3 : En} (ha : ma ρ = .ok (bkD A) ρ1) (hb : mb ρ1 = .ok (bkD B) ρ2) (hc : mc ρ2 = .ok (rL c) ρ3) (hA : BkOk n A) (hB : BkOk n B) (hs : Shape A B) (hl : c.length = n) (h0 : ∀ x ∈ c, 0 ≤ x) (hz : Vz c 60) :
    ∃ wd ob', bin2 (purO ixO) (frzM (callM 3 (consA ma (consA mb (consA mc (nilA)))) [] (Ph_alike))) (cstD (.int 0)) ρ = .ok (.str wd) ⟨ρ3.sl, ob'⟩ ∧ WdOk wd (Lik n A B (at0 c)) := by
  obtain ⟨r, ob', h1, wd, rest, rfl, h2⟩ := alike_ok (ob0 := ρ3.ob) hA hB hs hl h0 hz
  refine ⟨wd, ob', ?_, h2⟩
  have e : consA ma (consA mb (consA mc (nilA))) ρ = .ok [bkD A, bkD B, rL c] ρ3 := by
    unfold consA
    rw [ha, Res.bind_ok, hb, Res.bind_ok, hc]
    simp
  generalize consA ma (consA mb (consA mc (nilA))) = mm at e
  simp [e, h1, L2.atI, L2.ixN]
end N60
set_option maxHeartbeats 200000
namespace LW
open PySem PySem.Spec PyProof.Rows L2
/-- the script alone hidden: what else there was is there -/
theorem hid_keep {h : Heap} {H : Hp} {b : Addr} {o : Obj} {a : Addr} {oa : Obj} (ga : h.get? a = some oa) (only : ∀ c, H c ≠ none → c = a) (gb : h.get? b = some o) (ne : o ≠ oa) : (hidT h H).get? b = some o := by
  refine hidT_get gb ?_
  cases e : H b with
  | none => rfl
  | some z =>
    have : b = a := only b (by rw [e]; exact fun y => nomatch y)
    rw [this, ga] at gb
    exact (ne (Option.some.inj gb).symm).elim
theorem hid_ns {h : Heap} {H : Hp} {a : Addr} {x : Array Value} (ga : h.get? a = some { cls := .type "list", data := .seq x }) (only : ∀ c, H c ≠ none → c = a) {b : Addr} {m : Str → Option Value} (n : h.Ns b m) : (hidT h H).Ns b m := by
  obtain ⟨ob, es, ep, g1, g2, r⟩ := n
  refine ⟨ob, es, ep, hid_keep ga only g1 ?_, g2, r⟩
  rintro rfl
  exact nomatch g2
theorem hid_seer {h : Heap} {H : Hp} {a : Addr} {x : Array Value} (ga : h.get? a = some { cls := .type "list", data := .seq x }) (only : ∀ c, H c ≠ none → c = a) (S : h.NoSeer) : (hidT h H).NoSeer where
  statics := S.statics.elim fun mc z => ⟨mc, hid_ns ga only z.1, z.2⟩
  mods := S.mods.elim fun mm z => ⟨mm, hid_ns ga only z.1, z.2⟩
  imp := S.imp.elim fun mb z => ⟨mb, hid_ns ga only z.1, z.2⟩
  main := by
    obtain ⟨mg, bm, ob, n, q, g, cl, di⟩ := S.main
    refine ⟨mg, bm, ob, hid_ns ga only n, q, hid_keep ga only g ?_, cl, di⟩
    rintro rfl
    exact absurd (Value.type.inj cl) (by decide)
/-- the frozen script alone -/
def lone (a : Addr) (o : HO) : Hp := fun b => if b = a then some o else none
/-- the law's def, called at the heap behind the top -/
theorem end_call {P : Program} {w : World} {K : PySem.W.Frag} {mg mb : Str → Option Value} {CT : CXT} {k : Nat} {f a : Addr} {fd : FuncData} {x : Str} {sp : Sp} {s : Shared} {us : List Value} {ns : List Int}
    (seer : s.heap.NoSeer) (kin : K.In s.heap) (main : s.heap.Ns mainGlobals mg) (blt : s.heap.Ns builtinsNs mb) (laid : ∀ y : Str, y ≠ "__name__" → mb y = bootBuiltins y) (nol : s.heap.NoLimit) (gens : s.gens = #[])
    (ga : s.heap.get? a = some { cls := .type "list", data := .seq us.toArray }) (hint : IntsAre us ns) (len : ns.length ≤ sizeLine) (room : Room k callerA)
    (F : ∀ base : Heap, base.NoSeer → K.In base → base.Ns mainGlobals mg → FnOk P w K mg base CT k f fd [x] sp) (bind : ∀ (s : Shared) (u : Value), BindsTo s fd ⟨[u], []⟩ [(x, u)])
    (said : ∀ H : Hp, Only H → SqL K H a (ns.map V.int) → sp [.ref a] H (fun v _ => v = .bl true) fun _ _ _ => False)
    (noE : ∀ H e s', CT [] H s (fun _ _ _ => False) e s' → False) :
    codeAny (model P w) callerA (.call (.ref f) ⟨[.ref a], []⟩) (fun r s' => r = .ok (.ret (.bool true)) ∧ OldK s.heap s'.heap ∧ s'.os = s.os ∧ AllBare s'.gens) s := by
  have vals := vals_ints hint
  obtain ⟨H, hO, hS, hok, only, off⟩ : ∃ H : Hp, Only H ∧ SqL K H a (ns.map V.int) ∧ HOk P w H s.heap ∧ (∀ c, H c ≠ none → c = a) ∧ (H a ≠ none → K.lookup a = none) := by
    cases q : K.lookup a with
    | some o =>
      have same := kin a o q
      rw [ga] at same
      have same := Option.some.inj same
      subst same
      exact ⟨fun _ => none, fun _ => .inl rfl, .inr ⟨_, us.toArray, _, q, rfl, rfl, rfl, (by rw [List.size_toArray, hint.length]; exact len), by simpa using vals⟩, (fun _ _ z => nomatch z), (fun _ z => (z rfl).elim), fun z => (z rfl).elim⟩
    | none =>
      have at_ : lone a (.frz { cls := .type "list", data := .seq us.toArray } (.lst (ns.map V.int))) a = _ := if_pos rfl
      have off_ : ∀ c, c ≠ a → lone a (.frz { cls := .type "list", data := .seq us.toArray } (.lst (ns.map V.int))) c = none := fun c hc => if_neg hc
      refine ⟨lone a (.frz { cls := .type "list", data := .seq us.toArray } (.lst (ns.map V.int))), fun c => ?_, .inl (.inr ⟨_, at_⟩), fun c u z => ?_, fun c z => ?_, fun _ => rfl⟩
      · rcases Classical.em (c = a) with rfl | hc
        · exact .inr ⟨_, _, at_⟩
        · exact .inl (off_ c hc)
      · rcases Classical.em (c = a) with rfl | hc
        · rw [at_] at z
          have z := Option.some.inj z
          subst z
          exact ⟨ga, by rw [List.length_map]; exact len, us, _, vals, ga⟩
        · rw [off_ c hc] at z
          exact nomatch z
      · rcases Classical.em (c = a) with hc | hc
        · exact hc
        · exact (z (off_ c hc)).elim
  have kinB : K.In (hidT s.heap H) := fun c o e => hidT_get (kin c o e) (by
    cases q : H c with
    | none => rfl
    | some u =>
      have hc : c = a := only c (by rw [q]; exact fun y => nomatch y)
      subst hc
      rw [off (by rw [q]; exact fun y => nomatch y)] at e
      exact nomatch e)
  have nsB : ∀ {c : Addr} {m : Str → Option Value}, s.heap.Ns c m → (hidT s.heap H).Ns c m := fun n => hid_ns ga only n
  have md : Mod K mg (hidT s.heap H) := ⟨kinB, nsB main, ⟨mb, nsB blt, laid⟩, nol.elim fun mc z => ⟨mc, nsB z.1, z.2⟩⟩
  have env : Env0 P w K mg (hidT s.heap H) callerA [] s H :=
    { frames := rfl, mod := md, bs := fun c o e => of_hidT e, bsz := Nat.le_of_eq (hidT_size _ _), funs := trivial, frf := (fun c hc => nomatch hc), hok := hok, bare := .of_eq gens }
  refine codeAny_mono ((F _ (hid_seer ga only seer) kinB (nsB main)).run callerA [] s H ⟨[.ref a], []⟩ [.ref a] [.ref a] (fun v _ => v = .bl true) (fun _ _ _ => False) room env (bind s (.ref a)) (.cons rfl .nil) (said H hO hS)) ?_
  intro r s' got
  match r, got with
  | .error e, got => exact (noE H e s' got).elim
  | .ok .next, got => exact False.elim got
  | .ok .brk, got => exact False.elim got
  | .ok .cont, got => exact False.elim got
  | .ok (.ret u), got =>
    obtain ⟨v, H', os, bare, un, hok', rel, isT⟩ := got
    have isT : v = .bl true := isT
    rw [isT] at rel
    have rel : u = Value.bool true := rel
    rw [rel]
    refine ⟨rfl, OldK.of_keep fun c o e => ?_, os, bare⟩
    rcases hO c with z | ⟨oc, xs, z⟩
    · exact un.keep c o e z (fun y => nomatch y) (fun y => nomatch y)
    · obtain ⟨e1, _⟩ := hok c _ z
      obtain ⟨e2, _⟩ := hok' c _ (un.frzs c oc _ z)
      rw [e2, ← e1, e]
/-- a law over a head by facts -/
theorem walk_of2 {l : PySem.W.OpenLaw} {n k : Nat} {q : Program} {loose : List Str} {XP : (Str → Option Value) → Heap → Prop} {YP : World → Heap → Prop} {d : DefRec} {CT : World → CXT} {x : Str}
    (most : l.most = some n) (small : n ≤ sizeLine) (nodef : d.params.defaults = []) (room : Room k callerA) (noimp : importsNone q = true)
    (F : ∀ (w : World) (mg : Str → Option Value) (f : Addr) (h : Heap), YP w h → h.Ns mainGlobals mg → mg d.name = some (.ref f) →
      ∃ (K : PySem.W.Frag) (fd : FuncData) (sp : Sp), K.In h ∧ (∀ (s : Shared) (u : Value), BindsTo s fd ⟨[u], []⟩ [(x, u)]) ∧
        (∀ (H : Hp) (a : Addr) (ns : List Int), ns.length ≤ n → Only H → SqL K H a (ns.map V.int) → sp [.ref a] H (fun v _ => v = .bl true) fun _ _ _ => False) ∧
        ∀ base : Heap, base.NoSeer → K.In base → base.Ns mainGlobals mg → FnOk l.prog w K mg base (CT w) k f fd [x] sp)
    (noE : ∀ (w : World) (H : Hp) (s : Shared) (e : Value) (s' : Shared), CT w [] H s (fun _ _ _ => False) e s' → False) :
    PySem.W.WalkO q loose XP YP l.row.toRowW d [] (fun f vs => PySem.call f vs) := by
  apply Att.attach_call most nodef
  intro w s₀ s mg mb f o pm cd doc a us ns G Y _ _ _ named obj hint len gens
  obtain ⟨K, fd, sp, kin, bind, said, ok⟩ := F w mg f _ Y G.T.g named
  exact end_call (G.T.seer noimp) kin G.T.g G.T.b G.T.builtins G.T.nolimit gens obj hint (Nat.le_trans len small) room ok bind (fun H hO hS => said H a ns len hO hS) fun H e s' => noE w H s e s'
end LW
set_option maxHeartbeats 200000
namespace LW
open PySem PySem.Spec PyProof.Rows L2
mutual
/-- a constant as data -/
def glB (K : PySem.W.Frag) : D → Value → Bool
  | .non, u => (match u with
    | .none => true
    | _ => false)
  | .bl b, u => (match u with
    | .bool c => b == c
    | _ => false)
  | .int i, u => (match u with
    | .int j _ => decide (i = j)
    | _ => false)
  | .str x, u => (match u with
    | .str y _ => decide (x = y)
    | _ => false)
  | .ty n, u => (match u with
    | .type m => decide (n = m)
    | _ => false)
  | .glo x, u => (match u with
    | .ref a => decide (a = He.ga K x)
    | _ => false)
  | .tup l, u => (match u with
    | .ref a => (match K.lookup a with
      | some ⟨.type c, _, .seq its _, _⟩ => decide (c = "tuple") && (decide (its.size ≤ sizeLine) && glBs K l its.toList)
      | _ => false)
    | _ => false)
  | .frz l, u => (match u with
    | .ref a => (match K.lookup a with
      | some ⟨.type c, none, .seq its _, _⟩ => decide (c = "list") && (decide (its.size ≤ sizeLine) && glBs K l its.toList)
      | _ => false)
    | _ => false)
  | .lst _, _ => false
  | .dct _ _, _ => false
  | .obj _, _ => false
def glBs (K : PySem.W.Frag) : List D → List Value → Bool
  | [], us => us.isEmpty
  | d :: ds, us => (match us with
    | u :: r => glB K d u && glBs K ds r
    | [] => false)
end
mutual
theorem glB_ok {K : PySem.W.Frag} : ∀ (d : D) (u : Value), glB K d u = true → ∃ v, RelV v u ∧ ∀ F al, Rep K F al d v
  | .non, u, h => by
    unfold glB at h
    cases u with
    | none => exact ⟨.non, rfl, fun F al => by simp only [Rep]⟩
    | _ => cases h
  | .bl b, u, h => by
    unfold glB at h
    cases u with
    | bool c =>
      have e : b = c := eq_of_beq h
      subst e
      exact ⟨.bl b, rfl, fun F al => by simp only [Rep]⟩
    | _ => cases h
  | .int i, u, h => by
    unfold glB at h
    cases u with
    | int j t =>
      have e : i = j := of_decide_eq_true h
      subst e
      exact ⟨.int i, ⟨t, rfl⟩, fun F al => by simp only [Rep]⟩
    | _ => cases h
  | .str x, u, h => by
    unfold glB at h
    cases u with
    | str y t =>
      have e : x = y := of_decide_eq_true h
      subst e
      exact ⟨.str x, ⟨t, rfl⟩, fun F al => by simp only [Rep]⟩
    | _ => cases h
  | .ty n, u, h => by
    unfold glB at h
    cases u with
    | type m =>
      have e : n = m := of_decide_eq_true h
      subst e
      exact ⟨.ty n, rfl, fun F al => by simp only [Rep]⟩
    | _ => cases h
  | .glo x, u, h => by
    unfold glB at h
    cases u with
    | ref a =>
      have e : a = He.ga K x := of_decide_eq_true h
      subst e
      exact ⟨.ref _, rfl, fun F al => by simp only [Rep]⟩
    | _ => cases h
  | .tup l, u, h => by
    unfold glB at h
    cases u with
    | ref a =>
      dsimp only at h
      cases q : K.lookup a with
      | none => rw [q] at h; cases h
      | some o =>
        obtain ⟨oc, od, dt, osl⟩ := o
        rw [q] at h
        cases oc with
        | type c =>
          cases dt with
          | seq its n =>
            obtain ⟨h1, h2⟩ := Bool.and_eq_true_iff.mp h
            obtain ⟨h3, h4⟩ := Bool.and_eq_true_iff.mp h2
            obtain ⟨vs, h5, h6⟩ := glBs_ok l its.toList h4
            exact ⟨.ref a, rfl, fun F al => Rep.mkT (.inr ⟨_, its, n, q, congrArg Value.type (of_decide_eq_true h1), rfl, of_decide_eq_true h3, h5⟩) (h6 F al)⟩
          | _ => cases h
        | _ => cases dt <;> cases h
    | _ => cases h
  | .frz l, u, h => by
    unfold glB at h
    cases u with
    | ref a =>
      dsimp only at h
      cases q : K.lookup a with
      | none => rw [q] at h; cases h
      | some o =>
        obtain ⟨oc, od, dt, osl⟩ := o
        rw [q] at h
        cases oc with
        | type c =>
          cases od with
          | none =>
            cases dt with
            | seq its n =>
              obtain ⟨h1, h2⟩ := Bool.and_eq_true_iff.mp h
              obtain ⟨h3, h4⟩ := Bool.and_eq_true_iff.mp h2
              obtain ⟨vs, h5, h6⟩ := glBs_ok l its.toList h4
              refine ⟨.ref a, rfl, fun F al => ?_⟩
              simp only [Rep]
              exact ⟨a, vs, rfl, .inr ⟨_, its, n, q, congrArg Value.type (of_decide_eq_true h1), rfl, rfl, of_decide_eq_true h3, h5⟩, h6 F al⟩
            | _ => cases h
          | some b => cases dt <;> cases h
        | _ => cases od <;> cases dt <;> cases h
    | _ => cases h
  | .lst l, u, h => by unfold glB at h; cases h
  | .dct l k, u, h => by unfold glB at h; cases h
  | .obj n, u, h => by unfold glB at h; cases h
theorem glBs_ok {K : PySem.W.Frag} : ∀ (ds : List D) (us : List Value), glBs K ds us = true → ∃ vs, Vals vs us ∧ ∀ F al, Reps K F al ds vs
  | [], us, h => by
    unfold glBs at h
    cases us with
    | nil => exact ⟨[], .nil, fun F al => Reps.nil⟩
    | cons _ _ => cases h
  | d :: ds, us, h => by
    unfold glBs at h
    cases us with
    | nil => cases h
    | cons u r =>
      obtain ⟨h1, h2⟩ := Bool.and_eq_true_iff.mp (show (glB K d u && glBs K ds r) = true from h)
      obtain ⟨v, h3, h4⟩ := glB_ok d u h1
      obtain ⟨vs, h5, h6⟩ := glBs_ok ds r h2
      exact ⟨v :: vs, .cons h3 h5, fun F al => Reps.cons (h4 F al) (h6 F al)⟩
end
/-- a constant of the module by its name -/
def glAt (K : PySem.W.Frag) (q : Str × D) : Bool := match PySem.W.nsIn K mainGlobals q.1 with
  | some (some u) => glB K q.2 u
  | _ => false
theorem glAt_ok {K : PySem.W.Frag} {h : Heap} {mg : Str → Option Value} {x : Str} {d : D} (X : K.In h) (G : h.Ns mainGlobals mg) (c : glAt K (x, d) = true) : GloOk K mg x d := by
  unfold glAt at c
  cases e : PySem.W.nsIn K mainGlobals x with
  | none => rw [e] at c; cases c
  | some o =>
    cases o with
    | none => rw [e] at c; cases c
    | some u =>
      rw [e] at c
      obtain ⟨v, h1, h2⟩ := glB_ok d u c
      exact ⟨u, v, PySem.W.mg_of X G e, h1, h2⟩
abbrev AlL : Type := He.AlD × Bool
def obsL (n : Nat) (fa : List He.Fa) (fn : List He.DefD) (gl : List (Str × D)) (g : Addr → Option Obj) : AlL := (He.obsD fa fn (He.frG g (He.asD g n)), gl.all fun q => glAt (He.frG g (He.asD g n)) q)
def SaysL (fa : List He.Fa) (fn : List He.DefD) (gl : List (Str × D)) (K : PySem.W.Frag) : Prop := He.SaysD fa fn K ∧ gl.all (fun q => glAt K q) = true
def hookL (n : Nat) (fa : List He.Fa) (fn : List He.DefD) (gl : List (Str × D)) : PySem.W.Hook where
  α := AlL
  obs := fun s => obsL n fa fn gl s.heap.get?
  val := fun _ => (He.valD fn, true)
  says := fun _ h => ∃ K : PySem.W.Frag, K.In h ∧ SaysL fa fn gl K
  of := fun _ _ e => ⟨_, He.frG_in, congrArg (fun z : AlL => z.1) e, congrArg (fun z : AlL => z.2) e⟩
  keeps := fun _ _ _ ⟨K, hK, c⟩ k => ⟨K, PySem.W.Frag.In.keeps hK k, c⟩
theorem obsL_eq {n : Nat} {fa : List He.Fa} {fn : List He.DefD} {gl : List (Str × D)} {g : Addr → Option Obj} {s : Shared} (h : ∀ a, g a = s.heap.get? a) : obsL n fa fn gl g = (hookL n fa fn gl).obs s := by
  have e : g = s.heap.get? := funext h
  rw [e] <;> rfl
theorem SaysL.gl {fa : List He.Fa} {fn : List He.DefD} {gl : List (Str × D)} {K : PySem.W.Frag} {h : Heap} {mg : Str → Option Value} (c : SaysL fa fn gl K) (X : K.In h) (G : h.Ns mainGlobals mg) (i : Nat) {x : Str} {d : D} (e : gl[i]? = some (x, d) := by rfl) : GloOk K mg x d :=
  glAt_ok X G (List.all_eq_true.mp c.2 _ (List.mem_of_getElem? e))
theorem SaysL.glo {fa : List He.Fa} {fn : List He.DefD} {gl : List (Str × D)} {K : PySem.W.Frag} {h : Heap} {mg : Str → Option Value} (c : SaysL fa fn gl K) (X : K.In h) (G : h.Ns mainGlobals mg) (i : Nat) {x : Str} (e : fa[i]? = some (.glo x) := by rfl) : mg x = some (.ref (He.ga K x)) := He.glo_ok X G (c.1.fact i e)
theorem SaysL.free {fa : List He.Fa} {fn : List He.DefD} {gl : List (Str × D)} {K : PySem.W.Frag} {h : Heap} {mg : Str → Option Value} (c : SaysL fa fn gl K) (X : K.In h) (G : h.Ns mainGlobals mg) (i : Nat) {x : Str} (e : fa[i]? = some (.free x) := by rfl) : mg x = none := He.free_ok X G (c.1.fact i e)
theorem Reps.ints {K : PySem.W.Frag} {F : Hp} {al : List Addr} : ∀ ns : List Int, Reps K F al (ns.map .int) (ns.map V.int)
  | [] => Reps.nil
  | n :: ns => Reps.cons Rep.mkI (Reps.ints ns)
/-- what the law's end asks, by the run over data -/
theorem spD_law {K : PySem.W.Frag} {Ph : List D → M RV} {H : Hp} {a : Addr} {ns : List Int} (hS : SqL K H a (ns.map V.int)) (h : Ph [.frz (ns.map .int)] ⟨[], []⟩ = .ok (.v (.bl true)) ⟨[], []⟩) : spD K 1 Ph [.ref a] H (fun v _ => v = .bl true) fun _ _ _ => False := by
  refine ⟨rfl, ⟨H, fun _ => none, [], fun _ => none, fun _ _ _ => none⟩, [], [.frz (ns.map .int)], ?_, ?_, ?_⟩
  · exact ⟨fun _ _ e => e, fun _ _ _ => rfl, (fun _ _ e => nomatch e), fun _ _ _ => rfl, (fun _ _ e => nomatch e), rfl, (fun i s e => by simp at e), rfl, (fun n c fs e => by simp at e), (fun _ _ _ _ e => nomatch e)⟩
  · refine Reps.one ?_
    simp only [Rep]
    exact ⟨a, _, rfl, hS, Reps.ints ns⟩
  · rw [h]
    intro g' H' v _ _ r
    exact Rep.bl (show Rep K g'.F g'.al (.bl true) v from r)
end LW
set_option maxHeartbeats 200000
namespace LW
open PySem PySem.Spec PyProof.Rows L2
theorem spD_lawE {K : PySem.W.Frag} {Ph : List D → M RV} {H : Hp} {a : Addr} {ns : List Int} (hS : SqL K H a (ns.map V.int)) (h : ∃ ob, Ph [.frz (ns.map .int)] ⟨[], []⟩ = .ok (.v (.bl true)) ⟨[], ob⟩) : spD K 1 Ph [.ref a] H (fun v _ => v = .bl true) fun _ _ _ => False := by
  obtain ⟨ob, h⟩ := h
  refine ⟨rfl, ⟨H, fun _ => none, [], fun _ => none, fun _ _ _ => none⟩, [], [.frz (ns.map .int)], ?_, ?_, ?_⟩
  · exact ⟨fun _ _ e => e, fun _ _ _ => rfl, (fun _ _ e => nomatch e), fun _ _ _ => rfl, (fun _ _ e => nomatch e), rfl, (fun i s e => by simp at e), rfl, (fun n c fs e => by simp at e), (fun _ _ _ _ e => nomatch e)⟩
  · refine Reps.one ?_
    simp only [Rep]
    exact ⟨a, _, rfl, hS, Reps.ints ns⟩
  · rw [h]
    intro g' H' v _ _ r
    exact Rep.bl (show Rep K g'.F g'.al (.bl true) v from r)
end LW
set_option maxHeartbeats 200000
namespace N60
open PySem LW LP N57
theorem tst_of {m : M D} {b : Bool} {ρ ρ1 : En} (h : m ρ = .ok (.bl b) ρ1) : tstD m ρ = .ok b ρ1 := by unfold tstD; rw [h]; rfl
theorem tk_range {A : List Ent} {n : Nat} {p : List Nat} (hp : p.length = n) : tk A p = (List.range' 0 n).map fun i => (rowsOf A i).getD (p.getD i 0) [] := by
  refine List.ext_getElem? fun i => ?_
  unfold tk
  rw [List.getElem?_map, List.getElem?_map, List.getElem?_zipIdx]
  by_cases h : i < n
  · have h' : i < p.length := by omega
    rw [List.getElem?_eq_getElem h', List.getElem?_range' h]
    simp [List.getD_eq_getElem?_getD, h']
  · rw [List.getElem?_eq_none (by omega), List.getElem?_eq_none (by simp; omega)]
    rfl
theorem chs_some {n : Nat} {A : List Ent} (h : BkOk n A) : Chs A n (List.replicate n 0) := by
  refine ⟨by simp, fun i a hi => ?_⟩
  rw [List.getElem?_replicate] at hi
  split at hi
  · rename_i hin
    obtain ⟨e, h1, h2, h3⟩ := ent_of (bk := A) (i := i) (by rw [h.len]; exact hin)
    have := Option.some.inj hi
    rw [h3]
    have := (h.men e h2).1
    omega
  · cases hi
theorem at0_map {c : List Rat} {a : Rat} : at0 (c.map fun x => a * x) = fun j => a * at0 c j := by
  funext j
  by_cases h : j < c.length
  · exact at0_of (by rw [List.getElem?_map, at0_get h]; rfl)
  · rw [at0_out (by rw [List.length_map]; omega), at0_out (by omega)]
    grind
theorem at0_rep {n : Nat} : at0 (List.replicate n 0) = fun _ => 0 := by
  funext j
  by_cases h : j < n
  · exact at0_of (by rw [List.getElem?_replicate, if_pos h])
  · exact at0_out (by simp; omega)
theorem scale_vz {c : List Rat} {u l : Int} (h : ∀ x ∈ c, F12 x) (hu : 1 ≤ u) (hu2 : u ≤ 5) (hl : 1 ≤ l) (hl2 : l ≤ 7) : Vz (c.map fun x => Rat.divInt u l * x) 60 := by
  refine Vz.mono (m := 12) ⟨12 * l.toNat, by omega, by omega, fun y hy => ?_⟩ (by decide)
  obtain ⟨x, hx, rfl⟩ := List.mem_map.mp hy
  obtain ⟨a, h1, h2⟩ := (h x hx).2
  refine ⟨u * a, ?_, ?_⟩
  · rw [Int.natAbs_mul]
    have : u.natAbs * a.natAbs ≤ 5 * 480 := Nat.mul_le_mul (by omega) h1
    omega
  · have e1 : ((12 * l.toNat : Nat) : Rat) = ((12 : Nat) : Rat) * (l : Rat) := by
      rw [cast_mul]
      have : ((l.toNat : Nat) : Rat) = (((l.toNat : Nat) : Int) : Rat) := rfl
      rw [this, Int.toNat_of_nonneg (by omega)]
    have hl' : (l : Rat) ≠ 0 := by
      have : (0 : Rat) < (l : Rat) := Rat.intCast_pos.mpr (by omega)
      grind
    have e2 : ((u * a : Int) : Rat) = (u : Rat) * (a : Rat) := by push_cast; rfl
    rw [e1, e2, Rat.divInt_eq_div, ← h2]
    have e3 : (u : Rat) / (l : Rat) * (l : Rat) = (u : Rat) := Rat.div_mul_cancel hl'
    calc (u : Rat) / (l : Rat) * x * (((12 : Nat) : Rat) * (l : Rat)) = ((u : Rat) / (l : Rat) * (l : Rat)) * (x * ((12 : Nat) : Rat)) := by grind
      _ = _ := by rw [e3]
theorem later_ok {mm : M D} {dt : D} {c lt : List Rat} {sl : List SD} {ob : List OD} (h5 : sl[5]? = some (.val (rL c))) (cf : mm ⟨sl, ob⟩ = .ok dt ⟨sl, ob⟩) (g : Ph__law_by [rL c, dt] ⟨[], ob⟩ = .ok (.v (rT lt)) ⟨[], ob⟩) (h10 : 10 < sl.length) : setM 10 (valR (frzM (cbM listF (consA (frzM (callM 2 (consA (locD 5) (consA mm (nilA))) [] (Ph__law_by))) (nilA))))) ⟨sl, ob⟩ = .ok .nx ⟨sl.set 10 (.val (rL lt)), ob⟩ := by
  have e : consA (locD 5) (consA mm (nilA)) ⟨sl, ob⟩ = .ok [rL c, dt] ⟨sl, ob⟩ := by
    simp [h5, cf]
  generalize consA (locD 5) (consA mm (nilA)) = ma at e
  have e2 : frzM (callM 2 ma [] (Ph__law_by)) ⟨sl, ob⟩ = .ok (rT lt) ⟨sl, ob⟩ := by
    simp [e, g]
  generalize frzM (callM 2 ma [] (Ph__law_by)) = mb at e2
  simp [e2, rT, rL, h10]
set_option maxHeartbeats 8000000 in
theorem law_ok {script : List Int} (hs : script.length ≤ 100000) : ∃ ob, Ph_law [.frz (iL script)] ⟨[], []⟩ = .ok (.v (.bl true)) ⟨[], ob⟩ := by
  have big : (100000 : Nat) ≤ sizeLine := by decide
  obtain ⟨ds, e1, hRg, hlen⟩ := numbers_ok (script := script) (many := 240) (ρ := ⟨[], []⟩) hs (by decide)
  replace e1 : Ph__law_numbers [.frz (iL script), .int 240] ⟨[], []⟩ = .ok (.o (iL ds)) ⟨[], []⟩ := e1
  have ix : ∀ k, k < 240 → ∃ v, L2.atI (iL ds) ((k : Nat) : Int) = some (.int v) := fun k hk => ⟨ds[k]'(by omega), iL_get (by simp)⟩
  have cut : ∀ k : Nat, cutD (iL ds) (some ((k : Nat) : Int)) none = iL (ds.drop k) := fun k => by
    rw [cut_drop]
    simp [iL]
  obtain ⟨v62, i62⟩ := ix 62 (by decide)
  replace i62 : L2.atI (iL ds) 62 = some (.int v62) := i62
  obtain ⟨v90, i90⟩ := ix 90 (by decide)
  replace i90 : L2.atI (iL ds) 90 = some (.int v90) := i90
  obtain ⟨v97, i97⟩ := ix 97 (by decide)
  replace i97 : L2.atI (iL ds) 97 = some (.int v97) := i97
  obtain ⟨v110, i110⟩ := ix 110 (by decide)
  replace i110 : L2.atI (iL ds) 110 = some (.int v110) := i110
  obtain ⟨v111, i111⟩ := ix 111 (by decide)
  replace i111 : L2.atI (iL ds) 111 = some (.int v111) := i111
  obtain ⟨v112, i112⟩ := ix 112 (by decide)
  replace i112 : L2.atI (iL ds) 112 = some (.int v112) := i112
  have c130 : cutD (iL ds) (some 130) none = iL (ds.drop 130) := cut 130
  have c84 : cutD (iL ds) (some 84) none = iL (ds.drop 84) := cut 84
  have c91 : cutD (iL ds) (some 91) none = iL (ds.drop 91) := cut 91
  have c101 : cutD (iL ds) (some 101) none = iL (ds.drop 101) := cut 101
  suffices hh : ∃ r ob, Ph_law [.frz (iL script)] ⟨[], []⟩ = .ok r ⟨[], ob⟩ ∧ r = .v (.bl true) by
    obtain ⟨r, ob, h1, rfl⟩ := hh
    exact ⟨ob, h1⟩
  unfold Ph_law m_law
  refine callF_whE (R := fun r _ => r = .v (.bl true)) ?_
  refine wh_seq (ρ1 := ⟨[.val (.frz (iL script)), .val (.lst (iL ds)), .un, .un, .un, .un, .un, .un, .un, .un, .un, .un, .un, .un], []⟩) (by simp [e1]) ?_
  obtain ⟨n, A, hA, st2⟩ : ∃ n A, BkOk n A ∧ setM 2 (valR (iteD (tstD (bin2 (purO gtI) (bin2 (purO modI) (bin2 (purO ixO) (locD 1) (cstD (.int 62))) (cstD (.int 4))) (cstD (.int 0)))) (frzM (callM 2 (consA (locD 1) (consA (cstD (.int 3)) (nilA))) [] (Ph__law_menus))) (frzM (callM 1 (consA (frzM (sliceR (locD 1) (partM (cstD (.int 130))) (noPart))) (nilA)) [] (Ph__law_few))))) ⟨[.val (.frz (iL script)), .val (.lst (iL ds)), .un, .un, .un, .un, .un, .un, .un, .un, .un, .un, .un, .un], []⟩ = .ok .nx ⟨[.val (.frz (iL script)), .val (.lst (iL ds)), .val (bkD A), .un, .un, .un, .un, .un, .un, .un, .un, .un, .un, .un], []⟩ := by
    by_cases cc : 0 < v62.fmod 4
    · obtain ⟨bk, n, f1, f2, f3, f4, f5⟩ := menus_ok (d := ds) (upto := 3) (ρ := ⟨[], []⟩) (by decide) (by decide) (by omega)
      replace f1 : Ph__law_menus [.lst (iL ds), .int 3] ⟨[], []⟩ = .ok (.v (bkD bk)) ⟨[], []⟩ := f1
      exact ⟨n, bk, ⟨f2, f3, by omega, f5⟩, by simp [i62, cc, f1]⟩
    · obtain ⟨bk, n, f1, f2⟩ := few_ok (d := ds.drop 130) (ob := []) (by simp; omega) (by simp; omega)
      exact ⟨n, bk, f2, by simp [i62, cc, c130, f1]⟩
  refine wh_seq st2 ?_
  have hn := hA.le
  obtain ⟨B', b3, hX3, sX3⟩ := beside_ok (d := ds.drop 84) hA (by simp; omega)
  obtain ⟨B, hB, sB, x3⟩ : ∃ B, BkOk n B ∧ Shape A B ∧ L2.atI [bkD A, bkD B'] (v90.fmod 2) = some (bkD B) := by
    have r := fmodR (a := v90) (b := 2) (by decide)
    have : v90.fmod 2 = 0 ∨ v90.fmod 2 = 1 := by omega
    rcases this with e | e
    · rw [e]; exact ⟨A, hA, rfl, rfl⟩
    · rw [e]; exact ⟨B', hX3, sX3, rfl⟩
  refine wh_seq (ρ1 := ⟨[.val (.frz (iL script)), .val (.lst (iL ds)), .val (bkD A), .val (bkD B), .un, .un, .un, .un, .un, .un, .un, .un, .un, .un], []⟩) (by simp [i90, c84, b3, x3]) ?_
  obtain ⟨C', b4, hX4, sX4⟩ := beside_ok (d := ds.drop 91) hB (by simp; omega)
  obtain ⟨C, hC, sC, x4⟩ : ∃ C, BkOk n C ∧ Shape B C ∧ L2.atI [bkD B, bkD C'] (v97.fmod 2) = some (bkD C) := by
    have r := fmodR (a := v97) (b := 2) (by decide)
    have : v97.fmod 2 = 0 ∨ v97.fmod 2 = 1 := by omega
    rcases this with e | e
    · rw [e]; exact ⟨B, hB, rfl, rfl⟩
    · rw [e]; exact ⟨C', hX4, sX4, rfl⟩
  refine wh_seq (ρ1 := ⟨[.val (.frz (iL script)), .val (.lst (iL ds)), .val (bkD A), .val (bkD B), .val (bkD C), .un, .un, .un, .un, .un, .un, .un, .un, .un], []⟩) (by simp [i97, c91, b4, x4]) ?_
  have sAC : Shape A C := sB.trans sC
  obtain ⟨k0, f1, k1, k2⟩ := filling_ok (d := ds.drop 101) (n := n) (ob := []) (by simp; omega) hn
  have hAl := hA.len
  refine wh_seq (ρ1 := ⟨[.val (.frz (iL script)), .val (.lst (iL ds)), .val (bkD A), .val (bkD B), .val (bkD C), .val (rL k0), .un, .un, .un, .un, .un, .un, .un, .un], []⟩) (by simp only [bkD]; simp [hAl, c101, f1, rL]) ?_
  obtain ⟨c, comp, hc1, hc2⟩ : ∃ c : List Rat, lcM (enumD (consA (locD 5) (nilA))) (tupU 2 (consG (setU 11) (consG (setU 12) (nilG)))) (yesT) (iteD (tstD (bin2 (purO eqO) (bin2 (purO modI) (bin2 (purO ixO) (locD 1) (bin2 (purO addI) (cstD (.int 98)) (locD 11))) (cstD (.int 2))) (cstD (.int 0)))) (locD 12) (tupD (consA (cstD (.int 0)) (consA (cstD (.int 1)) (nilA))))) [11, 12] ⟨[.val (.frz (iL script)), .val (.lst (iL ds)), .val (bkD A), .val (bkD B), .val (bkD C), .val (rL k0), .un, .un, .un, .un, .un, .un, .un, .un], []⟩ = .ok (.o (c.map rD)) ⟨[.val (.frz (iL script)), .val (.lst (iL ds)), .val (bkD A), .val (bkD B), .val (bkD C), .val (rL k0), .un, .un, .un, .un, .un, .un, .un, .un], []⟩ ∧ c.length = n ∧ ∀ x ∈ c, F12 x := by
    refine ⟨k0.zipIdx.map fun q => if (ds.getD (98 + q.2) 0).fmod 2 = 0 then q.1 else 0, ?_, by simp [k1], fun x hx => ?_⟩
    · rw [List.map_map]
      refine lcM_map (e := fun q : Rat × Nat => .tup [.int (q.2 : Nat), rD q.1]) (xs := k0.zipIdx) (ρ1 := ⟨[.val (.frz (iL script)), .val (.lst (iL ds)), .val (bkD A), .val (bkD B), .val (bkD C), .val (rL k0), .un, .un, .un, .un, .un, .un, .un, .un], []⟩) (ρk := ⟨[.val (.frz (iL script)), .val (.lst (iL ds)), .val (bkD A), .val (bkD B), .val (bkD C), .val (rL k0), .un, .un, .un, .un, .un, .un, .un, .un], []⟩) (by simp [rL, enumL_map]) (by rw [List.length_zipIdx]; omega) (by simp [En.kills]) (fun q hq => ?_) (by simp [En.back, SD.keep, rL, bkD])
      have hq2 : q.2 < n := by
        obtain ⟨i, hi⟩ := List.mem_iff_getElem?.mp hq
        rw [List.getElem?_zipIdx] at hi
        obtain ⟨y, hy, rfl⟩ := Option.map_eq_some_iff.mp hi
        have := (List.getElem?_eq_some_iff.mp hy).1
        simp
        omega
      have i98 : L2.atI (iL ds) (98 + (q.2 : Int)) = some (.int (ds.getD (98 + q.2) 0)) := by
        have h98 : 98 + q.2 < ds.length := by omega
        have := iL_get (l := ds) (i := 98 + q.2) (x := ds.getD (98 + q.2) 0) (by rw [List.getD_eq_getElem?_getD, List.getElem?_eq_getElem h98]; rfl)
        rw [← this]
        congr 1
      refine ⟨⟨[.val (.frz (iL script)), .val (.lst (iL ds)), .val (bkD A), .val (bkD B), .val (bkD C), .val (rL k0), .un, .un, .un, .un, .un, .val (.int (q.2 : Nat)), .val (rD q.1), .un], []⟩, ⟨[.val (.frz (iL script)), .val (.lst (iL ds)), .val (bkD A), .val (bkD B), .val (bkD C), .val (rL k0), .un, .un, .un, .un, .un, .val (.int (q.2 : Nat)), .val (rD q.1), .un], []⟩, by simp, ?_, by simp [En.kills]⟩
      by_cases cc : (ds.getD (98 + q.2) 0).fmod 2 = 0
      · simp only [List.getD_eq_getElem?_getD] at cc i98
        simp [i98, cc]
      · simp only [List.getD_eq_getElem?_getD] at cc i98
        simp [i98, cc, rD0]
    · obtain ⟨q, hq, rfl⟩ := List.mem_map.mp hx
      split
      · refine k2 q.1 ?_
        obtain ⟨i, hi⟩ := List.mem_iff_getElem?.mp hq
        rw [List.getElem?_zipIdx] at hi
        obtain ⟨y, hy, rfl⟩ := Option.map_eq_some_iff.mp hi
        exact List.mem_of_getElem? hy
      · exact f12_zero
  refine wh_seq (ρ1 := ⟨[.val (.frz (iL script)), .val (.lst (iL ds)), .val (bkD A), .val (bkD B), .val (bkD C), .val (rL c), .un, .un, .un, .un, .un, .un, .un, .un], []⟩) ((setM_v (frzM_o comp) (by simp)).trans (by simp [rL])) ?_
  have hc0 : ∀ x ∈ c, 0 ≤ x := fun x hx => (hc2 x hx).1
  have hcz := f12_vz hc2
  have hcz6 : Vz c 60 := hcz.mono (by decide)
  obtain ⟨w1, o1, a1, W1⟩ := al_ok (ma := locD 12) (mb := locD 13) (mc := locD 5) (ρ := ⟨[.val (.frz (iL script)), .val (.lst (iL ds)), .val (bkD A), .val (bkD B), .val (bkD C), .val (rL c), .un, .un, .un, .un, .un, .un, .val (bkD A), .val (bkD B)], []⟩) (ρ1 := ⟨[.val (.frz (iL script)), .val (.lst (iL ds)), .val (bkD A), .val (bkD B), .val (bkD C), .val (rL c), .un, .un, .un, .un, .un, .un, .val (bkD A), .val (bkD B)], []⟩) (ρ2 := ⟨[.val (.frz (iL script)), .val (.lst (iL ds)), .val (bkD A), .val (bkD B), .val (bkD C), .val (rL c), .un, .un, .un, .un, .un, .un, .val (bkD A), .val (bkD B)], []⟩) (ρ3 := ⟨[.val (.frz (iL script)), .val (.lst (iL ds)), .val (bkD A), .val (bkD B), .val (bkD C), .val (rL c), .un, .un, .un, .un, .un, .un, .val (bkD A), .val (bkD B)], []⟩) (by simp) (by simp) (by simp) hA hB sB hc1 hc0 hcz6
  obtain ⟨w2, o2, a2, W2⟩ := al_ok (ma := locD 12) (mb := locD 13) (mc := locD 5) (ρ := ⟨[.val (.frz (iL script)), .val (.lst (iL ds)), .val (bkD A), .val (bkD B), .val (bkD C), .val (rL c), .un, .un, .un, .un, .un, .un, .val (bkD B), .val (bkD C)], o1⟩) (ρ1 := ⟨[.val (.frz (iL script)), .val (.lst (iL ds)), .val (bkD A), .val (bkD B), .val (bkD C), .val (rL c), .un, .un, .un, .un, .un, .un, .val (bkD B), .val (bkD C)], o1⟩) (ρ2 := ⟨[.val (.frz (iL script)), .val (.lst (iL ds)), .val (bkD A), .val (bkD B), .val (bkD C), .val (rL c), .un, .un, .un, .un, .un, .un, .val (bkD B), .val (bkD C)], o1⟩) (ρ3 := ⟨[.val (.frz (iL script)), .val (.lst (iL ds)), .val (bkD A), .val (bkD B), .val (bkD C), .val (rL c), .un, .un, .un, .un, .un, .un, .val (bkD B), .val (bkD C)], o1⟩) (by simp) (by simp) (by simp) hB hC sC hc1 hc0 hcz6
  obtain ⟨w3, o3, a3, W3⟩ := al_ok (ma := locD 12) (mb := locD 13) (mc := locD 5) (ρ := ⟨[.val (.frz (iL script)), .val (.lst (iL ds)), .val (bkD A), .val (bkD B), .val (bkD C), .val (rL c), .un, .un, .un, .un, .un, .un, .val (bkD A), .val (bkD C)], o2⟩) (ρ1 := ⟨[.val (.frz (iL script)), .val (.lst (iL ds)), .val (bkD A), .val (bkD B), .val (bkD C), .val (rL c), .un, .un, .un, .un, .un, .un, .val (bkD A), .val (bkD C)], o2⟩) (ρ2 := ⟨[.val (.frz (iL script)), .val (.lst (iL ds)), .val (bkD A), .val (bkD B), .val (bkD C), .val (rL c), .un, .un, .un, .un, .un, .un, .val (bkD A), .val (bkD C)], o2⟩) (ρ3 := ⟨[.val (.frz (iL script)), .val (.lst (iL ds)), .val (bkD A), .val (bkD B), .val (bkD C), .val (rL c), .un, .un, .un, .un, .un, .un, .val (bkD A), .val (bkD C)], o2⟩) (by simp) (by simp) (by simp) hA hC sAC hc1 hc0 hcz6
  have words : lcM (itsD (frzM (lstR (consA (tupD (consA (locD 2) (consA (locD 3) (nilA)))) (consA (tupD (consA (locD 3) (consA (locD 4) (nilA)))) (consA (tupD (consA (locD 2) (consA (locD 4) (nilA)))) (nilA))))))) (tupU 2 (consG (setU 12) (consG (setU 13) (nilG)))) (yesT) (bin2 (purO ixO) (frzM (callM 3 (consA (locD 12) (consA (locD 13) (consA (locD 5) (nilA)))) [] (Ph_alike))) (cstD (.int 0))) [12, 13] ⟨[.val (.frz (iL script)), .val (.lst (iL ds)), .val (bkD A), .val (bkD B), .val (bkD C), .val (rL c), .un, .un, .un, .un, .un, .un, .un, .un], []⟩ = .ok (.o [.str w1, .str w2, .str w3]) ⟨[.val (.frz (iL script)), .val (.lst (iL ds)), .val (bkD A), .val (bkD B), .val (bkD C), .val (rL c), .un, .un, .un, .un, .un, .un, .un, .un], o3⟩ := by
    generalize bin2 (purO ixO) (frzM (callM 3 (consA (locD 12) (consA (locD 13) (consA (locD 5) (nilA)))) [] (Ph_alike))) (cstD (.int 0)) = el at a1 a2 a3
    refine (lcM_of (ds := [.tup [bkD A, bkD B], .tup [bkD B, bkD C], .tup [bkD A, bkD C]]) (l := [.str w1, .str w2, .str w3]) (ρ1 := ⟨[.val (.frz (iL script)), .val (.lst (iL ds)), .val (bkD A), .val (bkD B), .val (bkD C), .val (rL c), .un, .un, .un, .un, .un, .un, .un, .un], []⟩) (ρ2 := ⟨[.val (.frz (iL script)), .val (.lst (iL ds)), .val (bkD A), .val (bkD B), .val (bkD C), .val (rL c), .un, .un, .un, .un, .un, .un, .un, .un], o3⟩) (by simp) (by simp) ?_).trans (by simp [En.back, SD.keep, bkD, rL])
    rw [show (⟨[.val (.frz (iL script)), .val (.lst (iL ds)), .val (bkD A), .val (bkD B), .val (bkD C), .val (rL c), .un, .un, .un, .un, .un, .un, .un, .un], []⟩ : En).kills [12, 13] = ⟨[.val (.frz (iL script)), .val (.lst (iL ds)), .val (bkD A), .val (bkD B), .val (bkD C), .val (rL c), .un, .un, .un, .un, .un, .un, .un, .un], []⟩ by simp [En.kills]]
    rw [lcGo_step (ρa := ⟨[.val (.frz (iL script)), .val (.lst (iL ds)), .val (bkD A), .val (bkD B), .val (bkD C), .val (rL c), .un, .un, .un, .un, .un, .un, .val (bkD A), .val (bkD B)], []⟩) (by simp) a1]
    rw [show (⟨(⟨[.val (.frz (iL script)), .val (.lst (iL ds)), .val (bkD A), .val (bkD B), .val (bkD C), .val (rL c), .un, .un, .un, .un, .un, .un, .val (bkD A), .val (bkD B)], []⟩ : En).sl, o1⟩ : En).kills [12, 13] = ⟨[.val (.frz (iL script)), .val (.lst (iL ds)), .val (bkD A), .val (bkD B), .val (bkD C), .val (rL c), .un, .un, .un, .un, .un, .un, .un, .un], o1⟩ by simp [En.kills]]
    rw [lcGo_step (ρa := ⟨[.val (.frz (iL script)), .val (.lst (iL ds)), .val (bkD A), .val (bkD B), .val (bkD C), .val (rL c), .un, .un, .un, .un, .un, .un, .val (bkD B), .val (bkD C)], o1⟩) (by simp) a2]
    rw [show (⟨(⟨[.val (.frz (iL script)), .val (.lst (iL ds)), .val (bkD A), .val (bkD B), .val (bkD C), .val (rL c), .un, .un, .un, .un, .un, .un, .val (bkD B), .val (bkD C)], o1⟩ : En).sl, o2⟩ : En).kills [12, 13] = ⟨[.val (.frz (iL script)), .val (.lst (iL ds)), .val (bkD A), .val (bkD B), .val (bkD C), .val (rL c), .un, .un, .un, .un, .un, .un, .un, .un], o2⟩ by simp [En.kills]]
    rw [lcGo_step (ρa := ⟨[.val (.frz (iL script)), .val (.lst (iL ds)), .val (bkD A), .val (bkD B), .val (bkD C), .val (rL c), .un, .un, .un, .un, .un, .un, .val (bkD A), .val (bkD C)], o2⟩) (by simp) a3]
    rw [show (⟨(⟨[.val (.frz (iL script)), .val (.lst (iL ds)), .val (bkD A), .val (bkD B), .val (bkD C), .val (rL c), .un, .un, .un, .un, .un, .un, .val (bkD A), .val (bkD C)], o2⟩ : En).sl, o3⟩ : En).kills [12, 13] = ⟨[.val (.frz (iL script)), .val (.lst (iL ds)), .val (bkD A), .val (bkD B), .val (bkD C), .val (rL c), .un, .un, .un, .un, .un, .un, .un, .un], o3⟩ by simp [En.kills]]
    rfl
  refine wh_seq (ρ1 := ⟨[.val (.frz (iL script)), .val (.lst (iL ds)), .val (bkD A), .val (bkD B), .val (bkD C), .val (rL c), .val (.lst [.str w1, .str w2, .str w3]), .un, .un, .un, .un, .un, .un, .un], o3⟩) (seqM_2 (setM_r words (by simp)) (by simp)) ?_
  have s8 : andT (tstD (bin2 (purO eqO) (bin2 (purO ixO) (locD 6) (cstD (.int 0))) (cstD (.str "alike")))) (andT (tstD (bin2 (purO eqO) (bin2 (purO ixO) (locD 6) (cstD (.int 1))) (cstD (.str "alike")))) (tstD (bin2 (purO neO) (bin2 (purO ixO) (locD 6) (cstD (.int 2))) (cstD (.str "alike"))))) ⟨[.val (.frz (iL script)), .val (.lst (iL ds)), .val (bkD A), .val (bkD B), .val (bkD C), .val (rL c), .val (.lst [.str w1, .str w2, .str w3]), .un, .un, .un, .un, .un, .un, .un], o3⟩ = .ok false ⟨[.val (.frz (iL script)), .val (.lst (iL ds)), .val (bkD A), .val (bkD B), .val (bkD C), .val (rL c), .val (.lst [.str w1, .str w2, .str w3]), .un, .un, .un, .un, .un, .un, .un], o3⟩ := by
    rcases W1 with ⟨rfl, z1⟩ | ⟨rfl, z1⟩ <;> rcases W2 with ⟨rfl, z2⟩ | ⟨rfl, z2⟩ <;> rcases W3 with ⟨rfl, z3⟩ | ⟨rfl, z3⟩
    all_goals first
      | exact absurd (lik_trans hA hB sB z1 z2) z3
      | (simp [L2.atI, L2.ixN, eqAA, eqAB, eqBA, eqBB, neAA, neAB, neBA, neBB])
  refine wh_if_ff s8 (wh_nop ?_)
  have s9 : andT (tstD (bin2 (purO eqO) (bin2 (purO ixO) (locD 6) (cstD (.int 0))) (cstD (.str "alike")))) (andT (tstD (bin2 (purO eqO) (bin2 (purO ixO) (locD 6) (cstD (.int 1))) (cstD (.str "apart")))) (tstD (bin2 (purO neO) (bin2 (purO ixO) (locD 6) (cstD (.int 2))) (cstD (.str "apart"))))) ⟨[.val (.frz (iL script)), .val (.lst (iL ds)), .val (bkD A), .val (bkD B), .val (bkD C), .val (rL c), .val (.lst [.str w1, .str w2, .str w3]), .un, .un, .un, .un, .un, .un, .un], o3⟩ = .ok false ⟨[.val (.frz (iL script)), .val (.lst (iL ds)), .val (bkD A), .val (bkD B), .val (bkD C), .val (rL c), .val (.lst [.str w1, .str w2, .str w3]), .un, .un, .un, .un, .un, .un, .un], o3⟩ := by
    rcases W1 with ⟨rfl, z1⟩ | ⟨rfl, z1⟩ <;> rcases W2 with ⟨rfl, z2⟩ | ⟨rfl, z2⟩ <;> rcases W3 with ⟨rfl, z3⟩ | ⟨rfl, z3⟩
    all_goals first
      | exact absurd (lik_trans hB hA (Eq.symm sB) (lik_symm hA hB sB z1) z3) z2
      | (simp [L2.atI, L2.ixN, eqAA, eqAB, eqBA, eqBB, neAA, neAB, neBA, neBB])
  refine wh_if_ff s9 (wh_nop ?_)
  obtain ⟨w4, o4, a4, W4⟩ := al_ok (ma := locD 2) (mb := locD 2) (mc := locD 5) (ρ := ⟨[.val (.frz (iL script)), .val (.lst (iL ds)), .val (bkD A), .val (bkD B), .val (bkD C), .val (rL c), .val (.lst [.str w1, .str w2, .str w3]), .un, .un, .un, .un, .un, .un, .un], o3⟩) (ρ1 := ⟨[.val (.frz (iL script)), .val (.lst (iL ds)), .val (bkD A), .val (bkD B), .val (bkD C), .val (rL c), .val (.lst [.str w1, .str w2, .str w3]), .un, .un, .un, .un, .un, .un, .un], o3⟩) (ρ2 := ⟨[.val (.frz (iL script)), .val (.lst (iL ds)), .val (bkD A), .val (bkD B), .val (bkD C), .val (rL c), .val (.lst [.str w1, .str w2, .str w3]), .un, .un, .un, .un, .un, .un, .un], o3⟩) (ρ3 := ⟨[.val (.frz (iL script)), .val (.lst (iL ds)), .val (bkD A), .val (bkD B), .val (bkD C), .val (rL c), .val (.lst [.str w1, .str w2, .str w3]), .un, .un, .un, .un, .un, .un, .un], o3⟩) (by simp) (by simp) (by simp) hA hA rfl hc1 hc0 hcz6
  obtain ⟨w5, o5, a5, W5⟩ := al_ok (ma := locD 3) (mb := locD 2) (mc := locD 5) (ρ := ⟨[.val (.frz (iL script)), .val (.lst (iL ds)), .val (bkD A), .val (bkD B), .val (bkD C), .val (rL c), .val (.lst [.str w1, .str w2, .str w3]), .un, .un, .un, .un, .un, .un, .un], o4⟩) (ρ1 := ⟨[.val (.frz (iL script)), .val (.lst (iL ds)), .val (bkD A), .val (bkD B), .val (bkD C), .val (rL c), .val (.lst [.str w1, .str w2, .str w3]), .un, .un, .un, .un, .un, .un, .un], o4⟩) (ρ2 := ⟨[.val (.frz (iL script)), .val (.lst (iL ds)), .val (bkD A), .val (bkD B), .val (bkD C), .val (rL c), .val (.lst [.str w1, .str w2, .str w3]), .un, .un, .un, .un, .un, .un, .un], o4⟩) (ρ3 := ⟨[.val (.frz (iL script)), .val (.lst (iL ds)), .val (bkD A), .val (bkD B), .val (bkD C), .val (rL c), .val (.lst [.str w1, .str w2, .str w3]), .un, .un, .un, .un, .un, .un, .un], o4⟩) (by simp) (by simp) (by simp) hB hA (Eq.symm sB) hc1 hc0 hcz6
  have r4 : w4 = "alike" := by
    rcases W4 with z | z
    · exact z.1
    · exact absurd lik_refl z.2
  subst r4
  have r5 : w1 = w5 := by
    rcases W1 with ⟨rfl, z1⟩ | ⟨rfl, z1⟩ <;> rcases W5 with ⟨rfl, z2⟩ | ⟨rfl, z2⟩
    · rfl
    · exact absurd (lik_symm hA hB sB z1) z2
    · exact absurd (lik_symm hB hA (Eq.symm sB) z2) z1
    · rfl
  subst r5
  have n1 : neO (.str w1) (.str w1) = some (.bl false) := by
    rcases W1 with ⟨rfl, _⟩ | ⟨rfl, _⟩
    · exact neAA
    · exact neBB
  refine wh_if_ff (orT_ff (tst_of (bin2_of a4 rfl neAA)) (tst_of (bin2_of a5 (ρ2 := ⟨[.val (.frz (iL script)), .val (.lst (iL ds)), .val (bkD A), .val (bkD B), .val (bkD C), .val (rL c), .val (.lst [.str w1, .str w2, .str w3]), .un, .un, .un, .un, .un, .un, .un], o5⟩) (y := .str w1) (by simp [L2.atI, L2.ixN]) n1))) (wh_nop ?_)
  obtain ⟨u, hu, hu1, hu2⟩ : ∃ u : Int, 1 + v110.fmod 5 = u ∧ 1 ≤ u ∧ u ≤ 5 := by
    have r := fmodR (a := v110) (b := 5) (by decide)
    exact ⟨_, rfl, by omega, by omega⟩
  obtain ⟨l, hl, hl1, hl2⟩ : ∃ l : Int, 1 + v111.fmod 7 = l ∧ 1 ≤ l ∧ l ≤ 7 := by
    have r := fmodR (a := v111) (b := 7) (by decide)
    exact ⟨_, rfl, by omega, by omega⟩
  have lp := lpart_ok (u := u) (l := l) (ρ := ⟨[], o5⟩) (by omega)
  have sby : Sz (Rat.divInt u l) 3 := Sz.divInt (by omega) (by omega) (by omega)
  have hsv := scale_vz hc2 hu1 hu2 hl1 hl2
  have by0 : Rat.divInt u l ≠ 0 := by
    intro z
    rw [Rat.divInt_eq_div] at z
    have hl' : (l : Rat) ≠ 0 := by
      have : (0 : Rat) < (l : Rat) := Rat.intCast_pos.mpr (by omega)
      grind
    have e3 : (u : Rat) / (l : Rat) * (l : Rat) = (u : Rat) := Rat.div_mul_cancel hl'
    rw [z] at e3
    have : (0 : Rat) < (u : Rat) := Rat.intCast_pos.mpr (by omega)
    grind
  have byn : 0 ≤ Rat.divInt u l := Rat.divInt_nonneg (by omega) (by omega)
  generalize Rat.divInt u l = by_ at lp sby hsv by0 byn
  dsimp only at lp
  refine wh_seq (ρ1 := ⟨[.val (.frz (iL script)), .val (.lst (iL ds)), .val (bkD A), .val (bkD B), .val (bkD C), .val (rL c), .val (.lst [.str w1, .str w2, .str w3]), .val (rD by_), .un, .un, .un, .un, .un, .un], o5⟩) (by simp [i110, i111, hu, hl, lp]) ?_
  have mcp6 : frzM (lcM (itsD (locD 5)) (setU 12) (yesT) (frzM (callM 2 (consA (locD 7) (consA (locD 12) (nilA))) [] (Ph__law_times))) [12]) ⟨[.val (.frz (iL script)), .val (.lst (iL ds)), .val (bkD A), .val (bkD B), .val (bkD C), .val (rL c), .val (.lst [.str w1, .str w2, .str w3]), .val (rD by_), .un, .un, .un, .un, .un, .un], o5⟩ = .ok (rL (c.map fun x => by_ * x)) ⟨[.val (.frz (iL script)), .val (.lst (iL ds)), .val (bkD A), .val (bkD B), .val (bkD C), .val (rL c), .val (.lst [.str w1, .str w2, .str w3]), .val (rD by_), .un, .un, .un, .un, .un, .un], o5⟩ := by
    unfold rL
    rw [List.map_map]
    refine frzM_o (lcM_map (e := rD) (xs := c) (ρ1 := ⟨[.val (.frz (iL script)), .val (.lst (iL ds)), .val (bkD A), .val (bkD B), .val (bkD C), .val (rL c), .val (.lst [.str w1, .str w2, .str w3]), .val (rD by_), .un, .un, .un, .un, .un, .un], o5⟩) (ρk := ⟨[.val (.frz (iL script)), .val (.lst (iL ds)), .val (bkD A), .val (bkD B), .val (bkD C), .val (rL c), .val (.lst [.str w1, .str w2, .str w3]), .val (rD by_), .un, .un, .un, .un, .un, .un], o5⟩) (by simp [rL]) (by omega) (by simp [En.kills, rL]) (fun x hx => ?_) (by simp [En.back, SD.keep, rL, bkD]))
    exact ⟨⟨[.val (.frz (iL script)), .val (.lst (iL ds)), .val (bkD A), .val (bkD B), .val (bkD C), .val (rL c), .val (.lst [.str w1, .str w2, .str w3]), .val (rD by_), .un, .un, .un, .un, .val (rD x), .un], o5⟩, ⟨[.val (.frz (iL script)), .val (.lst (iL ds)), .val (bkD A), .val (bkD B), .val (bkD C), .val (rL c), .val (.lst [.str w1, .str w2, .str w3]), .val (rD by_), .un, .un, .un, .un, .val (rD x), .un], o5⟩, by simp, by simp [ltimes_ok sby (hcz.sz hx) (by decide)], by simp [En.kills, rL]⟩
  obtain ⟨w6, o6, a6, W6⟩ := al_ok (ma := locD 2) (mb := locD 3) (mc := frzM (lcM (itsD (locD 5)) (setU 12) (yesT) (frzM (callM 2 (consA (locD 7) (consA (locD 12) (nilA))) [] (Ph__law_times))) [12])) (ρ := ⟨[.val (.frz (iL script)), .val (.lst (iL ds)), .val (bkD A), .val (bkD B), .val (bkD C), .val (rL c), .val (.lst [.str w1, .str w2, .str w3]), .val (rD by_), .un, .un, .un, .un, .un, .un], o5⟩) (ρ1 := ⟨[.val (.frz (iL script)), .val (.lst (iL ds)), .val (bkD A), .val (bkD B), .val (bkD C), .val (rL c), .val (.lst [.str w1, .str w2, .str w3]), .val (rD by_), .un, .un, .un, .un, .un, .un], o5⟩) (ρ2 := ⟨[.val (.frz (iL script)), .val (.lst (iL ds)), .val (bkD A), .val (bkD B), .val (bkD C), .val (rL c), .val (.lst [.str w1, .str w2, .str w3]), .val (rD by_), .un, .un, .un, .un, .un, .un], o5⟩) (ρ3 := ⟨[.val (.frz (iL script)), .val (.lst (iL ds)), .val (bkD A), .val (bkD B), .val (bkD C), .val (rL c), .val (.lst [.str w1, .str w2, .str w3]), .val (rD by_), .un, .un, .un, .un, .un, .un], o5⟩) (by simp) (by simp) mcp6 hA hB sB (by rw [List.length_map]; exact hc1) (fun y hy => by
    obtain ⟨x, hx, rfl⟩ := List.mem_map.mp hy
    exact Rat.mul_nonneg byn (hc0 x hx)) hsv
  rw [at0_map] at W6
  have r6 : w1 = w6 := by
    rcases W1 with ⟨rfl, z1⟩ | ⟨rfl, z1⟩ <;> rcases W6 with ⟨rfl, z2⟩ | ⟨rfl, z2⟩
    · rfl
    · exact absurd ((lik_mul by0).mpr z1) z2
    · exact absurd ((lik_mul by0).mp z2) z1
    · rfl
  subst r6
  refine wh_if_ff (tst_of (bin2_of a6 (ρ2 := ⟨[.val (.frz (iL script)), .val (.lst (iL ds)), .val (bkD A), .val (bkD B), .val (bkD C), .val (rL c), .val (.lst [.str w1, .str w2, .str w3]), .val (rD by_), .un, .un, .un, .un, .un, .un], o6⟩) (y := .str w1) (by simp [L2.atI, L2.ixN]) n1)) (wh_nop ?_)
  obtain ⟨F, f1, f2⟩ := choices_ok (ob := o6) hA
  refine wh_seq (ρ1 := ⟨[.val (.frz (iL script)), .val (.lst (iL ds)), .val (bkD A), .val (bkD B), .val (bkD C), .val (rL c), .val (.lst [.str w1, .str w2, .str w3]), .val (rD by_), .val (.lst (F.map plN)), .un, .un, .un, .un, .un], o6⟩) (by simp [f1]) ?_
  have F0 : 0 < F.length := List.length_pos_of_mem ((f2.mem _).mpr (chs_some hA))
  obtain ⟨a, ea, ha⟩ := to_ix (v := v112) F0
  obtain ⟨p, hp⟩ : ∃ p, F[a]? = some p := ⟨_, List.getElem?_eq_getElem ha⟩
  have hpA : Chs A n p := (f2.mem p).mp (List.mem_of_getElem? hp)
  have xp : L2.atI (F.map plN) (a : Int) = some (plN p) := atI_map hp
  have F0' : F.length ≠ 0 := by omega
  have F0n : ¬ F = [] := fun z => by rw [z] at F0; simp at F0
  refine wh_seq (ρ1 := ⟨[.val (.frz (iL script)), .val (.lst (iL ds)), .val (bkD A), .val (bkD B), .val (bkD C), .val (rL c), .val (.lst [.str w1, .str w2, .str w3]), .val (rD by_), .val (.lst (F.map plN)), .val (plN p), .un, .un, .un, .un], o6⟩) (by simp [i112, ea, xp, F0', F0n]) ?_
  obtain ⟨lt, g1, g2, g3, g4⟩ := by_ok (ob := o6) (ShT.of hA hpA) hn hc1 hcz
  have ltnn : ∀ x ∈ lt, 0 ≤ x := fun x hx => by
    obtain ⟨k, hk⟩ := List.mem_iff_getElem?.mp hx
    rw [← at0_of hk, g3]
    refine sumN_nonneg fun i hi => Rat.mul_nonneg ?_ ?_
    · exact hc0 _ (at0_mem (by omega))
    · have hrow := (ShT.of hA hpA).row (i := i) hi
      have hkn : k < n := by rw [← g2]; exact (List.getElem?_eq_some_iff.mp hk).1
      exact (hrow.2 _ (at0_mem (by rw [hrow.1]; exact hkn))).1
  have comp2 : lcM (rng1 (consA (frzM (cbM lenF (consA (locD 2) (nilA)))) (nilA))) (setU 11) (yesT) (bin2 (purO ixO) (bin2 (purO ixO) (bin2 (purO ixO) (locD 2) (locD 11)) (cstD (.int 1))) (bin2 (purO ixO) (locD 9) (locD 11))) [11] ⟨[.val (.frz (iL script)), .val (.lst (iL ds)), .val (bkD A), .val (bkD B), .val (bkD C), .val (rL c), .val (.lst [.str w1, .str w2, .str w3]), .val (rD by_), .val (.lst (F.map plN)), .val (plN p), .un, .un, .un, .un], o6⟩ = .ok (.o ((tk A p).map rT)) ⟨[.val (.frz (iL script)), .val (.lst (iL ds)), .val (bkD A), .val (bkD B), .val (bkD C), .val (rL c), .val (.lst [.str w1, .str w2, .str w3]), .val (rD by_), .val (.lst (F.map plN)), .val (plN p), .un, .un, .un, .un], o6⟩ := by
    rw [tk_range hpA.1, List.map_map]
    refine lcM_map (e := fun i : Nat => .int (i : Nat)) (xs := List.range' 0 n) (ρ1 := ⟨[.val (.frz (iL script)), .val (.lst (iL ds)), .val (bkD A), .val (bkD B), .val (bkD C), .val (rL c), .val (.lst [.str w1, .str w2, .str w3]), .val (rD by_), .val (.lst (F.map plN)), .val (plN p), .un, .un, .un, .un], o6⟩) (ρk := ⟨[.val (.frz (iL script)), .val (.lst (iL ds)), .val (bkD A), .val (bkD B), .val (bkD C), .val (rL c), .val (.lst [.str w1, .str w2, .str w3]), .val (rD by_), .val (.lst (F.map plN)), .val (plN p), .un, .un, .un, .un], o6⟩) (rng1_ok (by simp [bkD, hAl]) (by omega)) (by simp; omega) (by simp [En.kills]) (fun i hi => ?_) (by simp [En.back, SD.keep, rL, bkD, plN])
    have hin : i < n := by rw [List.mem_range'_1] at hi; omega
    obtain ⟨e, h1, h2, h3⟩ := ent_of (bk := A) (i := i) (by rw [hAl]; exact hin)
    have hip : i < p.length := by rw [hpA.1]; exact hin
    have hlt := hpA.2 i p[i] (List.getElem?_eq_getElem hip)
    have y1 : L2.atI (A.map eD) (i : Int) = some (eD e) := atI_map h1
    have y2 : ixO (eD e) (.int 1) = some (.tup (e.2.map rT)) := rfl
    have y3 : L2.atI (p.map fun a : Nat => D.int (a : Nat)) (i : Int) = some (.int ((p.getD i 0 : Nat) : Int)) := atI_map (e := fun a : Nat => D.int (a : Nat)) (by rw [List.getD_eq_getElem?_getD, List.getElem?_eq_getElem hip]; rfl)
    have y4 : L2.atI (e.2.map rT) ((p.getD i 0 : Nat) : Int) = some (rT ((rowsOf A i).getD (p.getD i 0) [])) := atI_map (by
      have hd : p.getD i 0 = p[i] := by rw [List.getD_eq_getElem?_getD, List.getElem?_eq_getElem hip]; rfl
      rw [hd, h3] at *
      rw [List.getD_eq_getElem?_getD, List.getElem?_eq_getElem hlt]
      rfl)
    generalize ((p.getD i 0 : Nat) : Int) = pi at y3 y4
    refine ⟨⟨[.val (.frz (iL script)), .val (.lst (iL ds)), .val (bkD A), .val (bkD B), .val (bkD C), .val (rL c), .val (.lst [.str w1, .str w2, .str w3]), .val (rD by_), .val (.lst (F.map plN)), .val (plN p), .un, .val (.int (i : Nat)), .un, .un], o6⟩, ⟨[.val (.frz (iL script)), .val (.lst (iL ds)), .val (bkD A), .val (bkD B), .val (bkD C), .val (rL c), .val (.lst [.str w1, .str w2, .str w3]), .val (rD by_), .val (.lst (F.map plN)), .val (plN p), .un, .val (.int (i : Nat)), .un, .un], o6⟩, by simp, ?_, by simp [En.kills]⟩
    refine bin2_of (x := .tup (e.2.map rT)) (y := .int pi) (ρ1 := ⟨[.val (.frz (iL script)), .val (.lst (iL ds)), .val (bkD A), .val (bkD B), .val (bkD C), .val (rL c), .val (.lst [.str w1, .str w2, .str w3]), .val (rD by_), .val (.lst (F.map plN)), .val (plN p), .un, .val (.int (i : Nat)), .un, .un], o6⟩) (by simp [bkD, y1, y2]) (by simp [plN, y3]) y4
  have st11 : setM 10 (valR (frzM (cbM listF (consA (frzM (callM 2 (consA (locD 5) (consA (frzM (lcM (rng1 (consA (frzM (cbM lenF (consA (locD 2) (nilA)))) (nilA))) (setU 11) (yesT) (bin2 (purO ixO) (bin2 (purO ixO) (bin2 (purO ixO) (locD 2) (locD 11)) (cstD (.int 1))) (bin2 (purO ixO) (locD 9) (locD 11))) [11])) (nilA))) [] (Ph__law_by))) (nilA))))) ⟨[.val (.frz (iL script)), .val (.lst (iL ds)), .val (bkD A), .val (bkD B), .val (bkD C), .val (rL c), .val (.lst [.str w1, .str w2, .str w3]), .val (rD by_), .val (.lst (F.map plN)), .val (plN p), .un, .un, .un, .un], o6⟩ = .ok .nx ⟨[.val (.frz (iL script)), .val (.lst (iL ds)), .val (bkD A), .val (bkD B), .val (bkD C), .val (rL c), .val (.lst [.str w1, .str w2, .str w3]), .val (rD by_), .val (.lst (F.map plN)), .val (plN p), .val (rL lt), .un, .un, .un], o6⟩ := by
    exact (later_ok (dt := .lst ((tk A p).map rT)) rfl (frzM_o comp2) g1 (by simp)).trans (by simp)
  refine wh_seq st11 ?_
  obtain ⟨w7, o7, a7, W7⟩ := al_ok (ma := locD 2) (mb := locD 3) (mc := locD 10) (ρ := ⟨[.val (.frz (iL script)), .val (.lst (iL ds)), .val (bkD A), .val (bkD B), .val (bkD C), .val (rL c), .val (.lst [.str w1, .str w2, .str w3]), .val (rD by_), .val (.lst (F.map plN)), .val (plN p), .val (rL lt), .un, .un, .un], o6⟩) (ρ1 := ⟨[.val (.frz (iL script)), .val (.lst (iL ds)), .val (bkD A), .val (bkD B), .val (bkD C), .val (rL c), .val (.lst [.str w1, .str w2, .str w3]), .val (rD by_), .val (.lst (F.map plN)), .val (plN p), .val (rL lt), .un, .un, .un], o6⟩) (ρ2 := ⟨[.val (.frz (iL script)), .val (.lst (iL ds)), .val (bkD A), .val (bkD B), .val (bkD C), .val (rL c), .val (.lst [.str w1, .str w2, .str w3]), .val (rD by_), .val (.lst (F.map plN)), .val (plN p), .val (rL lt), .un, .un, .un], o6⟩) (ρ3 := ⟨[.val (.frz (iL script)), .val (.lst (iL ds)), .val (bkD A), .val (bkD B), .val (bkD C), .val (rL c), .val (.lst [.str w1, .str w2, .str w3]), .val (rD by_), .val (.lst (F.map plN)), .val (plN p), .val (rL lt), .un, .un, .un], o6⟩) (by simp) (by simp) (by simp) hA hB sB g2 ltnn (g4.mono (by decide))
  have z7 : ∃ o8, andT (tstD (bin2 (purO eqO) (bin2 (purO ixO) (locD 6) (cstD (.int 0))) (cstD (.str "alike")))) (tstD (bin2 (purO neO) (bin2 (purO ixO) (frzM (callM 3 (consA (locD 2) (consA (locD 3) (consA (locD 10) (nilA)))) [] (Ph_alike))) (cstD (.int 0))) (cstD (.str "alike")))) ⟨[.val (.frz (iL script)), .val (.lst (iL ds)), .val (bkD A), .val (bkD B), .val (bkD C), .val (rL c), .val (.lst [.str w1, .str w2, .str w3]), .val (rD by_), .val (.lst (F.map plN)), .val (plN p), .val (rL lt), .un, .un, .un], o6⟩ = .ok false ⟨[.val (.frz (iL script)), .val (.lst (iL ds)), .val (bkD A), .val (bkD B), .val (bkD C), .val (rL c), .val (.lst [.str w1, .str w2, .str w3]), .val (rD by_), .val (.lst (F.map plN)), .val (plN p), .val (rL lt), .un, .un, .un], o8⟩ := by
    rcases W1 with ⟨rfl, z1⟩ | ⟨rfl, z1⟩
    · have r7 : w7 = "alike" := by
        rcases W7 with z | z
        · exact z.1
        · refine absurd ?_ z.2
          rw [g3]
          exact lik_step hpA z1
      subst r7
      refine ⟨o7, ?_⟩
      have t1 := tst_of (bin2_of (b := cstD (.str "alike")) a7 (ρ2 := ⟨[.val (.frz (iL script)), .val (.lst (iL ds)), .val (bkD A), .val (bkD B), .val (bkD C), .val (rL c), .val (.lst [.str "alike", .str w2, .str w3]), .val (rD by_), .val (.lst (F.map plN)), .val (plN p), .val (rL lt), .un, .un, .un], o7⟩) (y := .str "alike") rfl neAA)
      generalize tstD (bin2 (purO neO) (bin2 (purO ixO) (frzM (callM 3 (consA (locD 2) (consA (locD 3) (consA (locD 10) (nilA)))) [] (Ph_alike))) (cstD (.int 0))) (cstD (.str "alike"))) = mt at t1
      simp [L2.atI, L2.ixN, eqAA, t1]
    · exact ⟨o6, by simp [L2.atI, L2.ixN, eqBA]⟩
  obtain ⟨o8, z7⟩ := z7
  refine wh_if_ff z7 (wh_nop ?_)
  have mcp8 : bin2 (purO mulL) (frzM (lstR (consA (tupD (consA (cstD (.int 0)) (consA (cstD (.int 1)) (nilA)))) (nilA)))) (frzM (cbM lenF (consA (locD 2) (nilA)))) ⟨[.val (.frz (iL script)), .val (.lst (iL ds)), .val (bkD A), .val (bkD B), .val (bkD C), .val (rL c), .val (.lst [.str w1, .str w2, .str w3]), .val (rD by_), .val (.lst (F.map plN)), .val (plN p), .val (rL lt), .un, .un, .un], o8⟩ = .ok (rL (List.replicate n 0)) ⟨[.val (.frz (iL script)), .val (.lst (iL ds)), .val (bkD A), .val (bkD B), .val (bkD C), .val (rL c), .val (.lst [.str w1, .str w2, .str w3]), .val (rD by_), .val (.lst (F.map plN)), .val (plN p), .val (rL lt), .un, .un, .un], o8⟩ := by
    have rep : mulL (.lst [.tup [.int 0, .int 1]]) (.int (n : Nat)) = some (rL (List.replicate n 0)) := by
      unfold mulL
      dsimp only
      rw [if_pos ⟨by omega, by simp; omega⟩]
      simp [rL, rD0]
    simp [bkD, hAl, rep]
  obtain ⟨w8, o9, a8, W8⟩ := al_ok (ma := locD 2) (mb := locD 3) (mc := bin2 (purO mulL) (frzM (lstR (consA (tupD (consA (cstD (.int 0)) (consA (cstD (.int 1)) (nilA)))) (nilA)))) (frzM (cbM lenF (consA (locD 2) (nilA))))) (ρ := ⟨[.val (.frz (iL script)), .val (.lst (iL ds)), .val (bkD A), .val (bkD B), .val (bkD C), .val (rL c), .val (.lst [.str w1, .str w2, .str w3]), .val (rD by_), .val (.lst (F.map plN)), .val (plN p), .val (rL lt), .un, .un, .un], o8⟩) (ρ1 := ⟨[.val (.frz (iL script)), .val (.lst (iL ds)), .val (bkD A), .val (bkD B), .val (bkD C), .val (rL c), .val (.lst [.str w1, .str w2, .str w3]), .val (rD by_), .val (.lst (F.map plN)), .val (plN p), .val (rL lt), .un, .un, .un], o8⟩) (ρ2 := ⟨[.val (.frz (iL script)), .val (.lst (iL ds)), .val (bkD A), .val (bkD B), .val (bkD C), .val (rL c), .val (.lst [.str w1, .str w2, .str w3]), .val (rD by_), .val (.lst (F.map plN)), .val (plN p), .val (rL lt), .un, .un, .un], o8⟩) (ρ3 := ⟨[.val (.frz (iL script)), .val (.lst (iL ds)), .val (bkD A), .val (bkD B), .val (bkD C), .val (rL c), .val (.lst [.str w1, .str w2, .str w3]), .val (rD by_), .val (.lst (F.map plN)), .val (plN p), .val (rL lt), .un, .un, .un], o8⟩) (by simp) (by simp) mcp8 hA hB sB (by simp) (fun x hx => by rw [List.eq_of_mem_replicate hx]; decide) ⟨1, by decide, by decide, fun x hx => ⟨0, by decide, by rw [List.eq_of_mem_replicate hx]; simp⟩⟩
  have r8 : w8 = "alike" := by
    rcases W8 with z | z
    · exact z.1
    · refine absurd ?_ z.2
      rw [at0_rep]
      exact lik_zero
  subst r8
  have t2 := bin2_of (b := cstD (.str "alike")) a8 (ρ2 := ⟨[.val (.frz (iL script)), .val (.lst (iL ds)), .val (bkD A), .val (bkD B), .val (bkD C), .val (rL c), .val (.lst [.str w1, .str w2, .str w3]), .val (rD by_), .val (.lst (F.map plN)), .val (plN p), .val (rL lt), .un, .un, .un], o9⟩) (y := .str "alike") rfl eqAA
  refine wh_ret (r := .v (.bl true)) (ρ1 := ⟨[.val (.frz (iL script)), .val (.lst (iL ds)), .val (bkD A), .val (bkD B), .val (bkD C), .val (rL c), .val (.lst [.str w1, .str w2, .str w3]), .val (rD by_), .val (.lst (F.map plN)), .val (plN p), .val (rL lt), .un, .un, .un], o9⟩) ?_ rfl
  unfold valR
  rw [t2]
  rfl
end N60
set_option maxHeartbeats 200000
set_option maxHeartbeats 0
namespace N60
open PySem PySem.Spec PyProof.Rows L2 LW LP N57
def top (i : Nat) : Stmt := PySem.Challenge.pw_lullworks_k60_whole_likeness_goes_on.main.body.getD i (.Pass ⟨0, 0, 0, 0⟩)
abbrev s__law_numbers : Stmt := top 35
abbrev s__law_part : Stmt := top 36
abbrev s__law_share : Stmt := top 37
abbrev s__law_times : Stmt := top 38
abbrev s__law_menus : Stmt := top 39
abbrev s__law_few : Stmt := top 40
abbrev s__law_beside : Stmt := top 41
abbrev s__law_filling : Stmt := top 42
abbrev s_need_hand : Stmt := top 24
abbrev s_is_share : Stmt := top 23
abbrev s_look : Stmt := top 25
abbrev s_need_filling : Stmt := top 28
abbrev s_need_both : Stmt := top 32
abbrev s_Span___init__ : Stmt := inClass (top 31) 0
abbrev s_common : Stmt := top 11
abbrev s_part : Stmt := top 12
abbrev s_less : Stmt := top 14
abbrev s_times : Stmt := top 15
abbrev s_Span_rest : Stmt := inClass (top 31) 1
abbrev s_over : Stmt := top 16
abbrev s_Span_put : Stmt := inClass (top 31) 3
abbrev s_all_plans : Stmt := top 26
abbrev s_plus : Stmt := top 13
abbrev s_row_by : Stmt := top 30
abbrev s_taken : Stmt := top 27
abbrev s_alike : Stmt := top 33
abbrev s__law_choices : Stmt := top 43
abbrev s__law_plus : Stmt := top 44
abbrev s__law_sum : Stmt := top 45
abbrev s__law_by : Stmt := top 46
abbrev s_law : Stmt := top 47
/-- what stands behind the top -/
structure Fx (K : PySem.W.Frag) (mg : Str → Option Value) where
  a__law_numbers : Addr
  d__law_numbers : FuncData
  F__law_numbers : FunD K "_law_numbers" "_law_numbers" (defArgs s__law_numbers) (defBody s__law_numbers) (defScope s__law_numbers) [] [] a__law_numbers d__law_numbers
  b__law_numbers : Binds K d__law_numbers ["_law_script", "_law_many"] []
  g__law_numbers : mg "_law_numbers" = some (.ref a__law_numbers)
  a__law_part : Addr
  d__law_part : FuncData
  F__law_part : FunD K "_law_part" "_law_part" (defArgs s__law_part) (defBody s__law_part) (defScope s__law_part) [] [] a__law_part d__law_part
  b__law_part : Binds K d__law_part ["_law_up", "_law_down"] []
  g__law_part : mg "_law_part" = some (.ref a__law_part)
  a__law_share : Addr
  d__law_share : FuncData
  F__law_share : FunD K "_law_share" "_law_share" (defArgs s__law_share) (defBody s__law_share) (defScope s__law_share) [] [] a__law_share d__law_share
  b__law_share : Binds K d__law_share ["_law_number"] []
  g__law_share : mg "_law_share" = some (.ref a__law_share)
  a__law_times : Addr
  d__law_times : FuncData
  F__law_times : FunD K "_law_times" "_law_times" (defArgs s__law_times) (defBody s__law_times) (defScope s__law_times) [] [] a__law_times d__law_times
  b__law_times : Binds K d__law_times ["_law_this", "_law_that"] []
  g__law_times : mg "_law_times" = some (.ref a__law_times)
  a__law_menus : Addr
  d__law_menus : FuncData
  F__law_menus : FunD K "_law_menus" "_law_menus" (defArgs s__law_menus) (defBody s__law_menus) (defScope s__law_menus) [] [] a__law_menus d__law_menus
  b__law_menus : Binds K d__law_menus ["_law_d", "_law_upto"] []
  g__law_menus : mg "_law_menus" = some (.ref a__law_menus)
  a__law_few : Addr
  d__law_few : FuncData
  F__law_few : FunD K "_law_few" "_law_few" (defArgs s__law_few) (defBody s__law_few) (defScope s__law_few) [] [] a__law_few d__law_few
  b__law_few : Binds K d__law_few ["_law_d"] []
  g__law_few : mg "_law_few" = some (.ref a__law_few)
  a__law_beside : Addr
  d__law_beside : FuncData
  F__law_beside : FunD K "_law_beside" "_law_beside" (defArgs s__law_beside) (defBody s__law_beside) (defScope s__law_beside) [] [] a__law_beside d__law_beside
  b__law_beside : Binds K d__law_beside ["_law_d", "_law_book"] []
  g__law_beside : mg "_law_beside" = some (.ref a__law_beside)
  a__law_filling : Addr
  d__law_filling : FuncData
  F__law_filling : FunD K "_law_filling" "_law_filling" (defArgs s__law_filling) (defBody s__law_filling) (defScope s__law_filling) [] [] a__law_filling d__law_filling
  b__law_filling : Binds K d__law_filling ["_law_d", "_law_many"] []
  g__law_filling : mg "_law_filling" = some (.ref a__law_filling)
  a_need_hand : Addr
  d_need_hand : FuncData
  F_need_hand : FunD K "need_hand" "need_hand" (defArgs s_need_hand) (defBody s_need_hand) (defScope s_need_hand) [] [] a_need_hand d_need_hand
  b_need_hand : Binds K d_need_hand ["hand"] []
  g_need_hand : mg "need_hand" = some (.ref a_need_hand)
  a_is_share : Addr
  d_is_share : FuncData
  F_is_share : FunD K "is_share" "is_share" (defArgs s_is_share) (defBody s_is_share) (defScope s_is_share) [] [] a_is_share d_is_share
  b_is_share : Binds K d_is_share ["one"] []
  g_is_share : mg "is_share" = some (.ref a_is_share)
  a_look : Addr
  d_look : FuncData
  F_look : FunD K "look" "look" (defArgs s_look) (defBody s_look) (defScope s_look) [] [] a_look d_look
  b_look : Binds K d_look ["menus"] []
  g_look : mg "look" = some (.ref a_look)
  a_need_filling : Addr
  d_need_filling : FuncData
  F_need_filling : FunD K "need_filling" "need_filling" (defArgs s_need_filling) (defBody s_need_filling) (defScope s_need_filling) [] [] a_need_filling d_need_filling
  b_need_filling : Binds K d_need_filling ["many", "filling"] []
  g_need_filling : mg "need_filling" = some (.ref a_need_filling)
  a_need_both : Addr
  d_need_both : FuncData
  F_need_both : FunD K "need_both" "need_both" (defArgs s_need_both) (defBody s_need_both) (defScope s_need_both) [] [] a_need_both d_need_both
  b_need_both : Binds K d_need_both ["one", "other", "counts"] []
  g_need_both : mg "need_both" = some (.ref a_need_both)
  a_Span___init__ : Addr
  d_Span___init__ : FuncData
  F_Span___init__ : FunD K "__init__" "Span.__init__" (defArgs s_Span___init__) (defBody s_Span___init__) (defScope s_Span___init__) [] [] a_Span___init__ d_Span___init__
  b_Span___init__ : Binds K d_Span___init__ ["self"] []
  m_Span___init__ : Meth K (He.ga K "Span") "__init__" a_Span___init__
  a_common : Addr
  d_common : FuncData
  F_common : FunD K "common" "common" (defArgs s_common) (defBody s_common) (defScope s_common) [] [] a_common d_common
  b_common : Binds K d_common ["one", "other"] []
  g_common : mg "common" = some (.ref a_common)
  a_part : Addr
  d_part : FuncData
  F_part : FunD K "part" "part" (defArgs s_part) (defBody s_part) (defScope s_part) [.int 1] [] a_part d_part
  b_part : Binds K d_part ["upper", "lower"] []
  g_part : mg "part" = some (.ref a_part)
  a_less : Addr
  d_less : FuncData
  F_less : FunD K "less" "less" (defArgs s_less) (defBody s_less) (defScope s_less) [] [] a_less d_less
  b_less : Binds K d_less ["one", "other"] []
  g_less : mg "less" = some (.ref a_less)
  a_times : Addr
  d_times : FuncData
  F_times : FunD K "times" "times" (defArgs s_times) (defBody s_times) (defScope s_times) [] [] a_times d_times
  b_times : Binds K d_times ["one", "other"] []
  g_times : mg "times" = some (.ref a_times)
  a_Span_rest : Addr
  d_Span_rest : FuncData
  F_Span_rest : FunD K "rest" "Span.rest" (defArgs s_Span_rest) (defBody s_Span_rest) (defScope s_Span_rest) [] [] a_Span_rest d_Span_rest
  b_Span_rest : Binds K d_Span_rest ["self", "row"] []
  m_Span_rest : Meth K (He.ga K "Span") "rest" a_Span_rest
  a_over : Addr
  d_over : FuncData
  F_over : FunD K "over" "over" (defArgs s_over) (defBody s_over) (defScope s_over) [] [] a_over d_over
  b_over : Binds K d_over ["one", "other"] []
  g_over : mg "over" = some (.ref a_over)
  a_Span_put : Addr
  d_Span_put : FuncData
  F_Span_put : FunD K "put" "Span.put" (defArgs s_Span_put) (defBody s_Span_put) (defScope s_Span_put) [] [] a_Span_put d_Span_put
  b_Span_put : Binds K d_Span_put ["self", "row"] []
  m_Span_put : Meth K (He.ga K "Span") "put" a_Span_put
  a_all_plans : Addr
  d_all_plans : FuncData
  F_all_plans : FunD K "all_plans" "all_plans" (defArgs s_all_plans) (defBody s_all_plans) (defScope s_all_plans) [] [] a_all_plans d_all_plans
  b_all_plans : Binds K d_all_plans ["menus", "stores"] []
  g_all_plans : mg "all_plans" = some (.ref a_all_plans)
  a_plus : Addr
  d_plus : FuncData
  F_plus : FunD K "plus" "plus" (defArgs s_plus) (defBody s_plus) (defScope s_plus) [] [] a_plus d_plus
  b_plus : Binds K d_plus ["one", "other"] []
  g_plus : mg "plus" = some (.ref a_plus)
  a_row_by : Addr
  d_row_by : FuncData
  F_row_by : FunD K "row_by" "row_by" (defArgs s_row_by) (defBody s_row_by) (defScope s_row_by) [] [] a_row_by d_row_by
  b_row_by : Binds K d_row_by ["row", "table"] []
  g_row_by : mg "row_by" = some (.ref a_row_by)
  a_taken : Addr
  d_taken : FuncData
  F_taken : FunD K "taken" "taken" (defArgs s_taken) (defBody s_taken) (defScope s_taken) [] [] a_taken d_taken
  b_taken : Binds K d_taken ["menus", "choice"] []
  g_taken : mg "taken" = some (.ref a_taken)
  a_alike : Addr
  d_alike : FuncData
  F_alike : FunD K "alike" "alike" (defArgs s_alike) (defBody s_alike) (defScope s_alike) [] [] a_alike d_alike
  b_alike : Binds K d_alike ["one", "other", "counts"] []
  g_alike : mg "alike" = some (.ref a_alike)
  a__law_choices : Addr
  d__law_choices : FuncData
  F__law_choices : FunD K "_law_choices" "_law_choices" (defArgs s__law_choices) (defBody s__law_choices) (defScope s__law_choices) [] [] a__law_choices d__law_choices
  b__law_choices : Binds K d__law_choices ["_law_book"] []
  g__law_choices : mg "_law_choices" = some (.ref a__law_choices)
  a__law_plus : Addr
  d__law_plus : FuncData
  F__law_plus : FunD K "_law_plus" "_law_plus" (defArgs s__law_plus) (defBody s__law_plus) (defScope s__law_plus) [] [] a__law_plus d__law_plus
  b__law_plus : Binds K d__law_plus ["_law_this", "_law_that"] []
  g__law_plus : mg "_law_plus" = some (.ref a__law_plus)
  a__law_sum : Addr
  d__law_sum : FuncData
  F__law_sum : FunD K "_law_sum" "_law_sum" (defArgs s__law_sum) (defBody s__law_sum) (defScope s__law_sum) [] [] a__law_sum d__law_sum
  b__law_sum : Binds K d__law_sum ["_law_line", "_law_some"] []
  g__law_sum : mg "_law_sum" = some (.ref a__law_sum)
  a__law_by : Addr
  d__law_by : FuncData
  F__law_by : FunD K "_law_by" "_law_by" (defArgs s__law_by) (defBody s__law_by) (defScope s__law_by) [] [] a__law_by d__law_by
  b__law_by : Binds K d__law_by ["_law_line", "_law_table"] []
  g__law_by : mg "_law_by" = some (.ref a__law_by)
  a_law : Addr
  d_law : FuncData
  F_law : FunD K "law" "law" (defArgs s_law) (defBody s_law) (defScope s_law) [] [] a_law d_law
  b_law : Binds K d_law ["_law_script"] []
  g_law : mg "law" = some (.ref a_law)
  c_Span : Cls K (He.ga K "Span")
  g_Span : mg "Span" = some (.ref (He.ga K "Span"))
  mk_Span : Mk K (He.ga K "Span") a_Span___init__
  f_Span_leads : FdA K "Span" "leads"
  n_abs : mg "abs" = none
  n_all : mg "all" = none
  n_any : mg "any" = none
  n_enumerate : mg "enumerate" = none
  n_int : mg "int" = none
  n_len : mg "len" = none
  n_list : mg "list" = none
  n_range : mg "range" = none
  n_tuple : mg "tuple" = none
  n_zip : mg "zip" = none
  v_HANDS : GloOk K mg "HANDS" (.tup [(.str "we"), (.str "weather")])
  v_MOST_LOWER : GloOk K mg "MOST_LOWER" (.int 20)
  v_MOST_ROWS : GloOk K mg "MOST_ROWS" (.int 3)
  v_MOST_STORES : GloOk K mg "MOST_STORES" (.int 5)
  v_MOST_UPPER : GloOk K mg "MOST_UPPER" (.int 999)
  v_NOUGHT : GloOk K mg "NOUGHT" (.tup [(.int 0), (.int 1)])
theorem S__law_numbers : FnScope ["_law_script", "_law_many", "_law_drawn", "_law_seed", "_law_cell", "_law_rest", "_law_k"] ["_law_script", "_law_many"] (defScope s__law_numbers) := ⟨rfl, rfl, rfl, by decide +kernel, rfl, by decide +kernel, by decide +kernel⟩
theorem B__law_numbers {P : Program} {w : World} {K : PySem.W.Frag} {mg : Str → Option Value} {base : Heap} (x : Fx K mg) (sr : base.NoSeer) (tr : P.given.tree = none)
    (cdv : Value) (A : Around) (outer : List Env) (s : Shared) (H : Hp) (E : XK) (hr : Room 32 (A.deeper (envOfC "_law_numbers" (defScope s__law_numbers) s.heap.objs.size x.a__law_numbers cdv))) :
    DSs (cxOf (CX P w) P w K mg base ["_law_script", "_law_many", "_law_drawn", "_law_seed", "_law_cell", "_law_rest", "_law_k"] "_law_numbers" (defScope s__law_numbers) x.a__law_numbers cdv A outer s H E) (fun cls d _ H => E cls d H) m__law_numbers (defBody s__law_numbers) :=
  have S := S__law_numbers
  have tk := takes_of (X := cxOf (CX P w) P w K mg base ["_law_script", "_law_many", "_law_drawn", "_law_seed", "_law_cell", "_law_rest", "_law_k"] "_law_numbers" (defScope s__law_numbers) x.a__law_numbers cdv A outer s H E) rfl rfl rfl rfl
  have pyl : PylA P base (A.deeper (envOfC "_law_numbers" (defScope s__law_numbers) s.heap.objs.size x.a__law_numbers cdv)) ((envOfC "_law_numbers" (defScope s__law_numbers) s.heap.objs.size x.a__law_numbers cdv) :: outer) := ⟨sr, tr, ⟨_, _, rfl, rfl, rfl, rfl, rfl⟩, pyl_dp hr (by decide)⟩
  dss_cons (ds_set 2 S.nd rfl (loc_of rfl) (dr_lst (da_nil)) rfl (.inl rfl)) (dss_cons (ds_set 3 S.nd rfl (loc_of rfl) (dr_val (de_int)) rfl (.inl rfl)) (dss_cons (ds_for (passes_of rfl) rfl (di_seq (de_frz (dr_slice (de_loc 0 rfl (vis_of rfl) rfl rfl) (do_none) (do_some (de_int))))) (dg_name 4 S.nd rfl (loc_of rfl) (fn_of rfl)) (dss_cons (ds_set 3 S.nd rfl (loc_of rfl) (dr_val (de_op (op_modN) od_mod (de_op (op_add) od_add (de_op (op_add) od_add (de_op (op_mulB) od_mul (de_loc 3 rfl (vis_of rfl) rfl rfl) (de_int)) (de_op (op_modN) od_mod (de_loc 4 rfl (vis_of rfl) rfl rfl) (de_int))) (de_int)) (de_int))) rfl (.inl rfl)) (dss_cons (ds_set 5 S.nd rfl (loc_of rfl) (dr_val (de_op (op_sub) od_sub (de_loc 4 rfl (vis_of rfl) rfl rfl) (de_op (op_pow) od_pow (de_int) (de_int)))) rfl (.inl rfl)) (dss_cons (ds_if (dt_cmp (op_lt) od_lt (de_loc 5 rfl (vis_of rfl) rfl rfl) (de_int) (nomark _)) (dss_one (ds_expr (de_mt 2 PySem.F.slot_list_append PySem.F.type_list_append mt_append md_append rfl (vis_of rfl) rfl rfl (da_cons (de_op (op_modN) od_mod (de_loc 4 rfl (vis_of rfl) rfl rfl) (de_int)) (da_nil) rfl) rfl rfl rfl rfl rfl) rfl)) (dss_nil)) (dss_one (ds_for (passes_of rfl) rfl (di_rng1 rfl x.n_range (da_cons (de_int) (da_nil) rfl) rfl) (dg_name 6 S.nd rfl (loc_of rfl) (fn_of rfl)) (dss_one (ds_if (dt_cmp (op_gt) od_gt (de_loc 5 rfl (vis_of rfl) rfl rfl) (de_int) (nomark _)) (dss_cons (ds_expr (de_mt 2 PySem.F.slot_list_append PySem.F.type_list_append mt_append md_append rfl (vis_of rfl) rfl rfl (da_cons (de_op (op_modN) od_mod (de_loc 5 rfl (vis_of rfl) rfl rfl) (de_int)) (da_nil) rfl) rfl rfl rfl rfl rfl) rfl) (dss_one (ds_set 5 S.nd rfl (loc_of rfl) (dr_val (de_op (op_fdivB pyl) od_fdiv (de_loc 5 rfl (vis_of rfl) rfl rfl) (de_int))) rfl (.inl rfl)))) (dss_nil))) (fun _ => rfl)))))) (fun _ => rfl)) (dss_cons (ds_while (passes_of rfl) (dt_cmp (op_lt) od_lt (de_frz (dr_callBO 2 call_len cs_len rfl x.n_len boot_len rfl (vis_of rfl) rfl rfl (by decide) rfl rfl rfl)) (de_loc 1 rfl (vis_of rfl) rfl rfl) (nomark _)) (dss_cons (ds_set 3 S.nd rfl (loc_of rfl) (dr_val (de_op (op_modN) od_mod (de_op (op_add) od_add (de_op (op_add) od_add (de_op (op_add) od_add (de_op (op_mulB) od_mul (de_loc 3 rfl (vis_of rfl) rfl rfl) (de_loc 3 rfl (vis_of rfl) rfl rfl)) (de_op (op_mulB) od_mul (de_int) (de_loc 3 rfl (vis_of rfl) rfl rfl))) (de_op (op_mulB) od_mul (de_int) (de_frz (dr_callBO 2 call_len cs_len rfl x.n_len boot_len rfl (vis_of rfl) rfl rfl (by decide) rfl rfl rfl)))) (de_int)) (de_int))) rfl (.inl rfl)) (dss_one (ds_expr (de_mt 2 PySem.F.slot_list_append PySem.F.type_list_append mt_append md_append rfl (vis_of rfl) rfl rfl (da_cons (de_op (op_modN) od_mod (de_op (op_fdivB pyl) od_fdiv (de_loc 3 rfl (vis_of rfl) rfl rfl) (de_int)) (de_int)) (da_nil) rfl) rfl rfl rfl rfl rfl) rfl)))) (dss_one (ds_ret (dr_sliceO 2 rfl (vis_of rfl) rfl rfl (do_none) (do_some (de_loc 1 rfl (vis_of rfl) rfl rfl))))))))
theorem F__law_numbers {P : Program} {w : World} {K : PySem.W.Frag} {mg : Str → Option Value} {base : Heap} (x : Fx K mg) (sr : base.NoSeer) (tr : P.given.tree = none) : FnOk P w K mg base (CX P w) 33 x.a__law_numbers x.d__law_numbers ["_law_script", "_law_many"] (spD K 2 Ph__law_numbers) :=
  fn_body x.F__law_numbers S__law_numbers fun cdv A outer s H E hr => B__law_numbers x sr tr cdv A outer s H E hr
theorem S__law_part : FnScope ["_law_up", "_law_down", "_law_this", "_law_that", "_law_side"] ["_law_up", "_law_down"] (defScope s__law_part) := ⟨rfl, rfl, rfl, by decide +kernel, rfl, by decide +kernel, by decide +kernel⟩
theorem B__law_part {P : Program} {w : World} {K : PySem.W.Frag} {mg : Str → Option Value} {base : Heap} (x : Fx K mg) (sr : base.NoSeer) (tr : P.given.tree = none)
    (cdv : Value) (A : Around) (outer : List Env) (s : Shared) (H : Hp) (E : XK) (hr : Room 32 (A.deeper (envOfC "_law_part" (defScope s__law_part) s.heap.objs.size x.a__law_part cdv))) :
    DSs (cxOf (CX P w) P w K mg base ["_law_up", "_law_down", "_law_this", "_law_that", "_law_side"] "_law_part" (defScope s__law_part) x.a__law_part cdv A outer s H E) (fun cls d _ H => E cls d H) m__law_part (defBody s__law_part) :=
  have S := S__law_part
  have tk := takes_of (X := cxOf (CX P w) P w K mg base ["_law_up", "_law_down", "_law_this", "_law_that", "_law_side"] "_law_part" (defScope s__law_part) x.a__law_part cdv A outer s H E) rfl rfl rfl rfl
  have pyl : PylA P base (A.deeper (envOfC "_law_part" (defScope s__law_part) s.heap.objs.size x.a__law_part cdv)) ((envOfC "_law_part" (defScope s__law_part) s.heap.objs.size x.a__law_part cdv) :: outer) := ⟨sr, tr, ⟨_, _, rfl, rfl, rfl, rfl, rfl⟩, pyl_dp hr (by decide)⟩
  dss_cons (ds_par 2 3 rfl S.nd rfl rfl (by decide) rfl rfl (da_cons (de_frz (dr_callB call_abs cb_abs rfl x.n_abs boot_abs (da_cons (de_loc 0 rfl (vis_of rfl) rfl rfl) (da_nil) rfl) (by decide) rfl rfl rfl)) (da_cons (de_frz (dr_callB call_abs cb_abs rfl x.n_abs boot_abs (da_cons (de_loc 1 rfl (vis_of rfl) rfl rfl) (da_nil) rfl) (by decide) rfl rfl rfl)) (da_nil) rfl) rfl) rfl rfl) (dss_cons (ds_while (passes_of rfl) (dt_cmp (op_gt) od_gt (de_loc 3 rfl (vis_of rfl) rfl rfl) (de_int) (nomark _)) (dss_one (ds_par 2 3 rfl S.nd rfl rfl (by decide) rfl rfl (da_cons (de_loc 3 rfl (vis_of rfl) rfl rfl) (da_cons (de_op (op_modN) od_mod (de_loc 2 rfl (vis_of rfl) rfl rfl) (de_loc 3 rfl (vis_of rfl) rfl rfl)) (da_nil) rfl) rfl) rfl rfl))) (dss_cons (ds_set 4 S.nd rfl (loc_of rfl) (dr_val (de_ife (dt_cmp (op_gt) od_gt (de_loc 1 rfl (vis_of rfl) rfl rfl) (de_int) (nomark _)) (de_loc 2 rfl (vis_of rfl) rfl rfl) (de_op (op_sub) od_sub (de_int) (de_loc 2 rfl (vis_of rfl) rfl rfl)))) rfl (.inl rfl)) (dss_one (ds_ret (dr_val (de_tup (da_cons (de_op (op_fdivB pyl) od_fdiv (de_loc 0 rfl (vis_of rfl) rfl rfl) (de_loc 4 rfl (vis_of rfl) rfl rfl)) (da_cons (de_op (op_fdivB pyl) od_fdiv (de_loc 1 rfl (vis_of rfl) rfl rfl) (de_loc 4 rfl (vis_of rfl) rfl rfl)) (da_nil) rfl) rfl)))))))
theorem F__law_part {P : Program} {w : World} {K : PySem.W.Frag} {mg : Str → Option Value} {base : Heap} (x : Fx K mg) (sr : base.NoSeer) (tr : P.given.tree = none) : FnOk P w K mg base (CX P w) 33 x.a__law_part x.d__law_part ["_law_up", "_law_down"] (spD K 2 Ph__law_part) :=
  fn_body x.F__law_part S__law_part fun cdv A outer s H E hr => B__law_part x sr tr cdv A outer s H E hr
theorem S__law_share : FnScope ["_law_number"] ["_law_number"] (defScope s__law_share) := ⟨rfl, rfl, rfl, by decide +kernel, rfl, by decide +kernel, by decide +kernel⟩
theorem B__law_share {P : Program} {w : World} {K : PySem.W.Frag} {mg : Str → Option Value} {base : Heap} (x : Fx K mg) (sr : base.NoSeer) (tr : P.given.tree = none)
    (cdv : Value) (A : Around) (outer : List Env) (s : Shared) (H : Hp) (E : XK) (hr : Room 33 (A.deeper (envOfC "_law_share" (defScope s__law_share) s.heap.objs.size x.a__law_share cdv))) :
    DSs (cxOf (CX P w) P w K mg base ["_law_number"] "_law_share" (defScope s__law_share) x.a__law_share cdv A outer s H E) (fun cls d _ H => E cls d H) m__law_share (defBody s__law_share) :=
  have S := S__law_share
  have tk := takes_of (X := cxOf (CX P w) P w K mg base ["_law_number"] "_law_share" (defScope s__law_share) x.a__law_share cdv A outer s H E) rfl rfl rfl rfl
  have pyl : PylA P base (A.deeper (envOfC "_law_share" (defScope s__law_share) s.heap.objs.size x.a__law_share cdv)) ((envOfC "_law_share" (defScope s__law_share) s.heap.objs.size x.a__law_share cdv) :: outer) := ⟨sr, tr, ⟨_, _, rfl, rfl, rfl, rfl, rfl⟩, pyl_dp hr (by decide)⟩
  dss_one (ds_ret (dr_call (k := 33) (ps := ["_law_up", "_law_down"]) (F__law_part x sr tr) (hr.mono (by decide)) rfl x.g__law_part x.F__law_part.kp x.b__law_part .nil Dfl.nil tk (da_cons (de_ix (de_frz (dr_lst (da_cons (de_int) (da_cons (de_int) (da_cons (de_int) (da_cons (de_int) (da_cons (de_int) (da_cons (de_int) (da_cons (de_int) (da_cons (de_int) (da_nil) rfl) rfl) rfl) rfl) rfl) rfl) rfl) rfl))) (de_op (op_modN) od_mod (de_loc 0 rfl (vis_of rfl) rfl rfl) (de_int)) (fun _ _ => rfl)) (da_cons (de_ix (de_frz (dr_lst (da_cons (de_int) (da_cons (de_int) (da_cons (de_int) (da_cons (de_int) (da_cons (de_int) (da_nil) rfl) rfl) rfl) rfl) rfl))) (de_op (op_modN) od_mod (de_op (op_fdivB pyl) od_fdiv (de_loc 0 rfl (vis_of rfl) rfl rfl) (de_int)) (de_int)) (fun _ _ => rfl)) (da_nil) rfl) rfl) rfl rfl rfl))
theorem F__law_share {P : Program} {w : World} {K : PySem.W.Frag} {mg : Str → Option Value} {base : Heap} (x : Fx K mg) (sr : base.NoSeer) (tr : P.given.tree = none) : FnOk P w K mg base (CX P w) 34 x.a__law_share x.d__law_share ["_law_number"] (spD K 1 Ph__law_share) :=
  fn_body x.F__law_share S__law_share fun cdv A outer s H E hr => B__law_share x sr tr cdv A outer s H E hr
theorem S__law_times : FnScope ["_law_this", "_law_that"] ["_law_this", "_law_that"] (defScope s__law_times) := ⟨rfl, rfl, rfl, by decide +kernel, rfl, by decide +kernel, by decide +kernel⟩
theorem B__law_times {P : Program} {w : World} {K : PySem.W.Frag} {mg : Str → Option Value} {base : Heap} (x : Fx K mg) (sr : base.NoSeer) (tr : P.given.tree = none)
    (cdv : Value) (A : Around) (outer : List Env) (s : Shared) (H : Hp) (E : XK) (hr : Room 33 (A.deeper (envOfC "_law_times" (defScope s__law_times) s.heap.objs.size x.a__law_times cdv))) :
    DSs (cxOf (CX P w) P w K mg base ["_law_this", "_law_that"] "_law_times" (defScope s__law_times) x.a__law_times cdv A outer s H E) (fun cls d _ H => E cls d H) m__law_times (defBody s__law_times) :=
  have S := S__law_times
  have tk := takes_of (X := cxOf (CX P w) P w K mg base ["_law_this", "_law_that"] "_law_times" (defScope s__law_times) x.a__law_times cdv A outer s H E) rfl rfl rfl rfl
  have pyl : PylA P base (A.deeper (envOfC "_law_times" (defScope s__law_times) s.heap.objs.size x.a__law_times cdv)) ((envOfC "_law_times" (defScope s__law_times) s.heap.objs.size x.a__law_times cdv) :: outer) := ⟨sr, tr, ⟨_, _, rfl, rfl, rfl, rfl, rfl⟩, pyl_dp hr (by decide)⟩
  dss_one (ds_ret (dr_call (k := 33) (ps := ["_law_up", "_law_down"]) (F__law_part x sr tr) (hr.mono (by decide)) rfl x.g__law_part x.F__law_part.kp x.b__law_part .nil Dfl.nil tk (da_cons (de_op (op_mulB) od_mul (de_ix (de_loc 0 rfl (vis_of rfl) rfl rfl) (de_int) (fun _ _ => rfl)) (de_ix (de_loc 1 rfl (vis_of rfl) rfl rfl) (de_int) (fun _ _ => rfl))) (da_cons (de_op (op_mulB) od_mul (de_ix (de_loc 0 rfl (vis_of rfl) rfl rfl) (de_int) (fun _ _ => rfl)) (de_ix (de_loc 1 rfl (vis_of rfl) rfl rfl) (de_int) (fun _ _ => rfl))) (da_nil) rfl) rfl) rfl rfl rfl))
theorem F__law_times {P : Program} {w : World} {K : PySem.W.Frag} {mg : Str → Option Value} {base : Heap} (x : Fx K mg) (sr : base.NoSeer) (tr : P.given.tree = none) : FnOk P w K mg base (CX P w) 34 x.a__law_times x.d__law_times ["_law_this", "_law_that"] (spD K 2 Ph__law_times) :=
  fn_body x.F__law_times S__law_times fun cdv A outer s H E hr => B__law_times x sr tr cdv A outer s H E hr
theorem S__law_menus : FnScope ["_law_d", "_law_upto", "_law_many", "_law_thin", "_law_found", "_law_k", "_law_own", "_law_lines", "_law_r", "_law_some", "_law_by_here", "_law_this", "_law_at", "_law_that"] ["_law_d", "_law_upto"] (defScope s__law_menus) := ⟨rfl, rfl, rfl, by decide +kernel, rfl, by decide +kernel, by decide +kernel⟩
theorem B__law_menus {P : Program} {w : World} {K : PySem.W.Frag} {mg : Str → Option Value} {base : Heap} (x : Fx K mg) (sr : base.NoSeer) (tr : P.given.tree = none)
    (cdv : Value) (A : Around) (outer : List Env) (s : Shared) (H : Hp) (E : XK) (hr : Room 34 (A.deeper (envOfC "_law_menus" (defScope s__law_menus) s.heap.objs.size x.a__law_menus cdv))) :
    DSs (cxOf (CX P w) P w K mg base ["_law_d", "_law_upto", "_law_many", "_law_thin", "_law_found", "_law_k", "_law_own", "_law_lines", "_law_r", "_law_some", "_law_by_here", "_law_this", "_law_at", "_law_that"] "_law_menus" (defScope s__law_menus) x.a__law_menus cdv A outer s H E) (fun cls d _ H => E cls d H) m__law_menus (defBody s__law_menus) :=
  have S := S__law_menus
  have tk := takes_of (X := cxOf (CX P w) P w K mg base ["_law_d", "_law_upto", "_law_many", "_law_thin", "_law_found", "_law_k", "_law_own", "_law_lines", "_law_r", "_law_some", "_law_by_here", "_law_this", "_law_at", "_law_that"] "_law_menus" (defScope s__law_menus) x.a__law_menus cdv A outer s H E) rfl rfl rfl rfl
  have pyl : PylA P base (A.deeper (envOfC "_law_menus" (defScope s__law_menus) s.heap.objs.size x.a__law_menus cdv)) ((envOfC "_law_menus" (defScope s__law_menus) s.heap.objs.size x.a__law_menus cdv) :: outer) := ⟨sr, tr, ⟨_, _, rfl, rfl, rfl, rfl, rfl⟩, pyl_dp hr (by decide)⟩
  dss_cons (ds_set 2 S.nd rfl (loc_of rfl) (dr_val (de_op (op_add) od_add (de_int) (de_op (op_modN) od_mod (de_ix (de_loc 0 rfl (vis_of rfl) rfl rfl) (de_int) (fun _ _ => rfl)) (de_loc 1 rfl (vis_of rfl) rfl rfl)))) rfl (.inl rfl)) (dss_cons (ds_set 3 S.nd rfl (loc_of rfl) (dr_val (de_op (op_modN) od_mod (de_op (op_fdivB pyl) od_fdiv (de_ix (de_loc 0 rfl (vis_of rfl) rfl rfl) (de_int) (fun _ _ => rfl)) (de_loc 1 rfl (vis_of rfl) rfl rfl)) (de_int))) rfl (.inl rfl)) (dss_cons (ds_set 4 S.nd rfl (loc_of rfl) (dr_lst (da_nil)) rfl (.inl rfl)) (dss_cons (ds_for (passes_of rfl) rfl (di_rng1 rfl x.n_range (da_cons (de_loc 2 rfl (vis_of rfl) rfl rfl) (da_nil) rfl) rfl) (dg_name 5 S.nd rfl (loc_of rfl) (fn_of rfl)) (dss_cons (ds_set 6 S.nd rfl (loc_of rfl) (dr_val (de_frz (dr_slice (de_loc 0 rfl (vis_of rfl) rfl rfl) (do_some (de_op (op_add) od_add (de_int) (de_op (op_mulB) od_mul (de_int) (de_loc 5 rfl (vis_of rfl) rfl rfl)))) (do_some (de_op (op_add) od_add (de_int) (de_op (op_mulB) od_mul (de_int) (de_loc 5 rfl (vis_of rfl) rfl rfl))))))) rfl (.inl rfl)) (dss_cons (ds_set 7 S.nd rfl (loc_of rfl) (dr_lst (da_nil)) rfl (.inl rfl)) (dss_cons (ds_for (passes_of rfl) rfl (di_rng1 rfl x.n_range (da_cons (de_op (op_add) od_add (de_int) (de_op (op_modN) od_mod (de_ix (de_loc 6 rfl (vis_of rfl) rfl rfl) (de_int) (fun _ _ => rfl)) (de_int))) (da_nil) rfl) rfl) (dg_name 8 S.nd rfl (loc_of rfl) (fn_of rfl)) (dss_cons (ds_then (ds_setLc 9 rfl S.nd rfl rfl (sw_true rfl rfl rfl rfl) (own := [("_law_this", 11)]) (is := [11]) (di_seq (de_frz (dr_slice (de_loc 6 rfl (vis_of rfl) rfl rfl) (do_some (de_op (op_add) od_add (de_int) (de_op (op_mulB) od_mul (de_int) (de_loc 8 rfl (vis_of rfl) rfl rfl)))) (do_some (de_op (op_add) od_add (de_op (op_add) od_add (de_int) (de_op (op_mulB) od_mul (de_int) (de_loc 8 rfl (vis_of rfl) rfl rfl))) (de_loc 2 rfl (vis_of rfl) rfl rfl)))))) (blkOk_by (by kernel_rfl)) (by decide) (fun _ _ _ _ _ => dg_name 11 S.nd rfl (loc_of rfl) (fn_of rfl)) (fun _ _ _ _ _ => dts_nil) (fun _ _ _ _ _ => de_frz (dr_call (k := 34) (ps := ["_law_number"]) (F__law_share x sr tr) (hr.mono (by decide)) rfl x.g__law_share x.F__law_share.kp x.b__law_share .nil Dfl.nil takesW0 (da_cons (de_loc 11 rfl (vis_of rfl) rfl rfl) (da_nil) rfl) rfl rfl rfl)) (fun _ => rfl))) (dss_cons (ds_then (ds_setLc 10 rfl S.nd rfl rfl (sw_true rfl rfl rfl rfl) (own := [("_law_at", 12)]) (is := [12]) (di_rng1 rfl x.n_range (da_cons (de_loc 2 rfl (vis_of rfl) rfl rfl) (da_nil) rfl) rfl) (blkOk_by (by kernel_rfl)) (by decide) (fun _ _ _ _ _ => dg_name 12 S.nd rfl (loc_of rfl) (fn_of rfl)) (fun _ _ _ _ _ => dts_nil) (fun _ _ _ _ _ => de_ix (de_frz (dr_lst (da_cons (de_tup (da_cons (de_int) (da_cons (de_int) (da_nil) rfl) rfl)) (da_cons (de_tup (da_cons (de_int) (da_cons (de_int) (da_nil) rfl) rfl)) (da_cons (de_tup (da_cons (de_int) (da_cons (de_int) (da_nil) rfl) rfl)) (da_nil) rfl) rfl) rfl))) (de_op (op_modN) od_mod (de_op (op_add) od_add (de_op (op_fdivB pyl) od_fdiv (de_ix (de_loc 6 rfl (vis_of rfl) rfl rfl) (de_int) (fun _ _ => rfl)) (de_int)) (de_loc 12 rfl (vis_of rfl) rfl rfl)) (de_int)) (fun _ _ => rfl)) (fun _ => rfl))) (dss_cons (ds_if (dt_cmp (op_eqD (u64 hr)) od_eq (de_loc 3 rfl (vis_of rfl) rfl rfl) (de_int) (nomark _)) (dss_one (ds_then (ds_setLc 9 rfl S.nd rfl rfl (sw_true rfl rfl rfl rfl) (own := [("_law_this", 11), ("_law_that", 13)]) (is := ([11] ++ ([13] ++ []))) (di_zip rfl x.n_zip (da_cons (de_loc 9 rfl (vis_of rfl) rfl rfl) (da_cons (de_loc 10 rfl (vis_of rfl) rfl rfl) (da_nil) rfl) rfl) rfl rfl) (blkOk_by (by kernel_rfl)) (by decide) (fun _ _ _ _ _ => dg_tup rfl (dgs_cons (dg_name 11 S.nd rfl (loc_of rfl) (fn_of rfl)) (dgs_cons (dg_name 13 S.nd rfl (loc_of rfl) (fn_of rfl)) (dgs_nil) rfl) rfl) rfl rfl) (fun _ _ _ _ _ => dts_nil) (fun _ _ _ _ _ => de_frz (dr_call (k := 34) (ps := ["_law_this", "_law_that"]) (F__law_times x sr tr) (hr.mono (by decide)) rfl x.g__law_times x.F__law_times.kp x.b__law_times .nil Dfl.nil takesW0 (da_cons (de_loc 11 rfl (vis_of rfl) rfl rfl) (da_cons (de_loc 13 rfl (vis_of rfl) rfl rfl) (da_nil) rfl) rfl) rfl rfl rfl)) (fun _ => rfl)))) (dss_nil)) (dss_one (ds_expr (de_mt 7 PySem.F.slot_list_append PySem.F.type_list_append mt_append md_append rfl (vis_of rfl) rfl rfl (da_cons (de_frz (dr_callTy call_tuple_of cb_tuple rfl x.n_tuple boot_tuple (da_cons (de_loc 9 rfl (vis_of rfl) rfl rfl) (da_nil) rfl) (by decide) rfl rfl rfl)) (da_nil) rfl) rfl rfl rfl rfl rfl) rfl))))) (fun _ => rfl)) (dss_one (ds_expr (de_mt 4 PySem.F.slot_list_append PySem.F.type_list_append mt_append md_append rfl (vis_of rfl) rfl rfl (da_cons (de_tup (da_cons (de_ix (de_frz (dr_lst (da_cons (de_str) (da_cons (de_str) (da_nil) rfl) rfl))) (de_op (op_modN) od_mod (de_ix (de_loc 6 rfl (vis_of rfl) rfl rfl) (de_int) (fun _ _ => rfl)) (de_int)) (fun _ _ => rfl)) (da_cons (de_frz (dr_callTyO 7 call_tuple_of cs_tuple rfl x.n_tuple boot_tuple rfl (vis_of rfl) rfl rfl (by decide) rfl rfl rfl)) (da_nil) rfl) rfl)) (da_nil) rfl) rfl rfl rfl rfl rfl) rfl))))) (fun _ => rfl)) (dss_one (ds_ret (dr_callTyO 4 call_tuple_of cs_tuple rfl x.n_tuple boot_tuple rfl (vis_of rfl) rfl rfl (by decide) rfl rfl rfl))))))
theorem F__law_menus {P : Program} {w : World} {K : PySem.W.Frag} {mg : Str → Option Value} {base : Heap} (x : Fx K mg) (sr : base.NoSeer) (tr : P.given.tree = none) : FnOk P w K mg base (CX P w) 35 x.a__law_menus x.d__law_menus ["_law_d", "_law_upto"] (spD K 2 Ph__law_menus) :=
  fn_body x.F__law_menus S__law_menus fun cdv A outer s H E hr => B__law_menus x sr tr cdv A outer s H E hr
theorem S__law_few : FnScope ["_law_d", "_law_full", "_law_k", "_law_whose", "_law_lines"] ["_law_d"] (defScope s__law_few) := ⟨rfl, rfl, rfl, by decide +kernel, rfl, by decide +kernel, by decide +kernel⟩
theorem B__law_few {P : Program} {w : World} {K : PySem.W.Frag} {mg : Str → Option Value} {base : Heap} (x : Fx K mg) (sr : base.NoSeer) (tr : P.given.tree = none)
    (cdv : Value) (A : Around) (outer : List Env) (s : Shared) (H : Hp) (E : XK) (hr : Room 35 (A.deeper (envOfC "_law_few" (defScope s__law_few) s.heap.objs.size x.a__law_few cdv))) :
    DSs (cxOf (CX P w) P w K mg base ["_law_d", "_law_full", "_law_k", "_law_whose", "_law_lines"] "_law_few" (defScope s__law_few) x.a__law_few cdv A outer s H E) (fun cls d _ H => E cls d H) m__law_few (defBody s__law_few) :=
  have S := S__law_few
  have tk := takes_of (X := cxOf (CX P w) P w K mg base ["_law_d", "_law_full", "_law_k", "_law_whose", "_law_lines"] "_law_few" (defScope s__law_few) x.a__law_few cdv A outer s H E) rfl rfl rfl rfl
  have pyl : PylA P base (A.deeper (envOfC "_law_few" (defScope s__law_few) s.heap.objs.size x.a__law_few cdv)) ((envOfC "_law_few" (defScope s__law_few) s.heap.objs.size x.a__law_few cdv) :: outer) := ⟨sr, tr, ⟨_, _, rfl, rfl, rfl, rfl, rfl⟩, pyl_dp hr (by decide)⟩
  dss_cons (ds_set 1 S.nd rfl (loc_of rfl) (dr_val (de_frz (dr_call (k := 35) (ps := ["_law_d", "_law_upto"]) (F__law_menus x sr tr) (hr.mono (by decide)) rfl x.g__law_menus x.F__law_menus.kp x.b__law_menus .nil Dfl.nil tk (da_cons (de_op (op_cat) od_addL (de_frz (dr_lst (da_cons (de_op (op_add) od_add (de_int) (de_op (op_modN) od_mod (de_ix (de_loc 0 rfl (vis_of rfl) rfl rfl) (de_int) (fun _ _ => rfl)) (de_int))) (da_nil) rfl))) (de_frz (dr_slice (de_loc 0 rfl (vis_of rfl) rfl rfl) (do_some (de_int)) (do_none)))) (da_cons (de_int) (da_nil) rfl) rfl) rfl rfl rfl))) rfl (.inl rfl)) (dss_one (ds_ret (dr_callTy call_tuple_of cb_tuple rfl x.n_tuple boot_tuple (da_cons (de_frz (dr_lc (own := [("_law_k", 2), ("_law_whose", 3), ("_law_lines", 4)]) (is := ([2] ++ (([3] ++ ([4] ++ [])) ++ []))) rfl S.nd (di_enum rfl x.n_enumerate (da_cons (de_loc 1 rfl (vis_of rfl) rfl rfl) (da_nil) rfl) rfl) (blkOk_by (by kernel_rfl)) (by decide) (fun _ _ _ _ _ => dg_tup rfl (dgs_cons (dg_name 2 S.nd rfl (loc_of rfl) (fn_of rfl)) (dgs_cons (dg_tup rfl (dgs_cons (dg_name 3 S.nd rfl (loc_of rfl) (fn_of rfl)) (dgs_cons (dg_name 4 S.nd rfl (loc_of rfl) (fn_of rfl)) (dgs_nil) rfl) rfl) rfl rfl) (dgs_nil) rfl) rfl) rfl rfl) (fun _ _ _ _ _ => dts_nil) (fun _ _ _ _ _ => de_tup (da_cons (de_loc 3 rfl (vis_of rfl) rfl rfl) (da_cons (de_frz (dr_slice (de_loc 4 rfl (vis_of rfl) rfl rfl) (do_none) (do_some (de_op (op_add) od_add (de_int) (de_frz (dr_callTy call_int1 cb_int rfl x.n_int boot_int (da_cons (de_cmp (op_lt) od_lt (de_loc 2 rfl (vis_of rfl) rfl rfl) (de_int) (nomark _)) (da_nil) rfl) (by decide) rfl rfl rfl)))))) (da_nil) rfl) rfl)) (fun _ => rfl))) (da_nil) rfl) (by decide) rfl rfl rfl)))
theorem F__law_few {P : Program} {w : World} {K : PySem.W.Frag} {mg : Str → Option Value} {base : Heap} (x : Fx K mg) (sr : base.NoSeer) (tr : P.given.tree = none) : FnOk P w K mg base (CX P w) 36 x.a__law_few x.d__law_few ["_law_d"] (spD K 1 Ph__law_few) :=
  fn_body x.F__law_few S__law_few fun cdv A outer s H E hr => B__law_few x sr tr cdv A outer s H E hr
theorem S__law_beside : FnScope ["_law_d", "_law_book", "_law_at", "_law_whose", "_law_lines", "_law_spot", "_law_to", "_law_line"] ["_law_d", "_law_book"] (defScope s__law_beside) := ⟨rfl, rfl, rfl, by decide +kernel, rfl, by decide +kernel, by decide +kernel⟩
theorem B__law_beside {P : Program} {w : World} {K : PySem.W.Frag} {mg : Str → Option Value} {base : Heap} (x : Fx K mg) (sr : base.NoSeer) (tr : P.given.tree = none)
    (cdv : Value) (A : Around) (outer : List Env) (s : Shared) (H : Hp) (E : XK) (hr : Room 34 (A.deeper (envOfC "_law_beside" (defScope s__law_beside) s.heap.objs.size x.a__law_beside cdv))) :
    DSs (cxOf (CX P w) P w K mg base ["_law_d", "_law_book", "_law_at", "_law_whose", "_law_lines", "_law_spot", "_law_to", "_law_line"] "_law_beside" (defScope s__law_beside) x.a__law_beside cdv A outer s H E) (fun cls d _ H => E cls d H) m__law_beside (defBody s__law_beside) :=
  have S := S__law_beside
  have tk := takes_of (X := cxOf (CX P w) P w K mg base ["_law_d", "_law_book", "_law_at", "_law_whose", "_law_lines", "_law_spot", "_law_to", "_law_line"] "_law_beside" (defScope s__law_beside) x.a__law_beside cdv A outer s H E) rfl rfl rfl rfl
  have pyl : PylA P base (A.deeper (envOfC "_law_beside" (defScope s__law_beside) s.heap.objs.size x.a__law_beside cdv)) ((envOfC "_law_beside" (defScope s__law_beside) s.heap.objs.size x.a__law_beside cdv) :: outer) := ⟨sr, tr, ⟨_, _, rfl, rfl, rfl, rfl, rfl⟩, pyl_dp hr (by decide)⟩
  dss_cons (ds_set 2 S.nd rfl (loc_of rfl) (dr_val (de_op (op_modN) od_mod (de_ix (de_loc 0 rfl (vis_of rfl) rfl rfl) (de_int) (fun _ _ => rfl)) (de_frz (dr_callB call_len cb_len rfl x.n_len boot_len (da_cons (de_loc 1 rfl (vis_of rfl) rfl rfl) (da_nil) rfl) (by decide) rfl rfl rfl)))) rfl (.inl rfl)) (dss_cons (ds_asg (de_ix (de_loc 1 rfl (vis_of rfl) rfl rfl) (de_loc 2 rfl (vis_of rfl) rfl rfl) (fun _ _ => rfl)) (dg_tup rfl (dgs_cons (dg_name 3 S.nd rfl (loc_of rfl) (fn_of rfl)) (dgs_cons (dg_name 4 S.nd rfl (loc_of rfl) (fn_of rfl)) (dgs_nil) rfl) rfl) rfl rfl) rfl rfl rfl) (dss_cons (ds_par 5 6 rfl S.nd rfl rfl (by decide) rfl rfl (da_cons (de_op (op_modN) od_mod (de_ix (de_loc 0 rfl (vis_of rfl) rfl rfl) (de_int) (fun _ _ => rfl)) (de_frz (dr_callB call_len cb_len rfl x.n_len boot_len (da_cons (de_loc 4 rfl (vis_of rfl) rfl rfl) (da_nil) rfl) (by decide) rfl rfl rfl))) (da_cons (de_op (op_modN) od_mod (de_ix (de_loc 0 rfl (vis_of rfl) rfl rfl) (de_int) (fun _ _ => rfl)) (de_frz (dr_callB call_len cb_len rfl x.n_len boot_len (da_cons (de_loc 1 rfl (vis_of rfl) rfl rfl) (da_nil) rfl) (by decide) rfl rfl rfl))) (da_nil) rfl) rfl) rfl rfl) (dss_cons (ds_set 7 S.nd rfl (loc_of rfl) (dr_val (de_ix (de_loc 4 rfl (vis_of rfl) rfl rfl) (de_loc 5 rfl (vis_of rfl) rfl rfl) (fun _ _ => rfl))) rfl (.inl rfl)) (dss_cons (ds_set 7 S.nd rfl (loc_of rfl) (dr_val (de_op (op_catA) od_addT (de_op (op_catA) od_addT (de_frz (dr_slice (de_loc 7 rfl (vis_of rfl) rfl rfl) (do_none) (do_some (de_loc 6 rfl (vis_of rfl) rfl rfl)))) (de_tup (da_cons (de_frz (dr_call (k := 34) (ps := ["_law_number"]) (F__law_share x sr tr) (hr.mono (by decide)) rfl x.g__law_share x.F__law_share.kp x.b__law_share .nil Dfl.nil tk (da_cons (de_ix (de_loc 0 rfl (vis_of rfl) rfl rfl) (de_int) (fun _ _ => rfl)) (da_nil) rfl) rfl rfl rfl)) (da_nil) rfl))) (de_frz (dr_slice (de_loc 7 rfl (vis_of rfl) rfl rfl) (do_some (de_op (op_add) od_add (de_loc 6 rfl (vis_of rfl) rfl rfl) (de_int))) (do_none))))) rfl (.inl rfl)) (dss_cons (ds_set 4 S.nd rfl (loc_of rfl) (dr_val (de_op (op_catA) od_addT (de_op (op_catA) od_addT (de_frz (dr_slice (de_loc 4 rfl (vis_of rfl) rfl rfl) (do_none) (do_some (de_loc 5 rfl (vis_of rfl) rfl rfl)))) (de_tup (da_cons (de_loc 7 rfl (vis_of rfl) rfl rfl) (da_nil) rfl))) (de_frz (dr_slice (de_loc 4 rfl (vis_of rfl) rfl rfl) (do_some (de_op (op_add) od_add (de_loc 5 rfl (vis_of rfl) rfl rfl) (de_int))) (do_none))))) rfl (.inl rfl)) (dss_one (ds_ret (dr_val (de_op (op_catA) od_addT (de_op (op_catA) od_addT (de_frz (dr_slice (de_loc 1 rfl (vis_of rfl) rfl rfl) (do_none) (do_some (de_loc 2 rfl (vis_of rfl) rfl rfl)))) (de_tup (da_cons (de_tup (da_cons (de_loc 3 rfl (vis_of rfl) rfl rfl) (da_cons (de_loc 4 rfl (vis_of rfl) rfl rfl) (da_nil) rfl) rfl)) (da_nil) rfl))) (de_frz (dr_slice (de_loc 1 rfl (vis_of rfl) rfl rfl) (do_some (de_op (op_add) od_add (de_loc 2 rfl (vis_of rfl) rfl rfl) (de_int))) (do_none))))))))))))
theorem F__law_beside {P : Program} {w : World} {K : PySem.W.Frag} {mg : Str → Option Value} {base : Heap} (x : Fx K mg) (sr : base.NoSeer) (tr : P.given.tree = none) : FnOk P w K mg base (CX P w) 35 x.a__law_beside x.d__law_beside ["_law_d", "_law_book"] (spD K 2 Ph__law_beside) :=
  fn_body x.F__law_beside S__law_beside fun cdv A outer s H E hr => B__law_beside x sr tr cdv A outer s H E hr
theorem S__law_filling : FnScope ["_law_d", "_law_many", "_law_found", "_law_k"] ["_law_d", "_law_many"] (defScope s__law_filling) := ⟨rfl, rfl, rfl, by decide +kernel, rfl, by decide +kernel, by decide +kernel⟩
theorem B__law_filling {P : Program} {w : World} {K : PySem.W.Frag} {mg : Str → Option Value} {base : Heap} (x : Fx K mg) (sr : base.NoSeer) (tr : P.given.tree = none)
    (cdv : Value) (A : Around) (outer : List Env) (s : Shared) (H : Hp) (E : XK) (hr : Room 33 (A.deeper (envOfC "_law_filling" (defScope s__law_filling) s.heap.objs.size x.a__law_filling cdv))) :
    DSs (cxOf (CX P w) P w K mg base ["_law_d", "_law_many", "_law_found", "_law_k"] "_law_filling" (defScope s__law_filling) x.a__law_filling cdv A outer s H E) (fun cls d _ H => E cls d H) m__law_filling (defBody s__law_filling) :=
  have S := S__law_filling
  have tk := takes_of (X := cxOf (CX P w) P w K mg base ["_law_d", "_law_many", "_law_found", "_law_k"] "_law_filling" (defScope s__law_filling) x.a__law_filling cdv A outer s H E) rfl rfl rfl rfl
  have pyl : PylA P base (A.deeper (envOfC "_law_filling" (defScope s__law_filling) s.heap.objs.size x.a__law_filling cdv)) ((envOfC "_law_filling" (defScope s__law_filling) s.heap.objs.size x.a__law_filling cdv) :: outer) := ⟨sr, tr, ⟨_, _, rfl, rfl, rfl, rfl, rfl⟩, pyl_dp hr (by decide)⟩
  dss_cons (ds_set 2 S.nd rfl (loc_of rfl) (dr_lst (da_nil)) rfl (.inl rfl)) (dss_cons (ds_for (passes_of rfl) rfl (di_rng1 rfl x.n_range (da_cons (de_loc 1 rfl (vis_of rfl) rfl rfl) (da_nil) rfl) rfl) (dg_name 3 S.nd rfl (loc_of rfl) (fn_of rfl)) (dss_cons (ds_expr (de_mt 2 PySem.F.slot_list_append PySem.F.type_list_append mt_append md_append rfl (vis_of rfl) rfl rfl (da_cons (de_frz (dr_call (k := 33) (ps := ["_law_up", "_law_down"]) (F__law_part x sr tr) (hr.mono (by decide)) rfl x.g__law_part x.F__law_part.kp x.b__law_part .nil Dfl.nil tk (da_cons (de_ix (de_frz (dr_lst (da_cons (de_int) (da_cons (de_int) (da_cons (de_int) (da_cons (de_int) (da_cons (de_int) (da_cons (de_int) (da_cons (de_int) (da_nil) rfl) rfl) rfl) rfl) rfl) rfl) rfl))) (de_op (op_modN) od_mod (de_ix (de_loc 0 rfl (vis_of rfl) rfl rfl) (de_loc 3 rfl (vis_of rfl) rfl rfl) (fun _ _ => rfl)) (de_int)) (fun _ _ => rfl)) (da_cons (de_ix (de_frz (dr_lst (da_cons (de_int) (da_cons (de_int) (da_cons (de_int) (da_cons (de_int) (da_cons (de_int) (da_nil) rfl) rfl) rfl) rfl) rfl))) (de_op (op_modN) od_mod (de_op (op_fdivB pyl) od_fdiv (de_ix (de_loc 0 rfl (vis_of rfl) rfl rfl) (de_loc 3 rfl (vis_of rfl) rfl rfl) (fun _ _ => rfl)) (de_int)) (de_int)) (fun _ _ => rfl)) (da_nil) rfl) rfl) rfl rfl rfl)) (da_nil) rfl) rfl rfl rfl rfl rfl) rfl) (dss_killEnd)) (fun _ => rfl)) (dss_kill (dss_one (ds_ret (dr_take 2 rfl (vis_of rfl) rfl rfl)))))
theorem F__law_filling {P : Program} {w : World} {K : PySem.W.Frag} {mg : Str → Option Value} {base : Heap} (x : Fx K mg) (sr : base.NoSeer) (tr : P.given.tree = none) : FnOk P w K mg base (CX P w) 34 x.a__law_filling x.d__law_filling ["_law_d", "_law_many"] (spD K 2 Ph__law_filling) :=
  fn_body x.F__law_filling S__law_filling fun cdv A outer s H E hr => B__law_filling x sr tr cdv A outer s H E hr
theorem S_need_hand : FnScope ["hand"] ["hand"] (defScope s_need_hand) := ⟨rfl, rfl, rfl, by decide +kernel, rfl, by decide +kernel, by decide +kernel⟩
theorem B_need_hand {P : Program} {w : World} {K : PySem.W.Frag} {mg : Str → Option Value} {base : Heap} (x : Fx K mg) (sr : base.NoSeer) (tr : P.given.tree = none)
    (cdv : Value) (A : Around) (outer : List Env) (s : Shared) (H : Hp) (E : XK) (hr : Room 32 (A.deeper (envOfC "need_hand" (defScope s_need_hand) s.heap.objs.size x.a_need_hand cdv))) :
    DSs (cxOf (CX P w) P w K mg base ["hand"] "need_hand" (defScope s_need_hand) x.a_need_hand cdv A outer s H E) (fun cls d _ H => E cls d H) m_need_hand (defBody s_need_hand) :=
  have S := S_need_hand
  have tk := takes_of (X := cxOf (CX P w) P w K mg base ["hand"] "need_hand" (defScope s_need_hand) x.a_need_hand cdv A outer s H E) rfl rfl rfl rfl
  have pyl : PylA P base (A.deeper (envOfC "need_hand" (defScope s_need_hand) s.heap.objs.size x.a_need_hand cdv)) ((envOfC "need_hand" (defScope s_need_hand) s.heap.objs.size x.a_need_hand cdv) :: outer) := ⟨sr, tr, ⟨_, _, rfl, rfl, rfl, rfl, rfl⟩, pyl_dp hr (by decide)⟩
  dss_one (ds_if (dt_cmp (op_notIn_seq) od_notIn (de_loc 0 rfl (vis_of rfl) rfl rfl) (de_glo rfl x.v_HANDS rfl) (by with_unfolding_all rfl)) (dss_one (ds_bad)) (dss_nil))
theorem F_need_hand {P : Program} {w : World} {K : PySem.W.Frag} {mg : Str → Option Value} {base : Heap} (x : Fx K mg) (sr : base.NoSeer) (tr : P.given.tree = none) : FnOk P w K mg base (CX P w) 33 x.a_need_hand x.d_need_hand ["hand"] (spD K 1 Ph_need_hand) :=
  fn_body x.F_need_hand S_need_hand fun cdv A outer s H E hr => B_need_hand x sr tr cdv A outer s H E hr
theorem S_is_share : FnScope ["one"] ["one"] (defScope s_is_share) := ⟨rfl, rfl, rfl, by decide +kernel, rfl, by decide +kernel, by decide +kernel⟩
theorem B_is_share {P : Program} {w : World} {K : PySem.W.Frag} {mg : Str → Option Value} {base : Heap} (x : Fx K mg) (sr : base.NoSeer) (tr : P.given.tree = none)
    (cdv : Value) (A : Around) (outer : List Env) (s : Shared) (H : Hp) (E : XK) (hr : Room 32 (A.deeper (envOfC "is_share" (defScope s_is_share) s.heap.objs.size x.a_is_share cdv))) :
    DSs (cxOf (CX P w) P w K mg base ["one"] "is_share" (defScope s_is_share) x.a_is_share cdv A outer s H E) (fun cls d _ H => E cls d H) m_is_share (defBody s_is_share) :=
  have S := S_is_share
  have tk := takes_of (X := cxOf (CX P w) P w K mg base ["one"] "is_share" (defScope s_is_share) x.a_is_share cdv A outer s H E) rfl rfl rfl rfl
  have pyl : PylA P base (A.deeper (envOfC "is_share" (defScope s_is_share) s.heap.objs.size x.a_is_share cdv)) ((envOfC "is_share" (defScope s_is_share) s.heap.objs.size x.a_is_share cdv) :: outer) := ⟨sr, tr, ⟨_, _, rfl, rfl, rfl, rfl, rfl⟩, pyl_dp hr (by decide)⟩
  dss_one (ds_ret (dr_val (de_andV (de_chain (op_le) (op_le) od_le od_le (de_int) (de_ix (de_loc 0 rfl (vis_of rfl) rfl rfl) (de_int) (fun _ _ => rfl)) (de_glo rfl x.v_MOST_UPPER rfl) (by with_unfolding_all rfl)) (de_one (de_cmp (op_le) od_le (de_ix (de_loc 0 rfl (vis_of rfl) rfl rfl) (de_int) (fun _ _ => rfl)) (de_glo rfl x.v_MOST_LOWER rfl) (nomark _))))))
theorem F_is_share {P : Program} {w : World} {K : PySem.W.Frag} {mg : Str → Option Value} {base : Heap} (x : Fx K mg) (sr : base.NoSeer) (tr : P.given.tree = none) : FnOk P w K mg base (CX P w) 33 x.a_is_share x.d_is_share ["one"] (spD K 1 Ph_is_share) :=
  fn_body x.F_is_share S_is_share fun cdv A outer s H E hr => B_is_share x sr tr cdv A outer s H E hr
theorem S_look : FnScope ["menus", "hand", "rows", "row", "share"] ["menus"] (defScope s_look) := ⟨rfl, rfl, rfl, by decide +kernel, rfl, by decide +kernel, by decide +kernel⟩
theorem B_look {P : Program} {w : World} {K : PySem.W.Frag} {mg : Str → Option Value} {base : Heap} (x : Fx K mg) (sr : base.NoSeer) (tr : P.given.tree = none)
    (cdv : Value) (A : Around) (outer : List Env) (s : Shared) (H : Hp) (E : XK) (hr : Room 33 (A.deeper (envOfC "look" (defScope s_look) s.heap.objs.size x.a_look cdv))) :
    DSs (cxOf (CX P w) P w K mg base ["menus", "hand", "rows", "row", "share"] "look" (defScope s_look) x.a_look cdv A outer s H E) (fun cls d _ H => E cls d H) m_look (defBody s_look) :=
  have S := S_look
  have tk := takes_of (X := cxOf (CX P w) P w K mg base ["menus", "hand", "rows", "row", "share"] "look" (defScope s_look) x.a_look cdv A outer s H E) rfl rfl rfl rfl
  have pyl : PylA P base (A.deeper (envOfC "look" (defScope s_look) s.heap.objs.size x.a_look cdv)) ((envOfC "look" (defScope s_look) s.heap.objs.size x.a_look cdv) :: outer) := ⟨sr, tr, ⟨_, _, rfl, rfl, rfl, rfl, rfl⟩, pyl_dp hr (by decide)⟩
  dss_cons (ds_if (dt_not (dt_chain (op_le) (op_le) od_le od_le (de_int) (de_frz (dr_callB call_len cb_len rfl x.n_len boot_len (da_cons (de_loc 0 rfl (vis_of rfl) rfl rfl) (da_nil) rfl) (by decide) rfl rfl rfl)) (de_glo rfl x.v_MOST_STORES rfl) (by with_unfolding_all rfl))) (dss_one (ds_bad)) (dss_nil)) (dss_cons (ds_for (passes_of rfl) rfl (di_seq (de_loc 0 rfl (vis_of rfl) rfl rfl)) (dg_tup rfl (dgs_cons (dg_name 1 S.nd rfl (loc_of rfl) (fn_of rfl)) (dgs_cons (dg_name 2 S.nd rfl (loc_of rfl) (fn_of rfl)) (dgs_nil) rfl) rfl) rfl rfl) (dss_cons (ds_expr (de_frz (dr_call (k := 33) (ps := ["hand"]) (F_need_hand x sr tr) (hr.mono (by decide)) rfl x.g_need_hand x.F_need_hand.kp x.b_need_hand .nil Dfl.nil tk (da_cons (de_loc 1 rfl (vis_of rfl) rfl rfl) (da_nil) rfl) rfl rfl rfl)) rfl) (dss_cons (ds_if (dt_not (dt_chain (op_le) (op_le) od_le od_le (de_int) (de_frz (dr_callB call_len cb_len rfl x.n_len boot_len (da_cons (de_loc 2 rfl (vis_of rfl) rfl rfl) (da_nil) rfl) (by decide) rfl rfl rfl)) (de_glo rfl x.v_MOST_ROWS rfl) (by with_unfolding_all rfl))) (dss_one (ds_bad)) (dss_nil)) (dss_cons (ds_for (passes_of rfl) rfl (di_seq (de_loc 2 rfl (vis_of rfl) rfl rfl)) (dg_name 3 S.nd rfl (loc_of rfl) (fn_of rfl)) (dss_cons (ds_if (dt_w (dw_or (dt_cmp (op_neD (u64 hr)) od_ne (de_frz (dr_callB call_len cb_len rfl x.n_len boot_len (da_cons (de_loc 3 rfl (vis_of rfl) rfl rfl) (da_nil) rfl) (by decide) rfl rfl rfl)) (de_frz (dr_callB call_len cb_len rfl x.n_len boot_len (da_cons (de_loc 0 rfl (vis_of rfl) rfl rfl) (da_nil) rfl) (by decide) rfl rfl rfl)) (nomark _)) (dw_or1 (dt_not (dt_tru (de_frz (dr_callB (cr_all rfl) cb_all rfl x.n_all boot_all (da_cons (de_frz (dr_lc (own := [("share", 4)]) (is := [4]) rfl S.nd (di_seq (de_loc 3 rfl (vis_of rfl) rfl rfl)) (blkOk_by (by kernel_rfl)) (by decide) (fun _ _ _ _ _ => dg_name 4 S.nd rfl (loc_of rfl) (fn_of rfl)) (fun _ _ _ _ _ => dts_nil) (fun _ _ _ _ _ => de_frz (dr_call (k := 33) (ps := ["one"]) (F_is_share x sr tr) (hr.mono (by decide)) rfl x.g_is_share x.F_is_share.kp x.b_is_share .nil Dfl.nil takesW0 (da_cons (de_loc 4 rfl (vis_of rfl) rfl rfl) (da_nil) rfl) rfl rfl rfl)) (fun _ => rfl))) (da_nil) rfl) (by decide) rfl rfl rfl)) (fun _ => rfl)))))) (dss_one (ds_bad)) (dss_nil)) (dss_killEnd)) (fun _ => rfl)) (dss_kill (dss_killEnd))))) (fun _ => rfl)) (dss_killEnd))
theorem F_look {P : Program} {w : World} {K : PySem.W.Frag} {mg : Str → Option Value} {base : Heap} (x : Fx K mg) (sr : base.NoSeer) (tr : P.given.tree = none) : FnOk P w K mg base (CX P w) 34 x.a_look x.d_look ["menus"] (spD K 1 Ph_look) :=
  fn_body x.F_look S_look fun cdv A outer s H E hr => B_look x sr tr cdv A outer s H E hr
theorem S_need_filling : FnScope ["many", "filling", "one"] ["many", "filling"] (defScope s_need_filling) := ⟨rfl, rfl, rfl, by decide +kernel, rfl, by decide +kernel, by decide +kernel⟩
theorem B_need_filling {P : Program} {w : World} {K : PySem.W.Frag} {mg : Str → Option Value} {base : Heap} (x : Fx K mg) (sr : base.NoSeer) (tr : P.given.tree = none)
    (cdv : Value) (A : Around) (outer : List Env) (s : Shared) (H : Hp) (E : XK) (hr : Room 32 (A.deeper (envOfC "need_filling" (defScope s_need_filling) s.heap.objs.size x.a_need_filling cdv))) :
    DSs (cxOf (CX P w) P w K mg base ["many", "filling", "one"] "need_filling" (defScope s_need_filling) x.a_need_filling cdv A outer s H E) (fun cls d _ H => E cls d H) m_need_filling (defBody s_need_filling) :=
  have S := S_need_filling
  have tk := takes_of (X := cxOf (CX P w) P w K mg base ["many", "filling", "one"] "need_filling" (defScope s_need_filling) x.a_need_filling cdv A outer s H E) rfl rfl rfl rfl
  have pyl : PylA P base (A.deeper (envOfC "need_filling" (defScope s_need_filling) s.heap.objs.size x.a_need_filling cdv)) ((envOfC "need_filling" (defScope s_need_filling) s.heap.objs.size x.a_need_filling cdv) :: outer) := ⟨sr, tr, ⟨_, _, rfl, rfl, rfl, rfl, rfl⟩, pyl_dp hr (by decide)⟩
  dss_one (ds_if (dt_w (dw_or (dt_cmp (op_neD (u64 hr)) od_ne (de_frz (dr_callB call_len cb_len rfl x.n_len boot_len (da_cons (de_loc 1 rfl (vis_of rfl) rfl rfl) (da_nil) rfl) (by decide) rfl rfl rfl)) (de_loc 0 rfl (vis_of rfl) rfl rfl) (nomark _)) (dw_or1 (dt_tru (de_frz (dr_callB (cr_any rfl) cb_any rfl x.n_any boot_any (da_cons (de_frz (dr_lc (own := [("one", 2)]) (is := [2]) rfl S.nd (di_seq (de_loc 1 rfl (vis_of rfl) rfl rfl)) (blkOk_by (by kernel_rfl)) (by decide) (fun _ _ _ _ _ => dg_name 2 S.nd rfl (loc_of rfl) (fn_of rfl)) (fun _ _ _ _ _ => dts_nil) (fun _ _ _ _ _ => de_cmp (op_lt) od_lt (de_ix (de_loc 2 rfl (vis_of rfl) rfl rfl) (de_int) (fun _ _ => rfl)) (de_int) (nomark _)) (fun _ => rfl))) (da_nil) rfl) (by decide) rfl rfl rfl)) (fun _ => rfl))))) (dss_one (ds_bad)) (dss_nil))
theorem F_need_filling {P : Program} {w : World} {K : PySem.W.Frag} {mg : Str → Option Value} {base : Heap} (x : Fx K mg) (sr : base.NoSeer) (tr : P.given.tree = none) : FnOk P w K mg base (CX P w) 33 x.a_need_filling x.d_need_filling ["many", "filling"] (spD K 2 Ph_need_filling) :=
  fn_body x.F_need_filling S_need_filling fun cdv A outer s H E hr => B_need_filling x sr tr cdv A outer s H E hr
theorem S_need_both : FnScope ["one", "other", "counts", "shapes", "menus", "hand", "rows"] ["one", "other", "counts"] (defScope s_need_both) := ⟨rfl, rfl, rfl, by decide +kernel, rfl, by decide +kernel, by decide +kernel⟩
theorem B_need_both {P : Program} {w : World} {K : PySem.W.Frag} {mg : Str → Option Value} {base : Heap} (x : Fx K mg) (sr : base.NoSeer) (tr : P.given.tree = none)
    (cdv : Value) (A : Around) (outer : List Env) (s : Shared) (H : Hp) (E : XK) (hr : Room 34 (A.deeper (envOfC "need_both" (defScope s_need_both) s.heap.objs.size x.a_need_both cdv))) :
    DSs (cxOf (CX P w) P w K mg base ["one", "other", "counts", "shapes", "menus", "hand", "rows"] "need_both" (defScope s_need_both) x.a_need_both cdv A outer s H E) (fun cls d _ H => E cls d H) m_need_both (defBody s_need_both) :=
  have S := S_need_both
  have tk := takes_of (X := cxOf (CX P w) P w K mg base ["one", "other", "counts", "shapes", "menus", "hand", "rows"] "need_both" (defScope s_need_both) x.a_need_both cdv A outer s H E) rfl rfl rfl rfl
  have pyl : PylA P base (A.deeper (envOfC "need_both" (defScope s_need_both) s.heap.objs.size x.a_need_both cdv)) ((envOfC "need_both" (defScope s_need_both) s.heap.objs.size x.a_need_both cdv) :: outer) := ⟨sr, tr, ⟨_, _, rfl, rfl, rfl, rfl, rfl⟩, pyl_dp hr (by decide)⟩
  dss_cons (ds_expr (de_frz (dr_call (k := 34) (ps := ["menus"]) (F_look x sr tr) (hr.mono (by decide)) rfl x.g_look x.F_look.kp x.b_look .nil Dfl.nil tk (da_cons (de_loc 0 rfl (vis_of rfl) rfl rfl) (da_nil) rfl) rfl rfl rfl)) rfl) (dss_cons (ds_expr (de_frz (dr_call (k := 34) (ps := ["menus"]) (F_look x sr tr) (hr.mono (by decide)) rfl x.g_look x.F_look.kp x.b_look .nil Dfl.nil tk (da_cons (de_loc 1 rfl (vis_of rfl) rfl rfl) (da_nil) rfl) rfl rfl rfl)) rfl) (dss_cons (ds_then (ds_setLc 3 rfl S.nd rfl rfl (sw_true rfl rfl rfl rfl) (own := [("menus", 4)]) (is := [4]) (di_seq (de_tup (da_cons (de_loc 0 rfl (vis_of rfl) rfl rfl) (da_cons (de_loc 1 rfl (vis_of rfl) rfl rfl) (da_nil) rfl) rfl))) (blkOk_by (by kernel_rfl)) (by decide) (fun _ _ _ _ _ => dg_name 4 S.nd rfl (loc_of rfl) (fn_of rfl)) (fun _ _ _ _ _ => dts_nil) (fun _ _ _ _ _ => de_frz (dr_lc (own := [("hand", 5), ("rows", 6)]) (is := ([5] ++ ([6] ++ []))) rfl S.nd (di_seq (de_loc 4 rfl (vis_of rfl) rfl rfl)) (blkOk_by (by kernel_rfl)) (by decide) (fun _ _ _ _ _ => dg_tup rfl (dgs_cons (dg_name 5 S.nd rfl (loc_of rfl) (fn_of rfl)) (dgs_cons (dg_name 6 S.nd rfl (loc_of rfl) (fn_of rfl)) (dgs_nil) rfl) rfl) rfl rfl) (fun _ _ _ _ _ => dts_nil) (fun _ _ _ _ _ => de_tup (da_cons (de_loc 5 rfl (vis_of rfl) rfl rfl) (da_cons (de_frz (dr_callB call_len cb_len rfl x.n_len boot_len (da_cons (de_loc 6 rfl (vis_of rfl) rfl rfl) (da_nil) rfl) (by decide) rfl rfl rfl)) (da_nil) rfl) rfl)) (fun _ => rfl))) (fun _ => rfl))) (dss_cons (ds_if (dt_cmp (op_neD (u64 hr)) od_ne (de_ix (de_loc 3 rfl (vis_of rfl) rfl rfl) (de_int) (fun _ _ => rfl)) (de_ix (de_loc 3 rfl (vis_of rfl) rfl rfl) (de_int) (fun _ _ => rfl)) (nomark _)) (dss_one (ds_bad)) (dss_nil)) (dss_one (ds_expr (de_frz (dr_call (k := 33) (ps := ["many", "filling"]) (F_need_filling x sr tr) (hr.mono (by decide)) rfl x.g_need_filling x.F_need_filling.kp x.b_need_filling .nil Dfl.nil tk (da_cons (de_frz (dr_callB call_len cb_len rfl x.n_len boot_len (da_cons (de_loc 0 rfl (vis_of rfl) rfl rfl) (da_nil) rfl) (by decide) rfl rfl rfl)) (da_cons (de_loc 2 rfl (vis_of rfl) rfl rfl) (da_nil) rfl) rfl) rfl rfl rfl)) rfl)))))
theorem F_need_both {P : Program} {w : World} {K : PySem.W.Frag} {mg : Str → Option Value} {base : Heap} (x : Fx K mg) (sr : base.NoSeer) (tr : P.given.tree = none) : FnOk P w K mg base (CX P w) 35 x.a_need_both x.d_need_both ["one", "other", "counts"] (spD K 3 Ph_need_both) :=
  fn_body x.F_need_both S_need_both fun cdv A outer s H E hr => B_need_both x sr tr cdv A outer s H E hr
theorem S_Span___init__ : FnScope ["self"] ["self"] (defScope s_Span___init__) := ⟨rfl, rfl, rfl, by decide +kernel, rfl, by decide +kernel, by decide +kernel⟩
theorem B_Span___init__ {P : Program} {w : World} {K : PySem.W.Frag} {mg : Str → Option Value} {base : Heap} (x : Fx K mg) (sr : base.NoSeer) (tr : P.given.tree = none)
    (cdv : Value) (A : Around) (outer : List Env) (s : Shared) (H : Hp) (E : XK) (hr : Room 32 (A.deeper (envOfC "Span.__init__" (defScope s_Span___init__) s.heap.objs.size x.a_Span___init__ cdv))) :
    DSs (cxOf (CX P w) P w K mg base ["self"] "Span.__init__" (defScope s_Span___init__) x.a_Span___init__ cdv A outer s H E) (fun cls d _ H => E cls d H) m_Span___init__ (defBody s_Span___init__) :=
  have S := S_Span___init__
  have tk := takes_of (X := cxOf (CX P w) P w K mg base ["self"] "Span.__init__" (defScope s_Span___init__) x.a_Span___init__ cdv A outer s H E) rfl rfl rfl rfl
  have pyl : PylA P base (A.deeper (envOfC "Span.__init__" (defScope s_Span___init__) s.heap.objs.size x.a_Span___init__ cdv)) ((envOfC "Span.__init__" (defScope s_Span___init__) s.heap.objs.size x.a_Span___init__ cdv) :: outer) := ⟨sr, tr, ⟨_, _, rfl, rfl, rfl, rfl, rfl⟩, pyl_dp hr (by decide)⟩
  dss_one (ds_setF 0 x.f_Span_leads rfl (vis_of rfl) rfl rfl (dr_dct) rfl)
theorem F_Span___init__ {P : Program} {w : World} {K : PySem.W.Frag} {mg : Str → Option Value} {base : Heap} (x : Fx K mg) (sr : base.NoSeer) (tr : P.given.tree = none) : FnOk P w K mg base (CX P w) 33 x.a_Span___init__ x.d_Span___init__ ["self"] (spD K 1 Ph_Span___init__) :=
  fn_body x.F_Span___init__ S_Span___init__ fun cdv A outer s H E hr => B_Span___init__ x sr tr cdv A outer s H E hr
theorem S_common : FnScope ["one", "other"] ["one", "other"] (defScope s_common) := ⟨rfl, rfl, rfl, by decide +kernel, rfl, by decide +kernel, by decide +kernel⟩
theorem B_common {P : Program} {w : World} {K : PySem.W.Frag} {mg : Str → Option Value} {base : Heap} (x : Fx K mg) (sr : base.NoSeer) (tr : P.given.tree = none)
    (cdv : Value) (A : Around) (outer : List Env) (s : Shared) (H : Hp) (E : XK) (hr : Room 32 (A.deeper (envOfC "common" (defScope s_common) s.heap.objs.size x.a_common cdv))) :
    DSs (cxOf (CX P w) P w K mg base ["one", "other"] "common" (defScope s_common) x.a_common cdv A outer s H E) (fun cls d _ H => E cls d H) m_common (defBody s_common) :=
  have S := S_common
  have tk := takes_of (X := cxOf (CX P w) P w K mg base ["one", "other"] "common" (defScope s_common) x.a_common cdv A outer s H E) rfl rfl rfl rfl
  have pyl : PylA P base (A.deeper (envOfC "common" (defScope s_common) s.heap.objs.size x.a_common cdv)) ((envOfC "common" (defScope s_common) s.heap.objs.size x.a_common cdv) :: outer) := ⟨sr, tr, ⟨_, _, rfl, rfl, rfl, rfl, rfl⟩, pyl_dp hr (by decide)⟩
  dss_cons (ds_while (passes_of rfl) (dt_cmp (op_gt) od_gt (de_loc 1 rfl (vis_of rfl) rfl rfl) (de_int) (nomark _)) (dss_one (ds_par 0 1 rfl S.nd rfl rfl (by decide) rfl rfl (da_cons (de_loc 1 rfl (vis_of rfl) rfl rfl) (da_cons (de_op (op_modN) od_mod (de_loc 0 rfl (vis_of rfl) rfl rfl) (de_loc 1 rfl (vis_of rfl) rfl rfl)) (da_nil) rfl) rfl) rfl rfl))) (dss_one (ds_ret (dr_val (de_loc 0 rfl (vis_of rfl) rfl rfl))))
theorem F_common {P : Program} {w : World} {K : PySem.W.Frag} {mg : Str → Option Value} {base : Heap} (x : Fx K mg) (sr : base.NoSeer) (tr : P.given.tree = none) : FnOk P w K mg base (CX P w) 33 x.a_common x.d_common ["one", "other"] (spD K 2 Ph_common) :=
  fn_body x.F_common S_common fun cdv A outer s H E hr => B_common x sr tr cdv A outer s H E hr
theorem S_part : FnScope ["upper", "lower", "both"] ["upper", "lower"] (defScope s_part) := ⟨rfl, rfl, rfl, by decide +kernel, rfl, by decide +kernel, by decide +kernel⟩
theorem B_part {P : Program} {w : World} {K : PySem.W.Frag} {mg : Str → Option Value} {base : Heap} (x : Fx K mg) (sr : base.NoSeer) (tr : P.given.tree = none)
    (cdv : Value) (A : Around) (outer : List Env) (s : Shared) (H : Hp) (E : XK) (hr : Room 33 (A.deeper (envOfC "part" (defScope s_part) s.heap.objs.size x.a_part cdv))) :
    DSs (cxOf (CX P w) P w K mg base ["upper", "lower", "both"] "part" (defScope s_part) x.a_part cdv A outer s H E) (fun cls d _ H => E cls d H) m_part (defBody s_part) :=
  have S := S_part
  have tk := takes_of (X := cxOf (CX P w) P w K mg base ["upper", "lower", "both"] "part" (defScope s_part) x.a_part cdv A outer s H E) rfl rfl rfl rfl
  have pyl : PylA P base (A.deeper (envOfC "part" (defScope s_part) s.heap.objs.size x.a_part cdv)) ((envOfC "part" (defScope s_part) s.heap.objs.size x.a_part cdv) :: outer) := ⟨sr, tr, ⟨_, _, rfl, rfl, rfl, rfl, rfl⟩, pyl_dp hr (by decide)⟩
  dss_cons (ds_if (dt_cmp (op_eqD (u64 hr)) od_eq (de_loc 1 rfl (vis_of rfl) rfl rfl) (de_int) (nomark _)) (dss_one (ds_bad)) (dss_nil)) (dss_cons (ds_if (dt_cmp (op_lt) od_lt (de_loc 1 rfl (vis_of rfl) rfl rfl) (de_int) (nomark _)) (dss_one (ds_par 0 1 rfl S.nd rfl rfl (by decide) rfl rfl (da_cons (de_op (op_sub) od_sub (de_int) (de_loc 0 rfl (vis_of rfl) rfl rfl)) (da_cons (de_op (op_sub) od_sub (de_int) (de_loc 1 rfl (vis_of rfl) rfl rfl)) (da_nil) rfl) rfl) rfl rfl)) (dss_nil)) (dss_cons (ds_set 2 S.nd rfl (loc_of rfl) (dr_val (de_frz (dr_call (k := 33) (ps := ["one", "other"]) (F_common x sr tr) (hr.mono (by decide)) rfl x.g_common x.F_common.kp x.b_common .nil Dfl.nil tk (da_cons (de_frz (dr_callB call_abs cb_abs rfl x.n_abs boot_abs (da_cons (de_loc 0 rfl (vis_of rfl) rfl rfl) (da_nil) rfl) (by decide) rfl rfl rfl)) (da_cons (de_loc 1 rfl (vis_of rfl) rfl rfl) (da_nil) rfl) rfl) rfl rfl rfl))) rfl (.inl rfl)) (dss_one (ds_ret (dr_val (de_tup (da_cons (de_op (op_fdivB pyl) od_fdiv (de_loc 0 rfl (vis_of rfl) rfl rfl) (de_loc 2 rfl (vis_of rfl) rfl rfl)) (da_cons (de_op (op_fdivB pyl) od_fdiv (de_loc 1 rfl (vis_of rfl) rfl rfl) (de_loc 2 rfl (vis_of rfl) rfl rfl)) (da_nil) rfl) rfl)))))))
theorem F_part {P : Program} {w : World} {K : PySem.W.Frag} {mg : Str → Option Value} {base : Heap} (x : Fx K mg) (sr : base.NoSeer) (tr : P.given.tree = none) : FnOk P w K mg base (CX P w) 34 x.a_part x.d_part ["upper", "lower"] (spD K 2 Ph_part) :=
  fn_body x.F_part S_part fun cdv A outer s H E hr => B_part x sr tr cdv A outer s H E hr
theorem S_less : FnScope ["one", "other"] ["one", "other"] (defScope s_less) := ⟨rfl, rfl, rfl, by decide +kernel, rfl, by decide +kernel, by decide +kernel⟩
theorem B_less {P : Program} {w : World} {K : PySem.W.Frag} {mg : Str → Option Value} {base : Heap} (x : Fx K mg) (sr : base.NoSeer) (tr : P.given.tree = none)
    (cdv : Value) (A : Around) (outer : List Env) (s : Shared) (H : Hp) (E : XK) (hr : Room 34 (A.deeper (envOfC "less" (defScope s_less) s.heap.objs.size x.a_less cdv))) :
    DSs (cxOf (CX P w) P w K mg base ["one", "other"] "less" (defScope s_less) x.a_less cdv A outer s H E) (fun cls d _ H => E cls d H) m_less (defBody s_less) :=
  have S := S_less
  have tk := takes_of (X := cxOf (CX P w) P w K mg base ["one", "other"] "less" (defScope s_less) x.a_less cdv A outer s H E) rfl rfl rfl rfl
  have pyl : PylA P base (A.deeper (envOfC "less" (defScope s_less) s.heap.objs.size x.a_less cdv)) ((envOfC "less" (defScope s_less) s.heap.objs.size x.a_less cdv) :: outer) := ⟨sr, tr, ⟨_, _, rfl, rfl, rfl, rfl, rfl⟩, pyl_dp hr (by decide)⟩
  dss_one (ds_ret (dr_call (k := 34) (ps := ["upper", "lower"]) (F_part x sr tr) (hr.mono (by decide)) rfl x.g_part x.F_part.kp x.b_part .nil Dfl.nil tk (da_cons (de_op (op_sub) od_sub (de_op (op_mulB) od_mul (de_ix (de_loc 0 rfl (vis_of rfl) rfl rfl) (de_int) (fun _ _ => rfl)) (de_ix (de_loc 1 rfl (vis_of rfl) rfl rfl) (de_int) (fun _ _ => rfl))) (de_op (op_mulB) od_mul (de_ix (de_loc 1 rfl (vis_of rfl) rfl rfl) (de_int) (fun _ _ => rfl)) (de_ix (de_loc 0 rfl (vis_of rfl) rfl rfl) (de_int) (fun _ _ => rfl)))) (da_cons (de_op (op_mulB) od_mul (de_ix (de_loc 0 rfl (vis_of rfl) rfl rfl) (de_int) (fun _ _ => rfl)) (de_ix (de_loc 1 rfl (vis_of rfl) rfl rfl) (de_int) (fun _ _ => rfl))) (da_nil) rfl) rfl) rfl rfl rfl))
theorem F_less {P : Program} {w : World} {K : PySem.W.Frag} {mg : Str → Option Value} {base : Heap} (x : Fx K mg) (sr : base.NoSeer) (tr : P.given.tree = none) : FnOk P w K mg base (CX P w) 35 x.a_less x.d_less ["one", "other"] (spD K 2 Ph_less) :=
  fn_body x.F_less S_less fun cdv A outer s H E hr => B_less x sr tr cdv A outer s H E hr
theorem S_times : FnScope ["one", "other"] ["one", "other"] (defScope s_times) := ⟨rfl, rfl, rfl, by decide +kernel, rfl, by decide +kernel, by decide +kernel⟩
theorem B_times {P : Program} {w : World} {K : PySem.W.Frag} {mg : Str → Option Value} {base : Heap} (x : Fx K mg) (sr : base.NoSeer) (tr : P.given.tree = none)
    (cdv : Value) (A : Around) (outer : List Env) (s : Shared) (H : Hp) (E : XK) (hr : Room 34 (A.deeper (envOfC "times" (defScope s_times) s.heap.objs.size x.a_times cdv))) :
    DSs (cxOf (CX P w) P w K mg base ["one", "other"] "times" (defScope s_times) x.a_times cdv A outer s H E) (fun cls d _ H => E cls d H) m_times (defBody s_times) :=
  have S := S_times
  have tk := takes_of (X := cxOf (CX P w) P w K mg base ["one", "other"] "times" (defScope s_times) x.a_times cdv A outer s H E) rfl rfl rfl rfl
  have pyl : PylA P base (A.deeper (envOfC "times" (defScope s_times) s.heap.objs.size x.a_times cdv)) ((envOfC "times" (defScope s_times) s.heap.objs.size x.a_times cdv) :: outer) := ⟨sr, tr, ⟨_, _, rfl, rfl, rfl, rfl, rfl⟩, pyl_dp hr (by decide)⟩
  dss_one (ds_ret (dr_call (k := 34) (ps := ["upper", "lower"]) (F_part x sr tr) (hr.mono (by decide)) rfl x.g_part x.F_part.kp x.b_part .nil Dfl.nil tk (da_cons (de_op (op_mulB) od_mul (de_ix (de_loc 0 rfl (vis_of rfl) rfl rfl) (de_int) (fun _ _ => rfl)) (de_ix (de_loc 1 rfl (vis_of rfl) rfl rfl) (de_int) (fun _ _ => rfl))) (da_cons (de_op (op_mulB) od_mul (de_ix (de_loc 0 rfl (vis_of rfl) rfl rfl) (de_int) (fun _ _ => rfl)) (de_ix (de_loc 1 rfl (vis_of rfl) rfl rfl) (de_int) (fun _ _ => rfl))) (da_nil) rfl) rfl) rfl rfl rfl))
theorem F_times {P : Program} {w : World} {K : PySem.W.Frag} {mg : Str → Option Value} {base : Heap} (x : Fx K mg) (sr : base.NoSeer) (tr : P.given.tree = none) : FnOk P w K mg base (CX P w) 35 x.a_times x.d_times ["one", "other"] (spD K 2 Ph_times) :=
  fn_body x.F_times S_times fun cdv A outer s H E hr => B_times x sr tr cdv A outer s H E hr
theorem S_Span_rest : FnScope ["self", "row", "found", "at", "many", "one", "lead"] ["self", "row"] (defScope s_Span_rest) := ⟨rfl, rfl, rfl, by decide +kernel, rfl, by decide +kernel, by decide +kernel⟩
theorem B_Span_rest {P : Program} {w : World} {K : PySem.W.Frag} {mg : Str → Option Value} {base : Heap} (x : Fx K mg) (sr : base.NoSeer) (tr : P.given.tree = none)
    (cdv : Value) (A : Around) (outer : List Env) (s : Shared) (H : Hp) (E : XK) (hr : Room 35 (A.deeper (envOfC "Span.rest" (defScope s_Span_rest) s.heap.objs.size x.a_Span_rest cdv))) :
    DSs (cxOf (CX P w) P w K mg base ["self", "row", "found", "at", "many", "one", "lead"] "Span.rest" (defScope s_Span_rest) x.a_Span_rest cdv A outer s H E) (fun cls d _ H => E cls d H) m_Span_rest (defBody s_Span_rest) :=
  have S := S_Span_rest
  have tk := takes_of (X := cxOf (CX P w) P w K mg base ["self", "row", "found", "at", "many", "one", "lead"] "Span.rest" (defScope s_Span_rest) x.a_Span_rest cdv A outer s H E) rfl rfl rfl rfl
  have pyl : PylA P base (A.deeper (envOfC "Span.rest" (defScope s_Span_rest) s.heap.objs.size x.a_Span_rest cdv)) ((envOfC "Span.rest" (defScope s_Span_rest) s.heap.objs.size x.a_Span_rest cdv) :: outer) := ⟨sr, tr, ⟨_, _, rfl, rfl, rfl, rfl, rfl⟩, pyl_dp hr (by decide)⟩
  dss_cons (ds_set 2 S.nd rfl (loc_of rfl) (dr_val (de_frz (dr_callTy call_list_of cb_list rfl x.n_list boot_list (da_cons (de_loc 1 rfl (vis_of rfl) rfl rfl) (da_nil) rfl) (by decide) rfl rfl rfl))) rfl (.inl rfl)) (dss_cons (ds_for (passes_of rfl) rfl (di_rng1 rfl x.n_range (da_cons (de_frz (dr_callB call_len cb_len rfl x.n_len boot_len (da_cons (de_loc 2 rfl (vis_of rfl) rfl rfl) (da_nil) rfl) (by decide) rfl rfl rfl)) (da_nil) rfl) rfl) (dg_name 3 S.nd rfl (loc_of rfl) (fn_of rfl)) (dss_cons (ds_if (dt_w (dw_and (dt_cmp (op_neD (u64 hr)) od_ne (de_ix (de_loc 2 rfl (vis_of rfl) rfl rfl) (de_loc 3 rfl (vis_of rfl) rfl rfl) (fun _ _ => rfl)) (de_glo rfl x.v_NOUGHT rfl) (nomark _)) (dw_and1 (dt_inF (hu_of hr) x.f_Span_leads (de_loc 3 rfl (vis_of rfl) rfl rfl) (de_loc 0 rfl (vis_of rfl) rfl rfl) rfl rfl)))) (dss_cons (ds_set 4 S.nd rfl (loc_of rfl) (dr_val (de_ix (de_loc 2 rfl (vis_of rfl) rfl rfl) (de_loc 3 rfl (vis_of rfl) rfl rfl) (fun _ _ => rfl))) rfl (.inl rfl)) (dss_one (ds_then (ds_setLc 2 rfl S.nd rfl rfl (sw_true rfl rfl rfl rfl) (own := [("one", 5), ("lead", 6)]) (is := ([5] ++ ([6] ++ []))) (di_zipS rfl x.n_zip (da_cons (de_loc 2 rfl (vis_of rfl) rfl rfl) (da_cons (de_dgetF (hu_of hr) x.f_Span_leads (de_loc 0 rfl (vis_of rfl) rfl rfl) rfl (de_loc 3 rfl (vis_of rfl) rfl rfl) (fun _ _ => rfl)) (da_nil) rfl) rfl) rfl rfl) (blkOk_by (by kernel_rfl)) (by decide) (fun _ _ _ _ _ => dg_tup rfl (dgs_cons (dg_name 5 S.nd rfl (loc_of rfl) (fn_of rfl)) (dgs_cons (dg_name 6 S.nd rfl (loc_of rfl) (fn_of rfl)) (dgs_nil) rfl) rfl) rfl rfl) (fun _ _ _ _ _ => dts_nil) (fun _ _ _ _ _ => de_frz (dr_call (k := 35) (ps := ["one", "other"]) (F_less x sr tr) (hr.mono (by decide)) rfl x.g_less x.F_less.kp x.b_less .nil Dfl.nil takesW0 (da_cons (de_loc 5 rfl (vis_of rfl) rfl rfl) (da_cons (de_frz (dr_call (k := 35) (ps := ["one", "other"]) (F_times x sr tr) (hr.mono (by decide)) rfl x.g_times x.F_times.kp x.b_times .nil Dfl.nil takesW0 (da_cons (de_loc 4 rfl (vis_of rfl) rfl rfl) (da_cons (de_loc 6 rfl (vis_of rfl) rfl rfl) (da_nil) rfl) rfl) rfl rfl rfl)) (da_nil) rfl) rfl) rfl rfl rfl)) (fun _ => rfl))))) (dss_nil)) (dss_kill (dss_killEnd))) (fun _ => rfl)) (dss_kill (dss_one (ds_ret (dr_val (de_loc 2 rfl (vis_of rfl) rfl rfl))))))
theorem F_Span_rest {P : Program} {w : World} {K : PySem.W.Frag} {mg : Str → Option Value} {base : Heap} (x : Fx K mg) (sr : base.NoSeer) (tr : P.given.tree = none) : FnOk P w K mg base (CX P w) 36 x.a_Span_rest x.d_Span_rest ["self", "row"] (spD K 2 Ph_Span_rest) :=
  fn_body x.F_Span_rest S_Span_rest fun cdv A outer s H E hr => B_Span_rest x sr tr cdv A outer s H E hr
theorem S_over : FnScope ["one", "other"] ["one", "other"] (defScope s_over) := ⟨rfl, rfl, rfl, by decide +kernel, rfl, by decide +kernel, by decide +kernel⟩
theorem B_over {P : Program} {w : World} {K : PySem.W.Frag} {mg : Str → Option Value} {base : Heap} (x : Fx K mg) (sr : base.NoSeer) (tr : P.given.tree = none)
    (cdv : Value) (A : Around) (outer : List Env) (s : Shared) (H : Hp) (E : XK) (hr : Room 34 (A.deeper (envOfC "over" (defScope s_over) s.heap.objs.size x.a_over cdv))) :
    DSs (cxOf (CX P w) P w K mg base ["one", "other"] "over" (defScope s_over) x.a_over cdv A outer s H E) (fun cls d _ H => E cls d H) m_over (defBody s_over) :=
  have S := S_over
  have tk := takes_of (X := cxOf (CX P w) P w K mg base ["one", "other"] "over" (defScope s_over) x.a_over cdv A outer s H E) rfl rfl rfl rfl
  have pyl : PylA P base (A.deeper (envOfC "over" (defScope s_over) s.heap.objs.size x.a_over cdv)) ((envOfC "over" (defScope s_over) s.heap.objs.size x.a_over cdv) :: outer) := ⟨sr, tr, ⟨_, _, rfl, rfl, rfl, rfl, rfl⟩, pyl_dp hr (by decide)⟩
  dss_cons (ds_if (dt_cmp (op_eqD (u64 hr)) od_eq (de_ix (de_loc 1 rfl (vis_of rfl) rfl rfl) (de_int) (fun _ _ => rfl)) (de_int) (nomark _)) (dss_one (ds_bad)) (dss_nil)) (dss_one (ds_ret (dr_call (k := 34) (ps := ["upper", "lower"]) (F_part x sr tr) (hr.mono (by decide)) rfl x.g_part x.F_part.kp x.b_part .nil Dfl.nil tk (da_cons (de_op (op_mulB) od_mul (de_ix (de_loc 0 rfl (vis_of rfl) rfl rfl) (de_int) (fun _ _ => rfl)) (de_ix (de_loc 1 rfl (vis_of rfl) rfl rfl) (de_int) (fun _ _ => rfl))) (da_cons (de_op (op_mulB) od_mul (de_ix (de_loc 0 rfl (vis_of rfl) rfl rfl) (de_int) (fun _ _ => rfl)) (de_ix (de_loc 1 rfl (vis_of rfl) rfl rfl) (de_int) (fun _ _ => rfl))) (da_nil) rfl) rfl) rfl rfl rfl)))
theorem F_over {P : Program} {w : World} {K : PySem.W.Frag} {mg : Str → Option Value} {base : Heap} (x : Fx K mg) (sr : base.NoSeer) (tr : P.given.tree = none) : FnOk P w K mg base (CX P w) 35 x.a_over x.d_over ["one", "other"] (spD K 2 Ph_over) :=
  fn_body x.F_over S_over fun cdv A outer s H E hr => B_over x sr tr cdv A outer s H E hr
theorem S_Span_put : FnScope ["self", "row", "found", "at", "one", "other"] ["self", "row"] (defScope s_Span_put) := ⟨rfl, rfl, rfl, by decide +kernel, rfl, by decide +kernel, by decide +kernel⟩
theorem B_Span_put {P : Program} {w : World} {K : PySem.W.Frag} {mg : Str → Option Value} {base : Heap} (x : Fx K mg) (sr : base.NoSeer) (tr : P.given.tree = none)
    (cdv : Value) (A : Around) (outer : List Env) (s : Shared) (H : Hp) (E : XK) (hr : Room 36 (A.deeper (envOfC "Span.put" (defScope s_Span_put) s.heap.objs.size x.a_Span_put cdv))) :
    DSs (cxOf (CX P w) P w K mg base ["self", "row", "found", "at", "one", "other"] "Span.put" (defScope s_Span_put) x.a_Span_put cdv A outer s H E) (fun cls d _ H => E cls d H) m_Span_put (defBody s_Span_put) :=
  have S := S_Span_put
  have tk := takes_of (X := cxOf (CX P w) P w K mg base ["self", "row", "found", "at", "one", "other"] "Span.put" (defScope s_Span_put) x.a_Span_put cdv A outer s H E) rfl rfl rfl rfl
  have pyl : PylA P base (A.deeper (envOfC "Span.put" (defScope s_Span_put) s.heap.objs.size x.a_Span_put cdv)) ((envOfC "Span.put" (defScope s_Span_put) s.heap.objs.size x.a_Span_put cdv) :: outer) := ⟨sr, tr, ⟨_, _, rfl, rfl, rfl, rfl, rfl⟩, pyl_dp hr (by decide)⟩
  dss_cons (ds_set 2 S.nd rfl (loc_of rfl) (dr_val (de_frz (dr_meth (c := "Span") (ps := ["self", "row"]) x.c_Span x.m_Span_rest (F_Span_rest x sr tr) (hr.mono (by decide)) x.b_Span_rest .nil Dfl.nil tk (de_loc 0 rfl (vis_of rfl) rfl rfl) (da_cons (de_loc 1 rfl (vis_of rfl) rfl rfl) (da_nil) rfl) rfl rfl rfl))) rfl (.inl rfl)) (dss_cons (ds_for (passes_of rfl) rfl (di_enum rfl x.n_enumerate (da_cons (de_loc 2 rfl (vis_of rfl) rfl rfl) (da_nil) rfl) rfl) (dg_tup rfl (dgs_cons (dg_name 3 S.nd rfl (loc_of rfl) (fn_of rfl)) (dgs_cons (dg_name 4 S.nd rfl (loc_of rfl) (fn_of rfl)) (dgs_nil) rfl) rfl) rfl rfl) (dss_cons (ds_if (dt_cmp (op_neD (u64 hr)) od_ne (de_loc 4 rfl (vis_of rfl) rfl rfl) (de_glo rfl x.v_NOUGHT rfl) (nomark _)) (dss_cons (ds_dputF (hu_of hr) x.f_Span_leads (de_loc 0 rfl (vis_of rfl) rfl rfl) rfl (de_loc 3 rfl (vis_of rfl) rfl rfl) (de_frz (dr_lc (own := [("other", 5)]) (is := [5]) rfl S.nd (di_seq (de_loc 2 rfl (vis_of rfl) rfl rfl)) (blkOk_by (by kernel_rfl)) (by decide) (fun _ _ _ _ _ => dg_name 5 S.nd rfl (loc_of rfl) (fn_of rfl)) (fun _ _ _ _ _ => dts_nil) (fun _ _ _ _ _ => de_frz (dr_call (k := 35) (ps := ["one", "other"]) (F_over x sr tr) (hr.mono (by decide)) rfl x.g_over x.F_over.kp x.b_over .nil Dfl.nil takesW0 (da_cons (de_loc 5 rfl (vis_of rfl) rfl rfl) (da_cons (de_loc 4 rfl (vis_of rfl) rfl rfl) (da_nil) rfl) rfl) rfl rfl rfl)) (fun _ => rfl))) rfl) (dss_one (ds_ret (dr_val (de_bl))))) (dss_nil)) (dss_killEnd)) (fun _ => rfl)) (dss_kill (dss_one (ds_ret (dr_val (de_bl))))))
theorem F_Span_put {P : Program} {w : World} {K : PySem.W.Frag} {mg : Str → Option Value} {base : Heap} (x : Fx K mg) (sr : base.NoSeer) (tr : P.given.tree = none) : FnOk P w K mg base (CX P w) 37 x.a_Span_put x.d_Span_put ["self", "row"] (spD K 2 Ph_Span_put) :=
  fn_body x.F_Span_put S_Span_put fun cdv A outer s H E hr => B_Span_put x sr tr cdv A outer s H E hr
theorem S_all_plans : FnScope ["menus", "stores", "found", "store", "plan", "at"] ["menus", "stores"] (defScope s_all_plans) := ⟨rfl, rfl, rfl, by decide +kernel, rfl, by decide +kernel, by decide +kernel⟩
theorem B_all_plans {P : Program} {w : World} {K : PySem.W.Frag} {mg : Str → Option Value} {base : Heap} (x : Fx K mg) (sr : base.NoSeer) (tr : P.given.tree = none)
    (cdv : Value) (A : Around) (outer : List Env) (s : Shared) (H : Hp) (E : XK) (hr : Room 32 (A.deeper (envOfC "all_plans" (defScope s_all_plans) s.heap.objs.size x.a_all_plans cdv))) :
    DSs (cxOf (CX P w) P w K mg base ["menus", "stores", "found", "store", "plan", "at"] "all_plans" (defScope s_all_plans) x.a_all_plans cdv A outer s H E) (fun cls d _ H => E cls d H) m_all_plans (defBody s_all_plans) :=
  have S := S_all_plans
  have tk := takes_of (X := cxOf (CX P w) P w K mg base ["menus", "stores", "found", "store", "plan", "at"] "all_plans" (defScope s_all_plans) x.a_all_plans cdv A outer s H E) rfl rfl rfl rfl
  have pyl : PylA P base (A.deeper (envOfC "all_plans" (defScope s_all_plans) s.heap.objs.size x.a_all_plans cdv)) ((envOfC "all_plans" (defScope s_all_plans) s.heap.objs.size x.a_all_plans cdv) :: outer) := ⟨sr, tr, ⟨_, _, rfl, rfl, rfl, rfl, rfl⟩, pyl_dp hr (by decide)⟩
  dss_cons (ds_set 2 S.nd rfl (loc_of rfl) (dr_val (de_frz (dr_lst (da_cons (de_tup (da_nil)) (da_nil) rfl)))) rfl (.inl rfl)) (dss_cons (ds_for (passes_of rfl) rfl (di_seq (de_loc 1 rfl (vis_of rfl) rfl rfl)) (dg_name 3 S.nd rfl (loc_of rfl) (fn_of rfl)) (dss_cons (ds_then (ds_setLc2 2 rfl S.nd rfl rfl (sw_true rfl rfl rfl rfl) (own := [("plan", 4), ("at", 5)]) (is := [4]) (is1 := [5]) (vs1 := [5]) (di_seq (de_loc 2 rfl (vis_of rfl) rfl rfl)) (blkOk_by (by kernel_rfl)) (by decide) (by decide) (by decide) (fun _ _ _ _ _ => dg_name 4 S.nd rfl (loc_of rfl) (fn_of rfl)) (fun _ _ _ _ _ => di_rng1 rfl x.n_range (da_cons (de_frz (dr_callB call_len cb_len rfl x.n_len boot_len (da_cons (de_ix (de_ix (de_loc 0 rfl (vis_of rfl) rfl rfl) (de_loc 3 rfl (vis_of rfl) rfl rfl) (fun _ _ => rfl)) (de_int) (fun _ _ => rfl)) (da_nil) rfl) (by decide) rfl rfl rfl)) (da_nil) rfl) rfl) (fun _ _ _ _ _ => dg_name 5 S.nd rfl (loc_of rfl) (fn_of rfl)) (fun _ _ _ _ _ => de_op (op_catA) od_addT (de_loc 4 rfl (vis_of rfl) rfl rfl) (de_tup (da_cons (de_loc 5 rfl (vis_of rfl) rfl rfl) (da_nil) rfl))) (fun _ => rfl) (fun _ _ => rfl))) (dss_killEnd)) (fun _ => rfl)) (dss_kill (dss_one (ds_ret (dr_val (de_loc 2 rfl (vis_of rfl) rfl rfl))))))
theorem F_all_plans {P : Program} {w : World} {K : PySem.W.Frag} {mg : Str → Option Value} {base : Heap} (x : Fx K mg) (sr : base.NoSeer) (tr : P.given.tree = none) : FnOk P w K mg base (CX P w) 33 x.a_all_plans x.d_all_plans ["menus", "stores"] (spD K 2 Ph_all_plans) :=
  fn_body x.F_all_plans S_all_plans fun cdv A outer s H E hr => B_all_plans x sr tr cdv A outer s H E hr
theorem S_plus : FnScope ["one", "other"] ["one", "other"] (defScope s_plus) := ⟨rfl, rfl, rfl, by decide +kernel, rfl, by decide +kernel, by decide +kernel⟩
theorem B_plus {P : Program} {w : World} {K : PySem.W.Frag} {mg : Str → Option Value} {base : Heap} (x : Fx K mg) (sr : base.NoSeer) (tr : P.given.tree = none)
    (cdv : Value) (A : Around) (outer : List Env) (s : Shared) (H : Hp) (E : XK) (hr : Room 34 (A.deeper (envOfC "plus" (defScope s_plus) s.heap.objs.size x.a_plus cdv))) :
    DSs (cxOf (CX P w) P w K mg base ["one", "other"] "plus" (defScope s_plus) x.a_plus cdv A outer s H E) (fun cls d _ H => E cls d H) m_plus (defBody s_plus) :=
  have S := S_plus
  have tk := takes_of (X := cxOf (CX P w) P w K mg base ["one", "other"] "plus" (defScope s_plus) x.a_plus cdv A outer s H E) rfl rfl rfl rfl
  have pyl : PylA P base (A.deeper (envOfC "plus" (defScope s_plus) s.heap.objs.size x.a_plus cdv)) ((envOfC "plus" (defScope s_plus) s.heap.objs.size x.a_plus cdv) :: outer) := ⟨sr, tr, ⟨_, _, rfl, rfl, rfl, rfl, rfl⟩, pyl_dp hr (by decide)⟩
  dss_one (ds_ret (dr_call (k := 34) (ps := ["upper", "lower"]) (F_part x sr tr) (hr.mono (by decide)) rfl x.g_part x.F_part.kp x.b_part .nil Dfl.nil tk (da_cons (de_op (op_add) od_add (de_op (op_mulB) od_mul (de_ix (de_loc 0 rfl (vis_of rfl) rfl rfl) (de_int) (fun _ _ => rfl)) (de_ix (de_loc 1 rfl (vis_of rfl) rfl rfl) (de_int) (fun _ _ => rfl))) (de_op (op_mulB) od_mul (de_ix (de_loc 1 rfl (vis_of rfl) rfl rfl) (de_int) (fun _ _ => rfl)) (de_ix (de_loc 0 rfl (vis_of rfl) rfl rfl) (de_int) (fun _ _ => rfl)))) (da_cons (de_op (op_mulB) od_mul (de_ix (de_loc 0 rfl (vis_of rfl) rfl rfl) (de_int) (fun _ _ => rfl)) (de_ix (de_loc 1 rfl (vis_of rfl) rfl rfl) (de_int) (fun _ _ => rfl))) (da_nil) rfl) rfl) rfl rfl rfl))
theorem F_plus {P : Program} {w : World} {K : PySem.W.Frag} {mg : Str → Option Value} {base : Heap} (x : Fx K mg) (sr : base.NoSeer) (tr : P.given.tree = none) : FnOk P w K mg base (CX P w) 35 x.a_plus x.d_plus ["one", "other"] (spD K 2 Ph_plus) :=
  fn_body x.F_plus S_plus fun cdv A outer s H E hr => B_plus x sr tr cdv A outer s H E hr
theorem S_row_by : FnScope ["row", "table", "found", "one", "shares", "had", "share"] ["row", "table"] (defScope s_row_by) := ⟨rfl, rfl, rfl, by decide +kernel, rfl, by decide +kernel, by decide +kernel⟩
theorem B_row_by {P : Program} {w : World} {K : PySem.W.Frag} {mg : Str → Option Value} {base : Heap} (x : Fx K mg) (sr : base.NoSeer) (tr : P.given.tree = none)
    (cdv : Value) (A : Around) (outer : List Env) (s : Shared) (H : Hp) (E : XK) (hr : Room 35 (A.deeper (envOfC "row_by" (defScope s_row_by) s.heap.objs.size x.a_row_by cdv))) :
    DSs (cxOf (CX P w) P w K mg base ["row", "table", "found", "one", "shares", "had", "share"] "row_by" (defScope s_row_by) x.a_row_by cdv A outer s H E) (fun cls d _ H => E cls d H) m_row_by (defBody s_row_by) :=
  have S := S_row_by
  have tk := takes_of (X := cxOf (CX P w) P w K mg base ["row", "table", "found", "one", "shares", "had", "share"] "row_by" (defScope s_row_by) x.a_row_by cdv A outer s H E) rfl rfl rfl rfl
  have pyl : PylA P base (A.deeper (envOfC "row_by" (defScope s_row_by) s.heap.objs.size x.a_row_by cdv)) ((envOfC "row_by" (defScope s_row_by) s.heap.objs.size x.a_row_by cdv) :: outer) := ⟨sr, tr, ⟨_, _, rfl, rfl, rfl, rfl, rfl⟩, pyl_dp hr (by decide)⟩
  dss_cons (ds_set 2 S.nd rfl (loc_of rfl) (dr_val (de_op (op_rep) od_mulL (de_frz (dr_lst (da_cons (de_glo rfl x.v_NOUGHT rfl) (da_nil) rfl))) (de_frz (dr_callB call_len cb_len rfl x.n_len boot_len (da_cons (de_loc 0 rfl (vis_of rfl) rfl rfl) (da_nil) rfl) (by decide) rfl rfl rfl)))) rfl (.inl rfl)) (dss_cons (ds_for (passes_of rfl) rfl (di_zipS rfl x.n_zip (da_cons (de_loc 0 rfl (vis_of rfl) rfl rfl) (da_cons (de_loc 1 rfl (vis_of rfl) rfl rfl) (da_nil) rfl) rfl) rfl rfl) (dg_tup rfl (dgs_cons (dg_name 3 S.nd rfl (loc_of rfl) (fn_of rfl)) (dgs_cons (dg_name 4 S.nd rfl (loc_of rfl) (fn_of rfl)) (dgs_nil) rfl) rfl) rfl rfl) (dss_cons (ds_if (dt_cmp (op_neD (u64 hr)) od_ne (de_loc 3 rfl (vis_of rfl) rfl rfl) (de_glo rfl x.v_NOUGHT rfl) (nomark _)) (dss_one (ds_then (ds_setLc 2 rfl S.nd rfl rfl (sw_true rfl rfl rfl rfl) (own := [("had", 5), ("share", 6)]) (is := ([5] ++ ([6] ++ []))) (di_zipS rfl x.n_zip (da_cons (de_loc 2 rfl (vis_of rfl) rfl rfl) (da_cons (de_loc 4 rfl (vis_of rfl) rfl rfl) (da_nil) rfl) rfl) rfl rfl) (blkOk_by (by kernel_rfl)) (by decide) (fun _ _ _ _ _ => dg_tup rfl (dgs_cons (dg_name 5 S.nd rfl (loc_of rfl) (fn_of rfl)) (dgs_cons (dg_name 6 S.nd rfl (loc_of rfl) (fn_of rfl)) (dgs_nil) rfl) rfl) rfl rfl) (fun _ _ _ _ _ => dts_nil) (fun _ _ _ _ _ => de_frz (dr_call (k := 35) (ps := ["one", "other"]) (F_plus x sr tr) (hr.mono (by decide)) rfl x.g_plus x.F_plus.kp x.b_plus .nil Dfl.nil takesW0 (da_cons (de_loc 5 rfl (vis_of rfl) rfl rfl) (da_cons (de_frz (dr_call (k := 35) (ps := ["one", "other"]) (F_times x sr tr) (hr.mono (by decide)) rfl x.g_times x.F_times.kp x.b_times .nil Dfl.nil takesW0 (da_cons (de_loc 3 rfl (vis_of rfl) rfl rfl) (da_cons (de_loc 6 rfl (vis_of rfl) rfl rfl) (da_nil) rfl) rfl) rfl rfl rfl)) (da_nil) rfl) rfl) rfl rfl rfl)) (fun _ => rfl)))) (dss_nil)) (dss_killEnd)) (fun _ => rfl)) (dss_kill (dss_one (ds_ret (dr_callTy call_tuple_of cb_tuple rfl x.n_tuple boot_tuple (da_cons (de_loc 2 rfl (vis_of rfl) rfl rfl) (da_nil) rfl) (by decide) rfl rfl rfl)))))
theorem F_row_by {P : Program} {w : World} {K : PySem.W.Frag} {mg : Str → Option Value} {base : Heap} (x : Fx K mg) (sr : base.NoSeer) (tr : P.given.tree = none) : FnOk P w K mg base (CX P w) 36 x.a_row_by x.d_row_by ["row", "table"] (spD K 2 Ph_row_by) :=
  fn_body x.F_row_by S_row_by fun cdv A outer s H E hr => B_row_by x sr tr cdv A outer s H E hr
theorem S_taken : FnScope ["menus", "choice", "store", "at"] ["menus", "choice"] (defScope s_taken) := ⟨rfl, rfl, rfl, by decide +kernel, rfl, by decide +kernel, by decide +kernel⟩
theorem B_taken {P : Program} {w : World} {K : PySem.W.Frag} {mg : Str → Option Value} {base : Heap} (x : Fx K mg) (sr : base.NoSeer) (tr : P.given.tree = none)
    (cdv : Value) (A : Around) (outer : List Env) (s : Shared) (H : Hp) (E : XK) (hr : Room 32 (A.deeper (envOfC "taken" (defScope s_taken) s.heap.objs.size x.a_taken cdv))) :
    DSs (cxOf (CX P w) P w K mg base ["menus", "choice", "store", "at"] "taken" (defScope s_taken) x.a_taken cdv A outer s H E) (fun cls d _ H => E cls d H) m_taken (defBody s_taken) :=
  have S := S_taken
  have tk := takes_of (X := cxOf (CX P w) P w K mg base ["menus", "choice", "store", "at"] "taken" (defScope s_taken) x.a_taken cdv A outer s H E) rfl rfl rfl rfl
  have pyl : PylA P base (A.deeper (envOfC "taken" (defScope s_taken) s.heap.objs.size x.a_taken cdv)) ((envOfC "taken" (defScope s_taken) s.heap.objs.size x.a_taken cdv) :: outer) := ⟨sr, tr, ⟨_, _, rfl, rfl, rfl, rfl, rfl⟩, pyl_dp hr (by decide)⟩
  dss_one (ds_ret (dr_lc (own := [("store", 2), ("at", 3)]) (is := ([2] ++ ([3] ++ []))) rfl S.nd (di_enum rfl x.n_enumerate (da_cons (de_loc 1 rfl (vis_of rfl) rfl rfl) (da_nil) rfl) rfl) (blkOk_by (by kernel_rfl)) (by decide) (fun _ _ _ _ _ => dg_tup rfl (dgs_cons (dg_name 2 S.nd rfl (loc_of rfl) (fn_of rfl)) (dgs_cons (dg_name 3 S.nd rfl (loc_of rfl) (fn_of rfl)) (dgs_nil) rfl) rfl) rfl rfl) (fun _ _ _ _ _ => dts_nil) (fun _ _ _ _ _ => de_ix (de_ix (de_ix (de_loc 0 rfl (vis_of rfl) rfl rfl) (de_loc 2 rfl (vis_of rfl) rfl rfl) (fun _ _ => rfl)) (de_int) (fun _ _ => rfl)) (de_loc 3 rfl (vis_of rfl) rfl rfl) (fun _ _ => rfl)) (fun _ => rfl)))
theorem F_taken {P : Program} {w : World} {K : PySem.W.Frag} {mg : Str → Option Value} {base : Heap} (x : Fx K mg) (sr : base.NoSeer) (tr : P.given.tree = none) : FnOk P w K mg base (CX P w) 33 x.a_taken x.d_taken ["menus", "choice"] (spD K 2 Ph_taken) :=
  fn_body x.F_taken S_taken fun cdv A outer s H E hr => B_taken x sr tr cdv A outer s H E hr
theorem S_alike : FnScope ["one", "other", "counts", "span", "basis", "waiting", "row", "choices", "choice", "here", "there", "store", "at"] ["one", "other", "counts"] (defScope s_alike) := ⟨rfl, rfl, rfl, by decide +kernel, rfl, by decide +kernel, by decide +kernel⟩
theorem B_alike {P : Program} {w : World} {K : PySem.W.Frag} {mg : Str → Option Value} {base : Heap} (x : Fx K mg) (sr : base.NoSeer) (tr : P.given.tree = none)
    (cdv : Value) (A : Around) (outer : List Env) (s : Shared) (H : Hp) (E : XK) (hr : Room 37 (A.deeper (envOfC "alike" (defScope s_alike) s.heap.objs.size x.a_alike cdv))) :
    DSs (cxOf (CX P w) P w K mg base ["one", "other", "counts", "span", "basis", "waiting", "row", "choices", "choice", "here", "there", "store", "at"] "alike" (defScope s_alike) x.a_alike cdv A outer s H E) (fun cls d _ H => E cls d H) m_alike (defBody s_alike) :=
  have S := S_alike
  have tk := takes_of (X := cxOf (CX P w) P w K mg base ["one", "other", "counts", "span", "basis", "waiting", "row", "choices", "choice", "here", "there", "store", "at"] "alike" (defScope s_alike) x.a_alike cdv A outer s H E) rfl rfl rfl rfl
  have pyl : PylA P base (A.deeper (envOfC "alike" (defScope s_alike) s.heap.objs.size x.a_alike cdv)) ((envOfC "alike" (defScope s_alike) s.heap.objs.size x.a_alike cdv) :: outer) := ⟨sr, tr, ⟨_, _, rfl, rfl, rfl, rfl, rfl⟩, pyl_dp hr (by decide)⟩
  dss_cons (ds_expr (de_frz (dr_call (k := 35) (ps := ["one", "other", "counts"]) (F_need_both x sr tr) (hr.mono (by decide)) rfl x.g_need_both x.F_need_both.kp x.b_need_both .nil Dfl.nil tk (da_cons (de_loc 0 rfl (vis_of rfl) rfl rfl) (da_cons (de_loc 1 rfl (vis_of rfl) rfl rfl) (da_cons (de_loc 2 rfl (vis_of rfl) rfl rfl) (da_nil) rfl) rfl) rfl) rfl rfl rfl)) rfl) (dss_cons (ds_set 3 S.nd rfl (loc_of rfl) (dr_val (de_make0 (c := "Span") (ps := ["self"]) x.mk_Span (F_Span___init__ x sr tr) (hr.mono (by decide)) rfl x.g_Span x.b_Span___init__ .nil Dfl.nil tk rfl)) rfl (.inl rfl)) (dss_cons (ds_set 4 S.nd rfl (loc_of rfl) (dr_lst (da_nil)) rfl (.inl rfl)) (dss_cons (ds_set 5 S.nd rfl (loc_of rfl) (dr_ife (dt_tru (de_frz (dr_meth (c := "Span") (ps := ["self", "row"]) x.c_Span x.m_Span_put (F_Span_put x sr tr) (hr.mono (by decide)) x.b_Span_put .nil Dfl.nil tk (de_loc 3 rfl (vis_of rfl) rfl rfl) (da_cons (de_loc 2 rfl (vis_of rfl) rfl rfl) (da_nil) rfl) rfl rfl rfl)) (fun _ => rfl)) (dr_lst (da_cons (de_tup (da_cons (de_frz (dr_callTy call_tuple_of cb_tuple rfl x.n_tuple boot_tuple (da_cons (de_loc 2 rfl (vis_of rfl) rfl rfl) (da_nil) rfl) (by decide) rfl rfl rfl)) (da_cons (de_frz (dr_lst (da_nil))) (da_nil) rfl) rfl)) (da_nil) rfl)) (dr_lst (da_nil))) rfl (.inl rfl)) (dss_cons (ds_while (passes_of rfl) (dt_neOwn 5 (u64 hr) rfl (vis_of rfl) rfl rfl (de_frz (dr_lst (da_nil))) (nomark _)) (dss_let (dss_cons (ds_asg (de_loc 5 rfl (vis_of rfl) rfl rfl) (dg_starO rfl (dgo_cons (dg_tup rfl (dgs_cons (dg_name 6 S.nd rfl (loc_of rfl) (fn_of rfl)) (dgs_cons (dg_name 7 S.nd rfl (loc_of rfl) (fn_of rfl)) (dgs_nil) rfl) rfl) rfl rfl) (dgo_last 5 S.nd rfl (loc_of rfl) (fn_of rfl)) rfl) rfl rfl (by decide)) rfl rfl rfl) (dss_cons (ds_expr (de_mt 4 PySem.F.slot_list_append PySem.F.type_list_append mt_append md_append rfl (vis_of rfl) rfl rfl (da_cons (de_loc 6 rfl (vis_of rfl) rfl rfl) (da_nil) rfl) rfl rfl rfl rfl rfl) rfl) (dss_cons (ds_for (passes_of rfl) rfl (di_seq (de_frz (dr_call (k := 33) (ps := ["menus", "stores"]) (F_all_plans x sr tr) (hr.mono (by decide)) rfl x.g_all_plans x.F_all_plans.kp x.b_all_plans .nil Dfl.nil tk (da_cons (de_loc 0 rfl (vis_of rfl) rfl rfl) (da_cons (de_frz (dr_listRg rfl rfl x.n_list rfl x.n_range (de_frz (dr_callB call_len cb_len rfl x.n_len boot_len (da_cons (de_loc 0 rfl (vis_of rfl) rfl rfl) (da_nil) rfl) (by decide) rfl rfl rfl)) rfl rfl)) (da_nil) rfl) rfl) rfl rfl rfl))) (dg_name 8 S.nd rfl (loc_of rfl) (fn_of rfl)) (dss_cons (ds_asg (de_tup (da_cons (de_frz (dr_call (k := 36) (ps := ["row", "table"]) (F_row_by x sr tr) (hr.mono (by decide)) rfl x.g_row_by x.F_row_by.kp x.b_row_by .nil Dfl.nil tk (da_cons (de_loc 6 rfl (vis_of rfl) rfl rfl) (da_cons (de_frz (dr_call (k := 33) (ps := ["menus", "choice"]) (F_taken x sr tr) (hr.mono (by decide)) rfl x.g_taken x.F_taken.kp x.b_taken .nil Dfl.nil tk (da_cons (de_loc 0 rfl (vis_of rfl) rfl rfl) (da_cons (de_loc 8 rfl (vis_of rfl) rfl rfl) (da_nil) rfl) rfl) rfl rfl rfl)) (da_nil) rfl) rfl) rfl rfl rfl)) (da_cons (de_frz (dr_call (k := 36) (ps := ["row", "table"]) (F_row_by x sr tr) (hr.mono (by decide)) rfl x.g_row_by x.F_row_by.kp x.b_row_by .nil Dfl.nil tk (da_cons (de_loc 6 rfl (vis_of rfl) rfl rfl) (da_cons (de_frz (dr_call (k := 33) (ps := ["menus", "choice"]) (F_taken x sr tr) (hr.mono (by decide)) rfl x.g_taken x.F_taken.kp x.b_taken .nil Dfl.nil tk (da_cons (de_loc 1 rfl (vis_of rfl) rfl rfl) (da_cons (de_loc 8 rfl (vis_of rfl) rfl rfl) (da_nil) rfl) rfl) rfl rfl rfl)) (da_nil) rfl) rfl) rfl rfl rfl)) (da_nil) rfl) rfl)) (dg_tup rfl (dgs_cons (dg_name 9 S.nd rfl (loc_of rfl) (fn_of rfl)) (dgs_cons (dg_name 10 S.nd rfl (loc_of rfl) (fn_of rfl)) (dgs_nil) rfl) rfl) rfl rfl) rfl rfl rfl) (dss_cons (ds_if (dt_cmp (op_neD (u64 hr)) od_ne (de_loc 9 rfl (vis_of rfl) rfl rfl) (de_loc 10 rfl (vis_of rfl) rfl rfl) (nomark _)) (dss_cons (ds_set 11 S.nd rfl (loc_of rfl) (dr_val (de_ix (de_frz (dr_lc (own := [("at", 12)]) (is := [12]) rfl S.nd (di_rng1 rfl x.n_range (da_cons (de_frz (dr_callB call_len cb_len rfl x.n_len boot_len (da_cons (de_loc 9 rfl (vis_of rfl) rfl rfl) (da_nil) rfl) (by decide) rfl rfl rfl)) (da_nil) rfl) rfl) (blkOk_by (by kernel_rfl)) (by decide) (fun _ _ _ _ _ => dg_name 12 S.nd rfl (loc_of rfl) (fn_of rfl)) (fun _ _ _ _ _ => dts_one (dt_cmp (op_neD (u64 hr)) od_ne (de_ix (de_loc 9 rfl (vis_of rfl) rfl rfl) (de_loc 12 rfl (vis_of rfl) rfl rfl) (fun _ _ => rfl)) (de_ix (de_loc 10 rfl (vis_of rfl) rfl rfl) (de_loc 12 rfl (vis_of rfl) rfl rfl) (fun _ _ => rfl)) (nomark _))) (fun _ _ _ _ _ => de_loc 12 rfl (vis_of rfl) rfl rfl) (fun _ => rfl))) (de_int) (fun _ _ => rfl))) rfl (.inl rfl)) (dss_one (ds_ret (dr_val (de_tup (da_cons (de_str) (da_cons (de_op (op_cat) od_addL (de_frz (dr_lst (da_cons (de_loc 8 rfl (vis_of rfl) rfl rfl) (da_nil) rfl))) (de_loc 7 rfl (vis_of rfl) rfl rfl)) (da_cons (de_loc 11 rfl (vis_of rfl) rfl rfl) (da_nil) rfl) rfl) rfl)))))) (dss_nil)) (dss_cons (ds_if (dt_tru (de_frz (dr_meth (c := "Span") (ps := ["self", "row"]) x.c_Span x.m_Span_put (F_Span_put x sr tr) (hr.mono (by decide)) x.b_Span_put .nil Dfl.nil tk (de_loc 3 rfl (vis_of rfl) rfl rfl) (da_cons (de_loc 9 rfl (vis_of rfl) rfl rfl) (da_nil) rfl) rfl rfl rfl)) (fun _ => rfl)) (dss_one (ds_expr (de_mt 5 PySem.F.slot_list_append PySem.F.type_list_append mt_append md_append rfl (vis_of rfl) rfl rfl (da_cons (de_tup (da_cons (de_loc 9 rfl (vis_of rfl) rfl rfl) (da_cons (de_op (op_cat) od_addL (de_frz (dr_lst (da_cons (de_loc 8 rfl (vis_of rfl) rfl rfl) (da_nil) rfl))) (de_loc 7 rfl (vis_of rfl) rfl rfl)) (da_nil) rfl) rfl)) (da_nil) rfl) rfl rfl rfl rfl rfl) rfl)) (dss_nil)) (dss_killEnd)))) (fun _ => rfl)) (dss_kill (dss_killEnd))))))) (dss_kill (dss_let (dss_one (ds_ret (dr_val (de_tup (da_cons (de_str) (da_cons (de_loc 4 rfl (vis_of rfl) rfl rfl) (da_nil) rfl) rfl)))))))))))
theorem F_alike {P : Program} {w : World} {K : PySem.W.Frag} {mg : Str → Option Value} {base : Heap} (x : Fx K mg) (sr : base.NoSeer) (tr : P.given.tree = none) : FnOk P w K mg base (CX P w) 38 x.a_alike x.d_alike ["one", "other", "counts"] (spD K 3 Ph_alike) :=
  fn_body x.F_alike S_alike fun cdv A outer s H E hr => B_alike x sr tr cdv A outer s H E hr
theorem S__law_choices : FnScope ["_law_book", "_law_found", "_law_whose", "_law_lines", "_law_later", "_law_way", "_law_at"] ["_law_book"] (defScope s__law_choices) := ⟨rfl, rfl, rfl, by decide +kernel, rfl, by decide +kernel, by decide +kernel⟩
theorem B__law_choices {P : Program} {w : World} {K : PySem.W.Frag} {mg : Str → Option Value} {base : Heap} (x : Fx K mg) (sr : base.NoSeer) (tr : P.given.tree = none)
    (cdv : Value) (A : Around) (outer : List Env) (s : Shared) (H : Hp) (E : XK) (hr : Room 32 (A.deeper (envOfC "_law_choices" (defScope s__law_choices) s.heap.objs.size x.a__law_choices cdv))) :
    DSs (cxOf (CX P w) P w K mg base ["_law_book", "_law_found", "_law_whose", "_law_lines", "_law_later", "_law_way", "_law_at"] "_law_choices" (defScope s__law_choices) x.a__law_choices cdv A outer s H E) (fun cls d _ H => E cls d H) m__law_choices (defBody s__law_choices) :=
  have S := S__law_choices
  have tk := takes_of (X := cxOf (CX P w) P w K mg base ["_law_book", "_law_found", "_law_whose", "_law_lines", "_law_later", "_law_way", "_law_at"] "_law_choices" (defScope s__law_choices) x.a__law_choices cdv A outer s H E) rfl rfl rfl rfl
  have pyl : PylA P base (A.deeper (envOfC "_law_choices" (defScope s__law_choices) s.heap.objs.size x.a__law_choices cdv)) ((envOfC "_law_choices" (defScope s__law_choices) s.heap.objs.size x.a__law_choices cdv) :: outer) := ⟨sr, tr, ⟨_, _, rfl, rfl, rfl, rfl, rfl⟩, pyl_dp hr (by decide)⟩
  dss_cons (ds_set 1 S.nd rfl (loc_of rfl) (dr_val (de_frz (dr_lst (da_cons (de_tup (da_nil)) (da_nil) rfl)))) rfl (.inl rfl)) (dss_cons (ds_for (passes_of rfl) rfl (di_seq (de_loc 0 rfl (vis_of rfl) rfl rfl)) (dg_tup rfl (dgs_cons (dg_name 2 S.nd rfl (loc_of rfl) (fn_of rfl)) (dgs_cons (dg_name 3 S.nd rfl (loc_of rfl) (fn_of rfl)) (dgs_nil) rfl) rfl) rfl rfl) (dss_cons (ds_set 4 S.nd rfl (loc_of rfl) (dr_val (de_frz (dr_lst (da_nil)))) rfl (.inl rfl)) (dss_cons (ds_for (passes_of rfl) rfl (di_seq (de_loc 1 rfl (vis_of rfl) rfl rfl)) (dg_name 5 S.nd rfl (loc_of rfl) (fn_of rfl)) (dss_cons (ds_set 4 S.nd rfl (loc_of rfl) (dr_val (de_op (op_cat) od_addL (de_loc 4 rfl (vis_of rfl) rfl rfl) (de_frz (dr_lc (own := [("_law_at", 6)]) (is := [6]) rfl S.nd (di_rng1 rfl x.n_range (da_cons (de_frz (dr_callB call_len cb_len rfl x.n_len boot_len (da_cons (de_loc 3 rfl (vis_of rfl) rfl rfl) (da_nil) rfl) (by decide) rfl rfl rfl)) (da_nil) rfl) rfl) (blkOk_by (by kernel_rfl)) (by decide) (fun _ _ _ _ _ => dg_name 6 S.nd rfl (loc_of rfl) (fn_of rfl)) (fun _ _ _ _ _ => dts_nil) (fun _ _ _ _ _ => de_op (op_catA) od_addT (de_loc 5 rfl (vis_of rfl) rfl rfl) (de_tup (da_cons (de_loc 6 rfl (vis_of rfl) rfl rfl) (da_nil) rfl))) (fun _ => rfl))))) rfl (.inl rfl)) (dss_killEnd)) (fun _ => rfl)) (dss_kill (dss_cons (ds_set 1 S.nd rfl (loc_of rfl) (dr_val (de_loc 4 rfl (vis_of rfl) rfl rfl)) rfl (.inl rfl)) (dss_killEnd))))) (fun _ => rfl)) (dss_kill (dss_one (ds_ret (dr_val (de_loc 1 rfl (vis_of rfl) rfl rfl))))))
theorem F__law_choices {P : Program} {w : World} {K : PySem.W.Frag} {mg : Str → Option Value} {base : Heap} (x : Fx K mg) (sr : base.NoSeer) (tr : P.given.tree = none) : FnOk P w K mg base (CX P w) 33 x.a__law_choices x.d__law_choices ["_law_book"] (spD K 1 Ph__law_choices) :=
  fn_body x.F__law_choices S__law_choices fun cdv A outer s H E hr => B__law_choices x sr tr cdv A outer s H E hr
theorem S__law_plus : FnScope ["_law_this", "_law_that"] ["_law_this", "_law_that"] (defScope s__law_plus) := ⟨rfl, rfl, rfl, by decide +kernel, rfl, by decide +kernel, by decide +kernel⟩
theorem B__law_plus {P : Program} {w : World} {K : PySem.W.Frag} {mg : Str → Option Value} {base : Heap} (x : Fx K mg) (sr : base.NoSeer) (tr : P.given.tree = none)
    (cdv : Value) (A : Around) (outer : List Env) (s : Shared) (H : Hp) (E : XK) (hr : Room 33 (A.deeper (envOfC "_law_plus" (defScope s__law_plus) s.heap.objs.size x.a__law_plus cdv))) :
    DSs (cxOf (CX P w) P w K mg base ["_law_this", "_law_that"] "_law_plus" (defScope s__law_plus) x.a__law_plus cdv A outer s H E) (fun cls d _ H => E cls d H) m__law_plus (defBody s__law_plus) :=
  have S := S__law_plus
  have tk := takes_of (X := cxOf (CX P w) P w K mg base ["_law_this", "_law_that"] "_law_plus" (defScope s__law_plus) x.a__law_plus cdv A outer s H E) rfl rfl rfl rfl
  have pyl : PylA P base (A.deeper (envOfC "_law_plus" (defScope s__law_plus) s.heap.objs.size x.a__law_plus cdv)) ((envOfC "_law_plus" (defScope s__law_plus) s.heap.objs.size x.a__law_plus cdv) :: outer) := ⟨sr, tr, ⟨_, _, rfl, rfl, rfl, rfl, rfl⟩, pyl_dp hr (by decide)⟩
  dss_one (ds_ret (dr_call (k := 33) (ps := ["_law_up", "_law_down"]) (F__law_part x sr tr) (hr.mono (by decide)) rfl x.g__law_part x.F__law_part.kp x.b__law_part .nil Dfl.nil tk (da_cons (de_op (op_add) od_add (de_op (op_mulB) od_mul (de_ix (de_loc 0 rfl (vis_of rfl) rfl rfl) (de_int) (fun _ _ => rfl)) (de_ix (de_loc 1 rfl (vis_of rfl) rfl rfl) (de_int) (fun _ _ => rfl))) (de_op (op_mulB) od_mul (de_ix (de_loc 1 rfl (vis_of rfl) rfl rfl) (de_int) (fun _ _ => rfl)) (de_ix (de_loc 0 rfl (vis_of rfl) rfl rfl) (de_int) (fun _ _ => rfl)))) (da_cons (de_op (op_mulB) od_mul (de_ix (de_loc 0 rfl (vis_of rfl) rfl rfl) (de_int) (fun _ _ => rfl)) (de_ix (de_loc 1 rfl (vis_of rfl) rfl rfl) (de_int) (fun _ _ => rfl))) (da_nil) rfl) rfl) rfl rfl rfl))
theorem F__law_plus {P : Program} {w : World} {K : PySem.W.Frag} {mg : Str → Option Value} {base : Heap} (x : Fx K mg) (sr : base.NoSeer) (tr : P.given.tree = none) : FnOk P w K mg base (CX P w) 34 x.a__law_plus x.d__law_plus ["_law_this", "_law_that"] (spD K 2 Ph__law_plus) :=
  fn_body x.F__law_plus S__law_plus fun cdv A outer s H E hr => B__law_plus x sr tr cdv A outer s H E hr
theorem S__law_sum : FnScope ["_law_line", "_law_some", "_law_found", "_law_this", "_law_that"] ["_law_line", "_law_some"] (defScope s__law_sum) := ⟨rfl, rfl, rfl, by decide +kernel, rfl, by decide +kernel, by decide +kernel⟩
theorem B__law_sum {P : Program} {w : World} {K : PySem.W.Frag} {mg : Str → Option Value} {base : Heap} (x : Fx K mg) (sr : base.NoSeer) (tr : P.given.tree = none)
    (cdv : Value) (A : Around) (outer : List Env) (s : Shared) (H : Hp) (E : XK) (hr : Room 34 (A.deeper (envOfC "_law_sum" (defScope s__law_sum) s.heap.objs.size x.a__law_sum cdv))) :
    DSs (cxOf (CX P w) P w K mg base ["_law_line", "_law_some", "_law_found", "_law_this", "_law_that"] "_law_sum" (defScope s__law_sum) x.a__law_sum cdv A outer s H E) (fun cls d _ H => E cls d H) m__law_sum (defBody s__law_sum) :=
  have S := S__law_sum
  have tk := takes_of (X := cxOf (CX P w) P w K mg base ["_law_line", "_law_some", "_law_found", "_law_this", "_law_that"] "_law_sum" (defScope s__law_sum) x.a__law_sum cdv A outer s H E) rfl rfl rfl rfl
  have pyl : PylA P base (A.deeper (envOfC "_law_sum" (defScope s__law_sum) s.heap.objs.size x.a__law_sum cdv)) ((envOfC "_law_sum" (defScope s__law_sum) s.heap.objs.size x.a__law_sum cdv) :: outer) := ⟨sr, tr, ⟨_, _, rfl, rfl, rfl, rfl, rfl⟩, pyl_dp hr (by decide)⟩
  dss_cons (ds_set 2 S.nd rfl (loc_of rfl) (dr_val (de_tup (da_cons (de_int) (da_cons (de_int) (da_nil) rfl) rfl))) rfl (.inl rfl)) (dss_cons (ds_for (passes_of rfl) rfl (di_zip rfl x.n_zip (da_cons (de_loc 0 rfl (vis_of rfl) rfl rfl) (da_cons (de_loc 1 rfl (vis_of rfl) rfl rfl) (da_nil) rfl) rfl) rfl rfl) (dg_tup rfl (dgs_cons (dg_name 3 S.nd rfl (loc_of rfl) (fn_of rfl)) (dgs_cons (dg_name 4 S.nd rfl (loc_of rfl) (fn_of rfl)) (dgs_nil) rfl) rfl) rfl rfl) (dss_one (ds_set 2 S.nd rfl (loc_of rfl) (dr_val (de_frz (dr_call (k := 34) (ps := ["_law_this", "_law_that"]) (F__law_plus x sr tr) (hr.mono (by decide)) rfl x.g__law_plus x.F__law_plus.kp x.b__law_plus .nil Dfl.nil tk (da_cons (de_loc 2 rfl (vis_of rfl) rfl rfl) (da_cons (de_frz (dr_call (k := 34) (ps := ["_law_this", "_law_that"]) (F__law_times x sr tr) (hr.mono (by decide)) rfl x.g__law_times x.F__law_times.kp x.b__law_times .nil Dfl.nil tk (da_cons (de_loc 3 rfl (vis_of rfl) rfl rfl) (da_cons (de_loc 4 rfl (vis_of rfl) rfl rfl) (da_nil) rfl) rfl) rfl rfl rfl)) (da_nil) rfl) rfl) rfl rfl rfl))) rfl (.inl rfl))) (fun _ => rfl)) (dss_one (ds_ret (dr_val (de_loc 2 rfl (vis_of rfl) rfl rfl)))))
theorem F__law_sum {P : Program} {w : World} {K : PySem.W.Frag} {mg : Str → Option Value} {base : Heap} (x : Fx K mg) (sr : base.NoSeer) (tr : P.given.tree = none) : FnOk P w K mg base (CX P w) 35 x.a__law_sum x.d__law_sum ["_law_line", "_law_some"] (spD K 2 Ph__law_sum) :=
  fn_body x.F__law_sum S__law_sum fun cdv A outer s H E hr => B__law_sum x sr tr cdv A outer s H E hr
theorem S__law_by : FnScope ["_law_line", "_law_table", "_law_found", "_law_to", "_law_shares_now"] ["_law_line", "_law_table"] (defScope s__law_by) := ⟨rfl, rfl, rfl, by decide +kernel, rfl, by decide +kernel, by decide +kernel⟩
theorem B__law_by {P : Program} {w : World} {K : PySem.W.Frag} {mg : Str → Option Value} {base : Heap} (x : Fx K mg) (sr : base.NoSeer) (tr : P.given.tree = none)
    (cdv : Value) (A : Around) (outer : List Env) (s : Shared) (H : Hp) (E : XK) (hr : Room 35 (A.deeper (envOfC "_law_by" (defScope s__law_by) s.heap.objs.size x.a__law_by cdv))) :
    DSs (cxOf (CX P w) P w K mg base ["_law_line", "_law_table", "_law_found", "_law_to", "_law_shares_now"] "_law_by" (defScope s__law_by) x.a__law_by cdv A outer s H E) (fun cls d _ H => E cls d H) m__law_by (defBody s__law_by) :=
  have S := S__law_by
  have tk := takes_of (X := cxOf (CX P w) P w K mg base ["_law_line", "_law_table", "_law_found", "_law_to", "_law_shares_now"] "_law_by" (defScope s__law_by) x.a__law_by cdv A outer s H E) rfl rfl rfl rfl
  have pyl : PylA P base (A.deeper (envOfC "_law_by" (defScope s__law_by) s.heap.objs.size x.a__law_by cdv)) ((envOfC "_law_by" (defScope s__law_by) s.heap.objs.size x.a__law_by cdv) :: outer) := ⟨sr, tr, ⟨_, _, rfl, rfl, rfl, rfl, rfl⟩, pyl_dp hr (by decide)⟩
  dss_cons (ds_set 2 S.nd rfl (loc_of rfl) (dr_lst (da_nil)) rfl (.inl rfl)) (dss_cons (ds_for (passes_of rfl) rfl (di_rng1 rfl x.n_range (da_cons (de_frz (dr_callB call_len cb_len rfl x.n_len boot_len (da_cons (de_loc 0 rfl (vis_of rfl) rfl rfl) (da_nil) rfl) (by decide) rfl rfl rfl)) (da_nil) rfl) rfl) (dg_name 3 S.nd rfl (loc_of rfl) (fn_of rfl)) (dss_cons (ds_expr (de_mt 2 PySem.F.slot_list_append PySem.F.type_list_append mt_append md_append rfl (vis_of rfl) rfl rfl (da_cons (de_frz (dr_call (k := 35) (ps := ["_law_line", "_law_some"]) (F__law_sum x sr tr) (hr.mono (by decide)) rfl x.g__law_sum x.F__law_sum.kp x.b__law_sum .nil Dfl.nil tk (da_cons (de_loc 0 rfl (vis_of rfl) rfl rfl) (da_cons (de_frz (dr_lc (own := [("_law_shares_now", 4)]) (is := [4]) rfl S.nd (di_seq (de_loc 1 rfl (vis_of rfl) rfl rfl)) (blkOk_by (by kernel_rfl)) (by decide) (fun _ _ _ _ _ => dg_name 4 S.nd rfl (loc_of rfl) (fn_of rfl)) (fun _ _ _ _ _ => dts_nil) (fun _ _ _ _ _ => de_ix (de_loc 4 rfl (vis_of rfl) rfl rfl) (de_loc 3 rfl (vis_of rfl) rfl rfl) (fun _ _ => rfl)) (fun _ => rfl))) (da_nil) rfl) rfl) rfl rfl rfl)) (da_nil) rfl) rfl rfl rfl rfl rfl) rfl) (dss_killEnd)) (fun _ => rfl)) (dss_kill (dss_one (ds_ret (dr_callTyO 2 call_tuple_of cs_tuple rfl x.n_tuple boot_tuple rfl (vis_of rfl) rfl rfl (by decide) rfl rfl rfl)))))
theorem F__law_by {P : Program} {w : World} {K : PySem.W.Frag} {mg : Str → Option Value} {base : Heap} (x : Fx K mg) (sr : base.NoSeer) (tr : P.given.tree = none) : FnOk P w K mg base (CX P w) 36 x.a__law_by x.d__law_by ["_law_line", "_law_table"] (spD K 2 Ph__law_by) :=
  fn_body x.F__law_by S__law_by fun cdv A outer s H E hr => B__law_by x sr tr cdv A outer s H E hr
theorem S_law : FnScope ["_law_script", "_law_numbers_here", "_law_first", "_law_second", "_law_third", "_law_counts_now", "_law_words", "_law_by_here", "_law_ways", "_law_way", "_law_later", "_law_at", "_law_this", "_law_that"] ["_law_script"] (defScope s_law) := ⟨rfl, rfl, rfl, by decide +kernel, rfl, by decide +kernel, by decide +kernel⟩
theorem B_law {P : Program} {w : World} {K : PySem.W.Frag} {mg : Str → Option Value} {base : Heap} (x : Fx K mg) (sr : base.NoSeer) (tr : P.given.tree = none)
    (cdv : Value) (A : Around) (outer : List Env) (s : Shared) (H : Hp) (E : XK) (hr : Room 38 (A.deeper (envOfC "law" (defScope s_law) s.heap.objs.size x.a_law cdv))) :
    DSs (cxOf (CX P w) P w K mg base ["_law_script", "_law_numbers_here", "_law_first", "_law_second", "_law_third", "_law_counts_now", "_law_words", "_law_by_here", "_law_ways", "_law_way", "_law_later", "_law_at", "_law_this", "_law_that"] "law" (defScope s_law) x.a_law cdv A outer s H E) (fun cls d _ H => E cls d H) m_law (defBody s_law) :=
  have S := S_law
  have tk := takes_of (X := cxOf (CX P w) P w K mg base ["_law_script", "_law_numbers_here", "_law_first", "_law_second", "_law_third", "_law_counts_now", "_law_words", "_law_by_here", "_law_ways", "_law_way", "_law_later", "_law_at", "_law_this", "_law_that"] "law" (defScope s_law) x.a_law cdv A outer s H E) rfl rfl rfl rfl
  have pyl : PylA P base (A.deeper (envOfC "law" (defScope s_law) s.heap.objs.size x.a_law cdv)) ((envOfC "law" (defScope s_law) s.heap.objs.size x.a_law cdv) :: outer) := ⟨sr, tr, ⟨_, _, rfl, rfl, rfl, rfl, rfl⟩, pyl_dp hr (by decide)⟩
  dss_cons (ds_set 1 S.nd rfl (loc_of rfl) (dr_val (de_frz (dr_call (k := 33) (ps := ["_law_script", "_law_many"]) (F__law_numbers x sr tr) (hr.mono (by decide)) rfl x.g__law_numbers x.F__law_numbers.kp x.b__law_numbers .nil Dfl.nil tk (da_cons (de_loc 0 rfl (vis_of rfl) rfl rfl) (da_cons (de_int) (da_nil) rfl) rfl) rfl rfl rfl))) rfl (.inl rfl)) (dss_cons (ds_set 2 S.nd rfl (loc_of rfl) (dr_val (de_ife (dt_cmp (op_gt) od_gt (de_op (op_modN) od_mod (de_ix (de_loc 1 rfl (vis_of rfl) rfl rfl) (de_int) (fun _ _ => rfl)) (de_int)) (de_int) (nomark _)) (de_frz (dr_call (k := 35) (ps := ["_law_d", "_law_upto"]) (F__law_menus x sr tr) (hr.mono (by decide)) rfl x.g__law_menus x.F__law_menus.kp x.b__law_menus .nil Dfl.nil tk (da_cons (de_loc 1 rfl (vis_of rfl) rfl rfl) (da_cons (de_int) (da_nil) rfl) rfl) rfl rfl rfl)) (de_frz (dr_call (k := 36) (ps := ["_law_d"]) (F__law_few x sr tr) (hr.mono (by decide)) rfl x.g__law_few x.F__law_few.kp x.b__law_few .nil Dfl.nil tk (da_cons (de_frz (dr_slice (de_loc 1 rfl (vis_of rfl) rfl rfl) (do_some (de_int)) (do_none))) (da_nil) rfl) rfl rfl rfl)))) rfl (.inl rfl)) (dss_cons (ds_set 3 S.nd rfl (loc_of rfl) (dr_val (de_ix (de_frz (dr_lst (da_cons (de_loc 2 rfl (vis_of rfl) rfl rfl) (da_cons (de_frz (dr_call (k := 35) (ps := ["_law_d", "_law_book"]) (F__law_beside x sr tr) (hr.mono (by decide)) rfl x.g__law_beside x.F__law_beside.kp x.b__law_beside .nil Dfl.nil tk (da_cons (de_frz (dr_slice (de_loc 1 rfl (vis_of rfl) rfl rfl) (do_some (de_int)) (do_none))) (da_cons (de_loc 2 rfl (vis_of rfl) rfl rfl) (da_nil) rfl) rfl) rfl rfl rfl)) (da_nil) rfl) rfl))) (de_op (op_modN) od_mod (de_ix (de_loc 1 rfl (vis_of rfl) rfl rfl) (de_int) (fun _ _ => rfl)) (de_int)) (fun _ _ => rfl))) rfl (.inl rfl)) (dss_cons (ds_set 4 S.nd rfl (loc_of rfl) (dr_val (de_ix (de_frz (dr_lst (da_cons (de_loc 3 rfl (vis_of rfl) rfl rfl) (da_cons (de_frz (dr_call (k := 35) (ps := ["_law_d", "_law_book"]) (F__law_beside x sr tr) (hr.mono (by decide)) rfl x.g__law_beside x.F__law_beside.kp x.b__law_beside .nil Dfl.nil tk (da_cons (de_frz (dr_slice (de_loc 1 rfl (vis_of rfl) rfl rfl) (do_some (de_int)) (do_none))) (da_cons (de_loc 3 rfl (vis_of rfl) rfl rfl) (da_nil) rfl) rfl) rfl rfl rfl)) (da_nil) rfl) rfl))) (de_op (op_modN) od_mod (de_ix (de_loc 1 rfl (vis_of rfl) rfl rfl) (de_int) (fun _ _ => rfl)) (de_int)) (fun _ _ => rfl))) rfl (.inl rfl)) (dss_cons (ds_set 5 S.nd rfl (loc_of rfl) (dr_val (de_frz (dr_call (k := 34) (ps := ["_law_d", "_law_many"]) (F__law_filling x sr tr) (hr.mono (by decide)) rfl x.g__law_filling x.F__law_filling.kp x.b__law_filling .nil Dfl.nil tk (da_cons (de_frz (dr_slice (de_loc 1 rfl (vis_of rfl) rfl rfl) (do_some (de_int)) (do_none))) (da_cons (de_frz (dr_callB call_len cb_len rfl x.n_len boot_len (da_cons (de_loc 2 rfl (vis_of rfl) rfl rfl) (da_nil) rfl) (by decide) rfl rfl rfl)) (da_nil) rfl) rfl) rfl rfl rfl))) rfl (.inl rfl)) (dss_cons (ds_set 5 S.nd rfl (loc_of rfl) (dr_val (de_frz (dr_lc (own := [("_law_at", 11), ("_law_this", 12)]) (is := ([11] ++ ([12] ++ []))) rfl S.nd (di_enum rfl x.n_enumerate (da_cons (de_loc 5 rfl (vis_of rfl) rfl rfl) (da_nil) rfl) rfl) (blkOk_by (by kernel_rfl)) (by decide) (fun _ _ _ _ _ => dg_tup rfl (dgs_cons (dg_name 11 S.nd rfl (loc_of rfl) (fn_of rfl)) (dgs_cons (dg_name 12 S.nd rfl (loc_of rfl) (fn_of rfl)) (dgs_nil) rfl) rfl) rfl rfl) (fun _ _ _ _ _ => dts_nil) (fun _ _ _ _ _ => de_ife (dt_cmp (op_eqD (u64 hr)) od_eq (de_op (op_modN) od_mod (de_ix (de_loc 1 rfl (vis_of rfl) rfl rfl) (de_op (op_add) od_add (de_int) (de_loc 11 rfl (vis_of rfl) rfl rfl)) (fun _ _ => rfl)) (de_int)) (de_int) (nomark _)) (de_loc 12 rfl (vis_of rfl) rfl rfl) (de_tup (da_cons (de_int) (da_cons (de_int) (da_nil) rfl) rfl))) (fun _ => rfl)))) rfl (.inl rfl)) (dss_cons (ds_then (ds_setLc 6 rfl S.nd rfl rfl (sw_true rfl rfl rfl rfl) (own := [("_law_this", 12), ("_law_that", 13)]) (is := ([12] ++ ([13] ++ []))) (di_seq (de_frz (dr_lst (da_cons (de_tup (da_cons (de_loc 2 rfl (vis_of rfl) rfl rfl) (da_cons (de_loc 3 rfl (vis_of rfl) rfl rfl) (da_nil) rfl) rfl)) (da_cons (de_tup (da_cons (de_loc 3 rfl (vis_of rfl) rfl rfl) (da_cons (de_loc 4 rfl (vis_of rfl) rfl rfl) (da_nil) rfl) rfl)) (da_cons (de_tup (da_cons (de_loc 2 rfl (vis_of rfl) rfl rfl) (da_cons (de_loc 4 rfl (vis_of rfl) rfl rfl) (da_nil) rfl) rfl)) (da_nil) rfl) rfl) rfl)))) (blkOk_by (by kernel_rfl)) (by decide) (fun _ _ _ _ _ => dg_tup rfl (dgs_cons (dg_name 12 S.nd rfl (loc_of rfl) (fn_of rfl)) (dgs_cons (dg_name 13 S.nd rfl (loc_of rfl) (fn_of rfl)) (dgs_nil) rfl) rfl) rfl rfl) (fun _ _ _ _ _ => dts_nil) (fun _ _ _ _ _ => de_ix (de_frz (dr_call (k := 38) (ps := ["one", "other", "counts"]) (F_alike x sr tr) (hr.mono (by decide)) rfl x.g_alike x.F_alike.kp x.b_alike .nil Dfl.nil takesW0 (da_cons (de_loc 12 rfl (vis_of rfl) rfl rfl) (da_cons (de_loc 13 rfl (vis_of rfl) rfl rfl) (da_cons (de_loc 5 rfl (vis_of rfl) rfl rfl) (da_nil) rfl) rfl) rfl) rfl rfl rfl)) (de_int) (fun _ _ => rfl)) (fun _ => rfl))) (dss_cons (ds_if (dt_w (dw_and (dt_cmp (op_eqD (u64 hr)) od_eq (de_ix (de_loc 6 rfl (vis_of rfl) rfl rfl) (de_int) (fun _ _ => rfl)) (de_str) (nomark _)) (dw_and (dt_cmp (op_eqD (u64 hr)) od_eq (de_ix (de_loc 6 rfl (vis_of rfl) rfl rfl) (de_int) (fun _ _ => rfl)) (de_str) (nomark _)) (dw_and1 (dt_cmp (op_neD (u64 hr)) od_ne (de_ix (de_loc 6 rfl (vis_of rfl) rfl rfl) (de_int) (fun _ _ => rfl)) (de_str) (nomark _)))))) (dss_one (ds_ret (dr_val (de_bl)))) (dss_nil)) (dss_cons (ds_if (dt_w (dw_and (dt_cmp (op_eqD (u64 hr)) od_eq (de_ix (de_loc 6 rfl (vis_of rfl) rfl rfl) (de_int) (fun _ _ => rfl)) (de_str) (nomark _)) (dw_and (dt_cmp (op_eqD (u64 hr)) od_eq (de_ix (de_loc 6 rfl (vis_of rfl) rfl rfl) (de_int) (fun _ _ => rfl)) (de_str) (nomark _)) (dw_and1 (dt_cmp (op_neD (u64 hr)) od_ne (de_ix (de_loc 6 rfl (vis_of rfl) rfl rfl) (de_int) (fun _ _ => rfl)) (de_str) (nomark _)))))) (dss_one (ds_ret (dr_val (de_bl)))) (dss_nil)) (dss_cons (ds_if (dt_w (dw_or (dt_cmp (op_neD (u64 hr)) od_ne (de_ix (de_frz (dr_call (k := 38) (ps := ["one", "other", "counts"]) (F_alike x sr tr) (hr.mono (by decide)) rfl x.g_alike x.F_alike.kp x.b_alike .nil Dfl.nil tk (da_cons (de_loc 2 rfl (vis_of rfl) rfl rfl) (da_cons (de_loc 2 rfl (vis_of rfl) rfl rfl) (da_cons (de_loc 5 rfl (vis_of rfl) rfl rfl) (da_nil) rfl) rfl) rfl) rfl rfl rfl)) (de_int) (fun _ _ => rfl)) (de_str) (nomark _)) (dw_or1 (dt_cmp (op_neD (u64 hr)) od_ne (de_ix (de_frz (dr_call (k := 38) (ps := ["one", "other", "counts"]) (F_alike x sr tr) (hr.mono (by decide)) rfl x.g_alike x.F_alike.kp x.b_alike .nil Dfl.nil tk (da_cons (de_loc 3 rfl (vis_of rfl) rfl rfl) (da_cons (de_loc 2 rfl (vis_of rfl) rfl rfl) (da_cons (de_loc 5 rfl (vis_of rfl) rfl rfl) (da_nil) rfl) rfl) rfl) rfl rfl rfl)) (de_int) (fun _ _ => rfl)) (de_ix (de_loc 6 rfl (vis_of rfl) rfl rfl) (de_int) (fun _ _ => rfl)) (nomark _))))) (dss_one (ds_ret (dr_val (de_bl)))) (dss_nil)) (dss_cons (ds_set 7 S.nd rfl (loc_of rfl) (dr_val (de_frz (dr_call (k := 33) (ps := ["_law_up", "_law_down"]) (F__law_part x sr tr) (hr.mono (by decide)) rfl x.g__law_part x.F__law_part.kp x.b__law_part .nil Dfl.nil tk (da_cons (de_op (op_add) od_add (de_int) (de_op (op_modN) od_mod (de_ix (de_loc 1 rfl (vis_of rfl) rfl rfl) (de_int) (fun _ _ => rfl)) (de_int))) (da_cons (de_op (op_add) od_add (de_int) (de_op (op_modN) od_mod (de_ix (de_loc 1 rfl (vis_of rfl) rfl rfl) (de_int) (fun _ _ => rfl)) (de_int))) (da_nil) rfl) rfl) rfl rfl rfl))) rfl (.inl rfl)) (dss_cons (ds_if (dt_cmp (op_neD (u64 hr)) od_ne (de_ix (de_frz (dr_call (k := 38) (ps := ["one", "other", "counts"]) (F_alike x sr tr) (hr.mono (by decide)) rfl x.g_alike x.F_alike.kp x.b_alike .nil Dfl.nil tk (da_cons (de_loc 2 rfl (vis_of rfl) rfl rfl) (da_cons (de_loc 3 rfl (vis_of rfl) rfl rfl) (da_cons (de_frz (dr_lc (own := [("_law_this", 12)]) (is := [12]) rfl S.nd (di_seq (de_loc 5 rfl (vis_of rfl) rfl rfl)) (blkOk_by (by kernel_rfl)) (by decide) (fun _ _ _ _ _ => dg_name 12 S.nd rfl (loc_of rfl) (fn_of rfl)) (fun _ _ _ _ _ => dts_nil) (fun _ _ _ _ _ => de_frz (dr_call (k := 34) (ps := ["_law_this", "_law_that"]) (F__law_times x sr tr) (hr.mono (by decide)) rfl x.g__law_times x.F__law_times.kp x.b__law_times .nil Dfl.nil takesW0 (da_cons (de_loc 7 rfl (vis_of rfl) rfl rfl) (da_cons (de_loc 12 rfl (vis_of rfl) rfl rfl) (da_nil) rfl) rfl) rfl rfl rfl)) (fun _ => rfl))) (da_nil) rfl) rfl) rfl) rfl rfl rfl)) (de_int) (fun _ _ => rfl)) (de_ix (de_loc 6 rfl (vis_of rfl) rfl rfl) (de_int) (fun _ _ => rfl)) (nomark _)) (dss_one (ds_ret (dr_val (de_bl)))) (dss_nil)) (dss_cons (ds_set 8 S.nd rfl (loc_of rfl) (dr_val (de_frz (dr_call (k := 33) (ps := ["_law_book"]) (F__law_choices x sr tr) (hr.mono (by decide)) rfl x.g__law_choices x.F__law_choices.kp x.b__law_choices .nil Dfl.nil tk (da_cons (de_loc 2 rfl (vis_of rfl) rfl rfl) (da_nil) rfl) rfl rfl rfl))) rfl (.inl rfl)) (dss_cons (ds_set 9 S.nd rfl (loc_of rfl) (dr_val (de_ix (de_loc 8 rfl (vis_of rfl) rfl rfl) (de_op (op_modN) od_mod (de_ix (de_loc 1 rfl (vis_of rfl) rfl rfl) (de_int) (fun _ _ => rfl)) (de_frz (dr_callB call_len cb_len rfl x.n_len boot_len (da_cons (de_loc 8 rfl (vis_of rfl) rfl rfl) (da_nil) rfl) (by decide) rfl rfl rfl))) (fun _ _ => rfl))) rfl (.inl rfl)) (dss_cons (ds_set 10 S.nd rfl (loc_of rfl) (dr_val (de_frz (dr_callTy call_list_of cb_list rfl x.n_list boot_list (da_cons (de_frz (dr_call (k := 36) (ps := ["_law_line", "_law_table"]) (F__law_by x sr tr) (hr.mono (by decide)) rfl x.g__law_by x.F__law_by.kp x.b__law_by .nil Dfl.nil tk (da_cons (de_loc 5 rfl (vis_of rfl) rfl rfl) (da_cons (de_frz (dr_lc (own := [("_law_at", 11)]) (is := [11]) rfl S.nd (di_rng1 rfl x.n_range (da_cons (de_frz (dr_callB call_len cb_len rfl x.n_len boot_len (da_cons (de_loc 2 rfl (vis_of rfl) rfl rfl) (da_nil) rfl) (by decide) rfl rfl rfl)) (da_nil) rfl) rfl) (blkOk_by (by kernel_rfl)) (by decide) (fun _ _ _ _ _ => dg_name 11 S.nd rfl (loc_of rfl) (fn_of rfl)) (fun _ _ _ _ _ => dts_nil) (fun _ _ _ _ _ => de_ix (de_ix (de_ix (de_loc 2 rfl (vis_of rfl) rfl rfl) (de_loc 11 rfl (vis_of rfl) rfl rfl) (fun _ _ => rfl)) (de_int) (fun _ _ => rfl)) (de_ix (de_loc 9 rfl (vis_of rfl) rfl rfl) (de_loc 11 rfl (vis_of rfl) rfl rfl) (fun _ _ => rfl)) (fun _ _ => rfl)) (fun _ => rfl))) (da_nil) rfl) rfl) rfl rfl rfl)) (da_nil) rfl) (by decide) rfl rfl rfl))) rfl (.inl rfl)) (dss_cons (ds_if (dt_w (dw_and (dt_cmp (op_eqD (u64 hr)) od_eq (de_ix (de_loc 6 rfl (vis_of rfl) rfl rfl) (de_int) (fun _ _ => rfl)) (de_str) (nomark _)) (dw_and1 (dt_cmp (op_neD (u64 hr)) od_ne (de_ix (de_frz (dr_call (k := 38) (ps := ["one", "other", "counts"]) (F_alike x sr tr) (hr.mono (by decide)) rfl x.g_alike x.F_alike.kp x.b_alike .nil Dfl.nil tk (da_cons (de_loc 2 rfl (vis_of rfl) rfl rfl) (da_cons (de_loc 3 rfl (vis_of rfl) rfl rfl) (da_cons (de_loc 10 rfl (vis_of rfl) rfl rfl) (da_nil) rfl) rfl) rfl) rfl rfl rfl)) (de_int) (fun _ _ => rfl)) (de_str) (nomark _))))) (dss_one (ds_ret (dr_val (de_bl)))) (dss_nil)) (dss_one (ds_ret (dr_val (de_cmp (op_eqD (u64 hr)) od_eq (de_ix (de_frz (dr_call (k := 38) (ps := ["one", "other", "counts"]) (F_alike x sr tr) (hr.mono (by decide)) rfl x.g_alike x.F_alike.kp x.b_alike .nil Dfl.nil tk (da_cons (de_loc 2 rfl (vis_of rfl) rfl rfl) (da_cons (de_loc 3 rfl (vis_of rfl) rfl rfl) (da_cons (de_op (op_rep) od_mulL (de_frz (dr_lst (da_cons (de_tup (da_cons (de_int) (da_cons (de_int) (da_nil) rfl) rfl)) (da_nil) rfl))) (de_frz (dr_callB call_len cb_len rfl x.n_len boot_len (da_cons (de_loc 2 rfl (vis_of rfl) rfl rfl) (da_nil) rfl) (by decide) rfl rfl rfl))) (da_nil) rfl) rfl) rfl) rfl rfl rfl)) (de_int) (fun _ _ => rfl)) (de_str) (nomark _))))))))))))))))))))
theorem F_law {P : Program} {w : World} {K : PySem.W.Frag} {mg : Str → Option Value} {base : Heap} (x : Fx K mg) (sr : base.NoSeer) (tr : P.given.tree = none) : FnOk P w K mg base (CX P w) 39 x.a_law x.d_law ["_law_script"] (spD K 1 Ph_law) :=
  fn_body x.F_law S_law fun cdv A outer s H E hr => B_law x sr tr cdv A outer s H E hr
def fn : List He.DefD := [⟨("_law_numbers", none), "_law_numbers", "_law_numbers", defArgs s__law_numbers, defBody s__law_numbers, defScope s__law_numbers, [], []⟩,
  ⟨("_law_part", none), "_law_part", "_law_part", defArgs s__law_part, defBody s__law_part, defScope s__law_part, [], []⟩,
  ⟨("_law_share", none), "_law_share", "_law_share", defArgs s__law_share, defBody s__law_share, defScope s__law_share, [], []⟩,
  ⟨("_law_times", none), "_law_times", "_law_times", defArgs s__law_times, defBody s__law_times, defScope s__law_times, [], []⟩,
  ⟨("_law_menus", none), "_law_menus", "_law_menus", defArgs s__law_menus, defBody s__law_menus, defScope s__law_menus, [], []⟩,
  ⟨("_law_few", none), "_law_few", "_law_few", defArgs s__law_few, defBody s__law_few, defScope s__law_few, [], []⟩,
  ⟨("_law_beside", none), "_law_beside", "_law_beside", defArgs s__law_beside, defBody s__law_beside, defScope s__law_beside, [], []⟩,
  ⟨("_law_filling", none), "_law_filling", "_law_filling", defArgs s__law_filling, defBody s__law_filling, defScope s__law_filling, [], []⟩,
  ⟨("need_hand", none), "need_hand", "need_hand", defArgs s_need_hand, defBody s_need_hand, defScope s_need_hand, [], []⟩,
  ⟨("is_share", none), "is_share", "is_share", defArgs s_is_share, defBody s_is_share, defScope s_is_share, [], []⟩,
  ⟨("look", none), "look", "look", defArgs s_look, defBody s_look, defScope s_look, [], []⟩,
  ⟨("need_filling", none), "need_filling", "need_filling", defArgs s_need_filling, defBody s_need_filling, defScope s_need_filling, [], []⟩,
  ⟨("need_both", none), "need_both", "need_both", defArgs s_need_both, defBody s_need_both, defScope s_need_both, [], []⟩,
  ⟨("Span", some "__init__"), "__init__", "Span.__init__", defArgs s_Span___init__, defBody s_Span___init__, defScope s_Span___init__, [], []⟩,
  ⟨("common", none), "common", "common", defArgs s_common, defBody s_common, defScope s_common, [], []⟩,
  ⟨("part", none), "part", "part", defArgs s_part, defBody s_part, defScope s_part, [.int 1], []⟩,
  ⟨("less", none), "less", "less", defArgs s_less, defBody s_less, defScope s_less, [], []⟩,
  ⟨("times", none), "times", "times", defArgs s_times, defBody s_times, defScope s_times, [], []⟩,
  ⟨("Span", some "rest"), "rest", "Span.rest", defArgs s_Span_rest, defBody s_Span_rest, defScope s_Span_rest, [], []⟩,
  ⟨("over", none), "over", "over", defArgs s_over, defBody s_over, defScope s_over, [], []⟩,
  ⟨("Span", some "put"), "put", "Span.put", defArgs s_Span_put, defBody s_Span_put, defScope s_Span_put, [], []⟩,
  ⟨("all_plans", none), "all_plans", "all_plans", defArgs s_all_plans, defBody s_all_plans, defScope s_all_plans, [], []⟩,
  ⟨("plus", none), "plus", "plus", defArgs s_plus, defBody s_plus, defScope s_plus, [], []⟩,
  ⟨("row_by", none), "row_by", "row_by", defArgs s_row_by, defBody s_row_by, defScope s_row_by, [], []⟩,
  ⟨("taken", none), "taken", "taken", defArgs s_taken, defBody s_taken, defScope s_taken, [], []⟩,
  ⟨("alike", none), "alike", "alike", defArgs s_alike, defBody s_alike, defScope s_alike, [], []⟩,
  ⟨("_law_choices", none), "_law_choices", "_law_choices", defArgs s__law_choices, defBody s__law_choices, defScope s__law_choices, [], []⟩,
  ⟨("_law_plus", none), "_law_plus", "_law_plus", defArgs s__law_plus, defBody s__law_plus, defScope s__law_plus, [], []⟩,
  ⟨("_law_sum", none), "_law_sum", "_law_sum", defArgs s__law_sum, defBody s__law_sum, defScope s__law_sum, [], []⟩,
  ⟨("_law_by", none), "_law_by", "_law_by", defArgs s__law_by, defBody s__law_by, defScope s__law_by, [], []⟩,
  ⟨("law", none), "law", "law", defArgs s_law, defBody s_law, defScope s_law, [], []⟩]
def fa : List He.Fa := [.glo "_law_numbers", .glo "_law_part", .glo "_law_share", .glo "_law_times", .glo "_law_menus", .glo "_law_few", .glo "_law_beside", .glo "_law_filling", .glo "need_hand", .glo "is_share", .glo "look", .glo "need_filling", .glo "need_both", .meth "Span" "__init__", .glo "common", .glo "part", .glo "less", .glo "times", .meth "Span" "rest", .glo "over", .meth "Span" "put", .glo "all_plans", .glo "plus", .glo "row_by", .glo "taken", .glo "alike", .glo "_law_choices", .glo "_law_plus", .glo "_law_sum", .glo "_law_by", .glo "law", .cls "Span", .glo "Span", .mkr "Span", .noat "Span" "leads", .free "abs", .free "all", .free "any", .free "enumerate", .free "int", .free "len", .free "list", .free "range", .free "tuple", .free "zip"]
def gl : List (Str × D) := [("HANDS", (.tup [(.str "we"), (.str "weather")])), ("MOST_LOWER", (.int 20)), ("MOST_ROWS", (.int 3)), ("MOST_STORES", (.int 5)), ("MOST_UPPER", (.int 999)), ("NOUGHT", (.tup [(.int 0), (.int 1)]))]
abbrev R : PySem.W.OpenRow := PySem.W.OpenLaw.row PySem.Challenge.rw_lullworks_k60_whole_likeness_goes_on
abbrev hk : PySem.W.Hook := hookL 6 fa fn gl
def ob (s : PySem.W.SharedT) : AlL := obsL 6 fa fn gl (HandSHeadRun.getT s)
theorem ob_eq (s : PySem.W.SharedT) : ob s = hk.obs s.abs := obsL_eq (HandSHeadRun.getT_eq s)
def nm0 : List Str := ["LullError", "BadPart", "BadHand", "BadRows", "BadShares", "BadFilling", "Unlike", "NoOver", "NOUGHT", "common", "part", "plus", "less", "times", "over", "HANDS", "MOST_STORES", "MOST_ROWS", "MOST_UPPER", "MOST_LOWER", "is_share", "need_hand", "look", "all_plans", "taken", "need_filling", "row_by", "Span", "need_both", "alike"]
def nm1 : List Str := ["_law_numbers", "_law_part", "_law_share", "_law_times", "_law_menus", "_law_few", "_law_beside", "_law_filling", "_law_choices", "_law_plus", "_law_sum", "_law_by"]
def nms : List Str := nm0 ++ nm1
theorem run (w : World) : HandSHeadRun.RunEq R (PySem.W.view R.prog [47]) hk ob 4000 nms w := by
  intro os
  kernel_rfl
theorem fx {K : PySem.W.Frag} {h : Heap} {mg : Str → Option Value} (X : K.In h) (G : h.Ns mainGlobals mg) (c : SaysL fa fn gl K) : Nonempty (Fx K mg) := by
  obtain ⟨d0, F0⟩ := c.1.def_ 0 rfl
  have b0 : Binds K d0 ["_law_script", "_law_many"] [] := FunD.bindsN F0 fun _ _ _ _ _ _ us hl => match us, hl with | [_, _], _ => rfl
  obtain ⟨d1, F1⟩ := c.1.def_ 1 rfl
  have b1 : Binds K d1 ["_law_up", "_law_down"] [] := FunD.bindsN F1 fun _ _ _ _ _ _ us hl => match us, hl with | [_, _], _ => rfl
  obtain ⟨d2, F2⟩ := c.1.def_ 2 rfl
  have b2 : Binds K d2 ["_law_number"] [] := FunD.bindsN F2 fun _ _ _ _ _ _ us hl => match us, hl with | [_], _ => rfl
  obtain ⟨d3, F3⟩ := c.1.def_ 3 rfl
  have b3 : Binds K d3 ["_law_this", "_law_that"] [] := FunD.bindsN F3 fun _ _ _ _ _ _ us hl => match us, hl with | [_, _], _ => rfl
  obtain ⟨d4, F4⟩ := c.1.def_ 4 rfl
  have b4 : Binds K d4 ["_law_d", "_law_upto"] [] := FunD.bindsN F4 fun _ _ _ _ _ _ us hl => match us, hl with | [_, _], _ => rfl
  obtain ⟨d5, F5⟩ := c.1.def_ 5 rfl
  have b5 : Binds K d5 ["_law_d"] [] := FunD.bindsN F5 fun _ _ _ _ _ _ us hl => match us, hl with | [_], _ => rfl
  obtain ⟨d6, F6⟩ := c.1.def_ 6 rfl
  have b6 : Binds K d6 ["_law_d", "_law_book"] [] := FunD.bindsN F6 fun _ _ _ _ _ _ us hl => match us, hl with | [_, _], _ => rfl
  obtain ⟨d7, F7⟩ := c.1.def_ 7 rfl
  have b7 : Binds K d7 ["_law_d", "_law_many"] [] := FunD.bindsN F7 fun _ _ _ _ _ _ us hl => match us, hl with | [_, _], _ => rfl
  obtain ⟨d8, F8⟩ := c.1.def_ 8 rfl
  have b8 : Binds K d8 ["hand"] [] := FunD.bindsN F8 fun _ _ _ _ _ _ us hl => match us, hl with | [_], _ => rfl
  obtain ⟨d9, F9⟩ := c.1.def_ 9 rfl
  have b9 : Binds K d9 ["one"] [] := FunD.bindsN F9 fun _ _ _ _ _ _ us hl => match us, hl with | [_], _ => rfl
  obtain ⟨d10, F10⟩ := c.1.def_ 10 rfl
  have b10 : Binds K d10 ["menus"] [] := FunD.bindsN F10 fun _ _ _ _ _ _ us hl => match us, hl with | [_], _ => rfl
  obtain ⟨d11, F11⟩ := c.1.def_ 11 rfl
  have b11 : Binds K d11 ["many", "filling"] [] := FunD.bindsN F11 fun _ _ _ _ _ _ us hl => match us, hl with | [_, _], _ => rfl
  obtain ⟨d12, F12⟩ := c.1.def_ 12 rfl
  have b12 : Binds K d12 ["one", "other", "counts"] [] := FunD.bindsN F12 fun _ _ _ _ _ _ us hl => match us, hl with | [_, _, _], _ => rfl
  obtain ⟨d13, F13⟩ := c.1.def_ 13 rfl
  have b13 : Binds K d13 ["self"] [] := FunD.bindsN F13 fun _ _ _ _ _ _ us hl => match us, hl with | [_], _ => rfl
  obtain ⟨d14, F14⟩ := c.1.def_ 14 rfl
  have b14 : Binds K d14 ["one", "other"] [] := FunD.bindsN F14 fun _ _ _ _ _ _ us hl => match us, hl with | [_, _], _ => rfl
  obtain ⟨d15, F15⟩ := c.1.def_ 15 rfl
  have b15 : Binds K d15 ["upper", "lower"] [] := by
    obtain ⟨ds, z, b⟩ := FunD.binds1 (ps := ["upper", "lower"]) F15 2 1 (fun z => nomatch z) rfl fun T kV doc pm an cdv ct us its hl hi => match us, its, hl, hi with | [_, _], [_], _, _ => ⟨_, rfl, rfl⟩
    cases z
    exact b
  obtain ⟨d16, F16⟩ := c.1.def_ 16 rfl
  have b16 : Binds K d16 ["one", "other"] [] := FunD.bindsN F16 fun _ _ _ _ _ _ us hl => match us, hl with | [_, _], _ => rfl
  obtain ⟨d17, F17⟩ := c.1.def_ 17 rfl
  have b17 : Binds K d17 ["one", "other"] [] := FunD.bindsN F17 fun _ _ _ _ _ _ us hl => match us, hl with | [_, _], _ => rfl
  obtain ⟨d18, F18⟩ := c.1.def_ 18 rfl
  have b18 : Binds K d18 ["self", "row"] [] := FunD.bindsN F18 fun _ _ _ _ _ _ us hl => match us, hl with | [_, _], _ => rfl
  obtain ⟨d19, F19⟩ := c.1.def_ 19 rfl
  have b19 : Binds K d19 ["one", "other"] [] := FunD.bindsN F19 fun _ _ _ _ _ _ us hl => match us, hl with | [_, _], _ => rfl
  obtain ⟨d20, F20⟩ := c.1.def_ 20 rfl
  have b20 : Binds K d20 ["self", "row"] [] := FunD.bindsN F20 fun _ _ _ _ _ _ us hl => match us, hl with | [_, _], _ => rfl
  obtain ⟨d21, F21⟩ := c.1.def_ 21 rfl
  have b21 : Binds K d21 ["menus", "stores"] [] := FunD.bindsN F21 fun _ _ _ _ _ _ us hl => match us, hl with | [_, _], _ => rfl
  obtain ⟨d22, F22⟩ := c.1.def_ 22 rfl
  have b22 : Binds K d22 ["one", "other"] [] := FunD.bindsN F22 fun _ _ _ _ _ _ us hl => match us, hl with | [_, _], _ => rfl
  obtain ⟨d23, F23⟩ := c.1.def_ 23 rfl
  have b23 : Binds K d23 ["row", "table"] [] := FunD.bindsN F23 fun _ _ _ _ _ _ us hl => match us, hl with | [_, _], _ => rfl
  obtain ⟨d24, F24⟩ := c.1.def_ 24 rfl
  have b24 : Binds K d24 ["menus", "choice"] [] := FunD.bindsN F24 fun _ _ _ _ _ _ us hl => match us, hl with | [_, _], _ => rfl
  obtain ⟨d25, F25⟩ := c.1.def_ 25 rfl
  have b25 : Binds K d25 ["one", "other", "counts"] [] := FunD.bindsN F25 fun _ _ _ _ _ _ us hl => match us, hl with | [_, _, _], _ => rfl
  obtain ⟨d26, F26⟩ := c.1.def_ 26 rfl
  have b26 : Binds K d26 ["_law_book"] [] := FunD.bindsN F26 fun _ _ _ _ _ _ us hl => match us, hl with | [_], _ => rfl
  obtain ⟨d27, F27⟩ := c.1.def_ 27 rfl
  have b27 : Binds K d27 ["_law_this", "_law_that"] [] := FunD.bindsN F27 fun _ _ _ _ _ _ us hl => match us, hl with | [_, _], _ => rfl
  obtain ⟨d28, F28⟩ := c.1.def_ 28 rfl
  have b28 : Binds K d28 ["_law_line", "_law_some"] [] := FunD.bindsN F28 fun _ _ _ _ _ _ us hl => match us, hl with | [_, _], _ => rfl
  obtain ⟨d29, F29⟩ := c.1.def_ 29 rfl
  have b29 : Binds K d29 ["_law_line", "_law_table"] [] := FunD.bindsN F29 fun _ _ _ _ _ _ us hl => match us, hl with | [_, _], _ => rfl
  obtain ⟨d30, F30⟩ := c.1.def_ 30 rfl
  have b30 : Binds K d30 ["_law_script"] [] := FunD.bindsN F30 fun _ _ _ _ _ _ us hl => match us, hl with | [_], _ => rfl
  exact ⟨{ a__law_numbers := _, d__law_numbers := d0, F__law_numbers := F0, b__law_numbers := b0, g__law_numbers := c.glo X G 0 rfl, a__law_part := _, d__law_part := d1, F__law_part := F1, b__law_part := b1, g__law_part := c.glo X G 1 rfl, a__law_share := _, d__law_share := d2, F__law_share := F2, b__law_share := b2, g__law_share := c.glo X G 2 rfl, a__law_times := _, d__law_times := d3, F__law_times := F3, b__law_times := b3, g__law_times := c.glo X G 3 rfl, a__law_menus := _, d__law_menus := d4, F__law_menus := F4, b__law_menus := b4, g__law_menus := c.glo X G 4 rfl, a__law_few := _, d__law_few := d5, F__law_few := F5, b__law_few := b5, g__law_few := c.glo X G 5 rfl, a__law_beside := _, d__law_beside := d6, F__law_beside := F6, b__law_beside := b6, g__law_beside := c.glo X G 6 rfl, a__law_filling := _, d__law_filling := d7, F__law_filling := F7, b__law_filling := b7, g__law_filling := c.glo X G 7 rfl, a_need_hand := _, d_need_hand := d8, F_need_hand := F8, b_need_hand := b8, g_need_hand := c.glo X G 8 rfl, a_is_share := _, d_is_share := d9, F_is_share := F9, b_is_share := b9, g_is_share := c.glo X G 9 rfl, a_look := _, d_look := d10, F_look := F10, b_look := b10, g_look := c.glo X G 10 rfl, a_need_filling := _, d_need_filling := d11, F_need_filling := F11, b_need_filling := b11, g_need_filling := c.glo X G 11 rfl, a_need_both := _, d_need_both := d12, F_need_both := F12, b_need_both := b12, g_need_both := c.glo X G 12 rfl, a_Span___init__ := _, d_Span___init__ := d13, F_Span___init__ := F13, b_Span___init__ := b13, m_Span___init__ := He.meth_ok (c.1.fact 13 rfl), a_common := _, d_common := d14, F_common := F14, b_common := b14, g_common := c.glo X G 14 rfl, a_part := _, d_part := d15, F_part := F15, b_part := b15, g_part := c.glo X G 15 rfl, a_less := _, d_less := d16, F_less := F16, b_less := b16, g_less := c.glo X G 16 rfl, a_times := _, d_times := d17, F_times := F17, b_times := b17, g_times := c.glo X G 17 rfl, a_Span_rest := _, d_Span_rest := d18, F_Span_rest := F18, b_Span_rest := b18, m_Span_rest := He.meth_ok (c.1.fact 18 rfl), a_over := _, d_over := d19, F_over := F19, b_over := b19, g_over := c.glo X G 19 rfl, a_Span_put := _, d_Span_put := d20, F_Span_put := F20, b_Span_put := b20, m_Span_put := He.meth_ok (c.1.fact 20 rfl), a_all_plans := _, d_all_plans := d21, F_all_plans := F21, b_all_plans := b21, g_all_plans := c.glo X G 21 rfl, a_plus := _, d_plus := d22, F_plus := F22, b_plus := b22, g_plus := c.glo X G 22 rfl, a_row_by := _, d_row_by := d23, F_row_by := F23, b_row_by := b23, g_row_by := c.glo X G 23 rfl, a_taken := _, d_taken := d24, F_taken := F24, b_taken := b24, g_taken := c.glo X G 24 rfl, a_alike := _, d_alike := d25, F_alike := F25, b_alike := b25, g_alike := c.glo X G 25 rfl, a__law_choices := _, d__law_choices := d26, F__law_choices := F26, b__law_choices := b26, g__law_choices := c.glo X G 26 rfl, a__law_plus := _, d__law_plus := d27, F__law_plus := F27, b__law_plus := b27, g__law_plus := c.glo X G 27 rfl, a__law_sum := _, d__law_sum := d28, F__law_sum := F28, b__law_sum := b28, g__law_sum := c.glo X G 28 rfl, a__law_by := _, d__law_by := d29, F__law_by := F29, b__law_by := b29, g__law_by := c.glo X G 29 rfl, a_law := _, d_law := d30, F_law := F30, b_law := b30, g_law := c.glo X G 30 rfl, c_Span := He.cls_ok (c.1.fact 31 rfl), g_Span := c.glo X G 32 rfl, mk_Span := He.mkr_ok (c.1.fact 33 rfl), f_Span_leads := ⟨He.cls_ok (c.1.fact 31 rfl), He.noat_ok (c.1.fact 34 rfl)⟩, n_abs := c.free X G 35 rfl, n_all := c.free X G 36 rfl, n_any := c.free X G 37 rfl, n_enumerate := c.free X G 38 rfl, n_int := c.free X G 39 rfl, n_len := c.free X G 40 rfl, n_list := c.free X G 41 rfl, n_range := c.free X G 42 rfl, n_tuple := c.free X G 43 rfl, n_zip := c.free X G 44 rfl, v_HANDS := c.gl X G 0 rfl, v_MOST_LOWER := c.gl X G 1 rfl, v_MOST_ROWS := c.gl X G 2 rfl, v_MOST_STORES := c.gl X G 3 rfl, v_MOST_UPPER := c.gl X G 4 rfl, v_NOUGHT := c.gl X G 5 rfl }⟩
end N60
open PySem PySem.W PySem.Calls PyProof.Rows
theorem PySem.Challenge.cw_lullworks_k60_whole_likeness_goes_on_holds : PySem.Challenge.rw_lullworks_k60_whole_likeness_goes_on.Holds := by
  w_on; o_law
  refine HandSHeadRun.head_any (r := OpenLaw.row PySem.Challenge.rw_lullworks_k60_whole_likeness_goes_on) (q := view (OpenLaw.row PySem.Challenge.rw_lullworks_k60_whole_likeness_goes_on).prog [47]) (H := N60.hk) (ob := N60.ob) (M := 4000) (loose := N60.nms) (d := HandSHeadRun.topDef (OpenLaw.row PySem.Challenge.rw_lullworks_k60_whole_likeness_goes_on).prog 47) (kwd := []) N60.ob_eq
    (by kernel_rfl) (fun s => by kernel_rfl) N60.run (by kernel_rfl) (by kernel_rfl) (by kernel_rfl) (by rfl) (by first | assumption | decide +kernel) (by decide +kernel) ⟨rfl, rfl, rfl, rfl, rfl, by decide +kernel⟩ ?hw ?hc
  case hw => w_witness2
  case hc =>
    refine LW.walk_of2 (l := PySem.Challenge.rw_lullworks_k60_whole_likeness_goes_on) (n := 63) (k := 39) (x := "_law_script") (CT := fun w => L2.CX (PySem.Challenge.rw_lullworks_k60_whole_likeness_goes_on).prog w) rfl (by decide) (by kernel_rfl) ⟨rfl, by decide, by decide⟩ (by kernel_rfl) ?F ?E
    case E => exact fun w H s e s' z => z.elim fun _ z => z.elim fun _ z => z.elim fun _ z => z.elim fun _ z => z.elim fun _ z => z.2.2.2.2.2.2.2
    case F =>
      intro w mg f h Y G hmg0
      obtain ⟨K, KX, c⟩ := Y
      obtain ⟨x⟩ := N60.fx KX G c
      have hmg : mg ("law" : PySem.Str) = some (.ref f) := by
        have e : (HandSHeadRun.topDef (OpenLaw.row PySem.Challenge.rw_lullworks_k60_whole_likeness_goes_on).prog 47).name = ("law" : PySem.Str) := by kernel_rfl
        rw [← e]
        exact hmg0
      have e := Value.ref.inj (Option.some.inj (hmg.symm.trans x.g_law))
      subst e
      exact ⟨K, x.d_law, LW.spD K 1 N60.Ph_law, KX, (fun s v => L2.FunD.bindsA (ps := ["_law_script"]) x.F_law (fun _ _ _ _ _ _ us hl => match us, hl with | [_], _ => rfl) s [v] rfl),
        fun H a ns hl hO hS => LW.spD_lawE hS (N60.law_ok (Nat.le_trans hl (by decide))), fun base seer kin main => N60.F_law x seer rfl⟩
