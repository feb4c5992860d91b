import PyProof.Rows.All
import Wide.All
import OpenK.AllK
import Wide.FinOn
import HandS.ForMost
import HandS.ForExc
import HandS.Defaults
import HandS.Wide
import HandS.IsInst
import HandS.TupAny
import HandS.TupMul
import HandS.SortInts
import HandS.Conv
import HandS.Flow
import HandS.Style
import KE.KTupSum
import KE.GoesEnum
import KE.GoesMore
import KE.KStateDown
import Lean
import HandS.Head0
import HandS.Head1
import HandS.Head2
import HandS.HeadEnd
import HandS.HeadHook1
import HandS.HeadHook2
import HandS.HeadHook3
import HandS.HeadHook4
import PySem.Challenge.RW_dividedseats_k35_whole_any_evidence_abou
import HandS.ForDict
import HandS.DictComp
import HandS.Iter
import HandS.More
import PyProof.DictUpdate
import PyProof.ListMulRoad
import PyProof.FactsAll.tuple_2
import PyProof.FactsAll.dict_4
import KE.KDictLaws
import HandS.TryOnly
set_option Elab.async false
set_option linter.all false
set_option maxRecDepth 100000
set_option maxHeartbeats 1000000
/-! the data layer: semantic types of slots, over HandS -/
namespace K35
open PySem PySem.Spec L2

/-! ### heaps -/
def Plain : HO → Prop
  | .frz _ _ => False
  | _ => True
/-- what an own object may be -/
def Mb : HO → Prop
  | .frz _ _ => False
  | .tup _ => False
  | _ => True
theorem Mb.plain : ∀ {o : HO}, Mb o → Plain o := fun {o} h => by cases o <;> first | exact True.intro | exact h
/-- what could be read can still be read -/
structure Up (F F' : Hp) : Prop where
  rd : ∀ b u, Plain u → Rd F b u → Rd F' b u
  tp : ∀ b xs, F b = some (.tup xs) → F' b = some (.tup xs)
instance {F F' : Hp} : CoeFun (Up F F') (fun _ => ∀ b u, Plain u → Rd F b u → Rd F' b u) := ⟨Up.rd⟩
theorem Up.refl (F : Hp) : Up F F := ⟨fun _ _ _ h => h, fun _ _ h => h⟩
theorem Up.trans {A B C : Hp} (a : Up A B) (b : Up B C) : Up A C := ⟨fun c u p h => b c u p (a c u p h), fun c xs h => b.tp c xs (a.tp c xs h)⟩
theorem Same.up {F H : Hp} (s : Same F H) : Up F H := ⟨fun b u _ h => by
  rcases h with h | ⟨o, h⟩
  · exact .inl (s b _ h)
  · exact .inr ⟨o, s b _ h⟩, fun b xs h => s b _ h⟩
theorem up_upd {F : Hp} {p : Addr} {o : HO} (h : F p = none) : Up F (upd F p o) := Same.up fun b z e => by
  rw [upd_ne (ne_of_none e h)]
  exact e
theorem same_new {H : Hp} {p : Addr} {o : HO} (h : H p = none) : Same H (upd H p o) := fun b z e => by
  rw [upd_ne (ne_of_none e h)]
  exact e

/-- a semantic type: what is true of a value over the heap of data -/
structure Ty where
  p : V → Hp → Prop
  up : ∀ v F F', Up F F' → p v F → p v F'
/-- of a whole object -/
structure OTy where
  p : HO → Hp → Prop
  up : ∀ o F F', Up F F' → p o F → p o F'

section
variable {K : PySem.W.Frag} {F F' : Hp}
theorem sqT_up {a : Addr} {xs : List V} (u : Up F F') (h : SqT K F a xs) : SqT K F' a xs := by
  rcases h with h | h
  · exact .inl (u _ _ True.intro h)
  · exact .inr h
theorem sqL_up {a : Addr} {xs : List V} (u : Up F F') (h : SqL K F a xs) : SqL K F' a xs := by
  rcases h with h | h
  · exact .inl (u _ _ True.intro h)
  · exact .inr h
theorem sqT_any {a : Addr} {xs : List V} (h : SqT [] F a xs) : SqT K F a xs := by
  rcases h with h | ⟨o, its, n, hk, _⟩
  · exact .inl h
  · cases hk
theorem sqL_any {a : Addr} {xs : List V} (h : SqL [] F a xs) : SqL K F a xs := by
  rcases h with h | ⟨o, its, n, hk, _⟩
  · exact .inl h
  · cases hk
mutual
theorem dp_up (u : Up F F') : ∀ {d : PyData} {v : V}, Dp K F v d → Dp K F' v d
  | .none, _, h => by cases h; exact .non
  | .bool b, _, h => by cases h; exact .bl b
  | .int i, _, h => by cases h; exact .int i
  | .str x, _, h => by cases h; exact .str x
  | .list ds, _, h => by
    cases h with
    | lst hs ha => exact .lst (sqL_up u hs) (dpAll_up u ha)
  | .tuple ds, _, h => by
    cases h with
    | tup hs ha => exact .tup (sqT_up u hs) (dpAll_up u ha)
  | .dict _, _, h => by cases h
theorem dpAll_up (u : Up F F') : ∀ {ds : List PyData} {vs : List V}, DpAll K F vs ds → DpAll K F' vs ds
  | [], _, h => by cases h; exact .nil
  | d :: ds, _, h => by
    cases h with
    | cons h1 h2 => exact .cons (dp_up u h1) (dpAll_up u h2)
end
mutual
theorem dp_any : ∀ {d : PyData} {v : V}, Dp [] F v d → Dp K F v d
  | .none, _, h => by cases h; exact .non
  | .bool b, _, h => by cases h; exact .bl b
  | .int i, _, h => by cases h; exact .int i
  | .str x, _, h => by cases h; exact .str x
  | .list ds, _, h => by
    cases h with
    | lst hs ha => exact .lst (sqL_any hs) (dpAll_any ha)
  | .tuple ds, _, h => by
    cases h with
    | tup hs ha => exact .tup (sqT_any hs) (dpAll_any ha)
  | .dict _, _, h => by cases h
theorem dpAll_any : ∀ {ds : List PyData} {vs : List V}, DpAll [] F vs ds → DpAll K F vs ds
  | [], _, h => by cases h; exact .nil
  | d :: ds, _, h => by
    cases h with
    | cons h1 h2 => exact .cons (dp_any h1) (dpAll_any h2)
end
end

/-- the very datum -/
def Is (d : PyData) : Ty := ⟨fun v F => Dp [] F v d, fun _ _ _ u h => dp_up u h⟩
/-- some datum of which P -/
def Ex (P : PyData → Prop) : Ty := ⟨fun v F => ∃ d, P d ∧ Dp [] F v d, fun _ _ _ u ⟨d, a, h⟩ => ⟨d, a, dp_up u h⟩⟩
/-- the address itself -/
def At (a : Addr) : Ty := ⟨fun v _ => v = .ref a, fun _ _ _ _ h => h⟩
/-- one of several types -/
def Some' {α : Type} (f : α → Ty) : Ty := ⟨fun v F => ∃ a, (f a).p v F, fun v F F' u ⟨a, h⟩ => ⟨a, (f a).up v F F' u h⟩⟩
/-- with a fact -/
def With (P : Prop) (τ : Ty) : Ty := ⟨fun v F => P ∧ τ.p v F, fun v F F' u ⟨a, h⟩ => ⟨a, τ.up v F F' u h⟩⟩
def All2 (τs : List Ty) (vs : List V) (F : Hp) : Prop := Paired (fun τ v => Ty.p τ v F) τs vs
theorem All2.up {τs : List Ty} {vs : List V} {F F' : Hp} (u : Up F F') (h : All2 τs vs F) : All2 τs vs F' := Paired.mapP h fun τ v q => τ.up v F F' u q
theorem All2.length {τs : List Ty} {vs : List V} {F : Hp} (h : All2 τs vs F) : τs.length = vs.length := Paired.length h
theorem All2.append {τs τs' : List Ty} {vs vs' : List V} {F : Hp} (h : All2 τs vs F) (h' : All2 τs' vs' F) : All2 (τs ++ τs') (vs ++ vs') F := by
  unfold All2 at *
  induction h with
  | nil => exact h'
  | cons a t ih => exact .cons a ih
theorem All2.get {τs : List Ty} {vs : List V} {F : Hp} (h : All2 τs vs F) : ∀ {i : Nat} {τ : Ty}, τs[i]? = some τ → ∃ v, vs[i]? = some v ∧ τ.p v F := by
  unfold All2 at h
  induction h with
  | nil => intro i τ e; simp at e
  | cons a t ih =>
    intro i τ e
    cases i with
    | zero => simp at e; subst e; exact ⟨_, rfl, a⟩
    | succ i => simpa using ih (by simpa using e)
theorem All2.set {τs : List Ty} {vs : List V} {F : Hp} {τ : Ty} {v : V} (h : All2 τs vs F) (hv : τ.p v F) : ∀ i : Nat, All2 (τs.set i τ) (vs.set i v) F := by
  unfold All2 at *
  induction h with
  | nil => intro i; exact .nil
  | cons a t ih =>
    intro i
    cases i with
    | zero => exact .cons hv t
    | succ i => exact .cons a (ih i)
theorem all2_is {ds : List PyData} : ∀ {vs : List V} {F : Hp}, All2 (ds.map Is) vs F ↔ DpAll [] F vs ds := by
  induction ds with
  | nil =>
    intro vs F
    constructor
    · intro h; cases h; exact .nil
    · intro h; cases h; exact .nil
  | cons d ds ih =>
    intro vs F
    constructor
    · intro h
      cases h with
      | cons a t => exact .cons a (ih.mp t)
    · intro h
      cases h with
      | cons a t => exact .cons a (ih.mpr t)
/-- a tuple, a list of such values -/
def TupOf (τs : List Ty) : Ty := ⟨fun v F => ∃ a vs, v = .ref a ∧ Rd F a (.tup vs) ∧ All2 τs vs F, fun _ _ _ u ⟨a, vs, e, h, q⟩ => ⟨a, vs, e, u _ _ True.intro h, q.up u⟩⟩
def LstOf (τs : List Ty) : Ty := ⟨fun v F => ∃ a vs, v = .ref a ∧ Rd F a (.lst vs) ∧ All2 τs vs F, fun _ _ _ u ⟨a, vs, e, h, q⟩ => ⟨a, vs, e, u _ _ True.intro h, q.up u⟩⟩
theorem rd_tup {F : Hp} {a : Addr} {xs : List V} (h : SqT [] F a xs) : Rd F a (.tup xs) := by
  rcases h with h | ⟨o, its, n, hk, _⟩
  · exact h
  · cases hk
theorem rd_lst {F : Hp} {a : Addr} {xs : List V} (h : SqL [] F a xs) : Rd F a (.lst xs) := by
  rcases h with h | ⟨o, its, n, hk, _⟩
  · exact h
  · cases hk
theorem tup_is {ds : List PyData} {v : V} {F : Hp} : (TupOf (ds.map Is)).p v F ↔ (Is (.tuple ds)).p v F := by
  constructor
  · rintro ⟨a, vs, rfl, h, q⟩
    exact Dp.tup (.inl h) (all2_is.mp q)
  · intro h
    have h' : Dp [] F v (.tuple ds) := h
    cases h' with
    | tup hs ha => exact ⟨_, _, rfl, rd_tup hs, all2_is.mpr ha⟩
theorem lst_is {ds : List PyData} {v : V} {F : Hp} : (LstOf (ds.map Is)).p v F ↔ (Is (.list ds)).p v F := by
  constructor
  · rintro ⟨a, vs, rfl, h, q⟩
    exact Dp.lst (.inl h) (all2_is.mp q)
  · intro h
    have h' : Dp [] F v (.list ds) := h
    cases h' with
    | lst hs ha => exact ⟨_, _, rfl, rd_lst hs, all2_is.mpr ha⟩
/-- an own list of such values -/
def OL (τs : List Ty) : OTy := ⟨fun o F => ∃ vs, o = .lst vs ∧ All2 τs vs F, fun _ _ _ u ⟨vs, e, q⟩ => ⟨vs, e, q.up u⟩⟩
/-- a thing that was own, now data -/
def Froz (ω : OTy) : Ty := ⟨fun v F => ∃ a o, v = .ref a ∧ Plain o ∧ Rd F a o ∧ ω.p o F, fun _ _ _ u ⟨a, o, e, pl, h, q⟩ => ⟨a, o, e, pl, u _ _ pl h, ω.up _ _ _ u q⟩⟩
theorem froz_ol {τs : List Ty} {v : V} {F : Hp} (h : (Froz (OL τs)).p v F) : (LstOf τs).p v F := by
  obtain ⟨a, o, e, _, h, vs, e2, q⟩ := h
  subst e2
  exact ⟨a, vs, e, h, q⟩

/-! ### slots -/
inductive Sl where
  | un
  | dat (τ : Ty)
  | own (a : Addr) (ω : OTy)
theorem lt_of_get {ρ : List Sl} {i : Nat} {s : Sl} (h : ρ[i]? = some s) : i < ρ.length := (List.getElem?_eq_some_iff.mp h).1
structure Sat (ρ : List Sl) (σ : St) (F G H : Hp) : Prop where
  len : σ.length = ρ.length
  fh : Up F H
  fs : ∀ b, H b = none → F b = none
  gh : Same G H
  dat : ∀ (i : Nat) (τ : Ty), ρ[i]? = some (.dat τ) → ∃ v, σ[i]? = some (some v) ∧ τ.p v F
  own : ∀ (i : Nat) (a : Addr) (ω : OTy), ρ[i]? = some (.own a ω) → σ[i]? = some (some (.ref a)) ∧ F a = none ∧ G a = none ∧ ∃ o, H a = some o ∧ Mb o ∧ ω.p o F
  sep : ∀ (i j : Nat) (a : Addr) (ω ω' : OTy), ρ[i]? = some (.own a ω) → ρ[j]? = some (.own a ω') → i = j
structure Ext (F G F' : Hp) : Prop where
  up : Up F F'
  own : ∀ b, G b ≠ none → F b = none → F' b = none ∨ ∃ xs, F' b = some (.tup xs)
theorem Ext.refl (F G : Hp) : Ext F G F := ⟨Up.refl F, fun _ _ h => .inl h⟩
theorem Ext.trans {A B C G : Hp} (a : Ext A G B) (b : Ext B G C) : Ext A G C := ⟨a.up.trans b.up, fun c g h => (a.own c g h).elim (b.own c g) fun ⟨xs, e⟩ => .inr ⟨xs, b.up.tp c xs e⟩⟩
theorem Ext.ownN {F G F' H' : Hp} {c : Addr} {o : HO} (x : Ext F G F') (up : Up F' H') (g : G c ≠ none) (f : F c = none) (h : H' c = some o) (m : Mb o) : F' c = none := (x.own c g f).resolve_right fun ⟨xs, e⟩ => by
  have := up.tp c xs e
  rw [h] at this
  cases this
  exact m

section
variable {ρ : List Sl} {σ : St} {F G H : Hp} {p : Addr} {o : HO}
/-- a new object becomes data -/
theorem Sat.new (S : Sat ρ σ F G H) (hp : H p = none) : Sat ρ σ (upd F p o) G (upd H p o) := by
  have hF := S.fs p hp
  refine ⟨S.len, ⟨fun b u pl h => ?_, fun b xs h => ?_⟩, fun b hb => ?_, fun b z e => ?_, fun i τ e => ?_, fun i a ω e => ?_, S.sep⟩
  rotate_left
  · by_cases hb : b = p
    · subst hb
      rw [upd_same] at h ⊢; exact h
    · rw [upd_ne hb] at h ⊢; exact S.fh.tp b xs h
  rotate_right
  · by_cases hb : b = p
    · subst hb
      rcases h with h | ⟨q, h⟩
      · rw [upd_same] at h; exact .inl (by rw [upd_same]; exact h)
      · rw [upd_same] at h; exact .inr ⟨q, by rw [upd_same]; exact h⟩
    · have h' : Rd F b u := by
        rcases h with h | ⟨q, h⟩
        · rw [upd_ne hb] at h; exact .inl h
        · rw [upd_ne hb] at h; exact .inr ⟨q, h⟩
      rcases S.fh b u pl h' with r | ⟨q, r⟩
      · exact .inl (by rw [upd_ne hb]; exact r)
      · exact .inr ⟨q, by rw [upd_ne hb]; exact r⟩
  · by_cases e : b = p
    · subst e; rw [upd_same] at hb; cases hb
    · rw [upd_ne e] at hb ⊢; exact S.fs b hb
  · have := S.gh b z e
    rw [upd_ne (ne_of_none this hp)]; exact this
  · obtain ⟨v, e1, e2⟩ := S.dat i τ e
    exact ⟨v, e1, τ.up _ _ _ (up_upd hF) e2⟩
  · obtain ⟨e1, e2, e3, q, e4, pl, e5⟩ := S.own i a ω e
    have ne : a ≠ p := ne_of_none e4 hp
    exact ⟨e1, by rw [upd_ne ne]; exact e2, e3, q, by rw [upd_ne ne]; exact e4, pl, ω.up _ _ _ (up_upd hF) e5⟩
theorem Sat.newExt (S : Sat ρ σ F G H) (hp : H p = none) : Ext F G (upd F p o) := ⟨up_upd (S.fs p hp), fun b g hb => by
  have : b ≠ p := fun e => by
    subst e
    cases q : G b with
    | none => exact g q
    | some z => have := S.gh b z q; rw [hp] at this; cases this
  exact .inl (by rw [upd_ne this]; exact hb)⟩
/-- other data, other wishes kept -/
theorem Sat.mono {F' H' : Hp} (S : Sat ρ σ F G H) (fh : Up F' H') (fs : ∀ b, H' b = none → F' b = none) (gh : Same G H') (up : Up F F')
    (ow : ∀ (i : Nat) (a : Addr) (ω : OTy) (o : HO), ρ[i]? = some (.own a ω) → H a = some o → F' a = none ∧ H' a = some o) : Sat ρ σ F' G H' := by
  refine ⟨S.len, fh, fs, gh, fun i τ e => ?_, fun i a ω e => ?_, S.sep⟩
  · obtain ⟨v, e1, e2⟩ := S.dat i τ e
    exact ⟨v, e1, τ.up _ _ _ up e2⟩
  · obtain ⟨e1, e2, e3, q, e4, pl, e5⟩ := S.own i a ω e
    obtain ⟨z1, z2⟩ := ow i a ω q e e4
    exact ⟨e1, z1, e3, q, z2, pl, ω.up _ _ _ up e5⟩
theorem Sat.setD {i : Nat} {τ : Ty} {v : V} (S : Sat ρ σ F G H) (hv : τ.p v F) (hi : i < ρ.length) : Sat (ρ.set i (.dat τ)) (σ.set i (some v)) F G H := by
  have hiσ : i < σ.length := by rw [S.len]; exact hi
  refine ⟨by simp [S.len], S.fh, S.fs, S.gh, fun j τ' e => ?_, fun j a ω e => ?_, fun j k a ω ω' e e' => ?_⟩
  · by_cases h : i = j
    · subst h
      rw [List.getElem?_set_self hi] at e
      cases e
      exact ⟨v, by rw [List.getElem?_set_self hiσ], hv⟩
    · rw [List.getElem?_set_ne h] at e ⊢
      exact S.dat j τ' e
  · by_cases h : i = j
    · subst h
      rw [List.getElem?_set_self hi] at e
      cases e
    · rw [List.getElem?_set_ne h] at e ⊢
      exact S.own j a ω e
  · have h1 : i ≠ j := fun h => by subst h; rw [List.getElem?_set_self hi] at e; cases e
    have h2 : i ≠ k := fun h => by subst h; rw [List.getElem?_set_self hi] at e'; cases e'
    rw [List.getElem?_set_ne h1] at e
    rw [List.getElem?_set_ne h2] at e'
    exact S.sep j k a ω ω' e e'
theorem Sat.setU {i : Nat} (S : Sat ρ σ F G H) (x : Option V) (hi : i < ρ.length) : Sat (ρ.set i .un) (σ.set i x) F G H := by
  have hiσ : i < σ.length := by rw [S.len]; exact hi
  refine ⟨by simp [S.len], S.fh, S.fs, S.gh, fun j τ' e => ?_, fun j a ω e => ?_, fun j k a ω ω' e e' => ?_⟩
  · by_cases h : i = j
    · subst h
      rw [List.getElem?_set_self hi] at e
      cases e
    · rw [List.getElem?_set_ne h] at e ⊢
      exact S.dat j τ' e
  · by_cases h : i = j
    · subst h
      rw [List.getElem?_set_self hi] at e
      cases e
    · rw [List.getElem?_set_ne h] at e ⊢
      exact S.own j a ω e
  · have h1 : i ≠ j := fun h => by subst h; rw [List.getElem?_set_self hi] at e; cases e
    have h2 : i ≠ k := fun h => by subst h; rw [List.getElem?_set_self hi] at e'; cases e'
    rw [List.getElem?_set_ne h1] at e
    rw [List.getElem?_set_ne h2] at e'
    exact S.sep j k a ω ω' e e'
/-- a slot takes a new own object -/
theorem Sat.setO {i : Nat} {a : Addr} {ω : OTy} (S : Sat ρ σ F G H) (hi : i < ρ.length) (hF : F a = none) (hG : G a = none) (hH : H a = some o) (pl : Mb o) (hω : ω.p o F) (hn : ∀ (j : Nat) (ω' : OTy), ρ[j]? = some (.own a ω') → j = i) :
    Sat (ρ.set i (.own a ω)) (σ.set i (some (.ref a))) F G H := by
  have hiσ : i < σ.length := by rw [S.len]; exact hi
  refine ⟨by simp [S.len], S.fh, S.fs, S.gh, fun j τ' e => ?_, fun j b ω' e => ?_, fun j k b ω1 ω2 e e' => ?_⟩
  · by_cases h : i = j
    · subst h
      rw [List.getElem?_set_self hi] at e
      cases e
    · rw [List.getElem?_set_ne h] at e ⊢
      exact S.dat j τ' e
  · by_cases h : i = j
    · subst h
      rw [List.getElem?_set_self hi] at e
      cases e
      exact ⟨by rw [List.getElem?_set_self hiσ], hF, hG, o, hH, pl, hω⟩
    · rw [List.getElem?_set_ne h] at e ⊢
      exact S.own j b ω' e
  · by_cases h1 : i = j
    · subst h1
      rw [List.getElem?_set_self hi] at e
      cases e
      by_cases h2 : i = k
      · exact h2
      · rw [List.getElem?_set_ne h2] at e'
        exact absurd (hn k ω2 e').symm h2
    · rw [List.getElem?_set_ne h1] at e
      by_cases h2 : i = k
      · subst h2
        rw [List.getElem?_set_self hi] at e'
        cases e'
        exact absurd (hn j ω1 e).symm h1
      · rw [List.getElem?_set_ne h2] at e'
        exact S.sep j k b ω1 ω2 e e'
/-- an own object is written -/
theorem Sat.write {i : Nat} {a : Addr} {ω ω' : OTy} {o' : HO} (S : Sat ρ σ F G H) (e : ρ[i]? = some (.own a ω)) (pl : Mb o') (hω : ω'.p o' F) : Sat (ρ.set i (.own a ω')) σ F G (upd H a o') := by
  obtain ⟨e1, e2, e3, q, e4, plq, e5⟩ := S.own i a ω e
  have hi : i < ρ.length := (List.getElem?_eq_some_iff.mp e).1
  refine ⟨by simp [S.len], ⟨fun b u plu h => ?_, fun b xs h => ?_⟩, fun b hb => ?_, fun b z ez => ?_, fun j τ' ej => ?_, fun j b ω2 ej => ?_, fun j k b ω1 ω2 ej ek => ?_⟩
  rotate_left
  · have nb : b ≠ a := fun z => by subst z; rw [e2] at h; cases h
    rw [upd_ne nb]; exact S.fh.tp b xs h
  rotate_right
  · have nb : b ≠ a := fun z => by
      subst z
      rcases h with h | ⟨_, h⟩ <;> (rw [e2] at h; cases h)
    rcases S.fh b u plu h with r | ⟨y, r⟩
    · exact .inl (by rw [upd_ne nb]; exact r)
    · exact .inr ⟨y, by rw [upd_ne nb]; exact r⟩
  · by_cases z : b = a
    · subst z; exact e2
    · rw [upd_ne z] at hb; exact S.fs b hb
  · rw [upd_ne (ne_of_none ez e3)]; exact S.gh b z ez
  · by_cases h : i = j
    · subst h
      rw [List.getElem?_set_self hi] at ej
      cases ej
    · rw [List.getElem?_set_ne h] at ej
      exact S.dat j τ' ej
  · by_cases h : i = j
    · subst h
      rw [List.getElem?_set_self hi] at ej
      cases ej
      exact ⟨e1, e2, e3, o', upd_same, pl, hω⟩
    · rw [List.getElem?_set_ne h] at ej
      obtain ⟨z1, z2, z3, y, z4, z5, z6⟩ := S.own j b ω2 ej
      have nb : b ≠ a := fun z => by subst z; exact h (S.sep i j b ω ω2 e ej)
      exact ⟨z1, z2, z3, y, by rw [upd_ne nb]; exact z4, z5, z6⟩
  · have back : ∀ {l : Nat} {ω3 : OTy}, (ρ.set i (.own a ω'))[l]? = some (.own b ω3) → ∃ ω4, ρ[l]? = some (.own b ω4) := fun {l ω3} el => by
      by_cases h : i = l
      · subst h
        rw [List.getElem?_set_self hi] at el
        cases el
        exact ⟨ω, e⟩
      · rw [List.getElem?_set_ne h] at el
        exact ⟨ω3, el⟩
    obtain ⟨x1, y1⟩ := back ej
    obtain ⟨x2, y2⟩ := back ek
    exact S.sep j k b x1 x2 y1 y2
/-- an own object becomes data -/
theorem Sat.freeze {i : Nat} {a : Addr} {ω : OTy} (S : Sat ρ σ F G H) (e : ρ[i]? = some (.own a ω)) (ho : H a = some o) : Sat (ρ.set i (.dat (Froz ω))) σ (upd F a o) G H ∧ Ext F G (upd F a o) := by
  obtain ⟨e1, e2, e3, q, e4, plq, e5⟩ := S.own i a ω e
  have hi : i < ρ.length := (List.getElem?_eq_some_iff.mp e).1
  rw [ho] at e4; cases e4
  have up : Up F (upd F a o) := up_upd e2
  refine ⟨⟨by simp [S.len], ⟨fun b u plu h => ?_, fun b xs h => ?_⟩, fun b hb => ?_, S.gh, fun j τ' ej => ?_, fun j b ω2 ej => ?_, fun j k b ω1 ω2 ej ek => ?_⟩, ⟨up, fun b g hb => .inl ?_⟩⟩
  rotate_left
  · by_cases z : b = a
    · subst z
      rw [upd_same] at h; cases h; exact (show False from plq).elim
    · rw [upd_ne z] at h; exact S.fh.tp b xs h
  rotate_right
  · by_cases z : b = a
    · subst z
      rcases h with h | ⟨y, h⟩
      · rw [upd_same] at h; cases h; exact .inl ho
      · rw [upd_same] at h; cases h; exact (show False from plq).elim
    · refine S.fh b u plu ?_
      rcases h with h | ⟨y, h⟩
      · rw [upd_ne z] at h; exact .inl h
      · rw [upd_ne z] at h; exact .inr ⟨y, h⟩
  · have z : b ≠ a := fun z => by subst z; rw [ho] at hb; cases hb
    rw [upd_ne z]; exact S.fs b hb
  · by_cases h : i = j
    · subst h
      rw [List.getElem?_set_self hi] at ej
      cases ej
      exact ⟨.ref a, e1, a, o, rfl, plq.plain, .inl upd_same, ω.up _ _ _ up e5⟩
    · rw [List.getElem?_set_ne h] at ej
      obtain ⟨v, z1, z2⟩ := S.dat j τ' ej
      exact ⟨v, z1, τ'.up _ _ _ up z2⟩
  · by_cases h : i = j
    · subst h
      rw [List.getElem?_set_self hi] at ej
      cases ej
    · rw [List.getElem?_set_ne h] at ej
      obtain ⟨z1, z2, z3, y, z4, z5, z6⟩ := S.own j b ω2 ej
      have nb : b ≠ a := fun z => by subst z; exact h (S.sep i j b ω ω2 e ej)
      exact ⟨z1, by rw [upd_ne nb]; exact z2, z3, y, z4, z5, ω2.up _ _ _ up z6⟩
  · have h1 : i ≠ j := fun h => by subst h; rw [List.getElem?_set_self hi] at ej; cases ej
    have h2 : i ≠ k := fun h => by subst h; rw [List.getElem?_set_self hi] at ek; cases ek
    rw [List.getElem?_set_ne h1] at ej
    rw [List.getElem?_set_ne h2] at ek
    exact S.sep j k b ω1 ω2 ej ek
  · have z : b ≠ a := fun z => by subst z; exact g e3
    rw [upd_ne z]; exact hb
/-- a tuple that is there becomes data -/
theorem Sat.seeT {q : Addr} {xs : List V} (S : Sat ρ σ F G H) (hq : H q = some (.tup xs)) : Sat ρ σ (upd F q (.tup xs)) G H ∧ Ext F G (upd F q (.tup xs)) := by
  have up : Up F (upd F q (.tup xs)) := ⟨fun b u pl h => by
    by_cases z : b = q
    · subst z
      rcases S.fh b u pl h with r | ⟨y, r⟩
      · rw [hq] at r; cases r; exact .inl upd_same
      · rw [hq] at r; cases r
    · rcases h with h | ⟨y, h⟩
      · exact .inl (by rw [upd_ne z]; exact h)
      · exact .inr ⟨y, by rw [upd_ne z]; exact h⟩, fun b ys h => by
    by_cases z : b = q
    · subst z
      have := S.fh.tp b ys h
      rw [hq] at this; cases this; exact upd_same
    · rw [upd_ne z]; exact h⟩
  refine ⟨⟨S.len, ⟨fun b u pl h => ?_, fun b ys h => ?_⟩, fun b hb => ?_, S.gh, fun j τ e => ?_, fun j a ω e => ?_, S.sep⟩, up, fun b g hb => ?_⟩
  · by_cases z : b = q
    · subst z
      rcases h with h | ⟨y, h⟩
      · rw [upd_same] at h; cases h; exact .inl hq
      · rw [upd_same] at h; cases h
    · refine S.fh b u pl ?_
      rcases h with h | ⟨y, h⟩
      · rw [upd_ne z] at h; exact .inl h
      · rw [upd_ne z] at h; exact .inr ⟨y, h⟩
  · by_cases z : b = q
    · subst z
      rw [upd_same] at h; cases h; exact hq
    · rw [upd_ne z] at h; exact S.fh.tp b ys h
  · have z : b ≠ q := fun z => by subst z; rw [hq] at hb; cases hb
    rw [upd_ne z]; exact S.fs b hb
  · obtain ⟨v, e1, e2⟩ := S.dat j τ e
    exact ⟨v, e1, τ.up _ _ _ up e2⟩
  · obtain ⟨e1, e2, e3, o, e4, m, e5⟩ := S.own j a ω e
    have z : a ≠ q := fun z => by subst z; rw [hq] at e4; cases e4; exact m
    exact ⟨e1, by rw [upd_ne z]; exact e2, e3, o, e4, m, ω.up _ _ _ up e5⟩
  · by_cases z : b = q
    · subst z; exact .inr ⟨xs, upd_same⟩
    · exact .inl (by rw [upd_ne z]; exact hb)
/-- slots told less -/
theorem Sat.weak {ρ' : List Sl} (S : Sat ρ σ F G H) (hl : ρ'.length = ρ.length) (h : ∀ (i : Nat) (s : Sl), ρ'[i]? = some s → s = .un ∨ ρ[i]? = some s ∨ ∃ τ τ', s = .dat τ' ∧ ρ[i]? = some (.dat τ) ∧ ∀ v F, τ.p v F → τ'.p v F) : Sat ρ' σ F G H := by
  refine ⟨S.len.trans hl.symm, S.fh, S.fs, S.gh, fun i τ e => ?_, fun i a ω e => ?_, fun i j a ω ω' e e' => ?_⟩
  · rcases h i _ e with z | z | ⟨τ1, τ2, z1, z2, z3⟩
    · cases z
    · exact S.dat i τ z
    · cases z1
      obtain ⟨v, y1, y2⟩ := S.dat i τ1 z2
      exact ⟨v, y1, z3 _ _ y2⟩
  · rcases h i _ e with z | z | ⟨τ1, τ2, z1, z2, z3⟩
    · cases z
    · exact S.own i a ω z
    · cases z1
  · have f : ∀ {k : Nat} {ω3 : OTy}, ρ'[k]? = some (.own a ω3) → ρ[k]? = some (.own a ω3) := fun {k ω3} ek => by
      rcases h k _ ek with z | z | ⟨τ1, τ2, z1, z2, z3⟩
      · cases z
      · exact z
      · cases z1
    exact S.sep i j a ω ω' (f e) (f e')
end
end K35
set_option Elab.async false
set_option linter.all false
set_option maxRecDepth 100000
set_option maxHeartbeats 1000000
/-! the data layer: judgements -/
namespace K35
open PySem PySem.Spec L2

structure Wd where
  P : Program
  w : World
  K : PySem.W.Frag
  mg : Str → Option Value
  base : Heap
structure Good (W : Wd) (n : Nat) (df : Bool) (X : Cx) (N : List Str) (sc : Scope) : Prop where
  eP : X.prog = W.P
  ew : X.w = W.w
  eK : X.K = W.K
  em : X.mg = W.mg
  eb : X.base = W.base
  eN : X.N = N
  nd : N.Nodup
  es : X.env.scope = sc
  kd : sc.kind = .function
  calm : X.calm = true
  xe : X.xe = fun _ _ => False
  room : Room n X.A
  fn : df = true → ∀ x, X.fn x = true
structure Cal (W : Wd) (x : Str) (k : Nat) (ps : List Str) (sp : Sp) : Prop where
  ex : ∃ f fd, FnOk W.P W.w W.K W.mg W.base CX0 k f fd ps sp ∧ W.mg x = some (.ref f) ∧ PySem.W.keepIn W.K (.ref f) = true ∧ Binds W.K fd ps []

/-! ### what HandS's judgements ask, at one place -/
@[irreducible] def WE (X : Cx) (e : Expr) : TE := fun σ H Q => ∀ pins s, Inv X pins σ H s → wpAny (model X.prog X.w) X.A (eval e X.env) (EP X pins σ Q) X.xe s
@[irreducible] def WT (X : Cx) (e : Expr) : TT := fun σ H Q => ∀ pins s, Inv X pins σ H s → wpAny (model X.prog X.w) X.A (isTrue e X.env (eval e X.env)) (TP X pins σ Q) X.xe s
@[irreducible] def WW (X : Cx) (e : Expr) : TT := fun σ H Q => ∀ whole pins s, Inv X pins σ H s → wpAny (model X.prog X.w) X.A (isTrue e X.env whole) (TP X pins σ Q) X.xe s
@[irreducible] def WA (X : Cx) (es : List Expr) : TA := fun σ H Q => ∀ pos pins s, Inv X pins σ H s → wpAny (model X.prog X.w) X.A (spliced (backTo pos (starEach es X.env))) (AP X pins σ Q) X.xe s
@[irreducible] def WS (X : Cx) (st : Stmt) : TS := fun D σ H => ∀ pins s, Inv X pins σ H s → wpAny (model X.prog X.w) X.A (exec st X.env) (SP X pins D) X.xe s
@[irreducible] def WSs (X : Cx) (st : List Stmt) : TS := fun D σ H => ∀ pins s, Inv X pins σ H s → wpAny (model X.prog X.w) X.A (execs st X.env) (SP X pins D) X.xe s
@[irreducible] def WG (X : Cx) (tg : Expr) : TG := fun v σ H Q => ∀ pins s u, Inv X pins σ H s → RelV v u → wpAny (model X.prog X.w) X.A (assign tg X.env u) (fun _ s' => ∃ σ' H', Inv X pins σ' H' s' ∧ Q σ' H') X.xe s
@[irreducible] def WGs (X : Cx) (ts : List Expr) : TGs := fun vs σ H Q => ∀ pins s us, Inv X pins σ H s → Vals vs us → wpAny (model X.prog X.w) X.A (assignInOrder ((assignEach ts X.env).map (·.2)) us) (fun _ s' => ∃ σ' H', Inv X pins σ' H' s' ∧ Q σ' H') X.xe s
@[irreducible] def WI (X : Cx) (tg e : Expr) : TI := fun σ H R => ∀ pins s, Inv X pins σ H s → wpAny (model X.prog X.w) X.A (eval e X.env) (fun v s1 => wpAny (model X.prog X.w) X.A (pyIter v) (PIE X pins σ tg R) X.xe s1) X.xe s
@[irreducible] def WTs (X : Cx) (ifs : List Expr) : TT := fun σ H Q => ∀ pins s, Inv X pins σ H s → wpAny (model X.prog X.w) X.A (forIn ifs true fun c r => if r = true then do let ok ← isTrue c X.env (eval c X.env); pure (ForInStep.yield ok) else pure (ForInStep.yield r)) (TP X pins σ Q) X.xe s
section
variable {X : Cx} {e tg : Expr} {es : List Expr} {st : Stmt} {sts : List Stmt} {σ : L2.St} {H : Hp}
theorem pe_w : PE X e (WE X e) := ⟨fun pins s _ _ _ I h => by unfold WE at h; exact h pins s I⟩
theorem pt_w : PT X e (WT X e) := ⟨fun pins s _ _ _ I h => by unfold WT at h; exact h pins s I⟩
theorem pw_w : PW X e (WW X e) := ⟨fun wh pins s _ _ _ I h => by unfold WW at h; exact h wh pins s I⟩
theorem pa_w : PA X es (WA X es) := ⟨fun pos pins s _ _ _ I h => by unfold WA at h; exact h pos pins s I⟩
theorem ps_w : PS X st (WS X st) := ⟨fun pins s _ _ _ I h => by unfold WS at h; exact h pins s I⟩
theorem pss_w : PSs X sts (WSs X sts) := ⟨fun pins s _ _ _ I h => by unfold WSs at h; exact h pins s I⟩
theorem pg_w : PG X tg (WG X tg) := ⟨fun pins s _ _ _ u _ I r h => by unfold WG at h; exact h pins s u I r⟩
theorem pgs_w : PGs X es (WGs X es) := ⟨fun pins s _ _ _ us _ I r h => by unfold WGs at h; exact h pins s us I r⟩
theorem pi_w : PI X tg e (WI X tg e) := ⟨fun pins s _ _ _ I h => by unfold WI at h; exact h pins s I⟩
theorem pts_w : PTs X es (WTs X es) := ⟨fun pins s _ _ _ I h => by unfold WTs at h; exact h pins s I⟩
theorem we_of {t : TE} {Q : VK} (h : PE X e t) (q : t σ H Q) : WE X e σ H Q := by unfold WE; exact fun pins s I => h.run pins s σ H Q I q
theorem wt_of {t : TT} {Q : Bool → Hp → Prop} (h : PT X e t) (q : t σ H Q) : WT X e σ H Q := by unfold WT; exact fun pins s I => h.run pins s σ H Q I q
theorem ww_of {t : TT} {Q : Bool → Hp → Prop} (h : PW X e t) (q : t σ H Q) : WW X e σ H Q := by unfold WW; exact fun wh pins s I => h.run wh pins s σ H Q I q
theorem wa_of {t : TA} {Q : List V → Hp → Prop} (h : PA X es t) (q : t σ H Q) : WA X es σ H Q := by unfold WA; exact fun pos pins s I => h.run pos pins s σ H Q I q
theorem ws_of {t : TS} {D : Ends} (h : PS X st t) (q : t D σ H) : WS X st D σ H := by unfold WS; exact fun pins s I => h.run pins s σ H D I q
theorem wss_of {t : TS} {D : Ends} (h : PSs X sts t) (q : t D σ H) : WSs X sts D σ H := by unfold WSs; exact fun pins s I => h.run pins s σ H D I q
theorem wg_of {t : TG} {v : V} {Q : L2.St → Hp → Prop} (h : PG X tg t) (q : t v σ H Q) : WG X tg v σ H Q := by unfold WG; exact fun pins s u I r => h.run pins s σ H v u Q I r q
theorem wgs_of {t : TGs} {vs : List V} {Q : L2.St → Hp → Prop} (h : PGs X es t) (q : t vs σ H Q) : WGs X es vs σ H Q := by unfold WGs; exact fun pins s us I r => h.run pins s σ H vs us Q I r q
theorem wi_of {t : TI} {R : It → Hp → Prop} (h : PI X tg e t) (q : t σ H R) : WI X tg e σ H R := by unfold WI; exact fun pins s I => h.run pins s σ H R I q
theorem wts_of {t : TT} {Q : Bool → Hp → Prop} (h : PTs X es t) (q : t σ H Q) : WTs X es σ H Q := by unfold WTs; exact fun pins s I => h.run pins s σ H Q I q
end

/-! ### the judgements -/
/-- e has a value of the type τ -/
def DE (X : Cx) (e : Expr) (ρ : List Sl) (τ : Ty) : Prop := ∀ σ F G H (Q : VK), Sat ρ σ F G H → (∀ v F' H', Ext F G F' → Sat ρ σ F' G H' → τ.p v F' → Q v H') → WE X e σ H Q
/-- .. of a new list or dict, which nothing else names -/
def DF (X : Cx) (e : Expr) (ρ : List Sl) (ω : OTy) : Prop := ∀ σ F G H (Q : VK), Sat ρ σ F G H →
  (∀ a o F' H', Ext F G F' → Sat ρ σ F' G H' → F' a = none → G a = none → (∀ (i : Nat) (b : Addr) (ω' : OTy), ρ[i]? = some (.own b ω') → b ≠ a) → H' a = some o → Mb o → ω.p o F' → Q (.ref a) H') → WE X e σ H Q
def DEs (X : Cx) (es : List Expr) (ρ : List Sl) (τs : List Ty) : Prop := ∀ σ F G H (Q : List V → Hp → Prop), Sat ρ σ F G H → (∀ vs F' H', Ext F G F' → Sat ρ σ F' G H' → All2 τs vs F' → Q vs H') → WA X es σ H Q
/-- e as a test has an answer of which β -/
def DT (X : Cx) (e : Expr) (ρ : List Sl) (β : Bool → Prop) : Prop := ∀ σ F G H (Q : Bool → Hp → Prop), Sat ρ σ F G H → (∀ b F' H', β b → Ext F G F' → Sat ρ σ F' G H' → Q b H') → WT X e σ H Q
def DW (X : Cx) (e : Expr) (ρ : List Sl) (β : Bool → Prop) : Prop := ∀ σ F G H (Q : Bool → Hp → Prop), Sat ρ σ F G H → (∀ b F' H', β b → Ext F G F' → Sat ρ σ F' G H' → Q b H') → WW X e σ H Q
def DTs (X : Cx) (es : List Expr) (ρ : List Sl) (β : Bool → Prop) : Prop := ∀ σ F G H (Q : Bool → Hp → Prop), Sat ρ σ F G H → (∀ b F' H', β b → Ext F G F' → Sat ρ σ F' G H' → Q b H') → WTs X es σ H Q
/-- a value of the type τ assigned to the target: the slots are then ρ' -/
def DG (X : Cx) (tg : Expr) (τ : Ty) (ρ : List Sl) (N : List Sl → Prop) : Prop := ∀ v σ F G H (Q : L2.St → Hp → Prop), Sat ρ σ F G H → τ.p v F → (∀ ρ' σ' F' H', N ρ' → Ext F G F' → Sat ρ' σ' F' G H' → Q σ' H') → WG X tg v σ H Q
def DGs (X : Cx) (ts : List Expr) (τs : List Ty) (ρ : List Sl) (N : List Sl → Prop) : Prop := ∀ vs σ F G H (Q : L2.St → Hp → Prop), Sat ρ σ F G H → All2 τs vs F → (∀ ρ' σ' F' H', N ρ' → Ext F G F' → Sat ρ' σ' F' G H' → Q σ' H') → WGs X ts vs σ H Q
structure Post where
  nx : List Sl → Prop
  rt : List Sl → V → Hp → Prop
  bk : List Sl → Prop := fun _ => False
  ct : List Sl → Prop := fun _ => False
structure Post.Ok (P : Post) (F G : Hp) (D : Ends) : Prop where
  nx : ∀ ρ' σ' F' H', P.nx ρ' → Ext F G F' → Sat ρ' σ' F' G H' → D.nx σ' H'
  rt : ∀ ρ' σ' v F' H', P.rt ρ' v F' → Ext F G F' → Sat ρ' σ' F' G H' → D.rt v H'
  bk : ∀ ρ' σ' F' H', P.bk ρ' → Ext F G F' → Sat ρ' σ' F' G H' → D.bk σ' H'
  ct : ∀ ρ' σ' F' H', P.ct ρ' → Ext F G F' → Sat ρ' σ' F' G H' → D.ct σ' H'
theorem Post.Ok.on {P : Post} {F F' G : Hp} {D : Ends} (h : P.Ok F G D) (x : Ext F G F') : P.Ok F' G D :=
  ⟨fun ρ' σ' F2 H' a b c => h.nx ρ' σ' F2 H' a (x.trans b) c, fun ρ' σ' v F2 H' a b c => h.rt ρ' σ' v F2 H' a (x.trans b) c, fun ρ' σ' F2 H' a b c => h.bk ρ' σ' F2 H' a (x.trans b) c, fun ρ' σ' F2 H' a b c => h.ct ρ' σ' F2 H' a (x.trans b) c⟩
def DS (X : Cx) (st : Stmt) (ρ : List Sl) (P : Post) : Prop := ∀ σ F G H (D : Ends), Sat ρ σ F G H → P.Ok F G D → WS X st D σ H
def DB (X : Cx) (sts : List Stmt) (ρ : List Sl) (P : Post) : Prop := ∀ σ F G H (D : Ends), Sat ρ σ F G H → P.Ok F G D → WSs X sts D σ H

section
variable {W : Wd} {n : Nat} {df : Bool} {X : Cx} {N : List Str} {sc : Scope} {e a b : Expr} {es : List Expr} {st : Stmt} {sts : List Stmt} {ρ : List Sl} {P : Post} {τ τ' τ1 τ2 : Ty} {τs : List Ty} {β : Bool → Prop} {pos : Pos}
/-! ### structure -/
theorem DE.sub (h : DE X e ρ τ) (k : ∀ v F, τ.p v F → τ'.p v F) : DE X e ρ τ' := fun σ F G H Q S q => h σ F G H Q S fun v F' H' x s p => q v F' H' x s (k v F' p)
theorem DE.ex {d : PyData} {Pd : PyData → Prop} (h : DE X e ρ (Is d)) (k : Pd d) : DE X e ρ (Ex Pd) := h.sub fun _ _ p => ⟨d, k, p⟩
theorem DE.imp {Pd Pe : PyData → Prop} (h : DE X e ρ (Ex Pd)) (k : ∀ d, Pd d → Pe d) : DE X e ρ (Ex Pe) := h.sub fun _ _ ⟨d, a, p⟩ => ⟨d, k d a, p⟩
theorem DT.sub {β' : Bool → Prop} (h : DT X e ρ β) (k : ∀ b, β b → β' b) : DT X e ρ β' := fun σ F G H Q S q => h σ F G H Q S fun b F' H' z x s => q b F' H' (k b z) x s
theorem DF.dat {ω : OTy} (h : DF X e ρ ω) : DE X e ρ (Froz ω) := fun σ F G H Q S q => h σ F G H Q S fun p o F' H' x s hF hG hn hH pl hω => by
  refine q (.ref p) (upd F' p o) H' (x.trans ⟨up_upd hF, fun c g hc => .inl ?_⟩) ?_ ⟨p, o, rfl, pl.plain, .inl upd_same, ω.up _ _ _ (up_upd hF) hω⟩
  · have : c ≠ p := fun z => by subst z; exact g hG
    rw [upd_ne this]; exact hc
  · refine s.mono ⟨fun c u plu hc => ?_, fun c xs hc => ?_⟩ (fun c hc => ?_) s.gh (up_upd hF) fun i b ω' ob e ho => ?_
    rotate_left
    · by_cases z : c = p
      · subst z
        rw [upd_same] at hc; cases hc; exact (show False from pl).elim
      · rw [upd_ne z] at hc; exact s.fh.tp c xs hc
    rotate_right
    · by_cases z : c = p
      · subst z
        rcases hc with hc | ⟨y, hc⟩
        · rw [upd_same] at hc; cases hc; exact .inl hH
        · rw [upd_same] at hc; cases hc; exact (show False from pl).elim
      · refine s.fh c u plu ?_
        rcases hc with hc | ⟨y, hc⟩
        · rw [upd_ne z] at hc; exact .inl hc
        · rw [upd_ne z] at hc; exact .inr ⟨y, hc⟩
    · have z : c ≠ p := fun z => by subst z; rw [hH] at hc; cases hc
      rw [upd_ne z]; exact s.fs c hc
    · obtain ⟨_, z2, _⟩ := s.own i b ω' e
      exact ⟨by rw [upd_ne (hn i b ω' e)]; exact z2, ho⟩
theorem DF.lst (h : DF X e ρ (OL τs)) : DE X e ρ (LstOf τs) := h.dat.sub fun _ _ => froz_ol
theorem DE.tupI {ds : List PyData} (h : DE X e ρ (TupOf (ds.map Is))) : DE X e ρ (Is (.tuple ds)) := h.sub fun _ _ => tup_is.mp
theorem DE.lstI {ds : List PyData} (h : DE X e ρ (LstOf (ds.map Is))) : DE X e ρ (Is (.list ds)) := h.sub fun _ _ => lst_is.mp
theorem DE.tupT {ds : List PyData} (h : DE X e ρ (Is (.tuple ds))) : DE X e ρ (TupOf (ds.map Is)) := h.sub fun _ _ => tup_is.mpr
theorem DE.lstT {ds : List PyData} (h : DE X e ρ (Is (.list ds))) : DE X e ρ (LstOf (ds.map Is)) := h.sub fun _ _ => lst_is.mpr

/-! ### names, constants -/
theorem de_slot {i : Nat} {x : Str} (g : Good W n df X N sc) (hr : ρ[i]? = some (.dat τ)) (hN : N[i]? = some x := by rfl)
    (hv : sc.names.lookup x = some .local ∨ sc.names.lookup x = some .cell ∨ sc.names.lookup x = some .free := by first | exact Or.inl rfl | exact Or.inr (Or.inl rfl) | exact Or.inr (Or.inr rfl))
    (hd : (x == ("__debug__" : Str)) = false := by decide) (hcd : (x == ("__classdict__" : Str)) = false := by decide) : DE X (.Name x pos) ρ τ := fun σ F G H Q S q => by
  obtain ⟨v, e1, e2⟩ := S.dat i τ hr
  exact we_of (pe_var (i := i) (by rw [g.eN]; exact hN) (by unfold Vis; rw [g.es]; exact hv) hd hcd) ⟨v, e1, q v F H (Ext.refl F G) S e2⟩
theorem de_own {i : Nat} {x : Str} {p : Addr} {ω : OTy} (g : Good W n df X N sc) (hr : ρ[i]? = some (.own p ω)) (hN : N[i]? = some x := by rfl)
    (hv : sc.names.lookup x = some .local ∨ sc.names.lookup x = some .cell ∨ sc.names.lookup x = some .free := by first | exact Or.inl rfl | exact Or.inr (Or.inl rfl) | exact Or.inr (Or.inr rfl))
    (hd : (x == ("__debug__" : Str)) = false := by decide) (hcd : (x == ("__classdict__" : Str)) = false := by decide) : DE X (.Name x pos) ρ (At p) := fun σ F G H Q S q => by
  obtain ⟨e1, _⟩ := S.own i p ω hr
  exact we_of (pe_var (i := i) (by rw [g.eN]; exact hN) (by unfold Vis; rw [g.es]; exact hv) hd hcd) ⟨.ref p, e1, q _ F H (Ext.refl F G) S rfl⟩
theorem de_int {i : Int} {j : Nat} : DE X (.Constant (.int i) j pos) ρ (Is (.int i)) := fun σ F G H Q S q => we_of pe_int (q _ F H (Ext.refl F G) S (.int i))
theorem de_bl {c : Bool} {j : Nat} : DE X (.Constant (.bool c) j pos) ρ (Is (.bool c)) := fun σ F G H Q S q => we_of pe_bl (q _ F H (Ext.refl F G) S (.bl c))
theorem de_non {j : Nat} : DE X (.Constant .none j pos) ρ (Is .none) := fun σ F G H Q S q => we_of pe_non (q _ F H (Ext.refl F G) S .non)
theorem de_str {x : Str} {j : Nat} : DE X (.Constant (.str x) j pos) ρ (Is (.str x)) := fun σ F G H Q S q => we_of L2.pe_str (q _ F H (Ext.refl F G) S (.str x))
theorem de_glob {x : Str} {v : V} {u : Value} (g : Good W n df X N sc) (hm : W.mg x = some u) (r : RelV v u) (hτ : ∀ F, τ.p v F) (hg : sc.names.lookup x = some .globalImplicit := by rfl) (hd : (x == ("__debug__" : Str)) = false := by decide) :
    DE X (.Name x pos) ρ τ := fun σ F G H Q S q => we_of (pe_glob (v := v) (u := u) (by unfold Gl Env.kindOf; rw [g.es]; exact hg) (by rw [g.em]; exact hm) r hd) (q _ F H (Ext.refl F G) S (hτ F))

/-! ### argument lists -/
theorem des_nil : DEs X [] ρ [] := fun σ F G H Q S q => wa_of pa_nil (q [] F H (Ext.refl F G) S .nil)
theorem des_cons (h : DE X e ρ τ) (t : DEs X es ρ τs) (hs : starEach (e :: es) X.env = (false, eval e X.env) :: starEach es X.env := by rfl) : DEs X (e :: es) ρ (τ :: τs) := fun σ F G H Q S q =>
  wa_of (pa_cons pe_w pa_w hs) (h σ F G H _ S fun v F1 H1 x1 S1 p1 => t σ F1 G H1 _ S1 fun vs F2 H2 x2 S2 p2 => q (v :: vs) F2 H2 (x1.trans x2) S2 (.cons (τ.up _ _ _ x2.up p1) p2))

/-! ### displays -/
theorem de_tup {k : Nat} (h : DEs X es ρ τs) (hz : τs.length ≤ 1000 := by first | decide | exact Nat.le_of_ble_eq_true rfl) : DE X (.Tuple es k pos) ρ (TupOf τs) := fun σ F G H Q S q =>
  we_of (pe_tup pa_w) (h σ F G H _ S fun vs F1 H1 x1 S1 p1 => ⟨by rw [← p1.length]; exact Nat.le_of_lt (small1000 hz), fun p hp =>
    q (.ref p) _ _ (x1.trans (S1.newExt hp)) (S1.new (o := .tup vs) hp) ⟨p, vs, rfl, .inl upd_same, p1.up (S1.newExt (o := .tup vs) hp).up⟩⟩)
theorem df_lst (h : DEs X es ρ τs) (hz : τs.length ≤ 1000 := by first | decide | exact Nat.le_of_ble_eq_true rfl) : DF X (.List es pos) ρ (OL τs) := fun σ F G H Q S q =>
  we_of (pe_lst pa_w) (h σ F G H _ S fun vs F1 H1 x1 S1 p1 => ⟨by rw [← p1.length]; exact Nat.le_of_lt (small1000 hz), fun p hp => by
    have hF := S1.fs p hp
    have hG : G p = none := by
      cases z : G p with
      | none => rfl
      | some y => have := S1.gh p y z; rw [hp] at this; cases this
    refine q p (.lst vs) F1 (upd H1 p (.lst vs)) x1 ?_ hF hG (fun i b ω' e => ?_) upd_same True.intro ⟨vs, rfl, p1⟩
    · refine S1.mono (S1.fh.trans (up_upd hp)) (fun c hc => ?_) (fun c y e => ?_) (Up.refl _) fun i b ω' o e ho => ?_
      · by_cases z : c = p
        · subst z; exact hF
        · rw [upd_ne z] at hc; exact S1.fs c hc
      · exact same_new hp c y (S1.gh c y e)
      · obtain ⟨_, z2, _⟩ := S1.own i b ω' e
        exact ⟨z2, by rw [upd_ne (ne_of_none ho hp)]; exact ho⟩
    · obtain ⟨_, _, _, o, z, _⟩ := S1.own i b ω' e
      exact ne_of_none z hp⟩)

/-! ### operators -/
/-- a rule by values, by types -/
def VR2 (r : R2) (τ1 τ2 τ : Ty) : Prop := ∀ ρ σ F G H x y (Q : VK), Sat ρ σ F G H → τ1.p x F → τ2.p y F → (∀ v F' H', Ext F G F' → Sat ρ σ F' G H' → τ.p v F' → Q v H') → r x y H Q
theorem de_op {op : Operator} {r : R2} (ho : OpR X (binaryOp op) r) (ha : DE X a ρ τ1) (hb : DE X b ρ τ2) (hr : VR2 r τ1 τ2 τ) : DE X (.BinOp a op b pos) ρ τ := fun σ F G H Q S q =>
  we_of (pe_op ho pe_w pe_w) (ha σ F G H _ S fun v F1 H1 x1 S1 p1 => hb σ F1 G H1 _ S1 fun u F2 H2 x2 S2 p2 => hr ρ σ F2 G H2 v u Q S2 (τ1.up _ _ _ x2.up p1) p2 fun z F3 H3 x3 S3 p3 => q z F3 H3 (x1.trans (x2.trans x3)) S3 p3)
theorem de_cmp {op : CmpOp} {r : R2} (ho : OpR X (compareOp op) r) (ha : DE X a ρ τ1) (hb : DE X b ρ τ2) (hr : VR2 r τ1 τ2 τ) (hm : behindInMarks op b = false := by first | exact nomark _ | rfl) : DE X (.Compare a [op] [b] pos) ρ τ := fun σ F G H Q S q =>
  we_of (pe_cmpR ho pe_w pe_w hm) (ha σ F G H _ S fun v F1 H1 x1 S1 p1 => hb σ F1 G H1 _ S1 fun u F2 H2 x2 S2 p2 => hr ρ σ F2 G H2 v u Q S2 (τ1.up _ _ _ x2.up p1) p2 fun z F3 H3 x3 S3 p3 => q z F3 H3 (x1.trans (x2.trans x3)) S3 p3)
def BoolP (β : Bool → Prop) : Ty := Ex fun d => ∃ c, d = .bool c ∧ β c
theorem boolP_get {v : V} {F : Hp} (h : (BoolP β).p v F) : ∃ c, v = .bl c ∧ β c := by
  obtain ⟨d, ⟨c, rfl, z⟩, h⟩ := h
  cases h
  exact ⟨c, rfl, z⟩
theorem is_bool {c : Bool} {v : V} {F : Hp} (h : (Is (.bool c)).p v F) : v = .bl c := by
  have h' : Dp [] F v (.bool c) := h
  cases h'; rfl
theorem is_int {i : Int} {v : V} {F : Hp} (h : (Is (.int i)).p v F) : v = .int i := by
  have h' : Dp [] F v (.int i) := h
  cases h'; rfl
theorem is_str {x : Str} {v : V} {F : Hp} (h : (Is (.str x)).p v F) : v = .str x := by
  have h' : Dp [] F v (.str x) := h
  cases h'; rfl
theorem is_non {v : V} {F : Hp} (h : (Is .none).p v F) : v = .non := by
  have h' : Dp [] F v .none := h
  cases h'; rfl
theorem dt_cmp {op : CmpOp} {r : R2} (ho : OpR X (compareOp op) r) (ha : DE X a ρ τ1) (hb : DE X b ρ τ2) (hr : VR2 r τ1 τ2 (BoolP β)) (hm : behindInMarks op b = false := by first | exact nomark _ | rfl) : DT X (.Compare a [op] [b] pos) ρ β := fun σ F G H Q S q =>
  wt_of (pt_cmpR ho pe_w pe_w hm) (ha σ F G H _ S fun v F1 H1 x1 S1 p1 => hb σ F1 G H1 _ S1 fun u F2 H2 x2 S2 p2 => hr ρ σ F2 G H2 v u _ S2 (τ1.up _ _ _ x2.up p1) p2 fun z F3 H3 x3 S3 p3 => by
    obtain ⟨c, rfl, hc⟩ := boolP_get p3
    exact ⟨c, rfl, q c F3 H3 hc (x1.trans (x2.trans x3)) S3⟩)
/-! tests -/
theorem dt_val (h : DE X e ρ (BoolP β)) (he : ∀ whole, isTrue e X.env whole = (do let v ← whole; standAt e.pos; holding [v] (truthy v)) := by intro _; rfl) : DT X e ρ β := fun σ F G H Q S q =>
  wt_of (pt_val pe_w he) (h σ F G H _ S fun v F1 H1 x1 S1 p1 => by
    obtain ⟨c, rfl, hc⟩ := boolP_get p1
    exact ⟨c, rfl, q c F1 H1 hc x1 S1⟩)
theorem DW.dt (h : DW X e ρ β) : DT X e ρ β := fun σ F G H Q S q => by
  have z := h σ F G H Q S q
  unfold WW at z
  unfold WT
  exact fun pins s I => z _ pins s I
theorem dw_and1 (h : DT X a ρ β) : DW X (.BoolOp .And [a] pos) ρ β := fun σ F G H Q S q => ww_of (pw_and1 pt_w) (h σ F G H Q S q)
theorem dw_or1 (h : DT X a ρ β) : DW X (.BoolOp .Or [a] pos) ρ β := fun σ F G H Q S q => ww_of (pw_or1 pt_w) (h σ F G H Q S q)
theorem dw_and {β1 β2 : Bool → Prop} {rest : List Expr} (h1 : DT X a ρ β1) (h2 : β1 true → DW X (.BoolOp .And (b :: rest) pos) ρ β2) : DW X (.BoolOp .And (a :: b :: rest) pos) ρ (fun c => (β1 true ∧ β2 c) ∨ (β1 false ∧ c = false)) := fun σ F G H Q S q =>
  ww_of (pw_and pt_w pw_w) (h1 σ F G H _ S fun c F1 H1 hc x1 S1 => by
    cases c with
    | true => exact iteT (h2 hc σ F1 G H1 Q S1 fun c2 F2 H2 hc2 x2 S2 => q c2 F2 H2 (.inl ⟨hc, hc2⟩) (x1.trans x2) S2)
    | false => exact iteF (q false F1 H1 (.inr ⟨hc, rfl⟩) x1 S1))
theorem dw_or {β1 β2 : Bool → Prop} {rest : List Expr} (h1 : DT X a ρ β1) (h2 : β1 false → DW X (.BoolOp .Or (b :: rest) pos) ρ β2) : DW X (.BoolOp .Or (a :: b :: rest) pos) ρ (fun c => (β1 true ∧ c = true) ∨ (β1 false ∧ β2 c)) := fun σ F G H Q S q =>
  ww_of (pw_or pt_w pw_w) (h1 σ F G H _ S fun c F1 H1 hc x1 S1 => by
    cases c with
    | true => exact iteT (q true F1 H1 (.inl ⟨hc, rfl⟩) x1 S1)
    | false => exact iteF (h2 hc σ F1 G H1 Q S1 fun c2 F2 H2 hc2 x2 S2 => q c2 F2 H2 (.inr ⟨hc, hc2⟩) (x1.trans x2) S2))
theorem dt_not (h : DT X a ρ β) : DT X (.UnaryOp .Not a pos) ρ (fun c => β (!c)) := fun σ F G H Q S q =>
  wt_of (pt_not pt_w) (h σ F G H _ S fun c F1 H1 hc x1 S1 => q (!c) F1 H1 (by show β (!(!c)); rw [Bool.not_not]; exact hc) x1 S1)
/-! the same as values -/
theorem de_one {op : BoolOp} (h : DE X a ρ τ) : DE X (.BoolOp op [a] pos) ρ τ := fun σ F G H Q S q => we_of (pe_one pe_w) (h σ F G H Q S q)
theorem de_and {β1 β2 : Bool → Prop} {rest : List Expr} (h1 : DE X a ρ (BoolP β1)) (h2 : β1 true → DE X (.BoolOp .And (b :: rest) pos) ρ (BoolP β2)) : DE X (.BoolOp .And (a :: b :: rest) pos) ρ (BoolP fun c => (β1 true ∧ β2 c) ∨ (β1 false ∧ c = false)) := fun σ F G H Q S q =>
  we_of (L2.pe_and pe_w pe_w) (h1 σ F G H _ S fun v F1 H1 x1 S1 p1 => by
    obtain ⟨c, rfl, hc⟩ := boolP_get p1
    refine ⟨c, rfl, ?_⟩
    cases c with
    | true => exact iteT (h2 hc σ F1 G H1 Q S1 fun v2 F2 H2 x2 S2 p2 => q v2 F2 H2 (x1.trans x2) S2 (by
        obtain ⟨d, ⟨c2, e2, z⟩, h⟩ := p2
        exact ⟨d, ⟨c2, e2, .inl ⟨hc, z⟩⟩, h⟩))
    | false => exact iteF (q _ F1 H1 x1 S1 ⟨.bool false, ⟨false, rfl, .inr ⟨hc, rfl⟩⟩, .bl false⟩))
theorem de_or {β1 β2 : Bool → Prop} {rest : List Expr} (h1 : DE X a ρ (BoolP β1)) (h2 : β1 false → DE X (.BoolOp .Or (b :: rest) pos) ρ (BoolP β2)) : DE X (.BoolOp .Or (a :: b :: rest) pos) ρ (BoolP fun c => (β1 true ∧ c = true) ∨ (β1 false ∧ β2 c)) := fun σ F G H Q S q =>
  we_of (L2.pe_or pe_w pe_w) (h1 σ F G H _ S fun v F1 H1 x1 S1 p1 => by
    obtain ⟨c, rfl, hc⟩ := boolP_get p1
    refine ⟨c, rfl, ?_⟩
    cases c with
    | true => exact iteT (q _ F1 H1 x1 S1 ⟨.bool true, ⟨true, rfl, .inl ⟨hc, rfl⟩⟩, .bl true⟩)
    | false => exact iteF (h2 hc σ F1 G H1 Q S1 fun v2 F2 H2 x2 S2 p2 => q v2 F2 H2 (x1.trans x2) S2 (by
        obtain ⟨d, ⟨c2, e2, z⟩, h⟩ := p2
        exact ⟨d, ⟨c2, e2, .inr ⟨hc, z⟩⟩, h⟩)))
theorem de_not (h : DE X a ρ (BoolP β)) : DE X (.UnaryOp .Not a pos) ρ (BoolP fun c => β (!c)) := fun σ F G H Q S q =>
  we_of (L2.pe_not pe_w) (h σ F G H _ S fun v F1 H1 x1 S1 p1 => by
    obtain ⟨c, rfl, hc⟩ := boolP_get p1
    exact ⟨c, rfl, q _ F1 H1 x1 S1 ⟨.bool (!c), ⟨!c, rfl, by show β (!(!c)); rw [Bool.not_not]; exact hc⟩, .bl _⟩⟩)
theorem de_ifExp {c : Expr} (hc : DT X c ρ β) (ha : β true → DE X a ρ τ) (hb : β false → DE X b ρ τ) : DE X (.IfExp c a b pos) ρ τ := fun σ F G H Q S q =>
  we_of (pe_ifExp pt_w pe_w pe_w) (hc σ F G H _ S fun k F1 H1 hk x1 S1 => by
    cases k with
    | true => exact iteT (ha hk σ F1 G H1 Q S1 fun v F2 H2 x2 S2 p => q v F2 H2 (x1.trans x2) S2 p)
    | false => exact iteF (hb hk σ F1 G H1 Q S1 fun v F2 H2 x2 S2 p => q v F2 H2 (x1.trans x2) S2 p))

/-! ### statements -/
theorem db_nil (h : P.nx ρ) : DB X [] ρ P := fun σ F G H D S ok => wss_of pss_nil (ok.nx ρ σ F H h (Ext.refl F G) S)
theorem db_cons (h : DS X st ρ { P with nx := fun ρ' => DB X sts ρ' P }) : DB X (st :: sts) ρ P := fun σ F G H D S ok =>
  wss_of (pss_cons ps_w pss_w) (h σ F G H _ S ⟨fun ρ' σ' F' H' z x S' => z σ' F' G H' D S' (ok.on x), ok.rt, ok.bk, ok.ct⟩)
theorem db_one (h : DS X st ρ P) : DB X [st] ρ P := fun σ F G H D S ok => wss_of (pss_one ps_w) (h σ F G H D S ok)
theorem ds_pass (h : P.nx ρ) : DS X (.Pass pos) ρ P := fun σ F G H D S ok => ws_of ps_pass (ok.nx ρ σ F H h (Ext.refl F G) S)
theorem ds_cont (h : P.ct ρ) : DS X (.Continue pos) ρ P := fun σ F G H D S ok => ws_of ps_continue (ok.ct ρ σ F H h (Ext.refl F G) S)
theorem ds_break (h : P.bk ρ) : DS X (.Break pos) ρ P := fun σ F G H D S ok => ws_of ps_break (ok.bk ρ σ F H h (Ext.refl F G) S)
theorem ds_ret (h : DE X e ρ τ) (k : ∀ v F, τ.p v F → P.rt ρ v F) : DS X (.Return (some e) pos) ρ P := fun σ F G H D S ok =>
  ws_of (ps_ret pe_w) (h σ F G H _ S fun v F1 H1 x1 S1 p1 => ok.rt ρ σ v F1 H1 (k v F1 p1) x1 S1)
theorem ds_if {c : Expr} {s1 s2 : List Stmt} (hc : DT X c ρ β) (h1 : β true → DB X s1 ρ P) (h2 : β false → DB X s2 ρ P) : DS X (.If c s1 s2 pos) ρ P := fun σ F G H D S ok =>
  ws_of (ps_if pt_w pss_w pss_w) (hc σ F G H _ S fun k F1 H1 hk x1 S1 => by
    cases k with
    | true => exact iteT (h1 hk σ F1 G H1 D S1 (ok.on x1))
    | false => exact iteF (h2 hk σ F1 G H1 D S1 (ok.on x1)))
theorem ds_expr (h : DE X e ρ τ) (k : P.nx ρ) (hs : swapsWith e none pos.line X.env = pure false := by rfl) : DS X (.Expr e pos) ρ P := fun σ F G H D S ok =>
  ws_of (ps_expr pe_w hs) (h σ F G H _ S fun v F1 H1 x1 S1 p1 => ok.nx ρ σ F1 H1 k x1 S1)
theorem db_never (h : False) : DB X sts ρ P := h.elim
/-- told less -/
theorem DB.weak {ρ' : List Sl} (h : DB X sts ρ' P) (k : ∀ σ F G H, Sat ρ σ F G H → Sat ρ' σ F G H) : DB X sts ρ P := fun σ F G H D S ok => h σ F G H D (k σ F G H S) ok
/-- a slot's own object becomes data -/
theorem DB.freeze {i : Nat} {p : Addr} {ω : OTy} (h : DB X sts (ρ.set i (.dat (Froz ω))) P) (e : ρ[i]? = some (.own p ω)) : DB X sts ρ P := fun σ F G H D S ok => by
  obtain ⟨_, _, _, o, ho, _⟩ := S.own i p ω e
  obtain ⟨S', x⟩ := S.freeze e ho
  exact h σ _ G H D S' (ok.on x)
theorem sat_tell {i : Nat} {σ : L2.St} {F G H : Hp} (S : Sat ρ σ F G H) (e : ρ[i]? = some (.dat τ)) (k : ∀ v F, τ.p v F → τ'.p v F) : Sat (ρ.set i (.dat τ')) σ F G H := by
  have hi : i < ρ.length := (List.getElem?_eq_some_iff.mp e).1
  refine S.weak (by simp) fun j s ej => ?_
  by_cases h : i = j
  · subst h
    rw [List.getElem?_set_self hi] at ej
    cases ej
    exact .inr (.inr ⟨τ, τ', rfl, e, k⟩)
  · rw [List.getElem?_set_ne h] at ej
    exact .inr (.inl ej)
theorem DB.tell {i : Nat} (h : DB X sts (ρ.set i (.dat τ')) P) (e : ρ[i]? = some (.dat τ)) (k : ∀ v F, τ.p v F → τ'.p v F) : DB X sts ρ P := h.weak fun σ F G H S => sat_tell S e k
theorem DB.freezeL {i : Nat} {p : Addr} (h : DB X sts (ρ.set i (.dat (LstOf τs))) P) (e : ρ[i]? = some (.own p (OL τs))) : DB X sts ρ P := by
  have hi : i < ρ.length := (List.getElem?_eq_some_iff.mp e).1
  refine DB.freeze (i := i) ?_ e
  refine DB.tell (i := i) (τ' := LstOf τs) ?_ (List.getElem?_set_self hi) fun _ _ => froz_ol
  rw [List.set_set]
  exact h
/-- one of several types: which -/
theorem DB.any {i : Nat} {α : Type} {f : α → Ty} (e : ρ[i]? = some (.dat (Some' f))) (h : ∀ a, DB X sts (ρ.set i (.dat (f a))) P) : DB X sts ρ P := fun σ F G H D S ok => by
  have hi : i < ρ.length := (List.getElem?_eq_some_iff.mp e).1
  obtain ⟨v, e1, a, e2⟩ := S.dat i _ e
  have S' := S.setD (i := i) (τ := f a) e2 hi
  have es : σ.set i (some v) = σ := by
    apply List.ext_getElem?
    intro j
    by_cases z : i = j
    · subst z
      rw [List.getElem?_set_self (by rw [S.len]; exact hi), e1]
    · rw [List.getElem?_set_ne z]
  rw [es] at S'
  exact h a σ F G H D S' ok
theorem DB.ex {i : Nat} {Pd : PyData → Prop} (e : ρ[i]? = some (.dat (Ex Pd))) (h : ∀ d, Pd d → DB X sts (ρ.set i (.dat (Is d))) P) : DB X sts ρ P := fun σ F G H D S ok => by
  have hi : i < ρ.length := (List.getElem?_eq_some_iff.mp e).1
  obtain ⟨v, e1, d, hd, e2⟩ := S.dat i _ e
  have S' := S.setD (i := i) (τ := Is d) e2 hi
  have es : σ.set i (some v) = σ := by
    apply List.ext_getElem?
    intro j
    by_cases z : i = j
    · subst z
      rw [List.getElem?_set_self (by rw [S.len]; exact hi), e1]
    · rw [List.getElem?_set_ne z]
  rw [es] at S'
  exact h d hd σ F G H D S' ok

/-! ### targets -/
theorem dg_name {i : Nat} {x : Str} {Nx : List Sl → Prop} (g : Good W n df X N sc) (hx : sc.names.lookup x = some .local ∨ (sc.names.lookup x = some .cell ∧ df = true)) (hN : N[i]? = some x) (hi : i < ρ.length) (k : Nx (ρ.set i (.dat τ))) : DG X (.Name x pos) τ ρ Nx := fun v σ F G H Q S p q =>
  wg_of (pg_name (i := i) (by rw [g.eN]; exact g.nd) (by rw [g.eN]; exact hN) (by unfold L2.Loc; rw [g.es]; exact hx.imp id And.left) (by rw [g.es]; exact hx.elim .inr fun z => .inl (g.fn z.2 x)))
    (q _ _ F H k (Ext.refl F G) (S.setD p hi))
theorem dgs_nil {Nx : List Sl → Prop} (k : Nx ρ) : DGs X [] [] ρ Nx := fun vs σ F G H Q S p q => wgs_of pgs_nil ⟨by cases p; rfl, q ρ σ F H k (Ext.refl F G) S⟩
theorem dgs_cons {t : Expr} {ts : List Expr} {Nx : List Sl → Prop} (h : DG X t τ ρ fun ρ' => DGs X ts τs ρ' Nx) (hs : (assignEach (t :: ts) X.env).map (·.2) = assign t X.env :: (assignEach ts X.env).map (·.2) := by rfl) : DGs X (t :: ts) (τ :: τs) ρ Nx := fun vs σ F G H Q S p q => by
  cases p with
  | @cons _ v _ vs p1 p2 =>
    exact wgs_of (pgs_cons pg_w pgs_w hs) ⟨v, vs, rfl, h v σ F G H _ S p1 fun ρ' σ' F' H' z x S' => z vs σ' F' G H' Q S' (All2.up x.up p2) fun ρ2 σ2 F2 H2 y x2 S2 => q ρ2 σ2 F2 H2 y (x.trans x2) S2⟩
theorem dg_tup {ts : List Expr} {k : Nat} {Nx : List Sl → Prop} (g : Good W n df X N sc) (h : DGs X ts τs ρ Nx) (hn : (assignEach ts X.env).length = τs.length := by rfl) (hst : (assignEach ts X.env).findIdx? (·.1) = none := by rfl) : DG X (.Tuple ts k pos) (TupOf τs) ρ Nx := fun v σ F G H Q S p q => by
  obtain ⟨a, vs, rfl, hr, p2⟩ := p
  exact wg_of (pg_tup g.calm pgs_w hn hst) ⟨a, vs, rfl, .inl (S.fh _ _ True.intro hr), p2.length.symm, h vs σ F G H Q S p2 q⟩
theorem DG.tupI {ds : List PyData} {t : Expr} {Nx : List Sl → Prop} (h : DG X t (TupOf (ds.map Is)) ρ Nx) : DG X t (Is (.tuple ds)) ρ Nx := fun v σ F G H Q S p q => h v σ F G H Q S (tup_is.mpr p) q
theorem DG.ex {t : Expr} {Pd : PyData → Prop} {Nx : List Sl → Prop} (h : ∀ d, Pd d → DG X t (Is d) ρ Nx) : DG X t (Ex Pd) ρ Nx := fun v σ F G H Q S ⟨d, hd, p⟩ q => h d hd v σ F G H Q S p q
theorem DG.any {α : Type} {f : α → Ty} {t : Expr} {Nx : List Sl → Prop} (h : ∀ a, DG X t (f a) ρ Nx) : DG X t (Some' f) ρ Nx := fun v σ F G H Q S ⟨a, p⟩ q => h a v σ F G H Q S p q
theorem ds_asg {t : Expr} (he : DE X e ρ τ) (hg : DG X t τ ρ P.nx) (hs : swapsWithSole [t] e pos.line X.env = pure false := by rfl) (hw : swappedStores [t] e X.env = pure none := by rfl)
    (h1 : (assignEach [t] X.env).map (·.2) = [assign t X.env] := by rfl) : DS X (.Assign [t] e pos) ρ P := fun σ F G H D S ok =>
  ws_of (ps_asg pe_w pg_w hs hw h1) (he σ F G H _ S fun v F1 H1 x1 S1 p1 => hg v σ F1 G H1 _ S1 p1 fun ρ' σ' F' H' z x S' => ok.nx ρ' σ' F' H' z (x1.trans x) S')
theorem ds_set {i : Nat} {x : Str} {pos' : Pos} (g : Good W n df X N sc) (he : DE X e ρ τ) (k : P.nx (ρ.set i (.dat τ))) (hN : N[i]? = some x := by rfl) (hi : i < ρ.length := by first | decide | assumption | exact lt_of_get rfl)
    (hx : sc.names.lookup x = some .local ∨ (sc.names.lookup x = some .cell ∧ df = true) := by first | exact Or.inl rfl | exact Or.inr ⟨rfl, rfl⟩) (hs : swapsWith e (some (.Name x pos')) pos.line X.env = pure false := by rfl) : DS X (.Assign [.Name x pos'] e pos) ρ P := fun σ F G H D S ok =>
  ws_of (L2.ps_set (i := i) (by rw [g.eN]; exact g.nd) (by rw [g.eN]; exact hN) (by unfold L2.Loc; rw [g.es]; exact hx.imp id And.left) pe_w hs (by rw [g.es]; exact hx.elim .inr fun z => .inl (g.fn z.2 x)))
    (he σ F G H _ S fun v F1 H1 x1 S1 p1 => ok.nx _ _ F1 H1 k x1 (S1.setD p1 hi))
/-- a slot takes a new own list (dict) -/
theorem ds_setF {i : Nat} {x : Str} {pos' : Pos} {ω : OTy} (g : Good W n df X N sc) (he : DF X e ρ ω) (k : ∀ p, P.nx (ρ.set i (.own p ω))) (hN : N[i]? = some x := by rfl) (hi : i < ρ.length := by first | decide | assumption | exact lt_of_get rfl)
    (hx : sc.names.lookup x = some .local ∨ (sc.names.lookup x = some .cell ∧ df = true) := by first | exact Or.inl rfl | exact Or.inr ⟨rfl, rfl⟩) (hs : swapsWith e (some (.Name x pos')) pos.line X.env = pure false := by rfl) : DS X (.Assign [.Name x pos'] e pos) ρ P := fun σ F G H D S ok =>
  ws_of (L2.ps_set (i := i) (by rw [g.eN]; exact g.nd) (by rw [g.eN]; exact hN) (by unfold L2.Loc; rw [g.es]; exact hx.imp id And.left) pe_w hs (by rw [g.es]; exact hx.elim .inr fun z => .inl (g.fn z.2 x)))
    (he σ F G H _ S fun a o F1 H1 x1 S1 hF hG hn hH pl hω => ok.nx _ _ F1 H1 (k a) x1 (S1.setO hi hF hG hH pl hω fun j ω' e => absurd rfl (hn j a ω' e)))
end
end K35
set_option Elab.async false
set_option linter.all false
set_option maxRecDepth 100000
set_option maxHeartbeats 1000000
/-! the data layer: calls, loops, comprehensions -/
namespace K35
open PySem PySem.Spec L2

/-! ### promises -/
def Any : Ty := ⟨fun _ _ => True, fun _ _ _ _ h => h⟩
/-- of a def that changes nothing: S tells the arguments' types and the answer's -/
def spP (S : List Ty → Ty → Prop) : Sp := fun vs H Q _ => ∃ τs τ F, S τs τ ∧ Up F H ∧ (∀ b, H b = none → F b = none) ∧ All2 τs vs F ∧
  ∀ v F' H', Ext F H F' → Same H H' → Up F' H' → (∀ b, H' b = none → F' b = none) → τ.p v F' → Q v H'
/-- of a def that changes the own object in its j-th argument alone -/
def spO (j : Nat) (S : OTy → List Ty → OTy → Ty → Prop) : Sp := fun vs H Q _ => ∃ a o ω τs ω' τ F, S ω τs ω' τ ∧ Up F H ∧ (∀ b, H b = none → F b = none) ∧ vs[j]? = some (.ref a) ∧ All2 τs vs F ∧ F a = none ∧ H a = some o ∧ Mb o ∧ ω.p o F ∧
  ∀ v F' H' o', Ext F H F' → (∀ b z, b ≠ a → H b = some z → H' b = some z) → Up F' H' → (∀ b, H' b = none → F' b = none) → H' a = some o' → Mb o' → ω'.p o' F' → τ.p v F' → Q v H'

section
variable {W : Wd} {n k : Nat} {df : Bool} {X : Cx} {N ps : List Str} {sc : Scope} {e a b : Expr} {es : List Expr} {st : Stmt} {sts : List Stmt} {ρ : List Sl} {P : Post} {τ τ' τ1 τ2 : Ty} {τs : List Ty} {β : Bool → Prop} {pos p : Pos} {x : Str}
theorem Good.gl (g : Good W n df X N sc) (hg : sc.names.lookup x = some .globalImplicit) : Gl X x := by unfold Gl Env.kindOf; rw [g.es]; exact hg
theorem de_call {S : List Ty → Ty → Prop} (g : Good W n df X N sc) (C : Cal W x k ps (spP S)) (ha : DEs X (e :: es) ρ τs) (hS : S τs τ) (hk : k ≤ n := by first | decide | omega) (hg : sc.names.lookup x = some .globalImplicit := by rfl) (hdb : (x == ("__debug__" : Str)) = false := by decide)
    (he : starEach (e :: es) X.env = (false, eval e X.env) :: starEach es X.env := by rfl) (hpl : (backTo pos (starEach es X.env)).any (·.1) = false := by rfl) : DE X (.Call (.Name x p) (e :: es) [] pos) ρ τ := fun σ F G H Q St q => by
  obtain ⟨f, fd, F0, hm, kp, hb⟩ := C.ex
  have F1 : FnOk X.prog X.w X.K X.mg X.base CX0 k f fd ps (spP S) := by rw [g.eP, g.ew, g.eK, g.em, g.eb]; exact F0
  refine we_of (pe_call F1 (g.room.mono hk) (g.gl hg) (by rw [g.em]; exact hm) (by rw [g.eK]; exact kp) (by rw [g.eK]; exact hb) .nil (pass0 (X := X)) pa_w hdb he hpl) (ha σ F G H _ St fun vs F1 H1 x1 S1 p1 => ?_)
  show spP S (vs ++ []) H1 Q E0
  rw [List.append_nil]
  refine ⟨τs, τ, F1, hS, S1.fh, S1.fs, p1, fun v F' H' x' same up' fs' pv => q v F' H' (x1.trans ⟨x'.up, fun c gc fc => x'.own c (fun z => ?_) fc⟩) (S1.mono up' fs' (S1.gh.trans same) x'.up fun i c ω o ei eo => ⟨x'.ownN up' (by rw [eo]; exact fun z => nomatch z) (S1.own i c ω ei).2.1 (same c o eo) (by obtain ⟨_, _, _, o2, y4, y5, _⟩ := S1.own i c ω ei; rw [eo] at y4; cases y4; exact y5), same c o eo⟩) pv⟩
  cases y : G c with
  | none => exact gc y
  | some u => rw [S1.gh c u y] at z; cases z
/-- .. of a def that changes the own object in the slot i -/
theorem de_callO {S : OTy → List Ty → OTy → Ty → Prop} {j i : Nat} {o1 : Addr} {ω : OTy} (g : Good W n df X N sc) (C : Cal W x k ps (spO j S)) (ha : DEs X (e :: es) ρ τs) (hj : τs[j]? = some (At o1)) (hi : ρ[i]? = some (.own o1 ω)) (hS : S ω τs ω τ) (hk : k ≤ n := by first | decide | omega) (hg : sc.names.lookup x = some .globalImplicit := by rfl) (hdb : (x == ("__debug__" : Str)) = false := by decide)
    (he : starEach (e :: es) X.env = (false, eval e X.env) :: starEach es X.env := by rfl) (hpl : (backTo pos (starEach es X.env)).any (·.1) = false := by rfl) : DE X (.Call (.Name x p) (e :: es) [] pos) ρ τ := fun σ F G H Q St q => by
  obtain ⟨f, fd, F0, hm, kp, hb⟩ := C.ex
  have F1 : FnOk X.prog X.w X.K X.mg X.base CX0 k f fd ps (spO j S) := by rw [g.eP, g.ew, g.eK, g.em, g.eb]; exact F0
  refine we_of (pe_call F1 (g.room.mono hk) (g.gl hg) (by rw [g.em]; exact hm) (by rw [g.eK]; exact kp) (by rw [g.eK]; exact hb) .nil (pass0 (X := X)) pa_w hdb he hpl) (ha σ F G H _ St fun vs F1 H1 x1 S1 p1 => ?_)
  show spO j S (vs ++ []) H1 Q E0
  rw [List.append_nil]
  obtain ⟨v0, hv0, ev0⟩ := p1.get hj
  have ev0 : v0 = .ref o1 := ev0
  subst ev0
  obtain ⟨e1, e2, e3, o, e4, pl, e5⟩ := S1.own i o1 ω hi
  refine ⟨o1, o, ω, τs, ω, τ, F1, hS, S1.fh, S1.fs, hv0, p1, e2, e4, pl, e5, fun v F' H' o' x' keep up' fs' ho' pl' hω' pv => q v F' H' (x1.trans ⟨x'.up, fun c gc fc => x'.own c (fun z => ?_) fc⟩) ?_ pv⟩
  · cases y : G c with
    | none => exact gc y
    | some u => rw [S1.gh c u y] at z; cases z
  · have F'n : F' o1 = none := x'.ownN up' (by rw [e4]; exact fun z => nomatch z) e2 ho' pl'
    refine ⟨S1.len, up', fs', fun c u ec => keep c u (fun z => by subst z; rw [ec] at e3; cases e3) (S1.gh c u ec), fun l τ0 el => ?_, fun l c ω0 el => ?_, S1.sep⟩
    · obtain ⟨v1, y1, y2⟩ := S1.dat l τ0 el
      exact ⟨v1, y1, τ0.up _ _ _ x'.up y2⟩
    · by_cases z : c = o1
      · subst z
        have il := S1.sep i l c ω ω0 hi el
        subst il
        rw [hi] at el; cases el
        exact ⟨e1, F'n, e3, o', ho', pl', hω'⟩
      · obtain ⟨y1, y2, y3, u, y4, y5, y6⟩ := S1.own l c ω0 el
        exact ⟨y1, x'.ownN up' (by rw [y4]; exact fun z => nomatch z) y2 (keep c u z y4) y5, y3, u, keep c u z y4, y5, ω0.up _ _ _ x'.up y6⟩
/-- a statement that calls such a def, which turns the own object into another -/
theorem ds_callO {S : OTy → List Ty → OTy → Ty → Prop} {j i : Nat} {o1 : Addr} {ω ω' : OTy} {pos2 : Pos} (g : Good W n df X N sc) (C : Cal W x k ps (spO j S)) (ha : DEs X (e :: es) ρ τs) (hj : τs[j]? = some (At o1)) (hi : ρ[i]? = some (.own o1 ω)) (hS : S ω τs ω' τ) (kx : P.nx (ρ.set i (.own o1 ω'))) (hk : k ≤ n := by first | decide | omega) (hg : sc.names.lookup x = some .globalImplicit := by rfl) (hdb : (x == ("__debug__" : Str)) = false := by decide)
    (he : starEach (e :: es) X.env = (false, eval e X.env) :: starEach es X.env := by rfl) (hpl : (backTo pos (starEach es X.env)).any (·.1) = false := by rfl) : DS X (.Expr (.Call (.Name x p) (e :: es) [] pos) pos2) ρ P := fun σ F G H D St ok => by
  obtain ⟨f, fd, F0, hm, kp, hb⟩ := C.ex
  have F1 : FnOk X.prog X.w X.K X.mg X.base CX0 k f fd ps (spO j S) := by rw [g.eP, g.ew, g.eK, g.em, g.eb]; exact F0
  refine ws_of (ps_expr (pe_call F1 (g.room.mono hk) (g.gl hg) (by rw [g.em]; exact hm) (by rw [g.eK]; exact kp) (by rw [g.eK]; exact hb) .nil (pass0 (X := X)) pa_w hdb he hpl) rfl) (ha σ F G H _ St fun vs F1 H1 x1 S1 p1 => ?_)
  show spO j S (vs ++ []) H1 _ E0
  rw [List.append_nil]
  obtain ⟨v0, hv0, ev0⟩ := p1.get hj
  have ev0 : v0 = .ref o1 := ev0
  subst ev0
  obtain ⟨e1, e2, e3, o, e4, pl, e5⟩ := S1.own i o1 ω hi
  have hil : i < ρ.length := (List.getElem?_eq_some_iff.mp hi).1
  refine ⟨o1, o, ω, τs, ω', τ, F1, hS, S1.fh, S1.fs, hv0, p1, e2, e4, pl, e5, fun v F' H' o' x' keep up' fs' ho' pl' hω' pv => ok.nx _ σ F' H' kx (x1.trans ⟨x'.up, fun c gc fc => x'.own c (fun z => ?_) fc⟩) ?_⟩
  · cases y : G c with
    | none => exact gc y
    | some u => rw [S1.gh c u y] at z; cases z
  · have F'n : F' o1 = none := x'.ownN up' (by rw [e4]; exact fun z => nomatch z) e2 ho' pl'
    refine ⟨by simp [S1.len], up', fs', fun c u ec => keep c u (fun z => by subst z; rw [ec] at e3; cases e3) (S1.gh c u ec), fun l τ0 el => ?_, fun l c ω0 el => ?_, fun l m c ω1 ω2 el em => ?_⟩
    · by_cases z : i = l
      · subst z; rw [List.getElem?_set_self hil] at el; cases el
      · rw [List.getElem?_set_ne z] at el
        obtain ⟨v1, y1, y2⟩ := S1.dat l τ0 el
        exact ⟨v1, y1, τ0.up _ _ _ x'.up y2⟩
    · by_cases z : i = l
      · subst z; rw [List.getElem?_set_self hil] at el; cases el
        exact ⟨e1, F'n, e3, o', ho', pl', hω'⟩
      · rw [List.getElem?_set_ne z] at el
        obtain ⟨y1, y2, y3, u, y4, y5, y6⟩ := S1.own l c ω0 el
        have ne : c ≠ o1 := fun q => by subst q; exact z (S1.sep i l c ω ω0 hi el)
        exact ⟨y1, x'.ownN up' (by rw [y4]; exact fun z => nomatch z) y2 (keep c u ne y4) y5, y3, u, keep c u ne y4, y5, ω0.up _ _ _ x'.up y6⟩
    · have back : ∀ {l : Nat} {ω3 : OTy}, (ρ.set i (.own o1 ω'))[l]? = some (.own c ω3) → ∃ ω4, ρ[l]? = some (.own c ω4) := fun {l ω3} el => by
        by_cases h : i = l
        · subst h; rw [List.getElem?_set_self hil] at el; cases el; exact ⟨ω, hi⟩
        · rw [List.getElem?_set_ne h] at el; exact ⟨ω3, el⟩
      obtain ⟨q1, r1⟩ := back el
      obtain ⟨q2, r2⟩ := back em
      exact S1.sep l m c q1 q2 r1 r2
/-! ### a def by its body -/
def slots (N : List Str) (τs : List Ty) : List Sl := τs.map .dat ++ List.replicate (N.length - τs.length) .un
theorem slots_get {N : List Str} {τs : List Ty} {i : Nat} {s : Sl} (h : (slots N τs)[i]? = some s) : s = .un ∨ ∃ τ, τs[i]? = some τ ∧ s = .dat τ := by
  unfold slots at h
  rcases List.getElem?_append.symm ▸ h with h
  by_cases hi : i < (τs.map Sl.dat).length
  · rw [if_pos hi, List.getElem?_map] at h
    cases q : τs[i]? with
    | none => rw [q] at h; cases h
    | some τ => rw [q] at h; exact .inr ⟨τ, rfl, (Option.some.inj h).symm⟩
  · rw [if_neg hi] at h
    exact .inl (List.eq_of_mem_replicate (List.mem_of_getElem? h))
theorem sat_start {vs : List V} {F H : Hp} (hz : τs.length ≤ N.length) (up : Up F H) (fs : ∀ b, H b = none → F b = none) (h : All2 τs vs F) : Sat (slots N τs) (L2.start N vs) F H H := by
  have hl := h.length
  refine ⟨?_, up, fs, Same.refl H, fun i τ e => ?_, fun i a ω e => ?_, fun i j a ω ω' e _ => ?_⟩
  · unfold slots L2.start
    simp only [List.length_append, List.length_map, List.length_replicate]
    omega
  · rcases slots_get e with z | ⟨τ0, e0, z⟩
    · cases z
    · cases z
      obtain ⟨v, ev, pv⟩ := h.get e0
      refine ⟨v, ?_, pv⟩
      unfold L2.start
      have hi : i < (vs.map some).length := by rw [List.length_map]; exact (List.getElem?_eq_some_iff.mp ev).1
      rw [List.getElem?_append_left hi, List.getElem?_map, ev]
      rfl
  · rcases slots_get e with z | ⟨τ0, e0, z⟩ <;> cases z
  · rcases slots_get e with z | ⟨τ0, e0, z⟩ <;> cases z
theorem good_start {qual : Str} {f : Addr} {cd : Value} {A : Around} {outer : List Env} {s : Shared} {H : Hp} {E : XK} (S : FnScope N ps sc) (hr : Room k (A.deeper (PyProof.Rows.envOfC qual sc s.heap.objs.size f cd))) :
    Good W k true (cxOf CX0 W.P W.w W.K W.mg W.base N qual sc f cd A outer s H E).nox N sc :=
  ⟨rfl, rfl, rfl, rfl, rfl, rfl, S.nd, rfl, S.kind, rfl, rfl, hr, fun _ _ => rfl⟩
theorem fn_ok {Sg : List Ty → Ty → Prop} {name qual : Str} {params : Arguments} {body : List Stmt} {f : Addr} {fd : FuncData} (F : FunD W.K name qual params body sc [] [] f fd) (S : FnScope N ps sc) (hz : ps.length ≤ N.length) (len : ∀ τs τ, Sg τs τ → τs.length = ps.length)
    (h : ∀ X, Good W k true X N sc → ∀ τs τ, Sg τs τ → DB X body (slots N τs) { nx := fun _ => ∀ F, τ.p .non F, rt := fun _ v F => τ.p v F }) : FnOk W.P W.w W.K W.mg W.base CX0 (k + 1) f fd ps (spP Sg) := by
  refine FunD.ok F S (fun vs H Q E h => ?_) fun cdv A outer s H vs Q E hr hsp => ?_
  · obtain ⟨τs, τ, F, hS, _, _, p, _⟩ := h
    rw [← p.length]; exact len τs τ hS
  · obtain ⟨τs, τ, F1, hS, up, fs, p, q⟩ := hsp
    have hl := len τs τ hS
    refine ⟨_, PSs.nox pss_w, h _ (good_start S hr) τs τ hS _ F1 H H _ (sat_start (by rw [hl]; exact hz) up fs p) ⟨fun ρ' σ' F' H' z x S' => ?_, fun ρ' σ' v F' H' z x S' => ?_, fun _ _ _ _ z => z.elim, fun _ _ _ _ z => z.elim⟩⟩
    · exact q .non F' H' x S'.gh S'.fh S'.fs (z F')
    · exact q v F' H' x S'.gh S'.fh S'.fs z
/-- .. that changes its j-th argument's object -/
theorem fn_okO {j : Nat} {Sg : OTy → List Ty → OTy → Ty → Prop} {name qual : Str} {params : Arguments} {body : List Stmt} {f : Addr} {fd : FuncData} (F : FunD W.K name qual params body sc [] [] f fd) (S : FnScope N ps sc) (hz : ps.length ≤ N.length) (len : ∀ ω τs ω' τ, Sg ω τs ω' τ → τs.length = ps.length)
    (h : ∀ X, Good W k true X N sc → ∀ a ω τs ω' τ, Sg ω τs ω' τ → DB X body ((slots N τs).set j (.own a ω)) { nx := fun ρ' => (∀ F, τ.p .non F) ∧ ρ'[j]? = some (.own a ω'), rt := fun ρ' v F => τ.p v F ∧ ρ'[j]? = some (.own a ω') }) : FnOk W.P W.w W.K W.mg W.base CX0 (k + 1) f fd ps (spO j Sg) := by
  refine FunD.ok F S (fun vs H Q E h => ?_) fun cdv A outer s H vs Q E hr hsp => ?_
  · obtain ⟨a, o, ω, τs, ω', τ, F, hS, _, _, _, p, _⟩ := h
    rw [← p.length]; exact len ω τs ω' τ hS
  · obtain ⟨a, o, ω, τs, ω', τ, F1, hS, up, fs, hj, p, hFa, hHa, pl, hω, q⟩ := hsp
    have hl := len ω τs ω' τ hS
    have hzl : τs.length ≤ N.length := by rw [hl]; exact hz
    have S0 := sat_start hzl up fs p
    have hjl : j < τs.length := by rw [p.length]; exact (List.getElem?_eq_some_iff.mp hj).1
    have hjs : j < (slots N τs).length := by unfold slots; rw [List.length_append, List.length_map]; omega
    -- the frame without a
    have S1 : Sat ((slots N τs).set j (.own a ω)) (L2.start N vs) F1 (fun b => if b = a then none else H b) H := by
      have S2 : Sat (slots N τs) (L2.start N vs) F1 (fun b => if b = a then none else H b) H := ⟨S0.len, S0.fh, S0.fs, fun b z e => by
        by_cases hb : b = a
        · rw [if_pos hb] at e; cases e
        · rw [if_neg hb] at e; exact e, S0.dat, fun i c ω1 e => (by rcases slots_get e with z | ⟨_, _, z⟩ <;> cases z), S0.sep⟩
      have := S2.setO (i := j) (a := a) (ω := ω) hjs hFa (if_pos rfl) hHa pl hω fun i ω1 e => by rcases slots_get e with z | ⟨_, _, z⟩ <;> cases z
      have es : (L2.start N vs).set j (some (.ref a)) = start N vs := by
        apply List.ext_getElem?
        intro i
        by_cases z : j = i
        · subst z
          have hjv : j < (vs.map some).length := by rw [List.length_map]; exact (List.getElem?_eq_some_iff.mp hj).1
          rw [List.getElem?_set_self (by unfold L2.start; rw [List.length_append]; omega)]
          unfold L2.start
          rw [List.getElem?_append_left hjv, List.getElem?_map, hj]
          rfl
        · rw [List.getElem?_set_ne z]
      rw [es] at this
      exact this
    refine ⟨_, PSs.nox pss_w, h _ (good_start S hr) a ω τs ω' τ hS _ F1 _ H _ S1 ⟨fun ρ' σ' F' H' z x S' => ?_, fun ρ' σ' v F' H' z x S' => ?_, fun _ _ _ _ z => z.elim, fun _ _ _ _ z => z.elim⟩⟩
    · obtain ⟨z1, z2⟩ := z
      obtain ⟨y1, y2, y3, o', y4, y5, y6⟩ := S'.own j a ω' z2
      refine q .non F' H' o' ⟨x.up, fun b hb fb => ?_⟩ (fun b u hb e => S'.gh b u (by show (if b = a then none else H b) = some u; rw [if_neg hb]; exact e)) S'.fh S'.fs y4 y5 y6 (z1 F')
      by_cases hb' : b = a
      · subst hb'; exact .inl y2
      · exact x.own b (by show (if b = a then none else H b) ≠ none; rw [if_neg hb']; exact hb) fb
    · obtain ⟨z1, z2⟩ := z
      obtain ⟨y1, y2, y3, o', y4, y5, y6⟩ := S'.own j a ω' z2
      refine q v F' H' o' ⟨x.up, fun b hb fb => ?_⟩ (fun b u hb e => S'.gh b u (by show (if b = a then none else H b) = some u; rw [if_neg hb]; exact e)) S'.fh S'.fs y4 y5 y6 z1
      by_cases hb' : b = a
      · subst hb'; exact .inl y2
      · exact x.own b (by show (if b = a then none else H b) ≠ none; rw [if_neg hb']; exact hb) fb

/-! ### what is walked -/
def IterOk (J : It) (ys : List Ty) (F0 : Hp) : Prop := ∀ (i : Nat) ρ σ F G H, Up F0 F → Sat ρ σ F G H →
  (∀ y, ys[i]? = some y → J.go i H ∧ ∀ x H', J.yld i H x H' → ∃ F', Ext F G F' ∧ Sat ρ σ F' G H' ∧ y.p x F') ∧ (ys.length ≤ i → J.stop i H)
def DI (X : Cx) (tg e : Expr) (ρ : List Sl) (Y : List Ty → Prop) : Prop := ∀ σ F G H (R : It → Hp → Prop), Sat ρ σ F G H → (∀ J ys F' H', Y ys → Ext F G F' → Sat ρ σ F' G H' → IterOk J ys F' → R J H') → WI X tg e σ H R
variable {tg : Expr}
theorem di_list {ys : List Ty} (h : DE X e ρ (LstOf ys)) : DI X tg e ρ (fun z => z = ys) := fun σ F G H R S q =>
  wi_of (pi_list pe_w) (h σ F G H _ S fun v F1 H1 x1 S1 p1 => by
    obtain ⟨a, vs, rfl, hr, pv⟩ := p1
    refine ⟨a, rfl, ⟨vs, .inl (S1.fh _ _ True.intro hr)⟩, q _ ys F1 H1 rfl x1 S1 fun i ρ' σ' F' G' H' up S' => ⟨fun y ey => ?_, fun hi => ⟨vs, .inl (S'.fh _ _ True.intro (up _ _ True.intro hr)), by rw [← pv.length]; exact hi⟩⟩⟩
    obtain ⟨u, eu, pu⟩ := pv.get ey
    have hL : SqL X.K H' a vs := .inl (S'.fh _ _ True.intro (up _ _ True.intro hr))
    refine ⟨⟨vs, u, hL, eu⟩, fun x H'' hy => ?_⟩
    obtain ⟨rfl, hx⟩ := hy
    have := hx vs hL
    rw [eu] at this; cases this
    exact ⟨F', Ext.refl _ _, S', y.up _ _ _ up pu⟩)
theorem di_tup {ys : List Ty} (h : DE X e ρ (TupOf ys)) : DI X tg e ρ (fun z => z = ys) := fun σ F G H R S q =>
  wi_of (pi_tup pe_w) (h σ F G H _ S fun v F1 H1 x1 S1 p1 => by
    obtain ⟨a, vs, rfl, hr, pv⟩ := p1
    refine ⟨a, rfl, ⟨vs, .inl (S1.fh _ _ True.intro hr)⟩, q _ ys F1 H1 rfl x1 S1 fun i ρ' σ' F' G' H' up S' => ⟨fun y ey => ?_, fun hi => ⟨vs, .inl (S'.fh _ _ True.intro (up _ _ True.intro hr)), by rw [← pv.length]; exact hi⟩⟩⟩
    obtain ⟨u, eu, pu⟩ := pv.get ey
    have hL : SqT X.K H' a vs := .inl (S'.fh _ _ True.intro (up _ _ True.intro hr))
    refine ⟨⟨vs, u, hL, eu⟩, fun x H'' hy => ?_⟩
    obtain ⟨rfl, hx⟩ := hy
    have := hx vs hL
    rw [eu] at this; cases this
    exact ⟨F', Ext.refl _ _, S', y.up _ _ _ up pu⟩)
def intsT (m : Nat) : List Ty := (List.range m).map fun (k : Nat) => Is (.int (k : Int))
theorem di_rangeP {Pm : Nat → Prop} (g : Good W n df X N sc) (hr : W.mg "range" = none) (h : DE X a ρ (Ex fun d => ∃ m : Nat, d = .int m ∧ Pm m ∧ m < 1000000)) (hg : sc.names.lookup ("range" : Str) = some .globalImplicit := by rfl) (hs : starEach [a] X.env = [(false, eval a X.env)] := by rfl) :
    DI X tg (.Call (.Name "range" p) [a] [] pos) ρ (fun ys => ∃ m : Nat, ys = intsT m ∧ Pm m) := fun σ F G H R S q =>
  wi_of (pi_range1 (g.gl hg) (by rw [g.em]; exact hr) (pa_cons pe_w pa_nil (by rw [hs]; rfl)) hs) (h σ F G H _ S fun v F1 H1 x1 S1 p1 => by
    obtain ⟨d, ⟨m, rfl, hm, hlt⟩, hd⟩ := p1
    cases hd
    refine ⟨(m : Int), rfl, by omega, by omega, ?_⟩
    rw [Int.toNat_natCast]
    refine q _ (intsT m) F1 H1 ⟨m, rfl, hm⟩ x1 S1 fun i ρ' σ' F' G' H' up S' => ⟨fun y ey => ?_, fun hi => by
      show m ≤ i
      unfold intsT at hi
      rwa [List.length_map, List.length_range] at hi⟩
    have hi : i < m := by
      have := (List.getElem?_eq_some_iff.mp ey).1
      unfold intsT at this
      rwa [List.length_map, List.length_range] at this
    refine ⟨hi, fun x H'' hy => ?_⟩
    obtain ⟨rfl, rfl⟩ := hy
    refine ⟨F', Ext.refl _ _, S', ?_⟩
    unfold intsT at ey
    rw [List.getElem?_map, List.getElem?_range hi] at ey
    cases ey
    rw [Int.zero_add]
    exact Dp.int _)
theorem di_range {m : Nat} (g : Good W n df X N sc) (hr : W.mg "range" = none) (h : DE X a ρ (Is (.int (m : Int)))) (hm : m < 1000000 := by first | decide | omega) (hg : sc.names.lookup ("range" : Str) = some .globalImplicit := by rfl) (hs : starEach [a] X.env = [(false, eval a X.env)] := by rfl) :
    DI X tg (.Call (.Name "range" p) [a] [] pos) ρ (fun ys => ys = intsT m) := fun σ F G H R S q =>
  di_rangeP (Pm := fun z => z = m) g hr (h.ex ⟨m, rfl, rfl, hm⟩) hg hs σ F G H R S fun J ys F' H' hy x S' ok => by
    obtain ⟨m', rfl, rfl⟩ := hy
    exact q J _ F' H' rfl x S' ok
/-- a for -/
theorem ds_for {it : Expr} {body : List Stmt} {Y : List Ty → Prop} (g : Good W n df X N sc) (hi : DI X tg it ρ Y)
    (h : ∀ ys, Y ys → ∃ Pv : Nat → List Sl → Prop, Pv 0 ρ ∧ (∀ i y ρ', ys[i]? = some y → Pv i ρ' → DG X tg y ρ' fun ρ2 => DB X body ρ2 { nx := Pv (i + 1), rt := P.rt, bk := P.nx, ct := Pv (i + 1) }) ∧ ∀ ρ', Pv ys.length ρ' → P.nx ρ')
    (hs : ∀ x, foldedSetIterable it X.env x = pure x := by intro _; rfl) : DS X (.For tg it body [] pos) ρ P := fun σ F G H D S ok =>
  ws_of (ps_for (by rw [g.xe]; exact PySem.PassesOwn.never) g.calm pi_w pg_w pss_w hs) (hi σ F G H _ S fun J ys F1 H1 hy x1 S1 io => by
    obtain ⟨Pv, h0, hs, hd⟩ := h ys hy
    refine ⟨fun i m σ' H' => ∃ ρ' F', i + m = ys.length ∧ Pv i ρ' ∧ Ext F1 G F' ∧ Sat ρ' σ' F' G H', ⟨ys.length, ρ, F1, by omega, h0, Ext.refl _ _, S1⟩, fun i m σ' H' w => ?_⟩
    obtain ⟨ρ', F', em, hP, x', S'⟩ := w
    obtain ⟨go, stop⟩ := io i ρ' σ' F' G H' x'.up S'
    by_cases hlt : i < ys.length
    · obtain ⟨g1, yl⟩ := go ys[i] (List.getElem?_eq_getElem hlt)
      refine .inr ⟨g1, fun σ2 H2 => ∃ ρ2 F2, Pv (i + 1) ρ2 ∧ Ext F1 G F2 ∧ Sat ρ2 σ2 F2 G H2, fun σ2 H2 ⟨ρ2, F2, q1, q2, q3⟩ => ⟨m - 1, by omega, ρ2, F2, by omega, q1, q2, q3⟩, fun x H2 hx => ?_⟩
      obtain ⟨F2, x2, S2, px⟩ := yl x H2 hx
      refine hs i ys[i] ρ' (List.getElem?_eq_getElem hlt) hP x σ' F2 G H2 _ S2 px fun ρ3 σ3 F3 H3 hb x3 S3 => ?_
      have x13 := x'.trans (x2.trans x3)
      have ok3 := ok.on (x1.trans x13)
      exact hb σ3 F3 G H3 _ S3 ⟨fun ρ4 σ4 F4 H4 z x4 S4 => ⟨ρ4, F4, z, x13.trans x4, S4⟩, ok3.rt, ok3.nx, fun ρ4 σ4 F4 H4 z x4 S4 => ⟨ρ4, F4, z, x13.trans x4, S4⟩⟩
    · have e : i = ys.length := by omega
      subst e
      exact .inl ⟨stop (Nat.le_refl _), ok.nx ρ' σ' F' H' (hd ρ' hP) (x1.trans x') S'⟩)
/-- a while: a number that falls -/
theorem ds_while {c : Expr} {body : List Stmt} (g : Good W n df X N sc) (Pv : Nat → List Sl → Prop) {m0 : Nat} (h0 : Pv m0 ρ)
    (hs : ∀ m ρ', Pv m ρ' → ∃ β, DT X c ρ' β ∧ (β true → DB X body ρ' { nx := fun ρ2 => ∃ m', m' < m ∧ Pv m' ρ2, rt := P.rt, bk := P.nx, ct := fun ρ2 => ∃ m', m' < m ∧ Pv m' ρ2 }) ∧ (β false → P.nx ρ')) : DS X (.While c body [] pos) ρ P := fun σ F G H D S ok =>
  ws_of (ps_while (by rw [g.xe]; exact PySem.PassesOwn.never) pt_w pss_w) (by
    refine ⟨fun m σ' H' => ∃ ρ' F', Pv m ρ' ∧ Ext F G F' ∧ Sat ρ' σ' F' G H', ⟨m0, ρ, F, h0, Ext.refl _ _, S⟩, fun m σ' H' w => ?_⟩
    obtain ⟨ρ', F', hP, x', S'⟩ := w
    obtain ⟨β, ht, hb, hn⟩ := hs m ρ' hP
    refine ht σ' F' G H' _ S' fun b F2 H2 hb2 x2 S2 => ?_
    cases b with
    | true =>
      refine iteT ⟨fun σ2 H2 => ∃ ρ2 F2, (∃ m', m' < m ∧ Pv m' ρ2) ∧ Ext F G F2 ∧ Sat ρ2 σ2 F2 G H2, fun σ3 H3 ⟨ρ3, F3, ⟨m', q0, q1⟩, q2, q3⟩ => ⟨m', q0, ρ3, F3, q1, q2, q3⟩, ?_⟩
      have x12 := x'.trans x2
      have ok3 := ok.on x12
      exact hb hb2 σ' F2 G H2 _ S2 ⟨fun ρ4 σ4 F4 H4 z x4 S4 => ⟨ρ4, F4, z, x12.trans x4, S4⟩, ok3.rt, ok3.nx, fun ρ4 σ4 F4 H4 z x4 S4 => ⟨ρ4, F4, z, x12.trans x4, S4⟩⟩
    | false => exact iteF (ok.nx ρ' σ' F2 H2 (hn hb2) (x'.trans x2) S2))

/-! ### list comprehensions -/
def wipeL (ρ : List Sl) : List Nat → List Sl
  | [] => ρ
  | v :: vs => (wipeL ρ vs).set v .un
theorem wipeL_len (ρ : List Sl) : ∀ vs : List Nat, (wipeL ρ vs).length = ρ.length
  | [] => rfl
  | v :: vs => by unfold wipeL; rw [List.length_set, wipeL_len ρ vs]
theorem wipeL_get {ρ : List Sl} {i : Nat} {s : Sl} : ∀ {vs : List Nat}, (wipeL ρ vs)[i]? = some s → s = .un ∨ (i ∉ vs ∧ ρ[i]? = some s)
  | [], h => .inr ⟨by simp, h⟩
  | v :: vs, h => by
    unfold wipeL at h
    by_cases hv : v = i
    · subst hv
      by_cases hl : v < (wipeL ρ vs).length
      · rw [List.getElem?_set_self hl] at h; exact .inl (Option.some.inj h).symm
      · rw [List.getElem?_eq_none (by simpa using hl)] at h; cases h
    · rw [List.getElem?_set_ne hv] at h
      rcases wipeL_get h with z | ⟨z1, z2⟩
      · exact .inl z
      · exact .inr ⟨by simp only [List.mem_cons, not_or]; exact ⟨fun e => hv e.symm, z1⟩, z2⟩
theorem wipeL_out {ρ : List Sl} {i : Nat} : ∀ {vs : List Nat}, i ∉ vs → (wipeL ρ vs)[i]? = ρ[i]?
  | [], _ => rfl
  | v :: vs, h => by
    unfold wipeL
    simp only [List.mem_cons, not_or] at h
    rw [List.getElem?_set_ne (fun e => h.1 e.symm), wipeL_out h.2]
theorem wipe_at {σ : L2.St} {i : Nat} : ∀ {vs : List Nat}, i ∉ vs → (wipe σ vs)[i]? = σ[i]?
  | [], _ => rfl
  | v :: vs, h => by
    unfold wipe
    simp only [List.mem_cons, not_or] at h
    rw [List.getElem?_set_ne (fun e => h.1 e.symm), wipe_at h.2]
theorem wipe_in {σ : L2.St} {i : Nat} : ∀ {vs : List Nat}, i ∈ vs → i < σ.length → (wipe σ vs)[i]? = some none
  | [], h, _ => by simp at h
  | v :: vs, h, hl => by
    unfold wipe
    by_cases hv : v = i
    · subst hv
      rw [List.getElem?_set_self (by rw [wipe_length]; exact hl)]
    · rw [List.getElem?_set_ne hv]
      exact wipe_in ((List.mem_cons.mp h).resolve_left fun e => hv e.symm) hl
theorem wipe_eq {σ σ' : L2.St} {vs : List Nat} (hl : σ'.length = σ.length) (h : ∀ i, i ∉ vs → σ'[i]? = σ[i]?) : wipe σ' vs = wipe σ vs := by
  apply List.ext_getElem?
  intro i
  by_cases hi : i ∈ vs
  · by_cases hz : i < σ.length
    · rw [wipe_in hi hz, wipe_in hi (by rw [hl]; exact hz)]
    · rw [List.getElem?_eq_none (by rw [wipe_length]; omega), List.getElem?_eq_none (by rw [wipe_length]; omega)]
  · rw [wipe_at hi, wipe_at hi, h i hi]
theorem Sat.wipe {σ : L2.St} {F G H : Hp} (S : Sat ρ σ F G H) (vs : List Nat) : Sat (wipeL ρ vs) (L2.wipe σ vs) F G H := by
  refine ⟨by rw [wipe_length, wipeL_len]; exact S.len, S.fh, S.fs, S.gh, fun i τ e => ?_, fun i a ω e => ?_, fun i j a ω ω' e e' => ?_⟩
  · rcases wipeL_get e with z | ⟨z1, z2⟩
    · cases z
    · rw [wipe_at z1]; exact S.dat i τ z2
  · rcases wipeL_get e with z | ⟨z1, z2⟩
    · cases z
    · rw [wipe_at z1]; exact S.own i a ω z2
  · rcases wipeL_get e with z | ⟨z1, z2⟩
    · cases z
    · rcases wipeL_get e' with y | ⟨y1, y2⟩
      · cases y
      · exact S.sep i j a ω ω' z2 y2
/-- a comprehension's target: the slots vs alone are stored -/
def CG (X : Cx) (tg : Expr) (τ : Ty) (ρ : List Sl) (vs : List Nat) (Nx : List Sl → Prop) : Prop := ∀ v σ F G H (Q : L2.St → Hp → Prop), Sat ρ σ F G H → τ.p v F → (∀ ρ' σ' F' H', Nx ρ' → Ext F G F' → Sat ρ' σ' F' G H' → σ'.length = σ.length → (∀ i, i ∉ vs → σ'[i]? = σ[i]?) → Q σ' H') → WG X tg v σ H Q
def CGs (X : Cx) (ts : List Expr) (τs : List Ty) (ρ : List Sl) (vs : List Nat) (Nx : List Sl → Prop) : Prop := ∀ us σ F G H (Q : L2.St → Hp → Prop), Sat ρ σ F G H → All2 τs us F → (∀ ρ' σ' F' H', Nx ρ' → Ext F G F' → Sat ρ' σ' F' G H' → σ'.length = σ.length → (∀ i, i ∉ vs → σ'[i]? = σ[i]?) → Q σ' H') → WGs X ts us σ H Q
variable {vs : List Nat} {Nx : List Sl → Prop}
theorem cg_name {i : Nat} (g : Good W n df X N sc) (hm : i ∈ vs) (k : Nx (ρ.set i (.dat τ))) (hN : N[i]? = some x := by rfl) (hi : i < ρ.length := by first | decide | assumption | exact lt_of_get rfl) (hx : sc.names.lookup x = some .local := by rfl) : CG X (.Name x pos) τ ρ vs Nx := fun v σ F G H Q S p q =>
  wg_of (pg_name (i := i) (by rw [g.eN]; exact g.nd) (by rw [g.eN]; exact hN) (by unfold L2.Loc; rw [g.es]; exact .inl hx) (by rw [g.es]; exact .inr hx))
    (q _ _ F H k (Ext.refl F G) (S.setD p hi) (by simp) fun j hj => List.getElem?_set_ne fun z => hj (by rw [← z]; exact hm))
theorem cgs_nil (k : Nx ρ) : CGs X [] [] ρ vs Nx := fun us σ F G H Q S p q => wgs_of pgs_nil ⟨by cases p; rfl, q ρ σ F H k (Ext.refl F G) S rfl fun _ _ => rfl⟩
theorem cgs_cons {t : Expr} {ts : List Expr} (h : CG X t τ ρ vs fun ρ' => CGs X ts τs ρ' vs Nx) (hs : (assignEach (t :: ts) X.env).map (·.2) = assign t X.env :: (assignEach ts X.env).map (·.2) := by rfl) : CGs X (t :: ts) (τ :: τs) ρ vs Nx := fun us σ F G H Q S p q => by
  cases p with
  | @cons _ v _ us p1 p2 =>
    exact wgs_of (pgs_cons pg_w pgs_w hs) ⟨v, us, rfl, h v σ F G H _ S p1 fun ρ' σ' F' H' z x S' l1 k1 => z us σ' F' G H' Q S' (All2.up x.up p2) fun ρ2 σ2 F2 H2 y x2 S2 l2 k2 => q ρ2 σ2 F2 H2 y (x.trans x2) S2 (l2.trans l1) fun i hi => (k2 i hi).trans (k1 i hi)⟩
theorem cg_tup {ts : List Expr} {k : Nat} (g : Good W n df X N sc) (h : CGs X ts τs ρ vs Nx) (hn : (assignEach ts X.env).length = τs.length := by rfl) (hst : (assignEach ts X.env).findIdx? (·.1) = none := by rfl) : CG X (.Tuple ts k pos) (TupOf τs) ρ vs Nx := fun v σ F G H Q S p q => by
  obtain ⟨a, us, rfl, hr, p2⟩ := p
  exact wg_of (pg_tup g.calm pgs_w hn hst) ⟨a, us, rfl, .inl (S.fh _ _ True.intro hr), p2.length.symm, h us σ F G H Q S p2 q⟩
theorem CG.tupI {ds : List PyData} {t : Expr} (h : CG X t (TupOf (ds.map Is)) ρ vs Nx) : CG X t (Is (.tuple ds)) ρ vs Nx := fun v σ F G H Q S p q => h v σ F G H Q S (tup_is.mpr p) q
theorem dts_nil : DTs X [] ρ (fun c => c = true) := fun σ F G H Q S q => wts_of pts_nil (q true F H rfl (Ext.refl F G) S)
theorem dts_one (h : DT X e ρ β) : DTs X [e] ρ β := fun σ F G H Q S q => wts_of (pts_one pt_w) (h σ F G H Q S q)
theorem Good.blk {scope : Scope} (g : Good W n df X N sc) (hk : scope.kind = .function) (s : Shared) (H : Hp) (C : Addr) (cl : List (Str × Addr)) (fp : List Addr) : Good W n false (X.blk s H scope (compEnvC scope cl C X.env) fp) N (relS scope sc) :=
  ⟨g.eP, g.ew, g.eK, g.em, g.eb, g.eN, g.nd, by show relS scope X.env.scope = _; rw [g.es], hk, g.calm, rfl, g.room, fun z => nomatch z⟩
/-- outcomes so far: Acc by the turn -/
def OLx (Pt : List Ty → Prop) : OTy := ⟨fun o F => ∃ ts, Pt ts ∧ (OL ts).p o F, fun o F F' u ⟨ts, a, h⟩ => ⟨ts, a, (OL ts).up o F F' u h⟩⟩
theorem tlc_G {elt it : Expr} {ifs : List Expr} {scope : Scope} {own : List (Str × Nat)} {Y : List Ty → Prop} {Pt : List Ty → Prop} (g : Good W n df X N sc) (hb : blkC N sc scope own = true) (hi : DI X tg it ρ Y) (hno : ∀ i ∈ own.map (·.2), ∀ (a : Addr) (ω : OTy), ρ[i]? ≠ some (.own a ω))
    (h : ∀ ys, Y ys → ys.length ≤ 100000 ∧ ∃ Acc : Nat → List Ty → Prop, Acc 0 [] ∧ (∀ i ts, Acc i ts → ts.length ≤ i) ∧
      (∀ (i : Nat) (y : Ty) (ts : List Ty), ys[i]? = some y → Acc i ts → ∃ ρ2, (∀ j, j ∉ own.map (·.2) → ρ2[j]? = ρ[j]?) ∧ (∀ X', Good W n false X' N (relS scope sc) → CG X' tg y (wipeL ρ (own.map (·.2))) (own.map (·.2)) fun r => r = ρ2) ∧
        ∃ β, (∀ X', Good W n false X' N (relS scope sc) → DTs X' ifs ρ2 β) ∧ (β true → ∃ τ, (∀ X', Good W n false X' N (relS scope sc) → DE X' elt ρ2 τ) ∧ Acc (i + 1) (ts ++ [τ])) ∧ (β false → Acc (i + 1) ts)) ∧
      ∀ ts, Acc ys.length ts → Pt ts) (σ : L2.St) (F G H : Hp) (Q : VK) (S : Sat ρ σ F G H)
    (q : ∀ a o F' H', Ext F G F' → Sat ρ σ F' G H' → F' a = none → G a = none → (∀ (i : Nat) (b : Addr) (ω' : OTy), ρ[i]? = some (.own b ω') → b ≠ a) → H' a = some o → Mb o → (OLx Pt).p o F' → Q (.ref a) H') :
    tLc (WI X tg it) (fun v σ' H' Q' => ∀ X', Good W n false X' N (relS scope sc) → WG X' tg v σ' H' Q') (fun σ' H' Q' => ∀ X', Good W n false X' N (relS scope sc) → WTs X' ifs σ' H' Q') (fun σ' H' Q' => ∀ X', Good W n false X' N (relS scope sc) → WE X' elt σ' H' Q') (own.map (·.2)) σ H Q := by
  refine hi σ F G H _ S fun J ys F1 H1 hy x1 S1 io D hD => ?_
  obtain ⟨hlen, Acc, a0, al, turn, fin⟩ := h ys hy
  have hF1 := S1.fs D hD
  have hG : G D = none := by
    cases z : G D with
    | none => rfl
    | some y => have := S1.gh D y z; rw [hD] at this; cases this
  have nOwn : ∀ (i : Nat) (b : Addr) (ω' : OTy), ρ[i]? = some (.own b ω') → b ≠ D := fun i b ω' e => by
    obtain ⟨_, _, _, o, z, _⟩ := S1.own i b ω' e
    exact ne_of_none z hD
  -- the state at a turn
  refine ⟨fun i m H' => ∃ ts acc F', i + m = ys.length ∧ Acc i ts ∧ Ext F1 G F' ∧ Sat ρ σ F' G H' ∧ F' D = none ∧ H' D = some (.lst acc) ∧ All2 ts acc F', ⟨ys.length, [], [], F1, by omega, a0, Ext.refl _ _, ?_, hF1, upd_same, .nil⟩, fun i m H' w => ?_⟩
  · refine S1.mono (S1.fh.trans (up_upd hD)) (fun c hc => ?_) (fun c y e => same_new hD c y (S1.gh c y e)) (Up.refl _) fun i b ω' o e ho => ?_
    · by_cases z : c = D
      · subst z; exact hF1
      · rw [upd_ne z] at hc; exact S1.fs c hc
    · obtain ⟨_, z2, _⟩ := S1.own i b ω' e
      exact ⟨z2, by rw [upd_ne (ne_of_none ho hD)]; exact ho⟩
  · obtain ⟨ts, acc, F', em, hA, x', S', hF', hH', hts⟩ := w
    have tl := al i ts hA
    -- the frame with the list in it
    have SG : ∀ {ρ' : List Sl} {σ' : L2.St} {F2 H2 : Hp}, Sat ρ' σ' F2 G H2 → F2 D = none → H2 D = some (.lst acc) → (∀ (i : Nat) (b : Addr) (ω' : OTy), ρ'[i]? = some (.own b ω') → b ≠ D) → Sat ρ' σ' F2 (upd G D (.lst acc)) H2 := fun {ρ' σ' F2 H2} s2 f2 h2 no => ⟨s2.len, s2.fh, s2.fs, fun c z e => by
        by_cases hc : c = D
        · subst hc; rw [upd_same] at e; cases e; exact h2
        · rw [upd_ne hc] at e; exact s2.gh c z e, s2.dat, fun j b ω' e => by
        obtain ⟨y1, y2, y3, y4⟩ := s2.own j b ω' e
        exact ⟨y1, y2, by rw [upd_ne (no j b ω' e)]; exact y3, y4⟩, s2.sep⟩
    have noW : ∀ (i : Nat) (b : Addr) (ω' : OTy), (wipeL ρ (own.map (·.2)))[i]? = some (.own b ω') → b ≠ D := fun i b ω' e => by
      rcases wipeL_get e with z | ⟨_, z⟩
      · cases z
      · exact nOwn i b ω' z
    obtain ⟨go, stop⟩ := io i ρ σ F' G H' x'.up S'
    by_cases hlt : i < ys.length
    · obtain ⟨g1, yl⟩ := io i (wipeL ρ (own.map (·.2))) (L2.wipe σ (own.map (·.2))) F' (upd G D (.lst acc)) H' x'.up (SG (S'.wipe _) hF' hH' noW) |>.1 ys[i] (List.getElem?_eq_getElem hlt)
      -- what a turn is to reach
      refine .inr ⟨g1, fun H2 => ∃ ts2 acc2 F2, Acc (i + 1) ts2 ∧ Ext F1 G F2 ∧ Sat ρ σ F2 G H2 ∧ F2 D = none ∧ H2 D = some (.lst acc2) ∧ All2 ts2 acc2 F2, fun H2 ⟨ts2, acc2, F2, q1, q2, q3, q4, q5, q6⟩ => ⟨m - 1, by omega, ts2, acc2, F2, by omega, q1, q2, q3, q4, q5, q6⟩, fun v H2 hv => ?_⟩
      obtain ⟨F2, x2, S2, pv⟩ := yl v H2 hv
      obtain ⟨ρ2, hout, hcg, β, hdt, ht, hf⟩ := turn i ys[i] ts (List.getElem?_eq_getElem hlt) hA
      intro X' gX'
      refine hcg X' gX' v _ F2 _ H2 _ S2 pv fun r σ3 F3 H3 er x3 S3 l3 k3 => ?_
      subst er
      have ew : L2.wipe σ3 (own.map (·.2)) = L2.wipe σ (own.map (·.2)) := wipe_eq (by rw [l3, wipe_length]) fun j hj => by rw [k3 j hj, wipe_at hj]
      refine ⟨by first | exact ew | exact ew.trans (wipe_eq (by rw [wipe_length]) fun j hj => wipe_at hj).symm, fun X2 gX2 => hdt X2 gX2 σ3 F3 _ H3 _ S3 fun b F4 H4 hb4 x4 S4 => ?_⟩
      have back : ∀ {F5 H5 : Hp}, Ext F' (upd G D (.lst acc)) F5 → Sat r σ3 F5 (upd G D (.lst acc)) H5 → Sat ρ σ F5 G H5 ∧ F5 D = none ∧ H5 D = some (.lst acc) ∧ Ext F' G F5 := fun {F5 H5} x5 S5 => by
        have f5 : F5 D = none := x5.ownN S5.fh (by rw [upd_same]; exact fun z => nomatch z) hF' (S5.gh D _ upd_same) True.intro
        have e5 : Ext F' G F5 := ⟨x5.up, fun c gc fc => x5.own c (by
          by_cases hc : c = D
          · subst hc; rw [upd_same]; exact fun z => nomatch z
          · rw [upd_ne hc]; exact gc) fc⟩
        refine ⟨⟨S'.len, S5.fh, S5.fs, fun c z e => ?_, fun j τ e => ?_, fun j b ω e => ?_, S'.sep⟩, f5, S5.gh D _ upd_same, e5⟩
        · have hc : c ≠ D := fun z => by subst z; rw [hG] at e; cases e
          exact S5.gh c z (by rw [upd_ne hc]; exact e)
        · obtain ⟨v1, z1, z2⟩ := S'.dat j τ e
          exact ⟨v1, z1, τ.up _ _ _ e5.up z2⟩
        · obtain ⟨z1, z2, z3, _⟩ := S'.own j b ω e
          have hj : j ∉ own.map (·.2) := fun hj => hno j hj b ω e
          obtain ⟨_, y2, _, o, y4, y5, y6⟩ := S5.own j b ω ((hout j hj).trans e)
          exact ⟨z1, y2, z3, o, y4, y5, y6⟩
      cases b with
      | false =>
        refine iteF ?_
        obtain ⟨b1, b2, b3, b4⟩ := back (x2.trans (x3.trans x4)) S4
        exact ⟨ts, acc, F4, hf hb4, x'.trans b4, b1, b2, b3, hts.up b4.up⟩
      | true =>
        refine iteT fun X3 gX3 => ?_
        obtain ⟨τ, hde, hA2⟩ := ht hb4
        refine hde X3 gX3 σ3 F4 _ H4 _ S4 fun y F5 H5 x5 S5 py => ?_
        obtain ⟨b1, b2, b3, b4⟩ := back (x2.trans (x3.trans (x4.trans x5))) S5
        have hal : acc.length < sizeLine := by
          have h1 := hts.length
          have h2 := sizeLine_eq
          omega
        refine ⟨acc, b3, hal, ts ++ [τ], acc ++ [y], F5, hA2, x'.trans b4, ?_, b2, upd_same, (hts.up b4.up).append (.cons py .nil)⟩
        refine b1.mono ⟨fun c u plu hc => ?_, fun c xs hc => ?_⟩ (fun c hc => ?_) (fun c z e => ?_) (Up.refl _) fun j b ω' o e ho => ?_
        rotate_left
        · have hcD : c ≠ D := fun z => by subst z; rw [b2] at hc; cases hc
          rw [upd_ne hcD]; exact b1.fh.tp c xs hc
        rotate_right
        · have hcD : c ≠ D := fun z => by
            subst z
            rcases hc with hc | ⟨_, hc⟩ <;> (rw [b2] at hc; cases hc)
          rcases b1.fh c u plu hc with r | ⟨w, r⟩
          · exact .inl (by rw [upd_ne hcD]; exact r)
          · exact .inr ⟨w, by rw [upd_ne hcD]; exact r⟩
        · by_cases z : c = D
          · subst z; exact b2
          · rw [upd_ne z] at hc; exact b1.fs c hc
        · have hcD : c ≠ D := fun z => by subst z; rw [hG] at e; cases e
          rw [upd_ne hcD]; exact b1.gh c z e
        · obtain ⟨_, z2, _⟩ := b1.own j b ω' e
          exact ⟨z2, by rw [upd_ne (nOwn j b ω' e)]; exact ho⟩
    · have e : i = ys.length := by omega
      subst e
      exact .inl ⟨stop (Nat.le_refl _), q D (.lst acc) F' H' (x1.trans x') S' hF' hG nOwn hH' True.intro ⟨ts, fin ts hA, acc, rfl, hts⟩⟩
theorem df_lcG {elt it : Expr} {ifs : List Expr} {scope : Scope} {own : List (Str × Nat)} {Y : List Ty → Prop} {Pt : List Ty → Prop} (g : Good W n df X N sc) (hb : blkC N sc scope own = true) (hi : DI X tg it ρ Y) (hno : ∀ i ∈ own.map (·.2), ∀ (a : Addr) (ω : OTy), ρ[i]? ≠ some (.own a ω))
    (h : ∀ ys, Y ys → ys.length ≤ 100000 ∧ ∃ Acc : Nat → List Ty → Prop, Acc 0 [] ∧ (∀ i ts, Acc i ts → ts.length ≤ i) ∧
      (∀ (i : Nat) (y : Ty) (ts : List Ty), ys[i]? = some y → Acc i ts → ∃ ρ2, (∀ j, j ∉ own.map (·.2) → ρ2[j]? = ρ[j]?) ∧ (∀ X', Good W n false X' N (relS scope sc) → CG X' tg y (wipeL ρ (own.map (·.2))) (own.map (·.2)) fun r => r = ρ2) ∧
        ∃ β, (∀ X', Good W n false X' N (relS scope sc) → DTs X' ifs ρ2 β) ∧ (β true → ∃ τ, (∀ X', Good W n false X' N (relS scope sc) → DE X' elt ρ2 τ) ∧ Acc (i + 1) (ts ++ [τ])) ∧ (β false → Acc (i + 1) ts)) ∧
      ∀ ts, Acc ys.length ts → Pt ts) (hs : ∀ x, foldedSetIterable it X.env x = pure x := by intro _; rfl) :
    DF X (.ListComp elt [⟨tg, it, ifs, 0⟩] scope pos) ρ (OLx Pt) := fun σ F G H Q S q => by
  have bo : BlkOk N sc scope own := blkOk_by hb
  have bo' : BlkOk X.N X.env.scope scope own := by rw [g.eN, g.es]; exact bo
  unfold WE
  exact fun pins s I => (pe_lc g.calm (by rw [g.eN]; exact g.nd) pi_w bo' (g := (fun v σ' H' Q' => ∀ X', Good W n false X' N (relS scope sc) → WG X' tg v σ' H' Q')) (tt := (fun σ' H' Q' => ∀ X', Good W n false X' N (relS scope sc) → WTs X' ifs σ' H' Q')) (te := (fun σ' H' Q' => ∀ X', Good W n false X' N (relS scope sc) → WE X' elt σ' H' Q'))
    (fun s H C cl fp => ⟨fun pins s' σ' H' v u Q' I' r h => pg_w.run pins s' σ' H' v u Q' I' r (h _ (g.blk bo.kind s H C cl fp))⟩) (fun s H C cl fp => ⟨fun pins s' σ' H' Q' I' h => pts_w.run pins s' σ' H' Q' I' (h _ (g.blk bo.kind s H C cl fp))⟩) (fun s H C cl fp => ⟨fun pins s' σ' H' Q' I' h => pe_w.run pins s' σ' H' Q' I' (h _ (g.blk bo.kind s H C cl fp))⟩) hs).run pins s σ H Q I (tlc_G g hb hi hno h σ F G H Q S q)
/-- name = [..] on one line, the name a local -/
theorem ds_setLcG {elt it : Expr} {ifs : List Expr} {scope : Scope} {own : List (Str × Nat)} {Y : List Ty → Prop} {Pt : List Ty → Prop} (g : Good W n df X N sc) (hb : blkC N sc scope own = true) (hi : DI X tg it ρ Y) (hno : ∀ i ∈ own.map (·.2), ∀ (a : Addr) (ω : OTy), ρ[i]? ≠ some (.own a ω))
    (h : ∀ ys, Y ys → ys.length ≤ 100000 ∧ ∃ Acc : Nat → List Ty → Prop, Acc 0 [] ∧ (∀ i ts, Acc i ts → ts.length ≤ i) ∧
      (∀ (i : Nat) (y : Ty) (ts : List Ty), ys[i]? = some y → Acc i ts → ∃ ρ2, (∀ j, j ∉ own.map (·.2) → ρ2[j]? = ρ[j]?) ∧ (∀ X', Good W n false X' N (relS scope sc) → CG X' tg y (wipeL ρ (own.map (·.2))) (own.map (·.2)) fun r => r = ρ2) ∧
        ∃ β, (∀ X', Good W n false X' N (relS scope sc) → DTs X' ifs ρ2 β) ∧ (β true → ∃ τ, (∀ X', Good W n false X' N (relS scope sc) → DE X' elt ρ2 τ) ∧ Acc (i + 1) (ts ++ [τ])) ∧ (β false → Acc (i + 1) ts)) ∧
      ∀ ts, Acc ys.length ts → Pt ts) {i : Nat} {y : Str} {py spos : Pos} (k : ∀ p ts, Pt ts → P.nx (ρ.set i (.own p (OL ts)))) (hN : N[i]? = some y := by rfl) (hil : i < ρ.length := by first | decide | assumption | exact lt_of_get rfl) (hyl : sc.names.lookup y = some .local := by rfl)
    (hl : (py.line == pos.line) = true := by rfl) (ha : (scope.names.any fun (n, k) => n == y && (k == .local || k == .cell)) = false := by decide +kernel) (hs : ∀ x, foldedSetIterable it X.env x = pure x := by intro _; rfl) :
    DS X (.Assign [.Name y py] (.ListComp elt [⟨tg, it, ifs, 0⟩] scope pos) spos) ρ P := fun σ F G H D S ok => by
  have bo : BlkOk N sc scope own := blkOk_by hb
  have bo' : BlkOk X.N X.env.scope scope own := by rw [g.eN, g.es]; exact bo
  have hyl' : X.env.scope.names.lookup y = some .local := by rw [g.es]; exact hyl
  unfold WS
  exact fun pins s I => (ps_setLc (i := i) g.calm (by rw [g.eN]; exact g.nd) (by rw [g.eN]; exact hN) hyl' (sw_true (by rw [g.es]; exact g.kd) hyl' hl ha) pi_w bo' (g := (fun v σ' H' Q' => ∀ X', Good W n false X' N (relS scope sc) → WG X' tg v σ' H' Q')) (tt := (fun σ' H' Q' => ∀ X', Good W n false X' N (relS scope sc) → WTs X' ifs σ' H' Q')) (te := (fun σ' H' Q' => ∀ X', Good W n false X' N (relS scope sc) → WE X' elt σ' H' Q'))
    (fun s H C cl fp => ⟨fun pins s' σ' H' v u Q' I' r h => pg_w.run pins s' σ' H' v u Q' I' r (h _ (g.blk bo.kind s H C cl fp))⟩) (fun s H C cl fp => ⟨fun pins s' σ' H' Q' I' h => pts_w.run pins s' σ' H' Q' I' (h _ (g.blk bo.kind s H C cl fp))⟩) (fun s H C cl fp => ⟨fun pins s' σ' H' Q' I' h => pe_w.run pins s' σ' H' Q' I' (h _ (g.blk bo.kind s H C cl fp))⟩) hs).run pins s σ H D I (tlc_G g hb hi hno h σ F G H (fun x H1 => D.nx (σ.set i (some x)) H1) S fun a o F1 H1 x1 S1 hF hG hn hH pl ⟨ts, et, hω⟩ =>
      ok.nx _ _ F1 H1 (k a ts et) x1 (S1.setO hil hF hG hH pl hω fun j ω' e => absurd rfl (hn j a ω' e)))
/-- a map and a filter over known things -/
theorem filter_take {α : Type} {b : α → Bool} : ∀ {xs : List α} {i : Nat} {x : α}, xs[i]? = some x → (xs.take (i + 1)).filter b = (xs.take i).filter b ++ (if b x = true then [x] else [])
  | [], _, _, h => by simp at h
  | a :: r, 0, x, h => by
    simp at h; subst h
    simp [List.filter_cons]
  | a :: r, i + 1, x, h => by
    have ih := filter_take (b := b) (xs := r) (i := i) (x := x) (by simpa using h)
    simp only [List.take_succ_cons, List.filter_cons, ih]
    split <;> simp
theorem lc_turns {α : Type} {elt : Expr} {ifs : List Expr} {scope : Scope} {own : List (Str × Nat)} (xs : List α) (s : α → Ty) (b : α → Bool) (t : α → Ty) (hz : xs.length ≤ 100000) (h : (∀ (i : Nat) x, xs[i]? = some x → ∃ ρ2, (∀ j, j ∉ own.map (·.2) → ρ2[j]? = ρ[j]?) ∧ (∀ X', Good W n false X' N (relS scope sc) → CG X' tg (s x) (wipeL ρ (own.map (·.2))) (own.map (·.2)) fun r => r = ρ2) ∧
      (∀ X', Good W n false X' N (relS scope sc) → DTs X' ifs ρ2 (fun c => c = b x)) ∧ (b x = true → ∀ X', Good W n false X' N (relS scope sc) → DE X' elt ρ2 (t x)))) : ∀ ys, ys = xs.map s → ys.length ≤ 100000 ∧ ∃ Acc : Nat → List Ty → Prop, Acc 0 [] ∧ (∀ i ts, Acc i ts → ts.length ≤ i) ∧
      (∀ (i : Nat) (y : Ty) (ts : List Ty), ys[i]? = some y → Acc i ts → ∃ ρ2, (∀ j, j ∉ own.map (·.2) → ρ2[j]? = ρ[j]?) ∧ (∀ X', Good W n false X' N (relS scope sc) → CG X' tg y (wipeL ρ (own.map (·.2))) (own.map (·.2)) fun r => r = ρ2) ∧
        ∃ β, (∀ X', Good W n false X' N (relS scope sc) → DTs X' ifs ρ2 β) ∧ (β true → ∃ τ, (∀ X', Good W n false X' N (relS scope sc) → DE X' elt ρ2 τ) ∧ Acc (i + 1) (ts ++ [τ])) ∧ (β false → Acc (i + 1) ts)) ∧
      ∀ ts, Acc ys.length ts → ts = (xs.filter b).map t := by
  intro ys hy
  subst hy
  refine ⟨by rw [List.length_map]; exact hz, fun i ts => ts = ((xs.take i).filter b).map t, rfl, fun i ts e => ?_, fun i y ts ey hA => ?_, fun ts e => ?_⟩
  · subst e
    rw [List.length_map]
    exact Nat.le_trans (List.length_filter_le _ _) (by rw [List.length_take]; exact Nat.min_le_left _ _)
  · rw [List.getElem?_map] at ey
    cases ex : xs[i]? with
    | none => rw [ex] at ey; cases ey
    | some x =>
      rw [ex] at ey
      cases ey
      obtain ⟨ρ2, h1, h2, h3, h4⟩ := h i x ex
      refine ⟨ρ2, h1, h2, _, h3, fun hb => ⟨t x, h4 hb.symm, ?_⟩, fun hb => ?_⟩
      · subst hA
        rw [filter_take ex, if_pos hb.symm, List.map_append]
        rfl
      · subst hA
        rw [filter_take ex, if_neg (by rw [← hb]; exact Bool.false_ne_true), List.append_nil]
  · subst e
    rw [List.length_map, List.take_length]
theorem df_lc {α : Type} {elt it : Expr} {ifs : List Expr} {scope : Scope} {own : List (Str × Nat)} (xs : List α) (s : α → Ty) (b : α → Bool) (t : α → Ty) (g : Good W n df X N sc) (hb : blkC N sc scope own = true) (hi : DI X tg it ρ (fun ys => ys = xs.map s)) (hz : xs.length ≤ 100000)
    (hno : ∀ i ∈ own.map (·.2), ∀ (a : Addr) (ω : OTy), ρ[i]? ≠ some (.own a ω))
    (h : ∀ (i : Nat) x, xs[i]? = some x → ∃ ρ2, (∀ j, j ∉ own.map (·.2) → ρ2[j]? = ρ[j]?) ∧ (∀ X', Good W n false X' N (relS scope sc) → CG X' tg (s x) (wipeL ρ (own.map (·.2))) (own.map (·.2)) fun r => r = ρ2) ∧
      (∀ X', Good W n false X' N (relS scope sc) → DTs X' ifs ρ2 (fun c => c = b x)) ∧ (b x = true → ∀ X', Good W n false X' N (relS scope sc) → DE X' elt ρ2 (t x)))
    (hs : ∀ x, foldedSetIterable it X.env x = pure x := by intro _; rfl) : DF X (.ListComp elt [⟨tg, it, ifs, 0⟩] scope pos) ρ (OL ((xs.filter b).map t)) := fun σ F G H Q S q => by
  exact df_lcG (Pt := fun ts => ts = (xs.filter b).map t) g hb hi hno (lc_turns xs s b t hz h) hs σ F G H Q S fun a o F' H' x1 S1 f1 g1 n1 h1 pl ⟨ts, et, hω⟩ => q a o F' H' x1 S1 f1 g1 n1 h1 pl (by rw [← et]; exact hω)
end
end K35
set_option Elab.async false
set_option linter.all false
set_option maxRecDepth 100000
set_option maxHeartbeats 1000000
/-! the data layer: operators, builtins -/
namespace K35
open PySem PySem.Spec L2

/-- a truth value that is b -/
abbrev BI (b : Bool) : Ty := BoolP fun c => c = b
def IntP (P : Int → Prop) : Ty := Ex fun d => ∃ i, d = .int i ∧ P i
theorem intP_get {P : Int → Prop} {v : V} {F : Hp} (h : (IntP P).p v F) : ∃ i, v = .int i ∧ P i := by
  obtain ⟨d, ⟨i, rfl, z⟩, h⟩ := h
  cases h
  exact ⟨i, rfl, z⟩
theorem intP_of {P : Int → Prop} {i : Int} {F : Hp} (h : P i) : (IntP P).p (.int i) F := ⟨.int i, ⟨i, rfl, h⟩, .int i⟩
theorem bi_of {b c : Bool} {F : Hp} (h : b = c) : (BI c).p (.bl b) F := ⟨.bool b, ⟨b, rfl, h⟩, .bl b⟩
theorem boolP_of {β : Bool → Prop} {b : Bool} {F : Hp} (h : β b) : (BoolP β).p (.bl b) F := ⟨.bool b, ⟨b, rfl, h⟩, .bl b⟩

/-! ### rules by values that change no heap -/
theorem vr_of {r : R2} {τ1 τ2 τ : Ty} (h : ∀ F H x y (Q : VK), Up F H → (∀ b, H b = none → F b = none) → τ1.p x F → τ2.p y F → (∀ v, τ.p v F → Q v H) → r x y H Q) : VR2 r τ1 τ2 τ := fun ρ σ F G H x y Q S p1 p2 q =>
  h F H x y Q S.fh S.fs p1 p2 fun v pv => q v F H (Ext.refl F G) S pv
def VRL (r : List V → Hp → VK → Prop) (τs : List Ty) (τ : Ty) : Prop := ∀ ρ σ F G H vs (Q : VK), Sat ρ σ F G H → All2 τs vs F → (∀ v F' H', Ext F G F' → Sat ρ σ F' G H' → τ.p v F' → Q v H') → r vs H Q
theorem vrl_of {r : List V → Hp → VK → Prop} {τs : List Ty} {τ : Ty} (h : ∀ F H vs (Q : VK), Up F H → (∀ b, H b = none → F b = none) → All2 τs vs F → (∀ v, τ.p v F → Q v H) → r vs H Q) : VRL r τs τ := fun ρ σ F G H vs Q S p q =>
  h F H vs Q S.fh S.fs p fun v pv => q v F H (Ext.refl F G) S pv
theorem all2_one {τ : Ty} {vs : List V} {F : Hp} (h : All2 [τ] vs F) : ∃ v, vs = [v] ∧ τ.p v F := by
  cases h with
  | cons a t => cases t; exact ⟨_, rfl, a⟩
theorem all2_two {τ τ' : Ty} {vs : List V} {F : Hp} (h : All2 [τ, τ'] vs F) : ∃ v w, vs = [v, w] ∧ τ.p v F ∧ τ'.p w F := by
  cases h with
  | cons a t =>
    cases t with
    | cons b t => cases t; exact ⟨_, _, rfl, a, b⟩
section
variable {W : Wd} {n k : Nat} {df : Bool} {X : Cx} {N ps : List Str} {sc : Scope} {e a b : Expr} {es : List Expr} {ρ : List Sl} {P : Post} {τ τ' τ1 τ2 : Ty} {τs : List Ty} {β : Bool → Prop} {pos p : Pos} {x : Str} {i j : Int} {d d' : PyData} {ds ds' : List PyData}
theorem DE.bi {c : Bool} (h : DE X e ρ (Is (.bool c))) : DE X e ρ (BI c) := h.ex ⟨c, rfl, rfl⟩
theorem DE.ofBI {c : Bool} (h : DE X e ρ (BI c)) : DE X e ρ (Is (.bool c)) := h.sub fun v F p => by
  obtain ⟨b, rfl, rfl⟩ := boolP_get p
  exact Dp.bl _
theorem DE.intP {Pi : Int → Prop} (h : DE X e ρ (Is (.int i))) (k : Pi i) : DE X e ρ (IntP Pi) := h.ex ⟨i, rfl, k⟩
theorem DE.impI {Pi Pj : Int → Prop} (h : DE X e ρ (IntP Pi)) (k : ∀ i, Pi i → Pj i) : DE X e ρ (IntP Pj) := h.imp fun d ⟨i, e, z⟩ => ⟨i, e, k i z⟩
theorem DE.ofInt {Pi : Int → Prop} (h : DE X e ρ (IntP Pi)) (k : ∀ z, Pi z → z = i) : DE X e ρ (Is (.int i)) := h.sub fun v F p => by
  obtain ⟨z, rfl, hz⟩ := intP_get p
  rw [k z hz]; exact Dp.int _
/-! ints -/
theorem de_add (ha : DE X a ρ (Is (.int i))) (hb : DE X b ρ (Is (.int j))) : DE X (.BinOp a .Add b pos) ρ (Is (.int (i + j))) := de_op op_add ha hb (vr_of fun F H x y Q _ _ p1 p2 q => ⟨i, j, is_int p1, is_int p2, q _ (Dp.int _)⟩)
theorem de_sub (ha : DE X a ρ (Is (.int i))) (hb : DE X b ρ (Is (.int j))) : DE X (.BinOp a .Sub b pos) ρ (Is (.int (i - j))) := de_op op_sub ha hb (vr_of fun F H x y Q _ _ p1 p2 q => ⟨i, j, is_int p1, is_int p2, q _ (Dp.int _)⟩)
theorem de_mul (ha : DE X a ρ (Is (.int i))) (hb : DE X b ρ (Is (.int j))) (h : CMul i j) : DE X (.BinOp a .Mult b pos) ρ (Is (.int (i * j))) := de_op op_mul ha hb (vr_of fun F H x y Q _ _ p1 p2 q => ⟨i, j, is_int p1, is_int p2, h, q _ (Dp.int _)⟩)
theorem de_mulW (ha : DE X a ρ (Is (.int i))) (hb : DE X b ρ (Is (.int j))) (h : CMulW i j) : DE X (.BinOp a .Mult b pos) ρ (Is (.int (i * j))) := de_op op_mulW ha hb (vr_of fun F H x y Q _ _ p1 p2 q => ⟨i, j, is_int p1, is_int p2, h, q _ (Dp.int _)⟩)
theorem de_fdivW (ha : DE X a ρ (Is (.int i))) (hb : DE X b ρ (Is (.int j))) (h : CDivW i j) : DE X (.BinOp a .FloorDiv b pos) ρ (Is (.int (i / j))) := de_op op_fdivW ha hb (vr_of fun F H x y Q _ _ p1 p2 q => ⟨i, j, is_int p1, is_int p2, h, q _ (Dp.int _)⟩)
theorem de_mod (ha : DE X a ρ (Is (.int i))) (hb : DE X b ρ (Is (.int j))) (h : 0 < j) : DE X (.BinOp a .Mod b pos) ρ (Is (.int (i % j))) := de_op op_mod ha hb (vr_of fun F H x y Q _ _ p1 p2 q => ⟨i, j, is_int p1, is_int p2, h, q _ (Dp.int _)⟩)
theorem de_neg (ha : DE X a ρ (Is (.int i))) : DE X (.UnaryOp .USub a pos) ρ (Is (.int (-i))) := fun σ F G H Q S q =>
  we_of (pe_un un_neg pe_w) (ha σ F G H _ S fun v F1 H1 x1 S1 p1 => ⟨i, is_int p1, q _ F1 H1 x1 S1 (Dp.int _)⟩)
/-! some ints -/
theorem de_addP {P1 P2 P3 : Int → Prop} (ha : DE X a ρ (IntP P1)) (hb : DE X b ρ (IntP P2)) (k : ∀ i j, P1 i → P2 j → P3 (i + j)) : DE X (.BinOp a .Add b pos) ρ (IntP P3) := de_op op_add ha hb (vr_of fun F H x y Q _ _ p1 p2 q => by
  obtain ⟨i, rfl, hi⟩ := intP_get p1
  obtain ⟨j, rfl, hj⟩ := intP_get p2
  exact ⟨i, j, rfl, rfl, q _ (intP_of (k i j hi hj))⟩)
theorem de_mulP {P1 P2 P3 : Int → Prop} (ha : DE X a ρ (IntP P1)) (hb : DE X b ρ (IntP P2)) (k : ∀ i j, P1 i → P2 j → CMulW i j ∧ P3 (i * j)) : DE X (.BinOp a .Mult b pos) ρ (IntP P3) := de_op op_mulW ha hb (vr_of fun F H x y Q _ _ p1 p2 q => by
  obtain ⟨i, rfl, hi⟩ := intP_get p1
  obtain ⟨j, rfl, hj⟩ := intP_get p2
  obtain ⟨k1, k2⟩ := k i j hi hj
  exact ⟨i, j, rfl, rfl, k1, q _ (intP_of k2)⟩)
theorem de_mulP' {P1 P2 P3 : Int → Prop} (ha : DE X a ρ (IntP P1)) (hb : DE X b ρ (IntP P2)) (k : ∀ i j, P1 i → P2 j → CMul i j ∧ P3 (i * j)) : DE X (.BinOp a .Mult b pos) ρ (IntP P3) := de_op op_mul ha hb (vr_of fun F H x y Q _ _ p1 p2 q => by
  obtain ⟨i, rfl, hi⟩ := intP_get p1
  obtain ⟨j, rfl, hj⟩ := intP_get p2
  obtain ⟨k1, k2⟩ := k i j hi hj
  exact ⟨i, j, rfl, rfl, k1, q _ (intP_of k2)⟩)
theorem de_fdivP {P1 P2 P3 : Int → Prop} (ha : DE X a ρ (IntP P1)) (hb : DE X b ρ (IntP P2)) (k : ∀ i j, P1 i → P2 j → CDivW i j ∧ P3 (i / j)) : DE X (.BinOp a .FloorDiv b pos) ρ (IntP P3) := de_op op_fdivW ha hb (vr_of fun F H x y Q _ _ p1 p2 q => by
  obtain ⟨i, rfl, hi⟩ := intP_get p1
  obtain ⟨j, rfl, hj⟩ := intP_get p2
  obtain ⟨k1, k2⟩ := k i j hi hj
  exact ⟨i, j, rfl, rfl, k1, q _ (intP_of k2)⟩)
theorem de_modP {P1 P2 P3 : Int → Prop} (ha : DE X a ρ (IntP P1)) (hb : DE X b ρ (IntP P2)) (k : ∀ i j, P1 i → P2 j → 0 < j ∧ P3 (i % j)) : DE X (.BinOp a .Mod b pos) ρ (IntP P3) := de_op op_mod ha hb (vr_of fun F H x y Q _ _ p1 p2 q => by
  obtain ⟨i, rfl, hi⟩ := intP_get p1
  obtain ⟨j, rfl, hj⟩ := intP_get p2
  obtain ⟨k1, k2⟩ := k i j hi hj
  exact ⟨i, j, rfl, rfl, k1, q _ (intP_of k2)⟩)
/-! comparisons of ints, as types of tests -/
theorem vr_lt : VR2 (rI0 fun i j => .bl (decide (i < j))) (Is (.int i)) (Is (.int j)) (BI (decide (i < j))) := vr_of fun F H x y Q _ _ p1 p2 q => ⟨i, j, is_int p1, is_int p2, q _ (bi_of rfl)⟩
theorem vr_le : VR2 (rI0 fun i j => .bl (decide (i ≤ j))) (Is (.int i)) (Is (.int j)) (BI (decide (i ≤ j))) := vr_of fun F H x y Q _ _ p1 p2 q => ⟨i, j, is_int p1, is_int p2, q _ (bi_of rfl)⟩
theorem vr_gt : VR2 (rI0 fun i j => .bl (decide (j < i))) (Is (.int i)) (Is (.int j)) (BI (decide (j < i))) := vr_of fun F H x y Q _ _ p1 p2 q => ⟨i, j, is_int p1, is_int p2, q _ (bi_of rfl)⟩
theorem vr_ge : VR2 (rI0 fun i j => .bl (decide (j ≤ i))) (Is (.int i)) (Is (.int j)) (BI (decide (j ≤ i))) := vr_of fun F H x y Q _ _ p1 p2 q => ⟨i, j, is_int p1, is_int p2, q _ (bi_of rfl)⟩
theorem vr_cmpP {f : Int → Int → Bool} {P1 P2 : Int → Prop} {β : Bool → Prop} (k : ∀ i j, P1 i → P2 j → β (f i j)) : VR2 (rI0 fun i j => .bl (f i j)) (IntP P1) (IntP P2) (BoolP β) := vr_of fun F H x y Q _ _ p1 p2 q => by
  obtain ⟨i, rfl, hi⟩ := intP_get p1
  obtain ⟨j, rfl, hj⟩ := intP_get p2
  exact ⟨i, j, rfl, rfl, q _ (boolP_of (k i j hi hj))⟩
/-! == of data -/
theorem vr_eqD (K : PySem.W.Frag) (h1 : SeqAt.shaped d = true) (h2 : SeqAt.shaped d' = true) : VR2 (rEqD K) (Is d) (Is d') (BI (PyData.eqv d d')) := vr_of fun F H x y Q up _ p1 p2 q =>
  ⟨d, d', dp_up up (dp_any p1), dp_up up (dp_any p2), h1, h2, q _ (bi_of rfl)⟩
theorem vr_neD (K : PySem.W.Frag) (h1 : SeqAt.shaped d = true) (h2 : SeqAt.shaped d' = true) : VR2 (rNeD K) (Is d) (Is d') (BI (!PyData.eqv d d')) := vr_of fun F H x y Q up _ p1 p2 q =>
  ⟨d, d', dp_up up (dp_any p1), dp_up up (dp_any p2), h1, h2, q _ (bi_of rfl)⟩
theorem de_eq (g : Good W n df X N sc) (ha : DE X a ρ (Is d)) (hb : DE X b ρ (Is d')) (h1 : SeqAt.shaped d = true) (h2 : SeqAt.shaped d' = true) : DE X (.Compare a [.Eq] [b] pos) ρ (BI (PyData.eqv d d')) := de_cmp (op_eqD (Room.units g.room)) ha hb (vr_eqD _ h1 h2)
theorem dt_eq (g : Good W n df X N sc) (ha : DE X a ρ (Is d)) (hb : DE X b ρ (Is d')) (h1 : SeqAt.shaped d = true) (h2 : SeqAt.shaped d' = true) : DT X (.Compare a [.Eq] [b] pos) ρ (fun c => c = PyData.eqv d d') := dt_cmp (op_eqD (Room.units g.room)) ha hb (vr_eqD _ h1 h2)
theorem de_ne (g : Good W n df X N sc) (ha : DE X a ρ (Is d)) (hb : DE X b ρ (Is d')) (h1 : SeqAt.shaped d = true) (h2 : SeqAt.shaped d' = true) : DE X (.Compare a [.NotEq] [b] pos) ρ (BI (!PyData.eqv d d')) := de_cmp (op_neD (Room.units g.room)) ha hb (vr_neD _ h1 h2)
theorem dt_ne (g : Good W n df X N sc) (ha : DE X a ρ (Is d)) (hb : DE X b ρ (Is d')) (h1 : SeqAt.shaped d = true) (h2 : SeqAt.shaped d' = true) : DT X (.Compare a [.NotEq] [b] pos) ρ (fun c => c = !PyData.eqv d d') := dt_cmp (op_neD (Room.units g.room)) ha hb (vr_neD _ h1 h2)
/-! ints by == -/
theorem vr_eqI : VR2 rEq (Is (.int i)) (Is (.int j)) (BI (decide (i = j))) := vr_of fun F H x y Q _ _ p1 p2 q => by
  rw [is_int p1, is_int p2]
  refine ⟨rfl, q _ (bi_of ?_)⟩
  rw [dec_int]; exact Bool.beq_eq_decide_eq i j
theorem vr_neI : VR2 rNe (Is (.int i)) (Is (.int j)) (BI (!decide (i = j))) := vr_of fun F H x y Q _ _ p1 p2 q => by
  rw [is_int p1, is_int p2]
  refine ⟨rfl, q _ (bi_of ?_)⟩
  rw [dec_int, Bool.beq_eq_decide_eq]
theorem vr_eqP {P1 P2 : Int → Prop} {β : Bool → Prop} (k : ∀ i j, P1 i → P2 j → β (decide (i = j))) : VR2 rEq (IntP P1) (IntP P2) (BoolP β) := vr_of fun F H x y Q _ _ p1 p2 q => by
  obtain ⟨i, rfl, hi⟩ := intP_get p1
  obtain ⟨j, rfl, hj⟩ := intP_get p2
  refine ⟨rfl, q _ (boolP_of ?_)⟩
  rw [dec_int, Bool.beq_eq_decide_eq]; exact k i j hi hj
theorem vr_neP {P1 P2 : Int → Prop} {β : Bool → Prop} (k : ∀ i j, P1 i → P2 j → β (!decide (i = j))) : VR2 rNe (IntP P1) (IntP P2) (BoolP β) := vr_of fun F H x y Q _ _ p1 p2 q => by
  obtain ⟨i, rfl, hi⟩ := intP_get p1
  obtain ⟨j, rfl, hj⟩ := intP_get p2
  refine ⟨rfl, q _ (boolP_of ?_)⟩
  rw [dec_int, Bool.beq_eq_decide_eq]; exact k i j hi hj
theorem vr_eqS {s t : Str} : VR2 rEq (Is (.str s)) (Is (.str t)) (BI (decide (s = t))) := vr_of fun F H x y Q _ _ p1 p2 q => by
  rw [is_str p1, is_str p2]
  refine ⟨rfl, q _ (bi_of ?_)⟩
  rw [dec_str]; exact Bool.beq_eq_decide_eq s t
theorem vr_eqB {s t : Bool} : VR2 rEq (Is (.bool s)) (Is (.bool t)) (BI (decide (s = t))) := vr_of fun F H x y Q _ _ p1 p2 q => by
  rw [is_bool p1, is_bool p2]
  refine ⟨rfl, q _ (bi_of ?_)⟩
  rw [dec_bl]; exact Bool.beq_eq_decide_eq s t
/-! is None -/
def isN : PyData → Bool
  | .none => true
  | _ => false
theorem isN_v {v : V} {F : Hp} (h : (Is d).p v F) : decide (v = .non) = isN d := by
  have h' : Dp [] F v d := h
  cases h' <;> rfl
theorem de_isN {k : Nat} {pos' : Pos} (ha : DE X a ρ (Is d)) : DE X (.Compare a [.Is] [.Constant .none k pos'] pos) ρ (BI (isN d)) := de_cmp op_isN ha de_non (vr_of fun F H x y Q _ _ p1 p2 q => ⟨is_non p2, q _ (bi_of (isN_v p1))⟩)
theorem dt_isN {k : Nat} {pos' : Pos} (ha : DE X a ρ (Is d)) : DT X (.Compare a [.Is] [.Constant .none k pos'] pos) ρ (fun c => c = isN d) := dt_cmp op_isN ha de_non (vr_of fun F H x y Q _ _ p1 p2 q => ⟨is_non p2, q _ (bi_of (isN_v p1))⟩)
theorem de_notN {k : Nat} {pos' : Pos} (ha : DE X a ρ (Is d)) : DE X (.Compare a [.IsNot] [.Constant .none k pos'] pos) ρ (BI (!isN d)) := de_cmp op_notN ha de_non (vr_of fun F H x y Q _ _ p1 p2 q => ⟨is_non p2, q _ (bi_of (by rw [isN_v p1]))⟩)
theorem dt_notN {k : Nat} {pos' : Pos} (ha : DE X a ρ (Is d)) : DT X (.Compare a [.IsNot] [.Constant .none k pos'] pos) ρ (fun c => c = !isN d) := dt_cmp op_notN ha de_non (vr_of fun F H x y Q _ _ p1 p2 q => ⟨is_non p2, q _ (bi_of (by rw [isN_v p1]))⟩)
/-! chains a op b op c -/
theorem dt_chain {c : Expr} {op op' : CmpOp} {r r' : R2} {τ3 : Ty} {β1 β2 : Bool → Prop} (ho : OpR X (compareOp op) r) (ho' : OpR X (compareOp op') r') (ha : DE X a ρ τ1) (hb : DE X b ρ τ2) (hc : DE X c ρ τ3) (h1 : VR2 r τ1 τ2 (BoolP β1)) (h2 : VR2 r' τ2 τ3 (BoolP β2))
    (hm : lastMarks [op, op'] [b, c] = false := by with_unfolding_all rfl) : DT X (.Compare a [op, op'] [b, c] pos) ρ (fun z => (β1 true ∧ β2 z) ∨ (β1 false ∧ z = false)) := fun σ F G H Q S q =>
  wt_of (pt_chain ho ho' pe_w pe_w pe_w hm) (ha σ F G H _ S fun v F1 H1 x1 S1 p1 => hb σ F1 G H1 _ S1 fun u F2 H2 x2 S2 p2 => h1 ρ σ F2 G H2 v u _ S2 (τ1.up _ _ _ x2.up p1) p2 fun z F3 H3 x3 S3 p3 => by
    obtain ⟨k, rfl, hk⟩ := boolP_get p3
    refine ⟨k, rfl, ?_⟩
    cases k with
    | false => exact iteF ⟨false, rfl, q false F3 H3 (.inr ⟨hk, rfl⟩) (x1.trans (x2.trans x3)) S3⟩
    | true => exact iteT (hc σ F3 G H3 _ S3 fun w F4 H4 x4 S4 p4 => h2 ρ σ F4 G H4 u w _ S4 (τ2.up _ _ _ (x3.trans x4).up p2) p4 fun z F5 H5 x5 S5 p5 => by
        obtain ⟨k2, rfl, hk2⟩ := boolP_get p5
        exact ⟨k2, rfl, q k2 F5 H5 (.inl ⟨hk, hk2⟩) (x1.trans (x2.trans (x3.trans (x4.trans x5)))) S5⟩))
theorem de_chain {c : Expr} {op op' : CmpOp} {r r' : R2} {τ3 : Ty} {β1 β2 : Bool → Prop} (ho : OpR X (compareOp op) r) (ho' : OpR X (compareOp op') r') (ha : DE X a ρ τ1) (hb : DE X b ρ τ2) (hc : DE X c ρ τ3) (h1 : VR2 r τ1 τ2 (BoolP β1)) (h2 : VR2 r' τ2 τ3 (BoolP β2))
    (hm : lastMarks [op, op'] [b, c] = false := by with_unfolding_all rfl) : DE X (.Compare a [op, op'] [b, c] pos) ρ (BoolP fun z => (β1 true ∧ β2 z) ∨ (β1 false ∧ z = false)) := fun σ F G H Q S q =>
  we_of (L2.pe_chain ho ho' pe_w pe_w pe_w hm) (ha σ F G H _ S fun v F1 H1 x1 S1 p1 => hb σ F1 G H1 _ S1 fun u F2 H2 x2 S2 p2 => h1 ρ σ F2 G H2 v u _ S2 (τ1.up _ _ _ x2.up p1) p2 fun z F3 H3 x3 S3 p3 => by
    obtain ⟨k, rfl, hk⟩ := boolP_get p3
    refine ⟨k, rfl, ?_⟩
    cases k with
    | false => exact iteF (q _ F3 H3 (x1.trans (x2.trans x3)) S3 (boolP_of (.inr ⟨hk, rfl⟩)))
    | true => exact iteT (hc σ F3 G H3 _ S3 fun w F4 H4 x4 S4 p4 => h2 ρ σ F4 G H4 u w _ S4 (τ2.up _ _ _ (x3.trans x4).up p2) p4 fun z F5 H5 x5 S5 p5 => by
        obtain ⟨k2, rfl, hk2⟩ := boolP_get p5
        exact q _ F5 H5 (x1.trans (x2.trans (x3.trans (x4.trans x5)))) S5 (boolP_of (.inl ⟨hk, hk2⟩))))
/-! ### subscripts -/
theorem atI_all2 {vs : List V} {F : Hp} (h : All2 τs vs F) (hi : atI τs i = some τ) : ∃ v, atI vs i = some v ∧ τ.p v F := by
  unfold atI at *
  rw [← h.length]
  cases q : ixN τs.length i with
  | none => rw [q] at hi; cases hi
  | some j =>
    rw [q] at hi
    obtain ⟨v, e1, e2⟩ := h.get (show τs[j]? = some τ from hi)
    exact ⟨v, e1, e2⟩
theorem de_ix (hv : DE X a ρ (TupOf τs)) (hi : DE X b ρ (Is (.int i))) (h : atI τs i = some τ) (hs : PlainIx b := by exact fun _ _ => rfl) : DE X (.Subscript a b pos) ρ τ := fun σ F G H Q S q =>
  we_of (pe_ix ix_tup pe_w pe_w hs) (hv σ F G H _ S fun v F1 H1 x1 S1 p1 => hi σ F1 G H1 _ S1 fun u F2 H2 x2 S2 p2 => by
    obtain ⟨t, vs, rfl, hr, pv⟩ := (TupOf τs).up _ _ _ x2.up p1
    obtain ⟨z, ez, pz⟩ := atI_all2 pv h
    exact ⟨t, vs, i, z, rfl, is_int p2, .inl (S2.fh _ _ True.intro hr), ez, q z F2 H2 (x1.trans x2) S2 pz⟩)
theorem de_ixL (hv : DE X a ρ (LstOf τs)) (hi : DE X b ρ (Is (.int i))) (h : atI τs i = some τ) (hs : PlainIx b := by exact fun _ _ => rfl) : DE X (.Subscript a b pos) ρ τ := fun σ F G H Q S q =>
  we_of (pe_ix ix_list pe_w pe_w hs) (hv σ F G H _ S fun v F1 H1 x1 S1 p1 => hi σ F1 G H1 _ S1 fun u F2 H2 x2 S2 p2 => by
    obtain ⟨t, vs, rfl, hr, pv⟩ := (LstOf τs).up _ _ _ x2.up p1
    obtain ⟨z, ez, pz⟩ := atI_all2 pv h
    exact ⟨t, vs, i, z, rfl, is_int p2, .inl (S2.fh _ _ True.intro hr), ez, q z F2 H2 (x1.trans x2) S2 pz⟩)
theorem atI_map {α β : Type} (f : α → β) (xs : List α) : atI (xs.map f) i = (atI xs i).map f := by
  unfold atI
  rw [List.length_map]
  cases ixN xs.length i with
  | none => rfl
  | some j => simp [List.getElem?_map]
theorem de_ixI (hv : DE X a ρ (Is (.tuple ds))) (hi : DE X b ρ (Is (.int i))) (h : atI ds i = some d) (hs : PlainIx b := by exact fun _ _ => rfl) : DE X (.Subscript a b pos) ρ (Is d) := de_ix hv.tupT hi (by rw [atI_map, h]; rfl) hs
theorem de_ixLI (hv : DE X a ρ (Is (.list ds))) (hi : DE X b ρ (Is (.int i))) (h : atI ds i = some d) (hs : PlainIx b := by exact fun _ _ => rfl) : DE X (.Subscript a b pos) ρ (Is d) := de_ixL hv.lstT hi (by rw [atI_map, h]; rfl) hs
/-- of a list that is own, in the slot s -/
theorem de_ixO {s : Nat} {o1 : Addr} (hv : DE X a ρ (At o1)) (hs' : ρ[s]? = some (.own o1 (OL τs))) (hi : DE X b ρ (Is (.int i))) (h : atI τs i = some τ) (hs : PlainIx b := by exact fun _ _ => rfl) : DE X (.Subscript a b pos) ρ τ := fun σ F G H Q S q =>
  we_of (pe_ix ix_list pe_w pe_w hs) (hv σ F G H _ S fun v F1 H1 x1 S1 p1 => hi σ F1 G H1 _ S1 fun u F2 H2 x2 S2 p2 => by
    have ev : v = .ref o1 := p1
    subst ev
    obtain ⟨_, _, _, o, y4, _, vs, eo, pv⟩ := S2.own s o1 _ hs'
    subst eo
    obtain ⟨z, ez, pz⟩ := atI_all2 pv h
    exact ⟨o1, vs, i, z, rfl, is_int p2, .inl (.inl y4), ez, q z F2 H2 (x1.trans x2) S2 pz⟩)
/-! ### built-ins by their names -/
theorem de_bi {id : String} {r : List V → Hp → VK → Prop} (g : Good W n df X N sc) (hc : CallR X (.builtin id) r) (hm : W.mg x = none) (hv : bootBuiltins x = some (.builtin id)) (ha : DEs X (e :: es) ρ τs) (hr : VRL r τs τ) (hg : sc.names.lookup x = some .globalImplicit := by rfl) (hn : x ≠ "__name__" := by decide) (hdb : (x == ("__debug__" : Str)) = false := by decide)
    (hs : starEach (e :: es) X.env = (false, eval e X.env) :: starEach es X.env := by rfl) (hpl : (backTo pos (starEach es X.env)).any (·.1) = false := by rfl) : DE X (.Call (.Name x p) (e :: es) [] pos) ρ τ := fun σ F G H Q S q =>
  we_of (pe_callB hc (g.gl hg) (by rw [g.em]; exact hm) hv pa_w hn hdb hs hpl) (ha σ F G H _ S fun vs F1 H1 x1 S1 p1 => hr ρ σ F1 G H1 vs Q S1 p1 fun v F' H' x' S' pv => q v F' H' (x1.trans x') S' pv)
theorem de_ty {T : String} {r : List V → Hp → VK → Prop} (g : Good W n df X N sc) (hc : CallR X (.type T) r) (hm : W.mg x = none) (hv : bootBuiltins x = some (.type T)) (ha : DEs X (e :: es) ρ τs) (hr : VRL r τs τ) (hg : sc.names.lookup x = some .globalImplicit := by rfl) (hn : x ≠ "__name__" := by decide) (hdb : (x == ("__debug__" : Str)) = false := by decide)
    (hs : starEach (e :: es) X.env = (false, eval e X.env) :: starEach es X.env := by rfl) (hpl : (backTo pos (starEach es X.env)).any (·.1) = false := by rfl) : DE X (.Call (.Name x p) (e :: es) [] pos) ρ τ := fun σ F G H Q S q =>
  we_of (pe_callTy hc (g.gl hg) (by rw [g.em]; exact hm) hv pa_w hn hdb hs hpl) (ha σ F G H _ S fun vs F1 H1 x1 S1 p1 => hr ρ σ F1 G H1 vs Q S1 p1 fun v F' H' x' S' pv => q v F' H' (x1.trans x') S' pv)
end
end K35
set_option Elab.async false
set_option linter.all false
set_option maxRecDepth 100000
set_option maxHeartbeats 1000000
/-! the data layer: built-ins -/
namespace K35
open PySem PySem.Spec L2

/-! ### kinds of data -/
def tyName : PyData → String
  | .none => "NoneType"
  | .bool _ => "bool"
  | .int _ => "int"
  | .str _ => "str"
  | .list _ => "list"
  | .tuple _ => "tuple"
  | .dict _ => "dict"
def isTup : PyData → Bool
  | .tuple _ => true
  | _ => false
def isStr : PyData → Bool
  | .str _ => true
  | _ => false
def isInt' : PyData → Bool
  | .int _ => true
  | .bool _ => true
  | _ => false
def isBl : PyData → Bool
  | .bool _ => true
  | _ => false
def TyC (T : String) : Ty := ⟨fun v _ => v = .ty T, fun _ _ _ _ h => h⟩
theorem tyX_of {K : PySem.W.Frag} {d : PyData} {v : V} {F H : Hp} (up : Up F H) (h : (Is d).p v F) : TyX K H v (.type (tyName d)) := by
  have h' : Dp [] F v d := h
  cases h' with
  | non => exact .base .non
  | bl b => exact .base (.bl b)
  | int i => exact .base (.int i)
  | str x => exact .base (.str x)
  | lst hs ha =>
    rcases up _ (.lst _) True.intro (rd_lst hs) with r | ⟨o, r⟩
    · exact .base (.lst r)
    · exact .base (.frz r)
  | tup hs ha =>
    rcases up _ (.tup _) True.intro (rd_tup hs) with r | ⟨o, r⟩
    · exact .base (.tup r)
    · exact .fTuple r
section
variable {W : Wd} {n k : Nat} {df : Bool} {X : Cx} {N ps : List Str} {sc : Scope} {e a b : Expr} {es : List Expr} {ρ : List Sl} {P : Post} {τ τ' τ1 τ2 : Ty} {τs : List Ty} {β : Bool → Prop} {pos p p2 : Pos} {x : Str} {i j : Int} {d d' : PyData} {ds ds' : List PyData}
theorem de_tyName {T : String} (g : Good W n df X N sc) (hm : W.mg x = none) (hv : bootBuiltins x = some (.type T)) (hg : sc.names.lookup x = some .globalImplicit := by rfl) (hn : x ≠ "__name__" := by decide) (hd : (x == ("__debug__" : Str)) = false := by decide) : DE X (.Name x pos) ρ (TyC T) := fun σ F G H Q S q =>
  we_of (pe_bltn (v := .ty T) (g.gl hg) (by rw [g.em]; exact hm) hv rfl hn hd) (q _ F H (Ext.refl F G) S rfl)
theorem vrl_isi {T : String} {K : PySem.W.Frag} {r : Bool} (h : kitB (tyName d) T = some r) : VRL (rIsi K) [Is d, TyC T] (BI r) := vrl_of fun F H vs Q up fs p q => by
  obtain ⟨v, w, rfl, p1, p2⟩ := all2_two p
  have ew : w = .ty T := p2
  subst ew
  exact ⟨v, .ty T, _, _, r, rfl, .ty T, tyX_of up p1, kit_ty h, q _ (bi_of rfl)⟩
theorem de_isi {T : String} {r : Bool} {y : Str} (g : Good W n df X N sc) (hm : W.mg "isinstance" = none) (ha : DE X a ρ (Is d)) (hT : W.mg y = none) (hv : bootBuiltins y = some (.type T)) (h : kitB (tyName d) T = some r) (hg : sc.names.lookup ("isinstance" : Str) = some .globalImplicit := by rfl) (hg2 : sc.names.lookup y = some .globalImplicit := by rfl) (hn : y ≠ "__name__" := by decide) (hd : (y == ("__debug__" : Str)) = false := by decide)
    (hs : starEach [a, .Name y p2] X.env = (false, eval a X.env) :: starEach [.Name y p2] X.env := by rfl) : DE X (.Call (.Name "isinstance" p) [a, .Name y p2] [] pos) ρ (BI r) :=
  de_bi g call_isi hm (by decide +kernel) (des_cons ha (des_cons (de_tyName g hT hv hg2 hn hd) des_nil) hs) (vrl_isi h) hg (hs := hs)
theorem kit_tup : kitB (tyName d) "tuple" = some (isTup d) := by
  cases d with
  | none => exact (by decide +kernel : kitB "NoneType" "tuple" = some false)
  | bool _ => exact (by decide +kernel : kitB "bool" "tuple" = some false)
  | int _ => exact (by decide +kernel : kitB "int" "tuple" = some false)
  | str _ => exact (by decide +kernel : kitB "str" "tuple" = some false)
  | list _ => exact (by decide +kernel : kitB "list" "tuple" = some false)
  | tuple _ => exact (by decide +kernel : kitB "tuple" "tuple" = some true)
  | dict _ => exact (by decide +kernel : kitB "dict" "tuple" = some false)
theorem kit_int : kitB (tyName d) "int" = some (isInt' d) := by
  cases d with
  | none => exact (by decide +kernel : kitB "NoneType" "int" = some false)
  | bool _ => exact (by decide +kernel : kitB "bool" "int" = some true)
  | int _ => exact (by decide +kernel : kitB "int" "int" = some true)
  | str _ => exact (by decide +kernel : kitB "str" "int" = some false)
  | list _ => exact (by decide +kernel : kitB "list" "int" = some false)
  | tuple _ => exact (by decide +kernel : kitB "tuple" "int" = some false)
  | dict _ => exact (by decide +kernel : kitB "dict" "int" = some false)
theorem kit_bool : kitB (tyName d) "bool" = some (isBl d) := by
  cases d with
  | none => exact (by decide +kernel : kitB "NoneType" "bool" = some false)
  | bool _ => exact (by decide +kernel : kitB "bool" "bool" = some true)
  | int _ => exact (by decide +kernel : kitB "int" "bool" = some false)
  | str _ => exact (by decide +kernel : kitB "str" "bool" = some false)
  | list _ => exact (by decide +kernel : kitB "list" "bool" = some false)
  | tuple _ => exact (by decide +kernel : kitB "tuple" "bool" = some false)
  | dict _ => exact (by decide +kernel : kitB "dict" "bool" = some false)
theorem kit_str : kitB (tyName d) "str" = some (isStr d) := by
  cases d with
  | none => exact (by decide +kernel : kitB "NoneType" "str" = some false)
  | bool _ => exact (by decide +kernel : kitB "bool" "str" = some false)
  | int _ => exact (by decide +kernel : kitB "int" "str" = some false)
  | str _ => exact (by decide +kernel : kitB "str" "str" = some true)
  | list _ => exact (by decide +kernel : kitB "list" "str" = some false)
  | tuple _ => exact (by decide +kernel : kitB "tuple" "str" = some false)
  | dict _ => exact (by decide +kernel : kitB "dict" "str" = some false)
theorem de_isTup (g : Good W n df X N sc) (hm : W.mg "isinstance" = none) (hT : W.mg "tuple" = none) (ha : DE X a ρ (Is d)) (hg : sc.names.lookup ("isinstance" : Str) = some .globalImplicit := by rfl) (hg2 : sc.names.lookup ("tuple" : Str) = some .globalImplicit := by rfl) (hs : starEach [a, .Name "tuple" p2] X.env = (false, eval a X.env) :: starEach [.Name "tuple" p2] X.env := by rfl) : DE X (.Call (.Name "isinstance" p) [a, .Name "tuple" p2] [] pos) ρ (BI (isTup d)) := de_isi g hm ha hT (by decide +kernel) kit_tup hg hg2 (by decide) (by decide) hs
theorem de_isInt (g : Good W n df X N sc) (hm : W.mg "isinstance" = none) (hT : W.mg "int" = none) (ha : DE X a ρ (Is d)) (hg : sc.names.lookup ("isinstance" : Str) = some .globalImplicit := by rfl) (hg2 : sc.names.lookup ("int" : Str) = some .globalImplicit := by rfl) (hs : starEach [a, .Name "int" p2] X.env = (false, eval a X.env) :: starEach [.Name "int" p2] X.env := by rfl) : DE X (.Call (.Name "isinstance" p) [a, .Name "int" p2] [] pos) ρ (BI (isInt' d)) := de_isi g hm ha hT (by decide +kernel) kit_int hg hg2 (by decide) (by decide) hs
theorem de_isBool (g : Good W n df X N sc) (hm : W.mg "isinstance" = none) (hT : W.mg "bool" = none) (ha : DE X a ρ (Is d)) (hg : sc.names.lookup ("isinstance" : Str) = some .globalImplicit := by rfl) (hg2 : sc.names.lookup ("bool" : Str) = some .globalImplicit := by rfl) (hs : starEach [a, .Name "bool" p2] X.env = (false, eval a X.env) :: starEach [.Name "bool" p2] X.env := by rfl) : DE X (.Call (.Name "isinstance" p) [a, .Name "bool" p2] [] pos) ρ (BI (isBl d)) := de_isi g hm ha hT (by decide +kernel) kit_bool hg hg2 (by decide) (by decide) hs
theorem de_isStr (g : Good W n df X N sc) (hm : W.mg "isinstance" = none) (hT : W.mg "str" = none) (ha : DE X a ρ (Is d)) (hg : sc.names.lookup ("isinstance" : Str) = some .globalImplicit := by rfl) (hg2 : sc.names.lookup ("str" : Str) = some .globalImplicit := by rfl) (hs : starEach [a, .Name "str" p2] X.env = (false, eval a X.env) :: starEach [.Name "str" p2] X.env := by rfl) : DE X (.Call (.Name "isinstance" p) [a, .Name "str" p2] [] pos) ρ (BI (isStr d)) := de_isi g hm ha hT (by decide +kernel) kit_str hg hg2 (by decide) (by decide) hs
/-! ### len -/
theorem de_lenT (g : Good W n df X N sc) (hm : W.mg "len" = none) (ha : DE X a ρ (TupOf τs)) (hg : sc.names.lookup ("len" : Str) = some .globalImplicit := by rfl) (hs : starEach [a] X.env = (false, eval a X.env) :: starEach [] X.env := by rfl) : DE X (.Call (.Name "len" p) [a] [] pos) ρ (Is (.int (τs.length : Int))) :=
  de_bi g call_len_seq hm PySem.boot_len (des_cons ha des_nil hs) (vrl_of fun F H vs Q up fs p q => by
    obtain ⟨v, rfl, t, us, rfl, hr, pv⟩ := all2_one p
    exact ⟨t, us, rfl, .inr (.inl (up _ _ True.intro hr)), by rw [← pv.length]; exact q _ (Dp.int _)⟩) hg (hs := hs)
theorem de_lenL (g : Good W n df X N sc) (hm : W.mg "len" = none) (ha : DE X a ρ (LstOf τs)) (hg : sc.names.lookup ("len" : Str) = some .globalImplicit := by rfl) (hs : starEach [a] X.env = (false, eval a X.env) :: starEach [] X.env := by rfl) : DE X (.Call (.Name "len" p) [a] [] pos) ρ (Is (.int (τs.length : Int))) :=
  de_bi g call_len_seq hm PySem.boot_len (des_cons ha des_nil hs) (vrl_of fun F H vs Q up fs p q => by
    obtain ⟨v, rfl, t, us, rfl, hr, pv⟩ := all2_one p
    exact ⟨t, us, rfl, .inl (.inl (up _ _ True.intro hr)), by rw [← pv.length]; exact q _ (Dp.int _)⟩) hg (hs := hs)
theorem de_len (g : Good W n df X N sc) (hm : W.mg "len" = none) (ha : DE X a ρ (Is (.tuple ds))) (hg : sc.names.lookup ("len" : Str) = some .globalImplicit := by rfl) (hs : starEach [a] X.env = (false, eval a X.env) :: starEach [] X.env := by rfl) : DE X (.Call (.Name "len" p) [a] [] pos) ρ (Is (.int (ds.length : Int))) := by
  have := de_lenT (pos := pos) (p := p) g hm ha.tupT hg hs
  rwa [List.length_map] at this
theorem de_lenLI (g : Good W n df X N sc) (hm : W.mg "len" = none) (ha : DE X a ρ (Is (.list ds))) (hg : sc.names.lookup ("len" : Str) = some .globalImplicit := by rfl) (hs : starEach [a] X.env = (false, eval a X.env) :: starEach [] X.env := by rfl) : DE X (.Call (.Name "len" p) [a] [] pos) ρ (Is (.int (ds.length : Int))) := by
  have := de_lenL (pos := pos) (p := p) g hm ha.lstT hg hs
  rwa [List.length_map] at this
/-- of an own list -/
theorem de_lenO {s : Nat} {o1 : Addr} (g : Good W n df X N sc) (hm : W.mg "len" = none) (ha : DE X a ρ (At o1)) (hs' : ρ[s]? = some (.own o1 (OL τs))) (hg : sc.names.lookup ("len" : Str) = some .globalImplicit := by rfl) (hs : starEach [a] X.env = (false, eval a X.env) :: starEach [] X.env := by rfl) (hpl : (backTo pos (starEach [] X.env)).any (·.1) = false := by rfl) : DE X (.Call (.Name "len" p) [a] [] pos) ρ (Is (.int (τs.length : Int))) := fun σ F G H Q S q =>
  we_of (pe_callB call_len_seq (g.gl hg) (by rw [g.em]; exact hm) PySem.boot_len pa_w (by decide) (by decide) hs hpl) (des_cons ha des_nil hs σ F G H _ S fun vs F1 H1 x1 S1 p1 => by
    obtain ⟨v, rfl, ev⟩ := all2_one p1
    have ev : v = .ref o1 := ev
    subst ev
    obtain ⟨_, _, _, o, y4, _, us, eo, pv⟩ := S1.own s o1 _ hs'
    subst eo
    exact ⟨o1, us, rfl, .inl (.inl (.inl y4)), by rw [← pv.length]; exact q _ F1 H1 x1 S1 (Dp.int _)⟩)
/-! ### all, any, max, abs, int -/
theorem vs_map {α : Type} {s : α → Ty} {f : α → V} (h : ∀ x v F, (s x).p v F → v = f x) : ∀ {xs : List α} {vs : List V} {F : Hp}, All2 (xs.map s) vs F → vs = xs.map f
  | [], vs, F, q => by cases q; rfl
  | x :: xs, vs, F, q => by
    cases q with
    | cons a t => rw [h _ _ _ a, vs_map h t]; rfl
theorem de_all {bs : List Bool} (g : Good W n df X N sc) (hm : W.mg "all" = none) (ha : DE X a ρ (LstOf (bs.map BI))) (hg : sc.names.lookup ("all" : Str) = some .globalImplicit := by rfl) (hs : starEach [a] X.env = (false, eval a X.env) :: starEach [] X.env := by rfl) : DE X (.Call (.Name "all" p) [a] [] pos) ρ (BI (bs.all id)) :=
  de_bi g (cr_all g.calm) hm (by decide +kernel) (des_cons ha des_nil hs) (vrl_of fun F H vs Q up fs p q => by
    obtain ⟨v, rfl, t, us, rfl, hr, pv⟩ := all2_one p
    have e := vs_map (f := V.bl) (fun x v F h => by obtain ⟨c, rfl, rfl⟩ := boolP_get h; rfl) pv
    subst e
    exact ⟨t, bs, rfl, .inl (up _ _ True.intro hr), q _ (bi_of rfl)⟩) hg (hs := hs)
theorem de_any {bs : List Bool} (g : Good W n df X N sc) (hm : W.mg "any" = none) (ha : DE X a ρ (LstOf (bs.map BI))) (hg : sc.names.lookup ("any" : Str) = some .globalImplicit := by rfl) (hs : starEach [a] X.env = (false, eval a X.env) :: starEach [] X.env := by rfl) : DE X (.Call (.Name "any" p) [a] [] pos) ρ (BI (bs.any id)) :=
  de_bi g (cr_any g.calm) hm (by decide +kernel) (des_cons ha des_nil hs) (vrl_of fun F H vs Q up fs p q => by
    obtain ⟨v, rfl, t, us, rfl, hr, pv⟩ := all2_one p
    have e := vs_map (f := V.bl) (fun x v F h => by obtain ⟨c, rfl, rfl⟩ := boolP_get h; rfl) pv
    subst e
    exact ⟨t, bs, rfl, .inl (up _ _ True.intro hr), q _ (bi_of rfl)⟩) hg (hs := hs)
def isI (i : Int) : Ty := Is (.int i)
theorem vs_ints {ns : List Int} {vs : List V} {F : Hp} (h : All2 (ns.map isI) vs F) : vs = ns.map V.int := vs_map (fun x v F h => is_int h) h
theorem de_maxL {ns : List Int} (g : Good W n df X N sc) (hm : W.mg "max" = none) (ha : DE X a ρ (LstOf (ns.map isI))) (h0 : 0 < ns.length) (hg : sc.names.lookup ("max" : Str) = some .globalImplicit := by rfl) (hs : starEach [a] X.env = (false, eval a X.env) :: starEach [] X.env := by rfl) : DE X (.Call (.Name "max" p) [a] [] pos) ρ (IntP fun m => m ∈ ns ∧ ∀ y, y ∈ ns → y ≤ m) :=
  de_bi g (cr_max g.calm) hm (by decide +kernel) (des_cons ha des_nil hs) (vrl_of fun F H vs Q up fs p q => by
    obtain ⟨v, rfl, t, us, rfl, hr, pv⟩ := all2_one p
    have e := vs_ints pv
    subst e
    exact ⟨t, ns, rfl, .inl (up _ _ True.intro hr), h0, fun m h1 h2 => q _ (intP_of ⟨h1, h2⟩)⟩) hg (hs := hs)
theorem de_max2 (g : Good W n df X N sc) (hm : W.mg "max" = none) (ha : DE X a ρ (Is (.int i))) (hb : DE X b ρ (Is (.int j))) (hg : sc.names.lookup ("max" : Str) = some .globalImplicit := by rfl) (hs : starEach [a, b] X.env = (false, eval a X.env) :: starEach [b] X.env := by rfl) (hs2 : starEach [b] X.env = (false, eval b X.env) :: starEach [] X.env := by rfl) (hpl : (backTo pos (starEach [b] X.env)).any (·.1) = false := by rfl) : DE X (.Call (.Name "max" p) [a, b] [] pos) ρ (Is (.int (max i j))) :=
  de_bi g (call_max2 g.calm) hm (by decide +kernel) (des_cons ha (des_cons hb des_nil hs2) hs) (vrl_of fun F H vs Q up fs p q => by
    obtain ⟨v, w, rfl, p1, p2⟩ := all2_two p
    refine ⟨i, j, by rw [is_int p1, is_int p2], ?_⟩
    have e : (if j > i then j else i) = max i j := by split <;> omega
    rw [e]
    exact q _ (Dp.int _)) hg (hs := hs) (hpl := hpl)
theorem de_max2P {P1 P2 P3 : Int → Prop} (g : Good W n df X N sc) (hm : W.mg "max" = none) (ha : DE X a ρ (IntP P1)) (hb : DE X b ρ (IntP P2)) (k : ∀ i j, P1 i → P2 j → P3 (max i j)) (hg : sc.names.lookup ("max" : Str) = some .globalImplicit := by rfl) (hs : starEach [a, b] X.env = (false, eval a X.env) :: starEach [b] X.env := by rfl) (hs2 : starEach [b] X.env = (false, eval b X.env) :: starEach [] X.env := by rfl) (hpl : (backTo pos (starEach [b] X.env)).any (·.1) = false := by rfl) : DE X (.Call (.Name "max" p) [a, b] [] pos) ρ (IntP P3) :=
  de_bi g (call_max2 g.calm) hm (by decide +kernel) (des_cons ha (des_cons hb des_nil hs2) hs) (vrl_of fun F H vs Q up fs p q => by
    obtain ⟨v, w, rfl, p1, p2⟩ := all2_two p
    obtain ⟨i, rfl, hi⟩ := intP_get p1
    obtain ⟨j, rfl, hj⟩ := intP_get p2
    refine ⟨i, j, rfl, ?_⟩
    have e : (if j > i then j else i) = max i j := by split <;> omega
    rw [e]
    exact q _ (intP_of (k i j hi hj))) hg (hs := hs) (hpl := hpl)
theorem de_absP {P1 P2 : Int → Prop} (g : Good W n df X N sc) (hm : W.mg "abs" = none) (ha : DE X a ρ (IntP P1)) (k : ∀ i, P1 i → P2 (i.natAbs : Int)) (hg : sc.names.lookup ("abs" : Str) = some .globalImplicit := by rfl) (hs : starEach [a] X.env = (false, eval a X.env) :: starEach [] X.env := by rfl) : DE X (.Call (.Name "abs" p) [a] [] pos) ρ (IntP P2) :=
  de_bi g call_abs hm (by decide +kernel) (des_cons ha des_nil hs) (vrl_of fun F H vs Q up fs p q => by
    obtain ⟨v, rfl, p1⟩ := all2_one p
    obtain ⟨i, rfl, hi⟩ := intP_get p1
    refine ⟨i, rfl, ?_⟩
    have e : (if i < 0 then -i else i) = (i.natAbs : Int) := by split <;> omega
    rw [e]
    exact q _ (intP_of (k i hi))) hg (hs := hs)
theorem de_intP {P1 : Int → Prop} (g : Good W n df X N sc) (hm : W.mg "int" = none) (ha : DE X a ρ (IntP P1)) (hg : sc.names.lookup ("int" : Str) = some .globalImplicit := by rfl) (hs : starEach [a] X.env = (false, eval a X.env) :: starEach [] X.env := by rfl) : DE X (.Call (.Name "int" p) [a] [] pos) ρ (IntP P1) :=
  de_ty g call_int1 hm (by decide +kernel) (des_cons ha des_nil hs) (vrl_of fun F H vs Q up fs p q => by
    obtain ⟨v, rfl, p1⟩ := all2_one p
    obtain ⟨i, rfl, hi⟩ := intP_get p1
    exact .inl ⟨i, rfl, q _ (intP_of hi)⟩) hg (hs := hs)
/-! ### tuple(l), list(t), tuple(t), sorted -/
theorem vrl_new {r : List V → Hp → VK → Prop} {τs : List Ty} {τ : Ty} {o : List V → HO} (h : ∀ F H vs (Q : VK), Up F H → (∀ b, H b = none → F b = none) → All2 τs vs F → (∀ p ob, H p = none → τ.p (.ref p) (upd F p ob) → Q (.ref p) (upd H p ob)) → r vs H Q) : VRL r τs τ := fun ρ σ F G H vs Q S p q =>
  h F H vs Q S.fh S.fs p fun a ob ha pt => q _ _ _ (S.newExt ha) (S.new ha) pt
theorem de_tupleOfL (g : Good W n df X N sc) (hm : W.mg "tuple" = none) (ha : DE X a ρ (LstOf τs)) (hg : sc.names.lookup ("tuple" : Str) = some .globalImplicit := by rfl) (hs : starEach [a] X.env = (false, eval a X.env) :: starEach [] X.env := by rfl) : DE X (.Call (.Name "tuple" p) [a] [] pos) ρ (TupOf τs) :=
  de_ty g call_tuple_of hm (by decide +kernel) (des_cons ha des_nil hs) (vrl_new (o := HO.lst) fun F H vs Q up fs p q => by
    obtain ⟨v, rfl, t, us, rfl, hr, pv⟩ := all2_one p
    exact ⟨t, us, rfl, .inl ⟨.inl (up _ _ True.intro hr), fun l hl => q l (.tup us) hl ⟨l, us, rfl, .inl upd_same, pv.up (up_upd (fs l hl))⟩⟩⟩) hg (hs := hs)
theorem de_listOfT (g : Good W n df X N sc) (hm : W.mg "list" = none) (ha : DE X a ρ (TupOf τs)) (hg : sc.names.lookup ("list" : Str) = some .globalImplicit := by rfl) (hs : starEach [a] X.env = (false, eval a X.env) :: starEach [] X.env := by rfl) : DE X (.Call (.Name "list" p) [a] [] pos) ρ (LstOf τs) :=
  de_ty g call_list_of hm (by decide +kernel) (des_cons ha des_nil hs) (vrl_new (o := HO.lst) fun F H vs Q up fs p q => by
    obtain ⟨v, rfl, t, us, rfl, hr, pv⟩ := all2_one p
    exact ⟨t, us, rfl, .inr (.inl (up _ _ True.intro hr)), fun l hl => q l (.lst us) hl ⟨l, us, rfl, .inl upd_same, pv.up (up_upd (fs l hl))⟩⟩) hg (hs := hs)
theorem de_listOfL (g : Good W n df X N sc) (hm : W.mg "list" = none) (ha : DE X a ρ (LstOf τs)) (hg : sc.names.lookup ("list" : Str) = some .globalImplicit := by rfl) (hs : starEach [a] X.env = (false, eval a X.env) :: starEach [] X.env := by rfl) : DE X (.Call (.Name "list" p) [a] [] pos) ρ (LstOf τs) :=
  de_ty g call_list_of hm (by decide +kernel) (des_cons ha des_nil hs) (vrl_new (o := HO.lst) fun F H vs Q up fs p q => by
    obtain ⟨v, rfl, t, us, rfl, hr, pv⟩ := all2_one p
    exact ⟨t, us, rfl, .inl (.inl (up _ _ True.intro hr)), fun l hl => q l (.lst us) hl ⟨l, us, rfl, .inl upd_same, pv.up (up_upd (fs l hl))⟩⟩) hg (hs := hs)
theorem all2_ints {F : Hp} : ∀ ns : List Int, All2 (ns.map isI) (ns.map V.int) F
  | [] => .nil
  | m :: ns => .cons (Dp.int m) (all2_ints ns)
theorem de_sortedI {ns : List Int} (g : Good W n df X N sc) (hm : W.mg "sorted" = none) (ha : DE X a ρ (LstOf (ns.map isI))) (hg : sc.names.lookup ("sorted" : Str) = some .globalImplicit := by rfl) (hs : starEach [a] X.env = (false, eval a X.env) :: starEach [] X.env := by rfl) : DE X (.Call (.Name "sorted" p) [a] [] pos) ρ (Some' fun (q : { ms : List Int // ms.Perm ns ∧ ms.Pairwise (· ≤ ·) }) => LstOf (q.1.map isI)) :=
  de_bi g cr_sortedI hm (by decide +kernel) (des_cons ha des_nil hs) (vrl_new (o := HO.lst) fun F H vs Q up fs p q => by
    obtain ⟨v, rfl, t, us, rfl, hr, pv⟩ := all2_one p
    have e := vs_ints pv
    subst e
    exact ⟨t, ns, rfl, .inl (up _ _ True.intro hr), fun ms l h1 h2 hl => q l _ hl ⟨⟨ms, h1, h2⟩, l, _, rfl, .inl upd_same, all2_ints ms⟩⟩) hg (hs := hs)
/-! ### in, not in -/
theorem eqV_int : eqV (.int i) (.int j) = decide (i = j) := by
  rw [Bool.eq_iff_iff]
  simp [eqV]
theorem inV_ints (ns : List Int) : inV (.int i) (ns.map V.int) = decide (i ∈ ns) := by
  unfold inV
  rw [List.any_map]
  induction ns with
  | nil => simp
  | cons m ns ih =>
    rw [List.any_cons, ih]
    simp only [Function.comp, eqV_int, List.mem_cons]
    by_cases h : m = i
    · subst h; simp
    · have h' : ¬ i = m := fun z => h z.symm
      simp [h, h']
theorem flat_ints (ns : List Int) : (ns.map V.int).all flatV = true := by
  rw [List.all_map]
  exact List.all_eq_true.mpr fun _ _ => rfl
theorem dt_inT {ns : List Int} (ha : DE X a ρ (Is (.int i))) (hb : DE X b ρ (TupOf (ns.map isI))) (hm : behindInMarks .In b = false := by rfl) : DT X (.Compare a [.In] [b] pos) ρ (fun c => c = decide (i ∈ ns)) :=
  dt_cmp op_in_seq ha hb (vr_of fun F H x y Q up fs p1 p2 q => by
    obtain ⟨t, us, rfl, hr, pv⟩ := p2
    have e := vs_ints pv
    subst e
    rw [is_int p1]
    refine ⟨t, _, rfl, .inr (.inl (up _ _ True.intro hr)), rfl, flat_ints ns, q _ (bi_of ?_)⟩
    rw [if_neg Bool.false_ne_true, inV_ints]) hm
theorem de_inT {ns : List Int} (ha : DE X a ρ (Is (.int i))) (hb : DE X b ρ (TupOf (ns.map isI))) (hm : behindInMarks .In b = false := by rfl) : DE X (.Compare a [.In] [b] pos) ρ (BI (decide (i ∈ ns))) :=
  de_cmp op_in_seq ha hb (vr_of fun F H x y Q up fs p1 p2 q => by
    obtain ⟨t, us, rfl, hr, pv⟩ := p2
    have e := vs_ints pv
    subst e
    rw [is_int p1]
    refine ⟨t, _, rfl, .inr (.inl (up _ _ True.intro hr)), rfl, flat_ints ns, q _ (bi_of ?_)⟩
    rw [if_neg Bool.false_ne_true, inV_ints]) hm
theorem dt_notInT {ns : List Int} (ha : DE X a ρ (Is (.int i))) (hb : DE X b ρ (TupOf (ns.map isI))) (hm : behindInMarks .NotIn b = false := by rfl) : DT X (.Compare a [.NotIn] [b] pos) ρ (fun c => c = !decide (i ∈ ns)) :=
  dt_cmp op_notIn_seq ha hb (vr_of fun F H x y Q up fs p1 p2 q => by
    obtain ⟨t, us, rfl, hr, pv⟩ := p2
    have e := vs_ints pv
    subst e
    rw [is_int p1]
    refine ⟨t, _, rfl, .inr (.inl (up _ _ True.intro hr)), rfl, flat_ints ns, q _ (bi_of ?_)⟩
    rw [if_pos rfl, inV_ints]) hm
theorem de_notInT {ns : List Int} (ha : DE X a ρ (Is (.int i))) (hb : DE X b ρ (TupOf (ns.map isI))) (hm : behindInMarks .NotIn b = false := by rfl) : DE X (.Compare a [.NotIn] [b] pos) ρ (BI (!decide (i ∈ ns))) :=
  de_cmp op_notIn_seq ha hb (vr_of fun F H x y Q up fs p1 p2 q => by
    obtain ⟨t, us, rfl, hr, pv⟩ := p2
    have e := vs_ints pv
    subst e
    rw [is_int p1]
    refine ⟨t, _, rfl, .inr (.inl (up _ _ True.intro hr)), rfl, flat_ints ns, q _ (bi_of ?_)⟩
    rw [if_pos rfl, inV_ints]) hm
/-! ### truth of tuples and lists -/
theorem dt_tupT (ha : DE X a ρ (TupOf τs)) (he : ∀ whole, isTrue a X.env whole = (do let v ← whole; standAt a.pos; holding [v] (truthy v)) := by intro _; rfl) : DT X a ρ (fun c => c = !τs.isEmpty) := fun σ F G H Q S q =>
  wt_of (pt_truth pe_w he) (ha σ F G H _ S fun v F1 H1 x1 S1 p1 => by
    obtain ⟨t, us, rfl, hr, pv⟩ := p1
    refine ⟨!us.isEmpty, .inr (.inl ⟨us, .inl (S1.fh _ _ True.intro hr), rfl⟩), q _ F1 H1 ?_ x1 S1⟩
    cases pv <;> rfl)
theorem dt_lstT (ha : DE X a ρ (LstOf τs)) (he : ∀ whole, isTrue a X.env whole = (do let v ← whole; standAt a.pos; holding [v] (truthy v)) := by intro _; rfl) : DT X a ρ (fun c => c = !τs.isEmpty) := fun σ F G H Q S q =>
  wt_of (pt_truth pe_w he) (ha σ F G H _ S fun v F1 H1 x1 S1 p1 => by
    obtain ⟨t, us, rfl, hr, pv⟩ := p1
    refine ⟨!us.isEmpty, .inl ⟨us, .inl (S1.fh _ _ True.intro hr), rfl⟩, q _ F1 H1 ?_ x1 S1⟩
    cases pv <;> rfl)
/-! ### own lists: append, store -/
theorem ds_append {s : Nat} {y : Str} {o1 : Addr} {pa pm pc ps : Pos} (g : Good W n df X N sc) (hs : ρ[s]? = some (.own o1 (OL τs))) (hv : DE X a ρ τ) (hz : τs.length ≤ 1000000) (kx : P.nx (ρ.set s (.own o1 (OL (τs ++ [τ]))))) (hN : N[s]? = some y := by rfl)
    (hv' : sc.names.lookup y = some .local ∨ sc.names.lookup y = some .cell ∨ sc.names.lookup y = some .free := by first | exact Or.inl rfl | exact Or.inr (Or.inl rfl) | exact Or.inr (Or.inr rfl))
    (hd : (y == ("__debug__" : Str)) = false := by decide) (hcd : (y == ("__classdict__" : Str)) = false := by decide) (hst : starEach [a] X.env = (false, eval a X.env) :: starEach [] X.env := by rfl) (hpe : PE X (.Call (.Attribute (.Name y pa) "append" pm) [a] [] pc) (tBM X.K "list" rAppend (WE X (.Name y pa)) (tCons (WE X a) tNil)) := by exact pe_bm PySem.F.plainAttrs_list PySem.F.slot_list_append PySem.F.type_list_append mt_append pe_w (pa_cons pe_w pa_nil)) : DS X (.Expr (.Call (.Attribute (.Name y pa) "append" pm) [a] [] pc) ps) ρ P := fun σ F G H D S ok =>
  ws_of (ps_expr hpe rfl) (de_own g hs hN hv' hd hcd σ F G H _ S fun v F1 H1 x1 S1 p1 => by
    have ev : v = .ref o1 := p1
    subst ev
    obtain ⟨_, _, _, o, y4, _, us, eo, pv⟩ := S1.own s o1 _ hs
    subst eo
    refine ⟨.inl ⟨rfl, _, .inl (.inl y4)⟩, hv σ F1 G H1 _ S1 fun z F2 H2 x2 S2 p2 => ?_⟩
    obtain ⟨_, _, _, o, y4, _, us, eo, pv⟩ := S2.own s o1 _ hs
    subst eo
    refine ⟨o1, us, z, rfl, rfl, y4, ?_, ok.nx _ σ F2 _ kx (x1.trans x2) (S2.write hs True.intro ⟨us ++ [z], rfl, pv.append (.cons p2 .nil)⟩)⟩
    have h1 := pv.length
    have h2 := sizeLine_eq
    omega)
theorem ds_store {s : Nat} {y : Str} {o1 : Addr} {m : Nat} {pa pm ps : Pos} (g : Good W n df X N sc) (hs : ρ[s]? = some (.own o1 (OL τs))) (hi : DE X b ρ (Is (.int (m : Int)))) (hm : m < τs.length) (hv : DE X a ρ τ) (kx : P.nx (ρ.set s (.own o1 (OL (τs.set m τ))))) (hN : N[s]? = some y := by rfl)
    (hv' : sc.names.lookup y = some .local ∨ sc.names.lookup y = some .cell ∨ sc.names.lookup y = some .free := by first | exact Or.inl rfl | exact Or.inr (Or.inl rfl) | exact Or.inr (Or.inr rfl))
    (hd : (y == ("__debug__" : Str)) = false := by decide) (hcd : (y == ("__classdict__" : Str)) = false := by decide) (hps : PS X (.Assign [.Subscript (.Name y pa) b pm] a ps) (tAsg (WE X a) (gSub (WE X (.Name y pa)) (WE X b) rSetL)) := by exact ps_asg pe_w (pg_sub pe_w pe_w set_list)) : DS X (.Assign [.Subscript (.Name y pa) b pm] a ps) ρ P := fun σ F G H D S ok =>
  ws_of hps (hv σ F G H _ S fun z F1 H1 x1 S1 p1 => de_own g hs hN hv' hd hcd σ F1 G H1 _ S1 fun v F2 H2 x2 S2 p2 => hi σ F2 G H2 _ S2 fun w F3 H3 x3 S3 p3 => by
    have ev : v = .ref o1 := p2
    subst ev
    have ew := is_int p3
    subst ew
    obtain ⟨_, _, _, o, y4, _, us, eo, pv⟩ := S3.own s o1 _ hs
    subst eo
    refine ⟨o1, us, (m : Int), m, rfl, rfl, y4, ?_, ok.nx _ σ F3 _ kx (x1.trans (x2.trans x3)) (S3.write hs True.intro ⟨us.set m z, rfl, pv.set (τ.up _ _ _ (x2.trans x3).up p1) m⟩)⟩
    rw [← pv.length]
    unfold ixN
    rw [if_pos (by omega), if_pos (by omega), Int.toNat_natCast])
/-! ### a, b = e1, e2 -/
theorem ds_par {i1 i2 : Nat} {y z : Str} {pa pb pt pt2 ps : Pos} {kt k2 : Nat} (g : Good W n df X N sc) (ha : DE X a ρ τ1) (hb : DE X b ρ τ2) (kx : P.nx ((ρ.set i1 (.dat τ1)).set i2 (.dat τ2))) (hy : N[i1]? = some y := by rfl) (hz : N[i2]? = some z := by rfl) (h1 : i1 < ρ.length := by first | decide | assumption | exact lt_of_get rfl) (h2 : i2 < ρ.length := by first | decide | assumption | exact lt_of_get rfl) (hne : i1 ≠ i2 := by decide)
    (ly : sc.names.lookup y = some .local := by rfl) (lz : sc.names.lookup z = some .local := by rfl)
    (hw : swappedStores [.Tuple [.Name y pa, .Name z pb] kt pt] (.Tuple [a, b] k2 pt2) X.env = pure (some [y, z]))
    (hs1 : starEach [a, b] X.env = (false, eval a X.env) :: starEach [b] X.env := by rfl) (hs2 : starEach [b] X.env = (false, eval b X.env) :: starEach [] X.env := by rfl) : DS X (.Assign [.Tuple [.Name y pa, .Name z pb] kt pt] (.Tuple [a, b] k2 pt2) ps) ρ P := fun σ F G H D S ok =>
  ws_of (ps_par (i := i1) (j := i2) g.calm (by rw [g.eN]; exact g.nd) (by rw [g.eN]; exact hy) (by rw [g.eN]; exact hz) hne (by rw [g.es]; exact ly) (by rw [g.es]; exact lz) pa_w hw rfl) (des_cons ha (des_cons hb des_nil hs2) hs1 σ F G H _ S fun vs F1 H1 x1 S1 p1 => by
    obtain ⟨v, w, rfl, p1, p2⟩ := all2_two p1
    exact ⟨v, w, rfl, ok.nx _ _ F1 H1 kx x1 ((S1.setD p1 h1).setD p2 (by rw [List.length_set]; exact h2))⟩)
end
end K35
set_option Elab.async false
set_option linter.all false
set_option maxRecDepth 100000
set_option maxHeartbeats 4000000
/-! the data layer: more of sequences -/
namespace K35
open PySem PySem.Spec L2
open PyProof.Rows hiding St

/-! ### t[::-1] -/
theorem rev_adjust (n : Nat) : Builtin.Slice.sliceAdjust none none (-1) (n : Int) = ((n : Int) - 1, -1) := by
  unfold Builtin.Slice.sliceAdjust
  first
    | rfl
    | simp
theorem rev_places (n : Nat) : Builtin.Slice.slicePlaces ((n : Int) - 1) (-1) (-1) = n := by
  unfold Builtin.Slice.slicePlaces
  have h1 : ¬ ((-1 : Int) > 0) := by decide
  have h2 : (- (-1 : Int)) = 1 := by decide
  simp only [h1, if_false, h2, Int.ediv_one]
  split <;> omega
theorem fm_congr {α β : Type} {f g : α → Option β} : ∀ {l : List α}, (∀ x ∈ l, f x = g x) → l.filterMap f = l.filterMap g
  | [], _ => rfl
  | a :: l, h => by
    rw [List.filterMap_cons, List.filterMap_cons, h a (List.mem_cons_self ..), fm_congr fun x hx => h x (List.mem_cons_of_mem _ hx)]
theorem rev_pick (xs : Array Value) : ((List.range xs.size).filterMap fun (m : Nat) => xs[(((xs.size : Nat) : Int) - 1 + (m : Int) * (-1)).toNat]?).toArray = xs.toList.reverse.toArray := by
  have e : (List.range xs.size).filterMap (fun (m : Nat) => xs[(((xs.size : Nat) : Int) - 1 + (m : Int) * (-1)).toNat]?) = ((List.range xs.size).map fun k => xs.size - 1 - k).filterMap (xs[·]?) := by
    rw [List.filterMap_map]
    exact fm_congr fun m hm => by
      have := List.mem_range.mp hm
      show xs[(((xs.size : Nat) : Int) - 1 + (m : Int) * (-1)).toNat]? = xs[xs.size - 1 - m]?
      rw [show (((xs.size : Nat) : Int) - 1 + (m : Int) * (-1)).toNat = xs.size - 1 - m by omega]
  rw [e, PySem.W.krv_range, List.filterMap_reverse, PySem.W.krv_all]
section
variable {prog : Program} {w : World} {A : Around} {E : Value → Shared → Prop} {s : Shared}
theorem slice_rev {sl : Addr} {vs : Value} {n : Nat} {Q : Int × Int × Nat → Shared → Prop} (hs : s.heap.IsSliceOf sl .none .none vs) (ps : IsPart vs (some (-1)))
    (h : Q ((n : Int) - 1, -1, n) s) : wpAny (model prog w) A (Builtin.Slice.sliceApplied (.ref sl) (pure (n : Int))) Q E s := by
  obtain ⟨os, hos, hcs, hds⟩ := id hs
  unfold Builtin.Slice.sliceApplied Builtin.Slice.sliceFields
  refine wpAny_bind (wpAny_bind (wpAny_field hos hds (x := .none) rfl (wpAny_bind (wpAny_field hos hds (x := .none) rfl (wpAny_bind (wpAny_field hos hds (x := vs) rfl (wpAny_pure ?_)))))))
  refine wpAny_bind (HT.slicePart_ ps ?_)
  show wpAny _ _ (if ((-1 : Int) == 0) = true then _ else _) _ _ s
  rw [if_neg (by decide)]
  refine wpAny_bind (HT.slicePart_ .none (wpAny_bind (HT.slicePart_ .none (wpAny_bind (wpAny_pure ?_)))))
  show wpAny _ _ (match Builtin.Slice.sliceAdjust none none (-1) (n : Int) with | (lo, hi) => pure (lo, (-1 : Int), Builtin.Slice.slicePlaces lo hi (-1))) _ _ s
  rw [rev_adjust]
  show wpAny _ _ (pure ((n : Int) - 1, (-1 : Int), Builtin.Slice.slicePlaces ((n : Int) - 1) (-1) (-1))) _ _ s
  rw [rev_places]
  exact wpAny_pure h
theorem getItem_tuple_rev {t sl : Addr} {items : Array Value} {vs : Value} {Q : Value → Shared → Prop} (ht : IsTup s.heap t items) (hs : s.heap.IsSliceOf sl .none .none vs) (ps : IsPart vs (some (-1)))
    (h : Q (.ref s.heap.objs.size) { s with heap := s.heap.push { cls := .type "tuple", data := .seq items.toList.reverse.toArray } })
    (hsz : items.size ≤ sizeLine) : wpAny (model prog w) A (getItem (.ref t) (.ref sl)) Q E s := by
  have hsize : sizeOk (.seq items.toList.reverse.toArray) := by
    show items.toList.reverse.toArray.size ≤ sizeLine
    rw [List.size_toArray, List.length_reverse, Array.length_toList]
    exact hsz
  obtain ⟨os, hos, hcs, hds⟩ := id hs
  have hTs : s.TypeIs (.ref sl) "slice" := ⟨os, hos, hcs⟩
  unfold getItem
  try with_reducible refine wpAny_holding ?_
  first | refine wpAny_bind (wpAny_pure ?_) | skip
  refine wpAny_bind (wpAny_sequenceKey ht.typeIs (by decide) ?_)
  refine wpAny_bind (wpAny_callSpecial?_slot (name := Str.ofString "__getitem__") ht.typeIs PyProof.Rows.slot_tuple_getitem
    (wpAny_call_entry PyProof.Rows.slot_tuple_getitem ht.typeIs entry_tuple_getitem ?_ (args_tuple_getitem _ _)))
  show wpAny _ _ (Builtin.Tuple.tupleItemsOf (.ref t) >>= _) _ _ s
  refine wpAny_bind (tupleItemsOf_ ht ?_)
  refine wpAny_bind (wpAny_typeOf hTs ?_)
  rw [if_pos (by decide)]
  refine wpAny_bind (slice_rev hs ps ?_)
  have hno : ¬ ((((items.size : Nat) : Int) - 1 == 0 && (-1 : Int) == 1 && items.size == items.size) = true) := by
    intro q
    rw [Bool.and_eq_true, Bool.and_eq_true] at q
    exact absurd (eq_of_beq q.1.2) (by decide)
  show wpAny _ _ (if (((items.size : Nat) : Int) - 1 == 0 && (-1 : Int) == 1 && items.size == items.size) = true then _ else _) _ _ s
  rw [if_neg hno, rev_pick]
  first
    | exact wpAny_bind (m := Builtin.Tuple.tupleExact _) (wpAny_newObj_type (wpAny_pure ⟨_, rfl, wpAny_pure h⟩) hsize)
    | exact wpAny_bind (m := Builtin.Tuple.tupleExact _) (wpAny_newObj_type (wpAny_bind (wpAny_pure (wpAny_pure ⟨_, rfl, wpAny_pure h⟩))) hsize)
    | exact wpAny_bind (wpAny_bind (m := Builtin.Tuple.tupleExact _) (wpAny_newObj_type (wpAny_pure (wpAny_pure ⟨_, rfl, wpAny_pure h⟩)) hsize))
    | exact wpAny_bind (wpAny_bind (m := Builtin.Tuple.tupleExact _) (wpAny_newObj_type (wpAny_pure ⟨_, rfl, wpAny_pure h⟩) hsize))
end
def tRevT (K : PySem.W.Frag) (te : TE) : TE := fun σ H Q => te σ H fun x H1 => ∃ a xs, x = .ref a ∧ SqT K H1 a xs ∧ ∀ p, H1 p = none → Q (.ref p) (upd H1 p (.tup xs.reverse))
theorem pe_revT {X : Cx} {e : Expr} {te : TE} {k : Nat} {p1 p2 p3 pos : Pos} (he : PE X e te) : PE X (.Subscript e (.Slice none none (some (.UnaryOp .USub (.Constant (.int 1) k p1) p2)) p3) pos) (tRevT X.K te) := by
  refine ⟨fun pins s σ H Q I h => ?_⟩
  refine Subscript_ (thn (he.run pins s σ H _ I h) fun v s1 ⟨x, H1, I1, r1, q1⟩ => ?_)
  obtain ⟨a, xs, ex, hx, q⟩ := q1
  subst ex
  cases r1
  have hst : PO X (some (.UnaryOp .USub (.Constant (.int 1) k p1) p2)) (tPart (tUn (rU fun i => .int (-i)) (tC (.int 1)))) := po_some (pe_un un_neg pe_int)
  refine wpAny_Slice ?_
  rw [evalPart_none]
  refine wpAny_pure ?_
  refine wpAny_pure (thn (hst.run pins s1 σ H1 (fun o H4 => o = some (-1) ∧ H4 = H1) I1 ⟨1, rfl, -1, rfl, rfl, rfl⟩) fun vs s4 ⟨o, H4, I4, ps, eo, e4⟩ => ?_)
  subst eo e4
  have I5 : Inv X pins σ H4 { s4 with heap := s4.heap.push { cls := .type "slice", data := .fields #[.none, .none, vs] } } := I4.kept (t' := s4.toks) fun b ob q => Heap.get?_push_of_some _ q
  obtain ⟨its, r, ht, hz⟩ := I5.tuple hx
  have hlen := r.length
  show wpAny (model X.prog X.w) X.A (subscriptTail e (.Slice none none (some (.UnaryOp .USub (.Constant (.int 1) k p1) p2)) p3) (.ref a) (.ref s4.heap.objs.size)) (EP X pins σ Q) X.xe { s4 with heap := s4.heap.push { cls := .type "slice", data := .fields #[.none, .none, vs] } }
  refine tail_any (ops := [.ref a, .ref s4.heap.objs.size]) ht.typeIs PyProof.Rows.slot_tuple_getitem.lookup ?_ (by with_unfolding_all rfl)
  refine getItem_tuple_rev ht (Heap.IsSliceOf.new _ .none .none vs) ps ?_ (by rw [List.size_toArray]; omega)
  refine ⟨.ref _, _, I5.laid (t' := s4.toks) (o := .tup xs.reverse) (fun b ob q => Heap.get?_push_of_some _ q) (Nat.le_refl _) ?_, rfl, q _ (I5.hok.fresh (Nat.le_refl _))⟩
  exact ⟨by rw [List.length_reverse]; exact hz, _, r.reverse, IsTup.new _ _⟩

/-! ### enumerate(t) -/
set_option maxHeartbeats 1000000 in
theorem meets_enumT {v : Value} {o : Obj} {H : Heap → Prop} (B : Begins v o H) :
    Meets (Builtin.«enumerate.__new__» ⟨[.type "enumerate", v], []⟩) (fun _ R s => H s.heap ∧
      R (.ok (.ret (.ref (s.heap.push o).objs.size))) { s with heap := (s.heap.push o).push { cls := .type "enumerate", data := .fields #[.none, .bool false, .ref s.heap.objs.size, rawInt 0, .none, .none] } }) :=
  .of_wp fun prog w A R s h => by
    obtain ⟨hp, g, d, tk, os⟩ := s; obtain ⟨h1, h⟩ := h
    have hsub := sub_enumerate
    have q1 : ∀ {A' : Around} {E : Value → Shared → Prop} {Q : Value → Shared → Prop}, Q (.ref hp.objs.size) ⟨hp.push o, g, d, tk, os⟩ → wpAny (model prog w) A' (pyIter v) Q E ⟨hp, g, d, tk, os⟩ :=
      fun q => B.iter prog w _ _ ⟨hp, g, d, tk, os⟩ _ h1 q
    wp_walk using q1
    refine wpAny_stack_any fun st => wpAny_pure ?_
    split
    · rename_i c _ _ _ _ _
      cases (c == Value.type "enumerate")
      · wp_walk using q1
        exact ⟨_, rfl, h⟩
      · wp_walk using q1
        exact ⟨_, rfl, h⟩
    · wp_walk using q1
      exact ⟨_, rfl, h⟩
theorem call_enumT {prog : Program} {w : World} {A : Around} {E : Value → Shared → Prop} {s : Shared} {v : Value} {o : Obj} {H : Heap → Prop} {Q : Value → Shared → Prop} (B : Begins v o H) (h1 : H s.heap)
    (h : ∀ h', IsEnum h' (s.heap.objs.size + 1) s.heap.objs.size 0 .none → h'.get? s.heap.objs.size = some o → h'.objs.size = s.heap.objs.size + 2 →
      (∀ b o, s.heap.get? b = some o → h'.get? b = some o) → Q (.ref (s.heap.objs.size + 1)) { s with heap := h' }) :
    wpAny (model prog w) A (call (.type "enumerate") [v]) Q E s := by
  refine callType_new F.called_enumerate (by decide) (F.typeCall_enumerate_1 _) (F.newCall_enumerate_1 _) (fun obj => F.args_object_init_2 obj _) F.entry_enumerate_new
    (meets_enumT B) ⟨h1, ?_⟩
  have hz : (s.heap.push o).objs.size = s.heap.objs.size + 1 := Heap.size_push ..
  show _ ∧ _
  rw [hz]
  have he : IsEnum ((s.heap.push o).push { cls := .type "enumerate", data := .fields #[.none, .bool false, .ref s.heap.objs.size, rawInt 0, .none, .none] }) (s.heap.objs.size + 1) s.heap.objs.size 0 .none := by
    have := Heap.get?_push_size (s.heap.push o) (o := { cls := .type "enumerate", data := .fields #[.none, .bool false, .ref s.heap.objs.size, rawInt 0, .none, .none] }) rfl
    rw [hz] at this; exact this
  exact ⟨⟨_, he, rfl⟩, h _ he (Heap.get?_push_of_some _ (Heap.get?_push_size _ B.free)) (by rw [Heap.size_push, hz]) fun b o x => Heap.get?_push_of_some _ (Heap.get?_push_of_some _ x)⟩
/-- the tuple at a, each item in a new pair -/
def IteT (K : PySem.W.Frag) (a : Addr) : It :=
  ⟨fun i H => ∃ (xs : List V) (x : V), SqT K H a xs ∧ xs[i]? = some x, fun i H v H' => ∃ T x, v = .ref T ∧ H T = none ∧ H' = upd H T (.tup [.int (i : Nat), x]) ∧ ∀ xs, SqT K H a xs → xs[i]? = some x, fun i H => ∃ xs : List V, SqT K H a xs ∧ xs.length ≤ i⟩
theorem turn_enumT {P : Program} {w : World} {K : PySem.W.Frag} {elts : List Expr} {kk : Nat} {tpos : Pos} (a e it : Addr) :
    Turn P w K (.Tuple elts kk tpos) (IteT K a) [e, it] e (fun i h => (∃ old, IsEnum h e it ((i : Nat) : Int) old) ∧ h.IsTupleIter it a i ∧ e ≠ it ∧ a ≠ it) where
  mem := by simp
  obj := fun i h st b hb => by
    obtain ⟨⟨old, he⟩, ⟨o, ho, hc, hd⟩, _⟩ := st
    have e' : b = e ∨ b = it := by simpa using hb
    rcases e' with z | z
    · rw [z]; exact ⟨_, he, fun v q => nomatch q⟩
    · rw [z]; exact ⟨o, ho, fun v q => by rw [hd] at q; cases q⟩
  keep := fun i h h' st k => let ⟨⟨old, he⟩, hi, hne, hn2⟩ := st; ⟨⟨old, k e (by simp) _ he⟩, hi.at fun o q => k it (by simp) o q, hne, hn2⟩
  item := by
    intro X hP hw hK hc i pins s σ H E I hf st hg
    subst hP hw hK
    obtain ⟨⟨old, he⟩, hit, hne, hna⟩ := st
    obtain ⟨xs, x, hq, hx⟩ := hg
    obtain ⟨its, rv, p, hz⟩ := I.tuple hq
    obtain ⟨u, hu, ru⟩ := rv.get hx
    have hel : e < s.heap.objs.size := Heap.lt_size he
    have hil : it < s.heap.objs.size := by obtain ⟨_, q, _⟩ := hit; exact Heap.lt_size q
    have hea : e ≠ a := fun z => by
      obtain ⟨ob, ho, hcl, _⟩ := p
      rw [← z] at ho
      have e2 := he.symm.trans ho
      cases e2
      exact absurd (show Value.type "enumerate" = Value.type "tuple" from hcl) (by decide +kernel)
    have hlt : i < its.toArray.size := by
      rw [List.size_toArray]
      exact (List.getElem?_eq_some_iff.mp hu).1
    refine wpAny_pyNext_enum_itemD (Draws.tuple (A := X.A.in1) (I.ok.hd hc) it a hna its.toArray) he ⟨hit, p⟩ hlt hne (by simp [hne, hea]) fun y h' tk hy ho hit' hT hsz hk => ?_
    have ey : y = u := by
      have hy' : its.toArray[i]? = some y := hy
      have h2 : its.toArray[i]? = some u := by simpa using hu
      rw [h2] at hy'
      exact (Option.some.inj hy').symm
    subst ey
    refine ⟨_, rfl, wpAny_letOwnedTupleGo_enum (s := { s with heap := h', toks := tk + 1 }) ho fun h'' he' sb => ?_⟩
    have hT2 : h''.get? s.heap.objs.size = some { cls := .type "tuple", data := .seq #[.int i tk, y] } := (sb.2 _ (Nat.ne_of_gt hel)).trans hT
    have new : ObjOk X.prog X.w (upd H s.heap.objs.size (.tup [.int (i : Nat), x])) h'' s.heap.objs.size (.tup [.int (i : Nat), x]) :=
      ⟨by show 2 ≤ sizeLine; decide, [.int i tk, y], .cons ⟨_, rfl⟩ (.cons ru .nil), ⟨_, hT2, rfl, _, rfl⟩⟩
    have I1 : Inv X pins σ (upd H s.heap.objs.size (.tup [.int (i : Nat), x])) { s with heap := h'', toks := tk + 1 } :=
      I.turnedNew (ch := [e, it]) (fun b ob hb q => (sb.2 b (fun z => hb (by simp [z]))).trans (hk b ob (fun z => hb (by simp [z])) (fun z => hb (by simp [z])) q)) hf (Nat.le_refl _) new
    refine ⟨.ref s.heap.objs.size, _, I1, rfl, ⟨_, x, rfl, I.hok.fresh (Nat.le_refl _), rfl, fun ys hy => by rw [I.tuple_inj hy hq]; exact hx⟩, ⟨⟨y, ?_⟩, hit'.1.at fun o q => (sb.2 it (Ne.symm hne)).trans q, hne, hna⟩, fun b hb => ?_⟩
    · have e1 : ((i + 1 : Nat) : Int) = (i : Int) + 1 := by omega
      rw [e1]; exact he'
    · have hb' : b < s.heap.objs.size := by
        have e' : b = e ∨ b = it := by simpa using hb
        rcases e' with z | z
        · rw [z]; exact hel
        · rw [z]; exact hil
      rw [upd_ne (Nat.ne_of_lt hb')]
      exact (hf b hb).1
  done := by
    intro X hP hw hK hc i pins s σ H E I hf st hg
    subst hP hw hK
    obtain ⟨⟨old, he⟩, hit, hne, hna⟩ := st
    obtain ⟨xs, hq, hx⟩ := hg
    obtain ⟨its, rv, p, hz⟩ := I.tuple hq
    obtain ⟨f0, f1, f2, f3, f4, f5⟩ := hf it (by simp)
    have hl := rv.length
    have hT : s.TypeIs (.ref e) "enumerate" := ⟨_, he, rfl⟩
    unfold pyNext
    refine wpAny_bind (wpAny_attempt (wpAny_callSpecial?_slot (name := Str.ofString "__next__") hT F.slot_enumerate_next
      (wpAny_call_entry F.slot_enumerate_next hT F.entry_enumerate_next ?_ (F.args_enumerate_next_1 _))))
    show wpAny _ _ (field (.ref e) 2 >>= _) _ _ _
    refine wpAny_bind (wpAny_field he rfl (x := .ref it) rfl ?_)
    refine wpAny_bind (wpAny_nextOf_tuple_end (I.ok.hd hc) hit p (by simp; omega) fun h' x he' hx' => ?_)
    obtain ⟨o, ho, hcl⟩ := hx'
    refine wpAny_bind (wpAny_isInstance (T := "StopIteration") (b := true) ⟨o, ho, hcl⟩ isSubtype_stop ?_)
    exact wpAny_pure ⟨rfl, I.turned (t' := s.toks) (fun b o hb q => he' b o hb q) f0 f1 f3 f4 f5⟩
  self := fun A i s Q E st h => let ⟨⟨_, he⟩, _⟩ := st; wpAny_pyIter_enum he h
def iEnumT (K : PySem.W.Frag) (ta : TA) : TI := fun σ H R => ta σ H fun vs H1 => ∃ a xs, vs = [.ref a] ∧ SqT K H1 a xs ∧ R (IteT K a) H1
theorem pi_enumT {X : Cx} {e : Expr} {ta : TA} {p pos tpos : Pos} {elts : List Expr} {kk : Nat} (hg : Gl X "enumerate") (hm : X.mg "enumerate" = none) (ha : PA X [e] ta) (hs : starEach [e] X.env = [(false, eval e X.env)] := by rfl) :
    PI X (.Tuple elts kk tpos) (.Call (.Name "enumerate" p) [e] [] pos) (iEnumT X.K ta) := by
  refine ⟨fun pins s σ H R I h => ?_⟩
  refine Call_ (ld_blt I hg hm boot_enumerate (PyProof.Rows.callWith_type1 (thn (ha.run pos pins s σ H _ I h) fun us s1 ⟨vs, H1, I1, r1, q1⟩ => ?_) hs rfl))
  obtain ⟨a, xs, ex, hq, q⟩ := q1
  subst ex
  cases r1 with
  | cons r rr =>
    cases rr
    cases r
    obtain ⟨its, rv, p', hz⟩ := I1.tuple hq
    have hal : a < s1.heap.objs.size := p'.lt
    refine call_enumT (begins_tuple a its.toArray) p' fun h' he hit hsz hk => wpAny_pyIter_enum he ?_
    have I2 : Inv X pins σ H1 { s1 with heap := h' } := I1.kept (t' := s1.toks) hk
    refine ⟨s1.heap.objs.size + 1, [s1.heap.objs.size + 1, s1.heap.objs.size], _, _, H1, rfl, I2, turn_enumT a (s1.heap.objs.size + 1) s1.heap.objs.size, ⟨⟨.none, he⟩, ⟨_, hit, rfl, rfl⟩, Nat.succ_ne_self _, Nat.ne_of_lt hal⟩, fun b hb => ?_, q⟩
    have e' : b = s1.heap.objs.size + 1 ∨ b = s1.heap.objs.size := by simpa using hb
    have hle : s1.heap.objs.size ≤ b := by
      rcases e' with z | z
      · rw [z]; exact Nat.le_add_right _ _
      · rw [z]; exact Nat.le_refl _
    exact I1.fpOk hle (I1.hok.fresh hle)
section
variable {W : Wd} {n k : Nat} {df : Bool} {X : Cx} {N ps : List Str} {sc : Scope} {e a b : Expr} {es : List Expr} {ρ : List Sl} {P : Post} {τ τ' τ1 τ2 : Ty} {τs : List Ty} {β : Bool → Prop} {pos p p2 : Pos} {x : Str} {i j : Int} {d d' : PyData} {ds ds' : List PyData}
/-- for i, y in enumerate(t) -/
def enumT (τs : List Ty) : List Ty := (List.range τs.length).map fun i => TupOf [Is (.int (i : Nat)), τs.getD i Any]
theorem di_enum {elts : List Expr} {kk : Nat} {tpos : Pos} (g : Good W n df X N sc) (hr : W.mg "enumerate" = none) (h : DE X a ρ (TupOf τs)) (hg : sc.names.lookup ("enumerate" : Str) = some .globalImplicit := by rfl) (hs : starEach [a] X.env = [(false, eval a X.env)] := by rfl) :
    DI X (.Tuple elts kk tpos) (.Call (.Name "enumerate" p) [a] [] pos) ρ (fun ys => ys = enumT τs) := fun σ F G H R S q =>
  wi_of (pi_enumT (g.gl hg) (by rw [g.em]; exact hr) (pa_cons pe_w pa_nil (by rw [hs]; rfl)) hs) (h σ F G H _ S fun v F1 H1 x1 S1 p1 => by
    obtain ⟨t, vs, rfl, hr, pv⟩ := p1
    refine ⟨t, vs, rfl, .inl (S1.fh _ _ True.intro hr), q _ (enumT τs) F1 H1 rfl x1 S1 fun i ρ' σ' F' G' H' up S' => ⟨fun y ey => ?_, fun hi => ⟨vs, .inl (S'.fh _ _ True.intro (up _ _ True.intro hr)), by
      unfold enumT at hi
      rw [List.length_map, List.length_range] at hi
      rw [← pv.length]; exact hi⟩⟩⟩
    have hi : i < τs.length := by
      have := (List.getElem?_eq_some_iff.mp ey).1
      unfold enumT at this
      rwa [List.length_map, List.length_range] at this
    unfold enumT at ey
    rw [List.getElem?_map, List.getElem?_range hi] at ey
    have ey := (Option.some.inj ey).symm
    subst ey
    have eg : τs[i]? = some (τs.getD i Any) := by rw [List.getD_eq_getElem?_getD, List.getElem?_eq_getElem hi]; rfl
    obtain ⟨u, eu, pu⟩ := pv.get eg
    have hL : SqT X.K H' t vs := .inl (S'.fh _ _ True.intro (up _ _ True.intro hr))
    refine ⟨⟨vs, u, hL, eu⟩, fun y H'' hy => ?_⟩
    obtain ⟨T, z, rfl, hT, rfl, hx⟩ := hy
    have ez := hx vs hL
    rw [eu] at ez; cases ez
    exact ⟨_, S'.newExt hT, S'.new hT, T, _, rfl, .inl upd_same, .cons (Dp.int _) (.cons ((τs.getD i Any).up _ _ _ (up.trans (S'.newExt (o := .tup [.int (i : Nat), u]) hT).up) pu) .nil)⟩)
/-! ### sum of a tuple of ints -/
def rSumT (K : PySem.W.Frag) : List V → Hp → VK → Prop := fun vs H Q => ∃ (a : Addr) (ns : List Int), vs = [V.ref a] ∧ SqT K H a (ns.map V.int) ∧ Q (.int ns.sum) H
theorem cr_sumT (hc : X.calm = true) : CallR X (.builtin "sum") (rSumT X.K) := by
  intro pins s σ H vs us Q I r h
  obtain ⟨a, ns, rfl, hs, q⟩ := h
  obtain ⟨its, rv, p, _⟩ := I.tuple hs
  rw [Vals.ref1 r]
  have hi := Vals.ints rv
  obtain ⟨xs, e⟩ := hi.allInts.items
  have hn : numsOf (intItems xs).toList = ns := by rw [← e]; exact hi.numsOf
  rw [nums_intItems] at hn
  have p' : s.heap.IsTuple a its.toArray := p
  rw [e] at p'
  refine PySem.W.ktm_sumG (I.ok.hd hc) p' fun h' tk t' hk => ?_
  refine ⟨.int ns.sum, H, I.kept hk, ?_, q⟩
  refine ⟨t', ?_⟩
  rw [preSum_eq, List.take_of_length_le (by simp), hn]
theorem de_sumT {ns : List Int} (g : Good W n df X N sc) (hm : W.mg "sum" = none) (ha : DE X a ρ (TupOf (ns.map isI))) (hg : sc.names.lookup ("sum" : Str) = some .globalImplicit := by rfl) (hs : starEach [a] X.env = (false, eval a X.env) :: starEach [] X.env := by rfl) : DE X (.Call (.Name "sum" p) [a] [] pos) ρ (Is (.int ns.sum)) :=
  de_bi g (cr_sumT g.calm) hm (by decide +kernel) (des_cons ha des_nil hs) (vrl_of fun F H vs Q up fs p q => by
    obtain ⟨v, rfl, t, us, rfl, hr, pv⟩ := all2_one p
    have e := vs_ints pv
    subst e
    exact ⟨t, ns, rfl, .inl (up _ _ True.intro hr), q _ (Dp.int _)⟩) hg (hs := hs)
/-! ### slices of tuples -/
def cutD {α : Type} (ds : List α) (lo hi : Option Int) : List α := (ds.drop (HT.sIx ds.length 0 lo)).take (HT.sIx ds.length ds.length hi - HT.sIx ds.length 0 lo)
theorem all2_drop {vs : List V} {F : Hp} (h : All2 τs vs F) (k : Nat) : All2 (τs.drop k) (vs.drop k) F := by
  unfold All2 at *
  induction h generalizing k with
  | nil => simp; exact .nil
  | cons a t ih =>
    cases k with
    | zero => exact .cons a t
    | succ k => simpa using ih k
theorem all2_take {vs : List V} {F : Hp} (h : All2 τs vs F) (k : Nat) : All2 (τs.take k) (vs.take k) F := by
  unfold All2 at *
  induction h generalizing k with
  | nil => simp; exact .nil
  | cons a t ih =>
    cases k with
    | zero => exact .nil
    | succ k => rw [List.take_succ_cons, List.take_succ_cons]; exact .cons a (ih k)
theorem all2_rev {vs : List V} {F : Hp} (h : All2 τs vs F) : All2 τs.reverse vs.reverse F := by
  unfold All2 at *
  induction h with
  | nil => exact .nil
  | cons a t ih =>
    rw [List.reverse_cons, List.reverse_cons]
    exact All2.append ih (.cons a .nil)
/-- a slice's bound: left out, or an int -/
def DO (X : Cx) (e : Option Expr) (ρ : List Sl) (o : Option Int) : Prop := match e, o with
  | none, none => True
  | some e, some i => DE X e ρ (Is (.int i))
  | _, _ => False
theorem de_slice {lo hi : Option Expr} {l h : Option Int} {p2 : Pos} (hv : DE X a ρ (TupOf τs)) (hl : DO X lo ρ l) (hh : DO X hi ρ h) : DE X (.Subscript a (.Slice lo hi none p2) pos) ρ (TupOf (cutD τs l h)) := by
  have fin : ∀ σ F G H (Q : VK) v, Sat ρ σ F G H → (TupOf τs).p v F → (∀ v F' H', Ext F G F' → Sat ρ σ F' G H' → (TupOf (cutD τs l h)).p v F' → Q v H') → rSlA X.K v l h H Q := fun σ F G H Q v S pv q => by
    obtain ⟨t, vs, rfl, hr, pv⟩ := pv
    have hlen := pv.length
    have cut : All2 (cutD τs l h) (cutV vs l h) F := by
      unfold cutD cutV
      rw [hlen]
      exact all2_take (all2_drop pv _) _
    refine ⟨t, vs, rfl, .inl (S.fh _ _ True.intro hr), fun hw => q _ F H (Ext.refl _ _) S ⟨t, vs, rfl, hr, ?_⟩, fun _ p hp => q _ _ _ (S.newExt hp) (S.new hp) ⟨p, _, rfl, .inl upd_same, cut.up (S.newExt (o := .tup (cutV vs l h)) hp).up⟩⟩
    have : cutD τs l h = τs := by
      unfold cutD
      rw [hlen, hw.1, hw.2, List.drop_zero, Nat.sub_zero, ← hlen, List.take_length]
    rw [this]; exact pv
  intro σ F G H Q S q
  cases lo with
  | none =>
    cases l with
    | some _ => exact hl.elim
    | none =>
      cases hi with
      | none =>
        cases h with
        | some _ => exact hh.elim
        | none => exact we_of (pe_slice sl_tupA pe_w po_none po_none) (hv σ F G H _ S fun v F1 H1 x1 S1 p1 => fin σ F1 G H1 Q v S1 p1 fun v F' H' x s p => q v F' H' (x1.trans x) s p)
      | some eh =>
        cases h with
        | none => exact hh.elim
        | some ih =>
          have hh : DE X eh ρ (Is (.int ih)) := hh
          exact we_of (pe_slice sl_tupA pe_w po_none (po_some pe_w)) (hv σ F G H _ S fun v F1 H1 x1 S1 p1 => hh σ F1 G H1 _ S1 fun u F2 H2 x2 S2 p2 => ⟨ih, is_int p2, fin σ F2 G H2 Q v S2 ((TupOf τs).up _ _ _ x2.up p1) fun v F' H' x s p => q v F' H' (x1.trans (x2.trans x)) s p⟩)
  | some el =>
    cases l with
    | none => exact hl.elim
    | some il =>
      have hl : DE X el ρ (Is (.int il)) := hl
      cases hi with
      | none =>
        cases h with
        | some _ => exact hh.elim
        | none => exact we_of (pe_slice sl_tupA pe_w (po_some pe_w) po_none) (hv σ F G H _ S fun v F1 H1 x1 S1 p1 => hl σ F1 G H1 _ S1 fun u F2 H2 x2 S2 p2 => ⟨il, is_int p2, fin σ F2 G H2 Q v S2 ((TupOf τs).up _ _ _ x2.up p1) fun v F' H' x s p => q v F' H' (x1.trans (x2.trans x)) s p⟩)
      | some eh =>
        cases h with
        | none => exact hh.elim
        | some ih =>
          have hh : DE X eh ρ (Is (.int ih)) := hh
          exact we_of (pe_slice sl_tupA pe_w (po_some pe_w) (po_some pe_w)) (hv σ F G H _ S fun v F1 H1 x1 S1 p1 => hl σ F1 G H1 _ S1 fun u F2 H2 x2 S2 p2 => ⟨il, is_int p2, hh σ F2 G H2 _ S2 fun y F3 H3 x3 S3 p3 => ⟨ih, is_int p3, fin σ F3 G H3 Q v S3 ((TupOf τs).up _ _ _ (x2.trans x3).up p1) fun v F' H' x s p => q v F' H' (x1.trans (x2.trans (x3.trans x))) s p⟩⟩)
theorem cutD_map {α β : Type} (f : α → β) (xs : List α) (lo hi : Option Int) : cutD (xs.map f) lo hi = (cutD xs lo hi).map f := by
  unfold cutD
  rw [List.length_map, List.map_take, List.map_drop]
theorem de_sliceI {lo hi : Option Expr} {l h : Option Int} {p2 : Pos} (hv : DE X a ρ (Is (.tuple ds))) (hl : DO X lo ρ l) (hh : DO X hi ρ h) : DE X (.Subscript a (.Slice lo hi none p2) pos) ρ (Is (.tuple (cutD ds l h))) := by
  have := de_slice (pos := pos) (p2 := p2) hv.tupT hl hh
  rw [cutD_map] at this
  exact this.tupI
theorem de_rev {kk : Nat} {q1 q2 q3 : Pos} (hv : DE X a ρ (TupOf τs)) : DE X (.Subscript a (.Slice none none (some (.UnaryOp .USub (.Constant (.int 1) kk q1) q2)) q3) pos) ρ (TupOf τs.reverse) := fun σ F G H Q S q =>
  we_of (pe_revT pe_w) (hv σ F G H _ S fun v F1 H1 x1 S1 p1 => by
    obtain ⟨t, vs, rfl, hr, pv⟩ := p1
    exact ⟨t, vs, rfl, .inl (S1.fh _ _ True.intro hr), fun p hp => q _ _ _ (x1.trans (S1.newExt hp)) (S1.new hp) ⟨p, _, rfl, .inl upd_same, (all2_rev pv).up (S1.newExt (o := .tup vs.reverse) hp).up⟩⟩)
theorem de_revI {kk : Nat} {q1 q2 q3 : Pos} (hv : DE X a ρ (Is (.tuple ds))) : DE X (.Subscript a (.Slice none none (some (.UnaryOp .USub (.Constant (.int 1) kk q1) q2)) q3) pos) ρ (Is (.tuple ds.reverse)) := by
  have := de_rev (pos := pos) (kk := kk) (q1 := q1) (q2 := q2) (q3 := q3) hv.tupT
  rw [← List.map_reverse] at this
  exact this.tupI
/-! ### t + u, xs + ys -/
theorem de_catT {τs' : List Ty} (ha : DE X a ρ (TupOf τs)) (hb : DE X b ρ (TupOf τs')) (hz : τs.length + τs'.length ≤ 1000000) : DE X (.BinOp a .Add b pos) ρ (TupOf (τs ++ τs')) := de_op op_catA ha hb fun ρ σ F G H x y Q S p1 p2 q => by
  obtain ⟨t, vs, rfl, hr, pv⟩ := p1
  obtain ⟨t', us, rfl, hr', pu⟩ := p2
  have h1 := pv.length
  have h2 := pu.length
  have h3 := sizeLine_eq
  refine ⟨t, t', vs, us, rfl, rfl, .inl (S.fh _ _ True.intro hr), .inl (S.fh _ _ True.intro hr'), by omega, fun hv => ?_, fun _ hu => ?_, fun _ _ p hp => ?_⟩
  · subst hv
    cases pv
    exact q _ F H (Ext.refl _ _) S ⟨t', us, rfl, hr', pu⟩
  · subst hu
    cases pu
    rw [List.append_nil] at q
    exact q _ F H (Ext.refl _ _) S ⟨t, vs, rfl, hr, pv⟩
  · exact q _ _ _ (S.newExt hp) (S.new hp) ⟨p, _, rfl, .inl upd_same, (pv.append pu).up (S.newExt (o := .tup (vs ++ us)) hp).up⟩
theorem de_catI (ha : DE X a ρ (Is (.tuple ds))) (hb : DE X b ρ (Is (.tuple ds'))) (hz : ds.length + ds'.length ≤ 1000000) : DE X (.BinOp a .Add b pos) ρ (Is (.tuple (ds ++ ds'))) := by
  have := de_catT (pos := pos) ha.tupT hb.tupT (by rw [List.length_map, List.length_map]; exact hz)
  rw [← List.map_append] at this
  exact this.tupI
def rCatL (K : PySem.W.Frag) : R2 := fun x y H Q => ∃ l b xs zs, x = .ref l ∧ y = .ref b ∧ Rd H l (.lst xs) ∧ Rd H b (.lst zs) ∧ xs.length + zs.length ≤ sizeLine ∧ ∀ p, H p = none → Q (.ref p) (upd H p (.lst (xs ++ zs)))
theorem op_catL : OpR X (binaryOp .Add) (rCatL X.K) := by
  intro pins s σ H x y v u Q I rx ry h
  obtain ⟨l, b, xs, zs, rfl, rfl, hH, hB, hz, q⟩ := h
  cases rx
  cases ry
  obtain ⟨z, its, n, r, e⟩ := hH.ok I.hok
  obtain ⟨z2, its2, n2, r2, e2⟩ := hB.ok I.hok
  have hl := r.length
  have hl2 := r2.length
  refine PySem.P.add_list e e2 ?_ (by rw [List.size_toArray, List.size_toArray]; omega)
  have ea : its.toArray ++ its2.toArray = (its ++ its2).toArray := by simp
  rw [ea]
  exact ⟨.ref _, _, I.lnew (t' := s.toks) (r.append r2) (by rw [List.length_append]; omega), rfl, q _ I.fresh⟩
theorem df_catL {τs' : List Ty} (ha : DE X a ρ (LstOf τs)) (hb : DE X b ρ (LstOf τs')) (hz : τs.length + τs'.length ≤ 1000000) : DF X (.BinOp a .Add b pos) ρ (OL (τs ++ τs')) := fun σ F G H Q S q =>
  we_of (pe_op op_catL pe_w pe_w) (ha σ F G H _ S fun v F1 H1 x1 S1 p1 => hb σ F1 G H1 _ S1 fun u F2 H2 x2 S2 p2 => by
    obtain ⟨t, vs, rfl, hr, pv⟩ := (LstOf τs).up _ _ _ x2.up p1
    obtain ⟨t', us, rfl, hr', pu⟩ := p2
    have h1 := pv.length
    have h2 := pu.length
    have h3 := sizeLine_eq
    refine ⟨t, t', vs, us, rfl, rfl, S2.fh _ _ True.intro hr, S2.fh _ _ True.intro hr', by omega, fun p hp => ?_⟩
    have hF := S2.fs p hp
    have hG : G p = none := by
      cases z : G p with
      | none => rfl
      | some y => have := S2.gh p y z; rw [hp] at this; cases this
    refine q p (.lst (vs ++ us)) F2 (upd H2 p (.lst (vs ++ us))) (x1.trans x2) ?_ hF hG (fun i b ω' e => ?_) upd_same True.intro ⟨_, rfl, pv.append pu⟩
    · refine S2.mono (S2.fh.trans (up_upd hp)) (fun c hc => ?_) (fun c y e => same_new hp c y (S2.gh c y e)) (Up.refl _) fun i b ω' o e ho => ?_
      · by_cases z : c = p
        · subst z; exact hF
        · rw [upd_ne z] at hc; exact S2.fs c hc
      · obtain ⟨_, z2, _⟩ := S2.own i b ω' e
        exact ⟨z2, by rw [upd_ne (ne_of_none ho hp)]; exact ho⟩
    · obtain ⟨_, _, _, o, z, _⟩ := S2.own i b ω' e
      exact ne_of_none z hp)
theorem de_catL {τs' : List Ty} (ha : DE X a ρ (LstOf τs)) (hb : DE X b ρ (LstOf τs')) (hz : τs.length + τs'.length ≤ 1000000) : DE X (.BinOp a .Add b pos) ρ (LstOf (τs ++ τs')) := (df_catL ha hb hz).lst
/-! ### t * k, t not empty; tuple(range(n)) -/
theorem de_repI (ha : DE X a ρ (Is (.tuple ds))) (hb : DE X b ρ (Is (.int i))) (hne : ds ≠ []) (h2 : 2 ≤ i) (hi : i ≤ 1000) (hl : ds.length ≤ 1000) : DE X (.BinOp a .Mult b pos) ρ (Is (.tuple (List.replicate i.toNat ds).flatten)) := de_op op_repT ha hb fun ρ σ F G H x y Q S p1 p2 q => by
  obtain ⟨t, vs, rfl, hr, pv⟩ := tup_is.mpr p1
  have h1 := pv.length
  rw [List.length_map] at h1
  refine ⟨t, i, vs, rfl, is_int p2, .inl (S.fh _ _ True.intro hr), fun z => ?_, h2, hi, by omega, fun p hp => q _ _ _ (S.newExt hp) (S.new hp) (tup_is.mp ⟨p, _, rfl, .inl upd_same, ?_⟩)⟩
  · subst z
    exact hne (List.eq_nil_of_length_eq_zero (by simpa using h1))
  · have rep : ∀ m : Nat, All2 ((List.replicate m ds).flatten.map Is) (List.replicate m vs).flatten F := fun m => by
      induction m with
      | zero => exact .nil
      | succ m ih =>
        rw [List.replicate_succ, List.replicate_succ, List.flatten_cons, List.flatten_cons, List.map_append]
        exact All2.append pv ih
    exact (rep _).up (S.newExt (o := .tup (List.replicate i.toNat vs).flatten) hp).up
theorem all2_intsT {F : Hp} : ∀ m : Nat, All2 (intsT m) ((List.range m).map fun k => V.int (k : Nat)) F := fun m => by
  unfold intsT
  have : ∀ l : List Nat, All2 (l.map fun (k : Nat) => Is (.int (k : Int))) (l.map fun k => V.int (k : Nat)) F := fun l => by
    induction l with
    | nil => exact .nil
    | cons a l ih => exact .cons (Dp.int _) ih
  exact this _
theorem de_tupRange {m : Nat} {pr : Pos} (g : Good W n df X N sc) (hm : W.mg "tuple" = none) (hr : W.mg "range" = none) (ha : DE X a ρ (Is (.int (m : Int)))) (hz : m ≤ 1000 := by decide) (hg : sc.names.lookup ("tuple" : Str) = some .globalImplicit := by rfl) (hg2 : sc.names.lookup ("range" : Str) = some .globalImplicit := by rfl) (hs : starEach [a] X.env = (false, eval a X.env) :: starEach [] X.env := by rfl) :
    DE X (.Call (.Name "tuple" p) [.Call (.Name "range" pr) [a] [] p2] [] pos) ρ (TupOf (intsT m)) := fun σ F G H Q S q =>
  we_of (pe_tupRg g.calm (g.gl hg) (by rw [g.em]; exact hm) (prg_1 (g.gl hg2) (by rw [g.em]; exact hr) pe_w hs)) (ha σ F G H _ S fun v F1 H1 x1 S1 p1 => by
    refine ⟨(m : Int), is_int p1, RgOk.of_le (by omega) (by omega) (by omega) (by omega), fun p hp => q _ _ _ (x1.trans (S1.newExt hp)) (S1.new hp) ⟨p, _, rfl, .inl upd_same, ?_⟩⟩
    have e : rgV 0 (m : Int) = (List.range m).map fun k => V.int (k : Nat) := by
      unfold rgV
      rw [Int.sub_zero, Int.toNat_natCast]
      exact List.map_congr_left fun k _ => by rw [Int.zero_add]
    rw [e]
    exact all2_intsT m)
end
end K35
set_option Elab.async false
set_option linter.all false
set_option maxRecDepth 100000
set_option maxHeartbeats 0
namespace K35
open PySem PySem.Spec PyProof.Rows L2
def topS (i : Nat) : Stmt := PySem.Challenge.pw_dividedseats_k35_whole_any_evidence_abou.main.body.getD i (.Pass ⟨0, 0, 0, 0⟩)
abbrev s_is_whole_methods : Stmt := topS 5
abbrev N_is_whole_methods : List Str := ["value", "low", "high"]
theorem sc_is_whole_methods : FnScope N_is_whole_methods ["value", "low", "high"] (defScope s_is_whole_methods) := ⟨rfl, rfl, rfl, by decide +kernel, rfl, by decide +kernel, by decide +kernel⟩
abbrev s_is_votes : Stmt := topS 11
abbrev N_is_votes : List Str := ["value", "one"]
theorem sc_is_votes : FnScope N_is_votes ["value"] (defScope s_is_votes) := ⟨rfl, rfl, rfl, by decide +kernel, rfl, by decide +kernel, by decide +kernel⟩
abbrev s_is_seats : Stmt := topS 12
abbrev N_is_seats : List Str := ["value", "votes", "one"]
theorem sc_is_seats : FnScope N_is_seats ["value", "votes"] (defScope s_is_seats) := ⟨rfl, rfl, rfl, by decide +kernel, rfl, by decide +kernel, by decide +kernel⟩
abbrev s_is_whole_fitting : Stmt := topS 18
abbrev N_is_whole_fitting : List Str := ["value", "least", "most"]
theorem sc_is_whole_fitting : FnScope N_is_whole_fitting ["value", "least", "most"] (defScope s_is_whole_fitting) := ⟨rfl, rfl, rfl, by decide +kernel, rfl, by decide +kernel, by decide +kernel⟩
abbrev s_is_result : Stmt := topS 20
abbrev N_is_result : List Str := ["value"]
theorem sc_is_result : FnScope N_is_result ["value"] (defScope s_is_result) := ⟨rfl, rfl, rfl, by decide +kernel, rfl, by decide +kernel, by decide +kernel⟩
abbrev s_are_results : Stmt := topS 21
abbrev N_are_results : List Str := ["value", "one"]
theorem sc_are_results : FnScope N_are_results ["value"] (defScope s_are_results) := ⟨rfl, rfl, rfl, by decide +kernel, rfl, by decide +kernel, by decide +kernel⟩
abbrev s_are_divisors : Stmt := topS 22
abbrev N_are_divisors : List Str := ["value", "at", "one"]
theorem sc_are_divisors : FnScope N_are_divisors ["value"] (defScope s_are_divisors) := ⟨rfl, rfl, rfl, by decide +kernel, rfl, by decide +kernel, by decide +kernel⟩
abbrev s_check_results : Stmt := topS 23
abbrev N_check_results : List Str := ["results"]
theorem sc_check_results : FnScope N_check_results ["results"] (defScope s_check_results) := ⟨rfl, rfl, rfl, by decide +kernel, rfl, by decide +kernel, by decide +kernel⟩
abbrev s_divisor_in : Stmt := topS 24
abbrev N_divisor_in : List Str := ["divisors", "index"]
theorem sc_divisor_in : FnScope N_divisor_in ["divisors", "index"] (defScope s_divisor_in) := ⟨rfl, rfl, rfl, by decide +kernel, rfl, by decide +kernel, by decide +kernel⟩
abbrev s_seen_in : Stmt := topS 25
abbrev N_seen_in : List Str := ["results", "found", "at", "votes", "seats", "one", "many", "other", "others", "step"]
theorem sc_seen_in : FnScope N_seen_in ["results"] (defScope s_seen_in) := ⟨rfl, rfl, rfl, by decide +kernel, rfl, by decide +kernel, by decide +kernel⟩
abbrev s_top_of : Stmt := topS 26
abbrev N_top_of : List Str := ["seen", "step", "start", "end", "p", "q"]
theorem sc_top_of : FnScope N_top_of ["seen"] (defScope s_top_of) := ⟨rfl, rfl, rfl, by decide +kernel, rfl, by decide +kernel, by decide +kernel⟩
abbrev s_least_steps : Stmt := topS 27
abbrev N_least_steps : List Str := ["seen", "top", "found", "ups", "step", "start", "end", "p", "q", "index"]
theorem sc_least_steps : FnScope N_least_steps ["seen", "top"] (defScope s_least_steps) := ⟨rfl, rfl, rfl, by decide +kernel, rfl, by decide +kernel, by decide +kernel⟩
abbrev s_longer : Stmt := topS 28
abbrev N_longer : List Str := ["walks", "steps", "found", "start", "middle", "p", "q", "way", "begin", "end", "own", "told"]
theorem sc_longer : FnScope N_longer ["walks", "steps"] (defScope s_longer) := ⟨rfl, rfl, rfl, by decide +kernel, rfl, by decide +kernel, by decide +kernel⟩
abbrev s_walks_of : Stmt := topS 29
abbrev N_walks_of : List Str := ["steps", "many", "rows", "pair"]
theorem sc_walks_of : FnScope N_walks_of ["steps", "many"] (defScope s_walks_of) := ⟨rfl, rfl, rfl, by decide +kernel, rfl, by decide +kernel, by decide +kernel⟩
abbrev s_round_in : Stmt := topS 30
abbrev N_round_in : List Str := ["rows", "walks", "start", "end", "p", "q", "way"]
theorem sc_round_in : FnScope N_round_in ["rows"] (defScope s_round_in) := ⟨rfl, rfl, rfl, by decide +kernel, rfl, by decide +kernel, by decide +kernel⟩
abbrev s_common : Stmt := topS 31
abbrev N_common : List Str := ["one", "other"]
theorem sc_common : FnScope N_common ["one", "other"] (defScope s_common) := ⟨rfl, rfl, rfl, by decide +kernel, rfl, by decide +kernel, by decide +kernel⟩
abbrev s_whole_numbers : Stmt := topS 32
abbrev N_whole_numbers : List Str := ["ratios", "product", "p", "q", "numbers", "least", "number"]
theorem sc_whole_numbers : FnScope N_whole_numbers ["ratios"] (defScope s_whole_numbers) := ⟨rfl, rfl, rfl, by decide +kernel, rfl, by decide +kernel, by decide +kernel⟩
abbrev s_reduced : Stmt := topS 33
abbrev N_reduced : List Str := ["p", "q", "least"]
theorem sc_reduced : FnScope N_reduced ["p", "q"] (defScope s_reduced) := ⟨rfl, rfl, rfl, by decide +kernel, rfl, by decide +kernel, by decide +kernel⟩
abbrev s_least_ratios : Stmt := topS 34
abbrev N_least_ratios : List Str := ["rows", "indices", "found", "index", "here", "walks", "start", "end", "p", "q", "way"]
theorem sc_least_ratios : FnScope N_least_ratios ["rows", "indices"] (defScope s_least_ratios) := ⟨rfl, rfl, rfl, by decide +kernel, rfl, by decide +kernel, by decide +kernel⟩
abbrev s_fit : Stmt := topS 35
abbrev N_fit : List Str := ["results", "seen", "top", "rows", "way"]
theorem sc_fit : FnScope N_fit ["results"] (defScope s_fit) := ⟨rfl, rfl, rfl, by decide +kernel, rfl, by decide +kernel, by decide +kernel⟩
abbrev s_first_wrong : Stmt := topS 36
abbrev N_first_wrong : List Str := ["results", "divisors", "step", "start", "end", "p", "q"]
theorem sc_first_wrong : FnScope N_first_wrong ["results", "divisors"] (defScope s_first_wrong) := ⟨rfl, rfl, rfl, by decide +kernel, rfl, by decide +kernel, by decide +kernel⟩
abbrev s_condition_of : Stmt := topS 37
abbrev N_condition_of : List Str := ["results", "value", "votes", "seats", "one", "other"]
theorem sc_condition_of : FnScope N_condition_of ["results", "value"] (defScope s_condition_of) := ⟨rfl, rfl, rfl, by decide +kernel, rfl, by decide +kernel, by decide +kernel⟩
abbrev s_walked : Stmt := topS 38
abbrev N_walked : List Str := ["results", "value", "told", "step", "own"]
theorem sc_walked : FnScope N_walked ["results", "value"] (defScope s_walked) := ⟨rfl, rfl, rfl, by decide +kernel, rfl, by decide +kernel, by decide +kernel⟩
abbrev s_fitting : Stmt := topS 39
abbrev N_fitting : List Str := ["results", "value"]
theorem sc_fitting : FnScope N_fitting ["results", "value"] (defScope s_fitting) := ⟨rfl, rfl, rfl, by decide +kernel, rfl, by decide +kernel, by decide +kernel⟩
abbrev s_check_asked : Stmt := topS 43
abbrev N_check_asked : List Str := ["results", "one", "other"]
theorem sc_check_asked : FnScope N_check_asked ["results", "one", "other"] (defScope s_check_asked) := ⟨rfl, rfl, rfl, by decide +kernel, rfl, by decide +kernel, by decide +kernel⟩
abbrev s_best_walks : Stmt := topS 44
abbrev N_best_walks : List Str := ["results", "other", "rows", "found", "walks", "start", "end", "told"]
theorem sc_best_walks : FnScope N_best_walks ["results", "other"] (defScope s_best_walks) := ⟨rfl, rfl, rfl, by decide +kernel, rfl, by decide +kernel, by decide +kernel⟩
abbrev s_spread : Stmt := topS 45
abbrev N_spread : List Str := ["results", "other", "walks", "rows", "free", "steps", "times", "start", "end", "need", "have", "ratios", "index"]
theorem sc_spread : FnScope N_spread ["results", "other"] (defScope s_spread) := ⟨rfl, rfl, rfl, by decide +kernel, rfl, by decide +kernel, by decide +kernel⟩
abbrev s_reached_from : Stmt := topS 46
abbrev N_reached_from : List Str := ["results", "one", "steps", "found", "turn", "start", "end"]
theorem sc_reached_from : FnScope N_reached_from ["results", "one"] (defScope s_reached_from) := ⟨rfl, rfl, rfl, by decide +kernel, rfl, by decide +kernel, by decide +kernel⟩
abbrev s_ratio_evidence : Stmt := topS 47
abbrev N_ratio_evidence : List Str := ["results", "one", "other", "walks"]
theorem sc_ratio_evidence : FnScope N_ratio_evidence ["results", "one", "other"] (defScope s_ratio_evidence) := ⟨rfl, rfl, rfl, by decide +kernel, rfl, by decide +kernel, by decide +kernel⟩
abbrev s_is_ratio : Stmt := topS 48
abbrev N_is_ratio : List Str := ["value", "number"]
theorem sc_is_ratio : FnScope N_is_ratio ["value"] (defScope s_is_ratio) := ⟨rfl, rfl, rfl, by decide +kernel, rfl, by decide +kernel, by decide +kernel⟩
abbrev s_shows_most : Stmt := topS 49
abbrev N_shows_most : List Str := ["results", "one", "other", "ratio", "steps", "divisors", "told"]
theorem sc_shows_most : FnScope N_shows_most ["results", "one", "other", "ratio", "steps", "divisors"] (defScope s_shows_most) := ⟨rfl, rfl, rfl, by decide +kernel, rfl, by decide +kernel, by decide +kernel⟩
abbrev s_shows_none : Stmt := topS 50
abbrev N_shows_none : List Str := ["results", "one", "other", "chosen", "divisors", "names", "told", "name", "step", "start", "end", "p", "q", "index", "at"]
theorem sc_shows_none : FnScope N_shows_none ["results", "one", "other", "chosen", "divisors"] (defScope s_shows_none) := ⟨rfl, rfl, rfl, by decide +kernel, rfl, by decide +kernel, by decide +kernel⟩
abbrev s_accepts_ratio : Stmt := topS 51
abbrev N_accepts_ratio : List Str := ["results", "one", "other", "ratio", "value"]
theorem sc_accepts_ratio : FnScope N_accepts_ratio ["results", "one", "other", "ratio", "value"] (defScope s_accepts_ratio) := ⟨rfl, rfl, rfl, by decide +kernel, rfl, by decide +kernel, by decide +kernel⟩
abbrev s_L_stream : Stmt := topS 53
abbrev N_L_stream : List Str := ["_law_script"]
theorem sc_L_stream : FnScope N_L_stream ["_law_script"] (defScope s_L_stream) := ⟨rfl, rfl, rfl, by decide +kernel, rfl, by decide +kernel, by decide +kernel⟩
abbrev s_L_next : Stmt := topS 54
abbrev N_L_next : List Str := ["_law_stream_here", "_law_many", "_law_k", "_law_cell", "_law_digit"]
theorem sc_L_next : FnScope N_L_next ["_law_stream_here", "_law_many"] (defScope s_L_next) := ⟨rfl, rfl, rfl, by decide +kernel, rfl, by decide +kernel, by decide +kernel⟩
abbrev s_L_is_integer : Stmt := topS 55
abbrev N_L_is_integer : List Str := ["_law_actual"]
theorem sc_L_is_integer : FnScope N_L_is_integer ["_law_actual"] (defScope s_L_is_integer) := ⟨rfl, rfl, rfl, by decide +kernel, rfl, by decide +kernel, by decide +kernel⟩
abbrev s_L_equal : Stmt := topS 56
abbrev N_L_equal : List Str := ["_law_actual", "_law_due", "_law_at"]
theorem sc_L_equal : FnScope N_L_equal ["_law_actual", "_law_due"] (defScope s_L_equal) := ⟨rfl, rfl, rfl, by decide +kernel, rfl, by decide +kernel, by decide +kernel⟩
abbrev s_L_divisor : Stmt := topS 57
abbrev N_L_divisor : List Str := ["_law_divisors_here", "_law_index"]
theorem sc_L_divisor : FnScope N_L_divisor ["_law_divisors_here", "_law_index"] (defScope s_L_divisor) := ⟨rfl, rfl, rfl, by decide +kernel, rfl, by decide +kernel, by decide +kernel⟩
abbrev s_L_divisors : Stmt := topS 58
abbrev N_L_divisors : List Str := ["_law_stream_here", "_law_found", "_law_here", "_law_k"]
theorem sc_L_divisors : FnScope N_L_divisors ["_law_stream_here"] (defScope s_L_divisors) := ⟨rfl, rfl, rfl, by decide +kernel, rfl, by decide +kernel, by decide +kernel⟩
abbrev s_L_votes : Stmt := topS 59
abbrev N_L_votes : List Str := ["_law_stream_here", "_law_most", "_law_top_here", "_law_k"]
theorem sc_L_votes : FnScope N_L_votes ["_law_stream_here", "_law_most"] (defScope s_L_votes) := ⟨rfl, rfl, rfl, by decide +kernel, rfl, by decide +kernel, by decide +kernel⟩
abbrev s_L_seated : Stmt := topS 60
abbrev N_L_seated : List Str := ["_law_stream_here", "_law_divisors_here", "_law_votes_here", "_law_house", "_law_seats", "_law_turn", "_law_best", "_law_one", "_law_ahead", "_law_vote", "_law_other"]
theorem sc_L_seated : FnScope N_L_seated ["_law_stream_here", "_law_divisors_here", "_law_votes_here", "_law_house"] (defScope s_L_seated) := ⟨rfl, rfl, rfl, by decide +kernel, rfl, by decide +kernel, by decide +kernel⟩
abbrev s_L_results : Stmt := topS 61
abbrev N_L_results : List Str := ["_law_stream_here", "_law_most", "_law_divisors_here", "_law_other", "_law_found", "_law_k", "_law_votes_here", "_law_used"]
theorem sc_L_results : FnScope N_L_results ["_law_stream_here", "_law_most"] (defScope s_L_results) := ⟨rfl, rfl, rfl, by decide +kernel, rfl, by decide +kernel, by decide +kernel⟩
abbrev s_L_seen : Stmt := topS 62
abbrev N_L_seen : List Str := ["_law_results_here", "_law_found", "_law_at", "_law_votes_here", "_law_seats", "_law_one", "_law_other"]
theorem sc_L_seen : FnScope N_L_seen ["_law_results_here"] (defScope s_L_seen) := ⟨rfl, rfl, rfl, by decide +kernel, rfl, by decide +kernel, by decide +kernel⟩
abbrev s_L_all : Stmt := topS 63
abbrev N_L_all : List Str := ["_law_results_here", "_law_top_here", "_law_k"]
theorem sc_L_all : FnScope N_L_all ["_law_results_here", "_law_top_here"] (defScope s_L_all) := ⟨rfl, rfl, rfl, by decide +kernel, rfl, by decide +kernel, by decide +kernel⟩
abbrev s_L_top : Stmt := topS 64
abbrev N_L_top : List Str := ["_law_results_here", "_law_step", "_law_start", "_law_end", "_law_p", "_law_q"]
theorem sc_L_top : FnScope N_L_top ["_law_results_here"] (defScope s_L_top) := ⟨rfl, rfl, rfl, by decide +kernel, rfl, by decide +kernel, by decide +kernel⟩
abbrev s_L_common : Stmt := topS 65
abbrev N_L_common : List Str := ["_law_one", "_law_other", "_law_turn"]
theorem sc_L_common : FnScope N_L_common ["_law_one", "_law_other"] (defScope s_L_common) := ⟨rfl, rfl, rfl, by decide +kernel, rfl, by decide +kernel, by decide +kernel⟩
abbrev s_L_reduced : Stmt := topS 66
abbrev N_L_reduced : List Str := ["_law_p", "_law_q", "_law_least"]
theorem sc_L_reduced : FnScope N_L_reduced ["_law_p", "_law_q"] (defScope s_L_reduced) := ⟨rfl, rfl, rfl, by decide +kernel, rfl, by decide +kernel, by decide +kernel⟩
abbrev s_L_whole : Stmt := topS 67
abbrev N_L_whole : List Str := ["_law_ratios", "_law_product", "_law_p", "_law_q", "_law_numbers", "_law_least", "_law_number"]
theorem sc_L_whole : FnScope N_L_whole ["_law_ratios"] (defScope s_L_whole) := ⟨rfl, rfl, rfl, by decide +kernel, rfl, by decide +kernel, by decide +kernel⟩
abbrev s_L_relaxed : Stmt := topS 68
abbrev N_L_relaxed : List Str := ["_law_conditions", "_law_ratios", "_law_turns", "_law_changed", "_law_turn", "_law_step", "_law_start", "_law_end", "_law_p", "_law_q", "_law_told"]
theorem sc_L_relaxed : FnScope N_L_relaxed ["_law_conditions", "_law_ratios", "_law_turns"] (defScope s_L_relaxed) := ⟨rfl, rfl, rfl, by decide +kernel, rfl, by decide +kernel, by decide +kernel⟩
abbrev s_L_told_divisors : Stmt := topS 69
abbrev N_L_told_divisors : List Str := ["_law_results_here", "_law_top_here", "_law_ratios", "_law_index"]
theorem sc_L_told_divisors : FnScope N_L_told_divisors ["_law_results_here"] (defScope s_L_told_divisors) := ⟨rfl, rfl, rfl, by decide +kernel, rfl, by decide +kernel, by decide +kernel⟩
abbrev s_L_keeps : Stmt := topS 70
abbrev N_L_keeps : List Str := ["_law_results_here", "_law_divisors_here", "_law_step", "_law_start", "_law_end", "_law_p", "_law_q"]
theorem sc_L_keeps : FnScope N_L_keeps ["_law_results_here", "_law_divisors_here"] (defScope s_L_keeps) := ⟨rfl, rfl, rfl, by decide +kernel, rfl, by decide +kernel, by decide +kernel⟩
abbrev s_L_are_divisors : Stmt := topS 71
abbrev N_L_are_divisors : List Str := ["_law_value", "_law_k", "_law_one"]
theorem sc_L_are_divisors : FnScope N_L_are_divisors ["_law_value"] (defScope s_L_are_divisors) := ⟨rfl, rfl, rfl, by decide +kernel, rfl, by decide +kernel, by decide +kernel⟩
abbrev s_L_condition : Stmt := topS 72
abbrev N_L_condition : List Str := ["_law_results_here", "_law_value", "_law_step", "_law_start", "_law_end", "_law_p", "_law_q", "_law_one"]
theorem sc_L_condition : FnScope N_L_condition ["_law_results_here", "_law_value"] (defScope s_L_condition) := ⟨rfl, rfl, rfl, by decide +kernel, rfl, by decide +kernel, by decide +kernel⟩
abbrev s_L_walked : Stmt := topS 73
abbrev N_L_walked : List Str := ["_law_results_here", "_law_value", "_law_told", "_law_step", "_law_own"]
theorem sc_L_walked : FnScope N_L_walked ["_law_results_here", "_law_value"] (defScope s_L_walked) := ⟨rfl, rfl, rfl, by decide +kernel, rfl, by decide +kernel, by decide +kernel⟩
abbrev s_L_turned_steps : Stmt := topS 76
abbrev N_L_turned_steps : List Str := ["_law_stream_here", "_law_results_here", "_law_steps", "_law_pick", "_law_at", "_law_many", "_law_odd", "_law_step", "_law_seen_here", "_law_start", "_law_end", "_law_p", "_law_q"]
theorem sc_L_turned_steps : FnScope N_L_turned_steps ["_law_stream_here", "_law_results_here", "_law_steps"] (defScope s_L_turned_steps) := ⟨rfl, rfl, rfl, by decide +kernel, rfl, by decide +kernel, by decide +kernel⟩
abbrev s_L_turned_divisors : Stmt := topS 77
abbrev N_L_turned_divisors : List Str := ["_law_stream_here", "_law_divisors_here", "_law_at", "_law_here", "_law_odd", "_law_rows", "_law_one"]
theorem sc_L_turned_divisors : FnScope N_L_turned_divisors ["_law_stream_here", "_law_divisors_here"] (defScope s_L_turned_divisors) := ⟨rfl, rfl, rfl, by decide +kernel, rfl, by decide +kernel, by decide +kernel⟩
abbrev s_L_ratio : Stmt := topS 78
abbrev N_L_ratio : List Str := ["_law_results_here", "_law_one", "_law_other", "_law_ratios", "_law_index"]
theorem sc_L_ratio : FnScope N_L_ratio ["_law_results_here", "_law_one", "_law_other"] (defScope s_L_ratio) := ⟨rfl, rfl, rfl, by decide +kernel, rfl, by decide +kernel, by decide +kernel⟩
abbrev s_L_is_ratio : Stmt := topS 79
abbrev N_L_is_ratio : List Str := ["_law_value", "_law_one"]
theorem sc_L_is_ratio : FnScope N_L_is_ratio ["_law_value"] (defScope s_L_is_ratio) := ⟨rfl, rfl, rfl, by decide +kernel, rfl, by decide +kernel, by decide +kernel⟩
abbrev s_L_shows_most : Stmt := topS 80
abbrev N_L_shows_most : List Str := ["_law_results_here", "_law_one", "_law_other", "_law_ratio_here", "_law_steps", "_law_divisors_here", "_law_told"]
theorem sc_L_shows_most : FnScope N_L_shows_most ["_law_results_here", "_law_one", "_law_other", "_law_ratio_here", "_law_steps", "_law_divisors_here"] (defScope s_L_shows_most) := ⟨rfl, rfl, rfl, by decide +kernel, rfl, by decide +kernel, by decide +kernel⟩
abbrev s_L_shows_none : Stmt := topS 81
abbrev N_L_shows_none : List Str := ["_law_results_here", "_law_one", "_law_other", "_law_chosen", "_law_divisors_here", "_law_step", "_law_start", "_law_end", "_law_p", "_law_q", "_law_k", "_law_index"]
theorem sc_L_shows_none : FnScope N_L_shows_none ["_law_results_here", "_law_one", "_law_other", "_law_chosen", "_law_divisors_here"] (defScope s_L_shows_none) := ⟨rfl, rfl, rfl, by decide +kernel, rfl, by decide +kernel, by decide +kernel⟩
abbrev s_L_shows_ratio : Stmt := topS 82
abbrev N_L_shows_ratio : List Str := ["_law_results_here", "_law_one", "_law_other", "_law_ratio_here", "_law_value"]
theorem sc_L_shows_ratio : FnScope N_L_shows_ratio ["_law_results_here", "_law_one", "_law_other", "_law_ratio_here", "_law_value"] (defScope s_L_shows_ratio) := ⟨rfl, rfl, rfl, by decide +kernel, rfl, by decide +kernel, by decide +kernel⟩
abbrev s_L_turned_chosen : Stmt := topS 83
abbrev N_L_turned_chosen : List Str := ["_law_stream_here", "_law_chosen", "_law_at", "_law_more", "_law_rows", "_law_one"]
theorem sc_L_turned_chosen : FnScope N_L_turned_chosen ["_law_stream_here", "_law_chosen"] (defScope s_L_turned_chosen) := ⟨rfl, rfl, rfl, by decide +kernel, rfl, by decide +kernel, by decide +kernel⟩
abbrev s_L_some : Stmt := topS 84
abbrev N_L_some : List Str := ["_law_stream_here", "_law_results_here", "_law_told", "_law_word", "_law_first", "_law_second", "_law_pick", "_law_odd"]
theorem sc_L_some : FnScope N_L_some ["_law_stream_here", "_law_results_here", "_law_told"] (defScope s_L_some) := ⟨rfl, rfl, rfl, by decide +kernel, rfl, by decide +kernel, by decide +kernel⟩
abbrev s_law : Stmt := topS 85
abbrev N_law : List Str := ["_law_script", "_law_stream_here", "_law_results_here", "_law_divisors_here", "_law_turn", "_law_one", "_law_other", "_law_due", "_law_ratio_here", "_law_rows", "_law_value", "_law_right", "_law_told", "_law_many"]
theorem sc_law : FnScope N_law ["_law_script"] (defScope s_law) := ⟨rfl, rfl, rfl, by decide +kernel, rfl, by decide +kernel, by decide +kernel⟩
end K35
set_option Elab.async false
set_option linter.all false
set_option maxRecDepth 100000
set_option maxHeartbeats 1000000
/-! what the head tells -/
namespace K35
open PySem PySem.Spec L2
/-- a def as it stands behind the top: x its global name, m its own -/
def Df (W : Wd) (x m : Str) (st : Stmt) : Prop := ∃ f fd, W.mg x = some (.ref f) ∧ FunD W.K m m (defArgs st) (defBody st) (defScope st) [] [] f fd

structure Txt (W : Wd) : Prop where
  b_isinstance : W.mg "isinstance" = none
  b_int : W.mg "int" = none
  b_bool : W.mg "bool" = none
  b_tuple : W.mg "tuple" = none
  b_len : W.mg "len" = none
  b_all : W.mg "all" = none
  b_any : W.mg "any" = none
  b_sum : W.mg "sum" = none
  b_range : W.mg "range" = none
  b_enumerate : W.mg "enumerate" = none
  b_max : W.mg "max" = none
  b_list : W.mg "list" = none
  b_sorted : W.mg "sorted" = none
  b_str : W.mg "str" = none
  b_abs : W.mg "abs" = none
  c_MOST_PARTIES : ∃ t, W.mg "MOST_PARTIES" = some (.int 5 t)
  c_MOST_VOTES : ∃ t, W.mg "MOST_VOTES" = some (.int 1000000 t)
  c_MOST_SEATS : ∃ t, W.mg "MOST_SEATS" = some (.int 8 t)
  c_MOST_RESULTS : ∃ t, W.mg "MOST_RESULTS" = some (.int 6 t)
  c_MOST_STEPS : ∃ t, W.mg "MOST_STEPS" = some (.int 40 t)
  c_MOST_DIVISORS : ∃ t, W.mg "MOST_DIVISORS" = some (.int 20 t)
  c_LAST_UP : ∃ t, W.mg "LAST_UP" = some (.int 8 t)
  c_LEAST_DIVISORS : ∃ t, W.mg "LEAST_DIVISORS" = some (.int 9 t)
  inds : ∃ a, W.mg "INDICES" = some (.ref a) ∧ ∀ F, SqT W.K F a [.int 0, .int 1, .int 2, .int 3, .int 4, .int 5, .int 6, .int 7, .int 8, .int 9]
  d_is_whole_methods : Df W "is_whole_methods" "is_whole" s_is_whole_methods
  d_is_votes : Df W "is_votes" "is_votes" s_is_votes
  d_is_seats : Df W "is_seats" "is_seats" s_is_seats
  d_is_whole_fitting : Df W "is_whole_fitting" "is_whole" s_is_whole_fitting
  d_is_result : Df W "is_result" "is_result" s_is_result
  d_are_results : Df W "are_results" "are_results" s_are_results
  d_are_divisors : Df W "are_divisors" "are_divisors" s_are_divisors
  d_check_results : Df W "check_results" "check_results" s_check_results
  d_divisor_in : Df W "divisor_in" "divisor_in" s_divisor_in
  d_seen_in : Df W "seen_in" "seen_in" s_seen_in
  d_top_of : Df W "top_of" "top_of" s_top_of
  d_least_steps : Df W "least_steps" "least_steps" s_least_steps
  d_longer : Df W "longer" "longer" s_longer
  d_walks_of : Df W "walks_of" "walks_of" s_walks_of
  d_round_in : Df W "round_in" "round_in" s_round_in
  d_common : Df W "common" "common" s_common
  d_whole_numbers : Df W "whole_numbers" "whole_numbers" s_whole_numbers
  d_reduced : Df W "reduced" "reduced" s_reduced
  d_least_ratios : Df W "least_ratios" "least_ratios" s_least_ratios
  d_fit : Df W "fit" "fit" s_fit
  d_first_wrong : Df W "first_wrong" "first_wrong" s_first_wrong
  d_condition_of : Df W "condition_of" "condition_of" s_condition_of
  d_walked : Df W "walked" "walked" s_walked
  d_fitting : Df W "fitting" "fitting" s_fitting
  d_check_asked : Df W "check_asked" "check_asked" s_check_asked
  d_best_walks : Df W "best_walks" "best_walks" s_best_walks
  d_spread : Df W "spread" "spread" s_spread
  d_reached_from : Df W "reached_from" "reached_from" s_reached_from
  d_ratio_evidence : Df W "ratio_evidence" "ratio_evidence" s_ratio_evidence
  d_is_ratio : Df W "is_ratio" "is_ratio" s_is_ratio
  d_shows_most : Df W "shows_most" "shows_most" s_shows_most
  d_shows_none : Df W "shows_none" "shows_none" s_shows_none
  d_accepts_ratio : Df W "accepts_ratio" "accepts_ratio" s_accepts_ratio
  d_L_stream : Df W "_law_stream" "_law_stream" s_L_stream
  d_L_next : Df W "_law_next" "_law_next" s_L_next
  d_L_is_integer : Df W "_law_is_integer" "_law_is_integer" s_L_is_integer
  d_L_equal : Df W "_law_equal" "_law_equal" s_L_equal
  d_L_divisor : Df W "_law_divisor" "_law_divisor" s_L_divisor
  d_L_divisors : Df W "_law_divisors" "_law_divisors" s_L_divisors
  d_L_votes : Df W "_law_votes" "_law_votes" s_L_votes
  d_L_seated : Df W "_law_seated" "_law_seated" s_L_seated
  d_L_results : Df W "_law_results" "_law_results" s_L_results
  d_L_seen : Df W "_law_seen" "_law_seen" s_L_seen
  d_L_all : Df W "_law_all" "_law_all" s_L_all
  d_L_top : Df W "_law_top" "_law_top" s_L_top
  d_L_common : Df W "_law_common" "_law_common" s_L_common
  d_L_reduced : Df W "_law_reduced" "_law_reduced" s_L_reduced
  d_L_whole : Df W "_law_whole" "_law_whole" s_L_whole
  d_L_relaxed : Df W "_law_relaxed" "_law_relaxed" s_L_relaxed
  d_L_told_divisors : Df W "_law_told_divisors" "_law_told_divisors" s_L_told_divisors
  d_L_keeps : Df W "_law_keeps" "_law_keeps" s_L_keeps
  d_L_are_divisors : Df W "_law_are_divisors" "_law_are_divisors" s_L_are_divisors
  d_L_condition : Df W "_law_condition" "_law_condition" s_L_condition
  d_L_walked : Df W "_law_walked" "_law_walked" s_L_walked
  d_L_turned_steps : Df W "_law_turned_steps" "_law_turned_steps" s_L_turned_steps
  d_L_turned_divisors : Df W "_law_turned_divisors" "_law_turned_divisors" s_L_turned_divisors
  d_L_ratio : Df W "_law_ratio" "_law_ratio" s_L_ratio
  d_L_is_ratio : Df W "_law_is_ratio" "_law_is_ratio" s_L_is_ratio
  d_L_shows_most : Df W "_law_shows_most" "_law_shows_most" s_L_shows_most
  d_L_shows_none : Df W "_law_shows_none" "_law_shows_none" s_L_shows_none
  d_L_shows_ratio : Df W "_law_shows_ratio" "_law_shows_ratio" s_L_shows_ratio
  d_L_turned_chosen : Df W "_law_turned_chosen" "_law_turned_chosen" s_L_turned_chosen
  d_L_some : Df W "_law_some" "_law_some" s_L_some
  d_law : Df W "law" "law" s_law

section
variable {W : Wd} {k : Nat} {N ps : List Str} {x m : Str} {st : Stmt}
theorem cal_P {Sg : List Ty → Ty → Prop} (D : Df W x m st) (S : FnScope N ps (defScope st)) (hz : ps.length ≤ N.length)
    (bd : ∀ (kV doc pm : Value) (an : Option Addr) (cdv ct : Value) (us : List Value), us.length = ps.length → bindArgs (PySem.W.fnOf m m (defArgs st) (defBody st) (defScope st) .none kV doc pm an cdv ct) ⟨us, []⟩ = pure (ps.zip us))
    (len : ∀ τs τ, Sg τs τ → τs.length = ps.length) (h : ∀ X, Good W k true X N (defScope st) → ∀ τs τ, Sg τs τ → DB X (defBody st) (slots N τs) { nx := fun _ => ∀ F, τ.p .non F, rt := fun _ v F => τ.p v F }) : Cal W x (k + 1) ps (spP Sg) := by
  obtain ⟨f, fd, hm, F⟩ := D
  exact ⟨f, fd, fn_ok F S hz len h, hm, F.kp, F.bindsN bd⟩
theorem cal_O {j : Nat} {Sg : OTy → List Ty → OTy → Ty → Prop} (D : Df W x m st) (S : FnScope N ps (defScope st)) (hz : ps.length ≤ N.length)
    (bd : ∀ (kV doc pm : Value) (an : Option Addr) (cdv ct : Value) (us : List Value), us.length = ps.length → bindArgs (PySem.W.fnOf m m (defArgs st) (defBody st) (defScope st) .none kV doc pm an cdv ct) ⟨us, []⟩ = pure (ps.zip us))
    (len : ∀ ω τs ω' τ, Sg ω τs ω' τ → τs.length = ps.length) (h : ∀ X, Good W k true X N (defScope st) → ∀ a ω τs ω' τ, Sg ω τs ω' τ → DB X (defBody st) ((slots N τs).set j (.own a ω)) { nx := fun ρ' => (∀ F, τ.p .non F) ∧ ρ'[j]? = some (.own a ω'), rt := fun ρ' v F => τ.p v F ∧ ρ'[j]? = some (.own a ω') }) : Cal W x (k + 1) ps (spO j Sg) := by
  obtain ⟨f, fd, hm, F⟩ := D
  exact ⟨f, fd, fn_okO F S hz len h, hm, F.kp, F.bindsN bd⟩
end
end K35
set_option Elab.async false
set_option linter.all false
set_option maxRecDepth 100000
set_option maxHeartbeats 2000000
/-! the data layer: dicts -/
namespace K35
open PySem PySem.Spec L2
open PyProof.Rows hiding St

/-! ### kinds of dicts -/
def keyTy : Key → Ty
  | .inl i => Is (.int i)
  | .inr s => Is (.str s)
theorem keyTy_v {k : Key} {v : V} {F : Hp} (h : (keyTy k).p v F) : v = kV k := by
  cases k with
  | inl i => exact is_int h
  | inr s => exact is_str h
theorem keyTy_of {k : Key} {F : Hp} : (keyTy k).p (kV k) F := by
  cases k with
  | inl i => exact Dp.int i
  | inr s => exact Dp.str s
/-- a tuple of ints and texts that stands as itself -/
def KeyT (ks : List Key) : Ty := ⟨fun v F => ∃ b, v = .ref b ∧ F b = some (.tup (ks.map kV)), fun v F F' u ⟨b, e, h⟩ => ⟨b, e, u.tp b _ h⟩⟩
theorem keyT_all {F : Hp} : ∀ ks : List Key, All2 (ks.map keyTy) (ks.map kV) F
  | [] => .nil
  | k :: ks => .cons keyTy_of (keyT_all ks)
theorem keyT_tup {ks : List Key} {v : V} {F : Hp} (h : (KeyT ks).p v F) : (TupOf (ks.map keyTy)).p v F := by
  obtain ⟨b, rfl, h⟩ := h
  exact ⟨b, _, rfl, .inl h, keyT_all ks⟩
structure Kd where
  κ : Type
  dec : DecidableEq κ
  ho : List (κ × V) → HO
  mb : ∀ l, Mb (ho l)
  kt : κ → Ty
  /-- the key y is k -/
  at' : Hp → κ → V → Prop
  kat : ∀ {F H : Hp} {y : V} {k : κ}, Up F H → (kt k).p y F → at' H k y
  get : ∀ {H : Hp} {a : Addr} {kvs : List (κ × V)} {y : V} {k : κ}, Rd H a (ho kvs) → at' H k y → DGet H a y (valV kvs k)
  put : ∀ {H : Hp} {a : Addr} {kvs : List (κ × V)} {y v : V} {k : κ}, H a = some (ho kvs) → at' H k y → kvs.length < sizeLine → DPut H a y v (upd H a (ho (putK kvs k v)))
  inj : ∀ l l', ho l = ho l' → l = l'
  len : ∀ {P : Program} {w : World} {H : Hp} {h : Heap} {a : Addr} {kvs}, ObjOk P w H h a (ho kvs) → kvs.length ≤ sizeLine
  emp : ∀ {P : Program} {w : World} {H : Hp} (h : Heap) (hb : sysModules < h.objs.size), ObjOk P w H (h.push { cls := .type "dict", data := .dict #[] }) h.objs.size (ho [])
  set : ∀ {X : Cx} {pins : List (Addr × Obj)} {σ : L2.St} {H : Hp} {s : Shared} {E : Value → Shared → Prop} {D : Addr} {kvs : List (κ × V)} {k : κ} {y v : V} {u r : Value} {Q : Unit → Shared → Prop}, X.A.units < cLine → Inv X pins σ H s → H D = some (ho kvs) → kvs.length < sizeLine →
    at' H k y → RelV y u → RelV v r → (∀ s', Inv X pins σ (upd H D (ho (putK kvs k v))) s' → Q () s') → wpAny (model X.prog X.w) X.A (dictSet D u r) Q E s
instance (D : Kd) : DecidableEq D.κ := D.dec
def kdK : Kd where
  κ := Key
  dec := inferInstance
  ho := .dK
  mb := fun _ => True.intro
  kt := keyTy
  at' := fun _ k y => y = kV k
  kat := fun _ h => keyTy_v h
  get := fun e h => by subst h; exact .inl ⟨_, _, e, rfl, rfl⟩
  put := fun e h l => by subst h; exact DPut.k e l
  inj := fun l l' h => by injection h
  len := fun h => h.1
  emp := dk_empty
  set := fun _ I hD hz hy ry rv h => by subst hy; exact d_dictSet I hD hz ry rv h
theorem d_dictSetT {X : Cx} {pins : List (Addr × Obj)} {σ : L2.St} {H : Hp} {s : Shared} {E : Value → Shared → Prop} {D b : Addr} {kvs : List (List Key × V)} {k : List Key} {v : V} {r : Value} {Q : Unit → Shared → Prop} (hu : X.A.units < cLine) (I : Inv X pins σ H s) (hD : H D = some (.dT kvs)) (hz : kvs.length < sizeLine)
    (eb : H b = some (.tup (k.map kV))) (rv : RelV v r) (h : ∀ s', Inv X pins σ (upd H D (.dT (putK kvs k v))) s' → Q () s') : wpAny (model X.prog X.w) X.A (dictSet D (.ref b) r) Q E s := by
  obtain ⟨z, hd, xs, rel, dd⟩ := dt_of I.hok hD
  have hz : xs.length ≤ sizeLine := by rw [← Paired.length rel]; exact z
  have hl : (putK kvs k v).length ≤ sizeLine := by have := length_putK kvs k v; omega
  refine wpAny_dictSet_heap (hsz := hz) (knd := tupleKind (mixKind X.prog X.w)) hu (key_of I.hok eb) dd fun h' dd' hs => h _ ?_
  obtain ⟨q, es, ep, hq, h2, h3, h4, _, h5⟩ := dd'
  refine d_write I (by rw [hD]; exact True.intro) hs ⟨q, hq⟩ ⟨hl, hd, _, (rel.put k eb rv).keeps fun c ys ec => ?_, q, es, ep, hq, h2, h3, h4, h5⟩
  rw [upd_ne (ne_of ec hD (fun z => nomatch z))]
  exact ec
def kdT : Kd where
  κ := List Key
  dec := inferInstance
  ho := .dT
  mb := fun _ => True.intro
  kt := KeyT
  at' := fun H k y => ∃ b, y = .ref b ∧ H b = some (.tup (k.map kV))
  kat := fun u ⟨b, e, h⟩ => ⟨b, e, u.tp _ _ h⟩
  get := fun e ⟨b, eb, h⟩ => .inr ⟨_, _, b, e, eb, h, rfl⟩
  put := fun e ⟨b, eb, h⟩ l => by subst eb; exact DPut.t e h l
  inj := fun l l' h => by injection h
  len := fun h => h.1
  emp := dt_empty
  set := fun hu I hD hz ⟨b, eb, hb⟩ ry rv h => by
    subst eb
    cases (show _ = Value.ref b from ry)
    exact d_dictSetT hu I hD hz hb rv h

/-! ### pairs by types -/
section
variable {κ : Type} [DecidableEq κ]
abbrev KV2 (m : List (κ × Ty)) (kvs : List (κ × V)) (F : Hp) : Prop := Paired (fun p q => p.1 = q.1 ∧ p.2.p q.2 F) m kvs
def valM (m : List (κ × Ty)) (k : κ) : Option Ty := (m.find? fun kv => decide (kv.1 = k)).map (·.2)
def putM (m : List (κ × Ty)) (k : κ) (τ : Ty) : List (κ × Ty) := if (valM m k).isSome then m.map (fun kv => if kv.1 = k then (kv.1, τ) else kv) else m ++ [(k, τ)]
theorem valM_pos {p : κ × Ty} {r : List (κ × Ty)} {k : κ} (e : p.1 = k) : valM (p :: r) k = some p.2 := by simp [valM, List.find?_cons, e]
theorem valM_neg {p : κ × Ty} {r : List (κ × Ty)} {k : κ} (e : ¬ p.1 = k) : valM (p :: r) k = valM r k := by simp [valM, List.find?_cons, e]
theorem KV2.up {m : List (κ × Ty)} {kvs : List (κ × V)} {F F' : Hp} (u : Up F F') (h : KV2 m kvs F) : KV2 m kvs F' := Paired.mapP h fun p q z => ⟨z.1, p.2.up _ _ _ u z.2⟩
theorem KV2.val {m : List (κ × Ty)} {kvs : List (κ × V)} {F : Hp} (h : KV2 m kvs F) (k : κ) : (∀ τ, valM m k = some τ → ∃ v, valV kvs k = some v ∧ τ.p v F) ∧ (valM m k = none → valV kvs k = none) := by
  induction h with
  | nil => exact ⟨fun _ e => (nomatch e), fun _ => rfl⟩
  | @cons p q ps qs a t ih =>
    obtain ⟨a1, a2⟩ := a
    by_cases e : p.1 = k
    · have e' : q.1 = k := a1.symm.trans e
      rw [valM_pos e, valV_pos e']
      exact ⟨fun τ z => by cases z; exact ⟨_, rfl, a2⟩, fun z => nomatch z⟩
    · have e' : ¬ q.1 = k := fun z => e (a1.trans z)
      rw [valM_neg e, valV_neg e']
      exact ih
theorem KV2.isSome {m : List (κ × Ty)} {kvs : List (κ × V)} {F : Hp} (h : KV2 m kvs F) (k : κ) : (valV kvs k).isSome = (valM m k).isSome := by
  cases e : valM m k with
  | none => rw [(h.val k).2 e]; rfl
  | some τ => obtain ⟨v, z, _⟩ := (h.val k).1 τ e; rw [z]; rfl
theorem KV2.put {m : List (κ × Ty)} {kvs : List (κ × V)} {F : Hp} {τ : Ty} {v : V} (h : KV2 m kvs F) (hv : τ.p v F) (k : κ) : KV2 (putM m k τ) (putK kvs k v) F := by
  unfold putM putK
  rw [valV_any, h.isSome k]
  by_cases q : (valM m k).isSome = true
  · rw [if_pos q, if_pos q]
    clear q
    induction h with
    | nil => exact .nil
    | @cons p r ps qs a t ih =>
      rw [List.map_cons, List.map_cons]
      refine .cons ?_ ih
      obtain ⟨a1, a2⟩ := a
      by_cases e : p.1 = k
      · rw [if_pos e, if_pos (a1.symm.trans e)]; exact ⟨a1, hv⟩
      · rw [if_neg e, if_neg (fun z => e (a1.trans z))]; exact ⟨a1, a2⟩
  · rw [if_neg q, if_neg q]
    exact Paired.snoc h ⟨rfl, hv⟩
theorem length_putM (m : List (κ × Ty)) (k : κ) (τ : Ty) : (putM m k τ).length ≤ m.length + 1 := by
  unfold putM
  split
  · rw [List.length_map]; omega
  · rw [List.length_append]; exact Nat.le_refl _
end
/-- an own dict; one that is data -/
def OD (D : Kd) (m : List (D.κ × Ty)) : OTy := ⟨fun o F => ∃ kvs, o = D.ho kvs ∧ KV2 m kvs F, fun _ _ _ u ⟨kvs, e, h⟩ => ⟨kvs, e, h.up u⟩⟩
def FD (D : Kd) (m : List (D.κ × Ty)) : Ty := ⟨fun v F => ∃ a kvs, v = .ref a ∧ Rd F a (D.ho kvs) ∧ KV2 m kvs F, fun _ _ _ u ⟨a, kvs, e, r, h⟩ => ⟨a, kvs, e, u _ _ (D.mb _).plain r, h.up u⟩⟩
theorem froz_od {D : Kd} {m : List (D.κ × Ty)} {v : V} {F : Hp} (h : (Froz (OD D m)).p v F) : (FD D m).p v F := by
  obtain ⟨a, o, e, _, r, kvs, eo, q⟩ := h
  subst eo
  exact ⟨a, kvs, e, r, q⟩
/-- some dict of which P -/
def ODx (D : Kd) (P : List (D.κ × Ty) → Prop) : OTy := ⟨fun o F => ∃ m, P m ∧ (OD D m).p o F, fun o F F' u ⟨m, a, h⟩ => ⟨m, a, (OD D m).up o F F' u h⟩⟩
def FDx (D : Kd) (P : List (D.κ × Ty) → Prop) : Ty := Some' fun (m : { m : List (D.κ × Ty) // P m }) => FD D m.1
theorem froz_odx {D : Kd} {P : List (D.κ × Ty) → Prop} {v : V} {F : Hp} (h : (Froz (ODx D P)).p v F) : (FDx D P).p v F := by
  obtain ⟨a, o, e, pl, r, m, hm, q⟩ := h
  exact ⟨⟨m, hm⟩, froz_od ⟨a, o, e, pl, r, q⟩⟩

section
variable {W : Wd} {n k0 : Nat} {df : Bool} {X : Cx} {N ps : List Str} {sc : Scope} {e a b : Expr} {es : List Expr} {st : Stmt} {sts : List Stmt} {ρ : List Sl} {P : Post} {τ τ' τ1 τ2 : Ty} {τs : List Ty} {β : Bool → Prop} {pos p : Pos} {x : Str} {D : Kd} {m : List (D.κ × Ty)} {k : D.κ}
theorem Good.hu (g : Good W n df X N sc) : X.A.units + 1 < cLine := by have := Room.units g.room; omega
theorem DF.fd (h : DF X e ρ (OD D m)) : DE X e ρ (FD D m) := h.dat.sub fun _ _ => froz_od
theorem de_keyT {ks : List Key} {kk : Nat} (h : DEs X es ρ (ks.map keyTy)) (hz : (ks.map keyTy).length ≤ 1000 := by first | decide | exact Nat.le_of_ble_eq_true rfl) : DE X (.Tuple es kk pos) ρ (KeyT ks) := fun σ F G H Q S q =>
  we_of (pe_tup pa_w) (h σ F G H _ S fun vs F1 H1 x1 S1 p1 => ⟨by rw [← p1.length]; exact Nat.le_of_lt (small1000 hz), fun p hp =>
    q (.ref p) _ _ (x1.trans (S1.newExt hp)) (S1.new (o := .tup vs) hp) ⟨p, rfl, by
      have : vs = ks.map kV := vs_map (fun x v F h => keyTy_v h) p1
      rw [← this]; exact upd_same⟩⟩)
/-- d[k], of data, of an own one -/
theorem de_dget (g : Good W n df X N sc) (ha : DE X a ρ (FD D m)) (hb : DE X b ρ (D.kt k)) (h : valM m k = some τ) (hs : NoSl b := by exact fun _ _ => rfl) : DE X (.Subscript a b pos) ρ τ := fun σ F G H Q S q =>
  we_of (pe_dget g.hu pe_w pe_w hs) (ha σ F G H _ S fun v F1 H1 x1 S1 p1 => hb σ F1 G H1 _ S1 fun u F2 H2 x2 S2 p2 => by
    obtain ⟨d, kvs, rfl, r, hk⟩ := (FD D m).up _ _ _ x2.up p1
    obtain ⟨z, ez, pz⟩ := (hk.val k).1 τ h
    exact ⟨d, z, rfl, by rw [← ez]; exact D.get (S2.fh _ _ (D.mb _).plain r) (D.kat S2.fh p2), q z F2 H2 (x1.trans x2) S2 pz⟩)
theorem de_dgetO {s : Nat} {o1 : Addr} (g : Good W n df X N sc) (ha : DE X a ρ (At o1)) (hs' : ρ[s]? = some (.own o1 (OD D m))) (hb : DE X b ρ (D.kt k)) (h : valM m k = some τ) (hs : NoSl b := by exact fun _ _ => rfl) : DE X (.Subscript a b pos) ρ τ := fun σ F G H Q S q =>
  we_of (pe_dget g.hu pe_w pe_w hs) (ha σ F G H _ S fun v F1 H1 x1 S1 p1 => hb σ F1 G H1 _ S1 fun u F2 H2 x2 S2 p2 => by
    have ev : v = .ref o1 := p1
    subst ev
    obtain ⟨_, _, _, o, y4, _, kvs, eo, hk⟩ := S2.own s o1 _ hs'
    subst eo
    obtain ⟨z, ez, pz⟩ := (hk.val k).1 τ h
    exact ⟨o1, z, rfl, by rw [← ez]; exact D.get (.inl y4) (D.kat S2.fh p2), q z F2 H2 (x1.trans x2) S2 pz⟩)
theorem dt_din (g : Good W n df X N sc) (hb : DE X b ρ (D.kt k)) (ha : DE X a ρ (FD D m)) (hm : behindInMarks .In a = false := by rfl) : DT X (.Compare b [.In] [a] pos) ρ (fun c => c = (valM m k).isSome) := fun σ F G H Q S q =>
  wt_of (pt_cmp (pc_din g.hu pe_w pe_w) hm) (hb σ F G H _ S fun u F1 H1 x1 S1 p1 => ha σ F1 G H1 _ S1 fun v F2 H2 x2 S2 p2 => by
    obtain ⟨d, kvs, rfl, r, hk⟩ := p2
    refine ⟨d, _, rfl, D.get (S2.fh _ _ (D.mb _).plain r) (D.kat S2.fh ((D.kt k).up _ _ _ x2.up p1)), _, rfl, q _ F2 H2 (hk.isSome k) (x1.trans x2) S2⟩)
theorem dt_dnotin (g : Good W n df X N sc) (hb : DE X b ρ (D.kt k)) (ha : DE X a ρ (FD D m)) (hm : behindInMarks .NotIn a = false := by rfl) : DT X (.Compare b [.NotIn] [a] pos) ρ (fun c => c = !(valM m k).isSome) := fun σ F G H Q S q =>
  wt_of (pt_cmp (pc_dnotin g.hu pe_w pe_w) hm) (hb σ F G H _ S fun u F1 H1 x1 S1 p1 => ha σ F1 G H1 _ S1 fun v F2 H2 x2 S2 p2 => by
    obtain ⟨d, kvs, rfl, r, hk⟩ := p2
    refine ⟨d, _, rfl, D.get (S2.fh _ _ (D.mb _).plain r) (D.kat S2.fh ((D.kt k).up _ _ _ x2.up p1)), _, rfl, q _ F2 H2 (by rw [hk.isSome k]) (x1.trans x2) S2⟩)
theorem dt_dinO {s : Nat} {o1 : Addr} (g : Good W n df X N sc) (hb : DE X b ρ (D.kt k)) (ha : DE X a ρ (At o1)) (hs' : ρ[s]? = some (.own o1 (OD D m))) (hm : behindInMarks .In a = false := by rfl) : DT X (.Compare b [.In] [a] pos) ρ (fun c => c = (valM m k).isSome) := fun σ F G H Q S q =>
  wt_of (pt_cmp (pc_din g.hu pe_w pe_w) hm) (hb σ F G H _ S fun u F1 H1 x1 S1 p1 => ha σ F1 G H1 _ S1 fun v F2 H2 x2 S2 p2 => by
    have ev : v = .ref o1 := p2
    subst ev
    obtain ⟨_, _, _, o, y4, _, kvs, eo, hk⟩ := S2.own s o1 _ hs'
    subst eo
    refine ⟨o1, _, rfl, D.get (.inl y4) (D.kat S2.fh ((D.kt k).up _ _ _ x2.up p1)), _, rfl, q _ F2 H2 (hk.isSome k) (x1.trans x2) S2⟩)
theorem dt_dnotinO {s : Nat} {o1 : Addr} (g : Good W n df X N sc) (hb : DE X b ρ (D.kt k)) (ha : DE X a ρ (At o1)) (hs' : ρ[s]? = some (.own o1 (OD D m))) (hm : behindInMarks .NotIn a = false := by rfl) : DT X (.Compare b [.NotIn] [a] pos) ρ (fun c => c = !(valM m k).isSome) := fun σ F G H Q S q =>
  wt_of (pt_cmp (pc_dnotin g.hu pe_w pe_w) hm) (hb σ F G H _ S fun u F1 H1 x1 S1 p1 => ha σ F1 G H1 _ S1 fun v F2 H2 x2 S2 p2 => by
    have ev : v = .ref o1 := p2
    subst ev
    obtain ⟨_, _, _, o, y4, _, kvs, eo, hk⟩ := S2.own s o1 _ hs'
    subst eo
    refine ⟨o1, _, rfl, D.get (.inl y4) (D.kat S2.fh ((D.kt k).up _ _ _ x2.up p1)), _, rfl, q _ F2 H2 (by rw [hk.isSome k]) (x1.trans x2) S2⟩)
theorem upd_frame {H : Hp} {d : Addr} {o o' : HO} {F : Hp} (fs : ∀ b, H b = none → F b = none) (h : H d = some o) : ∀ b, upd H d o' b = none → F b = none := fun b hb => by
  by_cases z : b = d
  · subst z; rw [upd_same] at hb; cases hb
  · rw [upd_ne z] at hb; exact fs b hb
/-- d[k] = v -/
theorem ds_dput {s : Nat} {y : Str} {o1 : Addr} {pa pt : Pos} (g : Good W n df X N sc) (hs : ρ[s]? = some (.own o1 (OD D m))) (hi : DE X b ρ (D.kt k)) (hv : DE X a ρ τ) (hz : m.length ≤ 1000000) (kx : P.nx (ρ.set s (.own o1 (OD D (putM m k τ))))) (hN : N[s]? = some y := by rfl)
    (hvis : sc.names.lookup y = some .local ∨ sc.names.lookup y = some .cell ∨ sc.names.lookup y = some .free := by first | exact Or.inl rfl | exact Or.inr (Or.inl rfl) | exact Or.inr (Or.inr rfl)) (hd : (y == ("__debug__" : Str)) = false := by decide) (hcd : (y == ("__classdict__" : Str)) = false := by decide)
    (hsw : swapsWith a (some (.Subscript (.Name y pa) b pt)) pos.line X.env = pure false := by rfl) : DS X (.Assign [.Subscript (.Name y pa) b pt] a pos) ρ P := fun σ F G H Ds S ok =>
  ws_of (ps_dput g.hu pe_w pe_w pe_w hsw) (hv σ F G H _ S fun v F1 H1 x1 S1 p1 => (de_own (i := s) g hs hN hvis hd hcd) σ F1 G H1 _ S1 fun w F2 H2 x2 S2 p2 => hi σ F2 G H2 _ S2 fun u F3 H3 x3 S3 p3 => by
    have ev : w = .ref o1 := p2
    subst ev
    obtain ⟨_, _, _, o, y4, _, kvs, eo, hk⟩ := S3.own s o1 _ hs
    subst eo
    have hl : kvs.length < sizeLine := by rw [← Paired.length hk, sizeLine_eq]; omega
    exact ⟨o1, _, rfl, D.put y4 (D.kat S3.fh p3) hl, ok.nx _ σ F3 _ kx (x1.trans (x2.trans x3)) (S3.write hs (D.mb _) ⟨_, rfl, hk.put (τ.up _ _ _ (x2.trans x3).up p1) k⟩)⟩)
theorem df_dnewT : DF X (.Dict [] [] pos) ρ (OD kdT []) := fun σ F G H Q S q => we_of pe_dnewT fun p hp => by
  have hF := S.fs p hp
  have hG : G p = none := by
    cases z : G p with
    | none => rfl
    | some y => have := S.gh p y z; rw [hp] at this; cases this
  refine q p (.dT []) F _ (Ext.refl _ _) (S.mono (S.fh.trans (up_upd hp)) (fun c hc => ?_) (fun c y e => same_new hp c y (S.gh c y e)) (Up.refl _) fun i b ω' o e ho => ?_) hF hG (fun i b ω' e => ?_) upd_same True.intro ⟨[], rfl, .nil⟩
  · by_cases z : c = p
    · subst z; exact hF
    · rw [upd_ne z] at hc; exact S.fs c hc
  · obtain ⟨_, z2, _⟩ := S.own i b ω' e
    exact ⟨z2, by rw [upd_ne (ne_of_none ho hp)]; exact ho⟩
  · obtain ⟨_, _, _, o, z, _⟩ := S.own i b ω' e
    exact ne_of_none z hp
end
end K35
set_option Elab.async false
set_option linter.all false
set_option maxRecDepth 100000
set_option maxHeartbeats 2000000
/-! the data layer: dicts walked -/
namespace K35
open PySem PySem.Spec L2
open PyProof.Rows hiding St
theorem rd_uni {F : Hp} {b : Addr} {u u' : HO} (h : Rd F b u) (h' : Rd F b u') (p : Plain u) (p' : Plain u') : u = u' := by
  rcases h with h | ⟨o, h⟩ <;> rcases h' with h' | ⟨o', h'⟩ <;> (rw [h] at h'; cases h')
  · rfl
  · exact p.elim
  · exact p'.elim
  · rfl
theorem rd_ntup {F : Hp} {b : Addr} {u : HO} {xs : List V} (h : Rd F b u) (m : Mb u) (e : F b = some (.tup xs)) : False := by
  rcases h with h | ⟨o, h⟩ <;> (rw [e] at h; cases h)
  exact m
section
variable {ρ : List Sl} {σ : L2.St} {F G H : Hp} {d : Addr} {u : HO} {od : Obj}
theorem up_lock (h : Rd F d u) (m : Mb u) : Up F (upd F d (.frz od u)) := ⟨fun b z pl hb => by
  by_cases e : b = d
  · subst e
    cases rd_uni h hb m.plain pl
    exact .inr ⟨od, upd_same⟩
  · rcases hb with hb | ⟨y, hb⟩
    · exact .inl (by rw [upd_ne e]; exact hb)
    · exact .inr ⟨y, by rw [upd_ne e]; exact hb⟩, fun b xs hb => by
  by_cases e : b = d
  · subst e; exact (rd_ntup h m hb).elim
  · rw [upd_ne e]; exact hb⟩
theorem up_unlock (h : Rd F d u) (m : Mb u) : Up F (upd F d u) := ⟨fun b z pl hb => by
  by_cases e : b = d
  · subst e
    cases rd_uni h hb m.plain pl
    exact .inl upd_same
  · rcases hb with hb | ⟨y, hb⟩
    · exact .inl (by rw [upd_ne e]; exact hb)
    · exact .inr ⟨y, by rw [upd_ne e]; exact hb⟩, fun b xs hb => by
  by_cases e : b = d
  · subst e; exact (rd_ntup h m hb).elim
  · rw [upd_ne e]; exact hb⟩
theorem rd_some (h : Rd F d u) : F d ≠ none := by rcases h with h | ⟨_, h⟩ <;> (rw [h]; exact fun z => nomatch z)
theorem Sat.relock {o' : HO} (S : Sat ρ σ F G H) (h : Rd F d u) (m : Mb u) (up : Up F (upd F d o')) (hu : Rd (upd H d o') d u) (nt : ∀ xs, o' ≠ .tup xs) (pu : ∀ z, Plain z → Rd (upd F d o') d z → z = u) {G' : Hp} (gd : G' d = none ∨ G' d = some o') (ge : ∀ b, b ≠ d → G' b = none ∨ G' b = G b) : Sat ρ σ (upd F d o') G' (upd H d o') := by
  refine ⟨S.len, ⟨fun b z pl hb => ?_, fun b xs hb => ?_⟩, fun b hb => ?_, fun b z hb => ?_, fun j τ e => ?_, fun j a ω e => ?_, S.sep⟩
  · by_cases e : b = d
    · subst e
      rw [pu z pl hb]; exact hu
    · have hb' : Rd F b z := by
        rcases hb with hb | ⟨y, hb⟩
        · rw [upd_ne e] at hb; exact .inl hb
        · rw [upd_ne e] at hb; exact .inr ⟨y, hb⟩
      rcases S.fh b z pl hb' with r | ⟨y, r⟩
      · exact .inl (by rw [upd_ne e]; exact r)
      · exact .inr ⟨y, by rw [upd_ne e]; exact r⟩
  · by_cases e : b = d
    · subst e; rw [upd_same] at hb; cases hb; exact (nt xs rfl).elim
    · rw [upd_ne e] at hb ⊢; exact S.fh.tp b xs hb
  · by_cases e : b = d
    · subst e; rw [upd_same] at hb; cases hb
    · rw [upd_ne e] at hb ⊢; exact S.fs b hb
  · by_cases e : b = d
    · subst e
      rcases gd with r | r
      · rw [r] at hb; cases hb
      · rw [r] at hb; rw [upd_same]; exact hb
    · rw [upd_ne e]
      rcases ge b e with r | r
      · rw [r] at hb; cases hb
      · rw [r] at hb; exact S.gh b z hb
  · obtain ⟨v, e1, e2⟩ := S.dat j τ e
    exact ⟨v, e1, τ.up _ _ _ up e2⟩
  · obtain ⟨e1, e2, e3, o, e4, pl, e5⟩ := S.own j a ω e
    have nd : a ≠ d := fun z => rd_some h (by rw [← z]; exact e2)
    refine ⟨e1, by rw [upd_ne nd]; exact e2, ?_, o, by rw [upd_ne nd]; exact e4, pl, ω.up _ _ _ up e5⟩
    rcases ge a nd with r | r
    · exact r
    · rw [r]; exact e3
theorem Sat.lock (S : Sat ρ σ F G H) (h : Rd F d u) (m : Mb u) : Sat ρ σ (upd F d (.frz od u)) (upd G d (.frz od u)) (upd H d (.frz od u)) :=
  S.relock h m (up_lock h m) (.inr ⟨od, upd_same⟩) (fun _ z => nomatch z) (fun z pl r => by
    rcases r with r | ⟨y, r⟩
    · rw [upd_same] at r; cases r; exact pl.elim
    · rw [upd_same] at r; cases r; rfl) (.inr upd_same) fun b hb => .inr (upd_ne hb)
theorem Sat.unlock {F2 H2 : Hp} {ρ' : List Sl} {σ' : L2.St} (S : Sat ρ' σ' F2 (upd G d (.frz od u)) H2) (h : Rd F2 d u) (m : Mb u) (gd : G d = none ∨ G d = some u) : Sat ρ' σ' (upd F2 d u) G (upd H2 d u) :=
  S.relock h m (up_unlock h m) (.inl upd_same) (fun xs z => by subst z; exact m) (fun z pl r => by
    rcases r with r | ⟨y, r⟩
    · rw [upd_same] at r; cases r; rfl
    · rw [upd_same] at r; cases r; exact m.elim) gd fun b hb => .inr (upd_ne hb).symm
theorem Sat.guard {o' : HO} (S : Sat ρ σ F G H) (h : F d ≠ none) (hd : H d = some o') : Sat ρ σ F (upd G d o') H :=
  ⟨S.len, S.fh, S.fs, fun b z e => by
    by_cases q : b = d
    · subst q; rw [upd_same] at e; rw [hd]; exact e
    · rw [upd_ne q] at e; exact S.gh b z e, S.dat, fun j a ω e => by
    obtain ⟨e1, e2, e3, r⟩ := S.own j a ω e
    exact ⟨e1, e2, by rw [upd_ne (fun z => by subst z; exact h e2)]; exact e3, r⟩, S.sep⟩
theorem Sat.unguard {o' : HO} (S : Sat ρ σ F (upd G d o') H) (gd : G d = none ∨ G d = some o') : Sat ρ σ F G H :=
  ⟨S.len, S.fh, S.fs, fun b z e => by
    by_cases q : b = d
    · subst q
      rcases gd with r | r
      · rw [r] at e; cases e
      · exact S.gh _ z (by rw [upd_same]; rw [r] at e; exact e)
    · exact S.gh b z (by rw [upd_ne q]; exact e), S.dat, fun j a ω e => by
    obtain ⟨e1, e2, e3, r⟩ := S.own j a ω e
    refine ⟨e1, e2, ?_, r⟩
    have nd : a ≠ d := fun z => by subst z; rw [upd_same] at e3; cases e3
    rw [upd_ne nd] at e3; exact e3, S.sep⟩
theorem Ext.unguard {F' : Hp} {o' : HO} (x : Ext F (upd G d o') F') : Ext F G F' := ⟨x.up, fun b gb fb => x.own b (by
  by_cases q : b = d
  · subst q; rw [upd_same]; exact fun z => nomatch z
  · rw [upd_ne q]; exact gb) fb⟩
theorem Ext.unlock {F2 : Hp} {o1 : HO} (h : Rd F d u) (m : Mb u) (up1 : Up F (upd F d o1)) (x : Ext (upd F d o1) (upd G d o1) F2) (h2 : Rd F2 d u) : Ext F G (upd F2 d u) := ⟨up1.trans (x.up.trans (up_unlock h2 m)), fun b gb fb => by
  have nd : b ≠ d := fun z => by subst z; exact rd_some h fb
  rw [upd_ne nd]
  exact x.own b (by rw [upd_ne nd]; exact gb) (by rw [upd_ne nd]; exact fb)⟩
end
section
variable {W : Wd} {n k0 : Nat} {df : Bool} {X : Cx} {N ps : List Str} {sc : Scope} {e a b tg : Expr} {es : List Expr} {st : Stmt} {sts body : List Stmt} {ρ : List Sl} {P : Post} {τ τ' τ1 τ2 : Ty} {τs : List Ty} {β : Bool → Prop} {pos p : Pos} {x y : Str} {m : List (List Key × Ty)} {i : Nat}
theorem kv2_get {κ : Type} [DecidableEq κ] {m : List (κ × Ty)} {kvs : List (κ × V)} {F : Hp} (h : KV2 m kvs F) {j : Nat} {q : κ × V} (e : kvs[j]? = some q) : ∃ τ, m[j]? = some (q.1, τ) ∧ τ.p q.2 F := by
  induction h generalizing j with
  | nil => simp at e
  | @cons p r ps qs a t ih =>
    cases j with
    | zero => simp at e; subst e; exact ⟨p.2, by simp [← a.1], a.2⟩
    | succ j => simpa using ih (by simpa using e)
/-- for (a, b) in d: d data -/
theorem forD_core (g : Good W n df X N sc) {Pv : Nat → List Sl → Prop} (h : ∀ j ks τ ρ', m[j]? = some (ks, τ) → Pv j ρ' → DG X tg (KeyT ks) ρ' fun ρ2 => DB X body ρ2 { nx := Pv (j + 1), rt := P.rt, bk := P.nx, ct := Pv (j + 1) }) (hd : ∀ ρ', Pv m.length ρ' → P.nx ρ')
    (hN : N[i]? = some y) (hv : sc.names.lookup y = some .local ∨ sc.names.lookup y = some .cell ∨ sc.names.lookup y = some .free) (hdb : (y == ("__debug__" : Str)) = false) (hcd : (y == ("__classdict__" : Str)) = false)
    {d : Addr} {od : Obj} {kvs : List (List Key × V)} (σ : L2.St) (F G H : Hp) (D : Ends) (S : Sat ρ σ F G H) (h0 : Pv 0 ρ) (ok : P.Ok F G D) (hi : σ[i]? = some (some (.ref d))) (hk : KV2 m kvs F) (gd : G d = some (.frz od (.dT kvs)))
    (hs : ∀ z, foldedSetIterable (.Name y p) X.env z = pure z := by intro _; rfl) : WS X (.For tg (.Name y p) body [] pos) D σ H :=
  ws_of (ps_for (by rw [g.xe]; exact PySem.PassesOwn.never) g.calm (pi_keys (pe_var (i := i) (by rw [g.eN]; exact hN) (by unfold Vis; rw [g.es]; exact hv) hdb hcd)) pg_w pss_w hs) ⟨.ref d, hi, d, od, rfl, .inr ⟨kvs, S.gh d _ gd, by
    refine ⟨fun j w σ' H' => ∃ ρ' F', j + w = kvs.length ∧ Pv j ρ' ∧ Ext F G F' ∧ Sat ρ' σ' F' G H', ⟨kvs.length, ρ, F, by omega, h0, Ext.refl _ _, S⟩, fun j w σ' H' wh => ?_⟩
    obtain ⟨ρ', F', em, hP, x', S'⟩ := wh
    by_cases hlt : j < kvs.length
    · refine .inr ⟨⟨S'.gh d _ gd, hlt⟩, fun σ2 H2 => ∃ ρ2 F2, Pv (j + 1) ρ2 ∧ Ext F G F2 ∧ Sat ρ2 σ2 F2 G H2, fun σ2 H2 ⟨ρ2, F2, q1, q2, q3⟩ => ⟨w - 1, by omega, ρ2, F2, by omega, q1, q2, q3⟩, fun z H2 hz => ?_⟩
      obtain ⟨e2, ks, v, q, ekv, ez, hq⟩ := hz
      subst e2
      subst ez
      obtain ⟨τ, em2, _⟩ := kv2_get hk ekv
      obtain ⟨S2, x2⟩ := S'.seeT hq
      refine h j ks τ ρ' em2 hP (.ref q) σ' _ G H2 _ S2 ⟨q, rfl, upd_same⟩ fun ρ3 σ3 F3 H3 hb x3 S3 => ?_
      have x13 := x'.trans (x2.trans x3)
      have ok3 := ok.on x13
      exact hb σ3 F3 G H3 _ S3 ⟨fun ρ4 σ4 F4 H4 z x4 S4 => ⟨ρ4, F4, z, x13.trans x4, S4⟩, ok3.rt, ok3.nx, fun ρ4 σ4 F4 H4 z x4 S4 => ⟨ρ4, F4, z, x13.trans x4, S4⟩⟩
    · have e : j = kvs.length := by omega
      have el : kvs.length = m.length := (Paired.length hk).symm
      subst e
      exact .inl ⟨⟨S'.gh d _ gd, Nat.le_refl _⟩, ok.nx ρ' σ' F' H' (hd ρ' (by rw [← el]; exact hP)) x' S'⟩⟩⟩
theorem ds_forD (g : Good W n df X N sc) (hs' : ρ[i]? = some (.dat (FD kdT m))) (hrt : ∀ ρ' v F F', Up F F' → P.rt ρ' v F → P.rt ρ' v F')
    (h : ∃ Pv : Nat → List Sl → Prop, Pv 0 ρ ∧ (∀ j ks τ ρ', m[j]? = some (ks, τ) → Pv j ρ' → DG X tg (KeyT ks) ρ' fun ρ2 => DB X body ρ2 { nx := Pv (j + 1), rt := P.rt, bk := P.nx, ct := Pv (j + 1) }) ∧ ∀ ρ', Pv m.length ρ' → P.nx ρ')
    (hN : N[i]? = some y := by rfl) (hv : sc.names.lookup y = some .local ∨ sc.names.lookup y = some .cell ∨ sc.names.lookup y = some .free := by first | exact Or.inl rfl | exact Or.inr (Or.inl rfl) | exact Or.inr (Or.inr rfl)) (hdb : (y == ("__debug__" : Str)) = false := by decide) (hcd : (y == ("__classdict__" : Str)) = false := by decide)
    (hs : ∀ z, foldedSetIterable (.Name y p) X.env z = pure z := by intro _; rfl) : DS X (.For tg (.Name y p) body [] pos) ρ P := fun σ F G H D S ok => by
  obtain ⟨Pv, h0, h1, h2⟩ := h
  obtain ⟨v, hi, d, kvs, rfl, r, hk⟩ := S.dat i _ hs'
  have r : Rd F d (.dT kvs) := r
  have mb : Mb (.dT kvs) := True.intro
  rcases S.fh d _ mb.plain r with hd | ⟨od, hd⟩
  · refine ws_of (ps_lock ps_w) ⟨d, .dT kvs, hd, True.intro, fun od => ?_⟩
    have gd : G d = none ∨ G d = some (.dT kvs) := by
      cases z : G d with
      | none => exact .inl rfl
      | some q => have := S.gh d q z; rw [hd] at this; cases this; exact .inr rfl
    have rd2 : ∀ {F2 : Hp}, Ext (upd F d (.frz od (.dT kvs))) (upd G d (.frz od (.dT kvs))) F2 → Rd F2 d (.dT kvs) := fun x => x.up _ _ mb.plain (.inr ⟨od, upd_same⟩)
    refine forD_core g h1 h2 hN hv hdb hcd (od := od) (kvs := kvs) σ _ (upd G d (.frz od (.dT kvs))) _ _ (S.lock r mb) h0 ⟨fun ρ' σ' F2 H2 z x2 S2 => ?_, fun ρ' σ' v2 F2 H2 z x2 S2 => ?_, fun ρ' σ' F2 H2 z x2 S2 => ?_, fun ρ' σ' F2 H2 z x2 S2 => ?_⟩ hi (hk.up (up_lock r mb)) upd_same hs
    · exact ⟨S2.gh d _ upd_same, ok.nx ρ' σ' _ _ z (Ext.unlock r mb (up_lock r mb) x2 (rd2 x2)) (S2.unlock (rd2 x2) mb gd)⟩
    · exact ⟨S2.gh d _ upd_same, ok.rt ρ' σ' v2 _ _ (hrt _ _ _ _ (up_unlock (rd2 x2) mb) z) (Ext.unlock r mb (up_lock r mb) x2 (rd2 x2)) (S2.unlock (rd2 x2) mb gd)⟩
    · exact ⟨S2.gh d _ upd_same, ok.bk ρ' σ' _ _ z (Ext.unlock r mb (up_lock r mb) x2 (rd2 x2)) (S2.unlock (rd2 x2) mb gd)⟩
    · exact ⟨S2.gh d _ upd_same, ok.ct ρ' σ' _ _ z (Ext.unlock r mb (up_lock r mb) x2 (rd2 x2)) (S2.unlock (rd2 x2) mb gd)⟩
  · have gd : G d = none ∨ G d = some (.frz od (.dT kvs)) := by
      cases z : G d with
      | none => exact .inl rfl
      | some q => have := S.gh d q z; rw [hd] at this; cases this; exact .inr rfl
    refine forD_core g h1 h2 hN hv hdb hcd (od := od) (kvs := kvs) σ F (upd G d (.frz od (.dT kvs))) H D (S.guard (rd_some r) hd) h0 ⟨fun ρ' σ' F2 H2 z x2 S2 => ?_, fun ρ' σ' v2 F2 H2 z x2 S2 => ?_, fun ρ' σ' F2 H2 z x2 S2 => ?_, fun ρ' σ' F2 H2 z x2 S2 => ?_⟩ hi hk upd_same hs
    · exact ok.nx ρ' σ' _ _ z x2.unguard (S2.unguard gd)
    · exact ok.rt ρ' σ' v2 _ _ z x2.unguard (S2.unguard gd)
    · exact ok.bk ρ' σ' _ _ z x2.unguard (S2.unguard gd)
    · exact ok.ct ρ' σ' _ _ z x2.unguard (S2.unguard gd)
end
end K35
set_option Elab.async false
set_option linter.all false
set_option maxRecDepth 100000
set_option maxHeartbeats 2000000
/-! the data layer: dict comprehensions, by the kind of dict -/
namespace K35
open PySem PySem.Spec L2
open PyProof.Rows hiding St
section
variable {X : Cx}
/-- {k: v for target in iter if ..}: D the new dict -/
def tDcG (KD : Kd) (wi : TI) (g : TG) (tt : TT) (tk tv : TE) (vs : List Nat) : TE := fun σ H Q => wi σ H fun J H1 => ∀ D, H1 D = none → ∃ Wt : Nat → Nat → Hp → Prop, (∃ m, Wt 0 m (upd H1 D (KD.ho []))) ∧ ∀ i m H, Wt i m H →
  (J.stop i H ∧ Q (.ref D) H) ∨ (J.go i H ∧ ∃ Nx : Hp → Prop, (∀ H', Nx H' → ∃ m', m' < m ∧ Wt (i + 1) m' H') ∧ ∀ x H', J.yld i H x H' → g x (wipe σ vs) H' fun σ2 H2 => wipe σ2 vs = wipe σ vs ∧ tt σ2 H2 fun b H3 =>
    if b = true then tk σ2 H3 fun y H4 => tv σ2 H4 fun z H5 => ∃ kvs k, KD.at' H5 k y ∧ H5 D = some (KD.ho kvs) ∧ kvs.length < sizeLine ∧ Nx (upd H5 D (KD.ho (putK kvs k z))) else Nx H3)
theorem dcG_core (KD : Kd) {pins : List (Addr × Obj)} {s : Shared} {σ : L2.St} {H : Hp} {Q : VK} {kx vx tg iter : Expr} {ifs : List Expr} {scope : Scope} {own : List (Str × Nat)} {pos pos' : Pos} {wi : TI} {g : TG} {tt : TT} {tk tv : TE} {use : Option (Value → Sem Unit)} {Qf : Value → Shared → Prop}
    (hc : X.calm = true) (hu : X.A.units < cLine) (hN : X.N.Nodup) (I : Inv X pins σ H s) (hi : PI X tg iter wi) (ok : BlkOk X.N X.env.scope scope own)
    (hg : ∀ (s : Shared) (H : Hp) (C : Addr) (cl : List (Str × Addr)) (fp : List Addr), PG (X.blk s H scope (compEnvC scope cl C X.env) fp) tg g) (ht : ∀ (s : Shared) (H : Hp) (C : Addr) (cl : List (Str × Addr)) (fp : List Addr), PTs (X.blk s H scope (compEnvC scope cl C X.env) fp) ifs tt)
    (hk : ∀ (s : Shared) (H : Hp) (C : Addr) (cl : List (Str × Addr)) (fp : List Addr), PE (X.blk s H scope (compEnvC scope cl C X.env) fp) kx tk)
    (he : ∀ (s : Shared) (H : Hp) (C : Addr) (cl : List (Str × Addr)) (fp : List Addr), PE (X.blk s H scope (compEnvC scope cl C X.env) fp) vx tv) (hs : ∀ x, foldedSetIterable iter X.env x = pure x)
    (h : tDcG KD wi g tt tk tv (own.map (·.2)) σ H Q)
    (hRR : ∀ D C s' m H', Inv X pins σ H' s' → Q (.ref D) H' → s'.heap.Ns C m → FpOk X pins H' C → compPost (model X.prog X.w) X.A X.xe use Qf (.ref D) C (.ok .next) s') :
    wpAny (model X.prog X.w) X.A (comprehension (.DictComp kx vx [⟨tg, iter, ifs, 0⟩] scope pos) scope X.env pos' newDict false (eval iter X.env) use) Qf X.xe s := by
  have hfree : ∀ y ∈ scope.names, y.2 = .free → ∃ c, X.env.cells.lookup y.1 = some c := fun y hy e => by
    rcases ok.free y hy e with k | k
    · exact I.ok.has _ (.inl k)
    · exact I.ok.has _ (.inr k)
  refine wpAny_comprehension_free (use := use) rfl hs (closure_ok hfree) ok.kind (fun y hy e => by rw [ok.uniq y hy, e])
    (thn (hi.run pins s σ H _ I h) fun xv s1 hx => thn hx fun itv s2 h2 => ?_)
  obtain ⟨it, fp, tn, J, H2, e, I2, T, st2, f2, q⟩ := h2
  subst e
  refine wpAny_newObj_type (newEnv_comp ?_)
  generalize hD : s2.heap.objs.size = D
  have hDn : H2 D = none := I2.hok.fresh (Nat.le_of_eq hD)
  obtain ⟨Wt, ⟨m0, w0⟩, turn⟩ := q D hDn
  generalize hs3 : ({ s2 with heap := s2.heap.push { cls := .type "dict", data := .dict #[] } } : Shared) = s3
  have I3 : Inv X pins σ (upd H2 D (KD.ho [])) s3 := by
    rw [← hs3]
    refine I2.laid (t' := s2.toks) (fun b o e => Heap.get?_push_of_some _ e) (Nat.le_of_eq hD) ?_
    rw [← hD]
    exact KD.emp s2.heap I2.big
  have h3 : s3.heap = s2.heap.push { cls := .type "dict", data := .dict #[] } := by rw [← hs3]
  have sz : ∀ b ∈ fp, b < s2.heap.objs.size := fun b hb => by
    obtain ⟨o, e, _⟩ := T.obj _ _ st2 b hb
    exact Heap.lt_size e
  have f3 : ∀ b ∈ fp, FpOk X pins (upd H2 D (KD.ho [])) b ∧ b < s3.heap.objs.size := fun b hb => by
    have hlt := sz b hb
    refine ⟨⟨?_, (f2 b hb).2⟩, by rw [h3, Heap.size_push]; exact Nat.lt_succ_of_lt hlt⟩
    rw [upd_ne (by rw [← hD]; exact Nat.ne_of_lt hlt)]
    exact (f2 b hb).1
  have st3 : tn 0 s3.heap := T.keep _ _ _ st2 fun b _ o e => by rw [h3]; exact Heap.get?_push_of_some _ e
  have I4 := block_start I3 ok hN f3
  have pg := hg s3 (upd H2 D (KD.ho [])) s3.heap.objs.size (cellsFrom (s3.heap.objs.size + 1) scope.names (cloFrom X.env.cells scope.names [])) fp
  have pt := ht s3 (upd H2 D (KD.ho [])) s3.heap.objs.size (cellsFrom (s3.heap.objs.size + 1) scope.names (cloFrom X.env.cells scope.names [])) fp
  have pk := hk s3 (upd H2 D (KD.ho [])) s3.heap.objs.size (cellsFrom (s3.heap.objs.size + 1) scope.names (cloFrom X.env.cells scope.names [])) fp
  have pe := he s3 (upd H2 D (KD.ho [])) s3.heap.objs.size (cellsFrom (s3.heap.objs.size + 1) scope.names (cloFrom X.env.cells scope.names [])) fp
  show codeAny _ _ (.compStart (.DictComp kx vx [⟨tg, iter, ifs, 0⟩] scope pos) 0 (.ref it) (.ref D) (compEnvC scope (cellsFrom (s3.heap.objs.size + 1) scope.names (cloFrom X.env.cells scope.names [])) s3.heap.objs.size X.env)) (compPost (model X.prog X.w) X.A X.xe use Qf (.ref D) s3.heap.objs.size) { s3 with heap := pushCells (s3.heap.push { cls := .type "dict", data := .dict #[] }) scope.names }
  have nfp : ∀ b ∈ fp, (upd H2 D (KD.ho [])) b = none := fun b hb => (f3 b hb).1.1
  generalize hce : compEnvC scope (cellsFrom (s3.heap.objs.size + 1) scope.names (cloFrom X.env.cells scope.names [])) s3.heap.objs.size X.env = ce at I4 pg pt pk pe ⊢
  have cL : ce.locals = s3.heap.objs.size := by subst hce; rfl
  generalize hH3 : upd H2 D (KD.ho []) = H3 at I3 I4 pg pt pk pe w0 nfp f3
  generalize hs4 : ({ s3 with heap := pushCells (s3.heap.push { cls := .type "dict", data := .dict #[] }) scope.names } : Shared) = s4 at I4 ⊢
  have st4 : tn 0 s4.heap := T.keep _ _ _ st3 fun b _ o e => by rw [← hs4]; exact pushCells_keeps _ _ _ _ (Heap.get?_push_of_some _ e)
  have stat : ∀ {σ' : L2.St} {H' : Hp} {s' : Shared}, Inv (X.blk s3 H3 scope ce fp) [] σ' H' s' → (∀ b ∈ fp, H' b = none) → ∀ b ∈ fp, FpOk (X.blk s3 H3 scope ce fp) [] H' b := fun {σ' H' s'} I' hn b hb =>
    ⟨hn b hb, (I'.ok.exf b hb).1, I'.ok.exfs b hb, .inl hb, fun x c e => (I'.ok.exf b hb).2 x c e, fun p hp => absurd (show p ∈ ([] : List (Addr × Obj)) ++ [] from hp) (by simp)⟩
  have loop : codeAny (model X.prog X.w) X.A (.compLoop (.DictComp kx vx [⟨tg, iter, ifs, 0⟩] scope pos) 0 (.ref it) (.ref D) ce) (compPost (model X.prog X.w) X.A X.xe use Qf (.ref D) s3.heap.objs.size) s4 := by
    refine compLoop_anyD (fun n s' => ∃ i H', Inv (X.blk s3 H3 scope ce fp) [] (wipe σ (own.map (·.2))) H' s' ∧ tn i s'.heap ∧ (∀ b ∈ fp, H' b = none) ∧ Wt i n H') ?_ m0 ⟨0, H3, I4, st4, nfp, w0⟩
    rintro n s5 ⟨i, H5, I5, st5, n5, w5⟩
    rcases turn i n H5 w5 with ⟨stop, qq⟩ | ⟨go, Nx, hNx, step⟩
    · have td := T.done (X.blk s3 H3 scope ce fp) rfl rfl rfl hc i [] s5 _ H5 (fun _ _ => False) I5 (stat I5 n5) st5 stop
      refine thnF td fun r s6 ⟨hr, I6⟩ => ?_
      subst hr
      have I7 : Inv X pins σ H5 s6 := I3.call' (ch := fp) I6.os I6.base I6.hok I6.bare fun b hb => ⟨(f3 b hb).1.2.2.2.1, (f3 b hb).1.2.1, (f3 b hb).1.2.2.2.2.1, (f3 b hb).1.2.2.2.2.2⟩
      have nC : H5 s3.heap.objs.size = none := by
        have z : H5 ce.locals = none := I6.free
        rw [cL] at z
        exact z
      obtain ⟨m, hn, _⟩ := I6.loc
      have hn : s6.heap.Ns ce.locals m := hn
      rw [cL] at hn
      exact hRR D s3.heap.objs.size s6 m H5 I7 qq hn (I3.fpOk (Nat.le_refl _) nC)
    · have ti := T.item (X.blk s3 H3 scope ce fp) rfl rfl rfl hc i [] s5 _ H5 (fun _ _ => False) I5 (stat I5 n5) st5 go
      refine thnF ti fun r s6 ⟨u, hr, h6⟩ => ?_
      subst hr
      refine thnF h6 fun _ s7 ⟨x, H7, I7, r7, y7, st7, n7⟩ => ?_
      have I7' := I7.pinned (stat I7 n7) (T.obj _ _ st7)
      refine thnF (pg.run _ s7 _ H7 x u _ I7' r7 (step x H7 y7)) fun _ s8 ⟨σ8, H8, I8, hw8, q8⟩ => ?_
      refine thnF (pt.run _ s8 σ8 H8 _ I8 q8) fun b s9 ⟨H9, I9, q9⟩ => ?_
      have fin : ∀ {s' : Shared} {H' : Hp}, Inv (X.blk s3 H3 scope ce fp) ([] ++ pinsAt fp s7.heap) σ8 H' s' → Nx H' → ∃ m, m < n ∧ ∃ i H', Inv (X.blk s3 H3 scope ce fp) [] (wipe σ (own.map (·.2))) H' s' ∧ tn i s'.heap ∧ (∀ b ∈ fp, H' b = none) ∧ Wt i m H' := fun {s' H'} I' nx => by
        obtain ⟨m', hm, w'⟩ := hNx H' nx
        have pin' : ∀ b ∈ fp, ∀ o, s7.heap.get? b = some o → s'.heap.get? b = some o ∧ H' b = none := fun b hb o e =>
          let z := I'.pin (b, o) (List.mem_append_right _ (List.mem_append_right _ (mem_pinsAt hb e)))
          ⟨z.1, z.2.1⟩
        have hl : (wipe σ (own.map (·.2))).length = σ8.length := by rw [← hw8, wipe_length]
        refine ⟨m', hm, i + 1, H', (I'.unpinned (pins := [])).weak hl (fun j v e => ?_), T.keep _ _ _ st7 fun b hb o e => (pin' b hb o e).1, fun b hb => ?_, w'⟩
        · rw [← hw8] at e
          exact (wipe_some e).1
        · obtain ⟨o, e, _⟩ := T.obj _ _ st7 b hb
          exact (pin' b hb o e).2
      cases b with
      | false =>
        simp only [Bool.false_eq_true, if_false] at q9 ⊢
        exact fin I9 q9
      | true =>
        simp only [if_true] at q9 ⊢
        refine thnF (pk.run _ s9 σ8 H9 _ I9 q9) fun z s10 ⟨yk, H10, I10, r10, q10⟩ => ?_
        refine thnF (pe.run _ s10 σ8 H10 _ I10 q10) fun z2 s11 ⟨yv, H11, I11, r11, kvs, k, ek, hD11, hz11, nx⟩ => ?_
        exact KD.set (X := X.blk s3 H3 scope ce fp) hu I11 hD11 hz11 ek r10 r11 fun s12 I12 => fin I12 nx
  exact codeAny_compStart_dict loop (T.self X.A 0 _ _ _ st4 loop)
theorem pe_dcG (KD : Kd) {kx vx tg iter : Expr} {ifs : List Expr} {scope : Scope} {own : List (Str × Nat)} {pos : Pos} {wi : TI} {g : TG} {tt : TT} {tk tv : TE} (hc : X.calm = true) (hu : X.A.units < cLine) (hN : X.N.Nodup) (hi : PI X tg iter wi) (ok : BlkOk X.N X.env.scope scope own)
    (hg : ∀ (s : Shared) (H : Hp) (C : Addr) (cl : List (Str × Addr)) (fp : List Addr), PG (X.blk s H scope (compEnvC scope cl C X.env) fp) tg g) (ht : ∀ (s : Shared) (H : Hp) (C : Addr) (cl : List (Str × Addr)) (fp : List Addr), PTs (X.blk s H scope (compEnvC scope cl C X.env) fp) ifs tt)
    (hk : ∀ (s : Shared) (H : Hp) (C : Addr) (cl : List (Str × Addr)) (fp : List Addr), PE (X.blk s H scope (compEnvC scope cl C X.env) fp) kx tk)
    (he : ∀ (s : Shared) (H : Hp) (C : Addr) (cl : List (Str × Addr)) (fp : List Addr), PE (X.blk s H scope (compEnvC scope cl C X.env) fp) vx tv) (hs : ∀ x, foldedSetIterable iter X.env x = pure x := by intro _; rfl) :
    PE X (.DictComp kx vx [⟨tg, iter, ifs, 0⟩] scope pos) (tDcG KD wi g tt tk tv (own.map (·.2))) := by
  refine ⟨fun pins s σ H Q I h => ?_⟩
  rw [arm_eval_DictComp]
  refine dcG_core KD hc hu hN I hi ok hg ht hk he hs h fun D C s' m H' I' q hn f => ⟨m, hn, fun h'' sb => ?_⟩
  obtain ⟨f0, f1, f2, f3, f4, f5⟩ := f
  exact ⟨.ref D, H', I'.turned (t' := s'.toks) (fun b o hb e => (sb.2 b hb).trans e) f0 f1 f3 f4 f5, rfl, q⟩
end

section
variable {W : Wd} {n k0 : Nat} {df : Bool} {X : Cx} {N ps : List Str} {sc : Scope} {e a b tg : Expr} {es : List Expr} {st : Stmt} {sts body : List Stmt} {ρ : List Sl} {P : Post} {τ τ' τ1 τ2 : Ty} {τs : List Ty} {β : Bool → Prop} {pos p : Pos} {x y : Str} {m : List (List Key × Ty)} {i : Nat}
/-- while the dict in the slot i is locked -/
theorem dc_core2 {KD : Kd} {kx vx : Expr} {ifs : List Expr} {scope : Scope} {own : List (Str × Nat)} {Pt : List (KD.κ × Ty) → Prop} (g : Good W n df X N sc) (hb : blkC N sc scope own = true) (hno : ∀ i ∈ own.map (·.2), ∀ (a : Addr) (ω : OTy), ρ[i]? ≠ some (.own a ω))
    (hz : m.length ≤ 100000) (Acc : Nat → List (KD.κ × Ty) → Prop) (a0 : Acc 0 []) (al : ∀ i ts, Acc i ts → ts.length ≤ i)
    (turn : ∀ (j : Nat) ks τ0 (ts : List (KD.κ × Ty)), m[j]? = some (ks, τ0) → Acc j ts → ∃ ρ2, (∀ l, l ∉ own.map (·.2) → ρ2[l]? = ρ[l]?) ∧ (∀ X', Good W n false X' N (relS scope sc) → CG X' tg (KeyT ks) (wipeL ρ (own.map (·.2))) (own.map (·.2)) fun r => r = ρ2) ∧
        ∃ β, (∀ X', Good W n false X' N (relS scope sc) → DTs X' ifs ρ2 β) ∧ (β true → ∃ k τ, (∀ X', Good W n false X' N (relS scope sc) → DE X' kx ρ2 (KD.kt k)) ∧ (∀ X', Good W n false X' N (relS scope sc) → DE X' vx ρ2 τ) ∧ Acc (j + 1) (putM ts k τ)) ∧ (β false → Acc (j + 1) ts))
    (fin : ∀ ts, Acc m.length ts → Pt ts)
    (hN : N[i]? = some y) (hv : sc.names.lookup y = some .local ∨ sc.names.lookup y = some .cell ∨ sc.names.lookup y = some .free) (hdb : (y == ("__debug__" : Str)) = false) (hcd : (y == ("__classdict__" : Str)) = false)
    {d : Addr} {od : Obj} {kvs0 : List (List Key × V)} (σ : L2.St) (F G H : Hp) (Q : VK) (S : Sat ρ σ F G H) (hi : σ[i]? = some (some (.ref d))) (hk0 : KV2 m kvs0 F) (gd : G d = some (.frz od (.dT kvs0)))
    (q : ∀ a o F' H', Ext F G F' → Sat ρ σ F' G H' → F' a = none → G a = none → (∀ (i : Nat) (b : Addr) (ω' : OTy), ρ[i]? = some (.own b ω') → b ≠ a) → H' a = some o → Mb o → (ODx KD Pt).p o F' → Q (.ref a) H')
    (hs : ∀ x, foldedSetIterable (.Name y p) X.env x = pure x := by intro _; rfl) :
    WE X (.DictComp kx vx [⟨tg, .Name y p, ifs, 0⟩] scope pos) σ H Q := by
  have bo : BlkOk N sc scope own := blkOk_by hb
  have bo' : BlkOk X.N X.env.scope scope own := by rw [g.eN, g.es]; exact bo
  unfold WE
  refine fun pins s I => (pe_dcG KD g.calm (Room.units0 g.room) (by rw [g.eN]; exact g.nd) (pi_keys (pe_var (i := i) (by rw [g.eN]; exact hN) (by unfold Vis; rw [g.es]; exact hv) hdb hcd)) bo' (g := fun v σ' H' Q' => ∀ X', Good W n false X' N (relS scope sc) → WG X' tg v σ' H' Q') (tt := fun σ' H' Q' => ∀ X', Good W n false X' N (relS scope sc) → WTs X' ifs σ' H' Q') (tk := fun σ' H' Q' => ∀ X', Good W n false X' N (relS scope sc) → WE X' kx σ' H' Q') (tv := fun σ' H' Q' => ∀ X', Good W n false X' N (relS scope sc) → WE X' vx σ' H' Q')
    (fun s H C cl fp => ⟨fun pins s' σ' H' v u Q' I' r h => pg_w.run pins s' σ' H' v u Q' I' r (h _ (g.blk bo.kind s H C cl fp))⟩) (fun s H C cl fp => ⟨fun pins s' σ' H' Q' I' h => pts_w.run pins s' σ' H' Q' I' (h _ (g.blk bo.kind s H C cl fp))⟩) (fun s H C cl fp => ⟨fun pins s' σ' H' Q' I' h => pe_w.run pins s' σ' H' Q' I' (h _ (g.blk bo.kind s H C cl fp))⟩) (fun s H C cl fp => ⟨fun pins s' σ' H' Q' I' h => pe_w.run pins s' σ' H' Q' I' (h _ (g.blk bo.kind s H C cl fp))⟩) hs).run pins s σ H Q I ?_
  refine ⟨.ref d, hi, d, od, rfl, .inr ⟨kvs0, S.gh d _ gd, fun D hD => ?_⟩⟩
  have hF1 := S.fs D hD
  have hG : G D = none := by
    cases z : G D with
    | none => rfl
    | some y => have := S.gh D y z; rw [hD] at this; cases this
  have nOwn : ∀ (i : Nat) (b : Addr) (ω' : OTy), ρ[i]? = some (.own b ω') → b ≠ D := fun i b ω' e => by
    obtain ⟨_, _, _, o, z, _⟩ := S.own i b ω' e
    exact ne_of_none z hD
  have lk : kvs0.length = m.length := (Paired.length hk0).symm
  refine ⟨fun j w H' => ∃ ts acc F', j + w = kvs0.length ∧ Acc j ts ∧ Ext F G F' ∧ Sat ρ σ F' G H' ∧ F' D = none ∧ H' D = some (KD.ho acc) ∧ KV2 ts acc F', ⟨kvs0.length, [], [], F, by omega, a0, Ext.refl _ _, ?_, hF1, upd_same, .nil⟩, fun j w H' wh => ?_⟩
  · refine S.mono (S.fh.trans (up_upd hD)) (fun c hc => ?_) (fun c y e => same_new hD c y (S.gh c y e)) (Up.refl _) fun i b ω' o e ho => ?_
    · by_cases z : c = D
      · subst z; exact hF1
      · rw [upd_ne z] at hc; exact S.fs c hc
    · obtain ⟨_, z2, _⟩ := S.own i b ω' e
      exact ⟨z2, by rw [upd_ne (ne_of_none ho hD)]; exact ho⟩
  · obtain ⟨ts, acc, F', em, hA, x', S', hF', hH', hts⟩ := wh
    have tl := al j ts hA
    have mbD : Mb (KD.ho acc) := KD.mb acc
    have SG : ∀ {ρ' : List Sl} {σ' : L2.St} {F2 H2 : Hp}, Sat ρ' σ' F2 G H2 → F2 D = none → H2 D = some (KD.ho acc) → (∀ (i : Nat) (b : Addr) (ω' : OTy), ρ'[i]? = some (.own b ω') → b ≠ D) → Sat ρ' σ' F2 (upd G D (KD.ho acc)) H2 := fun {ρ' σ' F2 H2} s2 f2 h2 no => ⟨s2.len, s2.fh, s2.fs, fun c z e => by
        by_cases hc : c = D
        · subst hc; rw [upd_same] at e; cases e; exact h2
        · rw [upd_ne hc] at e; exact s2.gh c z e, s2.dat, fun j b ω' e => by
        obtain ⟨y1, y2, y3, y4⟩ := s2.own j b ω' e
        exact ⟨y1, y2, by rw [upd_ne (no j b ω' e)]; exact y3, y4⟩, s2.sep⟩
    have noW : ∀ (i : Nat) (b : Addr) (ω' : OTy), (wipeL ρ (own.map (·.2)))[i]? = some (.own b ω') → b ≠ D := fun i b ω' e => by
      rcases wipeL_get e with z | ⟨_, z⟩
      · cases z
      · exact nOwn i b ω' z
    by_cases hlt : j < kvs0.length
    · refine .inr ⟨⟨S'.gh d _ gd, hlt⟩, fun H2 => ∃ ts2 acc2 F2, Acc (j + 1) ts2 ∧ Ext F G F2 ∧ Sat ρ σ F2 G H2 ∧ F2 D = none ∧ H2 D = some (KD.ho acc2) ∧ KV2 ts2 acc2 F2, fun H2 ⟨ts2, acc2, F2, q1, q2, q3, q4, q5, q6⟩ => ⟨w - 1, by omega, ts2, acc2, F2, by omega, q1, q2, q3, q4, q5, q6⟩, fun v H2 hv => ?_⟩
      obtain ⟨e2, ks, v0, qa, ekv, ez, hq⟩ := hv
      subst e2
      subst ez
      obtain ⟨τ0, em2, _⟩ := kv2_get hk0 ekv
      obtain ⟨S2, x2⟩ := (SG (S'.wipe _) hF' hH' noW).seeT hq
      have pv : (KeyT ks).p (.ref qa) (upd F' qa (.tup (ks.map kV))) := ⟨qa, rfl, upd_same⟩
      obtain ⟨ρ2, hout, hcg, β, hdt, ht, hf⟩ := turn j ks τ0 ts em2 hA
      intro X' gX'
      refine hcg X' gX' (.ref qa) _ _ _ H2 _ S2 pv fun r σ3 F3 H3 er x3 S3 l3 k3 => ?_
      subst er
      have ew : L2.wipe σ3 (own.map (·.2)) = L2.wipe σ (own.map (·.2)) := wipe_eq (by rw [l3, wipe_length]) fun j hj => by rw [k3 j hj, wipe_at hj]
      refine ⟨by first | exact ew | exact ew.trans (wipe_eq (by rw [wipe_length]) fun j hj => wipe_at hj).symm, fun X2 gX2 => hdt X2 gX2 σ3 F3 _ H3 _ S3 fun b F4 H4 hb4 x4 S4 => ?_⟩
      have back : ∀ {F5 H5 : Hp}, Ext F' (upd G D (KD.ho acc)) F5 → Sat r σ3 F5 (upd G D (KD.ho acc)) H5 → Sat ρ σ F5 G H5 ∧ F5 D = none ∧ H5 D = some (KD.ho acc) ∧ Ext F' G F5 := fun {F5 H5} x5 S5 => by
        have f5 : F5 D = none := x5.ownN S5.fh (by rw [upd_same]; exact fun z => nomatch z) hF' (S5.gh D _ upd_same) mbD
        have e5 : Ext F' G F5 := ⟨x5.up, fun c gc fc => x5.own c (by
          by_cases hc : c = D
          · subst hc; rw [upd_same]; exact fun z => nomatch z
          · rw [upd_ne hc]; exact gc) fc⟩
        refine ⟨⟨S'.len, S5.fh, S5.fs, fun c z e => ?_, fun j τ e => ?_, fun j b ω e => ?_, S'.sep⟩, f5, S5.gh D _ upd_same, e5⟩
        · have hc : c ≠ D := fun z => by subst z; rw [hG] at e; cases e
          exact S5.gh c z (by rw [upd_ne hc]; exact e)
        · obtain ⟨v1, z1, z2⟩ := S'.dat j τ e
          exact ⟨v1, z1, τ.up _ _ _ e5.up z2⟩
        · obtain ⟨z1, z2, z3, _⟩ := S'.own j b ω e
          have hj : j ∉ own.map (·.2) := fun hj => hno j hj b ω e
          obtain ⟨_, y2, _, o, y4, y5, y6⟩ := S5.own j b ω ((hout j hj).trans e)
          exact ⟨z1, y2, z3, o, y4, y5, y6⟩
      cases b with
      | false =>
        refine iteF ?_
        obtain ⟨b1, b2, b3, b4⟩ := back (x2.trans (x3.trans x4)) S4
        exact ⟨ts, acc, F4, hf hb4, x'.trans b4, b1, b2, b3, hts.up b4.up⟩
      | true =>
        refine iteT fun X3 gX3 => ?_
        obtain ⟨k, τ, hdk, hde, hA2⟩ := ht hb4
        refine hdk X3 gX3 σ3 F4 _ H4 _ S4 fun yk F5 H5 x5 S5 pk X4 gX4 => ?_
        refine hde X4 gX4 σ3 F5 _ H5 _ S5 fun yv F6 H6 x6 S6 pv6 => ?_
        obtain ⟨b1, b2, b3, b4⟩ := back (x2.trans (x3.trans (x4.trans (x5.trans x6)))) S6
        have hal : acc.length < sizeLine := by
          have h1 : ts.length = acc.length := Paired.length hts
          have h2 := sizeLine_eq
          omega
        refine ⟨acc, k, KD.kat b1.fh ((KD.kt k).up _ _ _ x6.up pk), b3, hal, putM ts k τ, putK acc k yv, F6, hA2, x'.trans b4, ?_, b2, upd_same, (hts.up b4.up).put pv6 k⟩
        refine b1.mono ⟨fun c u plu hc => ?_, fun c xs hc => ?_⟩ (fun c hc => ?_) (fun c z e => ?_) (Up.refl _) fun j b ω' o e ho => ?_
        rotate_left
        · have hcD : c ≠ D := fun z => by subst z; rw [b2] at hc; cases hc
          rw [upd_ne hcD]; exact b1.fh.tp c xs hc
        rotate_right
        · have hcD : c ≠ D := fun z => by
            subst z
            rcases hc with hc | ⟨_, hc⟩ <;> (rw [b2] at hc; cases hc)
          rcases b1.fh c u plu hc with r | ⟨w, r⟩
          · exact .inl (by rw [upd_ne hcD]; exact r)
          · exact .inr ⟨w, by rw [upd_ne hcD]; exact r⟩
        · by_cases z : c = D
          · subst z; exact b2
          · rw [upd_ne z] at hc; exact b1.fs c hc
        · have hcD : c ≠ D := fun z => by subst z; rw [hG] at e; cases e
          rw [upd_ne hcD]; exact b1.gh c z e
        · obtain ⟨_, z2, _⟩ := b1.own j b ω' e
          exact ⟨z2, by rw [upd_ne (nOwn j b ω' e)]; exact ho⟩
    · have e : j = kvs0.length := by omega
      subst e
      exact .inl ⟨⟨S'.gh d _ gd, Nat.le_refl _⟩, q D _ F' H' x' S' hF' hG nOwn hH' mbD ⟨ts, fin ts (by rw [← lk]; exact hA), acc, rfl, hts⟩⟩
/-- {k: v for target in d if ..}: d data with tuples for keys -/
theorem df_dc {KD : Kd} {kx vx : Expr} {ifs : List Expr} {scope : Scope} {own : List (Str × Nat)} {Pt : List (KD.κ × Ty) → Prop} (g : Good W n df X N sc) (hs' : ρ[i]? = some (.dat (FD kdT m))) (hb : blkC N sc scope own = true) (hno : ∀ i ∈ own.map (·.2), ∀ (a : Addr) (ω : OTy), ρ[i]? ≠ some (.own a ω))
    (hz : m.length ≤ 100000) (Acc : Nat → List (KD.κ × Ty) → Prop) (a0 : Acc 0 []) (al : ∀ i ts, Acc i ts → ts.length ≤ i)
    (turn : ∀ (j : Nat) ks τ0 (ts : List (KD.κ × Ty)), m[j]? = some (ks, τ0) → Acc j ts → ∃ ρ2, (∀ l, l ∉ own.map (·.2) → ρ2[l]? = ρ[l]?) ∧ (∀ X', Good W n false X' N (relS scope sc) → CG X' tg (KeyT ks) (wipeL ρ (own.map (·.2))) (own.map (·.2)) fun r => r = ρ2) ∧
        ∃ β, (∀ X', Good W n false X' N (relS scope sc) → DTs X' ifs ρ2 β) ∧ (β true → ∃ k τ, (∀ X', Good W n false X' N (relS scope sc) → DE X' kx ρ2 (KD.kt k)) ∧ (∀ X', Good W n false X' N (relS scope sc) → DE X' vx ρ2 τ) ∧ Acc (j + 1) (putM ts k τ)) ∧ (β false → Acc (j + 1) ts))
    (fin : ∀ ts, Acc m.length ts → Pt ts)
    (hN : N[i]? = some y := by rfl) (hv : sc.names.lookup y = some .local ∨ sc.names.lookup y = some .cell ∨ sc.names.lookup y = some .free := by first | exact Or.inl rfl | exact Or.inr (Or.inl rfl) | exact Or.inr (Or.inr rfl)) (hdb : (y == ("__debug__" : Str)) = false := by decide) (hcd : (y == ("__classdict__" : Str)) = false := by decide)
    (hs : ∀ x, foldedSetIterable (.Name y p) X.env x = pure x := by intro _; rfl) : DF X (.DictComp kx vx [⟨tg, .Name y p, ifs, 0⟩] scope pos) ρ (ODx KD Pt) := fun σ F G H Q S q => by
  obtain ⟨v, hi, d, kvs, rfl, r, hk⟩ := S.dat i _ hs'
  have r : Rd F d (.dT kvs) := r
  have mb : Mb (.dT kvs) := True.intro
  rcases S.fh d _ mb.plain r with hd | ⟨od, hd⟩
  · refine we_of (pe_lock pe_w) ⟨d, .dT kvs, hd, True.intro, fun od => ?_⟩
    have gd : G d = none ∨ G d = some (.dT kvs) := by
      cases z : G d with
      | none => exact .inl rfl
      | some q => have := S.gh d q z; rw [hd] at this; cases this; exact .inr rfl
    refine dc_core2 (F := upd F d (.frz od (.dT kvs))) (G := upd G d (.frz od (.dT kvs))) g hb hno hz Acc a0 al turn fin hN hv hdb hcd (od := od) (kvs0 := kvs) σ _ _ (S.lock r mb) hi (hk.up (up_lock r mb)) upd_same (fun a o F2 H2 x2 S2 f2 g2 no2 h2 m2 w2 => ?_) hs
    have rd2 : Rd F2 d (.dT kvs) := x2.up _ _ mb.plain (.inr ⟨od, upd_same⟩)
    have nd : a ≠ d := fun z => by subst z; exact rd_some rd2 f2
    refine ⟨S2.gh d _ upd_same, q a o _ _ (Ext.unlock r mb (up_lock r mb) x2 rd2) (S2.unlock rd2 mb gd) (by rw [upd_ne nd]; exact f2) (by rw [upd_ne nd] at g2; exact g2) no2 (by rw [upd_ne nd]; exact h2) m2 ((ODx KD Pt).up _ _ _ (up_unlock rd2 mb) w2)⟩
  · have gd : G d = none ∨ G d = some (.frz od (.dT kvs)) := by
      cases z : G d with
      | none => exact .inl rfl
      | some q => have := S.gh d q z; rw [hd] at this; cases this; exact .inr rfl
    refine dc_core2 (G := upd G d (.frz od (.dT kvs))) g hb hno hz Acc a0 al turn fin hN hv hdb hcd (od := od) (kvs0 := kvs) σ F H _ (S.guard (rd_some r) hd) hi hk upd_same (fun a o F2 H2 x2 S2 f2 g2 no2 h2 m2 w2 => ?_) hs
    have nd : a ≠ d := fun z => by subst z; rw [upd_same] at g2; cases g2
    exact q a o _ _ x2.unguard (S2.unguard gd) f2 (by rw [upd_ne nd] at g2; exact g2) no2 h2 m2 w2
end
end K35
set_option Elab.async false
set_option linter.all false
set_option maxRecDepth 100000
set_option maxHeartbeats 4000000
/-! the data layer: the rest -/
namespace K35
open PySem PySem.Spec L2
open PyProof.Rows hiding St
/-! ### () * k -/
theorem tuple_mulE (l : Addr) (n : Nat) (dd : Option Addr) (sl : Array (Option Value)) (x : Int) (u : Tok) (c0 : (decide (x < -(2 ^ 63)) || decide (x ≥ 2 ^ 63)) = false) :
    Meets (Builtin.«tuple.__mul__» ⟨[.ref l, .int x u], []⟩) (fun _ R s => s.heap.get? l = some { cls := .type "tuple", dict := dd, data := .seq (#[] : Array Value) n, slots := sl } ∧
      R (.ok (.ret (Value.ref l))) s) :=
  .of_wp fun prog w A R s h => by
    obtain ⟨hp, g, d, tk, os⟩ := s
    obtain ⟨hl, h⟩ := h
    have f1 := AutoSeq1.idx_int
    wp_walk using wpAny_loadPart' hl
    repeat (first
      | (refine wpAny_ite_false (decide_eq_false (by rw [c0]; exact Bool.false_ne_true)) ?_; wp_walk using wpAny_loadPart' hl))
    exact ⟨_, rfl, h⟩
def rRepE (K : PySem.W.Frag) : R2 := fun x y H Q => ∃ l k, x = .ref l ∧ y = .int k ∧ SqT K H l [] ∧ 0 ≤ k ∧ k ≤ 1000 ∧ Q (.ref l) H
theorem op_repE {X : Cx} : OpR X (binaryOp .Mult) (rRepE X.K) := by
  intro pins s σ H x y v u Q I rx ry h
  obtain ⟨l, k, rfl, rfl, hT, h1, h2, q⟩ := h
  cases rx
  obtain ⟨t, rfl⟩ := ry
  obtain ⟨its, r, ⟨⟨cls, dd, data, sl⟩, ho, hc, n, hd⟩, hs⟩ := I.tuple hT
  simp only at hc hd
  subst hc hd
  cases r
  have c0 : (decide (k < -(2 ^ 63)) || decide (k ≥ 2 ^ 63)) = false := by
    rw [decide_eq_false (by omega), decide_eq_false (by omega)] <;> rfl
  refine wpAny_binaryOp_repeat_ref (T := "tuple") (U := "int") (by decide) ⟨_, ho, rfl⟩ (fun s' => typeIs_int s' k t) noFill_tuple_mul F.fills_int_mul F.slot_int_rmul repeat_tuple F.slot_int_index.lookup
    (call_meets F.slot_int_rmul (typeIs_int s k t) F.entry_int_rmul (F.args_int_rmul_2 _ _) (int_rmul_tuple k t l #[] n dd sl)
      ⟨ho, rfl, ⟨_, ho, rfl⟩, call_meets F.slot_tuple_mul ⟨_, ho, rfl⟩ F.entry_tuple_mul (F.args_tuple_mul_2 _ _) (tuple_mulE l n dd sl k t c0) ⟨ho, ?_⟩⟩)
  exact ⟨.ref l, H, I, rfl, q⟩
/-! ### d.update(d2) -/
def rUpd (td te : TE) : TE := fun σ H Q => td σ H fun x H1 => ∃ a, x = .ref a ∧ IsD H1 a ∧ te σ H1 fun y H2 => ∃ b kvs more, y = .ref b ∧ a ≠ b ∧ H2 a = some (.dK kvs) ∧ Rd H2 b (.dK more) ∧ kvs.length + more.length ≤ sizeLine ∧ Q .non (upd H2 a (.dK (mergeK kvs more)))
theorem pe_dupd {X : Cx} {o e : Expr} {apos cpos : Pos} {td te : TE} (ho : PE X o td) (he : PE X e te) (m : M1 X o "update" apos e cpos) : PE X (.Call (.Attribute o "update" apos) [e] [] cpos) (rUpd td te) := by
  refine ⟨fun pins s σ H Q I h => ?_⟩
  refine wpAny_Call_method m.base m.few m.line PySem.F.plainAttrs_dict PySem.F.slot_dict_update PySem.F.type_dict_update (thn (ho.run pins s σ H _ I h) fun u s1 ⟨x, H1, I1, rx, a, ex, d, q1⟩ => ?_)
  subst ex
  obtain rfl : u = Value.ref a := rx
  obtain ⟨t1, t2, _⟩ := isD_at I1 d
  refine ⟨t1, t2, ?_⟩
  rw [m.trees]
  refine Calls.callWith_builtin rfl (Calls.evalArgs_plain (Calls.spliced_cons (thn (he.run pins s1 σ H1 _ I1 q1) fun iv s2 ⟨y, H2, I2, ry, b, kvs, more, ey, hne, ea, eb, hz, q2⟩ => Calls.spliced_nil ?_)))
  subst ey
  obtain rfl : iv = Value.ref b := ry
  obtain ⟨z, hd, vs, rel, dd⟩ := dk_of I2.hok ea
  obtain ⟨z2, hd2, vs2, rel2, dd2⟩ := dk_rd I2.hok eb
  have hl : (mergeK kvs more).length ≤ sizeLine := Nat.le_trans (length_mergeK more kvs) hz
  refine call_meetsIn PySem.F.slot_dict_update dd.typeIs PySem.F.entry_dict_update (PySem.F.args_dict_update_2 _ _) (meets_dict_update (mixKind X.prog X.w) a b hne hd2) ⟨vs, vs2, dd, dd2, by rw [← rel.length, ← rel2.length]; exact hz, fun h' dd' _ hs => ?_⟩
  have hee : ∃ q, h'.get? a = some q := let ⟨q, _, _, hq, _⟩ := dd'; ⟨q, hq⟩
  exact ⟨.non, _, d_write (t' := s2.toks) I2 (by rw [ea]; exact True.intro) hs hee (dk_new hl hd (KV.merge rel2 rel) dd'), rfl, q2⟩

section
variable {W : Wd} {n k0 : Nat} {df : Bool} {X : Cx} {N ps : List Str} {sc : Scope} {e a b tg : Expr} {es : List Expr} {st : Stmt} {sts body : List Stmt} {ρ : List Sl} {P : Post} {τ τ' τ1 τ2 : Ty} {τs : List Ty} {β : Bool → Prop} {pos p : Pos} {x y : Str} {i : Int} {ds : List PyData}
theorem de_repE (ha : DE X a ρ (Is (.tuple []))) (hb : DE X b ρ (Is (.int i))) (h0 : 0 ≤ i) (hi : i ≤ 1000) : DE X (.BinOp a .Mult b pos) ρ (Is (.tuple [])) := de_op op_repE ha hb fun ρ σ F G H x y Q S p1 p2 q => by
  obtain ⟨t, vs, rfl, hr, pv⟩ := (show (TupOf (([] : List PyData).map Is)).p x F from tup_is.mpr p1)
  cases pv
  exact ⟨t, i, rfl, is_int p2, .inl (S.fh _ _ True.intro hr), h0, hi, q _ F H (Ext.refl _ _) S p1⟩
theorem de_cint {v : Int} (g : Good W n df X N sc) (h : ∃ t, W.mg x = some (.int v t)) (hg : sc.names.lookup x = some .globalImplicit := by rfl) (hd : (x == ("__debug__" : Str)) = false := by decide) : DE X (.Name x pos) ρ (Is (.int v)) := by
  obtain ⟨t, h⟩ := h
  exact de_glob (v := .int v) g h ⟨t, rfl⟩ (fun F => Dp.int v) hg hd
/-! ### a sequence of ints that may be known before -/
def SeqI (K : PySem.W.Frag) (ns : List Int) : Ty := ⟨fun v F => ∃ a, v = .ref a ∧ (Rd F a (.lst (ns.map V.int)) ∨ SqT K F a (ns.map V.int)), fun v F F' u ⟨a, e, h⟩ => ⟨a, e, h.imp (fun z => u _ _ True.intro z) (fun z => sqT_up u z)⟩⟩
theorem DE.seqI {ns : List Int} (h : DE X e ρ (LstOf (ns.map isI))) : DE X e ρ (SeqI W.K ns) := h.sub fun v F p => by
  obtain ⟨a, vs, rfl, hr, pv⟩ := p
  exact ⟨a, rfl, .inl (by rw [← vs_ints pv]; exact hr)⟩
theorem di_seqI {j : Nat} {ns : List Int} (g : Good W n df X N sc) (hr : ρ[j]? = some (.dat (SeqI W.K ns))) (hN : N[j]? = some x := by rfl)
    (hv : sc.names.lookup x = some .local ∨ sc.names.lookup x = some .cell ∨ sc.names.lookup x = some .free := by first | exact Or.inl rfl | exact Or.inr (Or.inl rfl) | exact Or.inr (Or.inr rfl))
    (hd : (x == ("__debug__" : Str)) = false := by decide) (hcd : (x == ("__classdict__" : Str)) = false := by decide) : DI X tg (.Name x pos) ρ (fun ys => ys = ns.map isI) := fun σ F G H R S q => by
  obtain ⟨v, e1, a, rfl, h⟩ := S.dat j _ hr
  have pv := pe_var (X := X) (i := j) (pos := pos) (by rw [g.eN]; exact hN) (by unfold Vis; rw [g.es]; exact hv) hd hcd
  have get : ∀ {k : Nat} {y : Ty} {u : V} {F : Hp}, (ns.map isI)[k]? = some y → (ns.map V.int)[k]? = some u → y.p u F := fun {k y u F} e1 e2 => by
    rw [List.getElem?_map] at e1 e2
    cases z : ns[k]? with
    | none => rw [z] at e1; cases e1
    | some w => rw [z] at e1 e2; cases e1; cases e2; exact Dp.int w
  rcases h with h | h
  · refine wi_of (pi_list pv) ⟨.ref a, e1, a, rfl, ⟨_, .inl (S.fh _ _ True.intro h)⟩, q _ _ F H rfl (Ext.refl _ _) S fun k ρ' σ' F' G' H' up S' => ⟨fun y ey => ?_, fun hk => ⟨_, .inl (S'.fh _ _ True.intro (up _ _ True.intro h)), by rw [List.length_map] at hk ⊢; exact hk⟩⟩⟩
    have hL : SqL X.K H' a (ns.map V.int) := .inl (S'.fh _ _ True.intro (up _ _ True.intro h))
    have hk : k < (ns.map V.int).length := by have := (List.getElem?_eq_some_iff.mp ey).1; rw [List.length_map] at this ⊢; exact this
    refine ⟨⟨_, _, hL, List.getElem?_eq_getElem hk⟩, fun x H'' hy => ?_⟩
    obtain ⟨rfl, hx⟩ := hy
    exact ⟨F', Ext.refl _ _, S', get ey (hx _ hL)⟩
  · refine wi_of (pi_tup pv) ⟨.ref a, e1, a, rfl, ⟨_, by rw [g.eK]; exact sqT_up S.fh h⟩, q _ _ F H rfl (Ext.refl _ _) S fun k ρ' σ' F' G' H' up S' => ⟨fun y ey => ?_, fun hk => ⟨_, by rw [g.eK]; exact sqT_up S'.fh (sqT_up up h), by rw [List.length_map] at hk ⊢; exact hk⟩⟩⟩
    have hL : SqT X.K H' a (ns.map V.int) := by rw [g.eK]; exact sqT_up S'.fh (sqT_up up h)
    have hk : k < (ns.map V.int).length := by have := (List.getElem?_eq_some_iff.mp ey).1; rw [List.length_map] at this ⊢; exact this
    refine ⟨⟨_, _, hL, List.getElem?_eq_getElem hk⟩, fun x H'' hy => ?_⟩
    obtain ⟨rfl, hx⟩ := hy
    exact ⟨F', Ext.refl _ _, S', get ey (hx _ hL)⟩
def tenI : List Int := [0, 1, 2, 3, 4, 5, 6, 7, 8, 9]
theorem de_inds (T : Txt W) (g : Good W n df X N sc) (hg : sc.names.lookup ("INDICES" : Str) = some .globalImplicit := by rfl) : DE X (.Name "INDICES" pos) ρ (SeqI W.K tenI) := by
  obtain ⟨a, hm, h⟩ := T.inds
  exact de_glob (v := .ref a) g hm rfl (fun F => ⟨a, rfl, .inr (h F)⟩) hg
theorem di_inds (T : Txt W) (g : Good W n df X N sc) (hg : sc.names.lookup ("INDICES" : Str) = some .globalImplicit := by rfl) : DI X tg (.Name "INDICES" pos) ρ (fun ys => ys = tenI.map isI) := fun σ F G H R S q => by
  obtain ⟨a, hm, h⟩ := T.inds
  refine wi_of (pi_tup (pe_glob (v := .ref a) (by unfold Gl Env.kindOf; rw [g.es]; exact hg) (by rw [g.em]; exact hm) rfl)) ⟨a, rfl, ⟨_, by rw [g.eK]; exact h H⟩, q _ _ F H rfl (Ext.refl _ _) S fun k ρ' σ' F' G' H' up S' => ⟨fun y ey => ?_, fun hk => ⟨_, by rw [g.eK]; exact h H', hk⟩⟩⟩
  have hL : SqT X.K H' a (tenI.map V.int) := by rw [g.eK]; exact h H'
  have hk : k < (tenI.map V.int).length := (List.getElem?_eq_some_iff.mp ey).1
  refine ⟨⟨_, _, hL, List.getElem?_eq_getElem hk⟩, fun x H'' hy => ?_⟩
  obtain ⟨rfl, hx⟩ := hy
  refine ⟨F', Ext.refl _ _, S', ?_⟩
  have e2 := hx _ hL
  rw [List.getElem?_map] at ey e2
  cases z : tenI[k]? with
  | none => rw [z] at ey; cases ey
  | some w => rw [z] at ey e2; cases ey; cases e2; exact Dp.int w
/-! ### {k: v} -/
theorem df_disp1 {k : Key} (hk : DE X a ρ (keyTy k)) (hv : DE X b ρ τ) : DF X (.Dict [some a] [b] pos) ρ (OD kdK [(k, τ)]) := fun σ F G H Q S q =>
  we_of (pe_disp (pps_cons pe_w pe_w pps_nil) (by rfl) (by rfl) (by simp) (by show 1 ≤ 15; decide)) fun d hd => by
    have hF := S.fs d hd
    have hG : G d = none := by
      cases z : G d with
      | none => rfl
      | some y => have := S.gh d y z; rw [hd] at this; cases this
    have nOwn : ∀ {ρ' : List Sl} {σ' : L2.St} {F' G' : Hp}, Sat ρ' σ' F' G' H → ∀ (i : Nat) (b : Addr) (ω' : OTy), ρ'[i]? = some (.own b ω') → b ≠ d := fun S' i b ω' e => by
      obtain ⟨_, _, _, o, z, _⟩ := S'.own i b ω' e
      exact ne_of_none z hd
    have S0 : Sat ρ σ F (upd G d (.dK [])) (upd H d (.dK [])) := by
      refine ⟨S.len, S.fh.trans (up_upd hd), fun c hc => ?_, fun c y e => ?_, S.dat, fun i b ω' e => ?_, S.sep⟩
      · by_cases z : c = d
        · subst z; exact hF
        · rw [upd_ne z] at hc; exact S.fs c hc
      · by_cases z : c = d
        · subst z; rw [upd_same] at e ⊢; exact e
        · rw [upd_ne z] at e ⊢; exact S.gh c y e
      · obtain ⟨z1, z2, z3, o, z4, z5, z6⟩ := S.own i b ω' e
        have ne := nOwn S i b ω' e
        exact ⟨z1, z2, by rw [upd_ne ne]; exact z3, o, by rw [upd_ne ne]; exact z4, z5, z6⟩
    refine hk σ F (upd G d (.dK [])) _ _ S0 fun v F1 H1 x1 S1 p1 => hv σ F1 (upd G d (.dK [])) H1 _ S1 fun u F2 H2 x2 S2 p2 => ?_
    have hv' : v = kV k := keyTy_v p1
    subst hv'
    have e2 : H2 d = some (.dK []) := S2.gh d _ upd_same
    have f2 : F2 d = none := (x1.trans x2).ownN S2.fh (by rw [upd_same]; exact fun z => nomatch z) hF e2 True.intro
    have x3 : Ext F G F2 := ⟨(x1.trans x2).up, fun c gc fc => (x1.trans x2).own c (by
      by_cases hc : c = d
      · subst hc; rw [upd_same]; exact fun z => nomatch z
      · rw [upd_ne hc]; exact gc) fc⟩
    refine ⟨e2, [(k, u)], rfl, by show 1 ≤ 15; decide, ?_⟩
    refine q d (.dK (mergeK [] [(k, u)])) F2 _ x3 ⟨S2.len, ⟨fun c w pl hc => ?_, fun c xs hc => ?_⟩, fun c hc => ?_, fun c y e => ?_, S2.dat, fun i c ω' e => ?_, S2.sep⟩ f2 hG (nOwn S) upd_same True.intro ⟨[(k, u)], rfl, .cons ⟨rfl, p2⟩ .nil⟩
    · have hcd : c ≠ d := fun z => by
        subst z
        rcases hc with hc | ⟨_, hc⟩ <;> (rw [f2] at hc; cases hc)
      rcases S2.fh c w pl hc with r | ⟨y, r⟩
      · exact .inl (by rw [upd_ne hcd]; exact r)
      · exact .inr ⟨y, by rw [upd_ne hcd]; exact r⟩
    · have hcd : c ≠ d := fun z => by subst z; rw [f2] at hc; cases hc
      rw [upd_ne hcd]; exact S2.fh.tp c xs hc
    · by_cases z : c = d
      · subst z; exact f2
      · rw [upd_ne z] at hc; exact S2.fs c hc
    · have hcd : c ≠ d := fun z => by subst z; rw [hG] at e; cases e
      rw [upd_ne hcd]; exact S2.gh c y (by rw [upd_ne hcd]; exact e)
    · obtain ⟨z1, z2, z3, o, z4, z5, z6⟩ := S2.own i c ω' e
      have hcd : c ≠ d := fun z => by subst z; rw [upd_same] at z3; cases z3
      exact ⟨z1, z2, by rw [upd_ne hcd] at z3; exact z3, o, by rw [upd_ne hcd]; exact z4, z5, z6⟩
/-! ### d.update -/
def mergeM (m more : List (Key × Ty)) : List (Key × Ty) := more.foldl (fun acc kv => putM acc kv.1 kv.2) m
theorem kv2_merge {F : Hp} {more : List (Key × Ty)} {kmore : List (Key × V)} (h : KV2 more kmore F) : ∀ {m : List (Key × Ty)} {kvs : List (Key × V)}, KV2 m kvs F → KV2 (mergeM m more) (mergeK kvs kmore) F := by
  induction h with
  | nil => intro m kvs h; exact h
  | @cons p q ps qs a t ih =>
    intro m kvs h
    have := h.put a.2 p.1
    rw [a.1] at this
    unfold mergeM mergeK
    rw [List.foldl_cons, List.foldl_cons, a.1]
    exact ih this
theorem ds_dupd {s : Nat} {o1 : Addr} {m : List (Key × Ty)} {P2 : List (Key × Ty) → Prop} {pa pm pc ps : Pos} (g : Good W n df X N sc) (hs : ρ[s]? = some (.own o1 (OD kdK m))) (hv : DE X e ρ (FDx kdK P2)) (hz : ∀ m2, P2 m2 → m.length + m2.length ≤ 1000000) (kx : ∀ m2, P2 m2 → P.nx (ρ.set s (.own o1 (OD kdK (mergeM m m2))))) (hN : N[s]? = some y := by rfl)
    (hvis : sc.names.lookup y = some .local ∨ sc.names.lookup y = some .cell ∨ sc.names.lookup y = some .free := by first | exact Or.inl rfl | exact Or.inr (Or.inl rfl) | exact Or.inr (Or.inr rfl)) (hd : (y == ("__debug__" : Str)) = false := by decide) (hcd : (y == ("__classdict__" : Str)) = false := by decide)
    (hm : M1 X (.Name y pa) "update" pm e pc := by exact ⟨rfl, rfl, rfl, rfl⟩) (hsw : swapsWith (.Call (.Attribute (.Name y pa) "update" pm) [e] [] pc) none ps.line X.env = pure false := by rfl) : DS X (.Expr (.Call (.Attribute (.Name y pa) "update" pm) [e] [] pc) ps) ρ P := fun σ F G H Ds S ok =>
  ws_of (ps_expr (pe_dupd pe_w pe_w hm) hsw) ((de_own (i := s) g hs hN hvis hd hcd) σ F G H _ S fun w F1 H1 x1 S1 p1 => by
    have ev : w = .ref o1 := p1
    subst ev
    obtain ⟨_, _, _, o, y4, _, kvs, eo, hk⟩ := S1.own s o1 _ hs
    subst eo
    refine ⟨o1, rfl, .inl ⟨kvs, .inl y4⟩, hv σ F1 G H1 _ S1 fun u F2 H2 x2 S2 p2 => ?_⟩
    obtain ⟨⟨m2, hm2⟩, d, kv2, rfl, r, hk2⟩ := p2
    obtain ⟨_, f2, _, o', y4', _, kvs', eo', hk'⟩ := S2.own s o1 _ hs
    subst eo'
    have ne : o1 ≠ d := fun z => by subst z; exact rd_some r f2
    have l1 : m.length = kvs'.length := Paired.length hk'
    have l2 : m2.length = kv2.length := Paired.length hk2
    have := hz m2 hm2
    have l3 : kvs'.length + kv2.length ≤ sizeLine := Nat.le_trans (by rw [← l1, ← l2]; exact hz m2 hm2) (by rw [sizeLine_eq]; decide)
    exact ⟨d, kvs', kv2, rfl, ne, y4', S2.fh _ _ (kdK.mb _).plain r, l3, ok.nx _ σ F2 _ (kx m2 hm2) (x1.trans x2) (S2.write hs True.intro ⟨_, rfl, kv2_merge hk2 hk'⟩)⟩)
/-! ### sorted(d) -/
theorem kv2_keys {κ : Type} [DecidableEq κ] {m : List (κ × Ty)} {kvs : List (κ × V)} {F : Hp} (h : KV2 m kvs F) : m.map (·.1) = kvs.map (·.1) := by
  induction h with
  | nil => rfl
  | @cons p q ps qs a t ih => rw [List.map_cons, List.map_cons, a.1, ih]
theorem de_sortedO {s : Nat} {o1 : Addr} {m : List (Key × Ty)} {ns : List Int} (g : Good W n df X N sc) (hmg : W.mg "sorted" = none) (hs : ρ[s]? = some (.own o1 (OD kdK m))) (ha : DE X a ρ (At o1)) (hks : m.map (·.1) = ns.map Sum.inl) (h64 : ns.length < 64) (hg : sc.names.lookup ("sorted" : Str) = some .globalImplicit := by rfl) (hs1 : starEach [a] X.env = (false, eval a X.env) :: starEach [] X.env := by rfl) (hpl : (backTo pos (starEach [] X.env)).any (·.1) = false := by rfl) :
    DE X (.Call (.Name "sorted" p) [a] [] pos) ρ (Some' fun (q : { ms : List Int // ms.Perm ns ∧ ms.Pairwise (· ≤ ·) }) => LstOf (q.1.map isI)) := fun σ F G H Q S q =>
  we_of (pe_callB (call_sortedDI g.calm) (g.gl hg) (by rw [g.em]; exact hmg) (by decide +kernel) pa_w (by decide) (by decide) hs1 hpl) ((des_cons ha des_nil hs1) σ F G H _ S fun vs F1 H1 x1 S1 p1 => by
    obtain ⟨v, rfl, ev⟩ := all2_one p1
    have ev : v = .ref o1 := ev
    subst ev
    obtain ⟨_, _, _, o, y4, _, kvs, eo, hk⟩ := S1.own s o1 _ hs
    subst eo
    have ek : kvs.map (·.1) = ns.map Sum.inl := (kv2_keys hk).symm.trans hks
    exact ⟨o1, kvs, ns, rfl, .inl y4, ek, h64, fun ms l h1 h2 hl => q _ _ _ (x1.trans (S1.newExt hl)) (S1.new hl) ⟨⟨ms, h1, h2⟩, l, _, rfl, .inl upd_same, all2_ints ms⟩⟩)
end
end K35
set_option Elab.async false
set_option linter.all false
set_option maxRecDepth 100000
set_option maxHeartbeats 1000000
/-! exact tests -/
namespace K35
open PySem PySem.Spec L2
theorem swapped2 {W : Wd} {n : Nat} {df : Bool} {X : Cx} {N : List Str} {sc : Scope} {a b : Expr} {y z : Str} {pa pb pt pt2 : Pos} {kt k2 : Nat} (g : Good W n df X N sc) (ly : sc.names.lookup y = some .local) (lz : sc.names.lookup z = some .local)
    (hl : (pb.line == pa.line) = true) (hne : [y, z].eraseDups.length = 2) (hst : ([a, b].any fun | .Starred .. => true | _ => false) = false) (hf : [a, b].all (foldedForSure 8) = false) (hcn : [a, b].all (constantsAlone 8) = false) :
    swappedStores [.Tuple [.Name y pa, .Name z pb] kt pt] (.Tuple [a, b] k2 pt2) X.env = pure (some [y, z]) := by
  have k1 : X.env.kindOf y = some .local := by unfold Env.kindOf; rw [g.es]; exact ly
  have k2 : X.env.kindOf z = some .local := by unfold Env.kindOf; rw [g.es]; exact lz
  have bk : X.env.blockKind = .function := by unfold Env.blockKind; rw [g.es, g.kd]; rfl
  have hl' : pb.line = pa.line := by simpa using hl
  unfold swappedStores
  simp only [bk, hst, hf, hcn, List.filterMap_cons, List.filterMap_nil, k1, k2, Expr.pos, List.head?_cons, Option.map_some, Option.getD_some, hl', beq_self_eq_true, Bool.and_self, if_true, hne]
  refine (if_neg (by exact Bool.false_ne_true)).trans ?_
  refine (if_neg (fun h => Bool.false_ne_true (hst.symm.trans h))).trans ?_
  refine (if_neg (by exact Bool.false_ne_true)).trans ?_
  rfl
section
variable {W : Wd} {n k0 : Nat} {df : Bool} {X : Cx} {N ps : List Str} {sc : Scope} {e a b c tg : Expr} {es : List Expr} {st : Stmt} {sts body : List Stmt} {ρ : List Sl} {P : Post} {τ τ' τ1 τ2 τ3 : Ty} {τs : List Ty} {β : Bool → Prop} {pos p : Pos} {x y : Str} {i : Int} {ds : List PyData} {b1 b2 : Bool} {rest : List Expr}
theorem dw_andE (h1 : DT X a ρ (fun c => c = b1)) (h2 : b1 = true → DW X (.BoolOp .And (b :: rest) pos) ρ (fun c => c = b2)) : DW X (.BoolOp .And (a :: b :: rest) pos) ρ (fun c => c = (b1 && b2)) := fun σ F G H Q S q =>
  ww_of (pw_and pt_w pw_w) (h1 σ F G H _ S fun c F1 H1 hc x1 S1 => by
    cases c with
    | true => exact iteT (h2 hc.symm σ F1 G H1 Q S1 fun c2 F2 H2 hc2 x2 S2 => q c2 F2 H2 (by rw [← hc, hc2]; rfl) (x1.trans x2) S2)
    | false => exact iteF (q false F1 H1 (by rw [← hc]; rfl) x1 S1))
theorem dw_orE (h1 : DT X a ρ (fun c => c = b1)) (h2 : b1 = false → DW X (.BoolOp .Or (b :: rest) pos) ρ (fun c => c = b2)) : DW X (.BoolOp .Or (a :: b :: rest) pos) ρ (fun c => c = (b1 || b2)) := fun σ F G H Q S q =>
  ww_of (pw_or pt_w pw_w) (h1 σ F G H _ S fun c F1 H1 hc x1 S1 => by
    cases c with
    | true => exact iteT (q true F1 H1 (by rw [← hc]; rfl) x1 S1)
    | false => exact iteF (h2 hc.symm σ F1 G H1 Q S1 fun c2 F2 H2 hc2 x2 S2 => q c2 F2 H2 (by rw [← hc, hc2]; rfl) (x1.trans x2) S2))
theorem dt_notE (h : DT X a ρ (fun c => c = b1)) : DT X (.UnaryOp .Not a pos) ρ (fun c => c = !b1) := (dt_not h).sub fun c hc => by rw [← hc, Bool.not_not]
theorem de_andE (h1 : DE X a ρ (BI b1)) (h2 : b1 = true → DE X (.BoolOp .And (b :: rest) pos) ρ (BI b2)) : DE X (.BoolOp .And (a :: b :: rest) pos) ρ (BI (b1 && b2)) := (de_and h1 fun h => h2 h.symm).sub fun v F ⟨d, ⟨c, e, z⟩, q⟩ => ⟨d, ⟨c, e, by
  rcases z with ⟨z1, z2⟩ | ⟨z1, z2⟩
  · rw [z2, ← z1]; rfl
  · rw [z2, ← z1]; rfl⟩, q⟩
theorem de_orE (h1 : DE X a ρ (BI b1)) (h2 : b1 = false → DE X (.BoolOp .Or (b :: rest) pos) ρ (BI b2)) : DE X (.BoolOp .Or (a :: b :: rest) pos) ρ (BI (b1 || b2)) := (de_or h1 fun h => h2 h.symm).sub fun v F ⟨d, ⟨c, e, z⟩, q⟩ => ⟨d, ⟨c, e, by
  rcases z with ⟨z1, z2⟩ | ⟨z1, z2⟩
  · rw [z2, ← z1]; rfl
  · rw [z2, ← z1]; rfl⟩, q⟩
theorem de_notE (h : DE X a ρ (BI b1)) : DE X (.UnaryOp .Not a pos) ρ (BI (!b1)) := (de_not h).sub fun v F ⟨d, ⟨c, e, z⟩, q⟩ => ⟨d, ⟨c, e, by rw [← z, Bool.not_not]⟩, q⟩
theorem dt_chainE {op op' : CmpOp} {r r' : R2} (ho : OpR X (compareOp op) r) (ho' : OpR X (compareOp op') r') (ha : DE X a ρ τ1) (hb : DE X b ρ τ2) (hc : DE X c ρ τ3) (h1 : VR2 r τ1 τ2 (BI b1)) (h2 : VR2 r' τ2 τ3 (BI b2))
    (hm : lastMarks [op, op'] [b, c] = false := by with_unfolding_all rfl) : DT X (.Compare a [op, op'] [b, c] pos) ρ (fun z => z = (b1 && b2)) := (dt_chain ho ho' ha hb hc h1 h2 hm).sub fun z hz => by
  rcases hz with ⟨z1, z2⟩ | ⟨z1, z2⟩
  · rw [z2, ← z1]; rfl
  · rw [z2, ← z1]; rfl
theorem de_chainE {op op' : CmpOp} {r r' : R2} (ho : OpR X (compareOp op) r) (ho' : OpR X (compareOp op') r') (ha : DE X a ρ τ1) (hb : DE X b ρ τ2) (hc : DE X c ρ τ3) (h1 : VR2 r τ1 τ2 (BI b1)) (h2 : VR2 r' τ2 τ3 (BI b2))
    (hm : lastMarks [op, op'] [b, c] = false := by with_unfolding_all rfl) : DE X (.Compare a [op, op'] [b, c] pos) ρ (BI (b1 && b2)) := (de_chain ho ho' ha hb hc h1 h2 hm).sub fun v F ⟨d, ⟨c, e, z⟩, q⟩ => ⟨d, ⟨c, e, by
  rcases z with ⟨z1, z2⟩ | ⟨z1, z2⟩
  · rw [z2, ← z1]; rfl
  · rw [z2, ← z1]; rfl⟩, q⟩
theorem de_andF (h1 : DE X a ρ (BI b1)) (h : b1 = false := by first | rfl | assumption) : DE X (.BoolOp .And (a :: b :: rest) pos) ρ (BI false) := by
  subst h; exact de_andE (b2 := false) h1 fun z => nomatch z
theorem de_orT (h1 : DE X a ρ (BI b1)) (h : b1 = true := by first | rfl | assumption) : DE X (.BoolOp .Or (a :: b :: rest) pos) ρ (BI true) := by
  subst h; exact de_orE (b2 := true) h1 fun z => nomatch z
theorem dw_andF (h1 : DT X a ρ (fun c => c = b1)) (h : b1 = false := by first | rfl | assumption) : DW X (.BoolOp .And (a :: b :: rest) pos) ρ (fun c => c = false) := by
  subst h; exact dw_andE (b2 := false) h1 fun z => nomatch z
theorem dw_orT (h1 : DT X a ρ (fun c => c = b1)) (h : b1 = true := by first | rfl | assumption) : DW X (.BoolOp .Or (a :: b :: rest) pos) ρ (fun c => c = true) := by
  subst h; exact dw_orE (b2 := true) h1 fun z => nomatch z
theorem vr_neS {s t : Str} : VR2 rNe (Is (.str s)) (Is (.str t)) (BI (!decide (s = t))) := vr_of fun F H x y Q _ _ p1 p2 q => by
  rw [is_str p1, is_str p2]
  refine ⟨rfl, q _ (bi_of ?_)⟩
  rw [dec_str, Bool.beq_eq_decide_eq]
/-! ### comprehensions, in short -/
def Sl.noOwn : Sl → Bool
  | .own _ _ => false
  | _ => true
theorem noOwn_of {ρ : List Sl} {v : Nat} (h : ∃ s, ρ[v]? = some s ∧ s.noOwn = true) (a : Addr) (ω : OTy) : ρ[v]? ≠ some (.own a ω) := fun e => by
  obtain ⟨s, e2, hs⟩ := h
  rw [e] at e2; cases e2; cases hs
/-- one name, a test -/
theorem df_fil {α : Type} {elt it : Expr} {ifs : List Expr} {scope : Scope} {v : Nat} {pt : Pos} (xs : List α) (s : α → Ty) (b : α → Bool) (t : α → Ty) (g : Good W n df X N sc) (hb : blkC N sc scope [(y, v)] = true) (hi : DI X (.Name y pt) it ρ (fun ys => ys = xs.map s)) (hz : xs.length ≤ 100000) (hno : ∃ s, ρ[v]? = some s ∧ s.noOwn = true)
    (h1 : ∀ x ∈ xs, ∀ X', Good W n false X' N (relS scope sc) → DTs X' ifs (ρ.set v (.dat (s x))) (fun c => c = b x)) (h2 : ∀ x ∈ xs, b x = true → ∀ X', Good W n false X' N (relS scope sc) → DE X' elt (ρ.set v (.dat (s x))) (t x))
    (hN : N[v]? = some y := by rfl) (hv : v < ρ.length := by first | decide | assumption | exact lt_of_get rfl) (hx : (relS scope sc).names.lookup y = some .local := by rfl) (hs : ∀ x, foldedSetIterable it X.env x = pure x := by intro _; rfl) : DF X (.ListComp elt [⟨.Name y pt, it, ifs, 0⟩] scope pos) ρ (OL ((xs.filter b).map t)) :=
  df_lc (own := [(y, v)]) xs s b t g hb hi hz (fun i hi a ω => by
    have : i = v := by simpa using hi
    subst this; exact noOwn_of hno a ω) (fun i x hx' => ⟨ρ.set v (.dat (s x)), fun j hj => List.getElem?_set_ne fun e => hj (by simp [e]), fun X' g' => cg_name g' (by simp) (by show (ρ.set v .un).set v _ = _; rw [List.set_set]) hN (by rw [wipeL_len]; exact hv) hx, h1 x (List.mem_of_getElem? hx'), h2 x (List.mem_of_getElem? hx')⟩) hs
/-- one name -/
theorem df_map {α : Type} {elt it : Expr} {scope : Scope} {v : Nat} {pt : Pos} (xs : List α) (s : α → Ty) (t : α → Ty) (g : Good W n df X N sc) (hb : blkC N sc scope [(y, v)] = true) (hi : DI X (.Name y pt) it ρ (fun ys => ys = xs.map s)) (hz : xs.length ≤ 100000) (hno : ∃ s, ρ[v]? = some s ∧ s.noOwn = true)
    (h2 : ∀ x ∈ xs, ∀ X', Good W n false X' N (relS scope sc) → DE X' elt (ρ.set v (.dat (s x))) (t x))
    (hN : N[v]? = some y := by rfl) (hv : v < ρ.length := by first | decide | assumption | exact lt_of_get rfl) (hx : (relS scope sc).names.lookup y = some .local := by rfl) (hs : ∀ x, foldedSetIterable it X.env x = pure x := by intro _; rfl) : DF X (.ListComp elt [⟨.Name y pt, it, [], 0⟩] scope pos) ρ (OL (xs.map t)) := by
  have := df_fil (α := α) (elt := elt) (ifs := []) (pos := pos) xs s (fun _ => true) t g hb hi hz hno (fun x hx' X' g' => dts_nil) (fun x hx' _ X' g' => h2 x hx' X' g') hN hv hx hs
  rwa [List.filter_eq_self.mpr (fun _ _ => rfl)] at this
/-- a tuple of names -/
theorem df_mapG {α : Type} {elt it : Expr} {scope : Scope} {own : List (Str × Nat)} (xs : List α) (s : α → Ty) (t : α → Ty) (r2 : α → List Sl) (g : Good W n df X N sc) (hb : blkC N sc scope own = true) (hi : DI X tg it ρ (fun ys => ys = xs.map s)) (hz : xs.length ≤ 100000)
    (hno : ∀ i ∈ own.map (·.2), ∃ s, ρ[i]? = some s ∧ s.noOwn = true) (hout : ∀ x ∈ xs, ∀ j, j ∉ own.map (·.2) → (r2 x)[j]? = ρ[j]?) (hcg : ∀ x ∈ xs, ∀ X', Good W n false X' N (relS scope sc) → CG X' tg (s x) (wipeL ρ (own.map (·.2))) (own.map (·.2)) fun r => r = r2 x)
    (h2 : ∀ x ∈ xs, ∀ X', Good W n false X' N (relS scope sc) → DE X' elt (r2 x) (t x)) (hs : ∀ x, foldedSetIterable it X.env x = pure x := by intro _; rfl) : DF X (.ListComp elt [⟨tg, it, [], 0⟩] scope pos) ρ (OL (xs.map t)) := by
  have := df_lc (elt := elt) (ifs := []) (pos := pos) (own := own) xs s (fun _ => true) t g hb hi hz (fun i hi a ω => noOwn_of (hno i hi) a ω) (fun i x hx' => ⟨r2 x, hout x (List.mem_of_getElem? hx'), hcg x (List.mem_of_getElem? hx'), fun X' g' => dts_nil, fun _ => h2 x (List.mem_of_getElem? hx')⟩) hs
  rwa [List.filter_eq_self.mpr (fun _ _ => rfl)] at this
/-! the same assigned to a local on one line -/
theorem ds_setFil {α : Type} {elt it : Expr} {ifs : List Expr} {scope : Scope} {v i : Nat} {pt py spos : Pos} {y' : Str} (xs : List α) (s : α → Ty) (b : α → Bool) (t : α → Ty) (g : Good W n df X N sc) (hb : blkC N sc scope [(y, v)] = true) (hi : DI X (.Name y pt) it ρ (fun ys => ys = xs.map s)) (hz : xs.length ≤ 100000) (hno : ∃ s, ρ[v]? = some s ∧ s.noOwn = true)
    (h1 : ∀ x ∈ xs, ∀ X', Good W n false X' N (relS scope sc) → DTs X' ifs (ρ.set v (.dat (s x))) (fun c => c = b x)) (h2 : ∀ x ∈ xs, b x = true → ∀ X', Good W n false X' N (relS scope sc) → DE X' elt (ρ.set v (.dat (s x))) (t x)) (k : ∀ p, P.nx (ρ.set i (.own p (OL ((xs.filter b).map t)))))
    (hN : N[v]? = some y := by rfl) (hv : v < ρ.length := by first | decide | assumption | exact lt_of_get rfl) (hx : (relS scope sc).names.lookup y = some .local := by rfl) (hN' : N[i]? = some y' := by rfl) (hil : i < ρ.length := by first | decide | assumption | exact lt_of_get rfl) (hyl : sc.names.lookup y' = some .local := by rfl)
    (hl : (py.line == pos.line) = true := by rfl) (ha : (scope.names.any fun (n, k) => n == y' && (k == .local || k == .cell)) = false := by decide +kernel) (hs : ∀ x, foldedSetIterable it X.env x = pure x := by intro _; rfl) : DS X (.Assign [.Name y' py] (.ListComp elt [⟨.Name y pt, it, ifs, 0⟩] scope pos) spos) ρ P :=
  ds_setLcG (own := [(y, v)]) (Pt := fun ts => ts = (xs.filter b).map t) g hb hi (fun i hi a ω => by
    have : i = v := by simpa using hi
    subst this; exact noOwn_of hno a ω) (lc_turns xs s b t hz fun i x hx' => ⟨ρ.set v (.dat (s x)), fun j hj => List.getElem?_set_ne fun e => hj (by simp [e]), fun X' g' => cg_name g' (by simp) (by show (ρ.set v .un).set v _ = _; rw [List.set_set]) hN (by rw [wipeL_len]; exact hv) hx, h1 x (List.mem_of_getElem? hx'), h2 x (List.mem_of_getElem? hx')⟩) (fun p ts e => by subst e; exact k p) hN' hil hyl hl ha hs
theorem ds_setMapG {α : Type} {elt it : Expr} {scope : Scope} {own : List (Str × Nat)} {i : Nat} {py spos : Pos} {y' : Str} (xs : List α) (s : α → Ty) (t : α → Ty) (r2 : α → List Sl) (g : Good W n df X N sc) (hb : blkC N sc scope own = true) (hi : DI X tg it ρ (fun ys => ys = xs.map s)) (hz : xs.length ≤ 100000)
    (hno : ∀ i ∈ own.map (·.2), ∃ s, ρ[i]? = some s ∧ s.noOwn = true) (hout : ∀ x ∈ xs, ∀ j, j ∉ own.map (·.2) → (r2 x)[j]? = ρ[j]?) (hcg : ∀ x ∈ xs, ∀ X', Good W n false X' N (relS scope sc) → CG X' tg (s x) (wipeL ρ (own.map (·.2))) (own.map (·.2)) fun r => r = r2 x)
    (h2 : ∀ x ∈ xs, ∀ X', Good W n false X' N (relS scope sc) → DE X' elt (r2 x) (t x)) (k : ∀ p, P.nx (ρ.set i (.own p (OL (xs.map t)))))
    (hN' : N[i]? = some y' := by rfl) (hil : i < ρ.length := by first | decide | assumption | exact lt_of_get rfl) (hyl : sc.names.lookup y' = some .local := by rfl)
    (hl : (py.line == pos.line) = true := by rfl) (ha : (scope.names.any fun (n, k) => n == y' && (k == .local || k == .cell)) = false := by decide +kernel) (hs : ∀ x, foldedSetIterable it X.env x = pure x := by intro _; rfl) : DS X (.Assign [.Name y' py] (.ListComp elt [⟨tg, it, [], 0⟩] scope pos) spos) ρ P :=
  ds_setLcG (own := own) (Pt := fun ts => ts = (xs.filter (fun _ => true)).map t) g hb hi (fun i hi a ω => noOwn_of (hno i hi) a ω) (lc_turns xs s (fun _ => true) t hz fun i x hx' => ⟨r2 x, hout x (List.mem_of_getElem? hx'), hcg x (List.mem_of_getElem? hx'), fun X' g' => dts_nil, fun _ => h2 x (List.mem_of_getElem? hx')⟩) (fun p ts e => by subst e; rw [List.filter_eq_self.mpr (fun _ _ => rfl)]; exact k p) hN' hil hyl hl ha hs
theorem ds_setMap {α : Type} {elt it : Expr} {scope : Scope} {v i : Nat} {pt py spos : Pos} {y' : Str} (xs : List α) (s : α → Ty) (t : α → Ty) (g : Good W n df X N sc) (hb : blkC N sc scope [(y, v)] = true) (hi : DI X (.Name y pt) it ρ (fun ys => ys = xs.map s)) (hz : xs.length ≤ 100000) (hno : ∃ s, ρ[v]? = some s ∧ s.noOwn = true)
    (h2 : ∀ x ∈ xs, ∀ X', Good W n false X' N (relS scope sc) → DE X' elt (ρ.set v (.dat (s x))) (t x)) (k : ∀ p, P.nx (ρ.set i (.own p (OL (xs.map t)))))
    (hN : N[v]? = some y := by rfl) (hv : v < ρ.length := by first | decide | assumption | exact lt_of_get rfl) (hx : (relS scope sc).names.lookup y = some .local := by rfl) (hN' : N[i]? = some y' := by rfl) (hil : i < ρ.length := by first | decide | assumption | exact lt_of_get rfl) (hyl : sc.names.lookup y' = some .local := by rfl)
    (hl : (py.line == pos.line) = true := by rfl) (ha : (scope.names.any fun (n, k) => n == y' && (k == .local || k == .cell)) = false := by decide +kernel) (hs : ∀ x, foldedSetIterable it X.env x = pure x := by intro _; rfl) : DS X (.Assign [.Name y' py] (.ListComp elt [⟨.Name y pt, it, [], 0⟩] scope pos) spos) ρ P :=
  ds_setFil xs s (fun _ => true) t g hb hi hz hno (fun x hx' X' g' => dts_nil) (fun x hx' _ X' g' => h2 x hx' X' g') (fun p => by rw [List.filter_eq_self.mpr (fun _ _ => rfl)]; exact k p) hN hv hx hN' hil hyl hl ha hs
theorem di_tupM {α : Type} {xs : List α} {s : α → Ty} (h : DE X e ρ (TupOf (xs.map s))) : DI X tg e ρ (fun ys => ys = xs.map s) := di_tup h
theorem di_lstM {α : Type} {xs : List α} {s : α → Ty} (h : DE X e ρ (LstOf (xs.map s))) : DI X tg e ρ (fun ys => ys = xs.map s) := di_list h
def natI (k : Nat) : Ty := Is (.int (k : Int))
theorem di_rangeM {m : Nat} (g : Good W n df X N sc) (hr : W.mg "range" = none) (h : DE X a ρ (Is (.int i))) (hi : i = (m : Int)) (hm : m < 1000000) (hg : sc.names.lookup ("range" : Str) = some .globalImplicit := by rfl) (hs : starEach [a] X.env = [(false, eval a X.env)] := by rfl) :
    DI X tg (.Call (.Name "range" p) [a] [] pos) ρ (fun ys => ys = (List.range m).map natI) := by subst hi; exact di_range g hr h hm hg hs
/-- a tuple's data -/
theorem DE.tupM {α : Type} {xs : List α} {f : α → PyData} (h : DE X e ρ (Is (.tuple (xs.map f)))) : DE X e ρ (TupOf (xs.map fun x => Is (f x))) := by
  have := h.tupT
  rwa [List.map_map] at this
theorem DE.lstM {α : Type} {xs : List α} {f : α → PyData} (h : DE X e ρ (Is (.list (xs.map f)))) : DE X e ρ (LstOf (xs.map fun x => Is (f x))) := by
  have := h.lstT
  rwa [List.map_map] at this
theorem DE.tupMI {α : Type} {xs : List α} {f : α → PyData} (h : DE X e ρ (TupOf (xs.map fun x => Is (f x)))) : DE X e ρ (Is (.tuple (xs.map f))) := DE.tupI (by rw [List.map_map]; exact h)
theorem DE.lstMI {α : Type} {xs : List α} {f : α → PyData} (h : DE X e ρ (LstOf (xs.map fun x => Is (f x)))) : DE X e ρ (Is (.list (xs.map f))) := DE.lstI (by rw [List.map_map]; exact h)
/-- all over a map -/
theorem de_allM {α : Type} {xs : List α} {f : α → Bool} (g : Good W n df X N sc) (hm : W.mg "all" = none) (ha : DE X a ρ (LstOf (xs.map fun x => BI (f x)))) (hg : sc.names.lookup ("all" : Str) = some .globalImplicit := by rfl) (hs : starEach [a] X.env = (false, eval a X.env) :: starEach [] X.env := by rfl) : DE X (.Call (.Name "all" p) [a] [] pos) ρ (BI (xs.all f)) := by
  have := de_all (p := p) (pos := pos) (bs := xs.map f) g hm (by rw [List.map_map]; exact ha) hg hs
  rwa [List.all_map] at this
theorem de_anyM {α : Type} {xs : List α} {f : α → Bool} (g : Good W n df X N sc) (hm : W.mg "any" = none) (ha : DE X a ρ (LstOf (xs.map fun x => BI (f x)))) (hg : sc.names.lookup ("any" : Str) = some .globalImplicit := by rfl) (hs : starEach [a] X.env = (false, eval a X.env) :: starEach [] X.env := by rfl) : DE X (.Call (.Name "any" p) [a] [] pos) ρ (BI (xs.any f)) := by
  have := de_any (p := p) (pos := pos) (bs := xs.map f) g hm (by rw [List.map_map]; exact ha) hg hs
  rwa [List.any_map] at this
/-- is None, of some datum -/
theorem isN_x {v : V} {F : Hp} {c : Bool} (h : (Ex fun d => isN d = c).p v F) : decide (v = .non) = c := by
  obtain ⟨d, e, p⟩ := h
  rw [← e]; exact isN_v p
theorem de_isNx {k : Nat} {pos' : Pos} {c : Bool} (ha : DE X a ρ (Ex fun d => isN d = c)) : DE X (.Compare a [.Is] [.Constant .none k pos'] pos) ρ (BI c) := de_cmp op_isN ha de_non (vr_of fun F H x y Q _ _ p1 p2 q => ⟨is_non p2, q _ (bi_of (isN_x p1))⟩)
theorem dt_isNx {k : Nat} {pos' : Pos} {c : Bool} (ha : DE X a ρ (Ex fun d => isN d = c)) : DT X (.Compare a [.Is] [.Constant .none k pos'] pos) ρ (fun z => z = c) := dt_cmp op_isN ha de_non (vr_of fun F H x y Q _ _ p1 p2 q => ⟨is_non p2, q _ (bi_of (isN_x p1))⟩)
/-- tuple of one of several lists -/
theorem de_tupleOfS {α : Type} {f : α → List Ty} (g : Good W n df X N sc) (hm : W.mg "tuple" = none) (ha : DE X a ρ (Some' fun q => LstOf (f q))) (hg : sc.names.lookup ("tuple" : Str) = some .globalImplicit := by rfl) (hs : starEach [a] X.env = (false, eval a X.env) :: starEach [] X.env := by rfl) : DE X (.Call (.Name "tuple" p) [a] [] pos) ρ (Some' fun q => TupOf (f q)) :=
  de_ty g call_tuple_of hm (by decide +kernel) (des_cons ha des_nil hs) (vrl_new (o := HO.lst) fun F H vs Q up fs p q => by
    obtain ⟨v, rfl, ia, t, us, rfl, hr, pv⟩ := all2_one p
    exact ⟨t, us, rfl, .inl ⟨.inl (up _ _ True.intro hr), fun l hl => q l (.tup us) hl ⟨ia, l, us, rfl, .inl upd_same, pv.up (up_upd (fs l hl))⟩⟩⟩) hg (hs := hs)
/-- list(range(m)) -/
theorem de_lstRange {m : Nat} {pr p2 : Pos} (g : Good W n df X N sc) (hm : W.mg "list" = none) (hr : W.mg "range" = none) (ha : DE X a ρ (Is (.int i))) (hi : i = (m : Int)) (hz : m ≤ 1000) (hg : sc.names.lookup ("list" : Str) = some .globalImplicit := by rfl) (hg2 : sc.names.lookup ("range" : Str) = some .globalImplicit := by rfl) (hs : starEach [a] X.env = (false, eval a X.env) :: starEach [] X.env := by rfl) :
    DE X (.Call (.Name "list" p) [.Call (.Name "range" pr) [a] [] p2] [] pos) ρ (LstOf (intsT m)) := fun σ F G H Q S q =>
  we_of (pe_listRg g.calm (g.gl hg) (by rw [g.em]; exact hm) (prg_1 (g.gl hg2) (by rw [g.em]; exact hr) pe_w hs)) (ha σ F G H _ S fun v F1 H1 x1 S1 p1 => by
    subst hi
    refine ⟨(m : Int), is_int p1, RgOk.of_le (by omega) (by omega) (by omega) (by omega), fun p hp => q _ _ _ (x1.trans (S1.newExt hp)) (S1.new hp) ⟨p, _, rfl, .inl upd_same, ?_⟩⟩
    have e : rgV 0 (m : Int) = (List.range m).map fun k => V.int (k : Nat) := by
      unfold rgV
      rw [Int.sub_zero, Int.toNat_natCast]
      exact List.map_congr_left fun k _ => by rw [Int.zero_add]
    rw [e]
    exact all2_intsT m)
/-- an if by a known test -/
theorem ds_ifE {s1 s2 : List Stmt} (hc : DT X c ρ (fun z => z = b1)) (h1 : b1 = true → DB X s1 ρ P) (h2 : b1 = false → DB X s2 ρ P) : DS X (.If c s1 s2 pos) ρ P := ds_if hc (fun h => h1 h.symm) (fun h => h2 h.symm)
theorem DE.isB (h : DE X e ρ (BI b1)) (k : b1 = b2) : DE X e ρ (Is (.bool b2)) := by subst k; exact h.ofBI
theorem DE.isE {d d' : PyData} (h : DE X e ρ (Is d)) (k : d = d') : DE X e ρ (Is d') := by subst k; exact h
theorem DE.biE (h : DE X e ρ (BI b1)) (k : b1 = b2) : DE X e ρ (BI b2) := by subst k; exact h
theorem DT.eqE (h : DT X e ρ (fun c => c = b1)) (k : b1 = b2) : DT X e ρ (fun c => c = b2) := by subst k; exact h
/-- a, b = e1, e2 -/
theorem ds_par2 {i1 i2 : Nat} {y z : Str} {pa pb pt pt2 ps : Pos} {kt k2 : Nat} (g : Good W n df X N sc) (ha : DE X a ρ τ1) (hb : DE X b ρ τ2) (kx : P.nx ((ρ.set i1 (.dat τ1)).set i2 (.dat τ2))) (hy : N[i1]? = some y := by rfl) (hz : N[i2]? = some z := by rfl) (h1 : i1 < ρ.length := by first | decide | assumption | exact lt_of_get rfl) (h2 : i2 < ρ.length := by first | decide | assumption | exact lt_of_get rfl) (hne : i1 ≠ i2 := by decide)
    (ly : sc.names.lookup y = some .local := by rfl) (lz : sc.names.lookup z = some .local := by rfl)
    (hl : (pb.line == pa.line) = true := by rfl) (he : [y, z].eraseDups.length = 2 := by decide +kernel) (hst : ([a, b].any fun | .Starred .. => true | _ => false) = false := by rfl) (hf : [a, b].all (foldedForSure 8) = false := by rfl) (hcn : [a, b].all (constantsAlone 8) = false := by rfl)
    (hs1 : starEach [a, b] X.env = (false, eval a X.env) :: starEach [b] X.env := by rfl) (hs2 : starEach [b] X.env = (false, eval b X.env) :: starEach [] X.env := by rfl) : DS X (.Assign [.Tuple [.Name y pa, .Name z pb] kt pt] (.Tuple [a, b] k2 pt2) ps) ρ P :=
  ds_par g ha hb kx hy hz h1 h2 hne ly lz (swapped2 g ly lz hl he hst hf hcn) hs1 hs2
/-- return of a datum -/
theorem ds_retI {d d' : PyData} {nx : List Sl → Prop} {bk ct : List Sl → Prop} (h : DE X e ρ (Is d)) (k : d = d') : DS X (.Return (some e) pos) ρ { nx := nx, rt := fun _ v F => (Is d').p v F, bk := bk, ct := ct } := by subst k; exact ds_ret h fun v F p => p
theorem ds_retT {nx : List Sl → Prop} {bk ct : List Sl → Prop} (h : DE X e ρ τ) : DS X (.Return (some e) pos) ρ { nx := nx, rt := fun _ v F => τ.p v F, bk := bk, ct := ct } := ds_ret h fun v F p => p
theorem ds_retB {nx : List Sl → Prop} {bk ct : List Sl → Prop} (h : DE X e ρ (BI b1)) (k : b1 = b2) : DS X (.Return (some e) pos) ρ { nx := nx, rt := fun _ v F => (BI b2).p v F, bk := bk, ct := ct } := by subst k; exact ds_ret h fun v F p => p
/-- the built-in of the statement's datum -/
theorem atI_of {α : Type} {xs : List α} {i : Int} {x : α} (h0 : 0 ≤ i) (h : xs[i.toNat]? = some x) : atI xs i = some x := by
  have := atI_nat h
  rwa [Int.toNat_of_nonneg h0] at this
theorem atI_neg1 {α : Type} {xs : List α} {x : α} (h : xs[xs.length - 1]? = some x) : atI xs (-1) = some x := by
  have hl := (List.getElem?_eq_some_iff.mp h).1
  unfold atI ixN
  rw [if_neg (by omega), if_pos (by omega)]
  show xs[(-1 + (xs.length : Int)).toNat]? = some x
  rw [show (-1 + (xs.length : Int)).toNat = xs.length - 1 by omega]
  exact h
end
end K35
set_option Elab.async false
set_option linter.all false
set_option maxRecDepth 100000
/-! plain mirrors: data -/
namespace K35
open PySem PySem.Spec L2
def I' (i : Int) : PyData := .int i
def isWh (d : PyData) (lo hi : Int) : Bool := match d with | .int i => decide (lo ≤ i) && decide (i ≤ hi) | _ => false
def okOne (d : PyData) : Bool := match d with | .int i => decide (1 ≤ i) | _ => false
theorem okAll_ints {ds : List PyData} (h : ds.all okOne = true) : ∃ ns : List Int, ds = ns.map I' ∧ ∀ n ∈ ns, 1 ≤ n := by
  induction ds with
  | nil => exact ⟨[], rfl, fun n h => nomatch h⟩
  | cons d ds ih =>
    rw [List.all_cons, Bool.and_eq_true] at h
    obtain ⟨ns, e, hn⟩ := ih h.2
    have h1 := h.1
    cases d <;> simp [okOne] at h1
    rename_i i
    refine ⟨i :: ns, by rw [e]; rfl, fun n hm => ?_⟩
    rcases List.mem_cons.mp hm with z | z
    · subst z; exact h1
    · exact hn n z
theorem okAll_of {ns : List Int} (h : ∀ n ∈ ns, 1 ≤ n) : (ns.map I').all okOne = true := by
  rw [List.all_eq_true]
  intro d hd
  obtain ⟨n, hn, rfl⟩ := List.mem_map.mp hd
  exact decide_eq_true (h n hn)
def upOk (ns : List Int) : Bool := (List.range (ns.length - 1)).all fun k => decide (ns.getD k 0 ≤ ns.getD (k + 1) 0)
def toI (d : PyData) : Int := match d with | .int i => i | _ => 0
theorem map_toI (ns : List Int) : (ns.map I').map toI = ns := by rw [List.map_map]; exact List.map_id' ns
def okDivs (d : PyData) : Bool := match d with | .tuple ds => decide (1 ≤ ds.length) && decide (ds.length ≤ 20) && ds.all okOne && upOk (ds.map toI) | _ => false
theorem getD_at {xs : List Int} {j : Nat} (h : j < xs.length) : (xs.map I')[j]? = some (I' (xs.getD j 0)) := by
  rw [List.getElem?_map, List.getElem?_eq_getElem h, List.getD_eq_getElem?_getD, List.getElem?_eq_getElem h]
  rfl
def divAt (ds : List Int) (i : Int) : Int := if i < ds.length then ds.getD i.toNat 0 else ds.getD (ds.length - 1) 0 + i - ds.length + 1
end K35
set_option Elab.async false
set_option linter.all false
set_option maxRecDepth 100000
set_option maxHeartbeats 1000000
/-! small defs of the program -/
namespace K35
open PySem PySem.Spec L2
section
variable {W : Wd}
def S_wh : List Ty → Ty → Prop := fun τs τ => ∃ d lo hi, τs = [Is d, Is (.int lo), Is (.int hi)] ∧ τ = BI (isWh d lo hi)
theorem c_is_whole_methods (T : Txt W) : Cal W "is_whole_methods" 1 ["value", "low", "high"] (spP S_wh) := by
  refine cal_P T.d_is_whole_methods sc_is_whole_methods (by decide) (fun _ _ _ _ _ _ us hl => match us, hl with | [_, _, _], _ => rfl) (fun τs τ h => by obtain ⟨_, _, _, rfl, _⟩ := h; rfl) fun X g τs τ h => ?_
  obtain ⟨d, lo, hi, rfl, rfl⟩ := h
  cases d
  case int i => exact db_one (ds_retB (de_andE (de_isInt g T.b_isinstance T.b_int (de_slot (i := 0) g rfl)) (fun _ => (de_andE (de_notE (de_isBool g T.b_isinstance T.b_bool (de_slot (i := 0) g rfl))) (fun _ => (de_one (de_chainE op_le op_le (de_slot (i := 1) g rfl) (de_slot (i := 0) g rfl) (de_slot (i := 2) g rfl) vr_le vr_le)))))) (by simp [isWh, isInt', isBl]))
  case bool b => exact db_one (ds_retB (de_andE (de_isInt g T.b_isinstance T.b_int (de_slot (i := 0) g rfl)) (fun _ => de_andF (de_notE (de_isBool g T.b_isinstance T.b_bool (de_slot (i := 0) g rfl))))) (by simp [isWh]))
  all_goals exact db_one (ds_retB (de_andF (de_isInt g T.b_isinstance T.b_int (de_slot (i := 0) g rfl))) (by simp [isWh]))
theorem c_is_whole_fitting (T : Txt W) : Cal W "is_whole_fitting" 1 ["value", "least", "most"] (spP S_wh) := by
  refine cal_P T.d_is_whole_fitting sc_is_whole_fitting (by decide) (fun _ _ _ _ _ _ us hl => match us, hl with | [_, _, _], _ => rfl) (fun τs τ h => by obtain ⟨_, _, _, rfl, _⟩ := h; rfl) fun X g τs τ h => ?_
  obtain ⟨d, lo, hi, rfl, rfl⟩ := h
  cases d
  case int i => exact db_one (ds_retB (de_andE (de_isInt g T.b_isinstance T.b_int (de_slot (i := 0) g rfl)) (fun _ => (de_andE (de_notE (de_isBool g T.b_isinstance T.b_bool (de_slot (i := 0) g rfl))) (fun _ => (de_one (de_chainE op_le op_le (de_slot (i := 1) g rfl) (de_slot (i := 0) g rfl) (de_slot (i := 2) g rfl) vr_le vr_le)))))) (by simp [isWh, isInt', isBl]))
  case bool b => exact db_one (ds_retB (de_andE (de_isInt g T.b_isinstance T.b_int (de_slot (i := 0) g rfl)) (fun _ => de_andF (de_notE (de_isBool g T.b_isinstance T.b_bool (de_slot (i := 0) g rfl))))) (by simp [isWh]))
  all_goals exact db_one (ds_retB (de_andF (de_isInt g T.b_isinstance T.b_int (de_slot (i := 0) g rfl))) (by simp [isWh]))
def S_votes : List Ty → Ty → Prop := fun τs τ => ∃ v : List Int, (v.length ≤ 5 ∧ ∀ x ∈ v, 1 ≤ x ∧ x ≤ 1000000) ∧ τs = [Is (.tuple (v.map I'))] ∧ τ = BI true
theorem c_is_votes (T : Txt W) : Cal W "is_votes" 2 ["value"] (spP S_votes) := by
  refine cal_P T.d_is_votes sc_is_votes (by decide) (fun _ _ _ _ _ _ us hl => match us, hl with | [_], _ => rfl) (fun τs τ h => by obtain ⟨_, _, rfl, _⟩ := h; rfl) fun X g τs τ h => ?_
  obtain ⟨v, ⟨h5, hv⟩, rfl, rfl⟩ := h
  have e1 : ((v.map I').length : Int) = v.length := by simp
  refine db_cons (ds_ifE (DW.dt (dw_orE (dt_notE (dt_val (de_isTup g T.b_isinstance T.b_tuple (de_slot (i := 0) g rfl)))) (fun _ => (dw_or1 (dt_cmp op_gt (de_len g T.b_len (de_slot (i := 0) g rfl)) (de_cint g T.c_MOST_PARTIES) vr_gt))))) (fun z => ?_) (fun _ => db_nil (db_one ?_)))
  · simp [isTup, e1] at z; omega
  refine ds_retB (de_allM g T.b_all (df_map (v := 1) v isI (fun x => BI (isWh (.int x) 1 1000000)) g (by decide +kernel) (di_tupM (DE.tupM (de_slot (i := 0) g rfl))) (by omega) ⟨_, rfl, rfl⟩ fun x hx X' g' => ?_).lst) ?_
  · exact (de_call g' (c_is_whole_methods T) (des_cons (de_slot (i := 1) g' rfl) (des_cons de_int (des_cons (de_cint g' T.c_MOST_VOTES) des_nil))) ⟨_, _, _, rfl, rfl⟩)
  · rw [List.all_eq_true]; intro x hx; have := hv x hx; simp [isWh, this]
end
end K35
set_option Elab.async false
set_option linter.all false
set_option maxRecDepth 100000
set_option maxHeartbeats 1000000
/-! results, divisors -/
namespace K35
open PySem PySem.Spec L2
abbrev Res := List Int × List Int
def encR (r : Res) : PyData := .tuple [.tuple (r.1.map I'), .tuple (r.2.map I')]
def encRs (rs : List Res) : PyData := .tuple (rs.map encR)
structure WfR (r : Res) : Prop where
  n1 : 1 ≤ r.1.length
  n3 : r.1.length ≤ 3
  eq : r.2.length = r.1.length
  v : ∀ x ∈ r.1, 1 ≤ x ∧ x ≤ 1000
  s : ∀ x ∈ r.2, 0 ≤ x ∧ x ≤ 5
  sum : r.2.sum ≤ 5
structure Wf (rs : List Res) : Prop where
  len : rs.length ≤ 3
  all : ∀ r ∈ rs, WfR r
section
variable {W : Wd}
def S_seats : List Ty → Ty → Prop := fun τs τ => ∃ r : Res, WfR r ∧ τs = [Is (.tuple (r.2.map I')), Is (.tuple (r.1.map I'))] ∧ τ = BI true
theorem c_is_seats (T : Txt W) : Cal W "is_seats" 2 ["value", "votes"] (spP S_seats) := by
  refine cal_P T.d_is_seats sc_is_seats (by decide) (fun _ _ _ _ _ _ us hl => match us, hl with | [_, _], _ => rfl) (fun τs τ h => by obtain ⟨_, _, rfl, _⟩ := h; rfl) fun X g τs τ h => ?_
  obtain ⟨⟨v, s⟩, w, rfl, rfl⟩ := h
  have e2 := w.eq
  have e3 := w.n3
  refine db_cons (ds_ifE (DW.dt (dw_orE (dt_notE (dt_val (de_isTup g T.b_isinstance T.b_tuple (de_slot (i := 0) g rfl)))) (fun _ => (dw_or1 (dt_cmp op_ne (de_len g T.b_len (de_slot (i := 0) g rfl)) (de_len g T.b_len (de_slot (i := 1) g rfl)) vr_neI))))) (fun z => ?_) (fun _ => db_nil (db_one ?_)))
  · simp only [List.length_map] at z e2; simp [isTup, e2] at z
  refine ds_retB (de_andE (de_allM g T.b_all (df_map (v := 2) s isI (fun x => BI (isWh (.int x) 0 8)) g (by decide +kernel) (di_tupM (DE.tupM (de_slot (i := 0) g rfl))) (by simp only at e2 e3; omega) ⟨_, rfl, rfl⟩ fun x hx X' g' => ?_).lst) fun _ => de_one (de_cmp op_le (de_sumT g T.b_sum (ns := s) (DE.tupM (de_slot (i := 0) g rfl))) (de_cint g T.c_MOST_SEATS) vr_le)) ?_
  · exact (de_call g' (c_is_whole_methods T) (des_cons (de_slot (i := 2) g' rfl) (des_cons de_int (des_cons (de_cint g' T.c_MOST_SEATS) des_nil))) ⟨_, _, _, rfl, rfl⟩)
  · rw [Bool.and_eq_true, List.all_eq_true]
    have := w.sum
    refine ⟨fun x hx => ?_, decide_eq_true (by simp only at this; omega)⟩
    have := w.s x hx
    simp [isWh]; omega
def S_res : List Ty → Ty → Prop := fun τs τ => ∃ r : Res, WfR r ∧ τs = [Is (encR r)] ∧ τ = BI true
theorem c_is_result (T : Txt W) : Cal W "is_result" 3 ["value"] (spP S_res) := by
  refine cal_P T.d_is_result sc_is_result (by decide) (fun _ _ _ _ _ _ us hl => match us, hl with | [_], _ => rfl) (fun τs τ h => by obtain ⟨_, _, rfl, _⟩ := h; rfl) fun X g τs τ h => ?_
  obtain ⟨⟨v, s⟩, w, rfl, rfl⟩ := h
  have hv : v.length ≤ 5 ∧ ∀ x ∈ v, 1 ≤ x ∧ x ≤ 1000000 := ⟨by have := w.n3; simp only at this; omega, fun x hx => by have := w.v x hx; omega⟩
  exact db_one (ds_retB (de_andE (de_isTup g T.b_isinstance T.b_tuple (de_slot (i := 0) g rfl)) (fun _ => (de_andE (de_cmp op_eq (de_len g T.b_len (de_slot (i := 0) g rfl)) de_int vr_eqI) (fun _ => (de_andE (de_call g (c_is_votes T) (des_cons (de_ixI (de_slot (i := 0) g rfl) de_int (by first | assumption | rfl | exact atI_of (by decide) rfl)) des_nil) ⟨_, by assumption, rfl, rfl⟩) (fun _ => (de_one (de_call g (c_is_seats T) (des_cons (de_ixI (de_slot (i := 0) g rfl) de_int (by first | assumption | rfl | exact atI_of (by decide) rfl)) (des_cons (de_ixI (de_slot (i := 0) g rfl) de_int (by first | assumption | rfl | exact atI_of (by decide) rfl)) des_nil)) ⟨_, by assumption, rfl, rfl⟩)))))))) rfl)
def S_ress : List Ty → Ty → Prop := fun τs τ => ∃ rs : List Res, Wf rs ∧ τs = [Is (encRs rs)] ∧ τ = BI true
theorem c_are_results (T : Txt W) : Cal W "are_results" 4 ["value"] (spP S_ress) := by
  refine cal_P T.d_are_results sc_are_results (by decide) (fun _ _ _ _ _ _ us hl => match us, hl with | [_], _ => rfl) (fun τs τ h => by obtain ⟨_, _, rfl, _⟩ := h; rfl) fun X g τs τ h => ?_
  obtain ⟨rs, w, rfl, rfl⟩ := h
  have e1 := w.len
  refine db_one (ds_retB (de_andE (de_isTup g T.b_isinstance T.b_tuple (de_slot (i := 0) g rfl)) fun _ => de_andE (de_cmp op_le (de_len g T.b_len (de_slot (i := 0) g rfl)) (de_cint g T.c_MOST_RESULTS) vr_le) fun _ => de_one (de_allM g T.b_all (df_map (v := 1) rs (fun r => Is (encR r)) (fun r => BI true) g (by decide +kernel) (di_tupM (DE.tupM (de_slot (i := 0) g rfl))) (by omega) ⟨_, rfl, rfl⟩ fun r hr X' g' => ?_).lst)) ?_)
  · have hr' := w.all r hr
    exact (de_call g' (c_is_result T) (des_cons (de_slot (i := 1) g' rfl) des_nil) ⟨_, by assumption, rfl, rfl⟩)
  · simp [isTup, encRs]; omega
def S_chk : List Ty → Ty → Prop := fun τs τ => ∃ rs : List Res, Wf rs ∧ τs = [Is (encRs rs)] ∧ τ = Is .none
theorem c_check_results (T : Txt W) : Cal W "check_results" 5 ["results"] (spP S_chk) := by
  refine cal_P T.d_check_results sc_check_results (by decide) (fun _ _ _ _ _ _ us hl => match us, hl with | [_], _ => rfl) (fun τs τ h => by obtain ⟨_, _, rfl, _⟩ := h; rfl) fun X g τs τ h => ?_
  obtain ⟨rs, w, rfl, rfl⟩ := h
  exact db_one (ds_ifE (dt_notE (dt_val (de_call g (c_are_results T) (des_cons (de_slot (i := 0) g rfl) des_nil) ⟨_, by assumption, rfl, rfl⟩))) (fun z => nomatch z) (fun _ => db_nil fun F => Dp.non))
def S_divs : List Ty → Ty → Prop := fun τs τ => ∃ d, τs = [Is d] ∧ τ = BI (okDivs d)
theorem c_are_divisors (T : Txt W) : Cal W "are_divisors" 1 ["value"] (spP S_divs) := by
  refine cal_P T.d_are_divisors sc_are_divisors (by decide) (fun _ _ _ _ _ _ us hl => match us, hl with | [_], _ => rfl) (fun τs τ h => by obtain ⟨_, rfl, _⟩ := h; rfl) fun X g τs τ h => ?_
  obtain ⟨d, rfl, rfl⟩ := h
  cases d
  case tuple ds =>
    refine db_cons (ds_ifE (DW.dt (dw_orE (dt_notE (dt_val (de_isTup g T.b_isinstance T.b_tuple (de_slot (i := 0) g rfl)))) (fun _ => (dw_or1 (dt_notE (dt_chainE op_le op_le de_int (de_len g T.b_len (de_slot (i := 0) g rfl)) (de_cint g T.c_MOST_DIVISORS) vr_le vr_le)))))) (fun z => db_one (ds_retB de_bl.bi ?_)) (fun z0 => db_nil ?_))
    · simp [isTup] at z; exact (show okDivs (.tuple ds) = false by simp only [okDivs, Bool.and_eq_false_iff, decide_eq_false_iff_not]; omega).symm
    have hl : 1 ≤ ds.length ∧ ds.length ≤ 20 := by simp [isTup] at z0; omega
    have e0 : (decide (1 ≤ ds.length) && decide (ds.length ≤ 20)) = true := by simp; exact hl
    refine db_cons (ds_ifE (dt_notE (dt_val (de_allM (f := okOne) g T.b_all (df_map (v := 2) ds (fun d => Is d) (fun d => BI (okOne d)) g (by decide +kernel) (di_tupM (de_slot (i := 0) g rfl).tupT) (by omega) ⟨_, rfl, rfl⟩ fun d hd X' g' => ?_).lst))) (fun z => db_one (ds_retB de_bl.bi ?_)) (fun z => db_nil (db_one ?_)))
    · cases d
      case int i => exact DE.biE (de_andE (de_isInt g' T.b_isinstance T.b_int (de_slot (i := 2) g' rfl)) (fun _ => (de_andE (de_notE (de_isBool g' T.b_isinstance T.b_bool (de_slot (i := 2) g' rfl))) (fun _ => (de_one (de_cmp op_ge (de_slot (i := 2) g' rfl) de_int vr_ge)))))) (by simp [okOne, isInt', isBl])
      case bool b => exact DE.biE (de_andE (de_isInt g' T.b_isinstance T.b_int (de_slot (i := 2) g' rfl)) (fun _ => de_andF (de_notE (de_isBool g' T.b_isinstance T.b_bool (de_slot (i := 2) g' rfl))))) rfl
      all_goals exact DE.biE (de_andF (de_isInt g' T.b_isinstance T.b_int (de_slot (i := 2) g' rfl))) rfl
    · have z : ds.all okOne = false := by simpa using z
      simp [okDivs, z]
    have z : ds.all okOne = true := by simpa using z
    obtain ⟨ns, rfl, hn⟩ := okAll_ints z
    have hl : 1 ≤ ns.length ∧ ns.length ≤ 20 := by simpa using hl
    refine ds_retB (de_allM g T.b_all (df_map (v := 1) (List.range (ns.length - 1)) natI (fun k => BI (decide (ns.getD k 0 ≤ ns.getD (k + 1) 0))) g (by decide +kernel) (di_rangeM g T.b_range (de_sub (de_len g T.b_len (de_slot (i := 0) g rfl)) de_int) (by simp; omega) (by omega)) (by simp; omega) ⟨_, rfl, rfl⟩ fun k hk X' g' => ?_).lst) ?_
    · have hk' : k < ns.length - 1 := by simpa using hk
      have h1 := atI_of (i := (k : Int)) (by omega) (show (ns.map I')[((k : Int)).toNat]? = some (I' (ns.getD k 0)) by rw [Int.toNat_natCast]; exact getD_at (by omega))
      have h2 := atI_of (i := (k : Int) + 1) (by omega) (show (ns.map I')[((k : Int) + 1).toNat]? = some (I' (ns.getD (k + 1) 0)) by rw [show ((k : Int) + 1).toNat = k + 1 by omega]; exact getD_at (by omega))
      exact de_cmp op_le (de_ixI (d := I' _) (de_slot (i := 0) g' rfl) (de_slot (i := 1) g' rfl) h1) (de_ixI (d := I' _) (de_slot (i := 0) g' rfl) (de_add (de_slot (i := 1) g' rfl) de_int) h2) vr_le
    · simp only [okDivs, z, e0, map_toI]
      rfl
  all_goals exact db_cons (ds_ifE (DW.dt (dw_orT (dt_notE (dt_val (de_isTup g T.b_isinstance T.b_tuple (de_slot (i := 0) g rfl)))))) (fun z => db_one (ds_retB de_bl.bi rfl)) (fun z => nomatch z))
end
end K35
set_option Elab.async false
set_option linter.all false
set_option maxRecDepth 100000
set_option maxHeartbeats 1000000
/-! numbers -/
namespace K35
open PySem PySem.Spec L2
section
variable {W : Wd}
def S_div : List Ty → Ty → Prop := fun τs τ => ∃ ds i, (ds ≠ [] ∧ 0 ≤ i) ∧ τs = [Is (.tuple (ds.map I')), Is (.int i)] ∧ τ = Is (.int (divAt ds i))
theorem c_divisor_in (T : Txt W) : Cal W "divisor_in" 1 ["divisors", "index"] (spP S_div) := by
  refine cal_P T.d_divisor_in sc_divisor_in (by decide) (fun _ _ _ _ _ _ us hl => match us, hl with | [_, _], _ => rfl) (fun τs τ h => by obtain ⟨_, _, _, rfl, _⟩ := h; rfl) fun X g τs τ h => ?_
  obtain ⟨ds, i, ⟨hne, h0⟩, rfl, rfl⟩ := h
  have hl : 0 < ds.length := List.length_pos_iff.mpr hne
  refine db_cons (ds_ifE (dt_cmp op_lt (de_slot (i := 1) g rfl) (de_len g T.b_len (de_slot (i := 0) g rfl)) vr_lt) (fun z => db_one (ds_retI (de_ixI (d := I' _) (de_slot (i := 0) g rfl) (de_slot (i := 1) g rfl) (atI_of h0 (getD_at (j := i.toNat) ?_))) ?_)) (fun z => db_nil (db_one (ds_retI (de_add (de_sub (de_add (de_ixI (d := I' _) (de_slot (i := 0) g rfl) (de_neg de_int) (atI_neg1 (by rw [List.length_map]; exact getD_at (by omega)))) (de_slot (i := 1) g rfl)) (de_len g T.b_len (de_slot (i := 0) g rfl))) de_int) ?_))))
  · simp at z; omega
  · simp at z; simp [I', divAt, z]
  · simp at z; simp [divAt]; omega
theorem c_L_divisor (T : Txt W) : Cal W "_law_divisor" 1 ["_law_divisors_here", "_law_index"] (spP S_div) := by
  refine cal_P T.d_L_divisor sc_L_divisor (by decide) (fun _ _ _ _ _ _ us hl => match us, hl with | [_, _], _ => rfl) (fun τs τ h => by obtain ⟨_, _, _, rfl, _⟩ := h; rfl) fun X g τs τ h => ?_
  obtain ⟨ds, i, ⟨hne, h0⟩, rfl, rfl⟩ := h
  have hl : 0 < ds.length := List.length_pos_iff.mpr hne
  refine db_cons (ds_ifE (dt_cmp op_lt (de_slot (i := 1) g rfl) (de_len g T.b_len (de_slot (i := 0) g rfl)) vr_lt) (fun z => db_one (ds_retI (de_ixI (d := I' _) (de_slot (i := 0) g rfl) (de_slot (i := 1) g rfl) (atI_of h0 (getD_at (j := i.toNat) ?_))) ?_)) (fun z => db_nil (db_one (ds_retI (de_add (de_sub (de_add (de_ixI (d := I' _) (de_slot (i := 0) g rfl) (de_neg de_int) (atI_neg1 (by rw [List.length_map]; exact getD_at (by omega)))) (de_slot (i := 1) g rfl)) (de_len g T.b_len (de_slot (i := 0) g rfl))) de_int) ?_))))
  · simp at z; omega
  · simp at z; simp [I', divAt, z]
  · simp at z; simp [divAt]; omega
def S_com : List Ty → Ty → Prop := fun τs τ => ∃ a b : Nat, τs = [Is (.int a), Is (.int b)] ∧ τ = Is (.int (Nat.gcd a b : Nat))
theorem c_common (T : Txt W) : Cal W "common" 1 ["one", "other"] (spP S_com) := by
  refine cal_P T.d_common sc_common (by decide) (fun _ _ _ _ _ _ us hl => match us, hl with | [_, _], _ => rfl) (fun τs τ h => by obtain ⟨_, _, rfl, _⟩ := h; rfl) fun X g τs τ h => ?_
  obtain ⟨a, b, rfl, rfl⟩ := h
  refine db_cons (ds_while g (fun m ρ' => ∃ c d : Nat, ρ' = slots N_common [Is (.int c), Is (.int d)] ∧ Nat.gcd c d = Nat.gcd a b ∧ m = d) (m0 := b) ⟨a, b, rfl, rfl, rfl⟩ fun m ρ' ⟨c, d, e, hg, em⟩ => ?_)
  subst e
  refine ⟨_, (dt_cmp op_gt (de_slot (i := 1) g rfl) de_int vr_gt), fun z => ?_, fun z => ?_⟩
  · have hd : 0 < d := by simp at z; omega
    refine db_one (ds_par2 (i1 := 0) (i2 := 1) g (de_slot (i := 1) g rfl) (de_mod (de_slot (i := 0) g rfl) (de_slot (i := 1) g rfl) (by omega)) ?_)
    refine ⟨c % d, by rw [em]; exact Nat.mod_lt _ hd, d, c % d, ?_, ?_, rfl⟩
    · rw [show ((c % d : Nat) : Int) = (c : Int) % (d : Int) by omega]; rfl
    · rw [← hg, Nat.gcd_comm c d, Nat.gcd_rec d c, Nat.gcd_comm]
  · have hd : d = 0 := by simp at z; omega
    refine db_one (ds_retI (de_slot (i := 0) g rfl) ?_)
    rw [← hg, hd, Nat.gcd_zero_right]
def redN (p q : Nat) : PyData := .tuple [.int (p / Nat.gcd p q : Nat), .int (q / Nat.gcd p q : Nat)]
def S_red : List Ty → Ty → Prop := fun τs τ => ∃ p q : Nat, (0 < Nat.gcd p q ∧ (Nat.gcd p q).log2 < 9000) ∧ τs = [Is (.int p), Is (.int q)] ∧ τ = Is (redN p q)
theorem c_reduced (T : Txt W) : Cal W "reduced" 2 ["p", "q"] (spP S_red) := by
  refine cal_P T.d_reduced sc_reduced (by decide) (fun _ _ _ _ _ _ us hl => match us, hl with | [_, _], _ => rfl) (fun τs τ h => by obtain ⟨_, _, _, rfl, _⟩ := h; rfl) fun X g τs τ h => ?_
  obtain ⟨p, q, ⟨h0, h9⟩, rfl, rfl⟩ := h
  have hd : ∀ x : Int, CDivW x (Nat.gcd p q : Nat) := fun x => ⟨by omega, h9⟩
  refine db_cons (ds_set (i := 2) g (de_call g (c_common T) (des_cons (de_slot (i := 0) g rfl) (des_cons (de_slot (i := 1) g rfl) des_nil)) ⟨_, _, rfl, rfl⟩) ?_)
  have := hd p
  have := hd q
  exact db_one (ds_retI (DE.tupI (ds := [_, _]) (de_tup (des_cons (de_fdivW (de_slot (i := 0) g rfl) (de_slot (i := 2) g rfl) (by first | assumption | exact ⟨by omega, by assumption⟩)) (des_cons (de_fdivW (de_slot (i := 1) g rfl) (de_slot (i := 2) g rfl) (by first | assumption | exact ⟨by omega, by assumption⟩)) des_nil)))) rfl)
def isRat (d : PyData) : Bool := match d with | .tuple [.int a, .int b] => decide (1 ≤ a) && decide (1 ≤ b) && decide (Nat.gcd a.toNat b.toNat = 1) | _ => false
def S_rat : List Ty → Ty → Prop := fun τs τ => ∃ d, τs = [Is d] ∧ τ = BI (isRat d)
theorem isRat_no {ds : List PyData} (h : ds.length ≠ 2 ∨ ds.all okOne = false) : isRat (.tuple ds) = false := by
  cases hr : isRat (.tuple ds) with
  | false => rfl
  | true =>
    exfalso
    unfold isRat at hr
    split at hr
    · rename_i heq
      cases heq
      simp at hr
      rcases h with h | h
      · exact h rfl
      · simp [okOne] at h
        have := h hr.1.1
        omega
    · cases hr
theorem c_is_ratio (T : Txt W) : Cal W "is_ratio" 2 ["value"] (spP S_rat) := by
  refine cal_P T.d_is_ratio sc_is_ratio (by decide) (fun _ _ _ _ _ _ us hl => match us, hl with | [_], _ => rfl) (fun τs τ h => by obtain ⟨_, rfl, _⟩ := h; rfl) fun X g τs τ h => ?_
  obtain ⟨d, rfl, rfl⟩ := h
  cases d
  case tuple ds =>
    refine db_cons (ds_ifE (DW.dt (dw_orE (dt_notE (dt_val (de_isTup g T.b_isinstance T.b_tuple (de_slot (i := 0) g rfl)))) (fun _ => (dw_or1 (dt_cmp op_ne (de_len g T.b_len (de_slot (i := 0) g rfl)) de_int vr_neI))))) (fun z => db_one (ds_retB de_bl.bi ?_)) (fun z0 => db_nil ?_))
    · simp [isTup] at z; exact (isRat_no (.inl (by omega))).symm
    have hl : ds.length = 2 := by simp [isTup] at z0; omega
    refine db_cons (ds_ifE (dt_notE (dt_val (de_allM (f := okOne) g T.b_all (df_map (v := 1) ds (fun d => Is d) (fun d => BI (okOne d)) g (by decide +kernel) (di_tupM (de_slot (i := 0) g rfl).tupT) (by omega) ⟨_, rfl, rfl⟩ fun d hd X' g' => ?_).lst))) (fun z => db_one (ds_retB de_bl.bi ?_)) (fun z => db_nil (db_one ?_)))
    · cases d
      case int i => exact DE.biE (de_andE (de_isInt g' T.b_isinstance T.b_int (de_slot (i := 1) g' rfl)) (fun _ => (de_andE (de_notE (de_isBool g' T.b_isinstance T.b_bool (de_slot (i := 1) g' rfl))) (fun _ => (de_one (de_cmp op_ge (de_slot (i := 1) g' rfl) de_int vr_ge)))))) (by simp [okOne, isInt', isBl])
      case bool b => exact DE.biE (de_andE (de_isInt g' T.b_isinstance T.b_int (de_slot (i := 1) g' rfl)) (fun _ => de_andF (de_notE (de_isBool g' T.b_isinstance T.b_bool (de_slot (i := 1) g' rfl))))) rfl
      all_goals exact DE.biE (de_andF (de_isInt g' T.b_isinstance T.b_int (de_slot (i := 1) g' rfl))) rfl
    · exact (isRat_no (.inr (by simpa using z))).symm
    have z : ds.all okOne = true := by simpa using z
    obtain ⟨ns, rfl, hn⟩ := okAll_ints z
    match ns, hl, hn with
    | [a, b], _, hn =>
      have ha := hn a (by simp)
      have hb := hn b (by simp)
      have ea : a = (a.toNat : Int) := by omega
      have eb : b = (b.toNat : Int) := by omega
      refine ds_retB (de_cmp op_eq (de_call g (c_common T) (des_cons (de_ixI (d := I' _) (de_slot (i := 0) g rfl) de_int rfl) (des_cons (de_ixI (d := I' _) (de_slot (i := 0) g rfl) de_int rfl) des_nil)) ⟨a.toNat, b.toNat, by rw [← ea, ← eb]; rfl, rfl⟩) de_int vr_eqI) ?_
      have e1 : ((Nat.gcd a.toNat b.toNat : Nat) : Int) = 1 ↔ Nat.gcd a.toNat b.toNat = 1 := by omega
      simp [isRat, I', ha, hb, e1]
  all_goals exact db_cons (ds_ifE (DW.dt (dw_orT (dt_notE (dt_val (de_isTup g T.b_isinstance T.b_tuple (de_slot (i := 0) g rfl)))))) (fun z => db_one (ds_retB de_bl.bi rfl)) (fun z => nomatch z))
end
end K35
set_option Elab.async false
set_option linter.all false
set_option maxRecDepth 100000
set_option maxHeartbeats 1000000
/-! numbers, the law's side -/
namespace K35
open PySem PySem.Spec L2
def lgcd : Nat → Nat → Nat → Nat
  | 0, a, _ => a
  | n + 1, a, b => if 0 < b then lgcd n b (a % b) else a
theorem lgcd_zero : ∀ n a, lgcd n a 0 = a
  | 0, _ => rfl
  | n + 1, a => by simp [lgcd]
section
variable {W : Wd}
def isIx (d : PyData) : Bool := match d with | .int _ => true | _ => false
def S_isI : List Ty → Ty → Prop := fun τs τ => ∃ d, τs = [Is d] ∧ τ = BI (isIx d)
theorem c_L_is_integer (T : Txt W) : Cal W "_law_is_integer" 1 ["_law_actual"] (spP S_isI) := by
  refine cal_P T.d_L_is_integer sc_L_is_integer (by decide) (fun _ _ _ _ _ _ us hl => match us, hl with | [_], _ => rfl) (fun τs τ h => by obtain ⟨_, rfl, _⟩ := h; rfl) fun X g τs τ h => ?_
  obtain ⟨d, rfl, rfl⟩ := h
  exact db_one (ds_retB (de_andE (de_isInt g T.b_isinstance T.b_int (de_slot (i := 0) g rfl)) (fun _ => (de_one (de_notE (de_isBool g T.b_isinstance T.b_bool (de_slot (i := 0) g rfl)))))) (by cases d <;> rfl))
def S_Lcom : List Ty → Ty → Prop := fun τs τ => ∃ a b : Nat, τs = [Is (.int a), Is (.int b)] ∧ τ = Is (.int (lgcd 3000 a b : Nat))
theorem c_L_common (T : Txt W) : Cal W "_law_common" 1 ["_law_one", "_law_other"] (spP S_Lcom) := by
  refine cal_P T.d_L_common sc_L_common (by decide) (fun _ _ _ _ _ _ us hl => match us, hl with | [_, _], _ => rfl) (fun τs τ h => by obtain ⟨_, _, rfl, _⟩ := h; rfl) fun X g τs τ h => ?_
  obtain ⟨a, b, rfl, rfl⟩ := h
  refine db_cons (ds_for g (di_range (m := 3000) g T.b_range de_int) fun ys hy => ⟨fun i ρ' => ∃ c d s, ρ' = [.dat (Is (.int (c : Nat))), .dat (Is (.int (d : Nat))), s] ∧ s.noOwn = true ∧ lgcd (3000 - i) c d = lgcd 3000 a b, ⟨a, b, .un, rfl, rfl, rfl⟩, ?_, ?_⟩)
  · rintro i y ρ' ey ⟨c, d, s, rfl, hs, e⟩
    subst hy
    have hi : i < 3000 := by have := (List.getElem?_eq_some_iff.mp ey).1; simpa [intsT] using this
    refine dg_name (i := 2) g (.inl rfl) rfl (lt_of_get rfl) ?_
    have e2 : 3000 - i = (3000 - (i + 1)) + 1 := by omega
    rw [e2] at e
    refine db_one (ds_ifE (dt_cmp op_gt (de_slot (i := 1) g rfl) de_int vr_gt) (fun z => db_one (ds_par2 (i1 := 0) (i2 := 1) g (de_slot (i := 1) g rfl) (de_mod (de_slot (i := 0) g rfl) (de_slot (i := 1) g rfl) (by simp at z; omega)) ?_)) (fun z => db_nil ?_))
    · have hd : 0 < d := by simp at z; omega
      refine ⟨d, c % d, _, by rw [show ((c % d : Nat) : Int) = (c : Int) % (d : Int) by omega]; rfl, rfl, ?_⟩
      rw [← e]; simp [lgcd, hd]
    · have hd : d = 0 := by simp at z; omega
      refine ⟨c, d, _, rfl, rfl, ?_⟩
      rw [← e, hd, lgcd_zero, lgcd_zero]
  · rintro ρ' ⟨c, d, s, rfl, hs, e⟩
    subst hy
    refine db_one (ds_retI (de_slot (i := 0) g rfl) ?_)
    rw [← e]; simp [intsT, lgcd]
def lredN (p q : Nat) : PyData := .tuple [.int (p / lgcd 3000 p q : Nat), .int (q / lgcd 3000 p q : Nat)]
def S_Lred : List Ty → Ty → Prop := fun τs τ => ∃ p q : Nat, (0 < lgcd 3000 p q ∧ (lgcd 3000 p q).log2 < 9000) ∧ τs = [Is (.int p), Is (.int q)] ∧ τ = Is (lredN p q)
theorem c_L_reduced (T : Txt W) : Cal W "_law_reduced" 2 ["_law_p", "_law_q"] (spP S_Lred) := by
  refine cal_P T.d_L_reduced sc_L_reduced (by decide) (fun _ _ _ _ _ _ us hl => match us, hl with | [_, _], _ => rfl) (fun τs τ h => by obtain ⟨_, _, _, rfl, _⟩ := h; rfl) fun X g τs τ h => ?_
  obtain ⟨p, q, ⟨h0, h9⟩, rfl, rfl⟩ := h
  have hd : ∀ x : Int, CDivW x (lgcd 3000 p q : Nat) := fun x => ⟨by omega, h9⟩
  refine db_cons (ds_set (i := 2) g (de_call g (c_L_common T) (des_cons (de_slot (i := 0) g rfl) (des_cons (de_slot (i := 1) g rfl) des_nil)) ⟨_, _, rfl, rfl⟩) ?_)
  have := hd p
  have := hd q
  exact db_one (ds_retI (DE.tupI (ds := [_, _]) (de_tup (des_cons (de_fdivW (de_slot (i := 0) g rfl) (de_slot (i := 2) g rfl) (by first | assumption | exact ⟨by omega, by assumption⟩)) (des_cons (de_fdivW (de_slot (i := 1) g rfl) (de_slot (i := 2) g rfl) (by first | assumption | exact ⟨by omega, by assumption⟩)) des_nil)))) rfl)
def isLRat (d : PyData) : Bool := match d with | .tuple [.int a, .int b] => decide (1 ≤ a) && decide (1 ≤ b) && decide (lgcd 3000 a.toNat b.toNat = 1) | _ => false
def S_Lrat : List Ty → Ty → Prop := fun τs τ => ∃ d, τs = [Is d] ∧ τ = BI (isLRat d)
theorem isLRat_no {ds : List PyData} (h : ds.length ≠ 2 ∨ ds.all okOne = false) : isLRat (.tuple ds) = false := by
  cases hr : isLRat (.tuple ds) with
  | false => rfl
  | true =>
    exfalso
    unfold isLRat at hr
    split at hr
    · rename_i heq
      cases heq
      simp at hr
      rcases h with h | h
      · exact h rfl
      · simp [okOne] at h
        have := h hr.1.1
        omega
    · cases hr
theorem okOne_no {d : PyData} (h : isIx d = false) : okOne d = false := by cases d <;> first | rfl | (simp [isIx] at h)
theorem c_L_is_ratio (T : Txt W) : Cal W "_law_is_ratio" 2 ["_law_value"] (spP S_Lrat) := by
  refine cal_P T.d_L_is_ratio sc_L_is_ratio (by decide) (fun _ _ _ _ _ _ us hl => match us, hl with | [_], _ => rfl) (fun τs τ h => by obtain ⟨_, rfl, _⟩ := h; rfl) fun X g τs τ h => ?_
  obtain ⟨d, rfl, rfl⟩ := h
  cases d
  case tuple ds =>
    cases hl2 : decide (ds.length = 2) with
    | false =>
      have hl2 := of_decide_eq_false hl2
      refine db_cons (ds_ifE (DW.dt (dw_orE (dt_notE (dt_val (de_isTup g T.b_isinstance T.b_tuple (de_slot (i := 0) g rfl)))) fun _ => dw_orT (dt_cmp op_ne (de_len g T.b_len (de_slot (i := 0) g rfl)) de_int vr_neI) (by simp; omega))) (fun z => db_one (ds_retB de_bl.bi (isLRat_no (.inl hl2)).symm)) (fun z => by simp at z))
    | true =>
    have hl : ds.length = 2 := of_decide_eq_true hl2
    refine db_cons (ds_ifE (DW.dt (dw_orE (dt_notE (dt_val (de_isTup g T.b_isinstance T.b_tuple (de_slot (i := 0) g rfl)))) fun _ => dw_orE (dt_cmp op_ne (de_len g T.b_len (de_slot (i := 0) g rfl)) de_int vr_neI) fun _ => dw_or1 (dt_notE (dt_val (de_allM (f := okOne) g T.b_all (df_map (v := 1) ds (fun d => Is d) (fun d => BI (okOne d)) g (by decide +kernel) (di_tupM (de_slot (i := 0) g rfl).tupT) (by omega) ⟨_, rfl, rfl⟩ fun d hd X' g' => ?_).lst))))) (fun z => db_one (ds_retB de_bl.bi ?_)) (fun z => db_nil (db_one ?_)))
    · cases d
      case int i => exact DE.biE (de_andE (de_call g' (c_L_is_integer T) (des_cons (de_slot (i := 1) g' rfl) des_nil) ⟨_, rfl, rfl⟩) (fun _ => (de_one (de_cmp op_gt (de_slot (i := 1) g' rfl) de_int vr_gt)))) (by simp [okOne, isIx]; omega)
      all_goals exact DE.biE (de_andF (de_call g' (c_L_is_integer T) (des_cons (de_slot (i := 1) g' rfl) des_nil) ⟨_, rfl, rfl⟩)) rfl
    · exact (isLRat_no (.inr (by simp [isTup, hl] at z; simpa using z))).symm
    have z : ds.all okOne = true := by simp [isTup] at z; simpa using z.2
    obtain ⟨ns, rfl, hn⟩ := okAll_ints z
    match ns, hl, hn with
    | [a, b], _, hn =>
      have ha := hn a (by simp)
      have hb := hn b (by simp)
      have ea : a = (a.toNat : Int) := by omega
      have eb : b = (b.toNat : Int) := by omega
      refine ds_retB (de_cmp op_eq (de_call g (c_L_common T) (des_cons (de_ixI (d := I' _) (de_slot (i := 0) g rfl) de_int rfl) (des_cons (de_ixI (d := I' _) (de_slot (i := 0) g rfl) de_int rfl) des_nil)) ⟨a.toNat, b.toNat, by rw [← ea, ← eb]; rfl, rfl⟩) de_int vr_eqI) ?_
      have e1 : ((lgcd 3000 a.toNat b.toNat : Nat) : Int) = 1 ↔ lgcd 3000 a.toNat b.toNat = 1 := by omega
      simp [isLRat, I', ha, hb, e1]
  all_goals exact db_cons (ds_ifE (DW.dt (dw_orT (dt_notE (dt_val (de_isTup g T.b_isinstance T.b_tuple (de_slot (i := 0) g rfl)))))) (fun z => db_one (ds_retB de_bl.bi rfl)) (fun z => nomatch z))
theorem c_L_are_divisors (T : Txt W) : Cal W "_law_are_divisors" 2 ["_law_value"] (spP S_divs) := by
  refine cal_P T.d_L_are_divisors sc_L_are_divisors (by decide) (fun _ _ _ _ _ _ us hl => match us, hl with | [_], _ => rfl) (fun τs τ h => by obtain ⟨_, rfl, _⟩ := h; rfl) fun X g τs τ h => ?_
  obtain ⟨d, rfl, rfl⟩ := h
  cases d
  case tuple ds =>
    cases hl2 : decide (1 ≤ ds.length ∧ ds.length ≤ 20) with
    | false =>
      have hl2 := of_decide_eq_false hl2
      refine db_cons (ds_ifE (DW.dt (dw_orE (dt_notE (dt_val (de_isTup g T.b_isinstance T.b_tuple (de_slot (i := 0) g rfl)))) fun _ => dw_orT (dt_notE (dt_chainE op_le op_le de_int (de_len g T.b_len (de_slot (i := 0) g rfl)) de_int vr_le vr_le)) (by simp; omega))) (fun z => db_one (ds_retB de_bl.bi ?_)) (fun z => by simp at z))
      exact (show okDivs (.tuple ds) = false by simp only [okDivs, Bool.and_eq_false_iff, decide_eq_false_iff_not]; omega).symm
    | true =>
    have hl : 1 ≤ ds.length ∧ ds.length ≤ 20 := of_decide_eq_true hl2
    have e0 : (decide (1 ≤ ds.length) && decide (ds.length ≤ 20)) = true := by simp; exact hl
    refine db_cons (ds_ifE (DW.dt (dw_orE (dt_notE (dt_val (de_isTup g T.b_isinstance T.b_tuple (de_slot (i := 0) g rfl)))) fun _ => dw_orE (dt_notE (dt_chainE op_le op_le de_int (de_len g T.b_len (de_slot (i := 0) g rfl)) de_int vr_le vr_le)) fun _ => dw_or1 (dt_notE (dt_val (de_allM (f := okOne) g T.b_all (df_map (v := 2) ds (fun d => Is d) (fun d => BI (okOne d)) g (by decide +kernel) (di_tupM (de_slot (i := 0) g rfl).tupT) (by omega) ⟨_, rfl, rfl⟩ fun d hd X' g' => ?_).lst))))) (fun z => db_one (ds_retB de_bl.bi ?_)) (fun z => db_nil (db_one ?_)))
    · cases d
      case int i => exact DE.biE (de_andE (de_call g' (c_L_is_integer T) (des_cons (de_slot (i := 2) g' rfl) des_nil) ⟨_, rfl, rfl⟩) (fun _ => (de_one (de_cmp op_gt (de_slot (i := 2) g' rfl) de_int vr_gt)))) (by simp [okOne, isIx]; omega)
      all_goals exact DE.biE (de_andF (de_call g' (c_L_is_integer T) (des_cons (de_slot (i := 2) g' rfl) des_nil) ⟨_, rfl, rfl⟩)) rfl
    · have hh : ¬ (ds.length : Int) < 1 ∧ ¬ 20 < (ds.length : Int) := by omega
      have z : ds.all okOne = false := by
        cases q : ds.all okOne with
        | false => rfl
        | true => simp [isTup, q] at z; omega
      simp [okDivs, z]
    have z : ds.all okOne = true := by
      cases q : ds.all okOne with
      | true => rfl
      | false => simp [isTup, q] at z
    obtain ⟨ns, rfl, hn⟩ := okAll_ints z
    have hl : 1 ≤ ns.length ∧ ns.length ≤ 20 := by simpa using hl
    refine ds_retB (de_allM g T.b_all (df_map (v := 1) (List.range (ns.length - 1)) natI (fun k => BI (decide (ns.getD k 0 ≤ ns.getD (k + 1) 0))) g (by decide +kernel) (di_rangeM g T.b_range (de_sub (de_len g T.b_len (de_slot (i := 0) g rfl)) de_int) (by simp; omega) (by omega)) (by simp; omega) ⟨_, rfl, rfl⟩ fun k hk X' g' => ?_).lst) ?_
    · have hk' : k < ns.length - 1 := by simpa using hk
      have h1 := atI_of (i := (k : Int)) (by omega) (show (ns.map I')[((k : Int)).toNat]? = some (I' (ns.getD k 0)) by rw [Int.toNat_natCast]; exact getD_at (by omega))
      have h2 := atI_of (i := (k : Int) + 1) (by omega) (show (ns.map I')[((k : Int) + 1).toNat]? = some (I' (ns.getD (k + 1) 0)) by rw [show ((k : Int) + 1).toNat = k + 1 by omega]; exact getD_at (by omega))
      exact de_cmp op_le (de_ixI (d := I' _) (de_slot (i := 0) g' rfl) (de_slot (i := 1) g' rfl) h1) (de_ixI (d := I' _) (de_slot (i := 0) g' rfl) (de_add (de_slot (i := 1) g' rfl) de_int) h2) vr_le
    · simp only [okDivs, z, e0, map_toI]
      rfl
  all_goals exact db_cons (ds_ifE (DW.dt (dw_orT (dt_notE (dt_val (de_isTup g T.b_isinstance T.b_tuple (de_slot (i := 0) g rfl)))))) (fun z => db_one (ds_retB de_bl.bi rfl)) (fun z => nomatch z))
end
end K35
set_option Elab.async false
set_option linter.all false
set_option maxRecDepth 100000
set_option maxHeartbeats 1000000
/-! the conditions that are seen -/
namespace K35
open PySem PySem.Spec L2
structure Cd where
  nm : PyData
  s : Int
  e : Int
  p : Int
  q : Int
def encC (c : Cd) : PyData := .tuple [c.nm, .int c.s, .int c.e, .int c.p, .int c.q]
def tyC (c : Cd) : Ty := Is (encC c)
def mkC (at' : Nat) (r : Res) (one other : Nat) : Cd := ⟨.tuple [.str "seen", .int at', .int one, .int other], r.2.getD one 0 - 1, r.2.getD other 0, r.1.getD one 0, r.1.getD other 0⟩
def keepO (one : Nat) (many : Int) (k : Nat) : Bool := !decide ((k : Int) = one) && decide (0 < many)
def seenO (at' : Nat) (r : Res) (one : Nat) : List Cd := ((List.range r.1.length).filter (keepO one (r.2.getD one 0))).map (mkC at' r one)
def seenR (at' : Nat) (r : Res) : List Cd := (List.range r.2.length).flatMap (seenO at' r)
def resAt (rs : List Res) (i : Nat) : Res := rs.getD i ([], [])
def seenL (rs : List Res) : List Cd := (List.range rs.length).flatMap fun i => seenR i (resAt rs i)
theorem fm_succ {α : Type} (f : Nat → List α) (i : Nat) : (List.range (i + 1)).flatMap f = (List.range i).flatMap f ++ f i := by
  rw [List.range_succ, List.flatMap_append]
  simp
theorem take_succ' {α : Type} {l : List α} {i : Nat} {x : α} (h : l[i]? = some x) : l.take (i + 1) = l.take i ++ [x] := by
  rw [List.take_succ, h]; rfl
theorem resAt_get {rs : List Res} {i : Nat} {r : Res} (h : rs[i]? = some r) : resAt rs i = r := by
  unfold resAt; rw [List.getD_eq_getElem?_getD, h]; rfl
theorem getD_of {xs : List Int} {i : Nat} {x : Int} (h : xs[i]? = some x) : xs.getD i 0 = x := by
  rw [List.getD_eq_getElem?_getD, h]; rfl
theorem enumT_get {α : Type} {xs : List α} {f : α → Ty} {i : Nat} {y : Ty} (h : (enumT (xs.map f))[i]? = some y) : ∃ x, xs[i]? = some x ∧ y = TupOf [Is (.int (i : Nat)), f x] := by
  unfold enumT at h
  have hi : i < xs.length := by have := (List.getElem?_eq_some_iff.mp h).1; simpa using this
  refine ⟨xs[i], List.getElem?_eq_getElem hi, ?_⟩
  rw [List.getElem?_map, List.length_map, List.getElem?_range hi] at h
  simp only [Option.map_some, List.getD_eq_getElem?_getD, List.getElem?_map, List.getElem?_eq_getElem hi, Option.getD_some] at h
  exact (Option.some.inj h).symm
theorem map_get {α β : Type} {xs : List α} {f : α → β} {i : Nat} {y : β} (h : (xs.map f)[i]? = some y) : ∃ x, xs[i]? = some x ∧ y = f x := by
  rw [List.getElem?_map] at h
  cases e : xs[i]? with
  | none => rw [e] at h; cases h
  | some x => rw [e] at h; exact ⟨x, rfl, (Option.some.inj h).symm⟩
theorem atI_I' {xs : List Int} {j : Nat} (h : j < xs.length) : atI (xs.map I') (j : Int) = some (I' (xs.getD j 0)) := atI_of (by omega) (by rw [Int.toNat_natCast]; exact getD_at h)
section
variable {W : Wd}
def S_seen : List Ty → Ty → Prop := fun τs τ => ∃ rs, Wf rs ∧ τs = [Is (encRs rs)] ∧ τ = Is (.list ((seenL rs).map encC))
theorem c_seen_in (T : Txt W) : Cal W "seen_in" 1 ["results"] (spP S_seen) := by
  refine cal_P T.d_seen_in sc_seen_in (by decide) (fun _ _ _ _ _ _ us hl => match us, hl with | [_], _ => rfl) (fun τs τ h => by obtain ⟨_, _, rfl, _⟩ := h; rfl) fun X g τs τ h => ?_
  obtain ⟨rs, w, rfl, rfl⟩ := h
  have w3 := w.len
  refine db_cons (ds_setF (i := 1) g (df_lst des_nil) fun p => ?_)
  refine db_cons (ds_for g (di_enum g T.b_enumerate (DE.tupM (de_slot (i := 0) g rfl))) fun ys hy => ⟨fun i ρ' => ∃ (cs : List Cd) (s2 s3 s4 s5 s6 s7 s8 s9 : Sl), ρ' = [.dat (Is (encRs rs)), .own p (OL (cs.map tyC)), s2, s3, s4, s5, s6, s7, s8, s9] ∧ s7.noOwn = true ∧ cs = (List.range i).flatMap (fun i => seenR i (resAt rs i)) ∧ cs.length ≤ 9 * i, ⟨[], .un, .un, .un, .un, .un, .un, .un, .un, rfl, rfl, rfl, Nat.zero_le _⟩, ?_, ?_⟩)
  · rintro i y ρ' ey ⟨cs, s2, s3, s4, s5, s6, s7, s8, s9, rfl, hs7, ecs, lcs⟩
    subst hy
    obtain ⟨⟨v, s⟩, er, rfl⟩ := enumT_get ey
    have hi : i < rs.length := (List.getElem?_eq_some_iff.mp er).1
    have wr := w.all _ (List.mem_of_getElem? er)
    have wv := wr.n3
    have we := wr.eq
    simp only at wv we
    refine (dg_tup g (dgs_cons (dg_name (i := 2) g (by first | exact .inl rfl | exact .inr ⟨rfl, rfl⟩) rfl (lt_of_get rfl) (dgs_cons (DG.tupI (dg_tup g (dgs_cons (dg_name (i := 3) g (by first | exact .inl rfl | exact .inr ⟨rfl, rfl⟩) rfl (lt_of_get rfl) (dgs_cons (dg_name (i := 4) g (by first | exact .inl rfl | exact .inr ⟨rfl, rfl⟩) rfl (lt_of_get rfl) (dgs_nil (dgs_nil ?_))))))))))))
    refine db_one (ds_for g (di_enum g T.b_enumerate (DE.tupM (xs := s) (de_slot (i := 4) g rfl))) fun ys hy => ⟨fun j ρ' => ∃ (cs : List Cd) (s5 s6 s7 s8 s9 : Sl), ρ' = [.dat (Is (encRs rs)), .own p (OL (cs.map tyC)), .dat (Is (.int (i : Nat))), .dat (Is (.tuple (v.map I'))), .dat (Is (.tuple (s.map I'))), s5, s6, s7, s8, s9] ∧ s7.noOwn = true ∧ cs = (List.range i).flatMap (fun i => seenR i (resAt rs i)) ++ (List.range j).flatMap (seenO i (v, s)) ∧ cs.length ≤ 9 * i + 3 * j, ⟨cs, _, _, _, _, _, rfl, hs7, by simp [ecs], by omega⟩, ?_, ?_⟩)
    · clear ecs lcs cs
      rintro j y ρ' ey2 ⟨cs, s5, s6, s7, s8, s9, rfl, hs7, ecs, lcs⟩
      subst hy
      obtain ⟨m, em, rfl⟩ := enumT_get ey2
      have hj : j < s.length := (List.getElem?_eq_some_iff.mp em).1
      refine (dg_tup g (dgs_cons (dg_name (i := 5) g (by first | exact .inl rfl | exact .inr ⟨rfl, rfl⟩) rfl (lt_of_get rfl) (dgs_cons (dg_name (i := 6) g (by first | exact .inl rfl | exact .inr ⟨rfl, rfl⟩) rfl (lt_of_get rfl) (dgs_nil ?_))))))
      refine db_cons (ds_setFil (v := 7) (i := 8) (List.range v.length) natI (keepO j m) natI g (by decide +kernel) (di_rangeM g T.b_range (de_len g T.b_len (de_slot (i := 3) g rfl)) (by simp) (by omega)) (by simp; omega) ⟨_, rfl, hs7⟩ (fun k hk X' g' => dts_one (DW.dt (dw_andE (dt_cmp op_ne (de_slot (i := 7) g' rfl) (de_slot (i := 5) g' rfl) vr_neI) (fun _ => (dw_and1 (dt_cmp op_gt (de_slot (i := 6) g' rfl) de_int vr_gt)))))) (fun k hk hb X' g' => (de_slot (i := 7) g' rfl)) fun p8 => ?_)
      refine DB.freezeL (i := 8) (p := p8) ?_ rfl
      refine db_one (ds_for g (di_lstM (xs := (List.range v.length).filter (keepO j m)) (s := natI) (de_slot (i := 8) g rfl)) fun ys hy => ⟨fun k ρ' => ∃ (cs : List Cd) (s7 s8 s9 : Sl), ρ' = [.dat (Is (encRs rs)), .own p (OL (cs.map tyC)), .dat (Is (.int (i : Nat))), .dat (Is (.tuple (v.map I'))), .dat (Is (.tuple (s.map I'))), .dat (Is (.int (j : Nat))), .dat (Is (.int m)), s7, s8, s9] ∧ s7.noOwn = true ∧ cs = (List.range i).flatMap (fun i => seenR i (resAt rs i)) ++ (List.range j).flatMap (seenO i (v, s)) ++ ((((List.range v.length).filter (keepO j m)).take k).map (mkC i (v, s) j)) ∧ cs.length ≤ 9 * i + 3 * j + k, ⟨cs, _, _, _, rfl, hs7, by simp [ecs], by omega⟩, ?_, ?_⟩)
      · clear ecs lcs cs
        rintro k y ρ' ey3 ⟨cs, s7, s8, s9, rfl, hs7, ecs, lcs⟩
        subst hy
        obtain ⟨o, eo, rfl⟩ := map_get ey3
        have ho : o < v.length := by
          have := (List.mem_filter.mp (List.mem_of_getElem? eo)).1
          simpa using this
        have hk : k < 3 := by
          have h1 := (List.getElem?_eq_some_iff.mp eo).1
          have h2 := List.length_filter_le (keepO j m) (List.range v.length)
          rw [List.length_range] at h2
          omega
        refine (dg_name (i := 7) g (by first | exact .inl rfl | exact .inr ⟨rfl, rfl⟩) rfl (lt_of_get rfl) ?_)
        refine db_cons (ds_set (i := 9) g (DE.tupI (ds := [_, _, _, _]) (de_tup (des_cons de_str (des_cons (de_slot (i := 2) g rfl) (des_cons (de_slot (i := 5) g rfl) (des_cons (de_slot (i := 7) g rfl) des_nil)))))) ?_)
        refine db_one (ds_append (s := 1) g rfl (DE.tupI (ds := [_, _, _, _, _]) (de_tup (des_cons (de_slot (i := 9) g rfl) (des_cons (de_sub (de_slot (i := 6) g rfl) de_int) (des_cons (de_ixI (d := I' _) (de_slot (i := 4) g rfl) (de_slot (i := 7) g rfl) (atI_I' (by omega))) (des_cons (de_ixI (d := I' _) (de_slot (i := 3) g rfl) (de_slot (i := 5) g rfl) (atI_I' (by omega))) (des_cons (de_ixI (d := I' _) (de_slot (i := 3) g rfl) (de_slot (i := 7) g rfl) (atI_I' ho)) des_nil))))))) (by rw [List.length_map]; omega) ?_)
        refine ⟨cs ++ [mkC i (v, s) j o], .dat (natI o), s8, .dat (Is (.tuple [.str "seen", .int (i : Nat), .int (j : Nat), .int (o : Nat)])), ?_, rfl, ?_, ?_⟩
        · have e : encC (mkC i (v, s) j o) = .tuple [.tuple [.str "seen", .int i, .int j, .int o], .int (m - 1), I' (s.getD o 0), I' (v.getD j 0), I' (v.getD o 0)] := by
            simp only [encC, mkC, getD_of em]; rfl
          rw [List.map_append]
          show _ = [_, Sl.own p (OL (cs.map tyC ++ [Is (encC (mkC i (v, s) j o))])), _, _, _, _, _, _, _, _]
          rw [e]
          rfl
        · rw [ecs, take_succ' eo, List.map_append, List.append_assoc, List.append_assoc]; simp [List.append_assoc]
        · simp; omega
      · rintro ρ' ⟨cs, s7, s8, s9, rfl, hs7, ecs, lcs⟩
        subst hy
        refine ⟨cs, _, _, _, _, _, rfl, hs7, ?_, ?_⟩
        · rw [ecs, fm_succ, List.length_map, List.take_length, List.append_assoc]
          congr 2
          unfold seenO
          simp only [getD_of em]
        · have h2 := List.length_filter_le (keepO j m) (List.range v.length)
          rw [List.length_range] at h2
          rw [List.length_map] at lcs
          omega
    · rintro ρ' ⟨cs, s5, s6, s7, s8, s9, rfl, hs7, ecs, lcs⟩
      subst hy
      refine ⟨cs, _, _, _, _, _, _, _, _, rfl, hs7, ?_, ?_⟩
      · rw [ecs, fm_succ, resAt_get er]
        simp only [enumT, List.length_map, List.length_range]
        rfl
      · simp only [enumT, List.length_map, List.length_range] at lcs
        omega
  · rintro ρ' ⟨cs, s2, s3, s4, s5, s6, s7, s8, s9, rfl, hs7, ecs, lcs⟩
    subst hy
    refine DB.freezeL (i := 1) (p := p) ?_ rfl
    refine db_one (ds_retI (DE.lstMI (xs := cs) (f := encC) (de_slot (i := 1) g rfl)) ?_)
    rw [ecs]
    simp only [enumT, List.length_map, List.length_range]
    rfl
end
end K35
set_option Elab.async false
set_option linter.all false
set_option maxRecDepth 100000
set_option maxHeartbeats 1000000
/-! the conditions, the law's side -/
namespace K35
open PySem PySem.Spec L2
def upC (k : Nat) : Cd := ⟨.tuple [.str "up", .int k], k, k + 1, 1, 1⟩
def allL (rs : List Res) (top : Nat) : List Cd := seenL rs ++ (List.range top).map upC
def topL (cs : List Cd) : Int := (cs.map fun c => max c.s c.e).foldl max 0
theorem fmLen {α : Type} {f : Nat → List α} {c : Nat} : ∀ n, (∀ i < n, (f i).length ≤ c) → ((List.range n).flatMap f).length ≤ c * n
  | 0, _ => by simp
  | n + 1, h => by
    have h1 := fmLen n fun i hi => h i (by omega)
    have h2 := h n (by omega)
    rw [fm_succ, List.length_append, Nat.mul_succ]
    omega
theorem seenO_len (at' : Nat) (r : Res) (one : Nat) : (seenO at' r one).length ≤ r.1.length := by
  unfold seenO
  rw [List.length_map]
  have := List.length_filter_le (keepO one (r.2.getD one 0)) (List.range r.1.length)
  rwa [List.length_range] at this
theorem seenL_len {rs : List Res} (w : Wf rs) : (seenL rs).length ≤ 27 := by
  have h3 := w.len
  have : (seenL rs).length ≤ 9 * rs.length := by
    refine fmLen _ fun i hi => ?_
    have er : rs[i]? = some rs[i] := List.getElem?_eq_getElem hi
    rw [resAt_get er]
    have wr := w.all _ (List.mem_of_getElem? er)
    have h1 : (seenR i rs[i]).length ≤ 3 * rs[i].2.length := fmLen _ fun j hj => Nat.le_trans (seenO_len i _ j) wr.n3
    have := wr.n3
    have := wr.eq
    omega
  omega
theorem foldl_max_le : ∀ (l : List Int) (a : Int), a ≤ l.foldl max a ∧ ∀ y ∈ l, y ≤ l.foldl max a
  | [], a => ⟨Int.le_refl a, fun y h => nomatch h⟩
  | b :: l, a => by
    obtain ⟨h1, h2⟩ := foldl_max_le l (max a b)
    refine ⟨by rw [List.foldl_cons]; omega, fun y hy => ?_⟩
    rw [List.foldl_cons]
    rcases List.mem_cons.mp hy with z | z
    · subst z; omega
    · exact h2 y z
theorem foldl_max_in : ∀ (l : List Int) (a : Int), l.foldl max a ∈ a :: l
  | [], a => by simp
  | b :: l, a => by
    have := foldl_max_in l (max a b)
    rw [List.foldl_cons]
    rcases List.mem_cons.mp this with z | z
    · rw [z]
      rcases Int.le_total a b with q | q
      · rw [Int.max_eq_right q]; simp
      · rw [Int.max_eq_left q]; simp
    · simp [z]
theorem max_uni {l : List Int} {z : Int} (h1 : z ∈ (0 : Int) :: l) (h2 : ∀ y ∈ (0 : Int) :: l, y ≤ z) : z = l.foldl max 0 := by
  have a := foldl_max_in l 0
  obtain ⟨b, c⟩ := foldl_max_le l 0
  have := h2 _ a
  rcases List.mem_cons.mp h1 with q | q
  · omega
  · have := c z q; omega
theorem filter_succ {b : Nat → Bool} (k : Nat) : (List.range (k + 1)).filter b = (List.range k).filter b ++ (if b k = true then [k] else []) := by
  rw [List.range_succ, List.filter_append]
  congr 1
  rw [List.filter_cons]
  split <;> simp
section
variable {W : Wd}
theorem c_L_seen (T : Txt W) : Cal W "_law_seen" 1 ["_law_results_here"] (spP S_seen) := by
  refine cal_P T.d_L_seen sc_L_seen (by decide) (fun _ _ _ _ _ _ us hl => match us, hl with | [_], _ => rfl) (fun τs τ h => by obtain ⟨_, _, rfl, _⟩ := h; rfl) fun X g τs τ h => ?_
  obtain ⟨rs, w, rfl, rfl⟩ := h
  have w3 := w.len
  refine db_cons (ds_setF (i := 1) g (df_lst des_nil) fun p => ?_)
  refine db_cons (ds_for g (di_rangeM (m := rs.length) g T.b_range (de_len g T.b_len (de_slot (i := 0) g rfl)) (by simp) (by omega)) fun ys hy => ⟨fun i ρ' => ∃ (cs : List Cd) (s2 s3 s4 s5 s6 : Sl), ρ' = [.dat (Is (encRs rs)), .own p (OL (cs.map tyC)), s2, s3, s4, s5, s6] ∧ cs = (List.range i).flatMap (fun i => seenR i (resAt rs i)) ∧ cs.length ≤ 9 * i, ⟨[], .un, .un, .un, .un, .un, rfl, rfl, Nat.zero_le _⟩, ?_, ?_⟩)
  · rintro i y ρ' ey ⟨cs, s2, s3, s4, s5, s6, rfl, ecs, lcs⟩
    subst hy
    obtain ⟨i', ei, rfl⟩ := map_get ey
    have hi : i < rs.length := by have := (List.getElem?_eq_some_iff.mp ei).1; simpa using this
    rw [List.getElem?_range hi] at ei
    cases ei
    have er : rs[i]? = some rs[i] := List.getElem?_eq_getElem hi
    have eR := resAt_get er
    generalize rs[i] = r at er eR
    obtain ⟨v, s⟩ := r
    have wr := w.all _ (List.mem_of_getElem? er)
    have wv := wr.n3
    have we := wr.eq
    simp only at wv we
    refine (dg_name (i := 2) g (by first | exact .inl rfl | exact .inr ⟨rfl, rfl⟩) rfl (lt_of_get rfl) ?_)
    refine db_cons (ds_asg (de_ixI (d := encR (v, s)) (de_slot (i := 0) g rfl) (de_slot (i := 2) g rfl) (atI_of (by omega) (by rw [Int.toNat_natCast, List.getElem?_map, er]; rfl))) (DG.tupI (dg_tup g (dgs_cons (dg_name (i := 3) g (by first | exact .inl rfl | exact .inr ⟨rfl, rfl⟩) rfl (lt_of_get rfl) (dgs_cons (dg_name (i := 4) g (by first | exact .inl rfl | exact .inr ⟨rfl, rfl⟩) rfl (lt_of_get rfl) (dgs_nil ?_))))))))
    refine db_one (ds_for g (di_rangeM (m := v.length) g T.b_range (de_len g T.b_len (de_slot (i := 3) g rfl)) (by simp) (by omega)) fun ys hy => ⟨fun j ρ' => ∃ (cs : List Cd) (s5 s6 : Sl), ρ' = [.dat (Is (encRs rs)), .own p (OL (cs.map tyC)), .dat (natI i), .dat (Is (.tuple (v.map I'))), .dat (Is (.tuple (s.map I'))), s5, s6] ∧ cs = (List.range i).flatMap (fun i => seenR i (resAt rs i)) ++ (List.range j).flatMap (seenO i (v, s)) ∧ cs.length ≤ 9 * i + 3 * j, ⟨cs, _, _, rfl, by simp [ecs], by omega⟩, ?_, ?_⟩)
    · clear ecs lcs cs
      rintro j y ρ' ey2 ⟨cs, s5, s6, rfl, ecs, lcs⟩
      subst hy
      obtain ⟨j', ej, rfl⟩ := map_get ey2
      have hj : j < v.length := by have := (List.getElem?_eq_some_iff.mp ej).1; simpa using this
      rw [List.getElem?_range hj] at ej
      cases ej
      refine (dg_name (i := 5) g (by first | exact .inl rfl | exact .inr ⟨rfl, rfl⟩) rfl (lt_of_get rfl) ?_)
      refine db_one (ds_for g (di_rangeM (m := v.length) g T.b_range (de_len g T.b_len (de_slot (i := 3) g rfl)) (by simp) (by omega)) fun ys hy => ⟨fun k ρ' => ∃ (cs : List Cd) (s6 : Sl), ρ' = [.dat (Is (encRs rs)), .own p (OL (cs.map tyC)), .dat (natI i), .dat (Is (.tuple (v.map I'))), .dat (Is (.tuple (s.map I'))), .dat (natI j), s6] ∧ cs = (List.range i).flatMap (fun i => seenR i (resAt rs i)) ++ (List.range j).flatMap (seenO i (v, s)) ++ ((List.range k).filter (keepO j (s.getD j 0))).map (mkC i (v, s) j) ∧ cs.length ≤ 9 * i + 3 * j + k, ⟨cs, _, rfl, by simp [ecs], by omega⟩, ?_, ?_⟩)
      · clear ecs lcs cs
        rintro k y ρ' ey3 ⟨cs, s6, rfl, ecs, lcs⟩
        subst hy
        obtain ⟨k', ek, rfl⟩ := map_get ey3
        have hk : k < v.length := by have := (List.getElem?_eq_some_iff.mp ek).1; simpa using this
        rw [List.getElem?_range hk] at ek
        cases ek
        refine (dg_name (i := 6) g (by first | exact .inl rfl | exact .inr ⟨rfl, rfl⟩) rfl (lt_of_get rfl) ?_)
        refine db_one (ds_ifE (DW.dt (dw_andE (dt_cmp op_ne (de_slot (i := 5) g rfl) (de_slot (i := 6) g rfl) vr_neI) fun _ => dw_and1 (dt_cmp op_gt (de_ixI (d := I' _) (de_slot (i := 4) g rfl) (de_slot (i := 5) g rfl) (atI_I' (by omega))) de_int vr_gt))) (fun z => ?_) (fun z => db_nil ?_))
        · have hb : keepO j (s.getD j 0) k = true := by
            simp at z; simp [keepO]; omega
          refine db_one (ds_append (s := 1) g rfl (DE.tupI (ds := [_, _, _, _, _]) (de_tup (des_cons (DE.tupI (ds := [_, _, _, _]) (de_tup (des_cons de_str (des_cons (de_slot (i := 2) g rfl) (des_cons (de_slot (i := 5) g rfl) (des_cons (de_slot (i := 6) g rfl) des_nil)))))) (des_cons (de_sub (de_ixI (d := I' _) (de_slot (i := 4) g rfl) (de_slot (i := 5) g rfl) (atI_I' (by omega))) de_int) (des_cons (de_ixI (d := I' _) (de_slot (i := 4) g rfl) (de_slot (i := 6) g rfl) (atI_I' (by omega))) (des_cons (de_ixI (d := I' _) (de_slot (i := 3) g rfl) (de_slot (i := 5) g rfl) (atI_I' (by omega))) (des_cons (de_ixI (d := I' _) (de_slot (i := 3) g rfl) (de_slot (i := 6) g rfl) (atI_I' hk)) des_nil))))))) (by rw [List.length_map]; omega) ?_)
          refine ⟨cs ++ [mkC i (v, s) j k], .dat (natI k), ?_, ?_, ?_⟩
          · rw [List.map_append]; rfl
          · rw [ecs, filter_succ, if_pos hb, List.map_append, List.append_assoc, List.append_assoc]; simp [List.append_assoc]
          · simp; omega
        · have hb : keepO j (s.getD j 0) k = false := by
            cases q : keepO j (s.getD j 0) k with
            | false => rfl
            | true => simp [keepO] at q; simp at z; omega
          exact ⟨cs, _, rfl, by rw [ecs, filter_succ, hb]; simp, by omega⟩
      · rintro ρ' ⟨cs, s6, rfl, ecs, lcs⟩
        subst hy
        rw [List.length_map, List.length_range] at ecs lcs
        refine ⟨cs, _, _, rfl, ?_, by omega⟩
        rw [ecs, fm_succ, List.append_assoc]
        rfl
    · rintro ρ' ⟨cs, s5, s6, rfl, ecs, lcs⟩
      subst hy
      rw [List.length_map, List.length_range] at ecs lcs
      refine ⟨cs, _, _, _, _, _, rfl, ?_, by omega⟩
      rw [ecs, fm_succ, eR]
      unfold seenR
      rw [show (v, s).2.length = v.length from we]
  · rintro ρ' ⟨cs, s2, s3, s4, s5, s6, rfl, ecs, lcs⟩
    subst hy
    rw [List.length_map, List.length_range] at ecs
    refine DB.freezeL (i := 1) (p := p) ?_ rfl
    refine db_one (ds_retI (DE.lstMI (xs := cs) (f := encC) (de_slot (i := 1) g rfl)) ?_)
    rw [ecs]
    rfl
def S_all : List Ty → Ty → Prop := fun τs τ => ∃ rs, ∃ top : Nat, (Wf rs ∧ top ≤ 1000) ∧ τs = [Is (encRs rs), Is (.int top)] ∧ τ = Is (.list ((allL rs top).map encC))
theorem c_L_all (T : Txt W) : Cal W "_law_all" 2 ["_law_results_here", "_law_top_here"] (spP S_all) := by
  refine cal_P T.d_L_all sc_L_all (by decide) (fun _ _ _ _ _ _ us hl => match us, hl with | [_, _], _ => rfl) (fun τs τ h => by obtain ⟨_, _, _, rfl, _⟩ := h; rfl) fun X g τs τ h => ?_
  obtain ⟨rs, top, ⟨w, ht⟩, rfl, rfl⟩ := h
  have h27 := seenL_len w
  refine db_one (ds_retI (DE.lstMI (f := encC) (xs := allL rs top) ?_) rfl)
  unfold allL
  rw [List.map_append]
  refine de_catL (DE.lstM (xs := seenL rs) (f := encC) (de_call g (c_L_seen T) (des_cons (de_slot (i := 0) g rfl) des_nil) ⟨_, by assumption, rfl, rfl⟩)) ?_ (by simp; omega)
  rw [List.map_map]
  exact (df_map (v := 2) (List.range top) natI (fun k => Is (encC (upC k))) g (by decide +kernel) (di_rangeM g T.b_range (de_slot (i := 1) g rfl) rfl (by omega)) (by simp; omega) ⟨_, rfl, rfl⟩ fun k hk X' g' => (DE.tupI (ds := [_, _, _, _, _]) (de_tup (des_cons (DE.tupI (ds := [_, _]) (de_tup (des_cons de_str (des_cons (de_slot (i := 2) g' rfl) des_nil)))) (des_cons (de_slot (i := 2) g' rfl) (des_cons (de_add (de_slot (i := 2) g' rfl) de_int) (des_cons de_int (des_cons de_int des_nil)))))))).lst
end
end K35
set_option Elab.async false
set_option linter.all false
set_option maxRecDepth 100000
set_option maxHeartbeats 1000000
/-! tops, divisors that keep -/
namespace K35
open PySem PySem.Spec L2
structure OkC (c : Cd) : Prop where
  s0 : 0 ≤ c.s
  s5 : c.s ≤ 5
  e0 : 0 ≤ c.e
  e5 : c.e ≤ 5
  p1 : 1 ≤ c.p
  pk : c.p ≤ 1000
  q1 : 1 ≤ c.q
  qk : c.q ≤ 1000
theorem getD_mem {xs : List Int} {j : Nat} (h : j < xs.length) : xs.getD j 0 ∈ xs := by
  rw [List.getD_eq_getElem?_getD, List.getElem?_eq_getElem h]
  exact List.getElem_mem h
theorem seenL_mem {rs : List Res} {c : Cd} (h : c ∈ seenL rs) : ∃ i r one other, rs[i]? = some r ∧ one < r.2.length ∧ other < r.1.length ∧ one ≠ other ∧ 0 < r.2.getD one 0 ∧ c = mkC i r one other := by
  unfold seenL at h
  obtain ⟨i, hi, h⟩ := List.mem_flatMap.mp h
  have hi : i < rs.length := by simpa using hi
  have er : rs[i]? = some rs[i] := List.getElem?_eq_getElem hi
  rw [resAt_get er] at h
  unfold seenR at h
  obtain ⟨one, h1, h⟩ := List.mem_flatMap.mp h
  unfold seenO at h
  obtain ⟨other, h2, rfl⟩ := List.mem_map.mp h
  obtain ⟨h2, h3⟩ := List.mem_filter.mp h2
  simp [keepO] at h3
  exact ⟨i, rs[i], one, other, er, by simpa using h1, by simpa using h2, by omega, by simpa using h3.2, rfl⟩
theorem seenL_ok {rs : List Res} (w : Wf rs) {c : Cd} (h : c ∈ seenL rs) : OkC c := by
  obtain ⟨i, r, one, other, er, h1, h2, h3, h4, rfl⟩ := seenL_mem h
  have wr := w.all _ (List.mem_of_getElem? er)
  have he := wr.eq
  have a1 := wr.s _ (getD_mem h1)
  have a2 := wr.s _ (getD_mem (show other < r.2.length by omega))
  have a3 := wr.v _ (getD_mem (show one < r.1.length by omega))
  have a4 := wr.v _ (getD_mem h2)
  simp only [List.getD_eq_getElem?_getD] at *
  constructor <;> simp only [mkC, List.getD_eq_getElem?_getD] <;> omega
theorem seenL_nm {rs : List Res} {c : Cd} (h : c ∈ seenL rs) : ∃ ds, c.nm = .tuple ds := by
  obtain ⟨i, r, one, other, er, h1, h2, h3, h4, rfl⟩ := seenL_mem h
  exact ⟨_, rfl⟩
def keepsC (ns : List Int) (c : Cd) : Bool := !decide (c.p * divAt ns c.e < c.q * divAt ns c.s)
def keepsL (ns : List Int) (cs : List Cd) : Bool := cs.all (keepsC ns)
def keepsD (rs : List Res) (d : PyData) : Bool := match d with | .tuple ds => keepsL (ds.map toI) (seenL rs) | _ => false
def fitB (rs : List Res) (d : PyData) : Bool := okDivs d && keepsD rs d
theorem okDivs_inv {d : PyData} (h : okDivs d = true) : ∃ ns : List Int, d = .tuple (ns.map I') ∧ 1 ≤ ns.length ∧ ns.length ≤ 20 ∧ (∀ n ∈ ns, 1 ≤ n) ∧ upOk ns = true := by
  cases d
  case tuple ds =>
    simp only [okDivs, Bool.and_eq_true, decide_eq_true_eq] at h
    obtain ⟨ns, rfl, hn⟩ := okAll_ints h.1.2
    refine ⟨ns, rfl, by simpa using h.1.1.1, by simpa using h.1.1.2, hn, ?_⟩
    have := h.2
    rwa [map_toI] at this
  all_goals simp [okDivs] at h
section
variable {W : Wd}
def S_top : List Ty → Ty → Prop := fun τs τ => ∃ cs : List Cd, cs.length ≤ 100 ∧ τs = [Is (.list (cs.map encC))] ∧ τ = Is (.int (topL cs))
theorem c_top_of (T : Txt W) : Cal W "top_of" 1 ["seen"] (spP S_top) := by
  refine cal_P T.d_top_of sc_top_of (by decide) (fun _ _ _ _ _ _ us hl => match us, hl with | [_], _ => rfl) (fun τs τ h => by obtain ⟨_, _, rfl, _⟩ := h; rfl) fun X g τs τ h => ?_
  obtain ⟨cs, hc, rfl, rfl⟩ := h
  refine db_one (ds_retT (DE.ofInt (de_maxL (ns := 0 :: cs.map fun c => max c.s c.e) g T.b_max ?_ (by simp)) fun z hz => max_uni hz.1 hz.2))
  rw [show (0 :: cs.map fun c => max c.s c.e).map isI = [isI 0] ++ cs.map (fun c => isI (max c.s c.e)) by rw [List.map_cons, List.map_map]; rfl]
  refine de_catL (df_lst (des_cons de_int des_nil)).lst (df_mapG (own := [("step", 1), ("start", 2), ("end", 3), ("p", 4), ("q", 5)]) cs (fun c => Is (encC c)) (fun c => isI (max c.s c.e)) (fun c => [.dat (Is (.list (cs.map encC))), .dat (Is c.nm), .dat (isI c.s), .dat (isI c.e), .dat (isI c.p), .dat (isI c.q)]) g (by decide +kernel) (di_lstM (DE.lstM (de_slot (i := 0) g rfl))) (by omega) ?_ ?_ ?_ ?_).lst (by simp; omega)
  · intro i hi
    simp at hi
    rcases hi with rfl | rfl | rfl | rfl | rfl <;> exact ⟨_, rfl, rfl⟩
  · intro c hc j hj
    match j, hj with
    | 0, _ => rfl
    | 1, h => simp at h
    | 2, h => simp at h
    | 3, h => simp at h
    | 4, h => simp at h
    | 5, h => simp at h
    | j + 6, _ => rfl
  · intro c hc X' g'
    refine (CG.tupI (cg_tup g' (cgs_cons (cg_name (i := 1) g' (by simp) (cgs_cons (cg_name (i := 2) g' (by simp) (cgs_cons (cg_name (i := 3) g' (by simp) (cgs_cons (cg_name (i := 4) g' (by simp) (cgs_cons (cg_name (i := 5) g' (by simp) (cgs_nil ?_)))))))))))))
    rfl
  · intro c hc X' g'
    exact (de_max2 g' T.b_max (de_slot (i := 2) g' rfl) (de_slot (i := 3) g' rfl))
def S_fw : List Ty → Ty → Prop := fun τs τ => ∃ rs ns, (Wf rs ∧ ns ≠ []) ∧ τs = [Is (encRs rs), Is (.tuple (ns.map I'))] ∧ τ = Ex fun d => isN d = keepsL ns (seenL rs)
theorem c_first_wrong (T : Txt W) : Cal W "first_wrong" 2 ["results", "divisors"] (spP S_fw) := by
  refine cal_P T.d_first_wrong sc_first_wrong (by decide) (fun _ _ _ _ _ _ us hl => match us, hl with | [_, _], _ => rfl) (fun τs τ h => by obtain ⟨_, _, _, rfl, _⟩ := h; rfl) fun X g τs τ h => ?_
  obtain ⟨rs, ns, ⟨w, hne⟩, rfl, rfl⟩ := h
  refine db_cons (ds_for g (di_lstM (DE.lstM (f := encC) (xs := seenL rs) (de_call g (c_seen_in T) (des_cons (de_slot (i := 0) g rfl) des_nil) ⟨_, by assumption, rfl, rfl⟩))) fun ys hy => ⟨fun i ρ' => ∃ (s2 s3 s4 s5 s6 : Sl), ρ' = [.dat (Is (encRs rs)), .dat (Is (.tuple (ns.map I'))), s2, s3, s4, s5, s6] ∧ ((seenL rs).take i).all (keepsC ns) = true, ⟨_, _, _, _, _, rfl, rfl⟩, ?_, ?_⟩)
  · rintro i y ρ' ey ⟨s2, s3, s4, s5, s6, rfl, hk⟩
    subst hy
    obtain ⟨c, ec, rfl⟩ := map_get ey
    have oc := seenL_ok w (List.mem_of_getElem? ec)
    have o1 := oc.s0
    have o2 := oc.e0
    have o3 := oc.p1
    have o4 := oc.pk
    have o5 := oc.q1
    have o6 := oc.qk
    obtain ⟨ds, en⟩ := seenL_nm (List.mem_of_getElem? ec)
    refine (DG.tupI (dg_tup g (dgs_cons (dg_name (i := 2) g (by first | exact .inl rfl | exact .inr ⟨rfl, rfl⟩) rfl (lt_of_get rfl) (dgs_cons (dg_name (i := 3) g (by first | exact .inl rfl | exact .inr ⟨rfl, rfl⟩) rfl (lt_of_get rfl) (dgs_cons (dg_name (i := 4) g (by first | exact .inl rfl | exact .inr ⟨rfl, rfl⟩) rfl (lt_of_get rfl) (dgs_cons (dg_name (i := 5) g (by first | exact .inl rfl | exact .inr ⟨rfl, rfl⟩) rfl (lt_of_get rfl) (dgs_cons (dg_name (i := 6) g (by first | exact .inl rfl | exact .inr ⟨rfl, rfl⟩) rfl (lt_of_get rfl) (dgs_nil ?_)))))))))))))
    refine db_one (ds_ifE (dt_cmp op_gt (de_mul (de_slot (i := 6) g rfl) (de_call g (c_divisor_in T) (des_cons (de_slot (i := 1) g rfl) (des_cons (de_slot (i := 3) g rfl) des_nil)) ⟨_, _, ⟨hne, by omega⟩, rfl, rfl⟩) (by first | assumption | (refine .inl ⟨?_, ?_⟩ <;> omega) | (refine .inr ⟨?_, ?_⟩ <;> omega))) (de_mul (de_slot (i := 5) g rfl) (de_call g (c_divisor_in T) (des_cons (de_slot (i := 1) g rfl) (des_cons (de_slot (i := 4) g rfl) des_nil)) ⟨_, _, ⟨hne, by omega⟩, rfl, rfl⟩) (by first | assumption | (refine .inl ⟨?_, ?_⟩ <;> omega) | (refine .inr ⟨?_, ?_⟩ <;> omega))) vr_gt) (fun z => db_one (ds_ret (de_sliceI (l := some 1) (h := none) (ds := ds) (by rw [← en]; exact de_slot (i := 2) g rfl) de_int True.intro) fun v F p => ⟨_, ?_, p⟩)) (fun z => db_nil ?_))
    · show false = _
      refine (Bool.eq_false_iff.mpr fun q => ?_).symm
      have := List.all_eq_true.mp q c (List.mem_of_getElem? ec)
      simp [keepsC] at this
      simp at z
      omega
    · refine ⟨_, _, _, _, _, rfl, ?_⟩
      rw [take_succ' ec, List.all_append, hk]
      simp [keepsC]
      simpa using z
  · rintro ρ' ⟨s2, s3, s4, s5, s6, rfl, hk⟩
    subst hy
    refine db_one (ds_ret de_non fun v F p => ⟨_, ?_, p⟩)
    rw [List.length_map, List.take_length] at hk
    exact hk.symm
def S_Lkeeps : List Ty → Ty → Prop := fun τs τ => ∃ rs ns, (Wf rs ∧ ns ≠ []) ∧ τs = [Is (encRs rs), Is (.tuple (ns.map I'))] ∧ τ = BI (keepsL ns (seenL rs))
theorem c_L_keeps (T : Txt W) : Cal W "_law_keeps" 2 ["_law_results_here", "_law_divisors_here"] (spP S_Lkeeps) := by
  refine cal_P T.d_L_keeps sc_L_keeps (by decide) (fun _ _ _ _ _ _ us hl => match us, hl with | [_, _], _ => rfl) (fun τs τ h => by obtain ⟨_, _, _, rfl, _⟩ := h; rfl) fun X g τs τ h => ?_
  obtain ⟨rs, ns, ⟨w, hne⟩, rfl, rfl⟩ := h
  refine db_cons (ds_for g (di_lstM (DE.lstM (f := encC) (xs := seenL rs) (de_call g (c_L_seen T) (des_cons (de_slot (i := 0) g rfl) des_nil) ⟨_, by assumption, rfl, rfl⟩))) fun ys hy => ⟨fun i ρ' => ∃ (s2 s3 s4 s5 s6 : Sl), ρ' = [.dat (Is (encRs rs)), .dat (Is (.tuple (ns.map I'))), s2, s3, s4, s5, s6] ∧ ((seenL rs).take i).all (keepsC ns) = true, ⟨_, _, _, _, _, rfl, rfl⟩, ?_, ?_⟩)
  · rintro i y ρ' ey ⟨s2, s3, s4, s5, s6, rfl, hk⟩
    subst hy
    obtain ⟨c, ec, rfl⟩ := map_get ey
    have oc := seenL_ok w (List.mem_of_getElem? ec)
    have o1 := oc.s0
    have o2 := oc.e0
    have o3 := oc.p1
    have o4 := oc.pk
    have o5 := oc.q1
    have o6 := oc.qk
    refine (DG.tupI (dg_tup g (dgs_cons (dg_name (i := 2) g (by first | exact .inl rfl | exact .inr ⟨rfl, rfl⟩) rfl (lt_of_get rfl) (dgs_cons (dg_name (i := 3) g (by first | exact .inl rfl | exact .inr ⟨rfl, rfl⟩) rfl (lt_of_get rfl) (dgs_cons (dg_name (i := 4) g (by first | exact .inl rfl | exact .inr ⟨rfl, rfl⟩) rfl (lt_of_get rfl) (dgs_cons (dg_name (i := 5) g (by first | exact .inl rfl | exact .inr ⟨rfl, rfl⟩) rfl (lt_of_get rfl) (dgs_cons (dg_name (i := 6) g (by first | exact .inl rfl | exact .inr ⟨rfl, rfl⟩) rfl (lt_of_get rfl) (dgs_nil ?_)))))))))))))
    refine db_one (ds_ifE (dt_cmp op_gt (de_mul (de_slot (i := 6) g rfl) (de_call g (c_L_divisor T) (des_cons (de_slot (i := 1) g rfl) (des_cons (de_slot (i := 3) g rfl) des_nil)) ⟨_, _, ⟨hne, by omega⟩, rfl, rfl⟩) (by first | assumption | (refine .inl ⟨?_, ?_⟩ <;> omega) | (refine .inr ⟨?_, ?_⟩ <;> omega))) (de_mul (de_slot (i := 5) g rfl) (de_call g (c_L_divisor T) (des_cons (de_slot (i := 1) g rfl) (des_cons (de_slot (i := 4) g rfl) des_nil)) ⟨_, _, ⟨hne, by omega⟩, rfl, rfl⟩) (by first | assumption | (refine .inl ⟨?_, ?_⟩ <;> omega) | (refine .inr ⟨?_, ?_⟩ <;> omega))) vr_gt) (fun z => db_one (ds_retB de_bl.bi ?_)) (fun z => db_nil ?_))
    · refine (Bool.eq_false_iff.mpr fun q => ?_).symm
      have := List.all_eq_true.mp q c (List.mem_of_getElem? ec)
      simp [keepsC] at this
      simp at z
      omega
    · refine ⟨_, _, _, _, _, rfl, ?_⟩
      rw [take_succ' ec, List.all_append, hk]
      simp [keepsC]
      simpa using z
  · rintro ρ' ⟨s2, s3, s4, s5, s6, rfl, hk⟩
    subst hy
    refine db_one (ds_retB de_bl.bi ?_)
    rw [List.length_map, List.take_length] at hk
    exact hk.symm
def S_fit : List Ty → Ty → Prop := fun τs τ => ∃ rs d, Wf rs ∧ τs = [Is (encRs rs), Is d] ∧ τ = BI (fitB rs d)
theorem c_fitting (T : Txt W) : Cal W "fitting" 3 ["results", "value"] (spP S_fit) := by
  refine cal_P T.d_fitting sc_fitting (by decide) (fun _ _ _ _ _ _ us hl => match us, hl with | [_, _], _ => rfl) (fun τs τ h => by obtain ⟨_, _, _, rfl, _⟩ := h; rfl) fun X g τs τ h => ?_
  obtain ⟨rs, d, w, rfl, rfl⟩ := h
  refine db_one (ds_retB (de_andE (de_call g (c_are_divisors T) (des_cons (de_slot (i := 1) g rfl) des_nil) ⟨_, rfl, rfl⟩) fun hd => ?_) rfl)
  obtain ⟨ns, rfl, h1, h2, hn, hu⟩ := okDivs_inv hd
  refine de_one (de_isNx ((de_call g (c_first_wrong T) (des_cons (de_slot (i := 0) g rfl) (des_cons (de_slot (i := 1) g rfl) des_nil)) ⟨rs, ns, ⟨w, fun e => by simp [e] at h1⟩, rfl, rfl⟩).imp fun d e => ?_))
  rw [e]
  simp only [keepsD, map_toI]
end
end K35
set_option Elab.async false
set_option linter.all false
set_option maxRecDepth 100000
set_option maxHeartbeats 1000000
/-! walks in dicts -/
namespace K35
open PySem PySem.Spec L2
abbrev Key2 (s e : Int) : List Key := [.inl s, .inl e]
/-- a walk of k conditions from s to e -/
inductive Wk (cs : List Cd) : Nat → Int → Int → Int → Int → Prop
  | one {c : Cd} : c ∈ cs → Wk cs 1 c.s c.e c.p c.q
  | more {k : Nat} {s p q : Int} {c : Cd} : Wk cs k s c.s p q → c ∈ cs → Wk cs (k + 1) s c.e (p * c.p) (q * c.q)
structure NC (c : Cd) : Prop where
  s0 : 0 ≤ c.s
  s9 : c.s ≤ 9
  e0 : 0 ≤ c.e
  e9 : c.e ≤ 9
  p1 : 1 ≤ c.p
  pk : c.p ≤ 1000
  q1 : 1 ≤ c.q
  qk : c.q ≤ 1000
def NB (cs : List Cd) : Prop := ∀ c ∈ cs, NC c
theorem mul1 {a b : Int} (h : 1 ≤ a) (h' : 1 ≤ b) : 1 ≤ a * b := by
  have := Int.mul_le_mul h h' (by omega) (by omega)
  simpa using this
theorem Wk.ok {cs : List Cd} (nb : NB cs) {k : Nat} {s e p q : Int} (h : Wk cs k s e p q) : (0 ≤ s ∧ s ≤ 9) ∧ (0 ≤ e ∧ e ≤ 9) ∧ 1 ≤ p ∧ 1 ≤ q ∧ p ≤ 1000 ^ k ∧ q ≤ 1000 ^ k := by
  induction h with
  | one hc =>
    have n := nb _ hc
    exact ⟨⟨n.s0, n.s9⟩, ⟨n.e0, n.e9⟩, n.p1, n.q1, by have := n.pk; omega, by have := n.qk; omega⟩
  | @more k s p q c h hc ih =>
    have n := nb _ hc
    obtain ⟨a, b, c1, d, e1, f⟩ := ih
    refine ⟨a, ⟨n.e0, n.e9⟩, mul1 c1 n.p1, mul1 d n.q1, ?_, ?_⟩
    · rw [Int.pow_succ]; exact Int.mul_le_mul e1 n.pk (by have := n.p1; omega) (by omega)
    · rw [Int.pow_succ]; exact Int.mul_le_mul f n.qk (by have := n.q1; omega) (by omega)
theorem Wk.pos {cs : List Cd} {k : Nat} {s e p q : Int} (h : Wk cs k s e p q) : 1 ≤ k := by cases h <;> omega
def stTy (c : Cd) : Ty := Is (.tuple [.int c.p, .int c.q, c.nm])
def wkTy (p q : Int) (ws : List PyData) : Ty := Is (.tuple [.int p, .int q, .tuple ws])
def StepOK (cs : List Cd) (m : List (List Key × Ty)) : Prop := (m.map (·.1)).Nodup ∧ ∀ x ∈ m, ∃ c ∈ cs, x = (Key2 c.s c.e, stTy c)
def NmOK (cs : List Cd) (k : Nat) (ws : List PyData) : Prop := ws.length = k ∧ ∀ w ∈ ws, ∃ c ∈ cs, w = c.nm
theorem NmOK.snoc {cs : List Cd} {k : Nat} {ws : List PyData} (h : NmOK cs k ws) {c : Cd} (hc : c ∈ cs) : NmOK cs (k + 1) (ws ++ [c.nm]) := ⟨by simp [h.1], fun w hw => (List.mem_append.mp hw).elim (h.2 w) fun z => ⟨c, hc, List.mem_singleton.mp z⟩⟩
theorem NmOK.one {cs : List Cd} {c : Cd} (hc : c ∈ cs) : NmOK cs 1 [c.nm] := ⟨rfl, fun w hw => ⟨c, hc, List.mem_singleton.mp hw⟩⟩
def RowOK (cs : List Cd) (k : Nat) (m : List (List Key × Ty)) : Prop := (m.map (·.1)).Nodup ∧ ∀ x ∈ m, ∃ s e p q ws, Wk cs k s e p q ∧ NmOK cs k ws ∧ x = (Key2 s e, wkTy p q ws)
section
variable {κ : Type} [DecidableEq κ]
theorem valM_mem {m : List (κ × Ty)} {k : κ} {τ : Ty} (h : valM m k = some τ) : (k, τ) ∈ m := by
  unfold valM at h
  cases e : m.find? (fun kv => decide (kv.1 = k)) with
  | none => rw [e] at h; cases h
  | some x =>
    rw [e] at h
    cases h
    have h1 := List.find?_some e
    have h2 := List.mem_of_find?_eq_some e
    have : x.1 = k := of_decide_eq_true h1
    rw [← this]; exact h2
theorem valM_key {m : List (κ × Ty)} {k : κ} (h : valM m k = none) : k ∉ m.map (·.1) := fun hk => by
  obtain ⟨x, hx, e⟩ := List.mem_map.mp hk
  unfold valM at h
  rw [Option.map_eq_none_iff, List.find?_eq_none] at h
  exact h x hx (decide_eq_true e)
theorem valM_some {m : List (κ × Ty)} {k : κ} (h : k ∈ m.map (·.1)) : ∃ τ, valM m k = some τ := by
  cases e : valM m k with
  | some τ => exact ⟨τ, rfl⟩
  | none => exact absurd h (valM_key e)
theorem putM_keys (m : List (κ × Ty)) (k : κ) (τ : Ty) : (putM m k τ).map (·.1) = if k ∈ m.map (·.1) then m.map (·.1) else m.map (·.1) ++ [k] := by
  unfold putM
  by_cases h : (valM m k).isSome = true
  · obtain ⟨τ', e⟩ := Option.isSome_iff_exists.mp h
    have hk : k ∈ m.map (·.1) := List.mem_map.mpr ⟨_, valM_mem e, rfl⟩
    rw [if_pos h, if_pos hk, List.map_map]
    apply List.map_congr_left
    intro x hx
    simp only [Function.comp]
    split <;> rfl
  · have hn : valM m k = none := by simpa using h
    rw [if_neg h, if_neg (valM_key hn), List.map_append]; rfl
theorem putM_mem {m : List (κ × Ty)} {k : κ} {τ : Ty} {x : κ × Ty} (h : x ∈ putM m k τ) : x = (k, τ) ∨ x ∈ m := by
  unfold putM at h
  split at h
  · obtain ⟨y, hy, e⟩ := List.mem_map.mp h
    by_cases q : y.1 = k
    · rw [if_pos q] at e; rw [← e, q]; exact .inl rfl
    · rw [if_neg q] at e; rw [← e]; exact .inr hy
  · rcases List.mem_append.mp h with q | q
    · exact .inr q
    · exact .inl (List.mem_singleton.mp q)
theorem putM_nodup {m : List (κ × Ty)} (h : (m.map (·.1)).Nodup) (k : κ) (τ : Ty) : ((putM m k τ).map (·.1)).Nodup := by
  rw [putM_keys]
  split
  · exact h
  · rename_i q
    rw [List.nodup_append]
    refine ⟨h, by simp, fun a ha b hb e => ?_⟩
    rw [List.mem_singleton.mp hb] at e
    exact q (e ▸ ha)
end
theorem nodup_len {α : Type} [DecidableEq α] : ∀ (l L : List α), l.Nodup → (∀ x ∈ l, x ∈ L) → l.length ≤ L.length
  | [], _, _, _ => Nat.zero_le _
  | a :: r, L, hn, h => by
    obtain ⟨h1, h2⟩ := List.nodup_cons.mp hn
    have ha := h a (by simp)
    have := nodup_len r (L.erase a) h2 fun x hx => (List.mem_erase_of_ne (fun e => h1 (by rw [← e]; exact hx))).mpr (h x (by simp [hx]))
    rw [List.length_erase_of_mem ha] at this
    have hp : 0 < L.length := List.length_pos_of_mem ha
    simp only [List.length_cons]
    omega
def allKeys : List (List Key) := (List.range 10).flatMap fun (s : Nat) => (List.range 10).map fun (e : Nat) => Key2 s e
theorem allKeys_mem {s e : Int} (h1 : 0 ≤ s ∧ s ≤ 9) (h2 : 0 ≤ e ∧ e ≤ 9) : Key2 s e ∈ allKeys := by
  unfold allKeys
  refine List.mem_flatMap.mpr ⟨s.toNat, by simp; omega, List.mem_map.mpr ⟨e.toNat, by simp; omega, ?_⟩⟩
  rw [Int.toNat_of_nonneg h1.1, Int.toNat_of_nonneg h2.1]
theorem keys_len {m : List (List Key × Ty)} (hn : (m.map (·.1)).Nodup) (h : ∀ x ∈ m, ∃ s e : Int, (0 ≤ s ∧ s ≤ 9) ∧ (0 ≤ e ∧ e ≤ 9) ∧ x.1 = Key2 s e) : m.length ≤ 100 := by
  have := nodup_len (m.map (·.1)) allKeys hn fun k hk => by
    obtain ⟨x, hx, rfl⟩ := List.mem_map.mp hk
    obtain ⟨s, e, h1, h2, e3⟩ := h x hx
    rw [e3]; exact allKeys_mem h1 h2
  rw [List.length_map] at this
  exact Nat.le_trans this (by decide)
theorem StepOK.len {cs : List Cd} (nb : NB cs) {m : List (List Key × Ty)} (h : StepOK cs m) : m.length ≤ 100 := keys_len h.1 fun x hx => by
  obtain ⟨c, hc, rfl⟩ := h.2 x hx
  have n := nb c hc
  exact ⟨c.s, c.e, ⟨n.s0, n.s9⟩, ⟨n.e0, n.e9⟩, rfl⟩
theorem RowOK.len {cs : List Cd} (nb : NB cs) {k : Nat} {m : List (List Key × Ty)} (h : RowOK cs k m) : m.length ≤ 100 := keys_len h.1 fun x hx => by
  obtain ⟨s, e, p, q, ws, hw, _, rfl⟩ := h.2 x hx
  obtain ⟨a, b, _⟩ := hw.ok nb
  exact ⟨s, e, a, b, rfl⟩
theorem StepOK.put {cs : List Cd} {m : List (List Key × Ty)} (h : StepOK cs m) {c : Cd} (hc : c ∈ cs) : StepOK cs (putM m (Key2 c.s c.e) (stTy c)) := ⟨putM_nodup h.1 _ _, fun x hx => (putM_mem hx).elim (fun e => ⟨c, hc, e⟩) (h.2 x)⟩
theorem RowOK.put {cs : List Cd} {k : Nat} {m : List (List Key × Ty)} (h : RowOK cs k m) {s e p q : Int} {ws : List PyData} (hw : Wk cs k s e p q) (hl : NmOK cs k ws) : RowOK cs k (putM m (Key2 s e) (wkTy p q ws)) := ⟨putM_nodup h.1 _ _, fun x hx => (putM_mem hx).elim (fun e => ⟨_, _, _, _, _, hw, hl, e⟩) (h.2 x)⟩
theorem key2_inj {s e s' e' : Int} (h : Key2 s e = Key2 s' e') : s = s' ∧ e = e' := by
  simp [Key2] at h; exact h
theorem StepOK.val {cs : List Cd} {m : List (List Key × Ty)} (h : StepOK cs m) {s e : Int} {τ : Ty} (hv : valM m (Key2 s e) = some τ) : ∃ c ∈ cs, c.s = s ∧ c.e = e ∧ τ = stTy c := by
  obtain ⟨c, hc, e1⟩ := h.2 _ (valM_mem hv)
  rw [Prod.mk.injEq] at e1
  obtain ⟨h1, h2⟩ := key2_inj e1.1
  exact ⟨c, hc, h1.symm, h2.symm, e1.2⟩
theorem RowOK.val {cs : List Cd} {k : Nat} {m : List (List Key × Ty)} (h : RowOK cs k m) {s e : Int} {τ : Ty} (hv : valM m (Key2 s e) = some τ) : ∃ p q ws, Wk cs k s e p q ∧ NmOK cs k ws ∧ τ = wkTy p q ws := by
  obtain ⟨s', e', p, q, ws, hw, hl, e1⟩ := h.2 _ (valM_mem hv)
  rw [Prod.mk.injEq] at e1
  obtain ⟨h1, h2⟩ := key2_inj e1.1
  subst h1 h2
  exact ⟨p, q, ws, hw, hl, e1.2⟩
section
variable {W : Wd}
def S_ls : List Ty → Ty → Prop := fun τs τ => ∃ cs, ∃ top : Nat, (NB (cs ++ (List.range top).map upC) ∧ cs.length ≤ 100 ∧ top ≤ 9) ∧ τs = [Is (.list (cs.map encC)), Is (.int top)] ∧ τ = FDx kdT (StepOK (cs ++ (List.range top).map upC))
theorem c_least_steps (T : Txt W) : Cal W "least_steps" 1 ["seen", "top"] (spP S_ls) := by
  refine cal_P T.d_least_steps sc_least_steps (by decide) (fun _ _ _ _ _ _ us hl => match us, hl with | [_, _], _ => rfl) (fun τs τ h => by obtain ⟨_, _, _, rfl, _⟩ := h; rfl) fun X g τs τ h => ?_
  obtain ⟨cs, top, ⟨nb, hcl, ht⟩, rfl, rfl⟩ := h
  refine db_cons (ds_setF (i := 2) g df_dnewT fun pf => ?_)
  refine db_cons (ds_setMap (v := 9) (i := 3) (List.range top) natI (fun k => Is (encC (upC k))) g (by decide +kernel) (di_rangeM g T.b_range (de_slot (i := 1) g rfl) rfl (by omega)) (by simp; omega) ⟨_, rfl, rfl⟩ (fun k hk X' g' => (DE.tupI (ds := [_, _, _, _, _]) (de_tup (des_cons (DE.tupI (ds := [_, _]) (de_tup (des_cons de_str (des_cons (de_slot (i := 9) g' rfl) des_nil)))) (des_cons (de_slot (i := 9) g' rfl) (des_cons (de_add (de_slot (i := 9) g' rfl) de_int) (des_cons de_int (des_cons de_int des_nil)))))))) fun pu => ?_)
  refine DB.freezeL (i := 3) (p := pu) ?_ rfl
  have ecat : ((cs ++ (List.range top).map upC).map fun c => Is (encC c)) = cs.map (fun c => Is (encC c)) ++ (List.range top).map (fun k => Is (encC (upC k))) := by rw [List.map_append, List.map_map]; rfl
  refine db_cons (ds_for g (di_lstM (xs := cs ++ (List.range top).map upC) (s := fun c => Is (encC c)) (by rw [ecat]; exact de_catL (DE.lstM (de_slot (i := 0) g rfl)) (de_slot (i := 3) g rfl) (by simp; omega))) fun ys hy => ⟨fun i ρ' => ∃ (m : List (List Key × Ty)) (s3 s4 s5 s6 s7 s8 s9 : Sl), ρ' = [.dat (Is (.list (cs.map encC))), .dat (Is (.int top)), .own pf (OD kdT m), s3, s4, s5, s6, s7, s8, s9] ∧ StepOK (cs ++ (List.range top).map upC) m, ⟨[], _, _, _, _, _, _, _, rfl, by simp, fun x hx => nomatch hx⟩, ?_, ?_⟩)
  · rintro i y ρ' ey ⟨m, s3, s4, s5, s6, s7, s8, s9, rfl, hm⟩
    subst hy
    obtain ⟨c, ec, rfl⟩ := map_get ey
    have hc := List.mem_of_getElem? ec
    have n := nb c hc
    have n1 := n.p1
    have n2 := n.pk
    have n3 := n.q1
    have n4 := n.qk
    have hl := hm.len nb
    refine (DG.tupI (dg_tup g (dgs_cons (dg_name (i := 4) g (by first | exact .inl rfl | exact .inr ⟨rfl, rfl⟩) rfl (lt_of_get rfl) (dgs_cons (dg_name (i := 5) g (by first | exact .inl rfl | exact .inr ⟨rfl, rfl⟩) rfl (lt_of_get rfl) (dgs_cons (dg_name (i := 6) g (by first | exact .inl rfl | exact .inr ⟨rfl, rfl⟩) rfl (lt_of_get rfl) (dgs_cons (dg_name (i := 7) g (by first | exact .inl rfl | exact .inr ⟨rfl, rfl⟩) rfl (lt_of_get rfl) (dgs_cons (dg_name (i := 8) g (by first | exact .inl rfl | exact .inr ⟨rfl, rfl⟩) rfl (lt_of_get rfl) (dgs_nil ?_)))))))))))))
    cases hv : valM m (Key2 c.s c.e) with
    | none =>
      refine db_one (ds_ifE (b1 := true) (DW.dt (dw_orT (dt_dnotinO (s := 2) g (D := kdT) (de_keyT (ks := [.inl _, .inl _]) (des_cons (de_slot (i := 5) g rfl) (des_cons (de_slot (i := 6) g rfl) des_nil))) (de_own (i := 2) g rfl) rfl) (by show (!(valM m (Key2 c.s c.e)).isSome) = true; rw [hv]; rfl))) (fun z => db_one (ds_dput (s := 2) (D := kdT) (k := Key2 c.s c.e) g rfl (de_keyT (ks := [.inl _, .inl _]) (des_cons (de_slot (i := 5) g rfl) (des_cons (de_slot (i := 6) g rfl) des_nil))) (DE.tupI (ds := [_, _, _]) (de_tup (des_cons (de_slot (i := 7) g rfl) (des_cons (de_slot (i := 8) g rfl) (des_cons (de_slot (i := 4) g rfl) des_nil))))) (by show m.length ≤ _; omega) ?_)) (fun z => nomatch z))
      exact ⟨_, _, _, _, _, _, _, _, rfl, hm.put hc⟩
    | some τ =>
      obtain ⟨c', hc', e1, e2, rfl⟩ := hm.val hv
      unfold stTy at hv
      have n' := nb c' hc'
      have n5 := n'.p1
      have n6 := n'.pk
      have n7 := n'.q1
      have n8 := n'.qk
      refine db_one (ds_ifE (DW.dt (dw_orE (dt_dnotinO (s := 2) g (D := kdT) (de_keyT (ks := [.inl _, .inl _]) (des_cons (de_slot (i := 5) g rfl) (des_cons (de_slot (i := 6) g rfl) des_nil))) (de_own (i := 2) g rfl) rfl) (fun _ => (dw_or1 (dt_cmp op_lt (de_mul (de_slot (i := 7) g rfl) (de_ixI (de_dgetO (s := 2) g (D := kdT) (de_own (i := 2) g rfl) rfl (de_keyT (ks := [.inl _, .inl _]) (des_cons (de_slot (i := 5) g rfl) (des_cons (de_slot (i := 6) g rfl) des_nil))) (by assumption)) de_int (by first | assumption | rfl | exact atI_of (by decide) rfl)) (by first | assumption | (refine .inl ⟨?_, ?_⟩ <;> omega) | (refine .inr ⟨?_, ?_⟩ <;> omega))) (de_mul (de_ixI (de_dgetO (s := 2) g (D := kdT) (de_own (i := 2) g rfl) rfl (de_keyT (ks := [.inl _, .inl _]) (des_cons (de_slot (i := 5) g rfl) (des_cons (de_slot (i := 6) g rfl) des_nil))) (by assumption)) de_int (by first | assumption | rfl | exact atI_of (by decide) rfl)) (de_slot (i := 8) g rfl) (by first | assumption | (refine .inl ⟨?_, ?_⟩ <;> omega) | (refine .inr ⟨?_, ?_⟩ <;> omega))) vr_lt))))) (fun z => db_one (ds_dput (s := 2) (D := kdT) (k := Key2 c.s c.e) g rfl (de_keyT (ks := [.inl _, .inl _]) (des_cons (de_slot (i := 5) g rfl) (des_cons (de_slot (i := 6) g rfl) des_nil))) (DE.tupI (ds := [_, _, _]) (de_tup (des_cons (de_slot (i := 7) g rfl) (des_cons (de_slot (i := 8) g rfl) (des_cons (de_slot (i := 4) g rfl) des_nil))))) (by show m.length ≤ _; omega) ?_)) (fun z => db_nil ?_))
      · exact ⟨_, _, _, _, _, _, _, _, rfl, hm.put hc⟩
      · exact ⟨_, _, _, _, _, _, _, _, rfl, hm⟩
  · rintro ρ' ⟨m, s3, s4, s5, s6, s7, s8, s9, rfl, hm⟩
    refine DB.freeze (i := 2) (p := pf) ?_ rfl
    exact db_one (ds_ret (de_slot (i := 2) g rfl) fun v F p => ⟨⟨m, hm⟩, froz_od p⟩)
end
end K35
set_option Elab.async false
set_option linter.all false
set_option maxRecDepth 100000
set_option maxHeartbeats 1000000
/-! longer walks -/
namespace K35
open PySem PySem.Spec L2
/-- of a size that is no hindrance -/
def Sz (x : Int) : Prop := 0 ≤ x ∧ x ≤ 2 ^ 1000
theorem sz_log {x : Int} {n : Nat} (h0 : 0 ≤ x) (h : x < 2 ^ n) (hn : 0 < n) : x.natAbs.log2 < n := by
  by_cases z : x.natAbs = 0
  · rw [z, show Nat.log2 0 = 0 from by decide]; exact hn
  · rw [Nat.log2_lt z]
    have e : ((x.natAbs : Nat) : Int) = x := by omega
    have : ((x.natAbs : Nat) : Int) < ((2 ^ n : Nat) : Int) := by rw [e]; push_cast; exact h
    exact Int.ofNat_lt.mp this
theorem cmulW_sz {a b : Int} (ha : Sz a) (hb : Sz b) : CMulW a b := by
  have h1 := sz_log (n := 1001) ha.1 (by have := ha.2; exact Int.lt_of_le_of_lt this (by decide)) (by decide)
  have h2 := sz_log (n := 1001) hb.1 (by have := hb.2; exact Int.lt_of_le_of_lt this (by decide)) (by decide)
  unfold CMulW; omega
theorem pow_mono {k n : Nat} (h : k ≤ n) : (1000 : Int) ^ k ≤ 1000 ^ n := by
  have := Nat.pow_le_pow_right (n := 1000) (by decide) h
  have e : ∀ m : Nat, ((1000 ^ m : Nat) : Int) = (1000 : Int) ^ m := fun m => by push_cast; rfl
  rw [← e, ← e]
  exact Int.ofNat_le.mpr this
theorem Wk.sz {cs : List Cd} (nb : NB cs) {k : Nat} {s e p q : Int} (h : Wk cs k s e p q) (hk : k ≤ 60) : Sz p ∧ Sz q := by
  obtain ⟨_, _, a, b, c, d⟩ := h.ok nb
  have := pow_mono hk
  have z : (1000 : Int) ^ 60 ≤ 2 ^ 1000 := by decide
  exact ⟨⟨by omega, by omega⟩, ⟨by omega, by omega⟩⟩
section
variable {W : Wd} {n k0 : Nat} {df : Bool} {X : Cx} {N : List Str} {sc : Scope} {ρ : List Sl} {sts : List Stmt} {P : Post}
theorem DG.keyT {ks : List Key} {t : Expr} {Nx : List Sl → Prop} (h : DG X t (TupOf (ks.map keyTy)) ρ Nx) : DG X t (KeyT ks) ρ Nx := fun v σ F G H Q S p q => h v σ F G H Q S (keyT_tup p) q
theorem DB.anyD {i : Nat} {D : Kd} {Pm : List (D.κ × Ty) → Prop} (e : ρ[i]? = some (.dat (FDx D Pm))) (h : ∀ m, Pm m → DB X sts (ρ.set i (.dat (FD D m))) P) : DB X sts ρ P := DB.any (i := i) (f := fun (m : { m : List (D.κ × Ty) // Pm m }) => FD D m.1) e fun m => h m.1 m.2
end
section
variable {W : Wd}
def S_lg : List Ty → Ty → Prop := fun τs τ => ∃ cs, ∃ k : Nat, (NB cs ∧ k ≤ 20) ∧ τs = [FDx kdT (RowOK cs k), FDx kdT (StepOK cs)] ∧ τ = FDx kdT (RowOK cs (k + 1))
theorem c_longer (T : Txt W) : Cal W "longer" 1 ["walks", "steps"] (spP S_lg) := by
  refine cal_P T.d_longer sc_longer (by decide) (fun _ _ _ _ _ _ us hl => match us, hl with | [_, _], _ => rfl) (fun τs τ h => by obtain ⟨_, _, _, rfl, _⟩ := h; rfl) fun X g τs τ h => ?_
  obtain ⟨cs, k, ⟨nb, hk⟩, rfl, rfl⟩ := h
  refine DB.anyD (i := 0) rfl fun mw hw => ?_
  refine DB.anyD (i := 1) rfl fun ms hs => ?_
  refine db_cons (ds_setF (i := 2) g df_dnewT fun pf => ?_)
  refine db_cons (ds_forD (i := 0) (m := mw) g rfl (fun _ v F F' u p => (FDx kdT (RowOK cs (k + 1))).up v F F' u p) ⟨fun j ρ' => ∃ (m : List (List Key × Ty)) (s3 s4 s5 s6 s7 s8 s9 s10 s11 : Sl), ρ' = [.dat (FD kdT mw), .dat (FD kdT ms), .own pf (OD kdT m), s3, s4, s5, s6, s7, s8, s9, s10, s11] ∧ RowOK cs (k + 1) m, ⟨[], _, _, _, _, _, _, _, _, _, rfl, by simp, fun x hx => nomatch hx⟩, ?_, ?_⟩)
  · rintro j ks τ ρ' em ⟨m, s3, s4, s5, s6, s7, s8, s9, s10, s11, rfl, hm⟩
    have hmem := List.mem_of_getElem? em
    obtain ⟨s, e, p0, q0, ws0, _, _, ek⟩ := hw.2 _ hmem
    rw [Prod.mk.injEq] at ek
    obtain ⟨rfl, _⟩ := ek
    obtain ⟨τ', hv⟩ := valM_some (List.mem_map.mpr ⟨_, hmem, rfl⟩ : Key2 s e ∈ mw.map (·.1))
    obtain ⟨p, q, ws, hwk, hwl, rfl⟩ := hw.val hv
    obtain ⟨z1, z2, b1, b2, b3, b4⟩ := hwk.ok nb
    obtain ⟨sp, sq⟩ := hwk.sz nb (by omega)
    unfold wkTy at hv
    refine DG.keyT (dg_tup g (dgs_cons (dg_name (i := 3) g (by first | exact .inl rfl | exact .inr ⟨rfl, rfl⟩) rfl (lt_of_get rfl) (dgs_cons (dg_name (i := 4) g (by first | exact .inl rfl | exact .inr ⟨rfl, rfl⟩) rfl (lt_of_get rfl) (dgs_nil ?_))))))
    refine db_cons (ds_asg (de_dget g (D := kdT) (de_slot (i := 0) g rfl) (de_keyT (ks := [.inl _, .inl _]) (des_cons (de_slot (i := 3) g rfl) (des_cons (de_slot (i := 4) g rfl) des_nil))) (by assumption)) (DG.tupI (dg_tup g (dgs_cons (dg_name (i := 5) g (by first | exact .inl rfl | exact .inr ⟨rfl, rfl⟩) rfl (lt_of_get rfl) (dgs_cons (dg_name (i := 6) g (by first | exact .inl rfl | exact .inr ⟨rfl, rfl⟩) rfl (lt_of_get rfl) (dgs_cons (dg_name (i := 7) g (by first | exact .inl rfl | exact .inr ⟨rfl, rfl⟩) rfl (lt_of_get rfl) (dgs_nil ?_))))))))))
    refine db_one (ds_forD (i := 1) (m := ms) g rfl (fun _ v F F' u p => (FDx kdT (RowOK cs (k + 1))).up v F F' u p) ⟨fun j ρ' => ∃ (m : List (List Key × Ty)) (s8 s9 s10 s11 : Sl), ρ' = [.dat (FD kdT mw), .dat (FD kdT ms), .own pf (OD kdT m), .dat (Is (.int s)), .dat (Is (.int e)), .dat (Is (.int p)), .dat (Is (.int q)), .dat (Is (.tuple ws)), s8, s9, s10, s11] ∧ RowOK cs (k + 1) m, ⟨m, _, _, _, _, rfl, hm⟩, ?_, ?_⟩)
    · clear hm
      rintro j ks τ ρ' em2 ⟨m, s8, s9, s10, s11, rfl, hm⟩
      have hmem2 := List.mem_of_getElem? em2
      obtain ⟨c0, hc0, ek⟩ := hs.2 _ hmem2
      rw [Prod.mk.injEq] at ek
      obtain ⟨rfl, _⟩ := ek
      obtain ⟨τ', hv2⟩ := valM_some (List.mem_map.mpr ⟨_, hmem2, rfl⟩ : Key2 c0.s c0.e ∈ ms.map (·.1))
      obtain ⟨c, hc, e1, e2, rfl⟩ := hs.val hv2
      rw [← e1, ← e2] at hv2
      refine DG.keyT (dg_tup g (dgs_cons (dg_name (i := 8) g (by first | exact .inl rfl | exact .inr ⟨rfl, rfl⟩) rfl (lt_of_get rfl) (dgs_cons (dg_name (i := 9) g (by first | exact .inl rfl | exact .inr ⟨rfl, rfl⟩) rfl (lt_of_get rfl) (dgs_nil ?_))))))
      rw [← e1, ← e2]
      have n := nb c hc
      have n1 := n.p1
      have n2 := n.pk
      have n3 := n.q1
      have n4 := n.qk
      unfold stTy at hv2
      have hl := hm.len nb
      refine db_cons (ds_ifE (dt_cmp op_ne (de_slot (i := 8) g rfl) (de_slot (i := 4) g rfl) vr_neI) (fun z => db_one (ds_cont ⟨m, _, _, _, _, rfl, hm⟩)) (fun z => db_nil ?_))
      have ez : c.s = e := by simpa using z
      have hwk2 : Wk cs (k + 1) s c.e (p * c.p) (q * c.q) := .more (by rw [ez]; exact hwk) hc
      obtain ⟨sp2, sq2⟩ := hwk2.sz nb (by omega)
      refine db_cons (ds_set (i := 10) g (de_dget g (D := kdT) (de_slot (i := 1) g rfl) (de_keyT (ks := [.inl _, .inl _]) (des_cons (de_slot (i := 8) g rfl) (des_cons (de_slot (i := 9) g rfl) des_nil))) (by assumption)) ?_)
      refine db_cons (ds_set (i := 11) g (DE.tupI (ds := [_, _, _]) (de_tup (des_cons (de_mul (de_slot (i := 5) g rfl) (de_ixI (de_slot (i := 10) g rfl) de_int (by first | assumption | rfl | exact atI_of (by decide) rfl)) (by first | assumption | (refine .inl ⟨?_, ?_⟩ <;> omega) | (refine .inr ⟨?_, ?_⟩ <;> omega))) (des_cons (de_mul (de_slot (i := 6) g rfl) (de_ixI (de_slot (i := 10) g rfl) de_int (by first | assumption | rfl | exact atI_of (by decide) rfl)) (by first | assumption | (refine .inl ⟨?_, ?_⟩ <;> omega) | (refine .inr ⟨?_, ?_⟩ <;> omega))) (des_cons (de_catI (de_slot (i := 7) g rfl) (DE.tupI (ds := [_]) (de_tup (des_cons (de_ixI (de_slot (i := 10) g rfl) de_int (by first | assumption | rfl | exact atI_of (by decide) rfl)) des_nil))) (by have := hwl.1; simp; omega)) des_nil))))) ?_)
      cases hv3 : valM m (Key2 s c.e) with
      | none =>
        refine db_one (ds_ifE (b1 := true) (DW.dt (dw_orT (dt_dnotinO (s := 2) g (D := kdT) (de_keyT (ks := [.inl _, .inl _]) (des_cons (de_slot (i := 3) g rfl) (des_cons (de_slot (i := 9) g rfl) des_nil))) (de_own (i := 2) g rfl) rfl) (by show (!(valM m (Key2 s c.e)).isSome) = true; rw [hv3]; rfl))) (fun z => db_one (ds_dput (s := 2) (D := kdT) (k := Key2 s c.e) g rfl (de_keyT (ks := [.inl _, .inl _]) (des_cons (de_slot (i := 3) g rfl) (des_cons (de_slot (i := 9) g rfl) des_nil))) (de_slot (i := 11) g rfl) (by show m.length ≤ _; omega) ?_)) (fun z => nomatch z))
        exact ⟨_, _, _, _, _, rfl, hm.put hwk2 (hwl.snoc hc)⟩
      | some τ =>
        obtain ⟨p', q', ws', hwk3, hwl3, rfl⟩ := hm.val hv3
        obtain ⟨sp3, sq3⟩ := hwk3.sz nb (by omega)
        unfold wkTy at hv3
        refine db_one (ds_ifE (DW.dt (dw_orE (dt_dnotinO (s := 2) g (D := kdT) (de_keyT (ks := [.inl _, .inl _]) (des_cons (de_slot (i := 3) g rfl) (des_cons (de_slot (i := 9) g rfl) des_nil))) (de_own (i := 2) g rfl) rfl) (fun _ => (dw_or1 (dt_cmp op_lt (de_mulW (de_ixI (de_slot (i := 11) g rfl) de_int (by first | assumption | rfl | exact atI_of (by decide) rfl)) (de_ixI (de_dgetO (s := 2) g (D := kdT) (de_own (i := 2) g rfl) rfl (de_keyT (ks := [.inl _, .inl _]) (des_cons (de_slot (i := 3) g rfl) (des_cons (de_slot (i := 9) g rfl) des_nil))) (by assumption)) de_int (by first | assumption | rfl | exact atI_of (by decide) rfl)) (by first | assumption | exact cmulW_sz (by assumption) (by assumption))) (de_mulW (de_ixI (de_dgetO (s := 2) g (D := kdT) (de_own (i := 2) g rfl) rfl (de_keyT (ks := [.inl _, .inl _]) (des_cons (de_slot (i := 3) g rfl) (des_cons (de_slot (i := 9) g rfl) des_nil))) (by assumption)) de_int (by first | assumption | rfl | exact atI_of (by decide) rfl)) (de_ixI (de_slot (i := 11) g rfl) de_int (by first | assumption | rfl | exact atI_of (by decide) rfl)) (by first | assumption | exact cmulW_sz (by assumption) (by assumption))) vr_lt))))) (fun z => db_one (ds_dput (s := 2) (D := kdT) (k := Key2 s c.e) g rfl (de_keyT (ks := [.inl _, .inl _]) (des_cons (de_slot (i := 3) g rfl) (des_cons (de_slot (i := 9) g rfl) des_nil))) (de_slot (i := 11) g rfl) (by show m.length ≤ _; omega) ?_)) (fun z => db_nil ?_))
        · exact ⟨_, _, _, _, _, rfl, hm.put hwk2 (hwl.snoc hc)⟩
        · exact ⟨_, _, _, _, _, rfl, hm⟩
    · rintro ρ' ⟨m, s8, s9, s10, s11, rfl, hm⟩
      exact ⟨m, _, _, _, _, _, _, _, _, _, rfl, hm⟩
  · rintro ρ' ⟨m, s3, s4, s5, s6, s7, s8, s9, s10, s11, rfl, hm⟩
    refine DB.freeze (i := 2) (p := pf) ?_ rfl
    exact db_one (ds_ret (de_slot (i := 2) g rfl) fun v F p => ⟨⟨m, hm⟩, froz_od p⟩)
end
end K35
set_option Elab.async false
set_option linter.all false
set_option maxRecDepth 100000
set_option maxHeartbeats 1000000
/-! rows of walks -/
namespace K35
open PySem PySem.Spec L2
def rowTy (cs : List Cd) (i : Nat) : Ty := FDx kdT (RowOK cs (i + 1))
def rowTys (cs : List Cd) (n : Nat) : List Ty := (List.range n).map (rowTy cs)
theorem rowTys_len (cs : List Cd) (n : Nat) : (rowTys cs n).length = n := by simp [rowTys]
theorem rowTys_last {cs : List Cd} {n : Nat} (h : 1 ≤ n) : (rowTys cs n)[n - 1]? = some (FDx kdT (RowOK cs n)) := by
  unfold rowTys
  rw [List.getElem?_map, List.getElem?_range (by omega)]
  show some (FDx kdT (RowOK cs (n - 1 + 1))) = _
  rw [Nat.sub_add_cancel h]
theorem rowTys_succ (cs : List Cd) (n : Nat) : rowTys cs (n + 1) = rowTys cs n ++ [rowTy cs n] := by
  unfold rowTys; rw [List.range_succ, List.map_append]; rfl
def NoRound (cs : List Cd) : Prop := ∀ k s p q, Wk cs k s s p q → q ≤ p
section
variable {W : Wd}
def S_wo : List Ty → Ty → Prop := fun τs τ => ∃ cs, ∃ many : Nat, (NB cs ∧ 1 ≤ many ∧ many ≤ 10) ∧ τs = [FDx kdT (StepOK cs), Is (.int many)] ∧ τ = LstOf (rowTys cs many)
theorem c_walks_of (T : Txt W) : Cal W "walks_of" 2 ["steps", "many"] (spP S_wo) := by
  refine cal_P T.d_walks_of sc_walks_of (by decide) (fun _ _ _ _ _ _ us hl => match us, hl with | [_, _], _ => rfl) (fun τs τ h => by obtain ⟨_, _, _, rfl, _⟩ := h; rfl) fun X g τs τ h => ?_
  obtain ⟨cs, many, ⟨nb, h1, h10⟩, rfl, rfl⟩ := h
  refine DB.anyD (i := 0) rfl fun ms hs => ?_
  have hl := hs.len nb
  refine db_cons (ds_setF (i := 2) g (df_lst (τs := [FDx kdT (RowOK cs 1)]) (des_cons ((df_dc (KD := kdT) (i := 0) (m := ms) (own := [("pair", 3)]) (Pt := RowOK cs 1) g rfl (by decide +kernel) ?_ (by omega) (fun j ts => RowOK cs 1 ts ∧ ts.length ≤ j) ⟨⟨List.nodup_nil, fun x hx => nomatch hx⟩, Nat.le_refl _⟩ (fun i ts h => h.2) ?_ (fun ts h => h.1)).dat.sub fun _ _ => froz_odx) des_nil)) fun pr => ?_)
  · intro i hi a ω
    have : i = 3 := by simpa using hi
    subst this
    exact noOwn_of ⟨_, rfl, rfl⟩ a ω
  · intro j ks τ0 ts em hts
    have hmem := List.mem_of_getElem? em
    obtain ⟨c0, hc0, ek⟩ := hs.2 _ hmem
    rw [Prod.mk.injEq] at ek
    obtain ⟨rfl, _⟩ := ek
    obtain ⟨τ', hv⟩ := valM_some (List.mem_map.mpr ⟨_, hmem, rfl⟩ : Key2 c0.s c0.e ∈ ms.map (·.1))
    obtain ⟨c, hc, e1, e2, rfl⟩ := hs.val hv
    unfold stTy at hv
    refine ⟨[.dat (FD kdT ms), .dat (Is (.int many)), .un, .dat (KeyT (Key2 c0.s c0.e))], fun l hl => ?_, fun X' g' => ?_, fun c => c = true, fun X' g' => dts_nil, fun _ => ⟨Key2 c0.s c0.e, wkTy c.p c.q [c.nm], fun X' g' => (de_slot (i := 3) g' rfl), fun X' g' => ?_, ?_⟩, fun z => nomatch z⟩
    · match l, hl with
      | 0, _ => rfl
      | 1, _ => rfl
      | 2, _ => rfl
      | 3, h => simp at h
      | l + 4, _ => rfl
    · refine (cg_name (i := 3) g' (by simp) ?_)
      rfl
    · exact DE.tupI (ds := [_, _, _]) (de_tup (des_cons (de_ixI (de_dget g' (D := kdT) (de_slot (i := 0) g' rfl) (de_slot (i := 3) g' rfl) (by assumption)) de_int (by first | assumption | rfl | exact atI_of (by decide) rfl)) (des_cons (de_ixI (de_dget g' (D := kdT) (de_slot (i := 0) g' rfl) (de_slot (i := 3) g' rfl) (by assumption)) de_int (by first | assumption | rfl | exact atI_of (by decide) rfl)) (des_cons (DE.tupI (ds := [_]) (de_tup (des_cons (de_ixI (de_dget g' (D := kdT) (de_slot (i := 0) g' rfl) (de_slot (i := 3) g' rfl) (by assumption)) de_int (by first | assumption | rfl | exact atI_of (by decide) rfl)) des_nil))) des_nil))))
    · rw [← e1, ← e2]
      exact ⟨hts.1.put (.one hc) (.one hc), Nat.le_trans (length_putM _ _ _) (by have := hts.2; omega)⟩
  refine db_cons (ds_while g (fun w ρ' => ∃ (n : Nat) (s3 : Sl), ρ' = [.dat (FD kdT ms), .dat (Is (.int many)), .own pr (OL (rowTys cs n)), s3] ∧ 1 ≤ n ∧ n ≤ many ∧ w = many - n) (m0 := many - 1) ⟨1, _, rfl, by omega, h1, rfl⟩ fun w ρ' => ?_)
  rintro ⟨n, s3, rfl, hn1, hn2, rfl⟩
  refine ⟨_, (dt_cmp op_lt (de_lenO (s := 2) g T.b_len (de_own (i := 2) g rfl) rfl) (de_slot (i := 1) g rfl) vr_lt), fun z => ?_, fun z => ?_⟩
  · have hn : n < many := by rw [rowTys_len] at z; simp at z; omega
    have hk : NB cs ∧ n ≤ 20 := ⟨nb, by omega⟩
    refine db_one (ds_append (s := 2) (τ := FDx kdT (RowOK cs (n + 1))) g rfl (de_call g (c_longer T) (des_cons (de_ixO (s := 2) (de_own (i := 2) g rfl) rfl (de_neg de_int) (atI_neg1 (by rw [rowTys_len]; exact rowTys_last hn1))) (des_cons (((de_slot (i := 0) g rfl) : DE X _ _ (FD kdT ms)).sub (τ' := FDx kdT (StepOK cs)) fun v F p => ⟨⟨ms, hs⟩, p⟩) des_nil)) ⟨_, _, hk, rfl, rfl⟩) (by rw [rowTys_len]; omega) ?_)
    refine ⟨many - (n + 1), by omega, n + 1, s3, ?_, by omega, by omega, rfl⟩
    rw [rowTys_succ]
    rfl
  · have hn : n = many := by rw [rowTys_len] at z; simp at z; omega
    subst hn
    refine DB.freezeL (i := 2) (p := pr) ?_ rfl
    exact db_one (ds_retT (de_slot (i := 2) g rfl))
def S_rd : List Ty → Ty → Prop := fun τs τ => ∃ cs, ∃ n : Nat, (NB cs ∧ n ≤ 10 ∧ NoRound cs) ∧ τs = [LstOf (rowTys cs n)] ∧ τ = Is .none
theorem c_round_in (T : Txt W) : Cal W "round_in" 1 ["rows"] (spP S_rd) := by
  refine cal_P T.d_round_in sc_round_in (by decide) (fun _ _ _ _ _ _ us hl => match us, hl with | [_], _ => rfl) (fun τs τ h => by obtain ⟨_, _, _, rfl, _⟩ := h; rfl) fun X g τs τ h => ?_
  obtain ⟨cs, n, ⟨nb, hn, nr⟩, rfl, rfl⟩ := h
  refine db_cons (ds_for g (di_list (de_slot (i := 0) g rfl)) fun ys hy => ⟨fun i ρ' => ∃ (s1 s2 s3 s4 s5 s6 : Sl), ρ' = [.dat (LstOf (rowTys cs n)), s1, s2, s3, s4, s5, s6], ⟨_, _, _, _, _, _, rfl⟩, ?_, ?_⟩)
  · rintro i y ρ' ey ⟨s1, s2, s3, s4, s5, s6, rfl⟩
    subst hy
    obtain ⟨i', ei, rfl⟩ := map_get ey
    refine (dg_name (i := 1) g (by first | exact .inl rfl | exact .inr ⟨rfl, rfl⟩) rfl (lt_of_get rfl) ?_)
    refine DB.anyD (i := 1) rfl fun mw hw => ?_
    refine db_one (ds_forD (i := 1) (m := mw) g rfl (fun _ v F F' u p => (Is .none).up v F F' u p) ⟨fun j ρ' => ∃ (s2 s3 s4 s5 s6 : Sl), ρ' = [.dat (LstOf (rowTys cs n)), .dat (FD kdT mw), s2, s3, s4, s5, s6], ⟨_, _, _, _, _, rfl⟩, ?_, ?_⟩)
    · rintro j ks τ ρ' em ⟨s2, s3, s4, s5, s6, rfl⟩
      have hmem := List.mem_of_getElem? em
      obtain ⟨s, e, p0, q0, ws0, _, _, ek⟩ := hw.2 _ hmem
      rw [Prod.mk.injEq] at ek
      obtain ⟨rfl, _⟩ := ek
      obtain ⟨τ', hv⟩ := valM_some (List.mem_map.mpr ⟨_, hmem, rfl⟩ : Key2 s e ∈ mw.map (·.1))
      obtain ⟨p, q, ws, hwk, hwl, rfl⟩ := hw.val hv
      unfold wkTy at hv
      refine DG.keyT (dg_tup g (dgs_cons (dg_name (i := 2) g (by first | exact .inl rfl | exact .inr ⟨rfl, rfl⟩) rfl (lt_of_get rfl) (dgs_cons (dg_name (i := 3) g (by first | exact .inl rfl | exact .inr ⟨rfl, rfl⟩) rfl (lt_of_get rfl) (dgs_nil ?_))))))
      refine db_cons (ds_asg (de_dget g (D := kdT) (de_slot (i := 1) g rfl) (de_keyT (ks := [.inl _, .inl _]) (des_cons (de_slot (i := 2) g rfl) (des_cons (de_slot (i := 3) g rfl) des_nil))) (by assumption)) (DG.tupI (dg_tup g (dgs_cons (dg_name (i := 4) g (by first | exact .inl rfl | exact .inr ⟨rfl, rfl⟩) rfl (lt_of_get rfl) (dgs_cons (dg_name (i := 5) g (by first | exact .inl rfl | exact .inr ⟨rfl, rfl⟩) rfl (lt_of_get rfl) (dgs_cons (dg_name (i := 6) g (by first | exact .inl rfl | exact .inr ⟨rfl, rfl⟩) rfl (lt_of_get rfl) (dgs_nil ?_))))))))))
      refine db_one (ds_ifE (DW.dt (dw_andE (dt_cmp op_eq (de_slot (i := 2) g rfl) (de_slot (i := 3) g rfl) vr_eqI) (fun _ => (dw_and1 (dt_cmp op_lt (de_slot (i := 4) g rfl) (de_slot (i := 5) g rfl) vr_lt))))) (fun z => ?_) (fun z => db_nil ⟨_, _, _, _, _, rfl⟩))
      exfalso
      simp at z
      obtain ⟨rfl, hlt⟩ := z
      have := nr _ _ _ _ hwk
      omega
    · rintro ρ' ⟨s2, s3, s4, s5, s6, rfl⟩
      exact ⟨_, _, _, _, _, _, rfl⟩
  · rintro ρ' ⟨s1, s2, s3, s4, s5, s6, rfl⟩
    exact db_one (ds_retI de_non rfl)
def ratD (x : Nat × Nat) : PyData := .tuple [.int x.1, .int x.2]
def RatOK (x : Nat × Nat) : Prop := 1 ≤ x.1 ∧ 1 ≤ x.2 ∧ x.1 ≤ 1000 ^ 10 ∧ x.2 ≤ 1000 ^ 10
def RatT : Ty := Ex fun d => ∃ x, d = ratD x ∧ RatOK x
def S_lr (W : Wd) : List Ty → Ty → Prop := fun τs τ => ∃ cs, ∃ n : Nat, ∃ ns, (NB cs ∧ n ≤ 10 ∧ ns.length ≤ 10) ∧ τs = [LstOf (rowTys cs n), SeqI W.K ns] ∧ τ = LstOf (ns.map fun _ => RatT)
theorem gcd_log {p q : Nat} (h : 1 ≤ q) (hq : q ≤ 1000 ^ 60) : 0 < Nat.gcd p q ∧ (Nat.gcd p q).log2 < 9000 := by
  have h0 : 0 < Nat.gcd p q := Nat.gcd_pos_of_pos_right _ (by omega)
  refine ⟨h0, ?_⟩
  have h1 : Nat.gcd p q ≤ q := Nat.gcd_le_right _ (by omega)
  rw [Nat.log2_lt (by omega)]
  exact Nat.lt_of_le_of_lt (Nat.le_trans h1 hq) (by decide)
theorem redN_ok {p q : Nat} (h : RatOK (p, q)) : ∃ x, redN p q = ratD x ∧ RatOK x := by
  obtain ⟨h1, h2, h3, h4⟩ := h
  simp only at h1 h2 h3 h4
  have g0 : 0 < Nat.gcd p q := Nat.gcd_pos_of_pos_right _ (by omega)
  refine ⟨(p / Nat.gcd p q, q / Nat.gcd p q), rfl, ?_, ?_, ?_, ?_⟩
  · exact (Nat.le_div_iff_mul_le g0).mpr (by rw [Nat.one_mul]; exact Nat.gcd_le_left _ (by omega))
  · exact (Nat.le_div_iff_mul_le g0).mpr (by rw [Nat.one_mul]; exact Nat.gcd_le_right _ (by omega))
  · exact Nat.le_trans (Nat.div_le_self _ _) h3
  · exact Nat.le_trans (Nat.div_le_self _ _) h4
theorem c_least_ratios (T : Txt W) : Cal W "least_ratios" 3 ["rows", "indices"] (spP (S_lr W)) := by
  refine cal_P T.d_least_ratios sc_least_ratios (by decide) (fun _ _ _ _ _ _ us hl => match us, hl with | [_, _], _ => rfl) (fun τs τ h => by obtain ⟨_, _, _, _, rfl, _⟩ := h; rfl) fun X g τs τ h => ?_
  obtain ⟨cs, n, ns, ⟨nb, hn, hz⟩, rfl, rfl⟩ := h
  refine db_cons (ds_setF (i := 2) g (df_lst des_nil) fun pf => ?_)
  refine db_cons (ds_for g (di_seqI (j := 1) g rfl) fun ys hy => ⟨fun i ρ' => ∃ (s3 s4 s5 s6 s7 s8 s9 s10 : Sl), ρ' = [.dat (LstOf (rowTys cs n)), .dat (SeqI W.K ns), .own pf (OL ((ns.take i).map fun _ => RatT)), s3, s4, s5, s6, s7, s8, s9, s10], ⟨_, _, _, _, _, _, _, _, rfl⟩, ?_, ?_⟩)
  · rintro i y ρ' ey ⟨s3, s4, s5, s6, s7, s8, s9, s10, rfl⟩
    subst hy
    obtain ⟨ix, ei, rfl⟩ := map_get ey
    have hi : i < ns.length := (List.getElem?_eq_some_iff.mp ei).1
    refine (dg_name (i := 3) g (by first | exact .inl rfl | exact .inr ⟨rfl, rfl⟩) rfl (lt_of_get rfl) ?_)
    refine db_cons (ds_set (i := 4) g (DE.tupI (ds := [_, _]) (de_tup (des_cons de_int (des_cons de_int des_nil)))) ?_)
    refine db_cons (ds_for g (di_list (de_slot (i := 0) g rfl)) fun ys hy => ⟨fun j ρ' => ∃ (x : Nat × Nat) (s5 s6 s7 s8 s9 s10 : Sl), ρ' = [.dat (LstOf (rowTys cs n)), .dat (SeqI W.K ns), .own pf (OL ((ns.take i).map fun _ => RatT)), .dat (isI ix), .dat (Is (ratD x)), s5, s6, s7, s8, s9, s10] ∧ RatOK x, ⟨(1, 1), _, _, _, _, _, _, rfl, by unfold RatOK; decide⟩, ?_, ?_⟩)
    · rintro j y ρ' ey2 ⟨x, s5, s6, s7, s8, s9, s10, rfl, hx⟩
      subst hy
      obtain ⟨j', ej, rfl⟩ := map_get ey2
      have hj : j' < 10 := by have := List.mem_of_getElem? ej; simp at this; omega
      refine (dg_name (i := 5) g (by first | exact .inl rfl | exact .inr ⟨rfl, rfl⟩) rfl (lt_of_get rfl) ?_)
      refine DB.anyD (i := 5) rfl fun mw hw => ?_
      refine db_one (ds_forD (i := 5) (m := mw) g rfl (fun _ v F F' u p => (LstOf (ns.map fun _ => RatT)).up v F F' u p) ⟨fun j ρ' => ∃ (x : Nat × Nat) (s6 s7 s8 s9 s10 : Sl), ρ' = [.dat (LstOf (rowTys cs n)), .dat (SeqI W.K ns), .own pf (OL ((ns.take i).map fun _ => RatT)), .dat (isI ix), .dat (Is (ratD x)), .dat (FD kdT mw), s6, s7, s8, s9, s10] ∧ RatOK x, ⟨x, _, _, _, _, _, rfl, hx⟩, ?_, ?_⟩)
      · clear hx x
        rintro j ks τ ρ' em ⟨⟨x, y⟩, s6, s7, s8, s9, s10, rfl, hx⟩
        have hmem := List.mem_of_getElem? em
        obtain ⟨s, e, p0, q0, ws0, _, _, ek⟩ := hw.2 _ hmem
        rw [Prod.mk.injEq] at ek
        obtain ⟨rfl, _⟩ := ek
        obtain ⟨τ', hv⟩ := valM_some (List.mem_map.mpr ⟨_, hmem, rfl⟩ : Key2 s e ∈ mw.map (·.1))
        obtain ⟨p, q, ws, hwk, hwl, rfl⟩ := hw.val hv
        obtain ⟨_, _, b1, b2, b3, b4⟩ := hwk.ok nb
        have hm10 := pow_mono (show j' + 1 ≤ 10 by omega)
        obtain ⟨sp, sq⟩ := hwk.sz nb (by omega)
        obtain ⟨x1, x2, x3, x4⟩ := id hx
        simp only at x1 x2 x3 x4
        have z10 : (1000 ^ 10 : Nat) ≤ 2 ^ 1000 := by decide
        have z10' : ((1000 ^ 10 : Nat) : Int) = 1000 ^ 10 := by decide
        have z10'' : ((1000 : Int) ^ 10) ≤ 2 ^ 1000 := by decide
        have sx : Sz (x : Int) := ⟨by omega, by omega⟩
        have sy : Sz (y : Int) := ⟨by omega, by omega⟩
        unfold wkTy at hv
        obtain ⟨P, rfl⟩ : ∃ P : Nat, p = P := ⟨p.toNat, by omega⟩
        obtain ⟨Q, rfl⟩ : ∃ Q : Nat, q = Q := ⟨q.toNat, by omega⟩
        refine DG.keyT (dg_tup g (dgs_cons (dg_name (i := 6) g (by first | exact .inl rfl | exact .inr ⟨rfl, rfl⟩) rfl (lt_of_get rfl) (dgs_cons (dg_name (i := 7) g (by first | exact .inl rfl | exact .inr ⟨rfl, rfl⟩) rfl (lt_of_get rfl) (dgs_nil ?_))))))
        refine db_cons (ds_asg (de_dget g (D := kdT) (de_slot (i := 5) g rfl) (de_keyT (ks := [.inl _, .inl _]) (des_cons (de_slot (i := 6) g rfl) (des_cons (de_slot (i := 7) g rfl) des_nil))) (by assumption)) (DG.tupI (dg_tup g (dgs_cons (dg_name (i := 8) g (by first | exact .inl rfl | exact .inr ⟨rfl, rfl⟩) rfl (lt_of_get rfl) (dgs_cons (dg_name (i := 9) g (by first | exact .inl rfl | exact .inr ⟨rfl, rfl⟩) rfl (lt_of_get rfl) (dgs_cons (dg_name (i := 10) g (by first | exact .inl rfl | exact .inr ⟨rfl, rfl⟩) rfl (lt_of_get rfl) (dgs_nil ?_))))))))))
        refine db_one (ds_ifE (DW.dt (dw_andE (dt_cmp op_eq (de_slot (i := 6) g rfl) (de_slot (i := 3) g rfl) vr_eqI) (fun _ => (dw_and1 (dt_cmp op_lt (de_mulW (de_slot (i := 8) g rfl) (de_ixI (de_slot (i := 4) g rfl) de_int (by first | assumption | rfl | exact atI_of (by decide) rfl)) (by first | assumption | exact cmulW_sz (by assumption) (by assumption))) (de_mulW (de_ixI (de_slot (i := 4) g rfl) de_int (by first | assumption | rfl | exact atI_of (by decide) rfl)) (de_slot (i := 9) g rfl) (by first | assumption | exact cmulW_sz (by assumption) (by assumption))) vr_lt))))) (fun z => db_one (ds_set (i := 4) g (DE.tupI (ds := [_, _]) (de_tup (des_cons (de_slot (i := 8) g rfl) (des_cons (de_slot (i := 9) g rfl) des_nil)))) ?_)) (fun z => db_nil ⟨(x, y), _, _, _, _, _, rfl, hx⟩))
        exact ⟨(P, Q), _, _, _, _, _, rfl, by show 1 ≤ P; omega, by show 1 ≤ Q; omega, by show P ≤ _; omega, by show Q ≤ _; omega⟩
      · rintro ρ' ⟨x, s6, s7, s8, s9, s10, rfl, hx⟩
        exact ⟨x, _, _, _, _, _, _, rfl, hx⟩
    · rintro ρ' ⟨⟨x, y⟩, s5, s6, s7, s8, s9, s10, rfl, hx⟩
      have hg : 0 < Nat.gcd x y ∧ (Nat.gcd x y).log2 < 9000 := gcd_log hx.2.1 (Nat.le_trans hx.2.2.2 (by decide))
      refine db_one (ds_append (s := 2) (τ := RatT) g rfl ((de_call g (c_reduced T) (des_cons (de_ixI (de_slot (i := 4) g rfl) de_int (by first | assumption | rfl | exact atI_of (by decide) rfl)) (des_cons (de_ixI (de_slot (i := 4) g rfl) de_int (by first | assumption | rfl | exact atI_of (by decide) rfl)) des_nil)) ⟨x, y, hg, rfl, rfl⟩).ex (redN_ok hx)) (by simp; omega) ?_)
      have e2 : (ns.take (i + 1)).map (fun _ => RatT) = (ns.take i).map (fun _ => RatT) ++ [RatT] := by rw [take_succ' ei, List.map_append]; rfl
      exact ⟨_, _, _, _, _, _, _, _, by rw [e2]; rfl⟩
  · rintro ρ' ⟨s3, s4, s5, s6, s7, s8, s9, s10, rfl⟩
    subst hy
    refine DB.freezeL (i := 2) (p := pf) ?_ rfl
    refine db_one (ds_ret (de_slot (i := 2) g rfl) fun v F p => ?_)
    rw [List.length_map, List.take_length] at p
    exact p
end
end K35
set_option Elab.async false
set_option linter.all false
set_option maxRecDepth 100000
set_option maxHeartbeats 1000000
set_option exponentiation.threshold 20000
/-! whole numbers -/
namespace K35
open PySem PySem.Spec L2
structure GL (G : Nat → Nat → Nat) : Prop where
  z : ∀ a, G a 0 = a
  p : ∀ a b, 1 ≤ a → 1 ≤ b → 1 ≤ G a b ∧ G a b ≤ a ∧ G a b ≤ b
theorem gl_gcd : GL Nat.gcd := ⟨Nat.gcd_zero_right, fun a b ha hb => ⟨Nat.gcd_pos_of_pos_left _ (by omega), Nat.gcd_le_left _ (by omega), Nat.gcd_le_right _ (by omega)⟩⟩
theorem lgcd_b : ∀ n a b, 1 ≤ b → 1 ≤ lgcd (n + 1) a b ∧ lgcd (n + 1) a b ≤ b := by
  intro n
  induction n with
  | zero => intro a b hb; simp only [lgcd]; rw [if_pos (by omega)]; exact ⟨hb, Nat.le_refl _⟩
  | succ n ih =>
    intro a b hb
    have e : lgcd (n + 1 + 1) a b = lgcd (n + 1) b (a % b) := by rw [lgcd, if_pos (by omega)]
    rw [e]
    by_cases h : a % b = 0
    · rw [h, lgcd_zero]; exact ⟨hb, Nat.le_refl _⟩
    · obtain ⟨h1, h2⟩ := ih b (a % b) (by omega)
      exact ⟨h1, Nat.le_trans h2 (Nat.le_of_lt (Nat.mod_lt _ (by omega)))⟩
theorem lgcd_a (n a b : Nat) (ha : 1 ≤ a) (hb : 1 ≤ b) : lgcd (n + 2) a b ≤ a := by
  have e : lgcd (n + 2) a b = lgcd (n + 1) b (a % b) := by rw [lgcd, if_pos (by omega)]
  rw [e]
  by_cases h : a % b = 0
  · rw [h, lgcd_zero]; exact Nat.le_of_dvd (by omega) (Nat.dvd_of_mod_eq_zero h)
  · exact Nat.le_trans (lgcd_b n b (a % b) (by omega)).2 (Nat.mod_le _ _)
theorem gl_lgcd : GL (lgcd 3000) := ⟨lgcd_zero 3000, fun a b ha hb => ⟨(lgcd_b 2999 a b hb).1, lgcd_a 2998 a b ha hb, (lgcd_b 2999 a b hb).2⟩⟩
def Rat4 (x : Nat × Nat) : Prop := 1 ≤ x.1 ∧ 1 ≤ x.2 ∧ x.1 ≤ 2 ^ 400 ∧ x.2 ≤ 2 ^ 400
def Rat4T : Ty := Ex fun d => ∃ x, d = ratD x ∧ Rat4 x
theorem RatOK.r4 {x : Nat × Nat} (h : RatOK x) : Rat4 x := ⟨h.1, h.2.1, Nat.le_trans h.2.2.1 (by decide), Nat.le_trans h.2.2.2 (by decide)⟩
def NumsOK (n : Nat) (d : PyData) : Prop := ∃ ns : List Int, d = .tuple (ns.map I') ∧ ns.length = n ∧ ∀ x ∈ ns, 0 ≤ x ∧ x ≤ 2 ^ 5000
theorem step_ok {P q g : Nat} (hP : 1 ≤ P) (hq : 1 ≤ q) (g1 : 1 ≤ g) (gP : g ≤ P) (gq : g ≤ q) : P ≤ P * q / g ∧ q ≤ P * q / g ∧ P * q / g ≤ P * q := by
  refine ⟨(Nat.le_div_iff_mul_le (by omega)).mpr (Nat.mul_le_mul_left _ gq), (Nat.le_div_iff_mul_le (by omega)).mpr ?_, Nat.div_le_self _ _⟩
  rw [Nat.mul_comm P q]; exact Nat.mul_le_mul_left _ gP
theorem nlog {x n : Nat} (h : x ≤ 2 ^ n) : x.log2 ≤ n := by
  by_cases z : x = 0
  · subst z; rw [show Nat.log2 0 = 0 from by decide]; omega
  · have : x.log2 < n + 1 := by
      rw [Nat.log2_lt z]
      exact Nat.lt_of_le_of_lt h (Nat.pow_lt_pow_right (by decide) (by omega))
    omega
theorem ndivW {x : Int} {y : Nat} (h1 : 1 ≤ y) (h : y ≤ 2 ^ 8000) : CDivW x (y : Int) := ⟨by omega, by
  show y.log2 < 9000
  have := nlog h; omega⟩
theorem nmulW {x y : Nat} (hx : x ≤ 2 ^ 8000) (hy : y ≤ 2 ^ 8000) : CMulW (x : Int) (y : Int) := by
  show x.log2 + y.log2 < 1000000
  have := nlog hx; have := nlog hy; omega
theorem exL {Pd : PyData → Prop} {F : Hp} : ∀ {n : Nat} {vs : List V}, All2 (List.replicate n (Ex Pd)) vs F → ∃ ds : List PyData, ds.length = n ∧ (∀ d ∈ ds, Pd d) ∧ All2 (ds.map Is) vs F
  | 0, vs, h => by cases h; exact ⟨[], rfl, fun d hd => (nomatch hd), .nil⟩
  | n + 1, vs, h => by
    rw [List.replicate_succ] at h
    cases h with
    | cons a t =>
      obtain ⟨d, hd, pd⟩ := a
      obtain ⟨ds, h1, h2, h3⟩ := exL t
      exact ⟨d :: ds, by simp [h1], fun x hx => (List.mem_cons.mp hx).elim (fun e => e ▸ hd) (h2 x), .cons pd h3⟩
theorem DB.exL {X : Cx} {ρ : List Sl} {sts : List Stmt} {P : Post} {i n : Nat} {Pd : PyData → Prop} (e : ρ[i]? = some (.dat (LstOf (List.replicate n (Ex Pd))))) (h : ∀ ds, ds.length = n → (∀ d ∈ ds, Pd d) → DB X sts (ρ.set i (.dat (Is (.list ds)))) P) : DB X sts ρ P := by
  refine DB.any (i := i) (f := fun (q : { ds : List PyData // ds.length = n ∧ ∀ d ∈ ds, Pd d }) => Is (.list q.1)) (ρ := ρ.set i (.dat (Some' fun (q : { ds : List PyData // ds.length = n ∧ ∀ d ∈ ds, Pd d }) => Is (.list q.1)))) (List.getElem?_set_self (List.getElem?_eq_some_iff.mp e).1) (fun q => by rw [List.set_set]; exact h q.1 q.2.1 q.2.2) |>.tell e fun v F p => ?_
  obtain ⟨a, vs, ev, hr, pv⟩ := p
  obtain ⟨ds, h1, h2, h3⟩ := K35.exL pv
  exact ⟨⟨ds, h1, h2⟩, lst_is.mp ⟨a, vs, ev, hr, h3⟩⟩
theorem ratDs {Pr : Nat × Nat → Prop} : ∀ {ds : List PyData}, (∀ d ∈ ds, ∃ x, d = ratD x ∧ Pr x) → ∃ xs : List (Nat × Nat), ds = xs.map ratD ∧ ∀ x ∈ xs, Pr x
  | [], _ => ⟨[], rfl, fun x hx => nomatch hx⟩
  | d :: ds, h => by
    obtain ⟨x, e, hx⟩ := h d (by simp)
    obtain ⟨xs, e2, hxs⟩ := ratDs (ds := ds) fun y hy => h y (List.mem_cons_of_mem _ hy)
    exact ⟨x :: xs, by rw [e, e2]; rfl, fun y hy => (List.mem_cons.mp hy).elim (fun e => e ▸ hx) (hxs y)⟩
section
variable {W : Wd}
def S_wn : List Ty → Ty → Prop := fun τs τ => ∃ n, (1 ≤ n ∧ n ≤ 10) ∧ τs = [LstOf (List.replicate n Rat4T)] ∧ τ = Ex (NumsOK n)
def S_Lwn : List Ty → Ty → Prop := fun τs τ => ∃ xs : List (Nat × Nat), (1 ≤ xs.length ∧ xs.length ≤ 10 ∧ ∀ x ∈ xs, Rat4 x) ∧ τs = [Is (.list (xs.map ratD))] ∧ τ = Ex (NumsOK xs.length)
theorem c_whole_numbers (T : Txt W) : Cal W "whole_numbers" 2 ["ratios"] (spP S_wn) := by
  refine cal_P T.d_whole_numbers sc_whole_numbers (by decide) (fun _ _ _ _ _ _ us hl => match us, hl with | [_], _ => rfl) (fun τs τ h => by obtain ⟨_, _, rfl, _⟩ := h; rfl) fun X g τs τ h => ?_
  obtain ⟨n, ⟨h1, h10⟩, rfl, rfl⟩ := h
  have gl := gl_gcd
  refine DB.exL (i := 0) rfl fun ds hlen hds => ?_
  obtain ⟨xs, rfl, hx⟩ := ratDs hds
  rw [List.length_map] at hlen
  have h10 : xs.length ≤ 10 := by omega
  have h1 : 1 ≤ xs.length := by omega
  refine db_cons (ds_set (i := 1) g de_int ?_)
  refine db_cons (ds_for g (di_lstM (DE.lstM (de_slot (i := 0) g rfl))) fun ys hy => ⟨fun i ρ' => ∃ (Pn : Nat) (s2 s3 s4 s5 s6 : Sl), ρ' = [.dat (Is (.list (xs.map ratD))), .dat (Is (.int (Pn : Nat))), s2, s3, s4, s5, s6] ∧ s2.noOwn = true ∧ s3.noOwn = true ∧ s6.noOwn = true ∧ 1 ≤ Pn ∧ Pn ≤ 2 ^ (400 * i) ∧ ∀ x ∈ xs.take i, x.2 ≤ Pn, ⟨1, _, _, _, _, _, rfl, rfl, rfl, rfl, Nat.le_refl _, by simp, by simp⟩, ?_, ?_⟩)
  · rintro i y ρ' ey ⟨Pn, s2, s3, s4, s5, s6, rfl, h2, h3, h6, hP1, hP2, hP3⟩
    subst hy
    obtain ⟨⟨x, y⟩, ex, rfl⟩ := map_get ey
    have hi : i < xs.length := (List.getElem?_eq_some_iff.mp ex).1
    obtain ⟨r1, r2, r3, r4⟩ := hx _ (List.mem_of_getElem? ex)
    simp only at r1 r2 r3 r4
    obtain ⟨g1, g2, g3⟩ := gl.p Pn y hP1 r2
    obtain ⟨t1, t2, t3⟩ := step_ok hP1 r2 g1 g2 g3
    have hpow : (2 : Nat) ^ (400 * i) ≤ 2 ^ 8000 := Nat.pow_le_pow_right (by decide) (by omega)
    have hpow2 : (2 : Nat) ^ 400 ≤ 2 ^ 8000 := by decide
    have c1 := nmulW (Nat.le_trans hP2 hpow) (Nat.le_trans r4 hpow2)
    refine (DG.tupI (dg_tup g (dgs_cons (dg_name (i := 2) g (by first | exact .inl rfl | exact .inr ⟨rfl, rfl⟩) rfl (lt_of_get rfl) (dgs_cons (dg_name (i := 3) g (by first | exact .inl rfl | exact .inr ⟨rfl, rfl⟩) rfl (lt_of_get rfl) (dgs_nil ?_)))))))
    refine db_one (ds_set (i := 1) g (de_fdivW (de_mulW (de_slot (i := 1) g rfl) (de_slot (i := 3) g rfl) c1) (de_call g (c_common T) (des_cons (de_slot (i := 1) g rfl) (des_cons (de_slot (i := 3) g rfl) des_nil)) ⟨_, _, rfl, rfl⟩) (ndivW g1 (Nat.le_trans g3 (Nat.le_trans r4 hpow2)))) ?_)
    refine ⟨Pn * y / Nat.gcd Pn y, _, _, _, _, _, by rw [show ((Pn * y / Nat.gcd Pn y : Nat) : Int) = (Pn : Int) * (y : Int) / (Nat.gcd Pn y : Nat) by push_cast; rfl]; rfl, rfl, rfl, h6, by omega, ?_, ?_⟩
    · refine Nat.le_trans t3 ?_
      rw [show 400 * (i + 1) = 400 * i + 400 by omega, Nat.pow_add]
      exact Nat.mul_le_mul hP2 r4
    · intro z hz
      rw [take_succ' ex] at hz
      rcases List.mem_append.mp hz with q | q
      · exact Nat.le_trans (hP3 z q) t1
      · rw [List.mem_singleton.mp q]; exact t2
  rintro ρ' ⟨Pn, s2, s3, s4, s5, s6, rfl, h2, h3, h6, hP1, hP2, hP3⟩
  subst hy
  rw [List.length_map] at hP2 hP3
  rw [List.take_length] at hP3
  have hP2 : Pn ≤ 2 ^ 4000 := Nat.le_trans hP2 (Nat.pow_le_pow_right (by decide) (by omega))
  have hpw : (2 : Nat) ^ 4000 ≤ 2 ^ 8000 := by decide
  have hpow2 : (2 : Nat) ^ 400 ≤ 2 ^ 8000 := by decide
  have hnum : ∀ x ∈ xs, 1 ≤ x.1 * (Pn / x.2) ∧ x.1 * (Pn / x.2) ≤ 2 ^ 4400 := fun x hm => by
    obtain ⟨r1, r2, r3, r4⟩ := hx x hm
    have h1 : 1 ≤ Pn / x.2 := (Nat.le_div_iff_mul_le (by omega)).mpr (by rw [Nat.one_mul]; exact hP3 x hm)
    refine ⟨Nat.mul_le_mul r1 h1, ?_⟩
    have := Nat.mul_le_mul r3 (Nat.le_trans (Nat.div_le_self Pn x.2) hP2)
    rwa [show (2 : Nat) ^ 400 * 2 ^ 4000 = 2 ^ 4400 from by rw [← Nat.pow_add]] at this
  refine db_cons (ds_setMapG (i := 4) (own := [("p", 2), ("q", 3)]) xs (fun x => Is (ratD x)) (fun x => isI ((x.1 * (Pn / x.2) : Nat))) (fun x => [.dat (Is (.list (xs.map ratD))), .dat (Is (.int (Pn : Nat))), .dat (isI x.1), .dat (isI x.2), s4, s5, s6]) g (by decide +kernel) (di_lstM (DE.lstM (de_slot (i := 0) g rfl))) (by omega) ?_ ?_ ?_ ?_ fun pn => ?_)
  · intro i hi
    simp at hi
    rcases hi with rfl | rfl
    · exact ⟨_, rfl, h2⟩
    · exact ⟨_, rfl, h3⟩
  · intro c hc j hj
    match j, hj with
    | 0, _ => rfl
    | 1, _ => rfl
    | 2, h => simp at h
    | 3, h => simp at h
    | 4, _ => rfl
    | 5, _ => rfl
    | 6, _ => rfl
    | j + 7, _ => rfl
  · intro c hc X' g'
    refine (CG.tupI (cg_tup g' (cgs_cons (cg_name (i := 2) g' (by simp) (cgs_cons (cg_name (i := 3) g' (by simp) (cgs_nil ?_)))))))
    rfl
  · intro c hc X' g'
    obtain ⟨r1, r2, r3, r4⟩ := hx c hc
    have c1 : CDivW (Pn : Int) (c.2 : Int) := ndivW r2 (Nat.le_trans r4 hpow2)
    have c2 : CMulW (c.1 : Int) ((Pn / c.2 : Nat) : Int) := nmulW (Nat.le_trans r3 hpow2) (Nat.le_trans (Nat.le_trans (Nat.div_le_self Pn c.2) hP2) hpw)
    rw [show ((c.1 * (Pn / c.2) : Nat) : Int) = (c.1 : Int) * ((Pn : Int) / (c.2 : Int)) by push_cast; rfl]
    exact de_mulW (de_slot (i := 2) g' rfl) (de_fdivW (de_slot (i := 1) g' rfl) (de_slot (i := 3) g' rfl) c1) c2
  refine DB.freezeL (i := 4) (p := pn) ?_ rfl
  refine db_cons (ds_set (i := 5) g de_int ?_)
  refine db_cons (ds_for g (di_lstM (xs := xs) (s := fun x => isI ((x.1 * (Pn / x.2) : Nat))) (de_slot (i := 4) g rfl)) fun ys hy => ⟨fun i ρ' => ∃ (Ln : Nat) (s6 : Sl), ρ' = [.dat (Is (.list (xs.map ratD))), .dat (Is (.int (Pn : Nat))), s2, s3, .dat (LstOf (xs.map fun x => isI ((x.1 * (Pn / x.2) : Nat)))), .dat (Is (.int (Ln : Nat))), s6] ∧ s6.noOwn = true ∧ (i = 0 → Ln = 0) ∧ (0 < i → 1 ≤ Ln ∧ Ln ≤ 2 ^ 4400), ⟨0, _, rfl, h6, fun _ => rfl, fun z => absurd z (by omega)⟩, ?_, ?_⟩)
  · rintro i y ρ' ey ⟨Ln, s6, rfl, h6, hL0, hL1⟩
    subst hy
    obtain ⟨x, ex, rfl⟩ := map_get ey
    obtain ⟨n1, n2⟩ := hnum x (List.mem_of_getElem? ex)
    refine (dg_name (i := 6) g (by first | exact .inl rfl | exact .inr ⟨rfl, rfl⟩) rfl (lt_of_get rfl) ?_)
    refine db_one (ds_set (i := 5) g (de_call g (c_common T) (des_cons (de_slot (i := 6) g rfl) (des_cons (de_slot (i := 5) g rfl) des_nil)) ⟨_, _, rfl, rfl⟩) ?_)
    refine ⟨_, _, rfl, rfl, fun z => absurd z (by omega), fun _ => ?_⟩
    by_cases z : i = 0
    · rw [hL0 z, gl.z]; exact ⟨n1, n2⟩
    · obtain ⟨l1, l2⟩ := hL1 (by omega)
      obtain ⟨g1, g2, g3⟩ := gl.p _ Ln n1 l1
      exact ⟨g1, Nat.le_trans g2 n2⟩
  · rintro ρ' ⟨Ln, s6, rfl, h6, hL0, hL1⟩
    subst hy
    obtain ⟨l1, l2⟩ := hL1 (by rw [List.length_map]; omega)
    have c3 : ∀ z : Int, CDivW z (Ln : Int) := fun z => ndivW l1 (Nat.le_trans l2 (by decide))
    refine db_one (ds_ret (τ := Is (.tuple ((xs.map fun x => ((x.1 * (Pn / x.2) / Ln : Nat) : Int)).map I'))) (DE.tupMI ?_) fun v F p => ⟨_, ⟨_, rfl, by rw [List.length_map]; exact hlen, fun z hz => ?_⟩, p⟩)
    · rw [List.map_map]
      refine de_tupleOfL g T.b_tuple (df_map (v := 6) xs (fun x => isI ((x.1 * (Pn / x.2) : Nat))) (fun x => Is (I' ((x.1 * (Pn / x.2) / Ln : Nat) : Int))) g (by decide +kernel) (di_lstM (de_slot (i := 4) g rfl)) (by omega) ⟨_, rfl, h6⟩ fun x hm X' g' => ?_).lst
      show DE X' _ _ (Is (.int ((x.1 * (Pn / x.2) / Ln : Nat) : Int)))
      rw [show ((x.1 * (Pn / x.2) / Ln : Nat) : Int) = ((x.1 * (Pn / x.2) : Nat) : Int) / (Ln : Int) by push_cast; rfl]
      exact de_fdivW (de_slot (i := 6) g' rfl) (de_slot (i := 5) g' rfl) (c3 _)
    · obtain ⟨x, hm, rfl⟩ := List.mem_map.mp hz
      obtain ⟨n1, n2⟩ := hnum x hm
      have n3 : x.1 * (Pn / x.2) / Ln ≤ 2 ^ 4400 := Nat.le_trans (Nat.div_le_self _ _) n2
      have n4 : (2 : Nat) ^ 4400 ≤ 2 ^ 5000 := by decide
      have n5 : ((2 ^ 5000 : Nat) : Int) = 2 ^ 5000 := Int.natCast_pow 2 5000
      refine ⟨Int.ofNat_nonneg _, ?_⟩
      rw [← n5]
      exact Int.ofNat_le.mpr (Nat.le_trans n3 n4)
theorem c_L_whole (T : Txt W) : Cal W "_law_whole" 2 ["_law_ratios"] (spP S_Lwn) := by
  refine cal_P T.d_L_whole sc_L_whole (by decide) (fun _ _ _ _ _ _ us hl => match us, hl with | [_], _ => rfl) (fun τs τ h => by obtain ⟨_, _, rfl, _⟩ := h; rfl) fun X g τs τ h => ?_
  obtain ⟨xs, ⟨h1, h10, hx⟩, rfl, rfl⟩ := h
  have gl := gl_lgcd
  refine db_cons (ds_set (i := 1) g de_int ?_)
  refine db_cons (ds_for g (di_lstM (DE.lstM (de_slot (i := 0) g rfl))) fun ys hy => ⟨fun i ρ' => ∃ (Pn : Nat) (s2 s3 s4 s5 s6 : Sl), ρ' = [.dat (Is (.list (xs.map ratD))), .dat (Is (.int (Pn : Nat))), s2, s3, s4, s5, s6] ∧ s2.noOwn = true ∧ s3.noOwn = true ∧ s6.noOwn = true ∧ 1 ≤ Pn ∧ Pn ≤ 2 ^ (400 * i) ∧ ∀ x ∈ xs.take i, x.2 ≤ Pn, ⟨1, _, _, _, _, _, rfl, rfl, rfl, rfl, Nat.le_refl _, by simp, by simp⟩, ?_, ?_⟩)
  · rintro i y ρ' ey ⟨Pn, s2, s3, s4, s5, s6, rfl, h2, h3, h6, hP1, hP2, hP3⟩
    subst hy
    obtain ⟨⟨x, y⟩, ex, rfl⟩ := map_get ey
    have hi : i < xs.length := (List.getElem?_eq_some_iff.mp ex).1
    obtain ⟨r1, r2, r3, r4⟩ := hx _ (List.mem_of_getElem? ex)
    simp only at r1 r2 r3 r4
    obtain ⟨g1, g2, g3⟩ := gl.p Pn y hP1 r2
    obtain ⟨t1, t2, t3⟩ := step_ok hP1 r2 g1 g2 g3
    have hpow : (2 : Nat) ^ (400 * i) ≤ 2 ^ 8000 := Nat.pow_le_pow_right (by decide) (by omega)
    have hpow2 : (2 : Nat) ^ 400 ≤ 2 ^ 8000 := by decide
    have c1 := nmulW (Nat.le_trans hP2 hpow) (Nat.le_trans r4 hpow2)
    refine (DG.tupI (dg_tup g (dgs_cons (dg_name (i := 2) g (by first | exact .inl rfl | exact .inr ⟨rfl, rfl⟩) rfl (lt_of_get rfl) (dgs_cons (dg_name (i := 3) g (by first | exact .inl rfl | exact .inr ⟨rfl, rfl⟩) rfl (lt_of_get rfl) (dgs_nil ?_)))))))
    refine db_one (ds_set (i := 1) g (de_fdivW (de_mulW (de_slot (i := 1) g rfl) (de_slot (i := 3) g rfl) c1) (de_call g (c_L_common T) (des_cons (de_slot (i := 1) g rfl) (des_cons (de_slot (i := 3) g rfl) des_nil)) ⟨_, _, rfl, rfl⟩) (ndivW g1 (Nat.le_trans g3 (Nat.le_trans r4 hpow2)))) ?_)
    refine ⟨Pn * y / lgcd 3000 Pn y, _, _, _, _, _, by rw [show ((Pn * y / lgcd 3000 Pn y : Nat) : Int) = (Pn : Int) * (y : Int) / (lgcd 3000 Pn y : Nat) by push_cast; rfl]; rfl, rfl, rfl, h6, by omega, ?_, ?_⟩
    · refine Nat.le_trans t3 ?_
      rw [show 400 * (i + 1) = 400 * i + 400 by omega, Nat.pow_add]
      exact Nat.mul_le_mul hP2 r4
    · intro z hz
      rw [take_succ' ex] at hz
      rcases List.mem_append.mp hz with q | q
      · exact Nat.le_trans (hP3 z q) t1
      · rw [List.mem_singleton.mp q]; exact t2
  rintro ρ' ⟨Pn, s2, s3, s4, s5, s6, rfl, h2, h3, h6, hP1, hP2, hP3⟩
  subst hy
  rw [List.length_map] at hP2 hP3
  rw [List.take_length] at hP3
  have hP2 : Pn ≤ 2 ^ 4000 := Nat.le_trans hP2 (Nat.pow_le_pow_right (by decide) (by omega))
  have hpw : (2 : Nat) ^ 4000 ≤ 2 ^ 8000 := by decide
  have hpow2 : (2 : Nat) ^ 400 ≤ 2 ^ 8000 := by decide
  have hnum : ∀ x ∈ xs, 1 ≤ x.1 * (Pn / x.2) ∧ x.1 * (Pn / x.2) ≤ 2 ^ 4400 := fun x hm => by
    obtain ⟨r1, r2, r3, r4⟩ := hx x hm
    have h1 : 1 ≤ Pn / x.2 := (Nat.le_div_iff_mul_le (by omega)).mpr (by rw [Nat.one_mul]; exact hP3 x hm)
    refine ⟨Nat.mul_le_mul r1 h1, ?_⟩
    have := Nat.mul_le_mul r3 (Nat.le_trans (Nat.div_le_self Pn x.2) hP2)
    rwa [show (2 : Nat) ^ 400 * 2 ^ 4000 = 2 ^ 4400 from by rw [← Nat.pow_add]] at this
  refine db_cons (ds_setMapG (i := 4) (own := [("_law_p", 2), ("_law_q", 3)]) xs (fun x => Is (ratD x)) (fun x => isI ((x.1 * (Pn / x.2) : Nat))) (fun x => [.dat (Is (.list (xs.map ratD))), .dat (Is (.int (Pn : Nat))), .dat (isI x.1), .dat (isI x.2), s4, s5, s6]) g (by decide +kernel) (di_lstM (DE.lstM (de_slot (i := 0) g rfl))) (by omega) ?_ ?_ ?_ ?_ fun pn => ?_)
  · intro i hi
    simp at hi
    rcases hi with rfl | rfl
    · exact ⟨_, rfl, h2⟩
    · exact ⟨_, rfl, h3⟩
  · intro c hc j hj
    match j, hj with
    | 0, _ => rfl
    | 1, _ => rfl
    | 2, h => simp at h
    | 3, h => simp at h
    | 4, _ => rfl
    | 5, _ => rfl
    | 6, _ => rfl
    | j + 7, _ => rfl
  · intro c hc X' g'
    refine (CG.tupI (cg_tup g' (cgs_cons (cg_name (i := 2) g' (by simp) (cgs_cons (cg_name (i := 3) g' (by simp) (cgs_nil ?_)))))))
    rfl
  · intro c hc X' g'
    obtain ⟨r1, r2, r3, r4⟩ := hx c hc
    have c1 : CDivW (Pn : Int) (c.2 : Int) := ndivW r2 (Nat.le_trans r4 hpow2)
    have c2 : CMulW (c.1 : Int) ((Pn / c.2 : Nat) : Int) := nmulW (Nat.le_trans r3 hpow2) (Nat.le_trans (Nat.le_trans (Nat.div_le_self Pn c.2) hP2) hpw)
    rw [show ((c.1 * (Pn / c.2) : Nat) : Int) = (c.1 : Int) * ((Pn : Int) / (c.2 : Int)) by push_cast; rfl]
    exact de_mulW (de_slot (i := 2) g' rfl) (de_fdivW (de_slot (i := 1) g' rfl) (de_slot (i := 3) g' rfl) c1) c2
  refine DB.freezeL (i := 4) (p := pn) ?_ rfl
  refine db_cons (ds_set (i := 5) g de_int ?_)
  refine db_cons (ds_for g (di_lstM (xs := xs) (s := fun x => isI ((x.1 * (Pn / x.2) : Nat))) (de_slot (i := 4) g rfl)) fun ys hy => ⟨fun i ρ' => ∃ (Ln : Nat) (s6 : Sl), ρ' = [.dat (Is (.list (xs.map ratD))), .dat (Is (.int (Pn : Nat))), s2, s3, .dat (LstOf (xs.map fun x => isI ((x.1 * (Pn / x.2) : Nat)))), .dat (Is (.int (Ln : Nat))), s6] ∧ s6.noOwn = true ∧ (i = 0 → Ln = 0) ∧ (0 < i → 1 ≤ Ln ∧ Ln ≤ 2 ^ 4400), ⟨0, _, rfl, h6, fun _ => rfl, fun z => absurd z (by omega)⟩, ?_, ?_⟩)
  · rintro i y ρ' ey ⟨Ln, s6, rfl, h6, hL0, hL1⟩
    subst hy
    obtain ⟨x, ex, rfl⟩ := map_get ey
    obtain ⟨n1, n2⟩ := hnum x (List.mem_of_getElem? ex)
    refine (dg_name (i := 6) g (by first | exact .inl rfl | exact .inr ⟨rfl, rfl⟩) rfl (lt_of_get rfl) ?_)
    refine db_one (ds_set (i := 5) g (de_call g (c_L_common T) (des_cons (de_slot (i := 6) g rfl) (des_cons (de_slot (i := 5) g rfl) des_nil)) ⟨_, _, rfl, rfl⟩) ?_)
    refine ⟨_, _, rfl, rfl, fun z => absurd z (by omega), fun _ => ?_⟩
    by_cases z : i = 0
    · rw [hL0 z, gl.z]; exact ⟨n1, n2⟩
    · obtain ⟨l1, l2⟩ := hL1 (by omega)
      obtain ⟨g1, g2, g3⟩ := gl.p _ Ln n1 l1
      exact ⟨g1, Nat.le_trans g2 n2⟩
  · rintro ρ' ⟨Ln, s6, rfl, h6, hL0, hL1⟩
    subst hy
    obtain ⟨l1, l2⟩ := hL1 (by rw [List.length_map]; omega)
    have c3 : ∀ z : Int, CDivW z (Ln : Int) := fun z => ndivW l1 (Nat.le_trans l2 (by decide))
    refine db_one (ds_ret (τ := Is (.tuple ((xs.map fun x => ((x.1 * (Pn / x.2) / Ln : Nat) : Int)).map I'))) (DE.tupMI ?_) fun v F p => ⟨_, ⟨_, rfl, by rw [List.length_map], fun z hz => ?_⟩, p⟩)
    · rw [List.map_map]
      refine de_tupleOfL g T.b_tuple (df_map (v := 6) xs (fun x => isI ((x.1 * (Pn / x.2) : Nat))) (fun x => Is (I' ((x.1 * (Pn / x.2) / Ln : Nat) : Int))) g (by decide +kernel) (di_lstM (de_slot (i := 4) g rfl)) (by omega) ⟨_, rfl, h6⟩ fun x hm X' g' => ?_).lst
      show DE X' _ _ (Is (.int ((x.1 * (Pn / x.2) / Ln : Nat) : Int)))
      rw [show ((x.1 * (Pn / x.2) / Ln : Nat) : Int) = ((x.1 * (Pn / x.2) : Nat) : Int) / (Ln : Int) by push_cast; rfl]
      exact de_fdivW (de_slot (i := 6) g' rfl) (de_slot (i := 5) g' rfl) (c3 _)
    · obtain ⟨x, hm, rfl⟩ := List.mem_map.mp hz
      obtain ⟨n1, n2⟩ := hnum x hm
      have n3 : x.1 * (Pn / x.2) / Ln ≤ 2 ^ 4400 := Nat.le_trans (Nat.div_le_self _ _) n2
      have n4 : (2 : Nat) ^ 4400 ≤ 2 ^ 5000 := by decide
      have n5 : ((2 ^ 5000 : Nat) : Int) = 2 ^ 5000 := Int.natCast_pow 2 5000
      refine ⟨Int.ofNat_nonneg _, ?_⟩
      rw [← n5]
      exact Int.ofNat_le.mpr (Nat.le_trans n3 n4)
end
end K35
set_option Elab.async false
set_option linter.all false
set_option maxRecDepth 100000
set_option maxHeartbeats 1000000
/-! fit, best walks -/
namespace K35
open PySem PySem.Spec L2
def topN (rs : List Res) : Nat := (topL (seenL rs)).toNat
theorem topL_ok {rs : List Res} (w : Wf rs) : 0 ≤ topL (seenL rs) ∧ topL (seenL rs) ≤ 5 := by
  unfold topL
  have h1 := (foldl_max_le ((seenL rs).map fun c => max c.s c.e) 0).1
  have h2 := foldl_max_in ((seenL rs).map fun c => max c.s c.e) 0
  refine ⟨h1, ?_⟩
  rcases List.mem_cons.mp h2 with z | z
  · rw [z]; decide
  · obtain ⟨c, hc, e⟩ := List.mem_map.mp z
    have o := seenL_ok w hc
    have := o.s5
    have := o.e5
    rw [← e]
    show max c.s c.e ≤ 5
    omega
theorem topN_eq {rs : List Res} (w : Wf rs) : topL (seenL rs) = (topN rs : Int) ∧ topN rs ≤ 5 := by
  obtain ⟨h1, h2⟩ := topL_ok w
  unfold topN; omega
theorem nb_all {rs : List Res} (w : Wf rs) {top : Nat} (h : top ≤ 9) : NB (allL rs top) := fun c hc => by
  unfold allL at hc
  rcases List.mem_append.mp hc with z | z
  · have o := seenL_ok w z
    exact ⟨o.s0, by have := o.s5; omega, o.e0, by have := o.e5; omega, o.p1, o.pk, o.q1, o.qk⟩
  · obtain ⟨k, hk, rfl⟩ := List.mem_map.mp z
    have hk : k < top := by simpa using hk
    constructor <;> simp only [upC] <;> omega
section
variable {W : Wd}
def S_ff : List Ty → Ty → Prop := fun τs τ => ∃ rs, (Wf rs ∧ NoRound (allL rs (topN rs))) ∧ τs = [Is (encRs rs)] ∧ τ = TupOf [Is (.str "divisors"), Ex (NumsOK (topN rs + 1))]
theorem c_fit (T : Txt W) : Cal W "fit" 4 ["results"] (spP S_ff) := by
  refine cal_P T.d_fit sc_fit (by decide) (fun _ _ _ _ _ _ us hl => match us, hl with | [_], _ => rfl) (fun τs τ h => by obtain ⟨_, _, rfl, _⟩ := h; rfl) fun X g τs τ h => ?_
  obtain ⟨rs, ⟨w, nr⟩, rfl, rfl⟩ := h
  obtain ⟨et, ht⟩ := topN_eq w
  have nb := nb_all w (show topN rs ≤ 9 by omega)
  have h27 := seenL_len w
  have h100 : (seenL rs).length ≤ 100 := by omega
  refine db_cons (ds_set (i := 1) g (de_call g (c_seen_in T) (des_cons (de_slot (i := 0) g rfl) des_nil) ⟨_, by assumption, rfl, rfl⟩) ?_)
  refine db_cons (ds_set (i := 2) g (de_call g (c_top_of T) (des_cons (de_slot (i := 1) g rfl) des_nil) ⟨_, by assumption, rfl, rfl⟩) ?_)
  rw [et]
  have hls : NB (seenL rs ++ (List.range (topN rs)).map upC) ∧ (seenL rs).length ≤ 100 ∧ topN rs ≤ 9 := ⟨nb, h100, by omega⟩
  have hwo : NB (allL rs (topN rs)) ∧ 1 ≤ topN rs + 1 ∧ topN rs + 1 ≤ 10 := ⟨nb, by omega, by omega⟩
  have hrd : NB (allL rs (topN rs)) ∧ topN rs + 1 ≤ 10 ∧ NoRound (allL rs (topN rs)) := ⟨nb, by omega, nr⟩
  refine db_cons (ds_set (i := 3) g (de_call g (c_walks_of T) (des_cons (de_call g (c_least_steps T) (des_cons (de_slot (i := 1) g rfl) (des_cons (de_slot (i := 2) g rfl) des_nil)) ⟨_, _, hls, rfl, rfl⟩) (des_cons (de_add (de_slot (i := 2) g rfl) de_int) des_nil)) ⟨allL rs (topN rs), topN rs + 1, hwo, rfl, rfl⟩) ?_)
  refine db_cons (ds_set (i := 4) g (de_call g (c_round_in T) (des_cons (de_slot (i := 3) g rfl) des_nil) ⟨_, _, hrd, rfl, rfl⟩) ?_)
  refine db_cons (ds_ifE (dt_notN (de_slot (i := 4) g rfl)) (fun z => nomatch z) (fun z => db_nil ?_))
  have hlr : NB (allL rs (topN rs)) ∧ topN rs + 1 ≤ 10 ∧ ((List.range (topN rs + 1)).map fun (k : Nat) => (k : Int)).length ≤ 10 := ⟨nb, by omega, by simp; omega⟩
  have hz : (1 ≤ topN rs + 1 ∧ topN rs + 1 ≤ 10) := ⟨by omega, by omega⟩
  have ei : intsT (topN rs + 1) = ((List.range (topN rs + 1)).map fun (k : Nat) => (k : Int)).map isI := by unfold intsT; rw [List.map_map]; rfl
  refine db_one (ds_retT (de_tup (des_cons de_str (des_cons (de_call g (c_whole_numbers T) (des_cons ((de_call g (c_least_ratios T) (des_cons (de_slot (i := 3) g rfl) (des_cons (DE.seqI (ns := (List.range (topN rs + 1)).map fun (k : Nat) => (k : Int)) (by rw [← ei]; exact de_lstRange g T.b_list T.b_range (de_add (de_slot (i := 2) g rfl) de_int) (by push_cast; rfl) (by omega))) des_nil)) ⟨_, _, _, hlr, rfl, rfl⟩).sub (τ' := LstOf (List.replicate (topN rs + 1) Rat4T)) fun v F p => ?_) des_nil) ⟨_, hz, rfl, rfl⟩) des_nil))))
  obtain ⟨a, vs, e, hr, pv⟩ := p
  refine ⟨a, vs, e, hr, ?_⟩
  rw [List.map_const', List.length_map, List.length_range] at pv
  have : ∀ {n : Nat} {vs : List V}, All2 (List.replicate n RatT) vs F → All2 (List.replicate n Rat4T) vs F := fun {n} => by
    induction n with
    | zero => intro vs h; exact h
    | succ n ih =>
      intro vs h
      rw [List.replicate_succ] at h ⊢
      cases h with
      | cons a t => exact .cons (let ⟨d, ⟨x, e1, e2⟩, q⟩ := a; ⟨d, ⟨x, e1, e2.r4⟩, q⟩) (ih t)
  exact this pv
def S_ca : List Ty → Ty → Prop := fun τs τ => ∃ rs one other, (Wf rs ∧ NoRound (allL rs (topN rs)) ∧ (0 ≤ one ∧ one ≤ 8) ∧ (0 ≤ other ∧ other ≤ 8)) ∧ τs = [Is (encRs rs), Is (.int one), Is (.int other)] ∧ τ = Is .none
theorem c_check_asked (T : Txt W) : Cal W "check_asked" 6 ["results", "one", "other"] (spP S_ca) := by
  refine cal_P T.d_check_asked sc_check_asked (by decide) (fun _ _ _ _ _ _ us hl => match us, hl with | [_, _, _], _ => rfl) (fun τs τ h => by obtain ⟨_, _, _, _, rfl, _⟩ := h; rfl) fun X g τs τ h => ?_
  obtain ⟨rs, one, other, ⟨w, nr, ⟨h1, h2⟩, ⟨h3, h4⟩⟩, rfl, rfl⟩ := h
  have hf : Wf rs ∧ NoRound (allL rs (topN rs)) := ⟨w, nr⟩
  refine db_cons (ds_expr (de_call g (c_check_results T) (des_cons (de_slot (i := 0) g rfl) des_nil) ⟨_, by assumption, rfl, rfl⟩) ?_)
  refine db_cons (ds_ifE (dt_notE (dt_val (de_call g (c_is_whole_fitting T) (des_cons (de_slot (i := 1) g rfl) (des_cons de_int (des_cons de_int des_nil))) ⟨_, _, _, rfl, rfl⟩))) (fun z => absurd z (by simp [isWh, h1, h2])) (fun z => db_nil ?_))
  refine db_cons (ds_ifE (dt_notE (dt_val (de_call g (c_is_whole_fitting T) (des_cons (de_slot (i := 2) g rfl) (des_cons de_int (des_cons de_int des_nil))) ⟨_, _, _, rfl, rfl⟩))) (fun z => absurd z (by simp [isWh, h3, h4])) (fun z => db_nil ?_))
  exact db_one (ds_ifE (dt_cmp op_eq (de_ix (de_call g (c_fit T) (des_cons (de_slot (i := 0) g rfl) des_nil) ⟨_, hf, rfl, rfl⟩) de_int rfl) de_str vr_eqS) (fun z => absurd z (by decide)) (fun z => db_nil fun F => Dp.non))
def BestOK (cs : List Cd) (m : List (Key × Ty)) : Prop := (m.map (·.1)).Nodup ∧ ∀ x ∈ m, ∃ s : Int, ∃ p q : Nat, ∃ ws, (0 ≤ s ∧ s ≤ 9) ∧ RatOK (p, q) ∧ (∃ k, k ≤ 10 ∧ NmOK cs k ws) ∧ x = (.inl s, wkTy p q ws)
def allK : List Key := (List.range 10).map fun (s : Nat) => .inl (s : Int)
theorem keysK_len {m : List (Key × Ty)} (hn : (m.map (·.1)).Nodup) (h : ∀ x ∈ m, ∃ s : Int, (0 ≤ s ∧ s ≤ 9) ∧ x.1 = .inl s) : m.length ≤ 10 := by
  have := nodup_len (m.map (·.1)) allK hn fun k hk => by
    obtain ⟨x, hx, rfl⟩ := List.mem_map.mp hk
    obtain ⟨s, h1, e⟩ := h x hx
    rw [e]
    exact List.mem_map.mpr ⟨s.toNat, by simp; omega, by rw [Int.toNat_of_nonneg h1.1]⟩
  rw [List.length_map] at this
  exact Nat.le_trans this (by decide)
theorem BestOK.len {cs : List Cd} {m : List (Key × Ty)} (h : BestOK cs m) : m.length ≤ 10 := keysK_len h.1 fun x hx => by
  obtain ⟨s, p, q, ws, h1, _, _, rfl⟩ := h.2 x hx
  exact ⟨s, h1, rfl⟩
theorem BestOK.put {cs : List Cd} {m : List (Key × Ty)} (h : BestOK cs m) {s : Int} {p q : Nat} {ws : List PyData} (hs : 0 ≤ s ∧ s ≤ 9) (hr : RatOK (p, q)) {k : Nat} (hk : k ≤ 10) (hw : NmOK cs k ws) : BestOK cs (putM m (.inl s) (wkTy p q ws)) := ⟨putM_nodup h.1 _ _, fun x hx => (putM_mem hx).elim (fun e => ⟨s, p, q, ws, hs, hr, ⟨k, hk, hw⟩, e⟩) (h.2 x)⟩
theorem BestOK.val {cs : List Cd} {m : List (Key × Ty)} (h : BestOK cs m) {s : Int} {τ : Ty} (hv : valM m (Sum.inl s) = some τ) : ∃ p q : Nat, ∃ ws, RatOK (p, q) ∧ (∃ k, k ≤ 10 ∧ NmOK cs k ws) ∧ τ = wkTy p q ws := by
  obtain ⟨s', p, q, ws, _, hr, hw, e⟩ := h.2 _ (valM_mem hv)
  rw [Prod.mk.injEq] at e
  exact ⟨p, q, ws, hr, hw, e.2⟩
theorem RatOK.sz {x y : Nat} (h : RatOK (x, y)) : Sz (x : Int) ∧ Sz (y : Int) := by
  obtain ⟨x1, x2, x3, x4⟩ := id h
  simp only at x1 x2 x3 x4
  have z10' : ((1000 ^ 10 : Nat) : Int) = 1000 ^ 10 := by decide
  have z10'' : ((1000 : Int) ^ 10) ≤ 2 ^ 1000 := by decide
  exact ⟨⟨by omega, by omega⟩, ⟨by omega, by omega⟩⟩
def S_bw : List Ty → Ty → Prop := fun τs τ => ∃ rs other, (Wf rs ∧ (0 ≤ other ∧ other ≤ 8)) ∧ τs = [Is (encRs rs), Is (.int other)] ∧ τ = FDx kdK (BestOK (allL rs 9))
theorem c_best_walks (T : Txt W) : Cal W "best_walks" 3 ["results", "other"] (spP S_bw) := by
  refine cal_P T.d_best_walks sc_best_walks (by decide) (fun _ _ _ _ _ _ us hl => match us, hl with | [_, _], _ => rfl) (fun τs τ h => by obtain ⟨_, _, _, rfl, _⟩ := h; rfl) fun X g τs τ h => ?_
  obtain ⟨rs, other, ⟨w, h1, h2⟩, rfl, rfl⟩ := h
  have nb := nb_all w (show 9 ≤ 9 by omega)
  have h27 := seenL_len w
  have hls : NB (seenL rs ++ (List.range 9).map upC) ∧ (seenL rs).length ≤ 100 ∧ 9 ≤ 9 := ⟨nb, by omega, by omega⟩
  have hwo : NB (allL rs 9) ∧ 1 ≤ 9 ∧ 9 ≤ 10 := ⟨nb, by omega, by omega⟩
  refine db_cons (ds_set (i := 2) g (de_call g (c_walks_of T) (des_cons (de_call g (c_least_steps T) (des_cons (de_call g (c_seen_in T) (des_cons (de_slot (i := 0) g rfl) des_nil) ⟨_, by assumption, rfl, rfl⟩) (des_cons de_int des_nil)) ⟨seenL rs, 9, hls, rfl, rfl⟩) (des_cons de_int des_nil)) ⟨allL rs 9, 9, hwo, rfl, rfl⟩) ?_)
  refine db_cons (ds_setF (i := 3) g (df_disp1 (k := .inl other) (de_slot (i := 1) g rfl) (DE.tupI (ds := [_, _, _]) (de_tup (des_cons de_int (des_cons de_int (des_cons (DE.tupI (ds := []) (de_tup des_nil)) des_nil)))))) fun pf => ?_)
  refine db_cons (ds_for g (di_list (de_slot (i := 2) g rfl)) fun ys hy => ⟨fun i ρ' => ∃ (m : List (Key × Ty)) (s4 s5 s6 s7 : Sl), ρ' = [.dat (Is (encRs rs)), .dat (Is (.int other)), .dat (LstOf (rowTys (allL rs 9) 9)), .own pf (OD kdK m), s4, s5, s6, s7] ∧ BestOK (allL rs 9) m, ⟨_, _, _, _, _, rfl, ⟨List.nodup_cons.mpr ⟨fun h => (nomatch h), List.nodup_nil⟩, fun x hx => ?_⟩⟩, ?_, ?_⟩)
  · rw [List.mem_singleton.mp hx]
    exact ⟨other, 1, 1, [], ⟨h1, by omega⟩, by unfold RatOK; decide, ⟨0, by omega, rfl, fun w hw => nomatch hw⟩, rfl⟩
  · rintro i y ρ' ey ⟨m, s4, s5, s6, s7, rfl, hm⟩
    subst hy
    obtain ⟨i', ei, rfl⟩ := map_get ey
    have hi : i' < 9 := by have := List.mem_of_getElem? ei; simpa using this
    refine (dg_name (i := 4) g (by first | exact .inl rfl | exact .inr ⟨rfl, rfl⟩) rfl (lt_of_get rfl) ?_)
    refine DB.anyD (i := 4) rfl fun mw hw => ?_
    refine db_one (ds_forD (i := 4) (m := mw) g rfl (fun _ v F F' u p => (FDx kdK (BestOK (allL rs 9))).up v F F' u p) ⟨fun j ρ' => ∃ (m : List (Key × Ty)) (s5 s6 s7 : Sl), ρ' = [.dat (Is (encRs rs)), .dat (Is (.int other)), .dat (LstOf (rowTys (allL rs 9) 9)), .own pf (OD kdK m), .dat (FD kdT mw), s5, s6, s7] ∧ BestOK (allL rs 9) m, ⟨m, _, _, _, rfl, hm⟩, ?_, ?_⟩)
    · clear hm m
      rintro j ks τ ρ' em ⟨m, s5, s6, s7, rfl, hm⟩
      have hmem := List.mem_of_getElem? em
      obtain ⟨s, e, p0, q0, ws0, _, _, ek⟩ := hw.2 _ hmem
      rw [Prod.mk.injEq] at ek
      obtain ⟨rfl, _⟩ := ek
      obtain ⟨τ', hv⟩ := valM_some (List.mem_map.mpr ⟨_, hmem, rfl⟩ : Key2 s e ∈ mw.map (·.1))
      obtain ⟨p, q, ws, hwk, hwl, rfl⟩ := hw.val hv
      obtain ⟨n1, n2, b1, b2, b3, b4⟩ := hwk.ok nb
      have hm10 := pow_mono (show i' + 1 ≤ 10 by omega)
      obtain ⟨sp, sq⟩ := hwk.sz nb (by omega)
      unfold wkTy at hv
      obtain ⟨P, rfl⟩ : ∃ P : Nat, p = P := ⟨p.toNat, by omega⟩
      obtain ⟨Q, rfl⟩ : ∃ Q : Nat, q = Q := ⟨q.toNat, by omega⟩
      have z10' : ((1000 ^ 10 : Nat) : Int) = 1000 ^ 10 := by decide
      have hr : RatOK (P, Q) := ⟨by show 1 ≤ P; omega, by show 1 ≤ Q; omega, by show P ≤ _; omega, by show Q ≤ _; omega⟩
      have hl := hm.len
      refine DG.keyT (dg_tup g (dgs_cons (dg_name (i := 5) g (by first | exact .inl rfl | exact .inr ⟨rfl, rfl⟩) rfl (lt_of_get rfl) (dgs_cons (dg_name (i := 6) g (by first | exact .inl rfl | exact .inr ⟨rfl, rfl⟩) rfl (lt_of_get rfl) (dgs_nil ?_))))))
      refine db_cons (ds_set (i := 7) g (de_dget g (D := kdT) (de_slot (i := 4) g rfl) (de_keyT (ks := [.inl _, .inl _]) (des_cons (de_slot (i := 5) g rfl) (des_cons (de_slot (i := 6) g rfl) des_nil))) (by assumption)) ?_)
      have fin : BestOK (allL rs 9) (putM m (.inl s) (wkTy P Q ws)) := hm.put n1 hr (by omega) hwl
      cases hv3 : valM m (Sum.inl s : Key) with
      | none =>
        exact db_one (ds_ifE (DW.dt (dw_andE (dt_cmp op_eq (de_slot (i := 6) g rfl) (de_slot (i := 1) g rfl) vr_eqI) fun _ => dw_and1 (DW.dt (dw_orT (dt_dnotinO (s := 3) g (D := kdK) (k := Sum.inl _) (de_slot (i := 5) g rfl) (de_own (i := 3) g rfl) rfl) (by show (!(valM m (Sum.inl s : Key)).isSome) = true; rw [hv3]; rfl))))) (fun z => db_one (ds_dput (s := 3) (D := kdK) (k := Sum.inl s) g rfl (de_slot (i := 5) g rfl) (de_slot (i := 7) g rfl) (by show m.length ≤ _; omega) ⟨_, _, _, _, rfl, fin⟩)) (fun z => db_nil ⟨m, _, _, _, rfl, hm⟩))
      | some τ =>
        obtain ⟨P', Q', ws', hr', _, rfl⟩ := hm.val hv3
        obtain ⟨sp3, sq3⟩ := hr'.sz
        unfold wkTy at hv3
        exact db_one (ds_ifE (DW.dt (dw_andE (dt_cmp op_eq (de_slot (i := 6) g rfl) (de_slot (i := 1) g rfl) vr_eqI) (fun _ => (dw_and1 (DW.dt (dw_orE (dt_dnotinO (s := 3) g (D := kdK) (k := Sum.inl _) (de_slot (i := 5) g rfl) (de_own (i := 3) g rfl) rfl) (fun _ => (dw_or1 (dt_cmp op_lt (de_mulW (de_ixI (de_slot (i := 7) g rfl) de_int (by first | assumption | rfl | exact atI_of (by decide) rfl)) (de_ixI (de_dgetO (s := 3) g (D := kdK) (k := Sum.inl _) (de_own (i := 3) g rfl) rfl (de_slot (i := 5) g rfl) (by assumption)) de_int (by first | assumption | rfl | exact atI_of (by decide) rfl)) (by first | assumption | exact cmulW_sz (by assumption) (by assumption))) (de_mulW (de_ixI (de_dgetO (s := 3) g (D := kdK) (k := Sum.inl _) (de_own (i := 3) g rfl) rfl (de_slot (i := 5) g rfl) (by assumption)) de_int (by first | assumption | rfl | exact atI_of (by decide) rfl)) (de_ixI (de_slot (i := 7) g rfl) de_int (by first | assumption | rfl | exact atI_of (by decide) rfl)) (by first | assumption | exact cmulW_sz (by assumption) (by assumption))) vr_lt))))))))) (fun z => db_one (ds_dput (s := 3) (D := kdK) (k := Sum.inl s) g rfl (de_slot (i := 5) g rfl) (de_slot (i := 7) g rfl) (by show m.length ≤ _; omega) ⟨_, _, _, _, rfl, fin⟩)) (fun z => db_nil ⟨m, _, _, _, rfl, hm⟩))
    · rintro ρ' ⟨m, s5, s6, s7, rfl, hm⟩
      exact ⟨m, _, _, _, _, rfl, hm⟩
  · rintro ρ' ⟨m, s4, s5, s6, s7, rfl, hm⟩
    refine DB.freeze (i := 3) (p := pf) ?_ rfl
    exact db_one (ds_ret (de_slot (i := 3) g rfl) fun v F p => ⟨⟨m, hm⟩, froz_od p⟩)
end
end K35
set_option Elab.async false
set_option linter.all false
set_option maxRecDepth 100000
set_option maxHeartbeats 1000000
set_option exponentiation.threshold 20000
/-! evidence -/
namespace K35
open PySem PySem.Spec L2
def ReachOK (m : List (Key × Ty)) : Prop := (m.map (·.1)).Nodup ∧ ∀ x ∈ m, ∃ s : Int, (0 ≤ s ∧ s ≤ 9) ∧ x.1 = .inl s
theorem ReachOK.len {m : List (Key × Ty)} (h : ReachOK m) : m.length ≤ 10 := keysK_len h.1 h.2
theorem ReachOK.put {m : List (Key × Ty)} (h : ReachOK m) {s : Int} {τ : Ty} (hs : 0 ≤ s ∧ s ≤ 9) : ReachOK (putM m (.inl s) τ) := ⟨putM_nodup h.1 _ _, fun x hx => (putM_mem hx).elim (fun e => ⟨s, hs, by rw [e]⟩) (h.2 x)⟩
theorem ReachOK.merge : ∀ {more m : List (Key × Ty)}, (∀ x ∈ more, ∃ s : Int, (0 ≤ s ∧ s ≤ 9) ∧ x.1 = .inl s) → ReachOK m → ReachOK (mergeM m more)
  | [], m, _, h => h
  | x :: more, m, hx, h => by
    obtain ⟨s, hs, e⟩ := hx x (by simp)
    show ReachOK (mergeM (putM m x.1 x.2) more)
    rw [e]
    exact ReachOK.merge (fun y hy => hx y (List.mem_cons_of_mem _ hy)) (h.put hs)
theorem ReachOK.ints : ∀ {m : List (Key × Ty)}, (∀ x ∈ m, ∃ s : Int, (0 ≤ s ∧ s ≤ 9) ∧ x.1 = .inl s) → ∃ ns : List Int, m.map (·.1) = ns.map Sum.inl ∧ ∀ n ∈ ns, 0 ≤ n ∧ n ≤ 9
  | [], _ => ⟨[], rfl, fun n hn => nomatch hn⟩
  | x :: m, h => by
    obtain ⟨s, hs, e⟩ := h x (by simp)
    obtain ⟨ns, e2, hn⟩ := ReachOK.ints fun y hy => h y (List.mem_cons_of_mem _ hy)
    exact ⟨s :: ns, by rw [List.map_cons, List.map_cons, e, e2], fun n hm => (List.mem_cons.mp hm).elim (fun z => z ▸ hs) (hn n)⟩
def ChosenOK (d : PyData) : Prop := ∃ ns : List Int, d = .tuple (ns.map I') ∧ ns.length ≤ 10 ∧ ∀ n ∈ ns, 0 ≤ n ∧ n ≤ 9
theorem times_ok {a b c d e f t : Nat} (ha : a ≤ 1000 ^ 10) (hb : b ≤ 1000) (hc : c ≤ 1000 ^ 10) (hd : 1 ≤ d) (he : 1 ≤ e) (hf : 1 ≤ f) (ht : t ≤ 2 ^ 220) : max t (a * b * c / (d * e * f) + 1) ≤ 2 ^ 220 := by
  have h1 : a * b * c ≤ 1000 ^ 10 * 1000 * 1000 ^ 10 := Nat.mul_le_mul (Nat.mul_le_mul ha hb) hc
  have h2 : a * b * c / (d * e * f) ≤ a * b * c := Nat.div_le_self _ _
  have h3 : (1000 ^ 10 * 1000 * 1000 ^ 10 : Nat) + 1 ≤ 2 ^ 220 := by decide
  omega
section
variable {W : Wd}
def S_sp : List Ty → Ty → Prop := fun τs τ => ∃ rs other, (Wf rs ∧ (0 ≤ other ∧ other ≤ 8)) ∧ τs = [Is (encRs rs), Is (.int other)] ∧ τ = Ex (NumsOK 10)
theorem c_spread (T : Txt W) : Cal W "spread" 4 ["results", "other"] (spP S_sp) := by
  refine cal_P T.d_spread sc_spread (by decide) (fun _ _ _ _ _ _ us hl => match us, hl with | [_, _], _ => rfl) (fun τs τ h => by obtain ⟨_, _, _, rfl, _⟩ := h; rfl) fun X g τs τ h => ?_
  obtain ⟨rs, other, ⟨w, h12⟩, rfl, rfl⟩ := h
  have nb := nb_all w (show 9 ≤ 9 by omega)
  have h27 := seenL_len w
  have hbw : Wf rs ∧ (0 ≤ other ∧ other ≤ 8) := ⟨w, h12⟩
  have hls : NB (seenL rs ++ (List.range 9).map upC) ∧ (seenL rs).length ≤ 100 ∧ 9 ≤ 9 := ⟨nb, by omega, by omega⟩
  have hwo : NB (allL rs 9) ∧ 1 ≤ 9 ∧ 9 ≤ 10 := ⟨nb, by omega, by omega⟩
  have hlr : NB (allL rs 9) ∧ 9 ≤ 10 ∧ tenI.length ≤ 10 := ⟨nb, by omega, by decide⟩
  refine db_cons (ds_set (i := 2) g (de_call g (c_best_walks T) (des_cons (de_slot (i := 0) g rfl) (des_cons (de_slot (i := 1) g rfl) des_nil)) ⟨_, _, by assumption, rfl, rfl⟩) ?_)
  refine DB.anyD (i := 2) rfl fun mb hb => ?_
  refine db_cons (ds_set (i := 3) g (de_call g (c_walks_of T) (des_cons (de_call g (c_least_steps T) (des_cons (de_call g (c_seen_in T) (des_cons (de_slot (i := 0) g rfl) des_nil) ⟨_, by assumption, rfl, rfl⟩) (des_cons de_int des_nil)) ⟨seenL rs, 9, hls, rfl, rfl⟩) (des_cons de_int des_nil)) ⟨allL rs 9, 9, hwo, rfl, rfl⟩) ?_)
  refine db_cons (ds_set (i := 4) (τ := LstOf (List.replicate 10 RatT)) g ((de_call g (c_least_ratios T) (des_cons (de_slot (i := 3) g rfl) (des_cons (de_inds T g) des_nil)) ⟨_, _, _, hlr, rfl, rfl⟩).sub fun v F p => p) ?_)
  refine DB.exL (i := 4) rfl fun ds hlen hds => ?_
  obtain ⟨xs, rfl, hx⟩ := ratDs hds
  rw [List.length_map] at hlen
  refine db_cons (ds_set (i := 5) g (de_call g (c_least_steps T) (des_cons (de_call g (c_seen_in T) (des_cons (de_slot (i := 0) g rfl) des_nil) ⟨_, by assumption, rfl, rfl⟩) (des_cons de_int des_nil)) ⟨seenL rs, 9, hls, rfl, rfl⟩) ?_)
  refine DB.anyD (i := 5) rfl fun ms hs => ?_
  refine db_cons (ds_set (i := 6) g de_int ?_)
  have getX : ∀ e : Int, 0 ≤ e ∧ e ≤ 9 → ∃ x : Nat × Nat, atI (xs.map ratD) e = some (ratD x) ∧ RatOK x := fun e he => by
    have hl : e.toNat < xs.length := by omega
    exact ⟨xs[e.toNat], atI_of he.1 (by rw [List.getElem?_map, List.getElem?_eq_getElem hl]; rfl), hx _ (List.getElem_mem hl)⟩
  refine db_cons (ds_forD (i := 5) (m := ms) g rfl (fun _ v F F' u p => (Ex (NumsOK 10)).up v F F' u p) ⟨fun j ρ' => ∃ (t : Nat) (s7 s8 s9 s10 s11 s12 : Sl), ρ' = [.dat (Is (encRs rs)), .dat (Is (.int other)), .dat (FD kdK mb), .dat (LstOf (rowTys (allL rs 9) 9)), .dat (Is (.list (xs.map ratD))), .dat (FD kdT ms), .dat (Is (.int (t : Nat))), s7, s8, s9, s10, s11, s12] ∧ 1 ≤ t ∧ t ≤ 2 ^ 220, ⟨1, _, _, _, _, _, _, rfl, Nat.le_refl _, by decide⟩, ?_, ?_⟩)
  · rintro j ks τ ρ' em ⟨t, s7, s8, s9, s10, s11, s12, rfl, ht1, ht2⟩
    have hmem := List.mem_of_getElem? em
    obtain ⟨c0, hc0, ek⟩ := hs.2 _ hmem
    rw [Prod.mk.injEq] at ek
    obtain ⟨rfl, _⟩ := ek
    obtain ⟨τ', hv2⟩ := valM_some (List.mem_map.mpr ⟨_, hmem, rfl⟩ : Key2 c0.s c0.e ∈ ms.map (·.1))
    obtain ⟨c, hc, e1, e2, rfl⟩ := hs.val hv2
    rw [← e1, ← e2] at hv2
    refine DG.keyT (dg_tup g (dgs_cons (dg_name (i := 7) g (by first | exact .inl rfl | exact .inr ⟨rfl, rfl⟩) rfl (lt_of_get rfl) (dgs_cons (dg_name (i := 8) g (by first | exact .inl rfl | exact .inr ⟨rfl, rfl⟩) rfl (lt_of_get rfl) (dgs_nil ?_))))))
    rw [← e1, ← e2]
    have n := nb c hc
    have n1 := n.p1
    have n2 := n.pk
    have n3 := n.q1
    have n4 := n.qk
    unfold stTy at hv2
    obtain ⟨⟨fx, fy⟩, hfx, hfo⟩ := getX c.e ⟨n.e0, n.e9⟩
    obtain ⟨f1, f2, f3, f4⟩ := id hfo
    simp only at f1 f2 f3 f4
    cases hv3 : valM mb (Sum.inl c.s : Key) with
    | none =>
      exact db_one (ds_ifE (DW.dt (dw_andF (dt_din g (D := kdK) (k := Sum.inl _) (de_slot (i := 7) g rfl) (de_slot (i := 2) g rfl)) (by show ((valM mb (Sum.inl c.s : Key)).isSome) = false; rw [hv3]; rfl))) (fun z => nomatch z) (fun z => db_nil ⟨t, _, _, _, _, _, _, rfl, ht1, ht2⟩))
    | some τ =>
      obtain ⟨P, Q, ws, hr, _, rfl⟩ := hb.val hv3
      obtain ⟨r1, r2, r3, r4⟩ := id hr
      simp only at r1 r2 r3 r4
      unfold wkTy at hv3
      have hcp : (c.p : Int) = (c.p.toNat : Int) := by omega
      have hcq : (c.q : Int) = (c.q.toNat : Int) := by omega
      have k1 : (1000 ^ 10 : Nat) ≤ 2 ^ 1000 := by decide
      have k2 : (1000 ^ 10 * 1000 : Nat) ≤ 2 ^ 8000 := by decide
      have k3 : (1000 ^ 10 : Nat) ≤ 2 ^ 8000 := by decide
      have k4 : (1000 ^ 10 * 1000 * 1000 ^ 10 : Nat) ≤ 2 ^ 8000 := by decide
      have q1 : P * c.q.toNat ≤ 1000 ^ 10 * 1000 := Nat.mul_le_mul r3 (by omega)
      have q2 : Q * c.p.toNat ≤ 1000 ^ 10 * 1000 := Nat.mul_le_mul r4 (by omega)
      have q3 : Q * c.p.toNat * fx ≤ 1000 ^ 10 * 1000 * 1000 ^ 10 := Nat.mul_le_mul q2 f3
      have o1 : 1 ≤ Q * c.p.toNat := Nat.mul_le_mul r2 (show 1 ≤ c.p.toNat by omega)
      have o2 : 1 ≤ Q * c.p.toNat * fx := Nat.mul_le_mul o1 f1
      have e1' : ((P * c.q.toNat : Nat) : Int) = (P : Int) * c.q := by push_cast; rw [← hcq]
      have e2' : ((Q * c.p.toNat : Nat) : Int) = (Q : Int) * c.p := by push_cast; rw [← hcp]
      have m1 : CMulW ((P : Int) * c.q) (fy : Int) := by rw [← e1']; exact nmulW (Nat.le_trans q1 k2) (Nat.le_trans f4 k3)
      have m2 : CMulW ((Q : Int) * c.p) (fx : Int) := by rw [← e2']; exact nmulW (Nat.le_trans q2 k2) (Nat.le_trans f3 k3)
      have e3' : ((Q * c.p.toNat * fx : Nat) : Int) = (Q : Int) * c.p * fx := by push_cast; rw [← hcp]
      have d1 : CDivW ((P : Int) * c.q * fy) ((Q : Int) * c.p * fx) := by rw [← e3']; exact ndivW o2 (Nat.le_trans q3 k4)
      refine db_one (ds_ifE (DW.dt (dw_andE (dt_din g (D := kdK) (k := Sum.inl _) (de_slot (i := 7) g rfl) (de_slot (i := 2) g rfl)) (fun _ => (dw_and1 (dt_dnotin g (D := kdK) (k := Sum.inl _) (de_slot (i := 8) g rfl) (de_slot (i := 2) g rfl)))))) (fun z => ?_) (fun z => db_nil ⟨t, _, _, _, _, _, _, rfl, ht1, ht2⟩))
      refine db_cons (ds_set (i := 9) g (de_mulW (de_mul (de_ixI (de_dget g (D := kdK) (k := Sum.inl _) (de_slot (i := 2) g rfl) (de_slot (i := 7) g rfl) (by assumption)) de_int (by first | assumption | rfl | exact atI_of (by decide) rfl)) (de_ixI (de_dget g (D := kdT) (de_slot (i := 5) g rfl) (de_keyT (ks := [.inl _, .inl _]) (des_cons (de_slot (i := 7) g rfl) (des_cons (de_slot (i := 8) g rfl) des_nil))) (by assumption)) de_int (by first | assumption | rfl | exact atI_of (by decide) rfl)) (by first | assumption | (refine .inl ⟨?_, ?_⟩ <;> omega) | (refine .inr ⟨?_, ?_⟩ <;> omega))) (de_ixI (ds := [.int fx, .int fy]) (de_ixLI (d := ratD (fx, fy)) (de_slot (i := 4) g rfl) (de_slot (i := 8) g rfl) hfx) de_int rfl) m1) ?_)
      refine db_cons (ds_set (i := 10) g (de_mulW (de_mul (de_ixI (de_dget g (D := kdK) (k := Sum.inl _) (de_slot (i := 2) g rfl) (de_slot (i := 7) g rfl) (by assumption)) de_int (by first | assumption | rfl | exact atI_of (by decide) rfl)) (de_ixI (de_dget g (D := kdT) (de_slot (i := 5) g rfl) (de_keyT (ks := [.inl _, .inl _]) (des_cons (de_slot (i := 7) g rfl) (des_cons (de_slot (i := 8) g rfl) des_nil))) (by assumption)) de_int (by first | assumption | rfl | exact atI_of (by decide) rfl)) (by first | assumption | (refine .inl ⟨?_, ?_⟩ <;> omega) | (refine .inr ⟨?_, ?_⟩ <;> omega))) (de_ixI (ds := [.int fx, .int fy]) (de_ixLI (d := ratD (fx, fy)) (de_slot (i := 4) g rfl) (de_slot (i := 8) g rfl) hfx) de_int rfl) m2) ?_)
      refine db_one (ds_set (i := 6) g (de_max2 g T.b_max (de_slot (i := 6) g rfl) (de_add (de_fdivW (de_slot (i := 9) g rfl) (de_slot (i := 10) g rfl) (by first | assumption | exact ⟨by omega, by assumption⟩)) de_int)) ?_)
      have et : ((max t (P * c.q.toNat * fy / (Q * c.p.toNat * fx) + 1) : Nat) : Int) = max (t : Int) ((P : Int) * c.q * fy / ((Q : Int) * c.p * fx) + 1) := by
        have eb : ((P * c.q.toNat * fy / (Q * c.p.toNat * fx) : Nat) : Int) = (P : Int) * c.q * fy / ((Q : Int) * c.p * fx) := by push_cast; rw [← hcp, ← hcq]
        rw [← eb]; omega
      exact ⟨max t (P * c.q.toNat * fy / (Q * c.p.toNat * fx) + 1), _, _, _, _, _, _, by rw [et]; rfl, by omega, times_ok r3 (by omega) f4 r2 (by omega) f1 ht2⟩
  rintro ρ' ⟨t, s7, s8, s9, s10, s11, s12, rfl, ht1, ht2⟩
  refine db_cons (ds_setF (i := 11) g (df_lst des_nil) fun pr => ?_)
  refine db_cons (ds_for g (di_inds T g) fun ys hy => ⟨fun i ρ' => ∃ (s7 s8 s9 s10 s12 : Sl), ρ' = [.dat (Is (encRs rs)), .dat (Is (.int other)), .dat (FD kdK mb), .dat (LstOf (rowTys (allL rs 9) 9)), .dat (Is (.list (xs.map ratD))), .dat (FD kdT ms), .dat (Is (.int (t : Nat))), s7, s8, s9, s10, .own pr (OL (List.replicate i Rat4T)), s12], ⟨_, _, _, _, _, rfl⟩, ?_, ?_⟩)
  · rintro i y ρ' ey ⟨s7, s8, s9, s10, s12, rfl⟩
    subst hy
    obtain ⟨ix, ei, rfl⟩ := map_get ey
    have hix : 0 ≤ ix ∧ ix ≤ 9 := by
      have : ∀ z ∈ tenI, 0 ≤ z ∧ z ≤ 9 := by decide
      exact this ix (List.mem_of_getElem? ei)
    have hi10 : i < 10 := (List.getElem?_eq_some_iff.mp ei).1
    refine (dg_name (i := 12) g (by first | exact .inl rfl | exact .inr ⟨rfl, rfl⟩) rfl (lt_of_get rfl) ?_)
    obtain ⟨⟨fx, fy⟩, hfx, hfo⟩ := getX ix hix
    obtain ⟨f1, f2, f3, f4⟩ := id hfo
    simp only at f1 f2 f3 f4
    have app : ∀ {e : Expr} {ρ : List Sl}, True := fun {_ _} => trivial
    have fin : ∀ {x y : Nat}, 1 ≤ x → 1 ≤ y → x ≤ 2 ^ 400 → y ≤ 1000 ^ 10 → (0 < Nat.gcd x y ∧ (Nat.gcd x y).log2 < 9000) ∧ ∃ z, redN x y = ratD z ∧ Rat4 z := fun {x y} hx1 hy1 hx2 hy2 => by
      refine ⟨gcd_log hy1 (Nat.le_trans hy2 (by decide)), (x / Nat.gcd x y, y / Nat.gcd x y), rfl, ?_, ?_, ?_, ?_⟩
      · exact (Nat.le_div_iff_mul_le (Nat.gcd_pos_of_pos_right _ (by omega))).mpr (by rw [Nat.one_mul]; exact Nat.gcd_le_left _ (by omega))
      · exact (Nat.le_div_iff_mul_le (Nat.gcd_pos_of_pos_right _ (by omega))).mpr (by rw [Nat.one_mul]; exact Nat.gcd_le_right _ (by omega))
      · exact Nat.le_trans (Nat.div_le_self _ _) hx2
      · exact Nat.le_trans (Nat.div_le_self _ _) (Nat.le_trans hy2 (by decide))
    cases hv3 : valM mb (Sum.inl ix : Key) with
    | none =>
      refine db_one (ds_ifE (b1 := false) (DT.eqE (dt_din g (D := kdK) (k := Sum.inl _) (de_slot (i := 12) g rfl) (de_slot (i := 2) g rfl)) (by show ((valM mb (Sum.inl ix : Key)).isSome) = false; rw [hv3]; rfl)) (fun z => nomatch z) (fun z => ?_))
      have hb1 : 1 ≤ t * fx := Nat.mul_le_mul ht1 f1
      have hb2 : t * fx ≤ 2 ^ 400 := Nat.le_trans (Nat.mul_le_mul ht2 f3) (by decide)
      obtain ⟨g1, g2⟩ := fin hb1 f2 hb2 f4
      have m1 : CMulW (t : Int) (fx : Int) := nmulW (Nat.le_trans ht2 (by decide)) (Nat.le_trans f3 (by decide))
      refine db_one (ds_append (s := 11) (τ := Rat4T) g rfl ((de_call g (c_reduced T) (des_cons (de_mulW (de_slot (i := 6) g rfl) (de_ixI (ds := [.int fx, .int fy]) (de_ixLI (d := ratD (fx, fy)) (de_slot (i := 4) g rfl) (de_slot (i := 12) g rfl) hfx) de_int rfl) m1) (des_cons (de_ixI (ds := [.int fx, .int fy]) (de_ixLI (d := ratD (fx, fy)) (de_slot (i := 4) g rfl) (de_slot (i := 12) g rfl) hfx) de_int rfl) des_nil)) ⟨t * fx, fy, g1, by push_cast; rfl, rfl⟩).ex g2) (by rw [List.length_replicate]; omega) ?_)
      exact ⟨_, _, _, _, _, by rw [List.replicate_succ']; rfl⟩
    | some τ =>
      obtain ⟨P, Q, ws, hr, _, rfl⟩ := hb.val hv3
      obtain ⟨r1, r2, r3, r4⟩ := id hr
      simp only at r1 r2 r3 r4
      unfold wkTy at hv3
      obtain ⟨g1, g2⟩ := fin r1 r2 (Nat.le_trans r3 (by decide)) r4
      refine db_one (ds_ifE (b1 := true) (DT.eqE (dt_din g (D := kdK) (k := Sum.inl _) (de_slot (i := 12) g rfl) (de_slot (i := 2) g rfl)) (by show ((valM mb (Sum.inl ix : Key)).isSome) = true; rw [hv3]; rfl)) (fun z => ?_) (fun z => nomatch z))
      refine db_one (ds_append (s := 11) (τ := Rat4T) g rfl ((de_call g (c_reduced T) (des_cons (de_ixI (de_dget g (D := kdK) (k := Sum.inl _) (de_slot (i := 2) g rfl) (de_slot (i := 12) g rfl) (by assumption)) de_int (by first | assumption | rfl | exact atI_of (by decide) rfl)) (des_cons (de_ixI (de_dget g (D := kdK) (k := Sum.inl _) (de_slot (i := 2) g rfl) (de_slot (i := 12) g rfl) (by assumption)) de_int (by first | assumption | rfl | exact atI_of (by decide) rfl)) des_nil)) ⟨P, Q, g1, rfl, rfl⟩).ex g2) (by rw [List.length_replicate]; omega) ?_)
      exact ⟨_, _, _, _, _, by rw [List.replicate_succ']; rfl⟩
  · rintro ρ' ⟨s7, s8, s9, s10, s12, rfl⟩
    subst hy
    refine DB.freezeL (i := 11) (p := pr) ?_ rfl
    exact db_one (ds_retT (de_call g (c_whole_numbers T) (des_cons (de_slot (i := 11) g rfl) des_nil) ⟨10, ⟨by omega, by omega⟩, rfl, rfl⟩))
def S_rf : List Ty → Ty → Prop := fun τs τ => ∃ rs one, (Wf rs ∧ (0 ≤ one ∧ one ≤ 8)) ∧ τs = [Is (encRs rs), Is (.int one)] ∧ τ = Ex ChosenOK
theorem c_reached_from (T : Txt W) : Cal W "reached_from" 2 ["results", "one"] (spP S_rf) := by
  refine cal_P T.d_reached_from sc_reached_from (by decide) (fun _ _ _ _ _ _ us hl => match us, hl with | [_, _], _ => rfl) (fun τs τ h => by obtain ⟨_, _, _, rfl, _⟩ := h; rfl) fun X g τs τ h => ?_
  obtain ⟨rs, one, ⟨w, h1, h2⟩, rfl, rfl⟩ := h
  have nb := nb_all w (show 9 ≤ 9 by omega)
  have h27 := seenL_len w
  have hls : NB (seenL rs ++ (List.range 9).map upC) ∧ (seenL rs).length ≤ 100 ∧ 9 ≤ 9 := ⟨nb, by omega, by omega⟩
  refine db_cons (ds_set (i := 2) g (de_call g (c_least_steps T) (des_cons (de_call g (c_seen_in T) (des_cons (de_slot (i := 0) g rfl) des_nil) ⟨_, by assumption, rfl, rfl⟩) (des_cons de_int des_nil)) ⟨seenL rs, 9, hls, rfl, rfl⟩) ?_)
  refine DB.anyD (i := 2) rfl fun ms hs => ?_
  have hl := hs.len nb
  refine db_cons (ds_setF (i := 3) g (df_disp1 (k := .inl one) (de_slot (i := 1) g rfl) de_bl) fun pf => ?_)
  refine db_cons (ds_for g (di_inds T g) fun ys hy => ⟨fun i ρ' => ∃ (m : List (Key × Ty)) (s4 s5 s6 : Sl), ρ' = [.dat (Is (encRs rs)), .dat (Is (.int one)), .dat (FD kdT ms), .own pf (OD kdK m), s4, s5, s6] ∧ s5.noOwn = true ∧ s6.noOwn = true ∧ ReachOK m, ⟨_, _, _, _, rfl, rfl, rfl, List.nodup_cons.mpr ⟨fun h => (nomatch h), List.nodup_nil⟩, fun x hx => ⟨one, ⟨h1, by omega⟩, by rw [List.mem_singleton.mp hx]⟩⟩, ?_, ?_⟩)
  · rintro i y ρ' ey ⟨m, s4, s5, s6, rfl, h5, h6, hm⟩
    subst hy
    obtain ⟨ix, ei, rfl⟩ := map_get ey
    have hml := hm.len
    refine (dg_name (i := 4) g (by first | exact .inl rfl | exact .inr ⟨rfl, rfl⟩) rfl (lt_of_get rfl) ?_)
    refine db_one (ds_dupd (s := 3) (m := m) (P2 := ReachOK) g rfl ((df_dc (KD := kdK) (i := 2) (m := ms) (own := [("start", 5), ("end", 6)]) (Pt := ReachOK) g rfl (by decide +kernel) ?_ (by omega) (fun j ts => ReachOK ts ∧ ts.length ≤ j) ⟨⟨List.nodup_nil, fun x hx => nomatch hx⟩, Nat.le_refl _⟩ (fun i ts h => h.2) ?_ (fun ts h => h.1)).dat.sub fun _ _ => froz_odx) (fun m2 h2 => by have : m2.length ≤ 10 := ReachOK.len h2; show m.length + m2.length ≤ _; omega) (fun m2 h2 => ⟨_, _, _, _, rfl, h5, h6, ReachOK.merge h2.2 hm⟩))
    · intro i hi a ω
      simp at hi
      rcases hi with rfl | rfl
      · exact noOwn_of ⟨_, rfl, h5⟩ a ω
      · exact noOwn_of ⟨_, rfl, h6⟩ a ω
    · intro j ks τ0 ts em hts
      have hmem := List.mem_of_getElem? em
      obtain ⟨c, hc, ek⟩ := hs.2 _ hmem
      rw [Prod.mk.injEq] at ek
      obtain ⟨rfl, _⟩ := ek
      have n := nb c hc
      refine ⟨[.dat (Is (encRs rs)), .dat (Is (.int one)), .dat (FD kdT ms), .own pf (OD kdK m), .dat (isI ix), .dat (isI c.s), .dat (isI c.e)], fun l hl => ?_, fun X' g' => ?_, fun z => z = (valM m (Sum.inl c.s : Key)).isSome, fun X' g' => dts_one (dt_dinO (s := 3) g' (D := kdK) (k := Sum.inl _) (de_slot (i := 5) g' rfl) (de_own (i := 3) g' rfl) rfl), fun _ => ⟨Sum.inl c.e, Is (.bool true), fun X' g' => (de_slot (i := 6) g' rfl), fun X' g' => de_bl, hts.1.put ⟨n.e0, n.e9⟩, Nat.le_trans (length_putM _ _ _) (by have := hts.2; omega)⟩, fun _ => ⟨hts.1, Nat.le_trans hts.2 (by omega)⟩⟩
      · match l, hl with
        | 0, _ => rfl
        | 1, _ => rfl
        | 2, _ => rfl
        | 3, _ => rfl
        | 4, _ => rfl
        | 5, h => simp at h
        | 6, h => simp at h
        | l + 7, _ => rfl
      · exact fun v σ F G H Q S p q => (show CG X' _ (TupOf [isI c.s, isI c.e]) _ _ _ from (by
          refine (cg_tup g' (cgs_cons (cg_name (i := 5) g' (by simp) (cgs_cons (cg_name (i := 6) g' (by simp) (cgs_nil ?_))))))
          rfl)) v σ F G H Q S (keyT_tup p) q
  · rintro ρ' ⟨m, s4, s5, s6, rfl, h5, h6, hm⟩
    obtain ⟨ns, ens, hns⟩ := ReachOK.ints hm.2
    have hml := hm.len
    have hnl : ns.length = m.length := by have := congrArg List.length ens; simpa using this.symm
    refine db_one (ds_ret (de_tupleOfS g T.b_tuple (de_sortedO (s := 3) (ns := ns) g T.b_sorted rfl (de_own (i := 3) g rfl) ens (by omega))) fun v F p => ?_)
    · obtain ⟨⟨ys, hp, _⟩, p⟩ := p
      refine ⟨_, ⟨ys, rfl, by rw [hp.length_eq]; omega, fun n hn => hns n (hp.mem_iff.mp hn)⟩, tup_is.mp ?_⟩
      rw [List.map_map]
      exact p
end
end K35
set_option Elab.async false
set_option linter.all false
set_option maxRecDepth 100000
set_option maxHeartbeats 1000000
set_option exponentiation.threshold 20000
/-! evidence -/
namespace K35
open PySem PySem.Spec L2
def EvOK (cs : List Cd) (d : PyData) : Prop :=
  (∃ ws d2, d = .tuple [.str "most", .tuple ws, d2] ∧ (∃ k, k ≤ 10 ∧ NmOK cs k ws) ∧ NumsOK 10 d2) ∨ (∃ c d2 n, d = .tuple [.str "none", c, d2] ∧ ChosenOK c ∧ (1 ≤ n ∧ n ≤ 10) ∧ NumsOK n d2)
theorem ex_is {d : PyData} {v : V} {F : Hp} : (Ex fun z => z = d).p v F ↔ (Is d).p v F := ⟨fun ⟨z, e, p⟩ => by subst e; exact p, fun p => ⟨d, rfl, p⟩⟩
theorem tup3x {P1 P2 P3 : PyData → Prop} {v : V} {F : Hp} (h : (TupOf [Ex P1, Ex P2, Ex P3]).p v F) : ∃ a b c, P1 a ∧ P2 b ∧ P3 c ∧ (Is (.tuple [a, b, c])).p v F := by
  obtain ⟨t, vs, rfl, hr, pv⟩ := h
  cases pv with
  | cons p1 q =>
    cases q with
    | cons p2 q =>
      cases q with
      | cons p3 q =>
        cases q
        obtain ⟨a, ha, pa⟩ := p1
        obtain ⟨b, hb, pb⟩ := p2
        obtain ⟨c, hc, pc⟩ := p3
        exact ⟨a, b, c, ha, hb, hc, tup_is.mp ⟨t, _, rfl, hr, .cons pa (.cons pb (.cons pc .nil))⟩⟩
section
variable {W : Wd}
def S_re : List Ty → Ty → Prop := fun τs τ => ∃ rs one other, (Wf rs ∧ NoRound (allL rs (topN rs)) ∧ (0 ≤ one ∧ one ≤ 8) ∧ (0 ≤ other ∧ other ≤ 8)) ∧ τs = [Is (encRs rs), Is (.int one), Is (.int other)] ∧ τ = Ex (EvOK (allL rs 9))
theorem c_ratio_evidence (T : Txt W) : Cal W "ratio_evidence" 7 ["results", "one", "other"] (spP S_re) := by
  refine cal_P T.d_ratio_evidence sc_ratio_evidence (by decide) (fun _ _ _ _ _ _ us hl => match us, hl with | [_, _, _], _ => rfl) (fun τs τ h => by obtain ⟨_, _, _, _, rfl, _⟩ := h; rfl) fun X g τs τ h => ?_
  obtain ⟨rs, one, other, hca, rfl, rfl⟩ := h
  obtain ⟨w, nr, h1, h2⟩ := id hca
  have hbw : Wf rs ∧ (0 ≤ other ∧ other ≤ 8) := ⟨w, h2⟩
  have hrf : Wf rs ∧ (0 ≤ one ∧ one ≤ 8) := ⟨w, h1⟩
  have hff : Wf rs ∧ NoRound (allL rs (topN rs)) := ⟨w, nr⟩
  refine db_cons (ds_expr (de_call g (c_check_asked T) (des_cons (de_slot (i := 0) g rfl) (des_cons (de_slot (i := 1) g rfl) (des_cons (de_slot (i := 2) g rfl) des_nil))) ⟨_, _, _, by assumption, rfl, rfl⟩) ?_)
  refine db_cons (ds_set (i := 3) g (de_call g (c_best_walks T) (des_cons (de_slot (i := 0) g rfl) (des_cons (de_slot (i := 2) g rfl) des_nil)) ⟨_, _, by assumption, rfl, rfl⟩) ?_)
  refine DB.anyD (i := 3) rfl fun mb hb => ?_
  cases hv : valM mb (Sum.inl one : Key) with
  | some τ =>
    obtain ⟨P, Q, ws, hr, hk, rfl⟩ := hb.val hv
    unfold wkTy at hv
    refine db_cons (ds_ifE (b1 := true) (DT.eqE (dt_din g (D := kdK) (k := Sum.inl _) (de_slot (i := 1) g rfl) (de_slot (i := 3) g rfl)) (by show ((valM mb (Sum.inl one : Key)).isSome) = true; rw [hv]; rfl)) (fun z => db_one ?_) (fun z => nomatch z))
    refine ds_ret (τ := TupOf [Ex fun z => z = .str "most", Ex fun z => z = .tuple ws, Ex (NumsOK 10)]) (de_tup (des_cons (DE.ex de_str rfl) (des_cons (DE.ex (de_ixI (de_dget g (D := kdK) (k := Sum.inl _) (de_slot (i := 3) g rfl) (de_slot (i := 1) g rfl) (by assumption)) de_int (by first | assumption | rfl | exact atI_of (by decide) rfl)) rfl) (des_cons (de_call g (c_spread T) (des_cons (de_slot (i := 0) g rfl) (des_cons (de_slot (i := 2) g rfl) des_nil)) ⟨_, _, by assumption, rfl, rfl⟩) des_nil)))) fun v F p => ?_
    obtain ⟨a, b, c, rfl, rfl, hc, p⟩ := tup3x p
    exact ⟨_, .inl ⟨ws, c, rfl, hk, hc⟩, p⟩
  | none =>
    refine db_cons (ds_ifE (b1 := false) (DT.eqE (dt_din g (D := kdK) (k := Sum.inl _) (de_slot (i := 1) g rfl) (de_slot (i := 3) g rfl)) (by show ((valM mb (Sum.inl one : Key)).isSome) = false; rw [hv]; rfl)) (fun z => nomatch z) (fun z => db_nil ?_))
    refine db_one (ds_ret (τ := TupOf [Ex fun z => z = .str "none", Ex ChosenOK, Ex (NumsOK (topN rs + 1))]) (de_tup (des_cons (DE.ex de_str rfl) (des_cons (de_call g (c_reached_from T) (des_cons (de_slot (i := 0) g rfl) (des_cons (de_slot (i := 1) g rfl) des_nil)) ⟨_, _, by assumption, rfl, rfl⟩) (des_cons (de_ix (de_call g (c_fit T) (des_cons (de_slot (i := 0) g rfl) des_nil) ⟨_, hff, rfl, rfl⟩) de_int rfl) des_nil)))) fun v F p => ?_)
    obtain ⟨a, b, c, rfl, hb', hc, p⟩ := tup3x p
    have := (topN_eq w).2
    exact ⟨_, .inr ⟨b, c, topN rs + 1, rfl, hb', ⟨by omega, by omega⟩, hc⟩, p⟩
end
end K35
set_option Elab.async false
set_option linter.all false
set_option maxRecDepth 100000
set_option maxHeartbeats 1000000
/-! a step's condition -/
namespace K35
open PySem PySem.Spec L2
abbrev C4 := Int × Int × Int × Int
def encO : Option C4 → PyData
  | none => .none
  | some c => .tuple [.int c.1, .int c.2.1, .int c.2.2.1, .int c.2.2.2]
def upP (r : List PyData) : Option C4 := match r with | [y] => if isWh y 0 8 = true then some (toI y, toI y + 1, 1, 1) else none | _ => none
def seenOk (R : Res) (i j : PyData) : Bool := isWh i 0 (R.1.length - 1) && isWh j 0 (R.1.length - 1) && !decide (toI i = toI j) && !decide (R.2.getD (toI i).toNat 0 = 0)
def seenP (rs : List Res) (r : List PyData) : Option C4 := match r with
  | [a, i, j] => if isWh a 0 (rs.length - 1) = true then (if seenOk (resAt rs (toI a).toNat) i j = true then some ((resAt rs (toI a).toNat).2.getD (toI i).toNat 0 - 1, (resAt rs (toI a).toNat).2.getD (toI j).toNat 0, (resAt rs (toI a).toNat).1.getD (toI i).toNat 0, (resAt rs (toI a).toNat).1.getD (toI j).toNat 0) else none) else none
  | _ => none
def condP (rs : List Res) (d : PyData) : Option C4 := match d with
  | .tuple (.str w :: r) => if w = "up" then upP r else if w = "seen" then seenP rs r else none
  | _ => none
theorem seenP_no {rs : List Res} {r : List PyData} (h : r.length ≠ 3) : seenP rs r = none := by
  unfold seenP
  split
  · exact absurd rfl h
  · rfl
theorem isWh_int {d : PyData} {lo hi : Int} (h : isWh d lo hi = true) : ∃ i, d = .int i ∧ lo ≤ i ∧ i ≤ hi := by
  cases d <;> simp [isWh] at h
  rename_i i
  exact ⟨i, rfl, h⟩
section
variable {W : Wd}
def S_co : List Ty → Ty → Prop := fun τs τ => ∃ rs d, Wf rs ∧ τs = [Is (encRs rs), Is d] ∧ τ = Is (encO (condP rs d))
theorem c_condition_of (T : Txt W) : Cal W "condition_of" 2 ["results", "value"] (spP S_co) := by
  refine cal_P T.d_condition_of sc_condition_of (by decide) (fun _ _ _ _ _ _ us hl => match us, hl with | [_, _], _ => rfl) (fun τs τ h => by obtain ⟨_, _, _, rfl, _⟩ := h; rfl) fun X g τs τ h => ?_
  obtain ⟨rs, d, w, rfl, rfl⟩ := h
  cases d
  case tuple ds =>
    cases ds with
    | nil => exact db_cons (ds_ifE (DW.dt (dw_orE (dt_notE (dt_val (de_isTup g T.b_isinstance T.b_tuple (de_slot (i := 1) g rfl)))) fun _ => dw_orT (dt_notE (dt_tupT ((de_slot (i := 1) g rfl)).tupT)))) (fun z => db_one (ds_retI de_non rfl)) (fun z => by simp [isTup] at z))
    | cons x r =>
    cases x
    case str s =>
      refine db_cons (ds_ifE (DW.dt (dw_orE (dt_notE (dt_val (de_isTup g T.b_isinstance T.b_tuple (de_slot (i := 1) g rfl)))) (fun _ => (dw_orE (dt_notE (dt_tupT ((de_slot (i := 1) g rfl)).tupT)) (fun _ => (dw_or1 (dt_notE (dt_val (de_isStr g T.b_isinstance T.b_str (de_ixI (de_slot (i := 1) g rfl) de_int (by first | assumption | rfl | exact atI_of (by decide) rfl))))))))))) (fun z => by simp [isTup, isStr] at z) (fun z => db_nil ?_))
      refine db_cons (ds_ifE (dt_cmp op_eq (de_ixI (d := .str s) (de_slot (i := 1) g rfl) de_int (atI_of (by decide) rfl)) de_str vr_eqS) (fun z => ?_) (fun z => db_nil ?_))
      · have es : s = "up" := of_decide_eq_true z
        subst es
        match r with
        | [] => exact db_cons (ds_ifE (DW.dt (dw_orT (dt_cmp op_ne (de_len g T.b_len (de_slot (i := 1) g rfl)) de_int vr_neI))) (fun z => db_one (ds_retI de_non rfl)) (fun z => nomatch z))
        | [y] =>
          cases hy : isWh y 0 8 with
          | false => exact db_cons (ds_ifE (DW.dt (dw_orE (dt_cmp op_ne (de_len g T.b_len (de_slot (i := 1) g rfl)) de_int vr_neI) fun _ => dw_or1 (DT.eqE (b2 := true) (dt_notE (dt_val (de_call g (c_is_whole_fitting T) (des_cons (de_ixI (de_slot (i := 1) g rfl) de_int (by first | assumption | rfl | exact atI_of (by decide) rfl)) (des_cons de_int (des_cons (de_cint g T.c_LAST_UP) des_nil))) ⟨_, _, _, rfl, rfl⟩))) (by rw [hy]; rfl)))) (fun z => db_one (ds_retI de_non (by simp [condP, upP, hy, encO]))) (fun z => nomatch z))
          | true =>
            obtain ⟨k, rfl, h0, h8⟩ := isWh_int hy
            refine db_cons (ds_ifE (DW.dt (dw_orE (dt_cmp op_ne (de_len g T.b_len (de_slot (i := 1) g rfl)) de_int vr_neI) fun _ => dw_or1 (DT.eqE (b2 := false) (dt_notE (dt_val (de_call g (c_is_whole_fitting T) (des_cons (de_ixI (de_slot (i := 1) g rfl) de_int (by first | assumption | rfl | exact atI_of (by decide) rfl)) (des_cons de_int (des_cons (de_cint g T.c_LAST_UP) des_nil))) ⟨_, _, _, rfl, rfl⟩))) (by rw [hy]; rfl)))) (fun z => nomatch z) (fun z => db_nil (db_one ?_)))
            exact ds_retI (DE.tupI (ds := [_, _, _, _]) (de_tup (des_cons (de_ixI (de_slot (i := 1) g rfl) de_int (by first | assumption | rfl | exact atI_of (by decide) rfl)) (des_cons (de_add (de_ixI (de_slot (i := 1) g rfl) de_int (by first | assumption | rfl | exact atI_of (by decide) rfl)) de_int) (des_cons de_int (des_cons de_int des_nil)))))) (by simp [condP, upP, hy, encO, toI])
        | y :: y2 :: r =>
          exact db_cons (ds_ifE (DW.dt (dw_orT (dt_cmp op_ne (de_len g T.b_len (de_slot (i := 1) g rfl)) de_int vr_neI) (by simp; omega))) (fun z => db_one (ds_retI de_non (by simp [condP, upP, encO]))) (fun z => nomatch z))
      · have es : s ≠ "up" := of_decide_eq_false z
        by_cases es2 : s ≠ "seen"
        · exact db_cons (ds_ifE (DW.dt (dw_orT (dt_cmp op_ne (de_ixI (d := .str s) (de_slot (i := 1) g rfl) de_int (atI_of (by decide) rfl)) de_str vr_neS) (by simp [es2]))) (fun z => db_one (ds_retI de_non (by simp [condP, es, es2, encO]))) (fun z => nomatch z))
        have es2 := Decidable.not_not.mp es2
        subst es2
        have ec : condP rs (.tuple (.str "seen" :: r)) = seenP rs r := by
          show (if Str.ofString "seen" = Str.ofString "up" then upP r else if Str.ofString "seen" = Str.ofString "seen" then seenP rs r else none) = _
          rw [if_neg es, if_pos rfl]
        rw [ec]
        by_cases hr : r.length ≠ 3
        · exact db_cons (ds_ifE (DW.dt (dw_orE (dt_cmp op_ne (de_ixI (d := .str "seen") (de_slot (i := 1) g rfl) de_int (atI_of (by decide) rfl)) de_str vr_neS) fun _ => dw_orT (dt_cmp op_ne (de_len g T.b_len (de_slot (i := 1) g rfl)) de_int vr_neI) (by simp; omega))) (fun z => db_one (ds_retI de_non (by rw [seenP_no hr]; rfl))) (fun z => by simp at z))
        have hr := Decidable.not_not.mp hr
        match r, hr with
        | [a, i, j], _ =>
        cases ha : isWh a 0 (rs.length - 1) with
        | false =>
          exact db_cons (ds_ifE (DW.dt (dw_orE (dt_cmp op_ne (de_ixI (d := .str "seen") (de_slot (i := 1) g rfl) de_int (atI_of (by decide) rfl)) de_str vr_neS) fun _ => dw_orE (dt_cmp op_ne (de_len g T.b_len (de_slot (i := 1) g rfl)) de_int vr_neI) fun _ => dw_or1 (DT.eqE (b2 := true) (dt_notE (dt_val (de_call g (c_is_whole_fitting T) (des_cons (de_ixI (de_slot (i := 1) g rfl) de_int (by first | assumption | rfl | exact atI_of (by decide) rfl)) (des_cons de_int (des_cons (de_sub (de_len g T.b_len (de_slot (i := 0) g rfl)) de_int) des_nil))) ⟨_, _, _, rfl, rfl⟩))) (by rw [List.length_map, ha]; rfl)))) (fun z => db_one (ds_retI de_non (by simp [seenP, ha, encO]))) (fun z => by simp at z))
        | true =>
        obtain ⟨A, rfl, ha0, ha1⟩ := isWh_int ha
        have hA : A.toNat < rs.length := by omega
        have er : rs[A.toNat]? = some rs[A.toNat] := List.getElem?_eq_getElem hA
        have eR := resAt_get er
        generalize rs[A.toNat] = R at er eR
        obtain ⟨v, sl⟩ := R
        have wr := w.all _ (List.mem_of_getElem? er)
        have we := wr.eq
        simp only at we
        refine db_cons (ds_ifE (DW.dt (dw_orE (dt_cmp op_ne (de_ixI (d := .str "seen") (de_slot (i := 1) g rfl) de_int (atI_of (by decide) rfl)) de_str vr_neS) fun _ => dw_orE (dt_cmp op_ne (de_len g T.b_len (de_slot (i := 1) g rfl)) de_int vr_neI) fun _ => dw_or1 (DT.eqE (b2 := false) (dt_notE (dt_val (de_call g (c_is_whole_fitting T) (des_cons (de_ixI (de_slot (i := 1) g rfl) de_int (by first | assumption | rfl | exact atI_of (by decide) rfl)) (des_cons de_int (des_cons (de_sub (de_len g T.b_len (de_slot (i := 0) g rfl)) de_int) des_nil))) ⟨_, _, _, rfl, rfl⟩))) (by rw [List.length_map, ha]; rfl)))) (fun z => by simp at z) (fun z => db_nil ?_))
        refine db_cons (ds_asg (de_ixI (d := encR (v, sl)) (de_slot (i := 0) g rfl) (de_ixI (de_slot (i := 1) g rfl) de_int (by first | assumption | rfl | exact atI_of (by decide) rfl)) (atI_of ha0 (by rw [List.getElem?_map, er]; rfl))) (DG.tupI (dg_tup g (dgs_cons (dg_name (i := 2) g (by first | exact .inl rfl | exact .inr ⟨rfl, rfl⟩) rfl (lt_of_get rfl) (dgs_cons (dg_name (i := 3) g (by first | exact .inl rfl | exact .inr ⟨rfl, rfl⟩) rfl (lt_of_get rfl) (dgs_nil ?_))))))))
        refine db_cons (ds_asg (τ := Is (.tuple [i, j])) (de_sliceI (ds := [.str "seen", .int A, i, j]) (l := some 2) (h := none) (de_slot (i := 1) g rfl) de_int True.intro) (DG.tupI (dg_tup g (dgs_cons (dg_name (i := 4) g (by first | exact .inl rfl | exact .inr ⟨rfl, rfl⟩) rfl (lt_of_get rfl) (dgs_cons (dg_name (i := 5) g (by first | exact .inl rfl | exact .inr ⟨rfl, rfl⟩) rfl (lt_of_get rfl) (dgs_nil ?_))))))))
        have ep : seenP rs [.int A, i, j] = if seenOk (v, sl) i j = true then some (sl.getD (toI i).toNat 0 - 1, sl.getD (toI j).toNat 0, v.getD (toI i).toNat 0, v.getD (toI j).toNat 0) else none := by
          unfold seenP
          simp only [toI, eR, ha, if_true]
        rw [ep]
        cases hi : isWh i 0 (v.length - 1) with
        | false => exact db_cons (ds_ifE (DW.dt (dw_orT (dt_notE (dt_val (de_call g (c_is_whole_fitting T) (des_cons (de_slot (i := 4) g rfl) (des_cons de_int (des_cons (de_sub (de_len g T.b_len (de_slot (i := 2) g rfl)) de_int) des_nil))) ⟨_, _, _, rfl, rfl⟩))) (by rw [List.length_map, hi]; rfl))) (fun z => db_one (ds_retI de_non (by simp [seenOk, hi, encO]))) (fun z => nomatch z))
        | true =>
        cases hj : isWh j 0 (v.length - 1) with
        | false => exact db_cons (ds_ifE (b1 := true) (DT.eqE (DW.dt (dw_orE (dt_notE (dt_val (de_call g (c_is_whole_fitting T) (des_cons (de_slot (i := 4) g rfl) (des_cons de_int (des_cons (de_sub (de_len g T.b_len (de_slot (i := 2) g rfl)) de_int) des_nil))) ⟨_, _, _, rfl, rfl⟩))) (fun _ => (dw_or1 (dt_notE (dt_val (de_call g (c_is_whole_fitting T) (des_cons (de_slot (i := 5) g rfl) (des_cons de_int (des_cons (de_sub (de_len g T.b_len (de_slot (i := 2) g rfl)) de_int) des_nil))) ⟨_, _, _, rfl, rfl⟩))))))) (by rw [List.length_map, hj]; simp)) (fun z => db_one (ds_retI de_non (by simp [seenOk, hj, encO]))) (fun z => nomatch z))
        | true =>
        obtain ⟨I, rfl, hi0, hi1⟩ := isWh_int hi
        obtain ⟨J, rfl, hj0, hj1⟩ := isWh_int hj
        refine db_cons (ds_ifE (b1 := false) (DT.eqE (DW.dt (dw_orE (dt_notE (dt_val (de_call g (c_is_whole_fitting T) (des_cons (de_slot (i := 4) g rfl) (des_cons de_int (des_cons (de_sub (de_len g T.b_len (de_slot (i := 2) g rfl)) de_int) des_nil))) ⟨_, _, _, rfl, rfl⟩))) (fun _ => (dw_or1 (dt_notE (dt_val (de_call g (c_is_whole_fitting T) (des_cons (de_slot (i := 5) g rfl) (des_cons de_int (des_cons (de_sub (de_len g T.b_len (de_slot (i := 2) g rfl)) de_int) des_nil))) ⟨_, _, _, rfl, rfl⟩))))))) (by rw [List.length_map, hi, hj]; rfl)) (fun z => nomatch z) (fun z => db_nil ?_))
        have gI : ∀ xs : List Int, I.toNat < xs.length → atI (xs.map I') I = some (I' (xs.getD I.toNat 0)) := fun xs h => atI_of hi0 (getD_at h)
        have gJ : ∀ xs : List Int, J.toNat < xs.length → atI (xs.map I') J = some (I' (xs.getD J.toNat 0)) := fun xs h => atI_of hj0 (getD_at h)
        have lI : I.toNat < sl.length := by omega
        have lJ : J.toNat < sl.length := by omega
        have lI' : I.toNat < v.length := by omega
        have lJ' : J.toNat < v.length := by omega
        have ok : seenOk (v, sl) (.int I) (.int J) = !(decide (I = J) || decide (sl.getD I.toNat 0 = 0)) := by
          show (isWh (.int I) 0 (v.length - 1) && isWh (.int J) 0 (v.length - 1) && !decide (I = J) && !decide (sl.getD I.toNat 0 = 0)) = _
          rw [hi, hj, Bool.not_or]; rfl
        refine db_cons (ds_ifE (DW.dt (dw_orE (dt_cmp op_eq (de_slot (i := 4) g rfl) (de_slot (i := 5) g rfl) vr_eqI) fun _ => dw_or1 (dt_cmp op_eq (de_ixI (d := I' _) (de_slot (i := 3) g rfl) (de_slot (i := 4) g rfl) (gI _ lI)) de_int vr_eqI))) (fun z => db_one (ds_retI de_non ?_)) (fun z => db_nil (db_one (ds_retI (DE.tupI (ds := [_, _, _, _]) (de_tup (des_cons (de_sub (de_ixI (d := I' _) (de_slot (i := 3) g rfl) (de_slot (i := 4) g rfl) (gI _ lI)) de_int) (des_cons (de_ixI (d := I' _) (de_slot (i := 3) g rfl) (de_slot (i := 5) g rfl) (gJ _ lJ)) (des_cons (de_ixI (d := I' _) (de_slot (i := 2) g rfl) (de_slot (i := 4) g rfl) (gI _ lI')) (des_cons (de_ixI (d := I' _) (de_slot (i := 2) g rfl) (de_slot (i := 5) g rfl) (gJ _ lJ')) des_nil)))))) ?_))))
        · have z : (decide (I = J) || decide (sl.getD I.toNat 0 = 0)) = true := z
          rw [ok, z]; rfl
        · have z : (decide (I = J) || decide (sl.getD I.toNat 0 = 0)) = false := z
          rw [ok, z]; rfl
    all_goals exact db_cons (ds_ifE (DW.dt (dw_orE (dt_notE (dt_val (de_isTup g T.b_isinstance T.b_tuple (de_slot (i := 1) g rfl)))) fun _ => dw_orE (dt_notE (dt_tupT ((de_slot (i := 1) g rfl)).tupT)) fun _ => dw_or1 (dt_notE (dt_val (de_isStr g T.b_isinstance T.b_str (de_ixI (de_slot (i := 1) g rfl) de_int (by first | assumption | rfl | exact atI_of (by decide) rfl))))))) (fun z => db_one (ds_retI de_non rfl)) (fun z => by simp [isTup, isStr] at z))
  all_goals exact db_cons (ds_ifE (DW.dt (dw_orT (dt_notE (dt_val (de_isTup g T.b_isinstance T.b_tuple (de_slot (i := 1) g rfl)))))) (fun z => db_one (ds_retI de_non rfl)) (fun z => nomatch z))
end
end K35
set_option Elab.async false
set_option linter.all false
set_option maxRecDepth 100000
set_option maxHeartbeats 1000000
/-! a step's condition, the law's side -/
namespace K35
open PySem PySem.Spec L2
def Sh (d : PyData) : Prop := SeqAt.shaped d = true
theorem sh_all : ∀ {ds : List PyData}, PyData.canLayAll0 ds = true → ∀ x ∈ ds, x.canLay0 = true
  | [], _, x, hx => nomatch hx
  | d :: ds, h, x, hx => by
    simp only [PyData.canLayAll0, Bool.and_eq_true] at h
    rcases List.mem_cons.mp hx with z | z
    · subst z; exact h.1
    · exact sh_all h.2 x z
theorem sh_depth : ∀ {ds : List PyData}, ∀ x ∈ ds, x.depth ≤ PyData.depthAll ds
  | [], x, hx => nomatch hx
  | d :: ds, x, hx => by
    simp only [PyData.depthAll]
    rcases List.mem_cons.mp hx with z | z
    · subst z; exact Nat.le_max_left _ _
    · exact Nat.le_trans (sh_depth x z) (Nat.le_max_right _ _)
theorem Sh.tup {ds : List PyData} (h : Sh (.tuple ds)) : ∀ x ∈ ds, Sh x := fun x hx => by
  unfold Sh SeqAt.shaped at *
  rw [Bool.and_eq_true, decide_eq_true_eq] at *
  refine ⟨sh_all (by simpa [PyData.canLay0] using h.1) x hx, ?_⟩
  have h2 := h.2
  simp only [PyData.depth] at h2
  have := sh_depth x hx
  omega
theorem cut_tail (x : PyData) (r : List PyData) : cutD (x :: r) (some 1) none = r := by
  unfold cutD HT.sIx
  simp
theorem eqv_str {s : Str} {x : PyData} (h : PyData.eqv (.str s) x = true) : x = .str s := by
  cases x <;> simp only [PyData.eqv] at h <;> first | (cases h; done) | skip
  rw [eq_of_beq h]
theorem eqv_int {i : Int} {x : PyData} (h : PyData.eqv (.int i) x = true) (hx : isIx x = true) : x = .int i := by
  cases x <;> simp only [PyData.eqv] at h <;> first | (cases h; done) | (simp [isIx] at hx; done) | skip
  rw [eq_of_beq h]
theorem eqv_seen {a b c : Int} {d : PyData} (h : PyData.eqv (.tuple [.str "seen", .int a, .int b, .int c]) d = true) (hd : ∀ x r, d = .tuple (x :: r) → r.all isIx = true) : d = .tuple [.str "seen", .int a, .int b, .int c] := by
  cases d <;> simp only [PyData.eqv] at h <;> first | (cases h; done) | skip
  rename_i ds
  match ds, h, hd with
  | [], h, _ => simp only [PyData.eqvAll] at h; cases h
  | [x0], h, _ => simp only [PyData.eqvAll, Bool.and_eq_true] at h; cases h.2
  | [x0, x1], h, _ => simp only [PyData.eqvAll, Bool.and_eq_true] at h; cases h.2.2
  | [x0, x1, x2], h, _ => simp only [PyData.eqvAll, Bool.and_eq_true] at h; cases h.2.2.2
  | [x0, x1, x2, x3], h, hd =>
    simp only [PyData.eqvAll, Bool.and_eq_true] at h
    have hi := hd x0 [x1, x2, x3] rfl
    simp only [List.all_cons, Bool.and_eq_true] at hi
    rw [eqv_str h.1, eqv_int h.2.1 hi.1, eqv_int h.2.2.1 hi.2.1, eqv_int h.2.2.2.1 hi.2.2.1]
  | x0 :: x1 :: x2 :: x3 :: x4 :: r, h, _ => simp only [PyData.eqvAll, Bool.and_eq_true] at h; cases h.2.2.2.2
theorem eqv_refl4 (a b c : Int) : PyData.eqv (.tuple [.str "seen", .int a, .int b, .int c]) (.tuple [.str "seen", .int a, .int b, .int c]) = true := by
  simp only [PyData.eqv, PyData.eqvAll, beq_self_eq_true, Bool.and_self]
theorem seen_ne_up : (Str.ofString "seen") ≠ (Str.ofString "up") := by decide
/-- a name that is seen tells its condition -/
theorem condP_mem {rs : List Res} (w : Wf rs) {c : Cd} (hc : c ∈ seenL rs) : condP rs c.nm = some (c.s, c.e, c.p, c.q) := by
  obtain ⟨i, r, one, other, er, h1, h2, h3, h4, rfl⟩ := seenL_mem hc
  have wr := w.all _ (List.mem_of_getElem? er)
  have he := wr.eq
  have hi := (List.getElem?_eq_some_iff.mp er).1
  have eR := resAt_get er
  show (if Str.ofString "seen" = Str.ofString "up" then upP [.int i, .int one, .int other] else if Str.ofString "seen" = Str.ofString "seen" then seenP rs [.int i, .int one, .int other] else none) = _
  rw [if_neg seen_ne_up, if_pos rfl]
  have a1 : isWh (.int (i : Nat)) 0 (rs.length - 1) = true := by simp [isWh]; omega
  unfold seenP
  simp only [toI, Int.toNat_natCast, eR, a1, if_true]
  have a2 : seenOk r (.int (one : Nat)) (.int (other : Nat)) = true := by
    simp only [seenOk, isWh, toI, Int.toNat_natCast, Bool.and_eq_true, decide_eq_true_eq, Bool.not_eq_true', decide_eq_false_iff_not]
    have h5 : ¬ (one : Int) = (other : Int) := by omega
    have h6 : ¬ r.2.getD one 0 = 0 := by omega
    refine ⟨⟨⟨⟨?_, ?_⟩, ?_, ?_⟩, decide_eq_false h5⟩, decide_eq_false h6⟩ <;> omega
  rw [if_pos a2]
  rfl
/-- what the seen branch answers is a condition that is seen -/
theorem condP_seen {rs : List Res} (w : Wf rs) {d : PyData} {k : C4} (h : condP rs d = some k) : (∃ y, d = .tuple [.str "up", .int y] ∧ 0 ≤ y ∧ y ≤ 8 ∧ k = (y, y + 1, 1, 1)) ∨ ∃ c ∈ seenL rs, c.nm = d ∧ k = (c.s, c.e, c.p, c.q) := by
  unfold condP at h
  split at h
  · rename_i s r
    split at h
    · rename_i es
      subst es
      left
      unfold upP at h
      split at h
      · rename_i y
        split at h
        · rename_i hy
          obtain ⟨i, rfl, h0, h8⟩ := isWh_int hy
          exact ⟨i, rfl, h0, h8, (Option.some.inj h).symm⟩
        · cases h
      · cases h
    · split at h
      · rename_i es
        subst es
        right
        unfold seenP at h
        split at h
        · rename_i a i j
          split at h
          · rename_i ha
            obtain ⟨A, rfl, ha0, ha1⟩ := isWh_int ha
            have hA : A.toNat < rs.length := by omega
            have er : rs[A.toNat]? = some rs[A.toNat] := List.getElem?_eq_getElem hA
            have eR := resAt_get er
            have wr := w.all _ (List.mem_of_getElem? er)
            simp only [toI, eR] at h
            generalize rs[A.toNat] = R at er eR wr h
            split at h
            · rename_i hs
              simp only [seenOk, Bool.and_eq_true, Bool.not_eq_true', decide_eq_false_iff_not] at hs
              obtain ⟨I, rfl, hi0, hi1⟩ := isWh_int hs.1.1.1
              obtain ⟨J, rfl, hj0, hj1⟩ := isWh_int hs.1.1.2
              have we := wr.eq
              have h1 := hs.1.2
              have h2 := hs.2
              simp only [toI] at h1 h2 h
              have hI : I.toNat < R.2.length := by omega
              have hJ : J.toNat < R.1.length := by omega
              have h3 := (wr.s _ (getD_mem hI)).1
              refine ⟨mkC A.toNat R I.toNat J.toNat, ?_, ?_, (Option.some.inj h).symm⟩
              · unfold seenL
                refine List.mem_flatMap.mpr ⟨A.toNat, by simpa using hA, ?_⟩
                rw [eR]
                unfold seenR
                refine List.mem_flatMap.mpr ⟨I.toNat, by simpa using hI, ?_⟩
                unfold seenO
                refine List.mem_map.mpr ⟨J.toNat, List.mem_filter.mpr ⟨by simpa using hJ, ?_⟩, rfl⟩
                simp only [keepO, Bool.and_eq_true, Bool.not_eq_true', decide_eq_false_iff_not, decide_eq_true_eq]
                omega
              · simp only [mkC]
                rw [Int.toNat_of_nonneg ha0, Int.toNat_of_nonneg hi0, Int.toNat_of_nonneg hj0]
            · cases h
          · cases h
        · cases h
      · cases h
  · cases h
theorem sh_up : SeqAt.shaped (.str "up") = true := by decide +kernel
theorem sh_seen : SeqAt.shaped (.str "seen") = true := by decide +kernel
/-- of no size that hinders -/
def Nice (d : PyData) : Prop := Sh d ∧ ∀ ds, d = .tuple ds → ds.length ≤ 1000
theorem sh_nm {rs : List Res} {c : Cd} (h : c ∈ seenL rs) : Sh c.nm := by
  obtain ⟨i, r, one, other, er, h1, h2, h3, h4, rfl⟩ := seenL_mem h
  show SeqAt.shaped (.tuple [.str "seen", .int i, .int one, .int other]) = true
  have := sh_seen
  unfold SeqAt.shaped at this ⊢
  rw [Bool.and_eq_true, decide_eq_true_eq] at this ⊢
  simp only [PyData.canLay0, PyData.canLayAll0, PyData.depth, PyData.depthAll] at this ⊢
  refine ⟨by rw [this.1]; rfl, ?_⟩
  have := this.2
  omega
section
variable {W : Wd}
def S_Lco : List Ty → Ty → Prop := fun τs τ => ∃ rs d, (Wf rs ∧ Nice d) ∧ τs = [Is (encRs rs), Is d] ∧ τ = Is (encO (condP rs d))
theorem c_L_condition (T : Txt W) : Cal W "_law_condition" 2 ["_law_results_here", "_law_value"] (spP S_Lco) := by
  refine cal_P T.d_L_condition sc_L_condition (by decide) (fun _ _ _ _ _ _ us hl => match us, hl with | [_, _], _ => rfl) (fun τs τ h => by obtain ⟨_, _, _, rfl, _⟩ := h; rfl) fun X g τs τ h => ?_
  obtain ⟨rs, d, ⟨w, hsh, hln⟩, rfl, rfl⟩ := h
  cases d
  case tuple ds =>
    cases ds with
    | nil => exact db_cons (ds_ifE (DW.dt (dw_orE (dt_notE (dt_val (de_isTup g T.b_isinstance T.b_tuple (de_slot (i := 1) g rfl)))) fun _ => dw_orT (dt_cmp op_eq (de_len g T.b_len (de_slot (i := 1) g rfl)) de_int vr_eqI))) (fun z => db_one (ds_retI de_non rfl)) (fun z => by simp [isTup] at z))
    | cons x r =>
    have hl0 : ¬ (((x :: r).length : Nat) : Int) = 0 := by simp; omega
    have hz := hln _ rfl
    have hz' : r.length ≤ 1000 := by simp at hz; omega
    have shx : Sh x := hsh.tup x (by simp)
    refine db_cons (ds_ifE (DW.dt (dw_orE (dt_notE (dt_val (de_isTup g T.b_isinstance T.b_tuple (de_slot (i := 1) g rfl)))) fun _ => dw_orE (dt_cmp op_eq (de_len g T.b_len (de_slot (i := 1) g rfl)) de_int vr_eqI) fun _ => dw_or1 (dt_notE (dt_val (de_allM (f := isIx) g T.b_all (df_map (v := 7) r (fun d => Is d) (fun d => BI (isIx d)) g (by decide +kernel) (di_tupM (DE.tupT (DE.isE (de_sliceI (lo := some _) (hi := none) (ds := x :: r) (l := some 1) (h := none) (de_slot (i := 1) g rfl) de_int True.intro) (by rw [cut_tail])))) (by omega) ⟨_, rfl, rfl⟩ fun d hd X' g' => (de_call g' (c_L_is_integer T) (des_cons (de_slot (i := 7) g' rfl) des_nil) ⟨_, rfl, rfl⟩)).lst))))) (fun z => db_one (ds_retI de_non ?_)) (fun z => db_nil ?_))
    · have hall : r.all isIx = false := by
        cases q : r.all isIx with
        | false => rfl
        | true => rw [q] at z; simp [isTup] at z; omega
      cases hc : condP rs (.tuple (x :: r)) with
      | none => rfl
      | some k =>
        exfalso
        rcases condP_seen w hc with ⟨y, e, _⟩ | ⟨c, hc2, e, _⟩
        · cases e; simp [isIx] at hall
        · obtain ⟨i, R, one, other, er, h1, h2, h3, h4, rfl⟩ := seenL_mem hc2
          cases e
          simp [isIx] at hall
    have hall : r.all isIx = true := by
      cases q : r.all isIx with
      | true => rfl
      | false => rw [q] at z; simp at z
    have loop : (∀ y, (PyData.tuple (x :: r)) = .tuple [.str "up", .int y] → ¬ (0 ≤ y ∧ y ≤ 8)) → DB X ((defBody s_L_condition).drop 2) (slots N_L_condition [Is (encRs rs), Is (.tuple (x :: r))]) { nx := fun _ => ∀ F, (Is (encO (condP rs (.tuple (x :: r))))).p .non F, rt := fun _ v F => (Is (encO (condP rs (.tuple (x :: r))))).p v F } := fun hnu => by
      refine db_cons (ds_for g (di_lstM (DE.lstM (f := encC) (xs := seenL rs) (de_call g (c_L_seen T) (des_cons (de_slot (i := 0) g rfl) des_nil) ⟨_, by assumption, rfl, rfl⟩))) fun ys hy => ⟨fun i ρ' => ∃ (s2 s3 s4 s5 s6 s7 : Sl), ρ' = [.dat (Is (encRs rs)), .dat (Is (.tuple (x :: r))), s2, s3, s4, s5, s6, s7] ∧ ∀ c ∈ (seenL rs).take i, PyData.eqv c.nm (.tuple (x :: r)) = false, ⟨_, _, _, _, _, _, rfl, fun c hc => by simp at hc⟩, ?_, ?_⟩)
      · rintro i y ρ' ey ⟨s2, s3, s4, s5, s6, s7, rfl, hk⟩
        subst hy
        obtain ⟨c, ec, rfl⟩ := map_get ey
        have hc := List.mem_of_getElem? ec
        refine (DG.tupI (dg_tup g (dgs_cons (dg_name (i := 2) g (by first | exact .inl rfl | exact .inr ⟨rfl, rfl⟩) rfl (lt_of_get rfl) (dgs_cons (dg_name (i := 3) g (by first | exact .inl rfl | exact .inr ⟨rfl, rfl⟩) rfl (lt_of_get rfl) (dgs_cons (dg_name (i := 4) g (by first | exact .inl rfl | exact .inr ⟨rfl, rfl⟩) rfl (lt_of_get rfl) (dgs_cons (dg_name (i := 5) g (by first | exact .inl rfl | exact .inr ⟨rfl, rfl⟩) rfl (lt_of_get rfl) (dgs_cons (dg_name (i := 6) g (by first | exact .inl rfl | exact .inr ⟨rfl, rfl⟩) rfl (lt_of_get rfl) (dgs_nil ?_)))))))))))))
        refine db_one (ds_ifE (dt_eq g (de_slot (i := 2) g rfl) (de_slot (i := 1) g rfl) (sh_nm hc) hsh) (fun z => db_one (ds_retI (DE.tupI (ds := [_, _, _, _]) (de_tup (des_cons (de_slot (i := 3) g rfl) (des_cons (de_slot (i := 4) g rfl) (des_cons (de_slot (i := 5) g rfl) (des_cons (de_slot (i := 6) g rfl) des_nil)))))) ?_)) (fun z => db_nil ?_))
        · have e : c.nm = .tuple (x :: r) := by
            obtain ⟨i, R, one, other, er, h1, h2, h3, h4, rfl⟩ := seenL_mem hc
            exact (eqv_seen z fun y q e => by cases e; exact hall).symm
          rw [← e, condP_mem w hc]
          rfl
        · refine ⟨_, _, _, _, _, _, rfl, fun c' hc' => ?_⟩
          rw [take_succ' ec] at hc'
          rcases List.mem_append.mp hc' with q | q
          · exact hk c' q
          · rw [List.mem_singleton.mp q]; exact z
      · rintro ρ' ⟨s2, s3, s4, s5, s6, s7, rfl, hk⟩
        subst hy
        rw [List.length_map, List.take_length] at hk
        refine db_one (ds_retI de_non ?_)
        cases hc : condP rs (.tuple (x :: r)) with
        | none => rfl
        | some k =>
          exfalso
          rcases condP_seen w hc with ⟨y, e, h0, h8, _⟩ | ⟨c, hc2, e, _⟩
          · exact hnu y e ⟨h0, h8⟩
          · have := hk c hc2
            rw [e] at this
            obtain ⟨i, R, one, other, er, h1, h2, h3, h4, rfl⟩ := seenL_mem hc2
            rw [← e] at this
            have q := eqv_refl4 i one other
            exact absurd (this.symm.trans q) (by decide)
    cases hx : PyData.eqv x (.str "up") with
    | false =>
      refine db_cons (ds_ifE (DW.dt (dw_andF (dt_eq g (de_ixI (d := x) (de_slot (i := 1) g rfl) de_int (atI_of (by decide) rfl)) de_str shx sh_up) hx)) (fun z => nomatch z) (fun z => db_nil (loop fun y e => ?_)))
      cases e
      simp only [PyData.eqv, beq_self_eq_true] at hx
      cases hx
    | true =>
      have ex : x = .str "up" := by
        cases x <;> simp only [PyData.eqv] at hx <;> first | (cases hx; done) | skip
        rw [eq_of_beq hx]
      subst ex
      by_cases hr : r.length ≠ 1
      · refine db_cons (ds_ifE (DW.dt (dw_andE (dt_eq g (de_ixI (d := .str "up") (de_slot (i := 1) g rfl) de_int (atI_of (by decide) rfl)) de_str shx sh_up) fun _ => dw_andF (dt_cmp op_eq (de_len g T.b_len (de_slot (i := 1) g rfl)) de_int vr_eqI) (by simp; omega))) (fun z => by simp at z) (fun z => db_nil (loop fun y e => ?_)))
        cases e
        exact absurd rfl hr
      have hr := Decidable.not_not.mp hr
      match r, hr with
      | [y], _ =>
      cases y <;> simp [isIx] at hall
      rename_i y hy1
      have eC : condP rs (.tuple [.str "up", .int y]) = if isWh (.int y) 0 8 = true then some (y, y + 1, 1, 1) else none := rfl
      refine db_cons (ds_ifE (b1 := (decide (0 ≤ y) && decide (y ≤ 8))) (DT.eqE (DW.dt (dw_andE (dt_eq g (de_ixI (d := .str "up") (de_slot (i := 1) g rfl) de_int (atI_of (by decide) rfl)) de_str shx sh_up) fun _ => dw_andE (dt_cmp op_eq (de_len g T.b_len (de_slot (i := 1) g rfl)) de_int vr_eqI) fun _ => dw_and1 (dt_chainE op_le op_le de_int (de_ixI (d := .int y) (de_slot (i := 1) g rfl) de_int rfl) de_int vr_le vr_le))) (by rw [hx]; simp)) (fun z => db_one (ds_retI (DE.tupI (ds := [_, _, _, _]) (de_tup (des_cons (de_ixI (d := .int y) (de_slot (i := 1) g rfl) de_int rfl) (des_cons (de_add (de_ixI (d := .int y) (de_slot (i := 1) g rfl) de_int rfl) de_int) (des_cons de_int (des_cons de_int des_nil)))))) ?_)) (fun z => db_nil (loop fun y' e => ?_)))
      · rw [eC, if_pos (by simp only [isWh]; exact z)]; rfl
      · cases e
        intro hh
        simp [hh] at z
  all_goals exact db_cons (ds_ifE (DW.dt (dw_orT (dt_notE (dt_val (de_isTup g T.b_isinstance T.b_tuple (de_slot (i := 1) g rfl)))))) (fun z => db_one (ds_retI de_non rfl)) (fun z => nomatch z))
end
end K35
set_option Elab.async false
set_option linter.all false
set_option maxRecDepth 100000
set_option maxHeartbeats 1000000
set_option exponentiation.threshold 20000
/-! steps walked -/
namespace K35
open PySem PySem.Spec L2
def wkStep (t : Option C4) (o : C4) : Option C4 := match t with
  | none => some o
  | some t => if t.2.1 = o.1 then some (t.1, o.2.1, t.2.2.1 * o.2.2.1, t.2.2.2 * o.2.2.2) else none
def wkGo (rs : List Res) : Option C4 → List PyData → Option C4
  | t, [] => t
  | t, d :: r => match condP rs d with
    | none => none
    | some o => match wkStep t o with
      | none => none
      | some u => wkGo rs (some u) r
def walkP (rs : List Res) (d : PyData) : Option C4 := match d with
  | .tuple ds => if 1 ≤ ds.length ∧ ds.length ≤ 40 then wkGo rs none ds else none
  | _ => none
theorem wkGo_at {rs : List Res} {t : Option C4} {ds : List PyData} {i : Nat} {d : PyData} (h : ds[i]? = some d) : wkGo rs t (ds.drop i) = match condP rs d with
    | none => none
    | some o => match wkStep t o with
      | none => none
      | some u => wkGo rs (some u) (ds.drop (i + 1)) := by
  obtain ⟨hl, e⟩ := List.getElem?_eq_some_iff.mp h
  rw [List.drop_eq_getElem_cons hl, e]
  rfl
/-- bounds of a condition -/
def C4ok (n : Nat) (k : C4) : Prop := 1 ≤ k.2.2.1 ∧ 1 ≤ k.2.2.2 ∧ k.2.2.1 ≤ 1000 ^ n ∧ k.2.2.2 ≤ 1000 ^ n
theorem condP_ok {rs : List Res} (w : Wf rs) {d : PyData} {k : C4} (h : condP rs d = some k) : C4ok 1 k := by
  rcases condP_seen w h with ⟨y, e, _, _, rfl⟩ | ⟨c, hc, _, rfl⟩
  · show (1 : Int) ≤ 1 ∧ (1 : Int) ≤ 1 ∧ (1 : Int) ≤ 1000 ^ 1 ∧ (1 : Int) ≤ 1000 ^ 1
    decide
  · have o := seenL_ok w hc
    exact ⟨o.p1, o.q1, by have := o.pk; show c.p ≤ _; omega, by have := o.qk; show c.q ≤ _; omega⟩
theorem wkStep_ok {t : Option C4} {o u : C4} {n : Nat} (ht : ∀ k, t = some k → C4ok n k) (ho : C4ok 1 o) (h : wkStep t o = some u) : C4ok (n + 1) u := by
  obtain ⟨o1, o2, o3, o4⟩ := ho
  cases t with
  | none =>
    cases Option.some.inj h
    have e := pow_mono (show 1 ≤ n + 1 by omega)
    exact ⟨o1, o2, Int.le_trans o3 e, Int.le_trans o4 e⟩
  | some t =>
    obtain ⟨t1, t2, t3, t4⟩ := ht t rfl
    unfold wkStep at h
    simp only at h
    split at h
    · cases Option.some.inj h
      refine ⟨mul1 t1 o1, mul1 t2 o2, ?_, ?_⟩
      · rw [Int.pow_succ]; exact Int.mul_le_mul t3 (by omega) (by omega) (by omega)
      · rw [Int.pow_succ]; exact Int.mul_le_mul t4 (by omega) (by omega) (by omega)
    · cases h
theorem wkGo_ok {rs : List Res} (w : Wf rs) : ∀ {ds : List PyData} {t : Option C4} {n : Nat} {k : C4}, (∀ k, t = some k → C4ok n k) → wkGo rs t ds = some k → C4ok (n + ds.length) k
  | [], t, n, k, ht, h => ht k h
  | d :: r, t, n, k, ht, h => by
    unfold wkGo at h
    cases hc : condP rs d with
    | none => rw [hc] at h; cases h
    | some o =>
      rw [hc] at h
      simp only at h
      cases hs : wkStep t o with
      | none => rw [hs] at h; cases h
      | some u =>
        rw [hs] at h
        have := wkGo_ok w (n := n + 1) (fun k hk => by cases hk; exact wkStep_ok ht (condP_ok w hc) hs) h
        rw [List.length_cons, show n + (r.length + 1) = n + 1 + r.length by omega]
        exact this
theorem walkP_yes {rs : List Res} {ds : List PyData} (h : 1 ≤ ds.length ∧ ds.length ≤ 40) : walkP rs (.tuple ds) = wkGo rs none ds := if_pos h
theorem walkP_no {rs : List Res} {ds : List PyData} (h : ¬ (1 ≤ ds.length ∧ ds.length ≤ 40)) : walkP rs (.tuple ds) = none := if_neg h
theorem walkP_ok {rs : List Res} (w : Wf rs) {d : PyData} {k : C4} (h : walkP rs d = some k) : C4ok 40 k := by
  cases d
  case tuple ds =>
    by_cases hl : 1 ≤ ds.length ∧ ds.length ≤ 40
    · rw [walkP_yes hl] at h
      obtain ⟨a, b, c, e⟩ := wkGo_ok w (t := none) (n := 0) (fun k hk => by cases hk) h
      have := pow_mono (show 0 + ds.length ≤ 40 by omega)
      exact ⟨a, b, Int.le_trans c this, Int.le_trans e this⟩
    · rw [walkP_no hl] at h; cases h
  all_goals cases h
section
variable {W : Wd} {n : Nat} {X : Cx} {N : List Str} {sc : Scope} {ρ : List Sl} {τ : Ty} {a b c : Expr} {pos : Pos}
theorem de_ifT {b1 : Bool} (hc : DT X c ρ (fun z => z = b1)) (ha : DE X a ρ τ) (h : b1 = true := by first | rfl | assumption) : DE X (.IfExp c a b pos) ρ τ := de_ifExp hc (fun _ => ha) (fun z => by subst h; cases z)
theorem de_ifF {b1 : Bool} (hc : DT X c ρ (fun z => z = b1)) (hb : DE X b ρ τ) (h : b1 = false := by first | rfl | assumption) : DE X (.IfExp c a b pos) ρ τ := de_ifExp hc (fun z => by subst h; cases z) (fun _ => hb)
/-- steps of no size that hinders -/
def Nice2 (d : PyData) : Prop := Sh d ∧ ∀ ds, d = .tuple ds → ds.length ≤ 1000 ∧ ∀ x ∈ ds, Nice x
def S_wk : List Ty → Ty → Prop := fun τs τ => ∃ rs d, Wf rs ∧ τs = [Is (encRs rs), Is d] ∧ τ = Is (encO (walkP rs d))
def S_Lwk : List Ty → Ty → Prop := fun τs τ => ∃ rs d, (Wf rs ∧ Nice2 d) ∧ τs = [Is (encRs rs), Is d] ∧ τ = Is (encO (walkP rs d))
theorem c_walked (T : Txt W) : Cal W "walked" 3 ["results", "value"] (spP S_wk) := by
  refine cal_P T.d_walked sc_walked (by decide) (fun _ _ _ _ _ _ us hl => match us, hl with | [_, _], _ => rfl) (fun τs τ h => by obtain ⟨_, _, _, rfl, _⟩ := h; rfl) fun X g τs τ h => ?_
  obtain ⟨rs, d, w, rfl, rfl⟩ := h
  cases d
  case tuple ds =>
    by_cases hl : ¬ (1 ≤ ds.length ∧ ds.length ≤ 40)
    · exact db_cons (ds_ifE (DW.dt (dw_orE (dt_notE (dt_val (de_isTup g T.b_isinstance T.b_tuple (de_slot (i := 1) g rfl)))) fun _ => dw_or1 (DT.eqE (b2 := true) (dt_notE (dt_chainE op_le op_le de_int (de_len g T.b_len (de_slot (i := 1) g rfl)) (de_cint g T.c_MOST_STEPS) vr_le vr_le)) (by simp; omega)))) (fun z => db_one (ds_retI de_non (by rw [walkP_no hl]; rfl))) (fun z => by simp [isTup] at z))
    have hl := Decidable.not_not.mp hl
    refine db_cons (ds_ifE (b1 := false) (DT.eqE (DW.dt (dw_orE (dt_notE (dt_val (de_isTup g T.b_isinstance T.b_tuple (de_slot (i := 1) g rfl)))) (fun _ => (dw_or1 (dt_notE (dt_chainE op_le op_le de_int (de_len g T.b_len (de_slot (i := 1) g rfl)) (de_cint g T.c_MOST_STEPS) vr_le vr_le)))))) (by simp [isTup]; omega)) (fun z => nomatch z) (fun z => db_nil ?_))
    have ew : walkP rs (.tuple ds) = wkGo rs none ds := walkP_yes hl
    rw [ew]
    refine db_cons (ds_set (i := 2) g de_non ?_)
    refine db_cons (ds_for g (di_tupM (s := Is) (de_slot (i := 1) g rfl).tupT) fun ys hy => ⟨fun i ρ' => ∃ (t : Option C4) (s3 s4 : Sl), ρ' = [.dat (Is (encRs rs)), .dat (Is (.tuple ds)), .dat (Is (encO t)), s3, s4] ∧ wkGo rs none ds = wkGo rs t (ds.drop i) ∧ (t = none ↔ i = 0), ⟨none, _, _, rfl, rfl, by simp⟩, ?_, ?_⟩)
    · rintro i y ρ' ey ⟨t, s3, s4, rfl, ht, ht0⟩
      subst hy
      obtain ⟨x, ex, rfl⟩ := map_get ey
      rw [wkGo_at ex] at ht
      refine (dg_name (i := 3) g (by first | exact .inl rfl | exact .inr ⟨rfl, rfl⟩) rfl (lt_of_get rfl) ?_)
      refine db_cons (ds_set (i := 4) g (de_call g (c_condition_of T) (des_cons (de_slot (i := 0) g rfl) (des_cons (de_slot (i := 3) g rfl) des_nil)) ⟨_, _, by assumption, rfl, rfl⟩) ?_)
      cases hc : condP rs x with
      | none =>
        rw [hc] at ht
        exact db_cons (ds_ifE (DW.dt (dw_orT (dt_isN (de_slot (i := 4) g rfl)))) (fun z => db_one (ds_retI de_non (by rw [ht]; rfl))) (fun z => nomatch z))
      | some o =>
        rw [hc] at ht
        simp only at ht
        obtain ⟨o1, o2, o3, o4⟩ := condP_ok w hc
        obtain ⟨os, oe, op, oq⟩ := o
        simp only at o1 o2 o3 o4
        cases t with
        | none =>
          refine db_cons (ds_ifE (DW.dt (dw_orE (dt_isN (de_slot (i := 4) g rfl)) fun _ => dw_or1 (DW.dt (dw_andF (dt_notN (de_slot (i := 2) g rfl)))))) (fun z => nomatch z) (fun z => db_nil ?_))
          refine db_one (ds_set (i := 2) (τ := Is (encO (some (os, oe, op, oq)))) g (de_ifT (dt_isN (de_slot (i := 2) g rfl)) (de_slot (i := 4) g rfl)) ?_)
          exact ⟨some (os, oe, op, oq), _, _, rfl, ht, by simp⟩
        | some t =>
          obtain ⟨ts, te, tp, tq⟩ := t
          unfold wkStep at ht
          simp only at ht
          by_cases hq : te = os
          · rw [if_pos hq] at ht
            refine db_cons (ds_ifE (DW.dt (dw_orE (dt_isN (de_slot (i := 4) g rfl)) fun _ => dw_or1 (DW.dt (dw_andE (dt_notN (de_slot (i := 2) g rfl)) fun _ => dw_and1 (dt_cmp op_ne (de_ixI (d := .int te) (ds := [.int ts, .int te, .int tp, .int tq]) (de_slot (i := 2) g rfl) de_int rfl) (de_ixI (d := .int os) (ds := [.int os, .int oe, .int op, .int oq]) (de_slot (i := 4) g rfl) de_int rfl) vr_neI))))) (fun z => by simp [isN, encO, hq] at z) (fun z => db_nil ?_))
            refine db_one (ds_set (i := 2) (τ := Is (encO (some (ts, oe, tp * op, tq * oq)))) g (de_ifF (dt_isN (de_slot (i := 2) g rfl)) (DE.tupI (ds := [_, _, _, _]) (de_tup (des_cons (de_ixI (d := .int ts) (ds := [.int ts, .int te, .int tp, .int tq]) (de_slot (i := 2) g rfl) de_int rfl) (des_cons (de_ixI (d := .int oe) (ds := [.int os, .int oe, .int op, .int oq]) (de_slot (i := 4) g rfl) de_int rfl) (des_cons (de_mul (de_ixI (d := .int tp) (ds := [.int ts, .int te, .int tp, .int tq]) (de_slot (i := 2) g rfl) de_int rfl) (de_ixI (d := .int op) (ds := [.int os, .int oe, .int op, .int oq]) (de_slot (i := 4) g rfl) de_int rfl) (.inr ⟨by omega, by omega⟩)) (des_cons (de_mul (de_ixI (d := .int tq) (ds := [.int ts, .int te, .int tp, .int tq]) (de_slot (i := 2) g rfl) de_int rfl) (de_ixI (d := .int oq) (ds := [.int os, .int oe, .int op, .int oq]) (de_slot (i := 4) g rfl) de_int rfl) (.inr ⟨by omega, by omega⟩)) des_nil))))))) ?_)
            exact ⟨some (ts, oe, tp * op, tq * oq), _, _, rfl, ht, by simp⟩
          · rw [if_neg hq] at ht
            exact db_cons (ds_ifE (DW.dt (dw_orE (dt_isN (de_slot (i := 4) g rfl)) fun _ => dw_or1 (DW.dt (dw_andE (dt_notN (de_slot (i := 2) g rfl)) fun _ => dw_and1 (dt_cmp op_ne (de_ixI (d := .int te) (ds := [.int ts, .int te, .int tp, .int tq]) (de_slot (i := 2) g rfl) de_int rfl) (de_ixI (d := .int os) (ds := [.int os, .int oe, .int op, .int oq]) (de_slot (i := 4) g rfl) de_int rfl) vr_neI))))) (fun z => db_one (ds_retI de_non (by rw [ht]; rfl))) (fun z => by simp [isN, encO, hq] at z))
    · rintro ρ' ⟨t, s3, s4, rfl, ht, ht0⟩
      subst hy
      refine db_one (ds_retI (de_slot (i := 2) g rfl) ?_)
      rw [ht, List.length_map, List.drop_length]
      rfl
  all_goals exact db_cons (ds_ifE (DW.dt (dw_orT (dt_notE (dt_val (de_isTup g T.b_isinstance T.b_tuple (de_slot (i := 1) g rfl)))))) (fun z => db_one (ds_retI de_non rfl)) (fun z => nomatch z))
theorem c_L_walked (T : Txt W) : Cal W "_law_walked" 3 ["_law_results_here", "_law_value"] (spP S_Lwk) := by
  refine cal_P T.d_L_walked sc_L_walked (by decide) (fun _ _ _ _ _ _ us hl => match us, hl with | [_, _], _ => rfl) (fun τs τ h => by obtain ⟨_, _, _, rfl, _⟩ := h; rfl) fun X g τs τ h => ?_
  obtain ⟨rs, d, ⟨w, hsh, hln⟩, rfl, rfl⟩ := h
  cases d
  case tuple ds =>
    by_cases hl : ¬ (1 ≤ ds.length ∧ ds.length ≤ 40)
    · exact db_cons (ds_ifE (DW.dt (dw_orE (dt_notE (dt_val (de_isTup g T.b_isinstance T.b_tuple (de_slot (i := 1) g rfl)))) fun _ => dw_or1 (DT.eqE (b2 := true) (dt_notE (dt_chainE op_le op_le de_int (de_len g T.b_len (de_slot (i := 1) g rfl)) de_int vr_le vr_le)) (by simp; omega)))) (fun z => db_one (ds_retI de_non (by rw [walkP_no hl]; rfl))) (fun z => by simp [isTup] at z))
    have hl := Decidable.not_not.mp hl
    refine db_cons (ds_ifE (b1 := false) (DT.eqE (DW.dt (dw_orE (dt_notE (dt_val (de_isTup g T.b_isinstance T.b_tuple (de_slot (i := 1) g rfl)))) (fun _ => (dw_or1 (dt_notE (dt_chainE op_le op_le de_int (de_len g T.b_len (de_slot (i := 1) g rfl)) de_int vr_le vr_le)))))) (by simp [isTup]; omega)) (fun z => nomatch z) (fun z => db_nil ?_))
    have ew : walkP rs (.tuple ds) = wkGo rs none ds := walkP_yes hl
    rw [ew]
    refine db_cons (ds_set (i := 2) g de_non ?_)
    refine db_cons (ds_for g (di_tupM (s := Is) (de_slot (i := 1) g rfl).tupT) fun ys hy => ⟨fun i ρ' => ∃ (t : Option C4) (s3 s4 : Sl), ρ' = [.dat (Is (encRs rs)), .dat (Is (.tuple ds)), .dat (Is (encO t)), s3, s4] ∧ wkGo rs none ds = wkGo rs t (ds.drop i) ∧ (t = none ↔ i = 0), ⟨none, _, _, rfl, rfl, by simp⟩, ?_, ?_⟩)
    · rintro i y ρ' ey ⟨t, s3, s4, rfl, ht, ht0⟩
      subst hy
      obtain ⟨x, ex, rfl⟩ := map_get ey
      rw [wkGo_at ex] at ht
      have hnx : Wf rs ∧ Nice x := ⟨w, (hln ds rfl).2 x (List.mem_of_getElem? ex)⟩
      refine (dg_name (i := 3) g (by first | exact .inl rfl | exact .inr ⟨rfl, rfl⟩) rfl (lt_of_get rfl) ?_)
      refine db_cons (ds_set (i := 4) g (de_call g (c_L_condition T) (des_cons (de_slot (i := 0) g rfl) (des_cons (de_slot (i := 3) g rfl) des_nil)) ⟨_, _, by assumption, rfl, rfl⟩) ?_)
      cases hc : condP rs x with
      | none =>
        rw [hc] at ht
        exact db_cons (ds_ifE (DW.dt (dw_orT (dt_isN (de_slot (i := 4) g rfl)))) (fun z => db_one (ds_retI de_non (by rw [ht]; rfl))) (fun z => nomatch z))
      | some o =>
        rw [hc] at ht
        simp only at ht
        obtain ⟨o1, o2, o3, o4⟩ := condP_ok w hc
        obtain ⟨os, oe, op, oq⟩ := o
        simp only at o1 o2 o3 o4
        cases t with
        | none =>
          refine db_cons (ds_ifE (DW.dt (dw_orE (dt_isN (de_slot (i := 4) g rfl)) fun _ => dw_or1 (DW.dt (dw_andF (dt_notN (de_slot (i := 2) g rfl)))))) (fun z => nomatch z) (fun z => db_nil ?_))
          refine db_one (ds_ifE (dt_isN (de_slot (i := 2) g rfl)) (fun z => db_one (ds_set (i := 2) (τ := Is (encO (some (os, oe, op, oq)))) g (de_slot (i := 4) g rfl) ?_)) (fun z => nomatch z))
          exact ⟨some (os, oe, op, oq), _, _, rfl, ht, by simp⟩
        | some t =>
          obtain ⟨ts, te, tp, tq⟩ := t
          unfold wkStep at ht
          simp only at ht
          by_cases hq : te = os
          · rw [if_pos hq] at ht
            refine db_cons (ds_ifE (DW.dt (dw_orE (dt_isN (de_slot (i := 4) g rfl)) fun _ => dw_or1 (DW.dt (dw_andE (dt_notN (de_slot (i := 2) g rfl)) fun _ => dw_and1 (dt_cmp op_ne (de_ixI (d := .int te) (ds := [.int ts, .int te, .int tp, .int tq]) (de_slot (i := 2) g rfl) de_int rfl) (de_ixI (d := .int os) (ds := [.int os, .int oe, .int op, .int oq]) (de_slot (i := 4) g rfl) de_int rfl) vr_neI))))) (fun z => by simp [isN, encO, hq] at z) (fun z => db_nil ?_))
            refine db_one (ds_ifE (dt_isN (de_slot (i := 2) g rfl)) (fun z => nomatch z) (fun z => db_one (ds_set (i := 2) (τ := Is (encO (some (ts, oe, tp * op, tq * oq)))) g (DE.tupI (ds := [_, _, _, _]) (de_tup (des_cons (de_ixI (d := .int ts) (ds := [.int ts, .int te, .int tp, .int tq]) (de_slot (i := 2) g rfl) de_int rfl) (des_cons (de_ixI (d := .int oe) (ds := [.int os, .int oe, .int op, .int oq]) (de_slot (i := 4) g rfl) de_int rfl) (des_cons (de_mul (de_ixI (d := .int tp) (ds := [.int ts, .int te, .int tp, .int tq]) (de_slot (i := 2) g rfl) de_int rfl) (de_ixI (d := .int op) (ds := [.int os, .int oe, .int op, .int oq]) (de_slot (i := 4) g rfl) de_int rfl) (.inr ⟨by omega, by omega⟩)) (des_cons (de_mul (de_ixI (d := .int tq) (ds := [.int ts, .int te, .int tp, .int tq]) (de_slot (i := 2) g rfl) de_int rfl) (de_ixI (d := .int oq) (ds := [.int os, .int oe, .int op, .int oq]) (de_slot (i := 4) g rfl) de_int rfl) (.inr ⟨by omega, by omega⟩)) des_nil)))))) ?_)))
            exact ⟨some (ts, oe, tp * op, tq * oq), _, _, rfl, ht, by simp⟩
          · rw [if_neg hq] at ht
            exact db_cons (ds_ifE (DW.dt (dw_orE (dt_isN (de_slot (i := 4) g rfl)) fun _ => dw_or1 (DW.dt (dw_andE (dt_notN (de_slot (i := 2) g rfl)) fun _ => dw_and1 (dt_cmp op_ne (de_ixI (d := .int te) (ds := [.int ts, .int te, .int tp, .int tq]) (de_slot (i := 2) g rfl) de_int rfl) (de_ixI (d := .int os) (ds := [.int os, .int oe, .int op, .int oq]) (de_slot (i := 4) g rfl) de_int rfl) vr_neI))))) (fun z => db_one (ds_retI de_non (by rw [ht]; rfl))) (fun z => by simp [isN, encO, hq] at z))
    · rintro ρ' ⟨t, s3, s4, rfl, ht, ht0⟩
      subst hy
      refine db_one (ds_retI (de_slot (i := 2) g rfl) ?_)
      rw [ht, List.length_map, List.drop_length]
      rfl
  all_goals exact db_cons (ds_ifE (DW.dt (dw_orT (dt_notE (dt_val (de_isTup g T.b_isinstance T.b_tuple (de_slot (i := 1) g rfl)))))) (fun z => db_one (ds_retI de_non rfl)) (fun z => nomatch z))
end
end K35
set_option Elab.async false
set_option linter.all false
set_option maxRecDepth 100000
set_option maxHeartbeats 1000000
set_option exponentiation.threshold 20000
/-! shows most -/
namespace K35
open PySem PySem.Spec L2
/-! ### the law's gcd -/
theorem lgcd_eq : ∀ (k n a b : Nat), b < 2 ^ k → 2 * k + 1 ≤ n → lgcd n a b = Nat.gcd a b
  | 0, n, a, b, hb, hn => by
    have : b = 0 := by simpa using hb
    rw [this, lgcd_zero, Nat.gcd_zero_right]
  | k + 1, n, a, b, hb, hn => by
    by_cases h0 : b = 0
    · rw [h0, lgcd_zero, Nat.gcd_zero_right]
    obtain ⟨m, rfl⟩ : ∃ m, n = m + 2 := ⟨n - 2, by omega⟩
    have e1 : lgcd (m + 2) a b = lgcd (m + 1) b (a % b) := by rw [lgcd, if_pos (by omega)]
    have g1 : Nat.gcd a b = Nat.gcd b (a % b) := by rw [Nat.gcd_comm a b, Nat.gcd_rec b a, Nat.gcd_comm]
    rw [e1, g1]
    by_cases h1 : a % b = 0
    · rw [h1, lgcd_zero, Nat.gcd_zero_right]
    have hr : a % b < b := Nat.mod_lt _ (by omega)
    have e2 : lgcd (m + 1) b (a % b) = lgcd m (a % b) (b % (a % b)) := by rw [lgcd, if_pos (by omega)]
    have g2 : Nat.gcd b (a % b) = Nat.gcd (a % b) (b % (a % b)) := by rw [Nat.gcd_comm b (a % b), Nat.gcd_rec (a % b) b, Nat.gcd_comm]
    rw [e2, g2]
    refine lgcd_eq k m _ _ ?_ (by omega)
    have h2 : b % (a % b) < a % b := Nat.mod_lt _ (by omega)
    have h3 : b % (a % b) ≤ b - a % b := by
      rw [Nat.mod_eq_sub_mod (by omega)]
      exact Nat.mod_le _ _
    rw [Nat.pow_succ] at hb
    omega
theorem lgcd_big {a b : Nat} (h : b ≤ 2 ^ 1200) : lgcd 3000 a b = Nat.gcd a b := lgcd_eq 1201 3000 a b (Nat.lt_of_le_of_lt h (by decide)) (by omega)
/-! ### the mirror -/
def lenD (d : PyData) : Nat := match d with | .tuple ds => ds.length | _ => 0
def nsD (d : PyData) : List Int := match d with | .tuple ds => ds.map toI | _ => []
def stepsB (rs : List Res) (one other : Int) (ratio steps : PyData) : Bool := match steps with
  | .tuple [] => decide (one = other) && PyData.eqv ratio (.tuple [.int 1, .int 1])
  | _ => match walkP rs steps with
    | none => false
    | some k => PyData.eqv (.tuple [.int k.1, .int k.2.1]) (.tuple [.int one, .int other]) && PyData.eqv (redN k.2.2.1.toNat k.2.2.2.toNat) ratio
def ratA (d : PyData) : Int := match d with | .tuple [.int a, _] => a | _ => 0
def ratB (d : PyData) : Int := match d with | .tuple [_, .int b] => b | _ => 0
def mostB (rs : List Res) (one other : Int) (ratio steps divs : PyData) : Bool := isRat ratio && (okDivs divs && (decide (9 ≤ lenD divs) && (keepsD rs divs && (decide (ratB ratio * divAt (nsD divs) one = ratA ratio * divAt (nsD divs) other) && stepsB rs one other ratio steps))))
theorem isRat_inv {d : PyData} (h : isRat d = true) : ∃ a b, d = .tuple [.int a, .int b] ∧ 1 ≤ a ∧ 1 ≤ b ∧ Nat.gcd a.toNat b.toNat = 1 := by
  unfold isRat at h
  split at h
  · rename_i a b
    simp only [Bool.and_eq_true, decide_eq_true_eq] at h
    exact ⟨a, b, rfl, h.1.1, h.1.2, h.2⟩
  · cases h
def BdT (B : Int) (d : PyData) : Prop := ∀ ns : List Int, d = .tuple (ns.map I') → ∀ n ∈ ns, n ≤ B
theorem divAt_ok {ns : List Int} (hne : ns ≠ []) (h1 : ∀ n ∈ ns, 1 ≤ n) {B : Int} (hB : ∀ n ∈ ns, n ≤ B) {i : Int} (h0 : 0 ≤ i) (h9 : i ≤ 9) : 1 ≤ divAt ns i ∧ divAt ns i ≤ B + 10 := by
  have hl : 0 < ns.length := List.length_pos_iff.mpr hne
  unfold divAt
  split
  · rename_i h
    have hm := getD_mem (xs := ns) (j := i.toNat) (by omega)
    have a1 := h1 _ hm
    have a2 := hB _ hm
    omega
  · rename_i h
    have hm := getD_mem (xs := ns) (j := ns.length - 1) (by omega)
    have a1 := h1 _ hm
    have a2 := hB _ hm
    omega
theorem bigW {a b : Int} (ha : 1 ≤ a) (hb : 1 ≤ b) (ha2 : a ≤ 2 ^ 6000) (hb2 : b ≤ 2 ^ 6000 + 10) : CMulW a b := by
  have e : (2 : Int) ^ 6000 + 10 < 2 ^ 6001 := by decide
  have h1 := sz_log (x := a) (n := 6001) (by omega) (by omega) (by decide)
  have h2 := sz_log (x := b) (n := 6001) (by omega) (by omega) (by decide)
  unfold CMulW; omega
theorem sh_ints {a b : Int} : SeqAt.shaped (.tuple [.int a, .int b]) = true := by
  unfold SeqAt.shaped
  rw [Bool.and_eq_true, decide_eq_true_eq]
  simp only [PyData.canLay0, PyData.canLayAll0, PyData.depth, PyData.depthAll]
  exact ⟨rfl, by omega⟩
theorem sh_nil : SeqAt.shaped (.tuple []) = true := by decide +kernel
theorem eqv_nil {d : PyData} : PyData.eqv d (.tuple []) = true ↔ d = .tuple [] := by
  constructor
  · intro h
    cases d <;> simp only [PyData.eqv] at h <;> first | (cases h; done) | skip
    rename_i ds
    cases ds with
    | nil => rfl
    | cons x r => simp only [PyData.eqvAll] at h; cases h
  · intro h; subst h; simp only [PyData.eqv, PyData.eqvAll]
theorem stepsB_at {rs : List Res} {one other : Int} {ratio steps : PyData} (h : steps ≠ .tuple []) : stepsB rs one other ratio steps = match walkP rs steps with
    | none => false
    | some k => PyData.eqv (.tuple [.int k.1, .int k.2.1]) (.tuple [.int one, .int other]) && PyData.eqv (redN k.2.2.1.toNat k.2.2.2.toNat) ratio := by
  unfold stepsB
  split
  · exact absurd rfl h
  · rfl
theorem red_log {n : Nat} {k : C4} (h : C4ok 40 k) : (0 < Nat.gcd k.2.2.1.toNat k.2.2.2.toNat ∧ (Nat.gcd k.2.2.1.toNat k.2.2.2.toNat).log2 < 9000) ∧ k.2.2.1.toNat ≤ 2 ^ 1200 ∧ k.2.2.2.toNat ≤ 2 ^ 1200 := by
  obtain ⟨h1, h2, h3, h4⟩ := h
  have e : ((1000 ^ 40 : Nat) : Int) = 1000 ^ 40 := by decide
  have e2 : (1000 ^ 40 : Nat) ≤ 2 ^ 1200 := by decide
  have l1 : k.2.2.1.toNat ≤ 1000 ^ 40 := by omega
  have l2 : k.2.2.2.toNat ≤ 1000 ^ 40 := by omega
  exact ⟨gcd_log (by omega) (Nat.le_trans l2 (by decide)), Nat.le_trans l1 e2, Nat.le_trans l2 e2⟩
section
variable {W : Wd}
def S_sm : List Ty → Ty → Prop := fun τs τ => ∃ rs one other ratio steps divs, (Wf rs ∧ (0 ≤ one ∧ one ≤ 8) ∧ (0 ≤ other ∧ other ≤ 8) ∧ Nice2 steps ∧ BdT (2 ^ 1100) ratio ∧ BdT (2 ^ 6000) divs) ∧ τs = [Is (encRs rs), Is (.int one), Is (.int other), Is ratio, Is steps, Is divs] ∧ τ = BI (mostB rs one other ratio steps divs)
theorem c_shows_most (T : Txt W) : Cal W "shows_most" 4 ["results", "one", "other", "ratio", "steps", "divisors"] (spP S_sm) := by
  refine cal_P T.d_shows_most sc_shows_most (by decide) (fun _ _ _ _ _ _ us hl => match us, hl with | [_, _, _, _, _, _], _ => rfl) (fun τs τ h => by obtain ⟨_, _, _, _, _, _, _, rfl, _⟩ := h; rfl) fun X g τs τ h => ?_
  obtain ⟨rs, one, other, ratio, steps, divs, ⟨w, ho, hp, hst, hbr, hbd⟩, rfl, rfl⟩ := h
  unfold mostB
  cases hr : isRat ratio with
  | false => exact db_cons (ds_ifE (DW.dt (dw_orT (dt_notE (dt_val (de_call g (c_is_ratio T) (des_cons (de_slot (i := 3) g rfl) des_nil) ⟨_, rfl, rfl⟩))) (by rw [hr]; rfl))) (fun z => db_one (ds_retB de_bl.bi rfl)) (fun z => nomatch z))
  | true =>
  obtain ⟨a, b, rfl, ha, hb, hg⟩ := isRat_inv hr
  cases hd : okDivs divs with
  | false => exact db_cons (ds_ifE (DW.dt (dw_orE (dt_notE (dt_val (de_call g (c_is_ratio T) (des_cons (de_slot (i := 3) g rfl) des_nil) ⟨_, rfl, rfl⟩))) fun _ => dw_orT (dt_notE (dt_val (de_call g (c_are_divisors T) (des_cons (de_slot (i := 5) g rfl) des_nil) ⟨_, rfl, rfl⟩))) (by rw [hd]; rfl))) (fun z => db_one (ds_retB de_bl.bi rfl)) (fun z => by simp at z))
  | true =>
  obtain ⟨ns, rfl, n1, n20, hn, hu⟩ := okDivs_inv hd
  have hne : ns ≠ [] := fun e => by simp [e] at n1
  have el : lenD (.tuple (ns.map I')) = ns.length := by simp [lenD]
  have en : nsD (.tuple (ns.map I')) = ns := map_toI ns
  rw [el, en]
  by_cases h9 : ¬ 9 ≤ ns.length
  · exact db_cons (ds_ifE (b1 := true) (DT.eqE (DW.dt (dw_orE (dt_notE (dt_val (de_call g (c_is_ratio T) (des_cons (de_slot (i := 3) g rfl) des_nil) ⟨_, rfl, rfl⟩))) fun _ => dw_orE (dt_notE (dt_val (de_call g (c_are_divisors T) (des_cons (de_slot (i := 5) g rfl) des_nil) ⟨_, rfl, rfl⟩))) fun _ => dw_or1 (dt_cmp op_lt (de_len g T.b_len (de_slot (i := 5) g rfl)) (de_cint g T.c_LEAST_DIVISORS) vr_lt))) (by rw [hr, hd]; simp; omega)) (fun z => db_one (ds_retB de_bl.bi (by simp; omega))) (fun z => nomatch z))
  have h9 := Decidable.not_not.mp h9
  refine db_cons (ds_ifE (b1 := false) (DT.eqE (DW.dt (dw_orE (dt_notE (dt_val (de_call g (c_is_ratio T) (des_cons (de_slot (i := 3) g rfl) des_nil) ⟨_, rfl, rfl⟩))) fun _ => dw_orE (dt_notE (dt_val (de_call g (c_are_divisors T) (des_cons (de_slot (i := 5) g rfl) des_nil) ⟨_, rfl, rfl⟩))) fun _ => dw_or1 (dt_cmp op_lt (de_len g T.b_len (de_slot (i := 5) g rfl)) (de_cint g T.c_LEAST_DIVISORS) vr_lt))) (by rw [hr, hd]; simp; omega)) (fun z => nomatch z) (fun z => db_nil ?_))
  have e9 : decide (9 ≤ ns.length) = true := decide_eq_true h9
  rw [e9]
  have ef : fitB rs (.tuple (ns.map I')) = keepsD rs (.tuple (ns.map I')) := by unfold fitB; rw [hd]; rfl
  cases hk : keepsD rs (.tuple (ns.map I')) with
  | false => exact db_cons (ds_ifE (b1 := true) (DT.eqE (dt_notE (dt_val (de_call g (c_fitting T) (des_cons (de_slot (i := 0) g rfl) (des_cons (de_slot (i := 5) g rfl) des_nil)) ⟨_, _, by assumption, rfl, rfl⟩))) (by rw [ef, hk]; rfl)) (fun z => db_one (ds_retB de_bl.bi rfl)) (fun z => nomatch z))
  | true =>
  refine db_cons (ds_ifE (b1 := false) (DT.eqE (dt_notE (dt_val (de_call g (c_fitting T) (des_cons (de_slot (i := 0) g rfl) (des_cons (de_slot (i := 5) g rfl) des_nil)) ⟨_, _, by assumption, rfl, rfl⟩))) (by rw [ef, hk]; rfl)) (fun z => nomatch z) (fun z => db_nil ?_))
  have hB := hbd ns rfl
  obtain ⟨d1, d2⟩ := divAt_ok hne hn hB ho.1 (by omega)
  obtain ⟨d3, d4⟩ := divAt_ok hne hn hB hp.1 (by omega)
  have e11 : (2 : Int) ^ 1100 ≤ 2 ^ 6000 := by decide
  have ba : a ≤ 2 ^ 1100 := hbr [a, b] rfl a (by simp)
  have bb : b ≤ 2 ^ 1100 := hbr [a, b] rfl b (by simp)
  have w1 := bigW hb d1 (Int.le_trans bb e11) d2
  have w2 := bigW ha d3 (Int.le_trans ba e11) d4
  refine db_cons (ds_ifE (dt_cmp op_ne (de_mulW (de_ixI (d := .int b) (ds := [.int a, .int b]) (de_slot (i := 3) g rfl) de_int rfl) (de_call g (c_divisor_in T) (des_cons (de_slot (i := 5) g rfl) (des_cons (de_slot (i := 1) g rfl) des_nil)) ⟨_, _, ⟨hne, by omega⟩, rfl, rfl⟩) w1) (de_mulW (de_ixI (d := .int a) (ds := [.int a, .int b]) (de_slot (i := 3) g rfl) de_int rfl) (de_call g (c_divisor_in T) (des_cons (de_slot (i := 5) g rfl) (des_cons (de_slot (i := 2) g rfl) des_nil)) ⟨_, _, ⟨hne, by omega⟩, rfl, rfl⟩) w2) vr_neI) (fun z => db_one (ds_retB de_bl.bi ?_)) (fun z => db_nil ?_))
  · have z : decide (b * divAt ns one = a * divAt ns other) = false := by simpa using z
    show false = (true && (true && (true && (true && (decide (b * divAt ns one = a * divAt ns other) && _)))))
    rw [z]; rfl
  have z : decide (b * divAt ns one = a * divAt ns other) = true := by simpa using z
  show DB X _ _ { nx := fun _ => ∀ F, (BI (true && (true && (true && (true && (decide (b * divAt ns one = a * divAt ns other) && stepsB rs one other (.tuple [.int a, .int b]) steps)))))).p .non F, rt := fun _ v F => (BI (true && (true && (true && (true && (decide (b * divAt ns one = a * divAt ns other) && stepsB rs one other (.tuple [.int a, .int b]) steps)))))).p v F }
  rw [z]
  by_cases hs : steps = .tuple []
  · subst hs
    refine db_cons (ds_ifE (b1 := true) (DT.eqE (dt_eq g (de_slot (i := 4) g rfl) (DE.tupI (ds := []) (de_tup des_nil)) hst.1 sh_nil) (eqv_nil.mpr rfl)) (fun _ => db_one (ds_retB (de_andE (de_cmp op_eq (de_slot (i := 1) g rfl) (de_slot (i := 2) g rfl) vr_eqI) fun _ => de_one (de_eq g (de_slot (i := 3) g rfl) (DE.tupI (ds := [_, _]) (de_tup (des_cons de_int (des_cons de_int des_nil)))) sh_ints sh_ints)) rfl)) (fun z => nomatch z))
  · refine db_cons (ds_ifE (b1 := false) (DT.eqE (dt_eq g (de_slot (i := 4) g rfl) (DE.tupI (ds := []) (de_tup des_nil)) hst.1 sh_nil) (by cases q : PyData.eqv steps (.tuple []) with | false => rfl | true => exact absurd (eqv_nil.mp q) hs)) (fun z => nomatch z) (fun _ => db_nil ?_))
    rw [stepsB_at hs]
    refine db_cons (ds_set (i := 6) g (de_call g (c_walked T) (des_cons (de_slot (i := 0) g rfl) (des_cons (de_slot (i := 4) g rfl) des_nil)) ⟨_, _, by assumption, rfl, rfl⟩) ?_)
    cases hw : walkP rs steps with
    | none =>
      exact db_one (ds_retB (de_andF (de_notN (de_slot (i := 6) g rfl))) rfl)
    | some k =>
      obtain ⟨hg1, hg2, hg3⟩ := red_log (n := 0) (walkP_ok w hw)
      obtain ⟨o1, o2, o3, o4⟩ := walkP_ok w hw
      obtain ⟨ks, ke, kp, kq⟩ := k
      simp only at hg1 hg2 hg3 o1 o2 o3 o4
      have ep : ((kp.toNat : Nat) : Int) = kp := by omega
      have eq : ((kq.toNat : Nat) : Int) = kq := by omega
      refine db_one (ds_retB (de_andE (de_notN (de_slot (i := 6) g rfl)) fun _ => de_andE (de_eq g (de_sliceI (lo := none) (hi := some _) (l := none) (h := some 2) (ds := [.int ks, .int ke, .int kp, .int kq]) (de_slot (i := 6) g rfl) True.intro de_int) (DE.tupI (ds := [_, _]) (de_tup (des_cons (de_slot (i := 1) g rfl) (des_cons (de_slot (i := 2) g rfl) des_nil)))) sh_ints sh_ints) fun _ => de_one (de_eq g (de_call g (c_reduced T) (des_cons (de_ixI (d := .int kp) (ds := [.int ks, .int ke, .int kp, .int kq]) (de_slot (i := 6) g rfl) de_int rfl) (des_cons (de_ixI (d := .int kq) (ds := [.int ks, .int ke, .int kp, .int kq]) (de_slot (i := 6) g rfl) de_int rfl) des_nil)) ⟨kp.toNat, kq.toNat, hg1, by rw [ep, eq], rfl⟩) (de_slot (i := 3) g rfl) sh_ints sh_ints)) rfl)
end
end K35
set_option Elab.async false
set_option linter.all false
set_option maxRecDepth 100000
set_option maxHeartbeats 1000000
set_option exponentiation.threshold 20000
/-! shows none; accepts -/
namespace K35
open PySem PySem.Spec L2
theorem di_rangeZ {W : Wd} {n : Nat} {df : Bool} {X : Cx} {N : List Str} {sc : Scope} {a tg : Expr} {ρ : List Sl} {pos p : Pos} {i : Int} (g : Good W n df X N sc) (hr : W.mg "range" = none) (h : DE X a ρ (Is (.int i))) (h1 : -1000 ≤ i) (h2 : i ≤ 1000) (hg : sc.names.lookup ("range" : Str) = some .globalImplicit := by rfl) (hs : starEach [a] X.env = [(false, eval a X.env)] := by rfl) :
    DI X tg (.Call (.Name "range" p) [a] [] pos) ρ (fun ys => ys = (List.range i.toNat).map natI) := fun σ F G H R S q =>
  wi_of (pi_range1 (g.gl hg) (by rw [g.em]; exact hr) (pa_cons pe_w pa_nil (by rw [hs]; rfl)) hs) (h σ F G H _ S fun v F1 H1 x1 S1 p1 => by
    refine ⟨i, by rw [is_int p1], by omega, by omega, ?_⟩
    refine q _ _ F1 H1 rfl x1 S1 fun k ρ' σ' F' G' H' up S' => ⟨fun y ey => ?_, fun hi => by
      show i.toNat ≤ k
      rwa [List.length_map, List.length_range] at hi⟩
    have hk : k < i.toNat := by
      have := (List.getElem?_eq_some_iff.mp ey).1
      rwa [List.length_map, List.length_range] at this
    refine ⟨hk, fun x H'' hy => ?_⟩
    obtain ⟨rfl, rfl⟩ := hy
    refine ⟨F', Ext.refl _ _, S', ?_⟩
    rw [List.getElem?_map, List.getElem?_range hk] at ey
    cases ey
    rw [Int.zero_add]
    exact Dp.int _)
def strictB (ns : List Int) : Bool := (List.range (ns.length - 1)).all fun k => decide (ns.getD k 0 < ns.getD (k + 1) 0)
def closedC (ns : List Int) (c : Cd) : Bool := !decide (c.s ∈ ns) || decide (c.e ∈ ns)
def wh9 (d : PyData) : Bool := isWh d 0 9
def noneB (rs : List Res) (one other : Int) (chosen divs : PyData) : Bool := match chosen with
  | .tuple ds => ds.all wh9 && (strictB (ds.map toI) && (fitB rs divs && (decide (one ∈ ds.map toI) && (!decide (other ∈ ds.map toI) && (allL rs 9).all (closedC (ds.map toI))))))
  | _ => false
theorem wh9_ints {ds : List PyData} (h : ds.all wh9 = true) : ∃ ns : List Int, ds = ns.map I' ∧ ∀ n ∈ ns, 0 ≤ n ∧ n ≤ 9 := by
  induction ds with
  | nil => exact ⟨[], rfl, fun n h => nomatch h⟩
  | cons d ds ih =>
    rw [List.all_cons, Bool.and_eq_true] at h
    obtain ⟨ns, e, hn⟩ := ih h.2
    obtain ⟨i, rfl, h0, h9⟩ := isWh_int h.1
    refine ⟨i :: ns, by rw [e]; rfl, fun n hm => ?_⟩
    rcases List.mem_cons.mp hm with z | z
    · subst z; exact ⟨h0, h9⟩
    · exact hn n z
def encC' (c : Cd) : PyData := .tuple [.int c.s, .int c.e, .int c.p, .int c.q]
theorem condP_all {rs : List Res} (w : Wf rs) {c : Cd} (h : c ∈ allL rs 9) : encO (condP rs c.nm) = encC' c := by
  unfold allL at h
  rcases List.mem_append.mp h with z | z
  · rw [condP_mem w z]; rfl
  · obtain ⟨k, hk, rfl⟩ := List.mem_map.mp z
    have hk : k < 9 := by simpa using hk
    show encO (if isWh (.int k) 0 8 = true then some ((k : Int), (k : Int) + 1, 1, 1) else none) = _
    rw [if_pos (by simp [isWh]; omega)]
    rfl
theorem allL_len {rs : List Res} (w : Wf rs) : (allL rs 9).length ≤ 36 := by
  have := seenL_len w
  unfold allL
  rw [List.length_append, List.length_map, List.length_range]
  omega
def Len1000 (d : PyData) : Prop := ∀ ds, d = .tuple ds → ds.length ≤ 900
section
variable {W : Wd}
def S_sn : List Ty → Ty → Prop := fun τs τ => ∃ rs one other chosen divs, (Wf rs ∧ Len1000 chosen) ∧ τs = [Is (encRs rs), Is (.int one), Is (.int other), Is chosen, Is divs] ∧ τ = BI (noneB rs one other chosen divs)
theorem c_shows_none (T : Txt W) : Cal W "shows_none" 4 ["results", "one", "other", "chosen", "divisors"] (spP S_sn) := by
  refine cal_P T.d_shows_none sc_shows_none (by decide) (fun _ _ _ _ _ _ us hl => match us, hl with | [_, _, _, _, _], _ => rfl) (fun τs τ h => by obtain ⟨_, _, _, _, _, _, rfl, _⟩ := h; rfl) fun X g τs τ h => ?_
  obtain ⟨rs, one, other, chosen, divs, ⟨w, hln⟩, rfl, rfl⟩ := h
  cases chosen
  case tuple ds =>
    have hz := hln ds rfl
    have h27 := seenL_len w
    refine db_cons (ds_ifE (DW.dt (dw_orE (dt_notE (dt_val (de_isTup g T.b_isinstance T.b_tuple (de_slot (i := 3) g rfl)))) fun _ => dw_or1 (dt_notE (dt_val (de_allM (f := wh9) g T.b_all (DF.lst (df_map (v := 13) ds (fun d => Is d) (fun d => BI (wh9 d)) g (by decide +kernel) (di_tupM (de_slot (i := 3) g rfl).tupT) (by omega) ⟨_, rfl, rfl⟩ fun d hd X' g' => (de_call g' (c_is_whole_fitting T) (des_cons (de_slot (i := 13) g' rfl) (des_cons de_int (des_cons de_int des_nil))) ⟨_, _, _, rfl, rfl⟩)))))))) (fun z => db_one (ds_retB de_bl.bi ?_)) (fun z => db_nil ?_))
    · have z : ds.all wh9 = false := by simpa [isTup] using z
      simp [noneB, z]
    have hall : ds.all wh9 = true := by simpa [isTup] using z
    obtain ⟨ns, rfl, hn⟩ := wh9_ints hall
    have hz : ns.length ≤ 900 := by simpa using hz
    have eB : noneB rs one other (.tuple (ns.map I')) divs = (true && (strictB ns && (fitB rs divs && (decide (one ∈ ns) && (!decide (other ∈ ns) && (allL rs 9).all (closedC ns)))))) := by
      show ((ns.map I').all wh9 && (strictB ((ns.map I').map toI) && (fitB rs divs && (decide (one ∈ (ns.map I').map toI) && (!decide (other ∈ (ns.map I').map toI) && (allL rs 9).all (closedC ((ns.map I').map toI))))))) = _
      rw [hall, map_toI]
    rw [eB]
    refine db_cons (ds_ifE (DW.dt (dw_orE (dt_notE (dt_val (de_allM (f := fun k => decide (ns.getD k 0 < ns.getD (k + 1) 0)) g T.b_all (DF.lst (df_map (v := 14) (List.range ((((ns.map I').length : Nat) : Int) - 1).toNat) natI (fun k => BI (decide (ns.getD k 0 < ns.getD (k + 1) 0))) g (by decide +kernel) (di_rangeZ g T.b_range (de_sub (de_len g T.b_len (de_slot (i := 3) g rfl)) de_int) (by simp; omega) (by simp; omega)) (by simp; omega) ⟨_, rfl, rfl⟩ fun k hk X' g' => ?_))))) fun _ => dw_or1 (dt_notE (dt_val (de_call g (c_fitting T) (des_cons (de_slot (i := 0) g rfl) (des_cons (de_slot (i := 4) g rfl) des_nil)) ⟨_, _, by assumption, rfl, rfl⟩))))) (fun z => db_one (ds_retB de_bl.bi ?_)) (fun z => db_nil ?_))
    · have hk' : k < ns.length - 1 := by simp at hk; omega
      have h2 := atI_of (i := (k : Int) + 1) (by omega) (show (ns.map I')[((k : Int) + 1).toNat]? = some (I' (ns.getD (k + 1) 0)) by rw [show ((k : Int) + 1).toNat = k + 1 by omega]; exact getD_at (by omega))
      exact de_cmp op_lt (de_ixI (d := I' _) (de_slot (i := 3) g' rfl) (de_slot (i := 14) g' rfl) (atI_I' (by omega))) (de_ixI (d := I' _) (de_slot (i := 3) g' rfl) (de_add (de_slot (i := 14) g' rfl) de_int) h2) vr_lt
    · have z : (!strictB ns || !fitB rs divs) = true := by
        rw [show ((((ns.map I').length : Nat) : Int) - 1).toNat = ns.length - 1 by simp] at z
        exact z
      have z : (strictB ns && fitB rs divs) = false := by cases q1 : strictB ns <;> cases q2 : fitB rs divs <;> first | rfl | (rw [q1, q2] at z; cases z)
      show false = (strictB ns && (fitB rs divs && _))
      rw [← Bool.and_assoc, z]; rfl
    have z : (!strictB ns || !fitB rs divs) = false := by
      rw [show ((((ns.map I').length : Nat) : Int) - 1).toNat = ns.length - 1 by simp] at z
      exact z
    have z1 : strictB ns = true ∧ fitB rs divs = true := by simpa using z
    rw [z1.1, z1.2]
    have chT : ∀ {ρ : List Sl}, ρ[3]? = some (.dat (Is (.tuple (ns.map I')))) → True := fun _ => trivial
    refine db_cons (ds_ifE (DW.dt (dw_orE (dt_notInT (ns := ns) (de_slot (i := 1) g rfl) (DE.tupM (de_slot (i := 3) g rfl))) fun _ => dw_or1 (dt_inT (ns := ns) (de_slot (i := 2) g rfl) (DE.tupM (de_slot (i := 3) g rfl))))) (fun z => db_one (ds_retB de_bl.bi ?_)) (fun z => db_nil ?_))
    · show false = (decide (one ∈ ns) && (!decide (other ∈ ns) && _))
      rw [← Bool.and_assoc]
      have : (decide (one ∈ ns) && !decide (other ∈ ns)) = false := by
        cases q1 : decide (one ∈ ns) <;> cases q2 : decide (other ∈ ns) <;> first | rfl | (rw [q1, q2] at z; cases z)
      rw [this]; rfl
    have z2 : decide (one ∈ ns) = true ∧ decide (other ∈ ns) = false := by
      cases q1 : decide (one ∈ ns) <;> cases q2 : decide (other ∈ ns) <;> first | exact ⟨rfl, rfl⟩ | (rw [q1, q2] at z; cases z)
    rw [z2.1, z2.2]
    have enm : (allL rs 9).map (fun c => Is c.nm) = (seenL rs).map (fun c => Is c.nm) ++ (List.range 9).map (fun k => Is (upC k).nm) := by unfold allL; rw [List.map_append, List.map_map]; rfl
    refine db_cons (ds_setF (i := 5) (ω := OL ((allL rs 9).map fun c => Is c.nm)) g (by
      rw [enm]
      refine df_catL (DF.lst (df_mapG (own := [("step", 8), ("start", 9), ("end", 10), ("p", 11), ("q", 12)]) (seenL rs) (fun c => Is (encC c)) (fun c => Is c.nm) (fun c => [.dat (Is (encRs rs)), .dat (Is (.int one)), .dat (Is (.int other)), .dat (Is (.tuple (ns.map I'))), .dat (Is divs), .un, .un, .un, .dat (Is c.nm), .dat (isI c.s), .dat (isI c.e), .dat (isI c.p), .dat (isI c.q), .un, .un]) g (by decide +kernel) (di_lstM (DE.lstM (de_call g (c_seen_in T) (des_cons (de_slot (i := 0) g rfl) des_nil) ⟨_, by assumption, rfl, rfl⟩))) (by omega) ?_ ?_ ?_ ?_)) (DF.lst (df_map (v := 13) (List.range 9) natI (fun k => Is (upC k).nm) g (by decide +kernel) (di_rangeM (m := 9) g T.b_range de_int rfl (by omega)) (by simp) ⟨_, rfl, rfl⟩ fun k hk X' g' => DE.tupI (ds := [_, _]) (de_tup (des_cons de_str (des_cons (de_slot (i := 13) g' rfl) des_nil))))) (by simp; omega)
      · intro i hi
        simp at hi
        rcases hi with rfl | rfl | rfl | rfl | rfl <;> exact ⟨_, rfl, rfl⟩
      · intro c hc j hj
        by_cases h8 : j < 8
        · match j, h8 with
          | 0, _ => rfl
          | 1, _ => rfl
          | 2, _ => rfl
          | 3, _ => rfl
          | 4, _ => rfl
          | 5, _ => rfl
          | 6, _ => rfl
          | 7, _ => rfl
        · by_cases h13 : j < 13
          · exfalso; apply hj; simp; omega
          · obtain ⟨m, rfl⟩ : ∃ m, j = m + 13 := ⟨j - 13, by omega⟩
            match m with
            | 0 => rfl
            | 1 => rfl
            | m + 2 => rfl
      · intro c hc X' g'
        refine (CG.tupI (cg_tup g' (cgs_cons (cg_name (i := 8) g' (by simp) (cgs_cons (cg_name (i := 9) g' (by simp) (cgs_cons (cg_name (i := 10) g' (by simp) (cgs_cons (cg_name (i := 11) g' (by simp) (cgs_cons (cg_name (i := 12) g' (by simp) (cgs_nil ?_)))))))))))))
        rfl
      · intro c hc X' g'
        exact (de_slot (i := 8) g' rfl)) fun pn => ?_)
    refine DB.freezeL (i := 5) (p := pn) ?_ rfl
    have al := allL_len w
    refine db_cons (ds_setMap (v := 7) (i := 6) (allL rs 9) (fun c => Is c.nm) (fun c => Is (encC' c)) g (by decide +kernel) (di_lstM (de_slot (i := 5) g rfl)) (by omega) ⟨_, rfl, rfl⟩ (fun c hc X' g' => DE.isE (de_call g' (c_condition_of T) (des_cons (de_slot (i := 0) g' rfl) (des_cons (de_slot (i := 7) g' rfl) des_nil)) ⟨_, _, by assumption, rfl, rfl⟩) (condP_all w hc)) fun pt => ?_)
    refine DB.freezeL (i := 6) (p := pt) ?_ rfl
    refine db_one (ds_retB (de_allM (f := closedC ns) g T.b_all (DF.lst (df_mapG (own := [("start", 9), ("end", 10), ("p", 11), ("q", 12)]) (allL rs 9) (fun c => Is (encC' c)) (fun c => BI (closedC ns c)) (fun c => [.dat (Is (encRs rs)), .dat (Is (.int one)), .dat (Is (.int other)), .dat (Is (.tuple (ns.map I'))), .dat (Is divs), .dat (LstOf ((allL rs 9).map fun c => Is c.nm)), .dat (LstOf ((allL rs 9).map fun c => Is (encC' c))), .un, .un, .dat (isI c.s), .dat (isI c.e), .dat (isI c.p), .dat (isI c.q), .un, .un]) g (by decide +kernel) (di_lstM (de_slot (i := 6) g rfl)) (by omega) ?_ ?_ ?_ ?_))) rfl)
    · intro i hi
      simp at hi
      rcases hi with rfl | rfl | rfl | rfl <;> exact ⟨_, rfl, rfl⟩
    · intro c hc j hj
      by_cases h8 : j < 9
      · match j, h8 with
        | 0, _ => rfl
        | 1, _ => rfl
        | 2, _ => rfl
        | 3, _ => rfl
        | 4, _ => rfl
        | 5, _ => rfl
        | 6, _ => rfl
        | 7, _ => rfl
        | 8, _ => rfl
      · by_cases h13 : j < 13
        · exfalso; apply hj; simp; omega
        · obtain ⟨m, rfl⟩ : ∃ m, j = m + 13 := ⟨j - 13, by omega⟩
          match m with
          | 0 => rfl
          | 1 => rfl
          | m + 2 => rfl
    · intro c hc X' g'
      refine (CG.tupI (cg_tup g' (cgs_cons (cg_name (i := 9) g' (by simp) (cgs_cons (cg_name (i := 10) g' (by simp) (cgs_cons (cg_name (i := 11) g' (by simp) (cgs_cons (cg_name (i := 12) g' (by simp) (cgs_nil ?_)))))))))))
      rfl
    · intro c hc X' g'
      exact de_orE (de_notInT (ns := ns) (de_slot (i := 9) g' rfl) (DE.tupM (de_slot (i := 3) g' rfl))) fun _ => de_one (de_inT (ns := ns) (de_slot (i := 10) g' rfl) (DE.tupM (de_slot (i := 3) g' rfl)))
  all_goals exact db_cons (ds_ifE (DW.dt (dw_orT (dt_notE (dt_val (de_isTup g T.b_isinstance T.b_tuple (de_slot (i := 3) g rfl)))))) (fun z => db_one (ds_retB de_bl.bi rfl)) (fun z => nomatch z))
def accB (rs : List Res) (one other : Int) (ratio value : PyData) : Bool := match value with
  | .tuple [.str s, x, y] => if s = "most" then mostB rs one other ratio x y else decide (s = "none") && (isN ratio && noneB rs one other x y)
  | _ => false
def AccPre (rs : List Res) (one other : Int) (ratio value : PyData) : Prop := Wf rs ∧ NoRound (allL rs (topN rs)) ∧ (0 ≤ one ∧ one ≤ 8) ∧ (0 ≤ other ∧ other ≤ 8) ∧ BdT (2 ^ 1100) ratio ∧ ∀ ds, value = .tuple ds → (∀ x ∈ ds, Sh x) ∧ ∀ z x y, ds = [z, x, y] → Nice2 x ∧ Len1000 x ∧ BdT (2 ^ 6000) y
def S_acc : List Ty → Ty → Prop := fun τs τ => ∃ rs one other ratio value, AccPre rs one other ratio value ∧ τs = [Is (encRs rs), Is (.int one), Is (.int other), Is ratio, Is value] ∧ τ = BI (accB rs one other ratio value)
theorem accB_no {rs : List Res} {one other : Int} {ratio : PyData} {ds : List PyData} (h : ds.length ≠ 3 ∨ ∀ s r, ds ≠ .str s :: r) : accB rs one other ratio (.tuple ds) = false := by
  unfold accB
  split
  · rename_i s x y e
    cases e
    rcases h with h | h
    · exact absurd rfl h
    · exact absurd rfl (h s [x, y])
  · rfl
theorem c_accepts_ratio (T : Txt W) : Cal W "accepts_ratio" 7 ["results", "one", "other", "ratio", "value"] (spP S_acc) := by
  refine cal_P T.d_accepts_ratio sc_accepts_ratio (by decide) (fun _ _ _ _ _ _ us hl => match us, hl with | [_, _, _, _, _], _ => rfl) (fun τs τ h => by obtain ⟨_, _, _, _, _, _, rfl, _⟩ := h; rfl) fun X g τs τ h => ?_
  obtain ⟨rs, one, other, ratio, value, ⟨w, nr, h1, h2, hbr, hv⟩, rfl, rfl⟩ := h
  have hca : Wf rs ∧ NoRound (allL rs (topN rs)) ∧ (0 ≤ one ∧ one ≤ 8) ∧ (0 ≤ other ∧ other ≤ 8) := ⟨w, nr, h1, h2⟩
  refine db_cons (ds_expr (de_call g (c_check_asked T) (des_cons (de_slot (i := 0) g rfl) (des_cons (de_slot (i := 1) g rfl) (des_cons (de_slot (i := 2) g rfl) des_nil))) ⟨_, _, _, by assumption, rfl, rfl⟩) ?_)
  cases value
  case tuple ds =>
    by_cases hl : ds.length ≠ 3
    · exact db_cons (ds_ifE (DW.dt (dw_orE (dt_notE (dt_val (de_isTup g T.b_isinstance T.b_tuple (de_slot (i := 4) g rfl)))) fun _ => dw_orT (dt_cmp op_ne (de_len g T.b_len (de_slot (i := 4) g rfl)) de_int vr_neI) (by simp; omega))) (fun z => db_one (ds_retB de_bl.bi (accB_no (.inl hl)).symm)) (fun z => by simp [isTup] at z))
    have hl := Decidable.not_not.mp hl
    match ds, hl, hv with
    | [zz, x, y], _, hv =>
    obtain ⟨hsh, hxy⟩ := hv _ rfl
    obtain ⟨nx, lx, by'⟩ := hxy zz x y rfl
    cases zz
    case str s hl3 =>
      refine db_cons (ds_ifE (b1 := false) (DT.eqE (DW.dt (dw_orE (dt_notE (dt_val (de_isTup g T.b_isinstance T.b_tuple (de_slot (i := 4) g rfl)))) (fun _ => (dw_orE (dt_cmp op_ne (de_len g T.b_len (de_slot (i := 4) g rfl)) de_int vr_neI) (fun _ => (dw_or1 (dt_notE (dt_val (de_isStr g T.b_isinstance T.b_str (de_ixI (de_slot (i := 4) g rfl) de_int (by first | assumption | rfl | exact atI_of (by decide) rfl))))))))))) rfl) (fun z => nomatch z) (fun z => db_nil ?_))
      have hsm : Wf rs ∧ (0 ≤ one ∧ one ≤ 8) ∧ (0 ≤ other ∧ other ≤ 8) ∧ Nice2 x ∧ BdT (2 ^ 1100) ratio ∧ BdT (2 ^ 6000) y := ⟨w, h1, h2, nx, hbr, by'⟩
      have hsn : Wf rs ∧ Len1000 x := ⟨w, lx⟩
      have eA : accB rs one other ratio (.tuple [.str s, x, y]) = if s = "most" then mostB rs one other ratio x y else decide (s = "none") && (isN ratio && noneB rs one other x y) := rfl
      rw [eA]
      refine db_cons (ds_ifE (dt_cmp op_eq (de_ixI (d := .str s) (de_slot (i := 4) g rfl) de_int (atI_of (by decide) rfl)) de_str vr_eqS) (fun z => db_one (ds_retB (de_call g (c_shows_most T) (des_cons (de_slot (i := 0) g rfl) (des_cons (de_slot (i := 1) g rfl) (des_cons (de_slot (i := 2) g rfl) (des_cons (de_slot (i := 3) g rfl) (des_cons (de_ixI (d := x) (de_slot (i := 4) g rfl) de_int rfl) (des_cons (de_ixI (d := y) (de_slot (i := 4) g rfl) de_int rfl) des_nil)))))) ⟨_, _, _, _, _, _, hsm, rfl, rfl⟩) ?_)) (fun z => db_nil (db_one (ds_retB (de_andE (de_cmp op_eq (de_ixI (d := .str s) (de_slot (i := 4) g rfl) de_int (atI_of (by decide) rfl)) de_str vr_eqS) fun _ => de_andE (de_isN (de_slot (i := 3) g rfl)) fun _ => de_one (de_call g (c_shows_none T) (des_cons (de_slot (i := 0) g rfl) (des_cons (de_slot (i := 1) g rfl) (des_cons (de_slot (i := 2) g rfl) (des_cons (de_ixI (d := x) (de_slot (i := 4) g rfl) de_int rfl) (des_cons (de_ixI (d := y) (de_slot (i := 4) g rfl) de_int rfl) des_nil))))) ⟨_, _, _, _, _, hsn, rfl, rfl⟩)) ?_))))
      · rw [if_pos (of_decide_eq_true z)]
      · rw [if_neg (of_decide_eq_false z)]
    all_goals exact db_cons (ds_ifE (b1 := true) (DT.eqE (DW.dt (dw_orE (dt_notE (dt_val (de_isTup g T.b_isinstance T.b_tuple (de_slot (i := 4) g rfl)))) (fun _ => (dw_orE (dt_cmp op_ne (de_len g T.b_len (de_slot (i := 4) g rfl)) de_int vr_neI) (fun _ => (dw_or1 (dt_notE (dt_val (de_isStr g T.b_isinstance T.b_str (de_ixI (de_slot (i := 4) g rfl) de_int (by first | assumption | rfl | exact atI_of (by decide) rfl))))))))))) rfl) (fun z => db_one (ds_retB de_bl.bi rfl)) (fun z => nomatch z))
  all_goals exact db_cons (ds_ifE (DW.dt (dw_orT (dt_notE (dt_val (de_isTup g T.b_isinstance T.b_tuple (de_slot (i := 4) g rfl)))))) (fun z => db_one (ds_retB de_bl.bi rfl)) (fun z => nomatch z))
end
end K35
set_option Elab.async false
set_option linter.all false
set_option maxRecDepth 100000
set_option maxHeartbeats 1000000
set_option exponentiation.threshold 20000
/-! the law's judge -/
namespace K35
open PySem PySem.Spec L2
theorem isLRat_eq {d : PyData} (h : BdT (2 ^ 1100) d) : isLRat d = isRat d := by
  unfold isLRat isRat
  split
  · rename_i a b
    have hb := h [a, b] rfl b (by simp)
    have e : ((2 ^ 1200 : Nat) : Int) = 2 ^ 1200 := Int.natCast_pow 2 1200
    have e2 : (2 : Int) ^ 1100 ≤ 2 ^ 1200 := by decide
    rw [lgcd_big (by omega)]
  · rename_i hx
    first
      | rfl
      | (split
         · rename_i a b
           exact absurd rfl (hx a b)
         · rfl)
def stepsC (rs : List Res) (one other : Int) (ratio steps : PyData) : Bool := match walkP rs steps with
  | none => false
  | some k => PyData.eqv (.tuple [.int k.1, .int k.2.1]) (.tuple [.int one, .int other]) && PyData.eqv (redN k.2.2.1.toNat k.2.2.2.toNat) ratio
theorem stepsC_eq {rs : List Res} {one other : Int} {ratio steps : PyData} (h : steps ≠ .tuple []) : stepsB rs one other ratio steps = stepsC rs one other ratio steps := stepsB_at h
theorem divAt_ix {ns : List Int} {i : Int} (h0 : 0 ≤ i) (h : i < ns.length) : atI (ns.map I') i = some (.int (divAt ns i)) := by
  have e : divAt ns i = ns.getD i.toNat 0 := if_pos h
  rw [e]
  exact atI_of h0 (getD_at (by omega))
section
variable {W : Wd}
theorem c_L_shows_most (T : Txt W) : Cal W "_law_shows_most" 4 ["_law_results_here", "_law_one", "_law_other", "_law_ratio_here", "_law_steps", "_law_divisors_here"] (spP S_sm) := by
  refine cal_P T.d_L_shows_most sc_L_shows_most (by decide) (fun _ _ _ _ _ _ us hl => match us, hl with | [_, _, _, _, _, _], _ => rfl) (fun τs τ h => by obtain ⟨_, _, _, _, _, _, _, rfl, _⟩ := h; rfl) fun X g τs τ h => ?_
  obtain ⟨rs, one, other, ratio, steps, divs, ⟨w, ho, hp, hst, hbr, hbd⟩, rfl, rfl⟩ := h
  have hnw : Wf rs ∧ Nice2 steps := ⟨w, hst⟩
  unfold mostB
  rw [← isLRat_eq hbr]
  cases hr : isLRat ratio with
  | false => exact db_cons (ds_ifE (DW.dt (dw_orT (dt_notE (dt_val (de_call g (c_L_is_ratio T) (des_cons (de_slot (i := 3) g rfl) des_nil) ⟨_, rfl, rfl⟩))) (by rw [hr]; rfl))) (fun z => db_one (ds_retB de_bl.bi rfl)) (fun z => nomatch z))
  | true =>
  obtain ⟨a, b, rfl, ha, hb, hg⟩ := isRat_inv (by rw [← isLRat_eq hbr]; exact hr)
  cases hd : okDivs divs with
  | false => exact db_cons (ds_ifE (DW.dt (dw_orE (dt_notE (dt_val (de_call g (c_L_is_ratio T) (des_cons (de_slot (i := 3) g rfl) des_nil) ⟨_, rfl, rfl⟩))) fun _ => dw_orT (dt_notE (dt_val (de_call g (c_L_are_divisors T) (des_cons (de_slot (i := 5) g rfl) des_nil) ⟨_, rfl, rfl⟩))) (by rw [hd]; rfl))) (fun z => db_one (ds_retB de_bl.bi rfl)) (fun z => by simp at z))
  | true =>
  obtain ⟨ns, rfl, n1, n20, hn, hu⟩ := okDivs_inv hd
  have hne : ns ≠ [] := fun e => by simp [e] at n1
  have hkp : Wf rs ∧ ns ≠ [] := ⟨w, hne⟩
  have el : lenD (.tuple (ns.map I')) = ns.length := by simp [lenD]
  have en : nsD (.tuple (ns.map I')) = ns := map_toI ns
  have ek : keepsD rs (.tuple (ns.map I')) = keepsL ns (seenL rs) := by
    show keepsL ((ns.map I').map toI) (seenL rs) = _
    rw [map_toI]
  rw [el, en, ek]
  by_cases h9 : ¬ 9 ≤ ns.length
  · exact db_cons (ds_ifE (DW.dt (dw_orE (dt_notE (dt_val (de_call g (c_L_is_ratio T) (des_cons (de_slot (i := 3) g rfl) des_nil) ⟨_, rfl, rfl⟩))) fun _ => dw_orE (dt_notE (dt_val (de_call g (c_L_are_divisors T) (des_cons (de_slot (i := 5) g rfl) des_nil) ⟨_, rfl, rfl⟩))) fun _ => dw_orT (dt_cmp op_lt (de_len g T.b_len (de_slot (i := 5) g rfl)) de_int vr_lt) (by simp; omega))) (fun z => db_one (ds_retB de_bl.bi (by simp; omega))) (fun z => by simp at z))
  have h9 := Decidable.not_not.mp h9
  have e9 : decide (9 ≤ ns.length) = true := decide_eq_true h9
  rw [e9]
  cases hk : keepsL ns (seenL rs) with
  | false => exact db_cons (ds_ifE (b1 := true) (DT.eqE (DW.dt (dw_orE (dt_notE (dt_val (de_call g (c_L_is_ratio T) (des_cons (de_slot (i := 3) g rfl) des_nil) ⟨_, rfl, rfl⟩))) fun _ => dw_orE (dt_notE (dt_val (de_call g (c_L_are_divisors T) (des_cons (de_slot (i := 5) g rfl) des_nil) ⟨_, rfl, rfl⟩))) fun _ => dw_orE (dt_cmp op_lt (de_len g T.b_len (de_slot (i := 5) g rfl)) de_int vr_lt) fun _ => dw_or1 (dt_notE (dt_val (de_call g (c_L_keeps T) (des_cons (de_slot (i := 0) g rfl) (des_cons (de_slot (i := 5) g rfl) des_nil)) ⟨_, _, by assumption, rfl, rfl⟩))))) (by rw [hk]; simp)) (fun z => db_one (ds_retB de_bl.bi rfl)) (fun z => nomatch z))
  | true =>
  refine db_cons (ds_ifE (b1 := false) (DT.eqE (DW.dt (dw_orE (dt_notE (dt_val (de_call g (c_L_is_ratio T) (des_cons (de_slot (i := 3) g rfl) des_nil) ⟨_, rfl, rfl⟩))) fun _ => dw_orE (dt_notE (dt_val (de_call g (c_L_are_divisors T) (des_cons (de_slot (i := 5) g rfl) des_nil) ⟨_, rfl, rfl⟩))) fun _ => dw_orE (dt_cmp op_lt (de_len g T.b_len (de_slot (i := 5) g rfl)) de_int vr_lt) fun _ => dw_or1 (dt_notE (dt_val (de_call g (c_L_keeps T) (des_cons (de_slot (i := 0) g rfl) (des_cons (de_slot (i := 5) g rfl) des_nil)) ⟨_, _, by assumption, rfl, rfl⟩))))) (by rw [hr, hd, hk]; simp; omega)) (fun z => nomatch z) (fun z => db_nil ?_))
  have hB := hbd ns rfl
  obtain ⟨d1, d2⟩ := divAt_ok hne hn hB ho.1 (by omega)
  obtain ⟨d3, d4⟩ := divAt_ok hne hn hB hp.1 (by omega)
  have e11 : (2 : Int) ^ 1100 ≤ 2 ^ 6000 := by decide
  have ba : a ≤ 2 ^ 1100 := hbr [a, b] rfl a (by simp)
  have bb : b ≤ 2 ^ 1100 := hbr [a, b] rfl b (by simp)
  have w1 := bigW hb d1 (Int.le_trans bb e11) d2
  have w2 := bigW ha d3 (Int.le_trans ba e11) d4
  refine db_cons (ds_ifE (dt_cmp op_ne (de_mulW (de_ixI (d := .int b) (ds := [.int a, .int b]) (de_slot (i := 3) g rfl) de_int rfl) (de_ixI (de_slot (i := 5) g rfl) (de_slot (i := 1) g rfl) (divAt_ix ho.1 (by omega))) w1) (de_mulW (de_ixI (d := .int a) (ds := [.int a, .int b]) (de_slot (i := 3) g rfl) de_int rfl) (de_ixI (de_slot (i := 5) g rfl) (de_slot (i := 2) g rfl) (divAt_ix hp.1 (by omega))) w2) vr_neI) (fun z => db_one (ds_retB de_bl.bi ?_)) (fun z => db_nil ?_))
  · have z : decide (b * divAt ns one = a * divAt ns other) = false := by simpa using z
    show false = (true && (true && (true && (true && (decide (b * divAt ns one = a * divAt ns other) && _)))))
    rw [z]; rfl
  have z : decide (b * divAt ns one = a * divAt ns other) = true := by simpa using z
  show DB X _ _ { nx := fun _ => ∀ F, (BI (true && (true && (true && (true && (decide (b * divAt ns one = a * divAt ns other) && stepsB rs one other (.tuple [.int a, .int b]) steps)))))).p .non F, rt := fun _ v F => (BI (true && (true && (true && (true && (decide (b * divAt ns one = a * divAt ns other) && stepsB rs one other (.tuple [.int a, .int b]) steps)))))).p v F }
  rw [z]
  by_cases hs : steps = .tuple []
  · subst hs
    refine db_cons (ds_ifE (DW.dt (dw_andE (dt_val (de_isTup g T.b_isinstance T.b_tuple (de_slot (i := 4) g rfl))) (fun _ => (dw_and1 (dt_cmp op_eq (de_len g T.b_len (de_slot (i := 4) g rfl)) de_int vr_eqI))))) (fun _ => db_one (ds_retB (de_andE (de_cmp op_eq (de_slot (i := 1) g rfl) (de_slot (i := 2) g rfl) vr_eqI) fun _ => de_one (de_eq g (de_slot (i := 3) g rfl) (DE.tupI (ds := [_, _]) (de_tup (des_cons de_int (des_cons de_int des_nil)))) sh_ints sh_ints)) rfl)) (fun z => by simp [isTup] at z))
  · rw [stepsC_eq hs]
    have rest : DB X ((defBody s_L_shows_most).drop 3) (slots N_L_shows_most [Is (encRs rs), Is (.int one), Is (.int other), Is (.tuple [.int a, .int b]), Is steps, Is (.tuple (ns.map I'))]) { nx := fun _ => ∀ F, (BI (stepsC rs one other (.tuple [.int a, .int b]) steps)).p .non F, rt := fun _ v F => (BI (stepsC rs one other (.tuple [.int a, .int b]) steps)).p v F } := by
      unfold stepsC
      refine db_cons (ds_set (i := 6) g (de_call g (c_L_walked T) (des_cons (de_slot (i := 0) g rfl) (des_cons (de_slot (i := 4) g rfl) des_nil)) ⟨_, _, by assumption, rfl, rfl⟩) ?_)
      cases hw : walkP rs steps with
      | none =>
        exact db_one (ds_retB (de_andF (de_notN (de_slot (i := 6) g rfl))) rfl)
      | some k =>
        obtain ⟨hg1, hg2, hg3⟩ := red_log (n := 0) (walkP_ok w hw)
        obtain ⟨o1, o2, o3, o4⟩ := walkP_ok w hw
        obtain ⟨ks, ke, kp, kq⟩ := k
        simp only at hg1 hg2 hg3 o1 o2 o3 o4
        have ep : ((kp.toNat : Nat) : Int) = kp := by omega
        have eq : ((kq.toNat : Nat) : Int) = kq := by omega
        have eg := lgcd_big (a := kp.toNat) hg3
        have er : lredN kp.toNat kq.toNat = redN kp.toNat kq.toNat := by unfold lredN redN; rw [eg]
        refine db_one (ds_retB (de_andE (de_notN (de_slot (i := 6) g rfl)) fun _ => de_andE (de_eq g (DE.tupI (ds := [.int ks, .int ke]) (de_tup (des_cons (de_ixI (d := .int ks) (ds := [.int ks, .int ke, .int kp, .int kq]) (de_slot (i := 6) g rfl) de_int rfl) (des_cons (de_ixI (d := .int ke) (ds := [.int ks, .int ke, .int kp, .int kq]) (de_slot (i := 6) g rfl) de_int rfl) des_nil)))) (DE.tupI (ds := [_, _]) (de_tup (des_cons (de_slot (i := 1) g rfl) (des_cons (de_slot (i := 2) g rfl) des_nil)))) sh_ints sh_ints) fun _ => de_one (de_eq g (de_call g (c_L_reduced T) (des_cons (de_ixI (d := .int kp) (ds := [.int ks, .int ke, .int kp, .int kq]) (de_slot (i := 6) g rfl) de_int rfl) (des_cons (de_ixI (d := .int kq) (ds := [.int ks, .int ke, .int kp, .int kq]) (de_slot (i := 6) g rfl) de_int rfl) des_nil)) ⟨kp.toNat, kq.toNat, by rw [eg]; exact hg1, by rw [ep, eq], rfl⟩) (de_slot (i := 3) g rfl) sh_ints sh_ints)) (by rw [er]; rfl))
    cases steps
    case tuple ds =>
      have hds : ds ≠ [] := fun e => hs (by rw [e])
      have hl : 0 < ds.length := List.length_pos_iff.mpr hds
      exact db_cons (ds_ifE (b1 := false) (DT.eqE (DW.dt (dw_andE (dt_val (de_isTup g T.b_isinstance T.b_tuple (de_slot (i := 4) g rfl))) (fun _ => (dw_and1 (dt_cmp op_eq (de_len g T.b_len (de_slot (i := 4) g rfl)) de_int vr_eqI))))) (by simp [isTup]; exact hds)) (fun z => nomatch z) (fun _ => db_nil rest))
    all_goals exact db_cons (ds_ifE (b1 := false) (DW.dt (dw_andF (dt_val (de_isTup g T.b_isinstance T.b_tuple (de_slot (i := 4) g rfl))))) (fun z => nomatch z) (fun _ => db_nil rest))
def S_Ltop : List Ty → Ty → Prop := fun τs τ => ∃ rs, Wf rs ∧ τs = [Is (encRs rs)] ∧ τ = Is (.int (topL (seenL rs)))
theorem c_L_top (T : Txt W) : Cal W "_law_top" 2 ["_law_results_here"] (spP S_Ltop) := by
  refine cal_P T.d_L_top sc_L_top (by decide) (fun _ _ _ _ _ _ us hl => match us, hl with | [_], _ => rfl) (fun τs τ h => by obtain ⟨_, _, rfl, _⟩ := h; rfl) fun X g τs τ h => ?_
  obtain ⟨rs, w, rfl, rfl⟩ := h
  have hc := seenL_len w
  generalize ecs : seenL rs = cs at hc
  refine db_one (ds_retT (DE.ofInt (de_maxL (ns := 0 :: cs.map fun c => max c.s c.e) g T.b_max ?_ (by simp)) fun z hz => max_uni hz.1 hz.2))
  rw [show (0 :: cs.map fun c => max c.s c.e).map isI = [isI 0] ++ cs.map (fun c => isI (max c.s c.e)) by rw [List.map_cons, List.map_map]; rfl]
  refine de_catL (df_lst (des_cons de_int des_nil)).lst (df_mapG (own := [("_law_step", 1), ("_law_start", 2), ("_law_end", 3), ("_law_p", 4), ("_law_q", 5)]) cs (fun c => Is (encC c)) (fun c => isI (max c.s c.e)) (fun c => [.dat (Is (encRs rs)), .dat (Is c.nm), .dat (isI c.s), .dat (isI c.e), .dat (isI c.p), .dat (isI c.q)]) g (by decide +kernel) (di_lstM (by rw [← ecs]; exact DE.lstM (de_call g (c_L_seen T) (des_cons (de_slot (i := 0) g rfl) des_nil) ⟨_, by assumption, rfl, rfl⟩))) (by omega) ?_ ?_ ?_ ?_).lst (by simp; omega)
  · intro i hi
    simp at hi
    rcases hi with rfl | rfl | rfl | rfl | rfl <;> exact ⟨_, rfl, rfl⟩
  · intro c hc j hj
    match j, hj with
    | 0, _ => rfl
    | 1, h => simp at h
    | 2, h => simp at h
    | 3, h => simp at h
    | 4, h => simp at h
    | 5, h => simp at h
    | j + 6, _ => rfl
  · intro c hc X' g'
    refine (CG.tupI (cg_tup g' (cgs_cons (cg_name (i := 1) g' (by simp) (cgs_cons (cg_name (i := 2) g' (by simp) (cgs_cons (cg_name (i := 3) g' (by simp) (cgs_cons (cg_name (i := 4) g' (by simp) (cgs_cons (cg_name (i := 5) g' (by simp) (cgs_nil ?_)))))))))))))
    rfl
  · intro c hc X' g'
    exact (de_max2 g' T.b_max (de_slot (i := 2) g' rfl) (de_slot (i := 3) g' rfl))
end
end K35
set_option Elab.async false
set_option linter.all false
set_option maxRecDepth 100000
set_option maxHeartbeats 1000000
set_option exponentiation.threshold 20000
/-! the law's judge: none -/
namespace K35
open PySem PySem.Spec L2
theorem any_strict (ns : List Int) : ((List.range (ns.length - 1)).any fun k => decide (ns.getD (k + 1) 0 ≤ ns.getD k 0)) = !strictB ns := by
  unfold strictB
  rw [List.not_all_eq_any_not]
  congr 1
  funext k
  cases h : decide (ns.getD k 0 < ns.getD (k + 1) 0) with
  | true => have := of_decide_eq_true h; exact decide_eq_false (by omega)
  | false => have := of_decide_eq_false h; exact decide_eq_true (by omega)
section
variable {W : Wd}
theorem c_L_shows_none (T : Txt W) : Cal W "_law_shows_none" 4 ["_law_results_here", "_law_one", "_law_other", "_law_chosen", "_law_divisors_here"] (spP S_sn) := by
  refine cal_P T.d_L_shows_none sc_L_shows_none (by decide) (fun _ _ _ _ _ _ us hl => match us, hl with | [_, _, _, _, _], _ => rfl) (fun τs τ h => by obtain ⟨_, _, _, _, _, _, rfl, _⟩ := h; rfl) fun X g τs τ h => ?_
  obtain ⟨rs, one, other, chosen, divs, ⟨w, hln⟩, rfl, rfl⟩ := h
  cases chosen
  case tuple ds =>
    have hz := hln ds rfl
    refine db_cons (ds_ifE (DW.dt (dw_orE (dt_notE (dt_val (de_isTup g T.b_isinstance T.b_tuple (de_slot (i := 3) g rfl)))) fun _ => dw_or1 (dt_notE (dt_val (de_allM (f := wh9) g T.b_all (DF.lst (df_map (v := 11) ds (fun d => Is d) (fun d => BI (wh9 d)) g (by decide +kernel) (di_tupM (de_slot (i := 3) g rfl).tupT) (by omega) ⟨_, rfl, rfl⟩ fun d hd X' g' => ?_))))))) (fun z => db_one (ds_retB de_bl.bi ?_)) (fun z => db_nil ?_))
    · cases d
      case int i => exact DE.biE (de_andE (de_call g' (c_L_is_integer T) (des_cons (de_slot (i := 11) g' rfl) des_nil) ⟨_, rfl, rfl⟩) (fun _ => (de_one (de_chainE op_le op_le de_int (de_slot (i := 11) g' rfl) de_int vr_le vr_le)))) (by simp [wh9, isWh, isIx])
      all_goals exact DE.biE (de_andF (de_call g' (c_L_is_integer T) (des_cons (de_slot (i := 11) g' rfl) des_nil) ⟨_, rfl, rfl⟩)) rfl
    · have z : ds.all wh9 = false := by simpa [isTup] using z
      simp [noneB, z]
    have hall : ds.all wh9 = true := by simpa [isTup] using z
    obtain ⟨ns, rfl, hn⟩ := wh9_ints hall
    have hz : ns.length ≤ 900 := by simpa using hz
    have eB : noneB rs one other (.tuple (ns.map I')) divs = (true && (strictB ns && (fitB rs divs && (decide (one ∈ ns) && (!decide (other ∈ ns) && (allL rs 9).all (closedC ns)))))) := by
      show ((ns.map I').all wh9 && (strictB ((ns.map I').map toI) && (fitB rs divs && (decide (one ∈ (ns.map I').map toI) && (!decide (other ∈ (ns.map I').map toI) && (allL rs 9).all (closedC ((ns.map I').map toI))))))) = _
      rw [hall, map_toI]
    rw [eB]
    have elen : ((((ns.map I').length : Nat) : Int) - 1).toNat = ns.length - 1 := by simp
    refine db_cons (ds_ifE (b1 := (!strictB ns || (!decide (one ∈ ns) || decide (other ∈ ns)))) (DT.eqE (DW.dt (dw_orE (dt_val (de_anyM (f := fun k => decide (ns.getD (k + 1) 0 ≤ ns.getD k 0)) g T.b_any (DF.lst (df_map (v := 10) (List.range ((((ns.map I').length : Nat) : Int) - 1).toNat) natI (fun k => BI (decide (ns.getD (k + 1) 0 ≤ ns.getD k 0))) g (by decide +kernel) (di_rangeZ g T.b_range (de_sub (de_len g T.b_len (de_slot (i := 3) g rfl)) de_int) (by simp; omega) (by simp; omega)) (by simp; omega) ⟨_, rfl, rfl⟩ fun k hk X' g' => ?_)))) fun _ => dw_orE (dt_notInT (ns := ns) (de_slot (i := 1) g rfl) (DE.tupM (de_slot (i := 3) g rfl))) fun _ => dw_or1 (dt_inT (ns := ns) (de_slot (i := 2) g rfl) (DE.tupM (de_slot (i := 3) g rfl))))) (by rw [elen, any_strict])) (fun z => db_one (ds_retB de_bl.bi ?_)) (fun z => db_nil ?_))
    · have hk' : k < ns.length - 1 := by simp at hk; omega
      have h2 := atI_of (i := (k : Int) + 1) (by omega) (show (ns.map I')[((k : Int) + 1).toNat]? = some (I' (ns.getD (k + 1) 0)) by rw [show ((k : Int) + 1).toNat = k + 1 by omega]; exact getD_at (by omega))
      exact de_cmp op_ge (de_ixI (d := I' _) (de_slot (i := 3) g' rfl) (de_slot (i := 10) g' rfl) (atI_I' (by omega))) (de_ixI (d := I' _) (de_slot (i := 3) g' rfl) (de_add (de_slot (i := 10) g' rfl) de_int) h2) vr_ge
    · cases q1 : strictB ns <;> cases q2 : decide (one ∈ ns) <;> cases q3 : decide (other ∈ ns) <;> cases q4 : fitB rs divs <;> first | rfl | (rw [q1, q2, q3] at z; cases z)
    have z3 : strictB ns = true ∧ decide (one ∈ ns) = true ∧ decide (other ∈ ns) = false := by
      cases q1 : strictB ns <;> cases q2 : decide (one ∈ ns) <;> cases q3 : decide (other ∈ ns) <;> first | exact ⟨rfl, rfl, rfl⟩ | (rw [q1, q2, q3] at z; cases z)
    rw [z3.1, z3.2.1, z3.2.2]
    have al := allL_len w
    have hal : Wf rs ∧ 9 ≤ 1000 := ⟨w, by omega⟩
    have last : ∀ {e : Bool}, e = true → DB X ((defBody s_L_shows_none).drop 3) (slots N_L_shows_none [Is (encRs rs), Is (.int one), Is (.int other), Is (.tuple (ns.map I')), Is divs]) { nx := fun _ => ∀ F, (BI (true && (true && (e && (true && (!false && (allL rs 9).all (closedC ns))))))).p .non F, rt := fun _ v F => (BI (true && (true && (e && (true && (!false && (allL rs 9).all (closedC ns))))))).p v F } := fun {e} he => by
      subst he
      refine db_one (ds_retB (de_allM (f := closedC ns) g T.b_all (DF.lst (df_mapG (own := [("_law_step", 5), ("_law_start", 6), ("_law_end", 7), ("_law_p", 8), ("_law_q", 9)]) (allL rs 9) (fun c => Is (encC c)) (fun c => BI (closedC ns c)) (fun c => [.dat (Is (encRs rs)), .dat (Is (.int one)), .dat (Is (.int other)), .dat (Is (.tuple (ns.map I'))), .dat (Is divs), .dat (Is c.nm), .dat (isI c.s), .dat (isI c.e), .dat (isI c.p), .dat (isI c.q), .un, .un]) g (by decide +kernel) (di_lstM (DE.lstM (f := encC) (xs := allL rs 9) (de_call g (c_L_all T) (des_cons (de_slot (i := 0) g rfl) (des_cons de_int des_nil)) ⟨rs, 9, hal, rfl, rfl⟩))) (by omega) ?_ ?_ ?_ ?_))) rfl)
      · intro i hi
        simp at hi
        rcases hi with rfl | rfl | rfl | rfl | rfl <;> exact ⟨_, rfl, rfl⟩
      · intro c hc j hj
        by_cases h5 : j < 5
        · match j, h5 with
          | 0, _ => rfl
          | 1, _ => rfl
          | 2, _ => rfl
          | 3, _ => rfl
          | 4, _ => rfl
        · by_cases h10 : j < 10
          · exfalso; apply hj; simp; omega
          · obtain ⟨m, rfl⟩ : ∃ m, j = m + 10 := ⟨j - 10, by omega⟩
            match m with
            | 0 => rfl
            | 1 => rfl
            | m + 2 => rfl
      · intro c hc X' g'
        refine (CG.tupI (cg_tup g' (cgs_cons (cg_name (i := 5) g' (by simp) (cgs_cons (cg_name (i := 6) g' (by simp) (cgs_cons (cg_name (i := 7) g' (by simp) (cgs_cons (cg_name (i := 8) g' (by simp) (cgs_cons (cg_name (i := 9) g' (by simp) (cgs_nil ?_)))))))))))))
        rfl
      · intro c hc X' g'
        exact de_orE (de_notInT (ns := ns) (de_slot (i := 6) g' rfl) (DE.tupM (de_slot (i := 3) g' rfl))) fun _ => de_one (de_inT (ns := ns) (de_slot (i := 7) g' rfl) (DE.tupM (de_slot (i := 3) g' rfl)))
    cases hd : okDivs divs with
    | false => exact db_cons (ds_ifE (DW.dt (dw_orT (dt_notE (dt_val (de_call g (c_L_are_divisors T) (des_cons (de_slot (i := 4) g rfl) des_nil) ⟨_, rfl, rfl⟩))) (by rw [hd]; rfl))) (fun z => db_one (ds_retB de_bl.bi (by unfold fitB; rw [hd]; rfl))) (fun z => nomatch z))
    | true =>
      obtain ⟨ms, rfl, m1, m20, hm, hu⟩ := okDivs_inv hd
      have hkp : Wf rs ∧ ms ≠ [] := ⟨w, fun e => by simp [e] at m1⟩
      have ek : fitB rs (.tuple (ms.map I')) = keepsL ms (seenL rs) := by
        unfold fitB
        rw [hd]
        show (true && keepsL ((ms.map I').map toI) (seenL rs)) = _
        rw [map_toI]; rfl
      cases hk : keepsL ms (seenL rs) with
      | false => exact db_cons (ds_ifE (b1 := true) (DT.eqE (DW.dt (dw_orE (dt_notE (dt_val (de_call g (c_L_are_divisors T) (des_cons (de_slot (i := 4) g rfl) des_nil) ⟨_, rfl, rfl⟩))) (fun _ => (dw_or1 (dt_notE (dt_val (de_call g (c_L_keeps T) (des_cons (de_slot (i := 0) g rfl) (des_cons (de_slot (i := 4) g rfl) des_nil)) ⟨_, _, by assumption, rfl, rfl⟩))))))) (by rw [hd, hk]; rfl)) (fun z => db_one (ds_retB de_bl.bi (by rw [ek, hk]; rfl))) (fun z => nomatch z))
      | true => exact db_cons (ds_ifE (b1 := false) (DT.eqE (DW.dt (dw_orE (dt_notE (dt_val (de_call g (c_L_are_divisors T) (des_cons (de_slot (i := 4) g rfl) des_nil) ⟨_, rfl, rfl⟩))) (fun _ => (dw_or1 (dt_notE (dt_val (de_call g (c_L_keeps T) (des_cons (de_slot (i := 0) g rfl) (des_cons (de_slot (i := 4) g rfl) des_nil)) ⟨_, _, by assumption, rfl, rfl⟩))))))) (by rw [hd, hk]; rfl)) (fun z => nomatch z) (fun z => db_nil (last (by rw [ek, hk]))))
  all_goals exact db_cons (ds_ifE (DW.dt (dw_orT (dt_notE (dt_val (de_isTup g T.b_isinstance T.b_tuple (de_slot (i := 3) g rfl)))))) (fun z => db_one (ds_retB de_bl.bi rfl)) (fun z => nomatch z))
def RatPre (rs : List Res) (one other : Int) (ratio value : PyData) : Prop := Wf rs ∧ (0 ≤ one ∧ one ≤ 8) ∧ (0 ≤ other ∧ other ≤ 8) ∧ BdT (2 ^ 1100) ratio ∧ ∀ ds, value = .tuple ds → (∀ x ∈ ds, Sh x) ∧ ∀ z x y, ds = [z, x, y] → Nice2 x ∧ Len1000 x ∧ BdT (2 ^ 6000) y
def S_Lsr : List Ty → Ty → Prop := fun τs τ => ∃ rs one other ratio value, RatPre rs one other ratio value ∧ τs = [Is (encRs rs), Is (.int one), Is (.int other), Is ratio, Is value] ∧ τ = BI (accB rs one other ratio value)
theorem sh_most : SeqAt.shaped (.str "most") = true := by decide +kernel
theorem sh_none : SeqAt.shaped (.str "none") = true := by decide +kernel
theorem eqv_strs {s t : Str} : PyData.eqv (.str s) (.str t) = decide (s = t) := by simp only [PyData.eqv]; exact Bool.beq_eq_decide_eq s t
theorem eqv_nostr {x : PyData} {t : Str} (h : ∀ s, x ≠ .str s) : PyData.eqv x (.str t) = false := by
  cases x <;> simp only [PyData.eqv]
  rename_i s
  exact absurd rfl (h s)
theorem c_L_shows_ratio (T : Txt W) : Cal W "_law_shows_ratio" 5 ["_law_results_here", "_law_one", "_law_other", "_law_ratio_here", "_law_value"] (spP S_Lsr) := by
  refine cal_P T.d_L_shows_ratio sc_L_shows_ratio (by decide) (fun _ _ _ _ _ _ us hl => match us, hl with | [_, _, _, _, _], _ => rfl) (fun τs τ h => by obtain ⟨_, _, _, _, _, _, rfl, _⟩ := h; rfl) fun X g τs τ h => ?_
  obtain ⟨rs, one, other, ratio, value, ⟨w, h1, h2, hbr, hv⟩, rfl, rfl⟩ := h
  cases value
  case tuple ds =>
    by_cases hl : ds.length ≠ 3
    · exact db_cons (ds_ifE (DW.dt (dw_orE (dt_notE (dt_val (de_isTup g T.b_isinstance T.b_tuple (de_slot (i := 4) g rfl)))) fun _ => dw_or1 (DT.eqE (b2 := true) (dt_cmp op_ne (de_len g T.b_len (de_slot (i := 4) g rfl)) de_int vr_neI) (by simp; omega)))) (fun z => db_one (ds_retB de_bl.bi (accB_no (.inl hl)).symm)) (fun z => by simp [isTup] at z))
    have hl := Decidable.not_not.mp hl
    match ds, hl, hv with
    | [zz, x, y], _, hv =>
    obtain ⟨hsh, hxy⟩ := hv _ rfl
    obtain ⟨nx, lx, by'⟩ := hxy zz x y rfl
    have shz : Sh zz := hsh zz (by simp)
    have hsm : Wf rs ∧ (0 ≤ one ∧ one ≤ 8) ∧ (0 ≤ other ∧ other ≤ 8) ∧ Nice2 x ∧ BdT (2 ^ 1100) ratio ∧ BdT (2 ^ 6000) y := ⟨w, h1, h2, nx, hbr, by'⟩
    have hsn : Wf rs ∧ Len1000 x := ⟨w, lx⟩
    refine db_cons (ds_ifE (b1 := false) (DT.eqE (DW.dt (dw_orE (dt_notE (dt_val (de_isTup g T.b_isinstance T.b_tuple (de_slot (i := 4) g rfl)))) (fun _ => (dw_or1 (dt_cmp op_ne (de_len g T.b_len (de_slot (i := 4) g rfl)) de_int vr_neI))))) rfl) (fun z => nomatch z) (fun z => db_nil ?_))
    refine db_cons (ds_ifE (dt_eq g (de_ixI (d := zz) (de_slot (i := 4) g rfl) de_int (atI_of (by decide) rfl)) de_str shz sh_most) (fun z => db_one (ds_retB (de_call g (c_L_shows_most T) (des_cons (de_slot (i := 0) g rfl) (des_cons (de_slot (i := 1) g rfl) (des_cons (de_slot (i := 2) g rfl) (des_cons (de_slot (i := 3) g rfl) (des_cons (de_ixI (d := x) (de_slot (i := 4) g rfl) de_int rfl) (des_cons (de_ixI (d := y) (de_slot (i := 4) g rfl) de_int rfl) des_nil)))))) ⟨_, _, _, _, _, _, hsm, rfl, rfl⟩) ?_)) (fun z => db_nil (db_one (ds_retB (de_andE (de_eq g (de_ixI (d := zz) (de_slot (i := 4) g rfl) de_int (atI_of (by decide) rfl)) de_str shz sh_none) fun _ => de_andE (de_isN (de_slot (i := 3) g rfl)) fun _ => de_one (de_call g (c_L_shows_none T) (des_cons (de_slot (i := 0) g rfl) (des_cons (de_slot (i := 1) g rfl) (des_cons (de_slot (i := 2) g rfl) (des_cons (de_ixI (d := x) (de_slot (i := 4) g rfl) de_int rfl) (des_cons (de_ixI (d := y) (de_slot (i := 4) g rfl) de_int rfl) des_nil))))) ⟨_, _, _, _, _, hsn, rfl, rfl⟩)) ?_))))
    · cases zz
      case str s hl3 =>
        rw [eqv_strs] at z
        show _ = if s = "most" then mostB rs one other ratio x y else decide (s = "none") && (isN ratio && noneB rs one other x y)
        rw [if_pos (of_decide_eq_true z)]
      all_goals exact absurd ((eqv_nostr (fun s h => by cases h)).symm.trans z) Bool.false_ne_true
    · cases zz
      case str s hl3 =>
        rw [eqv_strs] at z ⊢
        show _ = if s = "most" then mostB rs one other ratio x y else decide (s = "none") && (isN ratio && noneB rs one other x y)
        rw [if_neg (of_decide_eq_false z)]
      all_goals (rw [eqv_nostr (fun s h => by cases h)]; rfl)
  all_goals exact db_cons (ds_ifE (DW.dt (dw_orT (dt_notE (dt_val (de_isTup g T.b_isinstance T.b_tuple (de_slot (i := 4) g rfl)))))) (fun z => db_one (ds_retB de_bl.bi rfl)) (fun z => nomatch z))
end
end K35
set_option Elab.async false
set_option linter.all false
set_option maxRecDepth 100000
set_option maxHeartbeats 1000000
set_option exponentiation.threshold 20000
/-! relaxation -/
namespace K35
open PySem PySem.Spec L2
/-- if f(.., own, ..): the call changes the own object -/
theorem ds_ifCallO {W : Wd} {n k : Nat} {df : Bool} {X : Cx} {N ps : List Str} {sc : Scope} {e : Expr} {es : List Expr} {s1 s2 : List Stmt} {ρ : List Sl} {P : Post} {τs : List Ty} {β : Bool → Prop} {pos p : Pos} {x : Str} {S : OTy → List Ty → OTy → Ty → Prop} {j i : Nat} {o1 : Addr} {ω ω' : OTy} {pos2 : Pos} (g : Good W n df X N sc) (C : Cal W x k ps (spO j S)) (ha : DEs X (e :: es) ρ τs) (hj : τs[j]? = some (At o1)) (hi : ρ[i]? = some (.own o1 ω)) (hS : S ω τs ω' (BoolP β))
    (h1 : β true → DB X s1 (ρ.set i (.own o1 ω')) P) (h2 : β false → DB X s2 (ρ.set i (.own o1 ω')) P) (hk : k ≤ n := by first | decide | omega) (hg : sc.names.lookup x = some .globalImplicit := by rfl) (hdb : (x == ("__debug__" : Str)) = false := by decide)
    (he : starEach (e :: es) X.env = (false, eval e X.env) :: starEach es X.env := by rfl) (hpl : (backTo pos (starEach es X.env)).any (·.1) = false := by rfl) (hw : ∀ whole, isTrue (.Call (.Name x p) (e :: es) [] pos) X.env whole = (do let v ← whole; standAt (Expr.Call (.Name x p) (e :: es) [] pos).pos; holding [v] (truthy v)) := by intro _; rfl) : DS X (.If (.Call (.Name x p) (e :: es) [] pos) s1 s2 pos2) ρ P := fun σ F G H D St ok => by
  obtain ⟨f, fd, F0, hm, kp, hb⟩ := C.ex
  have F1 : FnOk X.prog X.w X.K X.mg X.base CX0 k f fd ps (spO j S) := by rw [g.eP, g.ew, g.eK, g.em, g.eb]; exact F0
  refine ws_of (ps_if (pt_val (pe_call F1 (g.room.mono hk) (g.gl hg) (by rw [g.em]; exact hm) (by rw [g.eK]; exact kp) (by rw [g.eK]; exact hb) .nil (pass0 (X := X)) pa_w hdb he hpl) hw) pss_w pss_w) (ha σ F G H _ St fun vs F1 H1 x1 S1 p1 => ?_)
  show spO j S (vs ++ []) H1 _ E0
  rw [List.append_nil]
  obtain ⟨v0, hv0, ev0⟩ := p1.get hj
  have ev0 : v0 = .ref o1 := ev0
  subst ev0
  obtain ⟨e1, e2, e3, o, e4, pl, e5⟩ := S1.own i o1 ω hi
  have hil : i < ρ.length := (List.getElem?_eq_some_iff.mp hi).1
  refine ⟨o1, o, ω, τs, ω', BoolP β, F1, hS, S1.fh, S1.fs, hv0, p1, e2, e4, pl, e5, fun v F' H' o' x' keep up' fs' ho' pl' hω' pv => ?_⟩
  have xx : Ext F G F' := x1.trans ⟨x'.up, fun c gc fc => x'.own c (fun z => by
    cases y : G c with
    | none => exact gc y
    | some u => rw [S1.gh c u y] at z; cases z) fc⟩
  have S' : Sat (ρ.set i (.own o1 ω')) σ F' G H' := by
    have F'n : F' o1 = none := x'.ownN up' (by rw [e4]; exact fun z => nomatch z) e2 ho' pl'
    refine ⟨by simp [S1.len], up', fs', fun c u ec => keep c u (fun z => by subst z; rw [ec] at e3; cases e3) (S1.gh c u ec), fun l τ0 el => ?_, fun l c ω0 el => ?_, fun l m c ω1 ω2 el em => ?_⟩
    · by_cases z : i = l
      · subst z; rw [List.getElem?_set_self hil] at el; cases el
      · rw [List.getElem?_set_ne z] at el
        obtain ⟨v1, y1, y2⟩ := S1.dat l τ0 el
        exact ⟨v1, y1, τ0.up _ _ _ x'.up y2⟩
    · by_cases z : i = l
      · subst z; rw [List.getElem?_set_self hil] at el; cases el
        exact ⟨e1, F'n, e3, o', ho', pl', hω'⟩
      · rw [List.getElem?_set_ne z] at el
        obtain ⟨y1, y2, y3, u, y4, y5, y6⟩ := S1.own l c ω0 el
        have ne : c ≠ o1 := fun q => by subst q; exact z (S1.sep i l c ω ω0 hi el)
        exact ⟨y1, x'.ownN up' (by rw [y4]; exact fun z => nomatch z) y2 (keep c u ne y4) y5, y3, u, keep c u ne y4, y5, ω0.up _ _ _ x'.up y6⟩
    · have back : ∀ {l : Nat} {ω3 : OTy}, (ρ.set i (.own o1 ω'))[l]? = some (.own c ω3) → ∃ ω4, ρ[l]? = some (.own c ω4) := fun {l ω3} el => by
        by_cases h : i = l
        · subst h; rw [List.getElem?_set_self hil] at el; cases el; exact ⟨ω, hi⟩
        · rw [List.getElem?_set_ne h] at el; exact ⟨ω3, el⟩
      obtain ⟨q1, r1⟩ := back el
      obtain ⟨q2, r2⟩ := back em
      exact S1.sep l m c q1 q2 r1 r2
  obtain ⟨b, rfl, hb⟩ := boolP_get pv
  refine ⟨b, rfl, ?_⟩
  cases b with
  | true => exact iteT (h1 hb σ F' G H' D S' (ok.on xx))
  | false => exact iteF (h2 hb σ F' G H' D S' (ok.on xx))
/-! ### the mirror -/
abbrev RV := List (Option (Nat × Nat))
def encRt : Option (Nat × Nat) → PyData
  | none => .none
  | some x => ratD x
def tyO (x : Option (Nat × Nat)) : Ty := Is (encRt x)
def told (c : Cd) (x : Nat × Nat) : Nat × Nat := (c.p.toNat * x.1, c.q.toNat * x.2)
def lred (x : Nat × Nat) : Nat × Nat := (x.1 / lgcd 3000 x.1 x.2, x.2 / lgcd 3000 x.1 x.2)
def rxUp (t : Nat × Nat) (o : Option (Nat × Nat)) : Bool := match o with
  | none => true
  | some y => decide (t.1 * y.2 < y.1 * t.2)
def rxStep (s : RV × Bool) (c : Cd) : RV × Bool := match s.1.getD c.e.toNat none with
  | none => s
  | some x => if rxUp (told c x) (s.1.getD c.s.toNat none) = true then (s.1.set c.s.toNat (some (lred (told c x))), true) else s
def rxTurn (cs : List Cd) (v : RV) : RV × Bool := cs.foldl rxStep (v, false)
def rxRun (cs : List Cd) : Nat → RV × Bool → RV × Bool
  | 0, s => s
  | n + 1, s => rxRun cs n (rxTurn cs s.1)
/-- every ratio is positive, of m thousands -/
def Bd (m : Nat) (v : RV) : Prop := ∀ i x, v.getD i none = some x → 1 ≤ x.1 ∧ 1 ≤ x.2 ∧ x.1 ≤ 1000 ^ m ∧ x.2 ≤ 1000 ^ m
theorem Bd.mono {m n : Nat} {v : RV} (h : Bd m v) (hm : m ≤ n) : Bd n v := fun i x e => by
  obtain ⟨a, b, c, d⟩ := h i x e
  have := Nat.pow_le_pow_right (n := 1000) (by decide) hm
  exact ⟨a, b, Nat.le_trans c this, Nat.le_trans d this⟩
theorem getD_set {v : RV} {i j : Nat} {o : Option (Nat × Nat)} (h : i < v.length) : (v.set i o).getD j none = if i = j then o else v.getD j none := by
  rw [List.getD_eq_getElem?_getD, List.getD_eq_getElem?_getD]
  by_cases e : i = j
  · subst e; rw [List.getElem?_set_self h, if_pos rfl]; rfl
  · rw [List.getElem?_set_ne e, if_neg e]
theorem rxStep_len (s : RV × Bool) (c : Cd) : (rxStep s c).1.length = s.1.length := by
  unfold rxStep
  split
  · rfl
  · split
    · simp
    · rfl
theorem told_ok {c : Cd} (n : NC c) {x : Nat × Nat} {m : Nat} (h : 1 ≤ x.1 ∧ 1 ≤ x.2 ∧ x.1 ≤ 1000 ^ m ∧ x.2 ≤ 1000 ^ m) : 1 ≤ (told c x).1 ∧ 1 ≤ (told c x).2 ∧ (told c x).1 ≤ 1000 ^ (m + 1) ∧ (told c x).2 ≤ 1000 ^ (m + 1) := by
  obtain ⟨a, b, d, e⟩ := h
  have n1 := n.p1
  have n2 := n.pk
  have n3 := n.q1
  have n4 := n.qk
  refine ⟨Nat.mul_le_mul (show 1 ≤ c.p.toNat by omega) a, Nat.mul_le_mul (show 1 ≤ c.q.toNat by omega) b, ?_, ?_⟩
  · rw [Nat.pow_succ, Nat.mul_comm]; exact Nat.mul_le_mul d (by show c.p.toNat ≤ 1000; omega) |> fun h => by rw [Nat.mul_comm]; rw [Nat.mul_comm] at h; exact h
  · rw [Nat.pow_succ, Nat.mul_comm]; exact Nat.mul_le_mul e (by show c.q.toNat ≤ 1000; omega) |> fun h => by rw [Nat.mul_comm]; rw [Nat.mul_comm] at h; exact h
theorem lred_ok {x : Nat × Nat} {m : Nat} (h : 1 ≤ x.1 ∧ 1 ≤ x.2 ∧ x.1 ≤ 1000 ^ m ∧ x.2 ≤ 1000 ^ m) : 1 ≤ (lred x).1 ∧ 1 ≤ (lred x).2 ∧ (lred x).1 ≤ 1000 ^ m ∧ (lred x).2 ≤ 1000 ^ m := by
  obtain ⟨a, b, c, d⟩ := h
  obtain ⟨g1, g2, g3⟩ := gl_lgcd.p x.1 x.2 a b
  refine ⟨(Nat.le_div_iff_mul_le (by omega)).mpr (by omega), (Nat.le_div_iff_mul_le (by omega)).mpr (by omega), Nat.le_trans (Nat.div_le_self _ _) c, Nat.le_trans (Nat.div_le_self _ _) d⟩
theorem rxStep_bd {s : RV × Bool} {c : Cd} (n : NC c) {m : Nat} (h : Bd m s.1) (hs : c.s.toNat < s.1.length) : Bd (m + 1) (rxStep s c).1 := by
  unfold rxStep
  split
  · exact h.mono (by omega)
  · rename_i x hx
    split
    · intro i y e
      simp only at e
      rw [getD_set hs] at e
      split at e
      · cases Option.some.inj e
        exact lred_ok (told_ok n (h _ _ hx))
      · exact (h.mono (by omega)) i y e
    · exact h.mono (by omega)
section
variable {W : Wd}
def S_rx : OTy → List Ty → OTy → Ty → Prop := fun ω τs ω' τ => ∃ cs v, ∃ turns : Nat, ∃ a, (NB cs ∧ (∀ c ∈ cs, c.s.toNat < v.length ∧ c.e.toNat < v.length) ∧ cs.length ≤ 40 ∧ turns ≤ 12 ∧ v.length ≤ 100 ∧ Bd 0 v) ∧ ω = OL (v.map tyO) ∧ τs = [Is (.list (cs.map encC)), At a, Is (.int turns)] ∧ ω' = OL ((rxRun cs turns (v, true)).1.map tyO) ∧ τ = BI (rxRun cs turns (v, true)).2
theorem c_L_relaxed (T : Txt W) : Cal W "_law_relaxed" 3 ["_law_conditions", "_law_ratios", "_law_turns"] (spO 1 S_rx) := by
  refine cal_O T.d_L_relaxed sc_L_relaxed (by decide) (fun _ _ _ _ _ _ us hl => match us, hl with | [_, _, _], _ => rfl) (fun ω τs ω' τ h => by obtain ⟨_, _, _, _, _, _, rfl, _⟩ := h; rfl) fun X g a0 ω τs ω' τ h => ?_
  obtain ⟨cs, v0, turns, aa, ⟨nb, hix, hcl, ht, hvl, hbd⟩, rfl, rfl, rfl, rfl⟩ := h
  refine db_cons (ds_set (i := 3) g de_bl ?_)
  refine db_cons (ds_for g (di_rangeM (m := turns) g T.b_range (de_slot (i := 2) g rfl) rfl (by omega)) fun ys hy => ⟨fun i ρ' => ∃ (v : RV) (ch : Bool) (s4 s5 s6 s7 s8 s9 s10 : Sl), ρ' = [.dat (Is (.list (cs.map encC))), .own a0 (OL (v.map tyO)), .dat (Is (.int turns)), .dat (Is (.bool ch)), s4, s5, s6, s7, s8, s9, s10] ∧ rxRun cs turns (v0, true) = rxRun cs (turns - i) (v, ch) ∧ v.length = v0.length ∧ Bd (40 * i) v, ⟨v0, true, _, _, _, _, _, _, _, rfl, rfl, rfl, hbd⟩, ?_, ?_⟩)
  · rintro i y ρ' ey ⟨v, ch, s4, s5, s6, s7, s8, s9, s10, rfl, er, el, hb⟩
    subst hy
    obtain ⟨i', ei, rfl⟩ := map_get ey
    have hi : i < turns := by have := (List.getElem?_eq_some_iff.mp ei).1; simpa using this
    refine (dg_name (i := 4) g (by first | exact .inl rfl | exact .inr ⟨rfl, rfl⟩) rfl (lt_of_get rfl) ?_)
    refine db_cons (ds_set (i := 3) g de_bl ?_)
    refine db_one (ds_for g (di_lstM (DE.lstM (f := encC) (xs := cs) (de_slot (i := 0) g rfl))) fun ys hy => ⟨fun j ρ' => ∃ (v' : RV) (ch : Bool) (s5 s6 s7 s8 s9 s10 : Sl), ρ' = [.dat (Is (.list (cs.map encC))), .own a0 (OL (v'.map tyO)), .dat (Is (.int turns)), .dat (Is (.bool ch)), .dat (natI i'), s5, s6, s7, s8, s9, s10] ∧ rxTurn cs v = (cs.drop j).foldl rxStep (v', ch) ∧ v'.length = v0.length ∧ Bd (40 * i + j) v', ⟨v, false, _, _, _, _, _, _, rfl, rfl, el, hb⟩, ?_, ?_⟩)
    · rintro j y ρ' ey2 ⟨v', ch', s5, s6, s7, s8, s9, s10, rfl, er2, el2, hb2⟩
      subst hy
      obtain ⟨c, ec, rfl⟩ := map_get ey2
      have hc := List.mem_of_getElem? ec
      have hj : j < cs.length := (List.getElem?_eq_some_iff.mp ec).1
      have n := nb c hc
      have n1 := n.p1
      have n2 := n.pk
      have n3 := n.q1
      have n4 := n.qk
      have n5 := n.s0
      have n6 := n.e0
      obtain ⟨hs, he⟩ := hix c hc
      have gD : ∀ z : Int, 0 ≤ z → z.toNat < v'.length → atI (v'.map tyO) z = some (tyO (v'.getD z.toNat none)) := fun z h0 hz => atI_of h0 (by
        rw [List.getElem?_map, List.getElem?_eq_getElem hz, List.getD_eq_getElem?_getD, List.getElem?_eq_getElem hz]; rfl)
      have gE := gD c.e n6 (by omega)
      have gS := gD c.s n5 (by omega)
      have ed : cs.drop j = c :: cs.drop (j + 1) := by
        obtain ⟨hl, e⟩ := List.getElem?_eq_some_iff.mp ec
        rw [List.drop_eq_getElem_cons hl, e]
      rw [ed, List.foldl_cons] at er2
      have hb3 := rxStep_bd (s := (v', ch')) n hb2 (by show c.s.toNat < v'.length; omega)
      have el3 := rxStep_len (v', ch') c
      refine (DG.tupI (dg_tup g (dgs_cons (dg_name (i := 5) g (by first | exact .inl rfl | exact .inr ⟨rfl, rfl⟩) rfl (lt_of_get rfl) (dgs_cons (dg_name (i := 6) g (by first | exact .inl rfl | exact .inr ⟨rfl, rfl⟩) rfl (lt_of_get rfl) (dgs_cons (dg_name (i := 7) g (by first | exact .inl rfl | exact .inr ⟨rfl, rfl⟩) rfl (lt_of_get rfl) (dgs_cons (dg_name (i := 8) g (by first | exact .inl rfl | exact .inr ⟨rfl, rfl⟩) rfl (lt_of_get rfl) (dgs_cons (dg_name (i := 9) g (by first | exact .inl rfl | exact .inr ⟨rfl, rfl⟩) rfl (lt_of_get rfl) (dgs_nil ?_)))))))))))))
      cases hE : v'.getD c.e.toNat none with
      | none =>
        rw [hE] at gE
        have e0 : rxStep (v', ch') c = (v', ch') := by unfold rxStep; rw [show (v', ch').1.getD c.e.toNat none = none from hE]
        rw [e0] at er2 hb3
        exact db_one (ds_ifE (b1 := false) (dt_notN (d := .none) (de_ixO (s := 1) (de_own (i := 1) g rfl) rfl (de_slot (i := 7) g rfl) gE)) (fun z => nomatch z) (fun z => db_nil ⟨v', ch', _, _, _, _, _, _, rfl, er2, el2, hb3⟩))
      | some x =>
        rw [hE] at gE
        obtain ⟨X1, X2, X3, X4⟩ := told_ok n (hb2 _ _ hE)
        obtain ⟨x1, x2⟩ := x
        have k1 : (1000 : Nat) ^ (40 * i + j + 1) ≤ 1000 ^ 520 := Nat.pow_le_pow_right (by decide) (by omega)
        have k2 : (1000 : Nat) ^ 520 ≤ 2 ^ 8000 := by decide
        have ecp : ((c.p.toNat : Nat) : Int) = c.p := by omega
        have ecq : ((c.q.toNat : Nat) : Int) = c.q := by omega
        refine db_one (ds_ifE (b1 := true) (dt_notN (d := ratD (x1, x2)) (de_ixO (s := 1) (de_own (i := 1) g rfl) rfl (de_slot (i := 7) g rfl) gE)) (fun z => ?_) (fun z => nomatch z))
        refine db_cons (ds_set (i := 10) (τ := Is (ratD (told c (x1, x2)))) g (DE.isE (DE.tupI (ds := [_, _]) (de_tup (des_cons (de_mul (de_slot (i := 8) g rfl) (de_ixI (d := .int x1) (ds := [.int x1, .int x2]) (de_ixO (s := 1) (de_own (i := 1) g rfl) rfl (de_slot (i := 7) g rfl) gE) de_int rfl) (.inl ⟨by omega, by omega⟩)) (des_cons (de_mul (de_slot (i := 9) g rfl) (de_ixI (d := .int x2) (ds := [.int x1, .int x2]) (de_ixO (s := 1) (de_own (i := 1) g rfl) rfl (de_slot (i := 7) g rfl) gE) de_int rfl) (.inl ⟨by omega, by omega⟩)) des_nil)))) (by show PyData.tuple [.int (c.p * x1), .int (c.q * x2)] = .tuple [.int ((c.p.toNat * x1 : Nat) : Int), .int ((c.q.toNat * x2 : Nat) : Int)]; push_cast; rw [ecp, ecq])) ?_)
        have eU : rxStep (v', ch') c = if rxUp (told c (x1, x2)) (v'.getD c.s.toNat none) = true then (v'.set c.s.toNat (some (lred (told c (x1, x2)))), true) else (v', ch') := by
          unfold rxStep
          rw [show (v', ch').1.getD c.e.toNat none = some (x1, x2) from hE]
        generalize htt : told c (x1, x2) = t at X1 X2 X3 X4 eU
        obtain ⟨t1, t2⟩ := t
        simp only at X1 X2 X3 X4
        have hgl := gl_lgcd.p t1 t2 X1 X2
        have hg9 : 0 < lgcd 3000 t1 t2 ∧ (lgcd 3000 t1 t2).log2 < 9000 := ⟨by omega, by
          have := nlog (n := 8000) (Nat.le_trans hgl.2.2 (Nat.le_trans X4 (Nat.le_trans k1 k2)))
          omega⟩
        have upd : rxUp (t1, t2) (v'.getD c.s.toNat none) = true → ∃ (v'' : RV) (ch : Bool) (s5' s6' s7' s8' s9' s10' : Sl), (([Sl.dat (Is (.list (cs.map encC))), Sl.own a0 (OL ((v'.map tyO).set c.s.toNat (tyO (some (lred (t1, t2)))))), Sl.dat (Is (.int turns)), Sl.dat (Is (.bool true)), Sl.dat (natI i'), Sl.dat (Is c.nm), Sl.dat (Is (.int c.s)), Sl.dat (Is (.int c.e)), Sl.dat (Is (.int c.p)), Sl.dat (Is (.int c.q)), Sl.dat (Is (ratD (t1, t2)))] : List Sl) = [.dat (Is (.list (cs.map encC))), .own a0 (OL (v''.map tyO)), .dat (Is (.int turns)), .dat (Is (.bool ch)), .dat (natI i'), s5', s6', s7', s8', s9', s10']) ∧ rxTurn cs v = (cs.drop (j + 1)).foldl rxStep (v'', ch) ∧ v''.length = v0.length ∧ Bd (40 * i + (j + 1)) v'' := fun hu => by
          rw [eU, if_pos hu] at er2 hb3
          exact ⟨v'.set c.s.toNat (some (lred (t1, t2))), true, _, _, _, _, _, _, by rw [List.map_set], er2, by rw [List.length_set]; exact el2, hb3⟩
        cases hS : v'.getD c.s.toNat none with
        | none =>
          rw [hS] at gS
          exact db_one (ds_ifE (DW.dt (dw_orT (dt_isN (d := .none) (de_ixO (s := 1) (de_own (i := 1) g rfl) rfl (de_slot (i := 6) g rfl) gS)))) (fun z => db_cons (ds_store (s := 1) (m := c.s.toNat) (τ := tyO (some (lred (t1, t2)))) g rfl (DE.isE (de_slot (i := 6) g rfl) (by rw [Int.toNat_of_nonneg n5])) (by rw [List.length_map]; omega) (DE.isE (de_call g (c_L_reduced T) (des_cons (de_ixI (d := .int t1) (ds := [.int t1, .int t2]) (de_slot (i := 10) g rfl) de_int rfl) (des_cons (de_ixI (d := .int t2) (ds := [.int t1, .int t2]) (de_slot (i := 10) g rfl) de_int rfl) des_nil)) ⟨t1, t2, hg9, rfl, rfl⟩) rfl) (db_one (ds_set (i := 3) g de_bl (upd (by rw [hS]; rfl)))))) (fun z => nomatch z))
        | some y =>
          rw [hS] at gS
          obtain ⟨Y1, Y2, Y3, Y4⟩ := hb2 _ _ hS
          obtain ⟨y1, y2⟩ := y
          simp only at Y1 Y2 Y3 Y4
          have k0 : (1000 : Nat) ^ (40 * i + j) ≤ 1000 ^ 520 := Nat.pow_le_pow_right (by decide) (by omega)
          have m1 : CMulW (t1 : Int) (y2 : Int) := nmulW (Nat.le_trans X3 (Nat.le_trans k1 k2)) (Nat.le_trans Y4 (Nat.le_trans k0 k2))
          have m2 : CMulW (y1 : Int) (t2 : Int) := nmulW (Nat.le_trans Y3 (Nat.le_trans k0 k2)) (Nat.le_trans X4 (Nat.le_trans k1 k2))
          have eu : decide ((t1 : Int) * (y2 : Int) < (y1 : Int) * (t2 : Int)) = rxUp (t1, t2) (some (y1, y2)) := by
            unfold rxUp
            have : ((t1 : Int) * (y2 : Int) < (y1 : Int) * (t2 : Int)) ↔ t1 * y2 < y1 * t2 := by
              rw [← Int.natCast_mul, ← Int.natCast_mul]; exact Int.ofNat_lt
            simp only [this]
          refine db_one (ds_ifE (b1 := rxUp (t1, t2) (some (y1, y2))) (DT.eqE (DW.dt (dw_orE (dt_isN (d := ratD (y1, y2)) (de_ixO (s := 1) (de_own (i := 1) g rfl) rfl (de_slot (i := 6) g rfl) gS)) fun _ => dw_or1 (dt_cmp op_lt (de_mulW (de_ixI (d := .int t1) (ds := [.int t1, .int t2]) (de_slot (i := 10) g rfl) de_int rfl) (de_ixI (d := .int y2) (ds := [.int y1, .int y2]) (de_ixO (s := 1) (de_own (i := 1) g rfl) rfl (de_slot (i := 6) g rfl) gS) de_int rfl) m1) (de_mulW (de_ixI (d := .int y1) (ds := [.int y1, .int y2]) (de_ixO (s := 1) (de_own (i := 1) g rfl) rfl (de_slot (i := 6) g rfl) gS) de_int rfl) (de_ixI (d := .int t2) (ds := [.int t1, .int t2]) (de_slot (i := 10) g rfl) de_int rfl) m2) vr_lt))) (by rw [eu]; rfl)) (fun z => db_cons (ds_store (s := 1) (m := c.s.toNat) (τ := tyO (some (lred (t1, t2)))) g rfl (DE.isE (de_slot (i := 6) g rfl) (by rw [Int.toNat_of_nonneg n5])) (by rw [List.length_map]; omega) (DE.isE (de_call g (c_L_reduced T) (des_cons (de_ixI (d := .int t1) (ds := [.int t1, .int t2]) (de_slot (i := 10) g rfl) de_int rfl) (des_cons (de_ixI (d := .int t2) (ds := [.int t1, .int t2]) (de_slot (i := 10) g rfl) de_int rfl) des_nil)) ⟨t1, t2, hg9, rfl, rfl⟩) rfl) (db_one (ds_set (i := 3) g de_bl (upd (by rw [hS]; exact z)))))) (fun z => db_nil ?_))
          rw [eU, hS, if_neg (by rw [z]; exact Bool.false_ne_true)] at er2 hb3
          exact ⟨v', ch', _, _, _, _, _, _, rfl, er2, el2, hb3⟩
    · rintro ρ' ⟨v', ch', s5, s6, s7, s8, s9, s10, rfl, er2, el2, hb2⟩
      subst hy
      rw [List.length_map] at er2 hb2
      rw [List.drop_length] at er2
      refine ⟨v', ch', _, _, _, _, _, _, _, rfl, ?_, el2, hb2.mono (by omega)⟩
      rw [er, show turns - i = (turns - (i + 1)) + 1 by omega]
      show rxRun cs (turns - (i + 1)) (rxTurn cs v) = _
      rw [er2]
      rfl
  · rintro ρ' ⟨v, ch, s4, s5, s6, s7, s8, s9, s10, rfl, er, el, hb⟩
    subst hy
    rw [List.length_map, List.length_range, Nat.sub_self] at er
    refine db_one (ds_ret (de_slot (i := 3) g rfl) fun w F p => ⟨?_, ?_⟩)
    · rw [er]; exact ⟨_, ⟨ch, rfl, rfl⟩, p⟩
    · rw [er]; rfl
end
end K35
set_option Elab.async false
set_option linter.all false
set_option maxRecDepth 100000
set_option maxHeartbeats 1000000
set_option exponentiation.threshold 20000
/-! plain: potentials -/
namespace K35
open PySem PySem.Spec L2
/-- positive weights that keep every condition -/
structure Pot (D : Int → Int) (cs : List Cd) : Prop where
  pos : ∀ c ∈ cs, 1 ≤ D c.s ∧ 1 ≤ D c.e
  keep : ∀ c ∈ cs, c.q * D c.s ≤ c.p * D c.e
theorem Wk.pot {cs : List Cd} (nb : NB cs) {D : Int → Int} (P : Pot D cs) {k : Nat} {s e p q : Int} (h : Wk cs k s e p q) : q * D s ≤ p * D e ∧ 1 ≤ D s ∧ 1 ≤ D e := by
  induction h with
  | one hc => exact ⟨P.keep _ hc, (P.pos _ hc).1, (P.pos _ hc).2⟩
  | @more k s p q c h hc ih =>
    obtain ⟨_, _, p1, q1, _, _⟩ := h.ok nb
    obtain ⟨i1, i2, i3⟩ := ih
    have kc := P.keep c hc
    have n := nb c hc
    refine ⟨?_, i2, (P.pos c hc).2⟩
    have a1 : c.q * (q * D s) ≤ c.q * (p * D c.s) := Int.mul_le_mul_of_nonneg_left i1 (by have := n.q1; omega)
    have a2 : p * (c.q * D c.s) ≤ p * (c.p * D c.e) := Int.mul_le_mul_of_nonneg_left kc (by omega)
    calc q * c.q * D s = c.q * (q * D s) := by rw [Int.mul_comm q c.q, Int.mul_assoc]
      _ ≤ c.q * (p * D c.s) := a1
      _ = p * (c.q * D c.s) := by rw [← Int.mul_assoc, Int.mul_comm c.q p, Int.mul_assoc]
      _ ≤ p * (c.p * D c.e) := a2
      _ = p * c.p * D c.e := by rw [Int.mul_assoc]
theorem noRound_of {cs : List Cd} (nb : NB cs) {D : Int → Int} (P : Pot D cs) : NoRound cs := fun k s p q h => by
  obtain ⟨h1, h2, _⟩ := h.pot nb P
  exact Int.le_of_mul_le_mul_right h1 (by omega)
/-! ### a turn without a change -/
theorem rxStep_true {s : RV × Bool} {c : Cd} (h : s.2 = true) : (rxStep s c).2 = true := by
  unfold rxStep
  split
  · exact h
  · split
    · rfl
    · exact h
theorem rxFold_true : ∀ (cs : List Cd) {s : RV × Bool}, s.2 = true → (cs.foldl rxStep s).2 = true
  | [], _, h => h
  | c :: cs, s, h => rxFold_true cs (rxStep_true h)
theorem rxFold_false : ∀ (cs : List Cd) {v : RV}, (cs.foldl rxStep (v, false)).2 = false → cs.foldl rxStep (v, false) = (v, false) ∧ ∀ c ∈ cs, rxStep (v, false) c = (v, false)
  | [], v, _ => ⟨rfl, fun c h => nomatch h⟩
  | c :: cs, v, h => by
    have hs : rxStep (v, false) c = (v, false) := by
      by_cases q : (rxStep (v, false) c).2 = true
      · have := rxFold_true cs q
        rw [List.foldl_cons] at h
        rw [h] at this; cases this
      · unfold rxStep at q ⊢
        split
        · rfl
        · rename_i x hx
          rw [hx] at q
          simp only at q
          split
          · rename_i hu
            rw [if_pos hu] at q
            exact absurd rfl q
          · rfl
    rw [List.foldl_cons, hs] at h ⊢
    obtain ⟨h1, h2⟩ := rxFold_false cs h
    exact ⟨h1, fun d hd => (List.mem_cons.mp hd).elim (fun e => e ▸ hs) (h2 d)⟩
theorem rxTurn_false {cs : List Cd} {v : RV} (h : (rxTurn cs v).2 = false) : (rxTurn cs v).1 = v ∧ ∀ c ∈ cs, rxStep (v, false) c = (v, false) := by
  obtain ⟨h1, h2⟩ := rxFold_false cs h
  exact ⟨by show (cs.foldl rxStep (v, false)).1 = v; rw [h1], h2⟩
/-- the last turn -/
theorem rxRun_last (cs : List Cd) : ∀ (n : Nat) (s : RV × Bool), ∃ v, rxRun cs (n + 1) s = rxTurn cs v
  | 0, s => ⟨s.1, rfl⟩
  | n + 1, s => rxRun_last cs n (rxTurn cs s.1)
theorem rxRun_false {cs : List Cd} {n : Nat} {s : RV × Bool} (h : (rxRun cs (n + 1) s).2 = false) : ∀ c ∈ cs, rxStep ((rxRun cs (n + 1) s).1, false) c = ((rxRun cs (n + 1) s).1, false) := by
  obtain ⟨v, e⟩ := rxRun_last cs n s
  rw [e] at h ⊢
  obtain ⟨h1, h2⟩ := rxTurn_false h
  rw [h1]; exact h2
theorem rxTurn_len (cs : List Cd) (v : RV) : (rxTurn cs v).1.length = v.length := by
  have : ∀ (cs : List Cd) (s : RV × Bool), (cs.foldl rxStep s).1.length = s.1.length := fun cs => by
    induction cs with
    | nil => intro s; rfl
    | cons c cs ih => intro s; rw [List.foldl_cons, ih, rxStep_len]
  exact this cs (v, false)
/-- any property of the values that every step keeps -/
theorem rxFold_inv {I : RV → Prop} {cs : List Cd} (h : ∀ v b, ∀ c ∈ cs, I v → I (rxStep (v, b) c).1) : ∀ (ds : List Cd), (∀ d ∈ ds, d ∈ cs) → ∀ s : RV × Bool, I s.1 → I (ds.foldl rxStep s).1
  | [], _, s, hs => hs
  | d :: ds, hd, s, hs => rxFold_inv h ds (fun x hx => hd x (List.mem_cons_of_mem _ hx)) _ (h s.1 s.2 d (hd d (by simp)) hs)
theorem rxRun_inv {I : RV → Prop} {cs : List Cd} (h : ∀ v b, ∀ c ∈ cs, I v → I (rxStep (v, b) c).1) : ∀ (n : Nat) (s : RV × Bool), I s.1 → I (rxRun cs n s).1
  | 0, s, hs => hs
  | n + 1, s, hs => rxRun_inv h n _ (rxFold_inv h cs (fun d hd => hd) (s.1, false) hs)
/-- all some, all positive -/
def AllS (n : Nat) (v : RV) : Prop := v.length = n ∧ ∀ i < n, ∃ x, v.getD i none = some x ∧ 1 ≤ x.1 ∧ 1 ≤ x.2
theorem lred_pos {x : Nat × Nat} (h1 : 1 ≤ x.1) (h2 : 1 ≤ x.2) : 1 ≤ (lred x).1 ∧ 1 ≤ (lred x).2 := by
  obtain ⟨g1, g2, g3⟩ := gl_lgcd.p x.1 x.2 h1 h2
  exact ⟨(Nat.le_div_iff_mul_le (by omega)).mpr (by omega), (Nat.le_div_iff_mul_le (by omega)).mpr (by omega)⟩
theorem rxStep_allS {n : Nat} {v : RV} {b : Bool} {c : Cd} (nc : NC c) (hc : c.s.toNat < n) (h : AllS n v) : AllS n (rxStep (v, b) c).1 := by
  refine ⟨by rw [rxStep_len]; exact h.1, fun i hi => ?_⟩
  unfold rxStep
  split
  · exact h.2 i hi
  · rename_i x hx
    split
    · simp only
      rw [getD_set (by rw [h.1]; exact hc)]
      split
      · by_cases he : c.e.toNat < n
        · obtain ⟨y, hy, y1, y2⟩ := h.2 _ he
          have : x = y := by
            have := hx.symm.trans hy
            cases this; rfl
          subst this
          have n1 := nc.p1
          have n3 := nc.q1
          exact ⟨_, rfl, lred_pos (Nat.mul_le_mul (show 1 ≤ c.p.toNat by omega) y1) (Nat.mul_le_mul (show 1 ≤ c.q.toNat by omega) y2)⟩
        · have : v.getD c.e.toNat none = none := by
            rw [List.getD_eq_getElem?_getD, List.getElem?_eq_none (by rw [h.1]; omega)]; rfl
          rw [show (v, b).1.getD c.e.toNat none = v.getD c.e.toNat none from rfl, this] at hx
          cases hx
      · exact h.2 i hi
    · exact h.2 i hi
/-- what a step that changes nothing tells -/
theorem rxStep_keep {v : RV} {c : Cd} {x y : Nat × Nat} (h : rxStep (v, false) c = (v, false)) (hx : v.getD c.e.toNat none = some x) (hy : v.getD c.s.toNat none = some y) : y.1 * (c.q.toNat * x.2) ≤ c.p.toNat * x.1 * y.2 := by
  unfold rxStep at h
  rw [show (v, false).1.getD c.e.toNat none = some x from hx] at h
  simp only at h
  split at h
  · have := congrArg Prod.snd h
    cases this
  · rename_i hu
    rw [hy] at hu
    simp only [rxUp, told] at hu
    exact Nat.not_lt.mp fun z => hu (decide_eq_true z)
/-! ### potentials from a list that no step changes -/
def dens (v : RV) : Nat := v.foldr (fun o m => (o.getD (1, 1)).2 * m) 1
theorem dens_dvd : ∀ {v : RV} {i : Nat} {x : Nat × Nat}, v.getD i none = some x → x.2 ∣ dens v
  | [], i, x, h => by simp at h
  | o :: v, 0, x, h => by
    have : o = some x := by simpa using h
    subst this
    exact ⟨dens v, rfl⟩
  | o :: v, i + 1, x, h => by
    have h' : v.getD i none = some x := by simpa using h
    exact Nat.dvd_trans (dens_dvd h') (Nat.dvd_mul_left _ _)
theorem dens_pos {n : Nat} {v : RV} (h : AllS n v) : 1 ≤ dens v := by
  have : ∀ (v : RV), (∀ o ∈ v, ∃ x, o = some x ∧ 1 ≤ x.2) → 1 ≤ dens v := fun v => by
    induction v with
    | nil => intro _; exact Nat.le_refl _
    | cons o v ih =>
      intro ho
      obtain ⟨x, e, hx⟩ := ho o (by simp)
      subst e
      exact Nat.mul_le_mul hx (ih fun o h => ho o (List.mem_cons_of_mem _ h))
  refine this v fun o ho => ?_
  obtain ⟨i, hi, e⟩ := List.mem_iff_getElem.mp ho
  obtain ⟨x, hx, _, h2⟩ := h.2 i (by rw [← h.1]; exact hi)
  rw [List.getD_eq_getElem?_getD, List.getElem?_eq_getElem hi] at hx
  exact ⟨x, by rw [← e]; exact hx, h2⟩
def potV (v : RV) (i : Int) : Int := ((((v.getD i.toNat none).getD (1, 1)).1 * (dens v / ((v.getD i.toNat none).getD (1, 1)).2) : Nat) : Int)
theorem pot_of {n : Nat} {v : RV} {cs : List Cd} (nb : NB cs) (ha : AllS n v) (hix : ∀ c ∈ cs, c.s.toNat < n ∧ c.e.toNat < n) (hk : ∀ c ∈ cs, rxStep (v, false) c = (v, false)) : Pot (potV v) cs := by
  have hM := dens_pos ha
  have one : ∀ i : Nat, i < n → ∃ x, v.getD i none = some x ∧ 1 ≤ x.1 ∧ 1 ≤ x.2 ∧ x.2 * (dens v / x.2) = dens v ∧ 1 ≤ dens v / x.2 := fun i hi => by
    obtain ⟨x, hx, h1, h2⟩ := ha.2 i hi
    have hd := dens_dvd hx
    refine ⟨x, hx, h1, h2, Nat.mul_div_cancel' hd, (Nat.le_div_iff_mul_le (by omega)).mpr ?_⟩
    rw [Nat.one_mul]
    exact Nat.le_of_dvd (by omega) hd
  have val : ∀ {i : Int} {x : Nat × Nat}, v.getD i.toNat none = some x → potV v i = ((x.1 * (dens v / x.2) : Nat) : Int) := fun {i x} e => by unfold potV; rw [e]; rfl
  refine ⟨fun c hc => ?_, fun c hc => ?_⟩
  · obtain ⟨h1, h2⟩ := hix c hc
    obtain ⟨x, hx, x1, x2, x3, x4⟩ := one _ h1
    obtain ⟨y, hy, y1, y2, y3, y4⟩ := one _ h2
    rw [val hx, val hy]
    have a1 : 1 ≤ x.1 * (dens v / x.2) := Nat.mul_le_mul x1 x4
    have a2 : 1 ≤ y.1 * (dens v / y.2) := Nat.mul_le_mul y1 y4
    exact ⟨by exact_mod_cast a1, by exact_mod_cast a2⟩
  · obtain ⟨h1, h2⟩ := hix c hc
    obtain ⟨x, hx, x1, x2, x3, x4⟩ := one _ h1
    obtain ⟨y, hy, y1, y2, y3, y4⟩ := one _ h2
    rw [val hx, val hy]
    have k := rxStep_keep (hk c hc) hy hx
    have nc := nb c hc
    have ep : ((c.p.toNat : Nat) : Int) = c.p := by have := nc.p1; omega
    have eq : ((c.q.toNat : Nat) : Int) = c.q := by have := nc.q1; omega
    have main : c.q.toNat * (x.1 * (dens v / x.2)) ≤ c.p.toNat * (y.1 * (dens v / y.2)) := by
      have k2 : x.1 * (c.q.toNat * y.2) * dens v ≤ c.p.toNat * y.1 * x.2 * dens v := Nat.mul_le_mul_right _ k
      have l1 : c.q.toNat * (x.1 * (dens v / x.2)) * (x.2 * y.2) = x.1 * (c.q.toNat * y.2) * dens v := by
        conv => rhs; rw [← x3]
        ac_rfl
      have l2 : c.p.toNat * (y.1 * (dens v / y.2)) * (x.2 * y.2) = c.p.toNat * y.1 * x.2 * dens v := by
        conv => rhs; rw [← y3]
        ac_rfl
      rw [← l1, ← l2] at k2
      exact Nat.le_of_mul_le_mul_right k2 (Nat.mul_pos (by omega) (by omega))
    rw [← ep, ← eq]
    exact_mod_cast main
end K35
set_option Elab.async false
set_option linter.all false
set_option maxRecDepth 100000
set_option maxHeartbeats 1000000
set_option exponentiation.threshold 20000
/-! plain: values are products of simple paths -/
namespace K35
open PySem PySem.Spec L2
structure NPot (D : Nat → Nat) (cs : List Cd) : Prop where
  pos : ∀ c ∈ cs, 1 ≤ D c.s.toNat ∧ 1 ≤ D c.e.toNat
  keep : ∀ c ∈ cs, c.q.toNat * D c.s.toNat ≤ c.p.toNat * D c.e.toNat
theorem Pot.nat {D : Int → Int} {cs : List Cd} (nb : NB cs) (P : Pot D cs) : NPot (fun i => (D i).toNat) cs := by
  have e : ∀ c ∈ cs, ((c.s.toNat : Nat) : Int) = c.s ∧ ((c.e.toNat : Nat) : Int) = c.e := fun c hc => by
    have n := nb c hc
    exact ⟨Int.toNat_of_nonneg n.s0, Int.toNat_of_nonneg n.e0⟩
  refine ⟨fun c hc => ?_, fun c hc => ?_⟩
  · obtain ⟨e1, e2⟩ := e c hc
    obtain ⟨h1, h2⟩ := P.pos c hc
    simp only [e1, e2]
    omega
  · obtain ⟨e1, e2⟩ := e c hc
    obtain ⟨h1, h2⟩ := P.pos c hc
    have n := nb c hc
    have k := P.keep c hc
    simp only [e1, e2]
    have ep : ((c.p.toNat : Nat) : Int) = c.p := by have := n.p1; omega
    have eq : ((c.q.toNat : Nat) : Int) = c.q := by have := n.q1; omega
    have es : (((D c.s).toNat : Nat) : Int) = D c.s := by omega
    have ee : (((D c.e).toNat : Nat) : Int) = D c.e := by omega
    rw [← ep, ← eq, ← es, ← ee] at k
    exact_mod_cast k
theorem frac_trans {a b c d e f : Nat} (hd : 1 ≤ d) (h1 : a * d ≤ c * b) (h2 : c * f ≤ e * d) : a * f ≤ e * b := by
  have k1 : a * d * f ≤ c * b * f := Nat.mul_le_mul_right _ h1
  have k2 : c * f * b ≤ e * d * b := Nat.mul_le_mul_right _ h2
  refine Nat.le_of_mul_le_mul_right (c := d) ?_ (by omega)
  calc a * f * d = a * d * f := by ac_rfl
    _ ≤ c * b * f := k1
    _ = c * f * b := by ac_rfl
    _ ≤ e * d * b := k2
    _ = e * b * d := by ac_rfl
/-- a simple path: every node's value is at most the rest's product -/
inductive Pa (cs : List Cd) (v : RV) : Nat → List Nat → Nat → Nat → Prop
  | base {i : Nat} {x : Nat × Nat} : v.getD i none = some x → 1 ≤ x.2 → x.1 ≤ x.2 → Pa cs v i [i] 1 1
  | step {c : Cd} {L : List Nat} {P Q : Nat} {x : Nat × Nat} : c ∈ cs → Pa cs v c.e.toNat L P Q → c.s.toNat ∉ L → v.getD c.s.toNat none = some x → 1 ≤ x.2 → x.1 * (c.q.toNat * Q) ≤ c.p.toNat * P * x.2 → Pa cs v c.s.toNat (c.s.toNat :: L) (c.p.toNat * P) (c.q.toNat * Q)
theorem Pa.nodup {cs : List Cd} {v : RV} {i P Q : Nat} {L : List Nat} (h : Pa cs v i L P Q) : L.Nodup := by
  induction h with
  | base _ _ _ => simp
  | step _ _ hn _ _ _ ih => exact List.nodup_cons.mpr ⟨hn, ih⟩
theorem getD_lt {v : RV} {i : Nat} {x : Nat × Nat} (h : v.getD i none = some x) : i < v.length := by
  refine Nat.lt_of_not_le fun hl => ?_
  rw [List.getD_eq_getElem?_getD, List.getElem?_eq_none hl] at h
  cases h
theorem Pa.lt {cs : List Cd} {v : RV} {i P Q : Nat} {L : List Nat} (h : Pa cs v i L P Q) : ∀ u ∈ L, u < v.length := by
  induction h with
  | base hx _ _ => intro u hu; rw [List.mem_singleton.mp hu]; exact getD_lt hx
  | step _ _ _ hx _ _ ih => intro u hu; exact (List.mem_cons.mp hu).elim (fun e => e ▸ getD_lt hx) (ih u)
theorem Pa.bnd {cs : List Cd} (nb : NB cs) {v : RV} {i P Q : Nat} {L : List Nat} (h : Pa cs v i L P Q) : 1 ≤ L.length ∧ 1 ≤ P ∧ 1 ≤ Q ∧ P ≤ 1000 ^ (L.length - 1) ∧ Q ≤ 1000 ^ (L.length - 1) := by
  induction h with
  | base _ _ _ => exact ⟨Nat.le_refl _, Nat.le_refl _, Nat.le_refl _, Nat.le_refl _, Nat.le_refl _⟩
  | @step c L P Q x hc _ _ _ _ _ ih =>
    obtain ⟨l, p1, q1, p2, q2⟩ := ih
    have n := nb c hc
    have n1 := n.p1
    have n2 := n.pk
    have n3 := n.q1
    have n4 := n.qk
    have e : (1000 : Nat) ^ ((c.s.toNat :: L).length - 1) = 1000 * 1000 ^ (L.length - 1) := by
      rw [List.length_cons, Nat.add_sub_cancel, Nat.mul_comm, ← Nat.pow_succ, Nat.succ_eq_add_one, Nat.sub_add_cancel l]
    refine ⟨by simp, Nat.mul_le_mul (show 1 ≤ c.p.toNat by omega) p1, Nat.mul_le_mul (show 1 ≤ c.q.toNat by omega) q1, ?_, ?_⟩
    · rw [e]; exact Nat.mul_le_mul (by omega) p2
    · rw [e]; exact Nat.mul_le_mul (by omega) q2
theorem range_len {L : List Nat} {n : Nat} (h : L.Nodup) (hl : ∀ u ∈ L, u < n) : L.length ≤ n := by
  have := nodup_len L (List.range n) h fun u hu => List.mem_range.mpr (hl u hu)
  rwa [List.length_range] at this
/-- values that fall keep a path -/
theorem Pa.mono {cs : List Cd} {v v' : RV} (hm : ∀ u x, v.getD u none = some x → 1 ≤ x.2 → ∃ x', v'.getD u none = some x' ∧ 1 ≤ x'.2 ∧ x'.1 * x.2 ≤ x.1 * x'.2) {i P Q : Nat} {L : List Nat} (h : Pa cs v i L P Q) : Pa cs v' i L P Q := by
  induction h with
  | base hx h1 h2 =>
    obtain ⟨x', e, h3, h4⟩ := hm _ _ hx h1
    exact .base e h3 (by simpa using frac_trans (a := _) (e := 1) (f := 1) h1 h4 (by omega))
  | step hc _ hn hx h1 h2 ih =>
    obtain ⟨x', e, h3, h4⟩ := hm _ _ hx h1
    exact .step hc ih hn e h3 (frac_trans h1 h4 h2)
/-- at a node of the path -/
theorem Pa.tail {cs : List Cd} (nb : NB cs) {D : Nat → Nat} (pot : NPot D cs) {v : RV} {i P Q u : Nat} {L : List Nat} (h : Pa cs v i L P Q) (hu : u ∈ L) : ∃ P' Q' x, v.getD u none = some x ∧ 1 ≤ x.2 ∧ 1 ≤ P' ∧ 1 ≤ Q' ∧ x.1 * Q' ≤ P' * x.2 ∧ D i * Q * P' ≤ D u * P * Q' := by
  induction h with
  | @base i x hx h1 h2 =>
    rw [List.mem_singleton.mp hu]
    exact ⟨1, 1, x, hx, h1, Nat.le_refl _, Nat.le_refl _, by omega, Nat.le_refl _⟩
  | @step c L P Q x hc hp hn hx h1 h2 ih =>
    have n := nb c hc
    rcases List.mem_cons.mp hu with e | hu
    · subst e
      obtain ⟨_, p1, q1, _, _⟩ := (Pa.step hc hp hn hx h1 h2).bnd nb
      exact ⟨_, _, x, hx, h1, p1, q1, h2, Nat.le_of_eq (by ac_rfl)⟩
    · obtain ⟨P', Q', y, hy, y2, a1, a2, a3, a4⟩ := ih hu
      refine ⟨P', Q', y, hy, y2, a1, a2, a3, ?_⟩
      have k := pot.keep c hc
      calc D c.s.toNat * (c.q.toNat * Q) * P' = (c.q.toNat * D c.s.toNat) * (Q * P') := by ac_rfl
        _ ≤ (c.p.toNat * D c.e.toNat) * (Q * P') := Nat.mul_le_mul_right _ k
        _ = c.p.toNat * (D c.e.toNat * Q * P') := by ac_rfl
        _ ≤ c.p.toNat * (D u * P * Q') := Nat.mul_le_mul_left _ a4
        _ = D u * (c.p.toNat * P) * Q' := by ac_rfl
structure Sim (cs : List Cd) (v : RV) : Prop where
  val : ∀ i x, v.getD i none = some x → Nat.gcd x.1 x.2 = 1 ∧ 1 ≤ x.1 ∧ 1 ≤ x.2 ∧ ∃ L P Q, Pa cs v i L P Q ∧ x.1 * Q = P * x.2 ∧ x.1 ≤ P ∧ x.2 ≤ Q
theorem rxStep_sim {cs : List Cd} (nb : NB cs) {D : Nat → Nat} (pot : NPot D cs) {v : RV} {b : Bool} {c : Cd} (hc : c ∈ cs) (hl : v.length ≤ 10) (hs : c.s.toNat < v.length) (h : Sim cs v) : Sim cs (rxStep (v, b) c).1 := by
  unfold rxStep
  split
  · exact h
  rename_i x hx
  split
  rotate_left
  · exact h
  rename_i hu
  have hx : v.getD c.e.toNat none = some x := hx
  have hu : rxUp (told c x) (v.getD c.s.toNat none) = true := hu
  show Sim cs (v.set c.s.toNat (some (lred (told c x))))
  obtain ⟨gx, x1, x2, L, P, Q, hp, hPQ, hxP, hxQ⟩ := h.val _ _ hx
  have n := nb c hc
  have n1 := n.p1
  have n2 := n.pk
  have n3 := n.q1
  have n4 := n.qk
  have p1 : 1 ≤ c.p.toNat := by omega
  have q1 : 1 ≤ c.q.toNat := by omega
  obtain ⟨l1, P1, Q1, P2, Q2⟩ := hp.bnd nb
  have ll := Nat.le_trans (range_len hp.nodup hp.lt) hl
  have k9 : (1000 : Nat) ^ (L.length - 1) ≤ 1000 ^ 9 := Nat.pow_le_pow_right (by decide) (by omega)
  generalize ht : told c x = t at hu ⊢
  have t1 : t.1 = c.p.toNat * x.1 := by rw [← ht]; rfl
  have t2 : t.2 = c.q.toNat * x.2 := by rw [← ht]; rfl
  have tp1 : 1 ≤ t.1 := by rw [t1]; exact Nat.mul_le_mul p1 x1
  have tp2 : 1 ≤ t.2 := by rw [t2]; exact Nat.mul_le_mul q1 x2
  have tb2 : t.2 ≤ 2 ^ 1200 := by
    have : t.2 ≤ 1000 * 1000 ^ 9 := by rw [t2]; exact Nat.mul_le_mul (by omega) (Nat.le_trans hxQ (Nat.le_trans Q2 k9))
    exact Nat.le_trans this (by decide)
  have eg := lgcd_big (a := t.1) tb2
  have g0 : 0 < Nat.gcd t.1 t.2 := Nat.gcd_pos_of_pos_left _ (by omega)
  have er : lred t = (t.1 / Nat.gcd t.1 t.2, t.2 / Nat.gcd t.1 t.2) := by unfold lred; rw [eg]
  have d1 : t.1 / Nat.gcd t.1 t.2 * Nat.gcd t.1 t.2 = t.1 := Nat.div_mul_cancel (Nat.gcd_dvd_left _ _)
  have d2 : t.2 / Nat.gcd t.1 t.2 * Nat.gcd t.1 t.2 = t.2 := Nat.div_mul_cancel (Nat.gcd_dvd_right _ _)
  have gN : Nat.gcd (t.1 / Nat.gcd t.1 t.2) (t.2 / Nat.gcd t.1 t.2) = 1 := by
    have : Nat.gcd (t.1 / Nat.gcd t.1 t.2 * Nat.gcd t.1 t.2) (t.2 / Nat.gcd t.1 t.2 * Nat.gcd t.1 t.2) = 1 * Nat.gcd t.1 t.2 := by rw [d1, d2, Nat.one_mul]
    rw [Nat.gcd_mul_right] at this
    exact Nat.eq_of_mul_eq_mul_right g0 this
  have np := lred_pos tp1 tp2
  rw [er] at np ⊢
  generalize Nat.gcd t.1 t.2 = g at g0 d1 d2 gN np ⊢
  generalize t.1 / g = a at d1 gN np ⊢
  generalize t.2 / g = e at d2 gN np ⊢
  simp only at np
  -- the new value is below the old
  have old : ∀ y : Nat × Nat, v.getD c.s.toNat none = some y → t.1 * y.2 < y.1 * t.2 := fun y hy => by
    rw [hy] at hu
    exact of_decide_eq_true hu
  have old2 : ∀ y : Nat × Nat, v.getD c.s.toNat none = some y → a * y.2 ≤ y.1 * e := fun y hy => by
    have := Nat.le_of_lt (old y hy)
    rw [← d1, ← d2] at this
    refine Nat.le_of_mul_le_mul_right (c := g) ?_ g0
    calc a * y.2 * g = a * g * y.2 := by ac_rfl
      _ ≤ y.1 * (e * g) := this
      _ = y.1 * e * g := by ac_rfl
  have hn : c.s.toNat ∉ L := fun hm => by
    obtain ⟨P', Q', y, hy, y2, a1, a2, a3, a4⟩ := hp.tail nb pot hm
    have o := old y hy
    rw [t1, t2] at o
    have k := pot.keep c hc
    have ds := (pot.pos c hc).1
    -- p P y2 < y1 q Q
    have s1 : c.p.toNat * P * y.2 < y.1 * (c.q.toNat * Q) := by
      refine Nat.lt_of_mul_lt_mul_right (a := x.2) ?_
      calc c.p.toNat * P * y.2 * x.2 = c.p.toNat * y.2 * (P * x.2) := by ac_rfl
        _ = c.p.toNat * y.2 * (x.1 * Q) := by rw [hPQ]
        _ = c.p.toNat * x.1 * y.2 * Q := by ac_rfl
        _ < y.1 * (c.q.toNat * x.2) * Q := Nat.mul_lt_mul_of_pos_right o (by omega)
        _ = y.1 * (c.q.toNat * Q) * x.2 := by ac_rfl
    have s2 : c.p.toNat * P * Q' < P' * (c.q.toNat * Q) := by
      refine Nat.lt_of_mul_lt_mul_right (a := y.2) ?_
      calc c.p.toNat * P * Q' * y.2 = c.p.toNat * P * y.2 * Q' := by ac_rfl
        _ < y.1 * (c.q.toNat * Q) * Q' := Nat.mul_lt_mul_of_pos_right s1 (by omega)
        _ = y.1 * Q' * (c.q.toNat * Q) := by ac_rfl
        _ ≤ P' * y.2 * (c.q.toNat * Q) := Nat.mul_le_mul_right _ a3
        _ = P' * (c.q.toNat * Q) * y.2 := by ac_rfl
    have s3 : D c.s.toNat * (c.p.toNat * P * Q') < D c.s.toNat * (P' * (c.q.toNat * Q)) := Nat.mul_lt_mul_of_pos_left s2 (by omega)
    have s4 : D c.s.toNat * (P' * (c.q.toNat * Q)) ≤ D c.s.toNat * (c.p.toNat * P * Q') := by
      calc D c.s.toNat * (P' * (c.q.toNat * Q)) = c.q.toNat * D c.s.toNat * (Q * P') := by ac_rfl
        _ ≤ c.p.toNat * D c.e.toNat * (Q * P') := Nat.mul_le_mul_right _ k
        _ = c.p.toNat * (D c.e.toNat * Q * P') := by ac_rfl
        _ ≤ c.p.toNat * (D c.s.toNat * P * Q') := Nat.mul_le_mul_left _ a4
        _ = D c.s.toNat * (c.p.toNat * P * Q') := by ac_rfl
    omega
  have mono : ∀ (u : Nat) (y : Nat × Nat), v.getD u none = some y → 1 ≤ y.2 → ∃ y', (v.set c.s.toNat (some (a, e))).getD u none = some y' ∧ 1 ≤ y'.2 ∧ y'.1 * y.2 ≤ y.1 * y'.2 := fun u y hy hy2 => by
    rw [getD_set hs]
    by_cases z : c.s.toNat = u
    · subst z
      rw [if_pos rfl]
      exact ⟨(a, e), rfl, np.2, old2 y hy⟩
    · rw [if_neg z]
      exact ⟨y, hy, hy2, Nat.le_refl _⟩
  refine ⟨fun i y hy => ?_⟩
  rw [getD_set hs] at hy
  by_cases z : c.s.toNat = i
  · subst z
    rw [if_pos rfl] at hy
    cases hy
    have eqn : a * (c.q.toNat * Q) = c.p.toNat * P * e := by
      refine Nat.eq_of_mul_eq_mul_right g0 ?_
      calc a * (c.q.toNat * Q) * g = (a * g) * (c.q.toNat * Q) := by ac_rfl
        _ = c.p.toNat * x.1 * (c.q.toNat * Q) := by rw [d1, t1]
        _ = c.p.toNat * c.q.toNat * (x.1 * Q) := by ac_rfl
        _ = c.p.toNat * c.q.toNat * (P * x.2) := by rw [hPQ]
        _ = c.p.toNat * P * (c.q.toNat * x.2) := by ac_rfl
        _ = c.p.toNat * P * (e * g) := by rw [d2, t2]
        _ = c.p.toNat * P * e * g := by ac_rfl
    refine ⟨gN, np.1, np.2, _, _, _, Pa.step hc (hp.mono mono) hn (by rw [getD_set hs, if_pos rfl]) np.2 (Nat.le_of_eq eqn), eqn, ?_, ?_⟩
    · have : a ≤ t.1 := by rw [← d1]; exact Nat.le_mul_of_pos_right _ g0
      exact Nat.le_trans this (by rw [t1]; exact Nat.mul_le_mul_left _ hxP)
    · have : e ≤ t.2 := by rw [← d2]; exact Nat.le_mul_of_pos_right _ g0
      exact Nat.le_trans this (by rw [t2]; exact Nat.mul_le_mul_left _ hxQ)
  · rw [if_neg z] at hy
    obtain ⟨b1, b2, b3, L', P', Q', hp', r⟩ := h.val _ _ hy
    exact ⟨b1, b2, b3, L', P', Q', hp'.mono mono, r⟩
end K35
set_option Elab.async false
set_option linter.all false
set_option maxRecDepth 100000
set_option maxHeartbeats 1000000
set_option exponentiation.threshold 20000
/-! plain: what the law's relaxations tell -/
namespace K35
open PySem PySem.Spec L2
/-- a start: nothing or 1 -/
def Start (v : RV) : Prop := ∀ i x, v.getD i none = some x → x = (1, 1)
theorem Start.sim {cs : List Cd} {v : RV} (h : Start v) : Sim cs v := ⟨fun i x hx => by
  have e := h i x hx
  subst e
  exact ⟨by decide, Nat.le_refl _, Nat.le_refl _, [i], 1, 1, .base hx (Nat.le_refl _) (Nat.le_refl _), rfl, Nat.le_refl _, Nat.le_refl _⟩⟩
theorem rxRun_sim {cs : List Cd} (nb : NB cs) {D : Nat → Nat} (pot : NPot D cs) {v : RV} (hl : v.length ≤ 10) (hix : ∀ c ∈ cs, c.s.toNat < v.length ∧ c.e.toNat < v.length) (h : Start v) (n : Nat) (b : Bool) : (rxRun cs n (v, b)).1.length = v.length ∧ Sim cs (rxRun cs n (v, b)).1 :=
  rxRun_inv (I := fun w => w.length = v.length ∧ Sim cs w) (cs := cs) (fun w b c hc hw => ⟨by rw [rxStep_len]; exact hw.1, rxStep_sim nb pot hc (by show w.length ≤ 10; omega) (by show c.s.toNat < w.length; have := (hix c hc).1; omega) hw.2⟩) n (v, b) ⟨rfl, h.sim⟩
theorem Sim.bnd {cs : List Cd} (nb : NB cs) {v : RV} (hl : v.length ≤ 10) (h : Sim cs v) {i : Nat} {x : Nat × Nat} (hx : v.getD i none = some x) : Nat.gcd x.1 x.2 = 1 ∧ 1 ≤ x.1 ∧ 1 ≤ x.2 ∧ x.1 ≤ 1000 ^ 9 ∧ x.2 ≤ 1000 ^ 9 := by
  obtain ⟨g, x1, x2, L, P, Q, hp, _, hP, hQ⟩ := h.val _ _ hx
  obtain ⟨_, _, _, P2, Q2⟩ := hp.bnd nb
  have ll := Nat.le_trans (range_len hp.nodup hp.lt) hl
  have k9 : (1000 : Nat) ^ (L.length - 1) ≤ 1000 ^ 9 := Nat.pow_le_pow_right (by decide) (by omega)
  exact ⟨g, x1, x2, by omega, by omega⟩
/-! ### told -/
def oneV (n : Nat) : RV := List.replicate n (some (1, 1))
theorem oneV_getD {n i : Nat} (h : i < n) : (oneV n).getD i none = some (1, 1) := by
  unfold oneV
  rw [List.getD_eq_getElem?_getD, List.getElem?_replicate, if_pos h]; rfl
theorem oneV_start (n : Nat) : Start (oneV n) := fun i x hx => by
  by_cases h : i < n
  · rw [oneV_getD h] at hx; cases hx; rfl
  · unfold oneV at hx
    rw [List.getD_eq_getElem?_getD, List.getElem?_replicate, if_neg h] at hx
    cases hx
theorem all_ix {rs : List Res} (w : Wf rs) {top : Nat} : ∀ c ∈ allL rs top, c.s.toNat < max (topN rs) top + 1 ∧ c.e.toNat < max (topN rs) top + 1 := fun c hc => by
  unfold allL at hc
  rcases List.mem_append.mp hc with z | z
  · have o := seenL_ok w z
    have m := (foldl_max_le ((seenL rs).map fun c => max c.s c.e) 0).2 (max c.s c.e) (List.mem_map.mpr ⟨c, z, rfl⟩)
    have e : ((seenL rs).map fun c => max c.s c.e).foldl max 0 = (topN rs : Int) := (topN_eq w).1
    rw [e] at m
    have := o.s0
    have := o.e0
    omega
  · obtain ⟨k, hk, rfl⟩ := List.mem_map.mp z
    have hk : k < top := by simpa using hk
    show ((k : Int)).toNat < _ ∧ ((k : Int) + 1).toNat < _
    omega
def toldR (rs : List Res) : RV × Bool := rxRun (allL rs (topN rs)) (topN rs + 2) (oneV (topN rs + 1), true)
theorem told_pot {rs : List Res} (w : Wf rs) (h : (toldR rs).2 = false) : Pot (potV (toldR rs).1) (allL rs (topN rs)) := by
  have ht := (topN_eq w).2
  have nb := nb_all w (show topN rs ≤ 9 by omega)
  have hix : ∀ c ∈ allL rs (topN rs), c.s.toNat < topN rs + 1 ∧ c.e.toNat < topN rs + 1 := fun c hc => by
    have := all_ix w c hc
    rwa [Nat.max_self] at this
  refine pot_of (n := topN rs + 1) nb ?_ hix (rxRun_false (n := topN rs + 1) h)
  refine rxRun_inv (I := AllS (topN rs + 1)) (fun v b c hc hv => rxStep_allS (nb c hc) (hix c hc).1 hv) _ _ ⟨by simp [oneV], fun i hi => ⟨(1, 1), oneV_getD hi, Nat.le_refl _, Nat.le_refl _⟩⟩
theorem told_noRound {rs : List Res} (w : Wf rs) (h : (toldR rs).2 = false) : NoRound (allL rs (topN rs)) := noRound_of (nb_all w (show topN rs ≤ 9 by have := (topN_eq w).2; omega)) (told_pot w h)
/-- every told ratio is small -/
theorem told_small {rs : List Res} (w : Wf rs) (h : (toldR rs).2 = false) : (toldR rs).1.length = topN rs + 1 ∧ ∀ o ∈ (toldR rs).1, ∃ x, o = some x ∧ Rat4 x := by
  have ht := (topN_eq w).2
  have nb := nb_all w (show topN rs ≤ 9 by omega)
  have hix : ∀ c ∈ allL rs (topN rs), c.s.toNat < (oneV (topN rs + 1)).length ∧ c.e.toNat < (oneV (topN rs + 1)).length := fun c hc => by
    have := all_ix w c hc
    rw [Nat.max_self] at this
    simpa [oneV] using this
  have hl : (oneV (topN rs + 1)).length ≤ 10 := by simp [oneV]; omega
  obtain ⟨h1, h2⟩ := rxRun_sim nb ((told_pot w h).nat nb) hl hix (oneV_start _) (topN rs + 2) true
  have hlen : (toldR rs).1.length = topN rs + 1 := by
    have : (toldR rs).1.length = (oneV (topN rs + 1)).length := h1
    rw [this]; simp [oneV]
  have hal : AllS (topN rs + 1) (toldR rs).1 := rxRun_inv (I := AllS (topN rs + 1)) (fun v b c hc hv => rxStep_allS (nb c hc) (by have := (hix c hc).1; simpa [oneV] using this) hv) _ _ ⟨by simp [oneV], fun i hi => ⟨(1, 1), oneV_getD hi, Nat.le_refl _, Nat.le_refl _⟩⟩
  refine ⟨hlen, fun o ho => ?_⟩
  obtain ⟨i, hi, e⟩ := List.mem_iff_getElem.mp ho
  obtain ⟨x, hx, _, _⟩ := hal.2 i (by rw [← hlen]; exact hi)
  have ex : o = some x := by
    rw [List.getD_eq_getElem?_getD, List.getElem?_eq_getElem hi] at hx
    rw [← e]; exact hx
  obtain ⟨_, b1, b2, b3, b4⟩ := h2.bnd nb (by rw [h1]; exact hl) hx
  exact ⟨x, ex, b1, b2, Nat.le_trans b3 (by decide), Nat.le_trans b4 (by decide)⟩
/-- potentials for all ten nodes -/
theorem pot_nine {rs : List Res} (w : Wf rs) {D : Int → Int} (h : Pot D (allL rs (topN rs))) (h0 : 1 ≤ D (topN rs)) : Pot (fun i => D (min i (topN rs))) (allL rs 9) := by
  have eU : ∀ c ∈ allL rs 9, c ∈ allL rs (topN rs) ∨ ∃ k : Nat, topN rs ≤ k ∧ c = upC k := fun c hc => by
    unfold allL at hc ⊢
    rcases List.mem_append.mp hc with z | z
    · exact .inl (List.mem_append_left _ z)
    · obtain ⟨k, hk, rfl⟩ := List.mem_map.mp z
      by_cases q : k < topN rs
      · exact .inl (List.mem_append_right _ (List.mem_map.mpr ⟨k, List.mem_range.mpr q, rfl⟩))
      · exact .inr ⟨k, by omega, rfl⟩
  have inT : ∀ c ∈ allL rs (topN rs), min c.s (topN rs) = c.s ∧ min c.e (topN rs) = c.e := fun c hc => by
    have i := all_ix w c hc
    rw [Nat.max_self] at i
    have n := nb_all w (show topN rs ≤ 9 by have := (topN_eq w).2; omega) c hc
    have := n.s0
    have := n.e0
    omega
  refine ⟨fun c hc => ?_, fun c hc => ?_⟩
  · rcases eU c hc with z | ⟨k, hk, rfl⟩
    · obtain ⟨e1, e2⟩ := inT c z
      simp only [e1, e2]; exact h.pos c z
    · have e1 : min ((upC k).s) (topN rs : Int) = topN rs := by show min (k : Int) _ = _; omega
      have e2 : min ((upC k).e) (topN rs : Int) = topN rs := by show min ((k : Int) + 1) _ = _; omega
      simp only [e1, e2]; exact ⟨h0, h0⟩
  · rcases eU c hc with z | ⟨k, hk, rfl⟩
    · obtain ⟨e1, e2⟩ := inT c z
      simp only [e1, e2]; exact h.keep c z
    · have e1 : min ((upC k).s) (topN rs : Int) = topN rs := by show min (k : Int) _ = _; omega
      have e2 : min ((upC k).e) (topN rs : Int) = topN rs := by show min ((k : Int) + 1) _ = _; omega
      simp only [e1, e2]
      exact Int.le_refl _
/-! ### the ratio that is due -/
def startV (other : Nat) : RV := (List.replicate 10 none).set other (some (1, 1))
def dueR (rs : List Res) (other : Nat) : RV × Bool := rxRun (allL rs 9) 12 (startV other, true)
def dueO (rs : List Res) (one other : Nat) : Option (Nat × Nat) := (dueR rs other).1.getD one none
theorem startV_getD {other i : Nat} (h : other < 10) : (startV other).getD i none = if other = i then some (1, 1) else none := by
  unfold startV
  rw [getD_set (by simp; exact h)]
  split
  · rfl
  · rw [List.getD_eq_getElem?_getD, List.getElem?_replicate]
    split <;> rfl
theorem startV_start {other : Nat} (h : other < 10) : Start (startV other) := fun i x hx => by
  rw [startV_getD h] at hx
  split at hx
  · cases hx; rfl
  · cases hx
theorem potV_pos {n : Nat} {v : RV} (ha : AllS n v) {i : Int} (hi : i.toNat < n) : 1 ≤ potV v i := by
  obtain ⟨x, hx, h1, h2⟩ := ha.2 _ hi
  have hd := dens_dvd hx
  have hM := dens_pos ha
  have e : potV v i = ((x.1 * (dens v / x.2) : Nat) : Int) := by unfold potV; rw [hx]; rfl
  rw [e]
  have h3 : 1 ≤ dens v / x.2 := (Nat.le_div_iff_mul_le (by omega)).mpr (by rw [Nat.one_mul]; exact Nat.le_of_dvd (by omega) hd)
  have : 1 ≤ x.1 * (dens v / x.2) := Nat.mul_le_mul h1 h3
  exact_mod_cast this
theorem told_pot9 {rs : List Res} (w : Wf rs) (h : (toldR rs).2 = false) : ∃ D, Pot D (allL rs 9) := by
  have ht := (topN_eq w).2
  have nb := nb_all w (show topN rs ≤ 9 by omega)
  have hix : ∀ c ∈ allL rs (topN rs), c.s.toNat < topN rs + 1 ∧ c.e.toNat < topN rs + 1 := fun c hc => by
    have := all_ix w c hc
    rwa [Nat.max_self] at this
  have hal : AllS (topN rs + 1) (toldR rs).1 := rxRun_inv (I := AllS (topN rs + 1)) (fun v b c hc hv => rxStep_allS (nb c hc) (hix c hc).1 hv) _ _ ⟨by simp [oneV], fun i hi => ⟨(1, 1), oneV_getD hi, Nat.le_refl _, Nat.le_refl _⟩⟩
  exact ⟨_, pot_nine w (told_pot w h) (potV_pos hal (by omega))⟩
theorem due_small {rs : List Res} (w : Wf rs) (h : (toldR rs).2 = false) {one other : Nat} (ho : other < 10) {x : Nat × Nat} (hx : dueO rs one other = some x) : Nat.gcd x.1 x.2 = 1 ∧ 1 ≤ x.1 ∧ 1 ≤ x.2 ∧ x.1 ≤ 1000 ^ 9 ∧ x.2 ≤ 1000 ^ 9 := by
  obtain ⟨D, pot⟩ := told_pot9 w h
  have nb := nb_all w (show 9 ≤ 9 by omega)
  have ht := (topN_eq w).2
  have hl : (startV other).length = 10 := by simp [startV]
  have hix : ∀ c ∈ allL rs 9, c.s.toNat < (startV other).length ∧ c.e.toNat < (startV other).length := fun c hc => by
    have := all_ix w c hc
    rw [hl]; omega
  obtain ⟨h1, h2⟩ := rxRun_sim nb (pot.nat nb) (by omega) hix (startV_start ho) 12 true
  exact h2.bnd nb (by rw [h1]; omega) hx
end K35
set_option Elab.async false
set_option linter.all false
set_option maxRecDepth 100000
set_option maxHeartbeats 1000000
set_option exponentiation.threshold 20000
/-! told divisors, the ratio that is due -/
namespace K35
open PySem PySem.Spec L2
theorem bd_start {v : RV} (h : Start v) : Bd 0 v := fun i x hx => by
  rw [h i x hx]; decide
theorem all_some {v : RV} (h : ∀ o ∈ v, ∃ x, o = some x ∧ Rat4 x) : ∃ xs : List (Nat × Nat), v = xs.map some ∧ ∀ x ∈ xs, Rat4 x := by
  induction v with
  | nil => exact ⟨[], rfl, fun x hx => nomatch hx⟩
  | cons o v ih =>
    obtain ⟨x, e, hx⟩ := h o (by simp)
    obtain ⟨xs, e2, hxs⟩ := ih fun p hp => h p (List.mem_cons_of_mem _ hp)
    exact ⟨x :: xs, by rw [e, e2]; rfl, fun y hy => (List.mem_cons.mp hy).elim (fun z => z ▸ hx) (hxs y)⟩
section
variable {W : Wd}
def S_td : List Ty → Ty → Prop := fun τs τ => ∃ rs, Wf rs ∧ τs = [Is (encRs rs)] ∧ τ = Ex fun d => isN d = (toldR rs).2
theorem c_L_told_divisors (T : Txt W) : Cal W "_law_told_divisors" 4 ["_law_results_here"] (spP S_td) := by
  refine cal_P T.d_L_told_divisors sc_L_told_divisors (by decide) (fun _ _ _ _ _ _ us hl => match us, hl with | [_], _ => rfl) (fun τs τ h => by obtain ⟨_, _, rfl, _⟩ := h; rfl) fun X g τs τ h => ?_
  obtain ⟨rs, w, rfl, rfl⟩ := h
  obtain ⟨et, ht⟩ := topN_eq w
  have al : (allL rs (topN rs)).length ≤ 40 := by
    have := seenL_len w
    unfold allL
    rw [List.length_append, List.length_map, List.length_range]; omega
  have hall : Wf rs ∧ topN rs ≤ 1000 := ⟨w, by omega⟩
  refine db_cons (ds_set (i := 1) g (de_call g (c_L_top T) (des_cons (de_slot (i := 0) g rfl) des_nil) ⟨_, by assumption, rfl, rfl⟩) ?_)
  rw [et]
  refine db_cons (ds_setMap (v := 3) (i := 2) (List.range (topN rs + 1)) natI (fun _ => tyO (some (1, 1))) g (by decide +kernel) (di_rangeM (m := topN rs + 1) g T.b_range (de_add (de_slot (i := 1) g rfl) de_int) (by push_cast; rfl) (by omega)) (by simp; omega) ⟨_, rfl, rfl⟩ (fun k hk X' g' => DE.tupI (ds := [_, _]) (de_tup (des_cons de_int (des_cons de_int des_nil)))) fun pr => ?_)
  have e1 : (List.range (topN rs + 1)).map (fun _ => tyO (some (1, 1))) = (oneV (topN rs + 1)).map tyO := by
    unfold oneV; rw [List.map_const', List.length_range, List.map_replicate]
  rw [e1]
  have hrx : NB (allL rs (topN rs)) ∧ (∀ c ∈ allL rs (topN rs), c.s.toNat < (oneV (topN rs + 1)).length ∧ c.e.toNat < (oneV (topN rs + 1)).length) ∧ (allL rs (topN rs)).length ≤ 40 ∧ topN rs + 2 ≤ 12 ∧ (oneV (topN rs + 1)).length ≤ 100 ∧ Bd 0 (oneV (topN rs + 1)) := ⟨nb_all w (by omega), fun c hc => by
      have := all_ix w c hc
      rw [Nat.max_self] at this
      simpa [oneV] using this, al, by omega, by simp [oneV]; omega, bd_start (oneV_start _)⟩
  refine db_cons (ds_ifCallO (i := 2) g (c_L_relaxed T) (des_cons (de_call g (c_L_all T) (des_cons (de_slot (i := 0) g rfl) (des_cons (de_slot (i := 1) g rfl) des_nil)) ⟨rs, topN rs, hall, rfl, rfl⟩) (des_cons (de_own (i := 2) g rfl) (des_cons (DE.isE (d' := .int ((topN rs + 2 : Nat) : Int)) (de_add (de_slot (i := 1) g rfl) de_int) (by push_cast; rfl)) des_nil))) rfl rfl ⟨_, _, topN rs + 2, pr, hrx, rfl, rfl, rfl, rfl⟩ (fun z => db_one (ds_ret de_non fun v F p => ⟨.none, z, p⟩)) (fun z => db_nil ?_))
  have hz : (toldR rs).2 = false := z.symm
  obtain ⟨s1, s2⟩ := told_small w hz
  obtain ⟨xs, ex, hxs⟩ := all_some s2
  have hxl : xs.length = topN rs + 1 := by rw [← s1, ex, List.length_map]
  refine DB.freezeL (i := 2) (p := pr) (τs := (xs.map some).map tyO) ?_ (by show some (Sl.own pr (OL ((toldR rs).1.map tyO))) = _; rw [ex])
  have hwn : 1 ≤ xs.length ∧ xs.length ≤ 10 ∧ ∀ x ∈ xs, Rat4 x := ⟨by omega, by omega, hxs⟩
  refine db_one (ds_ret (de_call g (c_L_whole T) (des_cons (DE.lstMI (xs := xs) (f := ratD) (((de_slot (i := 2) g rfl) : DE X _ _ (LstOf ((xs.map some).map tyO))).sub fun v F p => by rw [List.map_map] at p; exact p)) des_nil) ⟨xs, hwn, rfl, rfl⟩) fun v F p => ?_)
  obtain ⟨d, ⟨ns, e, _⟩, p⟩ := p
  exact ⟨d, by rw [e, hz]; rfl, p⟩
def S_Lra : List Ty → Ty → Prop := fun τs τ => ∃ rs, ∃ one other : Nat, (Wf rs ∧ one ≤ 8 ∧ other ≤ 8) ∧ τs = [Is (encRs rs), Is (.int one), Is (.int other)] ∧ τ = Is (encRt (dueO rs one other))
theorem c_L_ratio (T : Txt W) : Cal W "_law_ratio" 4 ["_law_results_here", "_law_one", "_law_other"] (spP S_Lra) := by
  refine cal_P T.d_L_ratio sc_L_ratio (by decide) (fun _ _ _ _ _ _ us hl => match us, hl with | [_, _, _], _ => rfl) (fun τs τ h => by obtain ⟨_, _, _, _, rfl, _⟩ := h; rfl) fun X g τs τ h => ?_
  obtain ⟨rs, one, other, ⟨w, h1, h2⟩, rfl, rfl⟩ := h
  have ht := (topN_eq w).2
  have al := allL_len w
  have hall : Wf rs ∧ 9 ≤ 1000 := ⟨w, by omega⟩
  refine db_cons (ds_setMap (v := 4) (i := 3) (List.range 10) natI (fun _ => tyO none) g (by decide +kernel) (di_rangeM (m := 10) g T.b_range de_int rfl (by omega)) (by simp) ⟨_, rfl, rfl⟩ (fun k hk X' g' => de_non) fun pr => ?_)
  have e1 : (List.range 10).map (fun _ => tyO none) = (List.replicate 10 (none : Option (Nat × Nat))).map tyO := by
    rw [List.map_const', List.length_range, List.map_replicate]
  rw [e1]
  refine db_cons (ds_store (s := 3) (m := other) (τ := tyO (some (1, 1))) g rfl (de_slot (i := 2) g rfl) (by simp; omega) (DE.tupI (ds := [_, _]) (de_tup (des_cons de_int (des_cons de_int des_nil)))) ?_)
  rw [← List.map_set]
  have hl : (startV other).length = 10 := by simp [startV]
  have hrx : NB (allL rs 9) ∧ (∀ c ∈ allL rs 9, c.s.toNat < (startV other).length ∧ c.e.toNat < (startV other).length) ∧ (allL rs 9).length ≤ 40 ∧ 12 ≤ 12 ∧ (startV other).length ≤ 100 ∧ Bd 0 (startV other) := ⟨nb_all w (by omega), fun c hc => by
      have := all_ix w c hc
      rw [hl]; omega, by omega, by omega, by omega, bd_start (startV_start (by omega))⟩
  refine db_cons (ds_callO (i := 3) g (c_L_relaxed T) (des_cons (de_call g (c_L_all T) (des_cons (de_slot (i := 0) g rfl) (des_cons de_int des_nil)) ⟨rs, 9, hall, rfl, rfl⟩) (des_cons (de_own (i := 3) g rfl) (des_cons de_int des_nil))) rfl rfl ⟨allL rs 9, startV other, 12, pr, hrx, rfl, rfl, rfl, rfl⟩ ?_)
  have hlen : (dueR rs other).1.length = 10 := by
    have : ∀ (n : Nat) (s : RV × Bool), (rxRun (allL rs 9) n s).1.length = s.1.length := fun n s => rxRun_inv (I := fun v => v.length = s.1.length) (fun v b c hc hv => by rw [rxStep_len]; exact hv) n s rfl
    show (rxRun (allL rs 9) 12 (startV other, true)).1.length = 10
    rw [this]; exact hl
  refine db_one (ds_ret (de_ixO (s := 3) (τs := (dueR rs other).1.map tyO) (τ := tyO (dueO rs one other)) (de_own (i := 3) g rfl) rfl (de_slot (i := 1) g rfl) (atI_of (by omega) ?_)) fun v F p => p)
  rw [Int.toNat_natCast, List.getElem?_map]
  unfold dueO
  have hlt : one < (dueR rs other).1.length := by omega
  rw [List.getD_eq_getElem?_getD, List.getElem?_eq_getElem hlt]
  rfl
end
end K35
set_option Elab.async false
set_option linter.all false
set_option maxRecDepth 100000
set_option maxHeartbeats 1000000
set_option exponentiation.threshold 20000
/-! plain: a ratio that is shown is the one that is due -/
namespace K35
open PySem PySem.Spec L2
/-! ### none -/
def NoneOn (ns : List Int) (v : RV) : Prop := ∀ n ∈ ns, 0 ≤ n → v.getD n.toNat none = none
theorem rxStep_none {cs : List Cd} (nb : NB cs) {ns : List Int} (hcl : ∀ c ∈ cs, c.s ∈ ns → c.e ∈ ns) {v : RV} {b : Bool} {c : Cd} (hc : c ∈ cs) (h : NoneOn ns v) : NoneOn ns (rxStep (v, b) c).1 := by
  intro n hn h0
  have nc := nb c hc
  unfold rxStep
  split
  · exact h n hn h0
  rename_i x hx
  split
  · by_cases e : c.s.toNat = n.toNat
    · have es : c.s = n := by have := nc.s0; omega
      have he := hcl c hc (by rw [es]; exact hn)
      have := h _ he nc.e0
      rw [show (v, b).1.getD c.e.toNat none = v.getD c.e.toNat none from rfl, this] at hx
      cases hx
    · show (v.set c.s.toNat _).getD n.toNat none = none
      rw [List.getD_eq_getElem?_getD, List.getElem?_set_ne e, ← List.getD_eq_getElem?_getD]
      exact h n hn h0
  · exact h n hn h0
theorem none_due {rs : List Res} (w : Wf rs) {one other : Nat} (ho : other ≤ 8) {ns : List Int} (h1 : (one : Int) ∈ ns) (h2 : (other : Int) ∉ ns) (hcl : ∀ c ∈ allL rs 9, c.s ∈ ns → c.e ∈ ns) : dueO rs one other = none := by
  have nb := nb_all w (show 9 ≤ 9 by omega)
  have h0 : NoneOn ns (startV other) := fun n hn hn0 => by
    rw [startV_getD (by omega)]
    rw [if_neg]
    intro e
    apply h2
    have : (other : Int) = n := by omega
    rw [this]; exact hn
  have := rxRun_inv (I := NoneOn ns) (cs := allL rs 9) (fun v b c hc hv => rxStep_none nb hcl hc hv) 12 (startV other, true) h0
  have := this one h1 (by omega)
  rwa [Int.toNat_natCast] at this
/-! ### most -/
/-- no value lies below the weights' -/
def LB (D : Nat → Nat) (o : Nat) (v : RV) : Prop := ∀ i x, v.getD i none = some x → 1 ≤ x.1 ∧ 1 ≤ x.2 ∧ D i * x.2 ≤ x.1 * D o
def Tight (D : Nat → Nat) (o : Nat) (v : RV) (i : Nat) : Prop := ∃ x, v.getD i none = some x ∧ x.1 * D o = D i * x.2
structure Small (v : RV) : Prop where
  b : ∀ i x, v.getD i none = some x → x.2 ≤ 2 ^ 1100
theorem lred_frac {t : Nat × Nat} (h1 : 1 ≤ t.1) (h2 : 1 ≤ t.2) (hb : t.2 ≤ 2 ^ 1200) : ∃ g, 1 ≤ g ∧ (lred t).1 * g = t.1 ∧ (lred t).2 * g = t.2 := by
  have eg := lgcd_big (a := t.1) hb
  refine ⟨Nat.gcd t.1 t.2, Nat.gcd_pos_of_pos_left _ (by omega), ?_, ?_⟩
  · unfold lred; rw [eg]; exact Nat.div_mul_cancel (Nat.gcd_dvd_left _ _)
  · unfold lred; rw [eg]; exact Nat.div_mul_cancel (Nat.gcd_dvd_right _ _)
/-- one step: what it does to a value -/
theorem rxStep_val {v : RV} {b : Bool} {c : Cd} (nc : NC c) (hs : c.s.toNat < v.length) (hp : ∀ i x, v.getD i none = some x → 1 ≤ x.1 ∧ 1 ≤ x.2) (sm : Small v) :
    (∀ i, i ≠ c.s.toNat → (rxStep (v, b) c).1.getD i none = v.getD i none) ∧
    ((rxStep (v, b) c).1.getD c.s.toNat none = v.getD c.s.toNat none ∧ (∀ x y, v.getD c.e.toNat none = some x → v.getD c.s.toNat none = some y → y.1 * (c.q.toNat * x.2) ≤ c.p.toNat * x.1 * y.2) ∧ (∀ x, v.getD c.e.toNat none = some x → v.getD c.s.toNat none ≠ none) ∨
     ∃ x z g, v.getD c.e.toNat none = some x ∧ (rxStep (v, b) c).1.getD c.s.toNat none = some z ∧ 1 ≤ g ∧ z.1 * g = c.p.toNat * x.1 ∧ z.2 * g = c.q.toNat * x.2 ∧ 1 ≤ z.1 ∧ 1 ≤ z.2 ∧ ∀ y, v.getD c.s.toNat none = some y → z.1 * y.2 ≤ y.1 * z.2) := by
  have n1 := nc.p1
  have n2 := nc.pk
  have n3 := nc.q1
  have n4 := nc.qk
  cases hE : v.getD c.e.toNat none with
  | none =>
    have e0 : rxStep (v, b) c = (v, b) := by unfold rxStep; rw [show (v, b).1.getD c.e.toNat none = none from hE]
    rw [e0]
    exact ⟨fun i _ => rfl, .inl ⟨rfl, fun x y hx => (by cases hx), fun x hx => (by cases hx)⟩⟩
  | some x =>
    obtain ⟨x1, x2⟩ := hp _ _ hE
    have eU : rxStep (v, b) c = if rxUp (told c x) (v.getD c.s.toNat none) = true then (v.set c.s.toNat (some (lred (told c x))), true) else (v, b) := by
      unfold rxStep
      rw [show (v, b).1.getD c.e.toNat none = some x from hE]
    by_cases hu : rxUp (told c x) (v.getD c.s.toNat none) = true
    · rw [eU, if_pos hu]
      refine ⟨fun i hi => ?_, .inr ?_⟩
      · show (v.set c.s.toNat _).getD i none = _
        rw [getD_set hs, if_neg (fun e => hi e.symm)]
      · have t1 : 1 ≤ (told c x).1 := Nat.mul_le_mul (show 1 ≤ c.p.toNat by omega) x1
        have t2 : 1 ≤ (told c x).2 := Nat.mul_le_mul (show 1 ≤ c.q.toNat by omega) x2
        have tb : (told c x).2 ≤ 2 ^ 1200 := Nat.le_trans (Nat.mul_le_mul (show c.q.toNat ≤ 1000 by omega) (sm.b _ _ hE)) (by decide)
        obtain ⟨g, g1, e1, e2⟩ := lred_frac t1 t2 tb
        obtain ⟨z1, z2⟩ := lred_pos t1 t2
        refine ⟨x, lred (told c x), g, rfl, ?_, g1, e1, e2, z1, z2, fun y hy => ?_⟩
        · show (v.set c.s.toNat _).getD c.s.toNat none = _
          rw [getD_set hs, if_pos rfl]
        · rw [hy] at hu
          have o : (told c x).1 * y.2 < y.1 * (told c x).2 := of_decide_eq_true hu
          have o := Nat.le_of_lt o
          rw [← e1, ← e2] at o
          refine Nat.le_of_mul_le_mul_right (c := g) ?_ (by omega)
          calc (lred (told c x)).1 * y.2 * g = (lred (told c x)).1 * g * y.2 := by ac_rfl
            _ ≤ y.1 * ((lred (told c x)).2 * g) := o
            _ = y.1 * (lred (told c x)).2 * g := by ac_rfl
    · rw [eU, if_neg hu]
      refine ⟨fun i _ => rfl, .inl ⟨rfl, fun x' y hx hy => ?_, fun x' hx hn => ?_⟩⟩
      · cases hx
        rw [hy] at hu
        exact Nat.not_lt.mp fun z => hu (decide_eq_true z)
      · rw [hn] at hu
        exact hu rfl
end K35
set_option Elab.async false
set_option linter.all false
set_option maxRecDepth 100000
set_option maxHeartbeats 1000000
set_option exponentiation.threshold 20000
/-! plain: tight nodes grow -/
namespace K35
open PySem PySem.Spec L2
structure Run (D : Nat → Nat) (o : Nat) (cs : List Cd) (v : RV) : Prop where
  len : v.length = 10
  sim : Sim cs v
  lb : LB D o v
theorem Run.small {D : Nat → Nat} {o : Nat} {cs : List Cd} (nb : NB cs) {v : RV} (h : Run D o cs v) : Small v := ⟨fun i x hx => by
  obtain ⟨_, _, _, _, b⟩ := h.sim.bnd nb (by rw [h.len]; omega) hx
  exact Nat.le_trans b (by decide)⟩
section
variable {D : Nat → Nat} {o : Nat} {cs : List Cd} {v : RV} {b : Bool} {c : Cd}
theorem Run.step (nb : NB cs) (pot : NPot D cs) (hix : ∀ c ∈ cs, c.s.toNat < 10) (hc : c ∈ cs) (h : Run D o cs v) : Run D o cs (rxStep (v, b) c).1 := by
  refine ⟨by rw [rxStep_len]; exact h.len, rxStep_sim nb pot hc (by rw [h.len]; omega) (by rw [h.len]; exact hix c hc) h.sim, ?_⟩
  obtain ⟨k1, k2⟩ := rxStep_val (b := b) (nb c hc) (by rw [h.len]; exact hix c hc) (fun i x hx => ⟨(h.lb i x hx).1, (h.lb i x hx).2.1⟩) (h.small nb)
  intro i x hx
  by_cases e : i = c.s.toNat
  · subst e
    rcases k2 with ⟨e1, _⟩ | ⟨y, z, g, hy, hz, g1, z1, z2, z3, z4, _⟩
    · rw [e1] at hx; exact h.lb _ _ hx
    · rw [hz] at hx; cases hx
      obtain ⟨_, _, l3⟩ := h.lb _ _ hy
      have k := pot.keep c hc
      refine ⟨z3, z4, Nat.le_of_mul_le_mul_right (c := g) ?_ (by omega)⟩
      calc D c.s.toNat * x.2 * g = D c.s.toNat * (x.2 * g) := by ac_rfl
        _ = D c.s.toNat * (c.q.toNat * y.2) := by rw [z2]
        _ = c.q.toNat * D c.s.toNat * y.2 := by ac_rfl
        _ ≤ c.p.toNat * D c.e.toNat * y.2 := Nat.mul_le_mul_right _ k
        _ = c.p.toNat * (D c.e.toNat * y.2) := by ac_rfl
        _ ≤ c.p.toNat * (y.1 * D o) := Nat.mul_le_mul_left _ l3
        _ = c.p.toNat * y.1 * D o := by ac_rfl
        _ = x.1 * g * D o := by rw [z1]
        _ = x.1 * D o * g := by ac_rfl
  · rw [k1 i e] at hx; exact h.lb _ _ hx
theorem Run.tight (nb : NB cs) (pot : NPot D cs) (hix : ∀ c ∈ cs, c.s.toNat < 10) (hc : c ∈ cs) (h : Run D o cs v) {i : Nat} (ht : Tight D o v i) : Tight D o (rxStep (v, b) c).1 i := by
  have h' := h.step (b := b) nb pot hix hc
  obtain ⟨k1, k2⟩ := rxStep_val (b := b) (nb c hc) (by rw [h.len]; exact hix c hc) (fun i x hx => ⟨(h.lb i x hx).1, (h.lb i x hx).2.1⟩) (h.small nb)
  obtain ⟨x, hx, ex⟩ := ht
  by_cases e : i = c.s.toNat
  · subst e
    rcases k2 with ⟨e1, _⟩ | ⟨y, z, g, hy, hz, g1, z1, z2, z3, z4, z5⟩
    · exact ⟨x, by rw [e1]; exact hx, ex⟩
    · refine ⟨z, hz, Nat.le_antisymm ?_ (h'.lb _ _ hz).2.2⟩
      have hx2 := (h.lb _ _ hx).2.1
      refine Nat.le_of_mul_le_mul_right (c := x.2) ?_ (by omega)
      calc z.1 * D o * x.2 = z.1 * x.2 * D o := by ac_rfl
        _ ≤ x.1 * z.2 * D o := Nat.mul_le_mul_right _ (z5 x hx)
        _ = x.1 * D o * z.2 := by ac_rfl
        _ = D c.s.toNat * x.2 * z.2 := by rw [ex]
        _ = D c.s.toNat * z.2 * x.2 := by ac_rfl
  · exact ⟨x, by rw [k1 i e]; exact hx, ex⟩
/-- a tight edge into a tight node -/
theorem Run.grow (nb : NB cs) (pot : NPot D cs) (hix : ∀ c ∈ cs, c.s.toNat < 10) (hc : c ∈ cs) (h : Run D o cs v) (hT : c.q.toNat * D c.s.toNat = c.p.toNat * D c.e.toNat) (ht : Tight D o v c.e.toNat) : Tight D o (rxStep (v, b) c).1 c.s.toNat := by
  obtain ⟨k1, k2⟩ := rxStep_val (b := b) (nb c hc) (by rw [h.len]; exact hix c hc) (fun i x hx => ⟨(h.lb i x hx).1, (h.lb i x hx).2.1⟩) (h.small nb)
  obtain ⟨x, hx, ex⟩ := ht
  have q1 : 1 ≤ c.q.toNat := by have := (nb c hc).q1; omega
  have hx2 := (h.lb _ _ hx).2.1
  rcases k2 with ⟨e1, e2, e3⟩ | ⟨y, z, g, hy, hz, g1, z1, z2, z3, z4, z5⟩
  · cases hy : v.getD c.s.toNat none with
    | none => exact absurd hy (e3 x hx)
    | some y =>
      refine ⟨y, by rw [e1]; exact hy, Nat.le_antisymm ?_ (h.lb _ _ hy).2.2⟩
      have k := e2 x y hx hy
      refine Nat.le_of_mul_le_mul_right (c := c.q.toNat * x.2) ?_ (Nat.mul_pos (by omega) (by omega))
      calc y.1 * D o * (c.q.toNat * x.2) = y.1 * (c.q.toNat * x.2) * D o := by ac_rfl
        _ ≤ c.p.toNat * x.1 * y.2 * D o := Nat.mul_le_mul_right _ k
        _ = c.p.toNat * (x.1 * D o) * y.2 := by ac_rfl
        _ = c.p.toNat * (D c.e.toNat * x.2) * y.2 := by rw [ex]
        _ = c.p.toNat * D c.e.toNat * x.2 * y.2 := by ac_rfl
        _ = c.q.toNat * D c.s.toNat * x.2 * y.2 := by rw [hT]
        _ = D c.s.toNat * y.2 * (c.q.toNat * x.2) := by ac_rfl
  · rw [hx] at hy; cases hy
    refine ⟨z, hz, Nat.eq_of_mul_eq_mul_right (show 0 < g by omega) ?_⟩
    calc z.1 * D o * g = z.1 * g * D o := by ac_rfl
      _ = c.p.toNat * x.1 * D o := by rw [z1]
      _ = c.p.toNat * (x.1 * D o) := by ac_rfl
      _ = c.p.toNat * (D c.e.toNat * x.2) := by rw [ex]
      _ = c.p.toNat * D c.e.toNat * x.2 := by ac_rfl
      _ = c.q.toNat * D c.s.toNat * x.2 := by rw [hT]
      _ = D c.s.toNat * (c.q.toNat * x.2) := by ac_rfl
      _ = D c.s.toNat * (z.2 * g) := by rw [z2]
      _ = D c.s.toNat * z.2 * g := by ac_rfl
/-- a turn -/
theorem fold_run (nb : NB cs) (pot : NPot D cs) (hix : ∀ c ∈ cs, c.s.toNat < 10) : ∀ (ds : List Cd), (∀ d ∈ ds, d ∈ cs) → ∀ s : RV × Bool, Run D o cs s.1 → Run D o cs (ds.foldl rxStep s).1 ∧ (∀ i, Tight D o s.1 i → Tight D o (ds.foldl rxStep s).1 i) ∧ ∀ c ∈ ds, c.q.toNat * D c.s.toNat = c.p.toNat * D c.e.toNat → Tight D o s.1 c.e.toNat → Tight D o (ds.foldl rxStep s).1 c.s.toNat
  | [], _, s, h => ⟨h, fun i hi => hi, fun c hc => nomatch hc⟩
  | d :: ds, hd, s, h => by
    have hdc := hd d (by simp)
    obtain ⟨w, b⟩ := s
    have h1 := h.step (b := b) nb pot hix hdc
    obtain ⟨r1, r2, r3⟩ := fold_run nb pot hix ds (fun x hx => hd x (List.mem_cons_of_mem _ hx)) (rxStep (w, b) d) h1
    rw [List.foldl_cons]
    refine ⟨r1, fun i hi => r2 i (h.tight (b := b) nb pot hix hdc hi), fun c hc hT ht => ?_⟩
    rcases List.mem_cons.mp hc with e | hc
    · subst e
      exact r2 _ (h.grow (b := b) nb pot hix hdc hT ht)
    · exact r3 c hc hT (h.tight (b := b) nb pot hix hdc ht)
end
theorem rxRun_succ' (cs : List Cd) : ∀ (n : Nat) (s : RV × Bool), rxRun cs (n + 1) s = rxTurn cs (rxRun cs n s).1
  | 0, s => rfl
  | n + 1, s => rxRun_succ' cs n (rxTurn cs s.1)
theorem filter_lt {p q : Nat → Bool} : ∀ (l : List Nat), (∀ x ∈ l, p x = true → q x = true) → (∃ x ∈ l, q x = true ∧ p x = false) → (l.filter p).length < (l.filter q).length
  | [], _, ⟨x, hx, _⟩ => nomatch hx
  | a :: l, h, ⟨x, hx, hq, hp⟩ => by
    have hle : ∀ (l : List Nat), (∀ x ∈ l, p x = true → q x = true) → (l.filter p).length ≤ (l.filter q).length := fun l => by
      induction l with
      | nil => intro _; exact Nat.le_refl _
      | cons a l ih =>
        intro h
        have := ih fun x hx => h x (List.mem_cons_of_mem _ hx)
        rw [List.filter_cons, List.filter_cons]
        by_cases ha : p a = true
        · rw [if_pos ha, if_pos (h a (by simp) ha)]; simp; exact this
        · rw [if_neg ha]
          split
          · simp; omega
          · exact this
    have ht := fun x hx => h x (List.mem_cons_of_mem a hx)
    rw [List.filter_cons, List.filter_cons]
    rcases List.mem_cons.mp hx with e | hx
    · subst e
      rw [if_neg (by rw [hp]; exact Bool.false_ne_true), if_pos hq]
      have := hle l ht
      simp; omega
    · have := filter_lt l ht ⟨x, hx, hq, hp⟩
      by_cases ha : p a = true
      · rw [if_pos ha, if_pos (h a (by simp) ha)]; simp; exact this
      · rw [if_neg ha]
        split
        · simp; omega
        · exact this
end K35
set_option Elab.async false
set_option linter.all false
set_option maxRecDepth 100000
set_option maxHeartbeats 1000000
set_option exponentiation.threshold 20000
/-! plain: twelve turns suffice -/
namespace K35
open PySem PySem.Spec L2
inductive TR (D : Nat → Nat) (o : Nat) (cs : List Cd) : Nat → Prop
  | base : TR D o cs o
  | step {c : Cd} : c ∈ cs → c.q.toNat * D c.s.toNat = c.p.toNat * D c.e.toNat → TR D o cs c.e.toNat → TR D o cs c.s.toNat
def tightB (D : Nat → Nat) (o : Nat) (v : RV) (i : Nat) : Bool := match v.getD i none with
  | none => false
  | some x => decide (x.1 * D o = D i * x.2)
theorem tightB_iff {D : Nat → Nat} {o : Nat} {v : RV} {i : Nat} : tightB D o v i = true ↔ Tight D o v i := by
  unfold tightB Tight
  cases h : v.getD i none with
  | none => simp
  | some x => simp
section
variable {D : Nat → Nat} {o : Nat} {cs : List Cd} {v0 : RV}
theorem seq_run (nb : NB cs) (pot : NPot D cs) (hix : ∀ c ∈ cs, c.s.toNat < 10) (h : Run D o cs v0) : ∀ k, Run D o cs (rxRun cs k (v0, true)).1
  | 0 => h
  | k + 1 => by
    rw [rxRun_succ']
    exact (fold_run nb pot hix cs (fun d hd => hd) ((rxRun cs k (v0, true)).1, false) (seq_run nb pot hix h k)).1
theorem seq_mono (nb : NB cs) (pot : NPot D cs) (hix : ∀ c ∈ cs, c.s.toNat < 10) (h : Run D o cs v0) (k : Nat) {i : Nat} (ht : Tight D o (rxRun cs k (v0, true)).1 i) : Tight D o (rxRun cs (k + 1) (v0, true)).1 i := by
  rw [rxRun_succ']
  exact (fold_run nb pot hix cs (fun d hd => hd) ((rxRun cs k (v0, true)).1, false) (seq_run nb pot hix h k)).2.1 i ht
theorem seq_mono' (nb : NB cs) (pot : NPot D cs) (hix : ∀ c ∈ cs, c.s.toNat < 10) (h : Run D o cs v0) {i : Nat} {k : Nat} : ∀ m, Tight D o (rxRun cs k (v0, true)).1 i → Tight D o (rxRun cs (k + m) (v0, true)).1 i
  | 0, ht => ht
  | m + 1, ht => seq_mono nb pot hix h (k + m) (seq_mono' nb pot hix h m ht)
theorem tight_all (nb : NB cs) (pot : NPot D cs) (hix : ∀ c ∈ cs, c.s.toNat < 10) (h : Run D o cs v0) (ho : o < 10) (h0 : Tight D o v0 o) {u : Nat} (hu : TR D o cs u) : Tight D o (rxRun cs 12 (v0, true)).1 u := by
  have grow : ∀ k, ∀ c ∈ cs, c.q.toNat * D c.s.toNat = c.p.toNat * D c.e.toNat → Tight D o (rxRun cs k (v0, true)).1 c.e.toNat → Tight D o (rxRun cs (k + 1) (v0, true)).1 c.s.toNat := fun k c hc hT ht => by
    rw [rxRun_succ']
    exact (fold_run nb pot hix cs (fun d hd => hd) ((rxRun cs k (v0, true)).1, false) (seq_run nb pot hix h k)).2.2 c hc hT ht
  have zero : ∀ k, Tight D o (rxRun cs k (v0, true)).1 o := fun k => by
    have := seq_mono' nb pot hix h (k := 0) k (i := o) h0
    rwa [Nat.zero_add] at this
  have closed : ∀ k, (∀ w < 10, Tight D o (rxRun cs (k + 1) (v0, true)).1 w → Tight D o (rxRun cs k (v0, true)).1 w) → ∀ w, TR D o cs w → Tight D o (rxRun cs k (v0, true)).1 w := fun k hk w hw => by
    induction hw with
    | base => exact zero k
    | step hc hT _ ih => exact hk _ (hix _ hc) (grow k _ hc hT ih)
  have cnt : ∀ k, (∃ j < k, ∀ w < 10, Tight D o (rxRun cs (j + 1) (v0, true)).1 w → Tight D o (rxRun cs j (v0, true)).1 w) ∨ k + 1 ≤ ((List.range 10).filter (tightB D o (rxRun cs k (v0, true)).1)).length := fun k => by
    induction k with
    | zero =>
      right
      exact List.length_pos_of_mem (List.mem_filter.mpr ⟨List.mem_range.mpr ho, tightB_iff.mpr (zero 0)⟩)
    | succ k ih =>
      rcases ih with ⟨j, hj, hc⟩ | hl
      · exact .inl ⟨j, by omega, hc⟩
      · by_cases hc : ∀ w < 10, Tight D o (rxRun cs (k + 1) (v0, true)).1 w → Tight D o (rxRun cs k (v0, true)).1 w
        · exact .inl ⟨k, by omega, hc⟩
        · right
          have : ∃ w, w < 10 ∧ Tight D o (rxRun cs (k + 1) (v0, true)).1 w ∧ ¬ Tight D o (rxRun cs k (v0, true)).1 w := by
            refine Classical.byContradiction fun hn => hc fun w hw ht => Classical.byContradiction fun hx => hn ⟨w, hw, ht, hx⟩
          obtain ⟨w, hw, ht, hx⟩ := this
          have := filter_lt (p := tightB D o (rxRun cs k (v0, true)).1) (q := tightB D o (rxRun cs (k + 1) (v0, true)).1) (List.range 10) (fun x _ hp => tightB_iff.mpr (seq_mono nb pot hix h k (tightB_iff.mp hp))) ⟨w, List.mem_range.mpr hw, tightB_iff.mpr ht, by
            cases q : tightB D o (rxRun cs k (v0, true)).1 w with
            | false => rfl
            | true => exact absurd (tightB_iff.mp q) hx⟩
          omega
  rcases cnt 10 with ⟨j, hj, hc⟩ | hl
  · have := seq_mono' nb pot hix h (k := j) (12 - j) (closed j hc u hu)
    rwa [show j + (12 - j) = 12 by omega] at this
  · have := List.length_filter_le (tightB D o (rxRun cs 10 (v0, true)).1) (List.range 10)
    rw [List.length_range] at this
    omega
end
end K35
set_option Elab.async false
set_option linter.all false
set_option maxRecDepth 100000
set_option maxHeartbeats 1000000
set_option exponentiation.threshold 20000
/-! plain: a ratio that is shown is due -/
namespace K35
open PySem PySem.Spec L2
theorem cond_mem {rs : List Res} (w : Wf rs) {d : PyData} {k : C4} (h : condP rs d = some k) : ∃ c ∈ allL rs 9, k = (c.s, c.e, c.p, c.q) := by
  rcases condP_seen w h with ⟨y, e, h0, h8, rfl⟩ | ⟨c, hc, _, rfl⟩
  · refine ⟨upC y.toNat, ?_, ?_⟩
    · unfold allL
      exact List.mem_append_right _ (List.mem_map.mpr ⟨y.toNat, List.mem_range.mpr (by omega), rfl⟩)
    · show _ = (((y.toNat : Nat) : Int), ((y.toNat : Nat) : Int) + 1, (1 : Int), (1 : Int))
      rw [Int.toNat_of_nonneg h0]
  · refine ⟨c, ?_, rfl⟩
    unfold allL
    exact List.mem_append_left _ hc
theorem tight_nat {D : Int → Int} {cs : List Cd} (nb : NB cs) (P : Pot D cs) {c : Cd} (hc : c ∈ cs) (h : c.q * D c.s = c.p * D c.e) : c.q.toNat * (fun i : Nat => (D i).toNat) c.s.toNat = c.p.toNat * (fun i : Nat => (D i).toNat) c.e.toNat := by
  have n := nb c hc
  obtain ⟨h1, h2⟩ := P.pos c hc
  have e1 : ((c.s.toNat : Nat) : Int) = c.s := Int.toNat_of_nonneg n.s0
  have e2 : ((c.e.toNat : Nat) : Int) = c.e := Int.toNat_of_nonneg n.e0
  simp only [e1, e2]
  have ep : ((c.p.toNat : Nat) : Int) = c.p := by have := n.p1; omega
  have eq : ((c.q.toNat : Nat) : Int) = c.q := by have := n.q1; omega
  have es : (((D c.s).toNat : Nat) : Int) = D c.s := by omega
  have ee : (((D c.e).toNat : Nat) : Int) = D c.e := by omega
  rw [← ep, ← eq, ← es, ← ee] at h
  exact_mod_cast h
section
variable {rs : List Res} {D : Int → Int} {o : Nat}
abbrev ND (D : Int → Int) : Nat → Nat := fun i => (D i).toNat
/-- a walk of which the product is the weights' -/
theorem walk_tr (w : Wf rs) (P : Pot D (allL rs 9)) : ∀ (ds : List PyData) (t k : C4), wkGo rs (some t) ds = some k → 1 ≤ t.2.2.1 → t.2.2.2 * D t.1 ≤ t.2.2.1 * D t.2.1 → k.2.2.2 * D k.1 = k.2.2.1 * D k.2.1 → TR (ND D) o (allL rs 9) k.2.1.toNat → t.1 = k.1 ∧ t.2.2.2 * D t.1 = t.2.2.1 * D t.2.1 ∧ TR (ND D) o (allL rs 9) t.2.1.toNat
  | [], t, k, h, h1, hle, he, hr => by
    cases Option.some.inj h
    exact ⟨rfl, he, hr⟩
  | d :: ds, t, k, h, h1, hle, he, hr => by
    have nb := nb_all w (show 9 ≤ 9 by omega)
    unfold wkGo at h
    cases hc : condP rs d with
    | none => rw [hc] at h; cases h
    | some q =>
      rw [hc] at h
      simp only at h
      obtain ⟨c, hcm, rfl⟩ := cond_mem w hc
      have n := nb c hcm
      have kc := P.keep c hcm
      obtain ⟨pc1, pc2⟩ := P.pos c hcm
      obtain ⟨ts, te, tp, tq⟩ := t
      simp only at h1 hle
      unfold wkStep at h
      simp only at h
      by_cases hq : te = c.s
      · rw [if_pos hq] at h
        subst hq
        simp only at h
        have n1 := n.p1
        have n3 := n.q1
        have m1 : c.q * (tq * D ts) ≤ c.q * (tp * D c.s) := Int.mul_le_mul_of_nonneg_left hle (by omega)
        have m2 : tp * (c.q * D c.s) ≤ tp * (c.p * D c.e) := Int.mul_le_mul_of_nonneg_left kc (by omega)
        have a1 : tq * c.q * D ts = c.q * (tq * D ts) := by rw [Int.mul_comm tq c.q, Int.mul_assoc]
        have a2 : c.q * (tp * D c.s) = tp * (c.q * D c.s) := by rw [← Int.mul_assoc, Int.mul_comm c.q tp, Int.mul_assoc]
        have a3 : tp * c.p * D c.e = tp * (c.p * D c.e) := by rw [Int.mul_assoc]
        obtain ⟨r1, r2, r3⟩ := walk_tr w P ds (ts, c.e, tp * c.p, tq * c.q) k h (mul1 h1 n1) (by simp only; omega) he hr
        simp only at r1 r2 r3
        have b1 : c.q * (tq * D ts) = c.q * (tp * D c.s) := by omega
        have b2 : tp * (c.q * D c.s) = tp * (c.p * D c.e) := by omega
        have c1 : tq * D ts = tp * D c.s := Int.eq_of_mul_eq_mul_left (by omega) b1
        have c2 : c.q * D c.s = c.p * D c.e := Int.eq_of_mul_eq_mul_left (by omega) b2
        exact ⟨r1, c1, .step hcm (tight_nat nb P hcm c2) r3⟩
      · rw [if_neg hq] at h; cases h
theorem walkP_tr (w : Wf rs) (P : Pot D (allL rs 9)) {d : PyData} {k : C4} (h : walkP rs d = some k) (he : k.2.2.2 * D k.1 = k.2.2.1 * D k.2.1) (hr : TR (ND D) o (allL rs 9) k.2.1.toNat) : TR (ND D) o (allL rs 9) k.1.toNat := by
  have nb := nb_all w (show 9 ≤ 9 by omega)
  cases d
  case tuple ds =>
    by_cases hl : 1 ≤ ds.length ∧ ds.length ≤ 40
    · rw [walkP_yes hl] at h
      cases ds with
      | nil => simp at hl
      | cons d ds =>
        unfold wkGo at h
        cases hc : condP rs d with
        | none => rw [hc] at h; cases h
        | some q =>
          rw [hc] at h
          obtain ⟨c, hcm, rfl⟩ := cond_mem w hc
          have kc := P.keep c hcm
          have n := nb c hcm
          have h : wkGo rs (some (c.s, c.e, c.p, c.q)) ds = some k := h
          obtain ⟨r1, r2, r3⟩ := walk_tr w P ds (c.s, c.e, c.p, c.q) k h n.p1 kc he hr
          simp only at r1 r2 r3
          rw [← r1]
          exact .step hcm (tight_nat nb P hcm r2) r3
    · rw [walkP_no hl] at h; cases h
  all_goals cases h
/-- what a fitting list of divisors is -/
theorem divAt_up {ns : List Int} (hne : ns ≠ []) (hu : upOk ns = true) {k : Nat} : divAt ns k ≤ divAt ns (k + 1) := by
  have hl : 0 < ns.length := List.length_pos_iff.mpr hne
  unfold divAt
  by_cases h1 : ((k : Int) + 1) < ns.length
  · rw [if_pos h1, if_pos (by omega)]
    have := List.all_eq_true.mp hu k (List.mem_range.mpr (by omega))
    rw [show ((k : Int) + 1).toNat = k + 1 by omega, Int.toNat_natCast]
    exact of_decide_eq_true this
  · rw [if_neg h1]
    by_cases h2 : (k : Int) < ns.length
    · rw [if_pos h2, Int.toNat_natCast, show ns.length - 1 = k by omega]
      omega
    · rw [if_neg h2]; omega
theorem pot_divs {ns : List Int} (w : Wf rs) (hne : ns ≠ []) (h1 : ∀ n ∈ ns, 1 ≤ n) (hu : upOk ns = true) (hk : keepsL ns (seenL rs) = true) : Pot (divAt ns) (allL rs 9) := by
  have nb := nb_all w (show 9 ≤ 9 by omega)
  have pos : ∀ i : Int, 0 ≤ i → 1 ≤ divAt ns i := fun i h0 => by
    have hl : 0 < ns.length := List.length_pos_iff.mpr hne
    unfold divAt
    split
    · exact h1 _ (getD_mem (by omega))
    · have := h1 _ (getD_mem (xs := ns) (j := ns.length - 1) (by omega)); omega
  refine ⟨fun c hc => ⟨pos _ (nb c hc).s0, pos _ (nb c hc).e0⟩, fun c hc => ?_⟩
  unfold allL at hc
  rcases List.mem_append.mp hc with z | z
  · have := List.all_eq_true.mp hk c z
    simp only [keepsC, Bool.not_eq_true', decide_eq_false_iff_not] at this
    omega
  · obtain ⟨k, hk, rfl⟩ := List.mem_map.mp z
    have := divAt_up hne hu (k := k)
    show (1 : Int) * divAt ns k ≤ 1 * divAt ns (k + 1)
    omega
end
end K35
set_option Elab.async false
set_option linter.all false
set_option maxRecDepth 100000
set_option maxHeartbeats 1000000
set_option exponentiation.threshold 20000
/-! plain: the judge's yes -/
namespace K35
open PySem PySem.Spec L2
theorem frac_eq {a b c d : Nat} (hb : 1 ≤ a) (h : a * d = c * b) (h1 : Nat.gcd a b = 1) (h2 : Nat.gcd c d = 1) (hc : 1 ≤ c) : a = c ∧ b = d := by
  have d1 : a ∣ c := Nat.Coprime.dvd_of_dvd_mul_right (n := b) h1 ⟨d, h.symm⟩
  have d2 : c ∣ a := Nat.Coprime.dvd_of_dvd_mul_right (n := d) h2 ⟨b, h⟩
  have e : a = c := Nat.dvd_antisymm d1 d2
  subst e
  exact ⟨rfl, (Nat.eq_of_mul_eq_mul_left (by omega) h).symm⟩
theorem due_tight {rs : List Res} (w : Wf rs) {D : Int → Int} (P : Pot D (allL rs 9)) {one other : Nat} (h1 : one ≤ 8) (h2 : other ≤ 8) (hpo : 1 ≤ D other) (hpn : 1 ≤ D one) {a b : Nat} (ha : 1 ≤ a) (hg : Nat.gcd a b = 1) (hab : (b : Int) * D one = a * D other) (hr : TR (ND D) other (allL rs 9) one) : dueO rs one other = some (a, b) := by
  have nb := nb_all w (show 9 ≤ 9 by omega)
  have ht := (topN_eq w).2
  have hix : ∀ c ∈ allL rs 9, c.s.toNat < 10 := fun c hc => by have := (all_ix w c hc).1; omega
  have hl : (startV other).length = 10 := by simp [startV]
  have st := startV_start (other := other) (by omega)
  have run : Run (ND D) other (allL rs 9) (startV other) := ⟨hl, st.sim, fun i x hx => by
    have e := st i x hx
    subst e
    rw [startV_getD (by omega)] at hx
    split at hx
    · rename_i e; subst e; exact ⟨Nat.le_refl _, Nat.le_refl _, by omega⟩
    · cases hx⟩
  have h0 : Tight (ND D) other (startV other) other := ⟨(1, 1), by rw [startV_getD (by omega), if_pos rfl], by show 1 * _ = _ * 1; omega⟩
  obtain ⟨x, hx, ex⟩ := tight_all nb (P.nat nb) hix run (by omega) h0 hr
  have hx : dueO rs one other = some x := hx
  have sim := (seq_run nb (P.nat nb) hix run 12).sim
  have len := (seq_run nb (P.nat nb) hix run 12).len
  obtain ⟨gx, x1, x2, _, _⟩ := sim.bnd nb (by rw [len]; omega) hx
  have eo : (((D other).toNat : Nat) : Int) = D other := by omega
  have en : (((D one).toNat : Nat) : Int) = D one := by omega
  have hab' : b * (D one).toNat = a * (D other).toNat := by
    rw [← eo, ← en] at hab
    exact_mod_cast hab
  have ex : x.1 * (D other).toNat = (D one).toNat * x.2 := ex
  have key : x.1 * b = a * x.2 := by
    have p : 0 < (D one).toNat := by omega
    have p2 : 0 < (D other).toNat := by omega
    refine Nat.eq_of_mul_eq_mul_right (show 0 < (D one).toNat * (D other).toNat from Nat.mul_pos p p2) ?_
    calc x.1 * b * ((D one).toNat * (D other).toNat) = (x.1 * (D other).toNat) * (b * (D one).toNat) := by ac_rfl
      _ = ((D one).toNat * x.2) * (a * (D other).toNat) := by rw [ex, hab']
      _ = a * x.2 * ((D one).toNat * (D other).toNat) := by ac_rfl
  obtain ⟨e1, e2⟩ := frac_eq x1 key gx hg ha
  rw [hx, ← e1, ← e2]
theorem eqv_int2 {a b c d : Int} (h : PyData.eqv (.tuple [.int a, .int b]) (.tuple [.int c, .int d]) = true) : a = c ∧ b = d := by
  simp only [PyData.eqv, PyData.eqvAll, Bool.and_eq_true, beq_iff_eq] at h
  exact ⟨h.1, h.2.1⟩
theorem acc_due {rs : List Res} (w : Wf rs) {one other : Nat} (h1 : one ≤ 8) (h2 : other ≤ 8) {ratio value : PyData} (h : accB rs one other ratio value = true) : ratio = encRt (dueO rs one other) := by
  unfold accB at h
  split at h
  · rename_i s x y
    split at h
    · unfold mostB at h
      simp only [Bool.and_eq_true, decide_eq_true_eq] at h
      obtain ⟨hr, hd, h9, hk, hab, hst⟩ := h
      obtain ⟨a, b, rfl, ha, hb, hg⟩ := isRat_inv hr
      obtain ⟨ns, rfl, n1, n20, hn, hu⟩ := okDivs_inv hd
      have hne : ns ≠ [] := fun e => by simp [e] at n1
      have en : nsD (.tuple (ns.map I')) = ns := map_toI ns
      rw [en] at hab
      have hk : keepsL ns (seenL rs) = true := by
        have : keepsL ((ns.map I').map toI) (seenL rs) = true := hk
        rwa [map_toI] at this
      have P := pot_divs w hne hn hu hk
      have pos : ∀ i : Nat, 1 ≤ divAt ns i := fun i => by
        have hl : 0 < ns.length := List.length_pos_iff.mpr hne
        unfold divAt
        split
        · exact hn _ (getD_mem (by omega))
        · have := hn _ (getD_mem (xs := ns) (j := ns.length - 1) (by omega)); omega
      have ea : ((a.toNat : Nat) : Int) = a := by omega
      have eb : ((b.toNat : Nat) : Int) = b := by omega
      have hab : b * divAt ns one = a * divAt ns other := hab
      have tr : TR (ND (divAt ns)) other (allL rs 9) one := by
        by_cases hs : x = .tuple []
        · subst hs
          have hst : (decide ((one : Int) = (other : Int)) && PyData.eqv (.tuple [.int a, .int b]) (.tuple [.int 1, .int 1])) = true := hst
          simp only [Bool.and_eq_true, decide_eq_true_eq] at hst
          have : one = other := by omega
          rw [this]
          exact .base
        · rw [stepsB_at hs] at hst
          cases hw : walkP rs x with
          | none => rw [hw] at hst; cases hst
          | some k =>
            rw [hw] at hst
            simp only [Bool.and_eq_true] at hst
            obtain ⟨e1, e2⟩ := eqv_int2 hst.1
            obtain ⟨o1, o2, o3, o4⟩ := walkP_ok w hw
            obtain ⟨f1, f2⟩ := eqv_int2 hst.2
            have g0 : 0 < Nat.gcd k.2.2.1.toNat k.2.2.2.toNat := Nat.gcd_pos_of_pos_left _ (by omega)
            have m1 : k.2.2.1 = a * (Nat.gcd k.2.2.1.toNat k.2.2.2.toNat : Nat) := by
              rw [← f1, ← Int.natCast_mul, Nat.div_mul_cancel (Nat.gcd_dvd_left _ _)]; omega
            have m2 : k.2.2.2 = b * (Nat.gcd k.2.2.1.toNat k.2.2.2.toNat : Nat) := by
              rw [← f2, ← Int.natCast_mul, Nat.div_mul_cancel (Nat.gcd_dvd_right _ _)]; omega
            have he : k.2.2.2 * divAt ns k.1 = k.2.2.1 * divAt ns k.2.1 := by
              rw [e1, e2]
              generalize ((Nat.gcd k.2.2.1.toNat k.2.2.2.toNat : Nat) : Int) = G at m1 m2
              calc k.2.2.2 * divAt ns one = b * G * divAt ns one := by rw [← m2]
                _ = b * divAt ns one * G := Int.mul_right_comm _ _ _
                _ = a * divAt ns other * G := by rw [hab]
                _ = a * G * divAt ns other := Int.mul_right_comm _ _ _
                _ = k.2.2.1 * divAt ns other := by rw [← m1]
            have := walkP_tr (o := other) w P hw he (by rw [e2, Int.toNat_natCast]; exact .base)
            rw [e1, Int.toNat_natCast] at this
            exact this
      have := due_tight w P h1 h2 (pos other) (pos one) (a := a.toNat) (b := b.toNat) (by omega) hg (by rw [ea, eb]; exact hab) tr
      rw [this]
      show PyData.tuple [.int a, .int b] = .tuple [.int ((a.toNat : Nat) : Int), .int ((b.toNat : Nat) : Int)]
      rw [ea, eb]
    · simp only [Bool.and_eq_true] at h
      obtain ⟨_, hn, h⟩ := h
      have er : ratio = .none := by cases ratio <;> first | rfl | (simp [isN] at hn)
      unfold noneB at h
      split at h
      · rename_i ds
        simp only [Bool.and_eq_true, decide_eq_true_eq, Bool.not_eq_true', decide_eq_false_iff_not] at h
        obtain ⟨_, _, _, hi, ho, hc⟩ := h
        rw [er, none_due w h2 hi ho fun c hcm hs => ?_]
        · rfl
        · have := List.all_eq_true.mp hc c hcm
          simp only [closedC, Bool.or_eq_true, Bool.not_eq_true', decide_eq_false_iff_not, decide_eq_true_eq] at this
          exact this.resolve_left fun z => z hs
      · cases h
  · cases h
end K35
set_option Elab.async false
set_option linter.all false
set_option maxRecDepth 100000
set_option maxHeartbeats 1000000
set_option exponentiation.threshold 20000
/-! the stream -/
namespace K35
open PySem PySem.Spec L2
section
variable {W : Wd} {n : Nat} {df : Bool} {X : Cx} {N : List Str} {sc : Scope} {ρ : List Sl} {sts : List Stmt} {P : Post} {a b : Expr} {pos : Pos} {i j : Int}
theorem de_pow (ha : DE X a ρ (Is (.int i))) (hb : DE X b ρ (Is (.int j))) (h : CPow i j) : DE X (.BinOp a .Pow b pos) ρ (Is (.int (i ^ j.toNat))) := de_op op_pow ha hb (vr_of fun F H x y Q _ _ p1 p2 q => ⟨i, j, is_int p1, is_int p2, h, q _ (Dp.int _)⟩)
/-- statements that meet again -/
theorem db_join {st : Stmt} (J : List Sl → Prop) (h : DS X st ρ { P with nx := J }) (k : ∀ ρ', J ρ' → DB X sts ρ' P) : DB X (st :: sts) ρ P := fun σ F G H D S ok =>
  wss_of (pss_cons ps_w pss_w) (h σ F G H _ S ⟨fun ρ' σ' F' H' z x S' => k ρ' z σ' F' G H' D S' (ok.on x), ok.rt, ok.bk, ok.ct⟩)
/-- one of several own objects: which -/
theorem DB.anyO {α : Type} {f : α → OTy} {ω : OTy} {i : Nat} {p : Addr} (e : ρ[i]? = some (.own p ω)) (hω : ∀ o F, ω.p o F → ∃ a, (f a).p o F) (h : ∀ a, DB X sts (ρ.set i (.own p (f a))) P) : DB X sts ρ P := fun σ F G H D S ok => by
  have hi : i < ρ.length := (List.getElem?_eq_some_iff.mp e).1
  obtain ⟨e1, e2, e3, o, e4, m, e5⟩ := S.own i p ω e
  obtain ⟨a, ea⟩ := hω o F e5
  refine h a σ F G H D ⟨by simp [S.len], S.fh, S.fs, S.gh, fun l τ el => ?_, fun l c ω0 el => ?_, fun l k c ω1 ω2 el ek => ?_⟩ ok
  · by_cases z : i = l
    · subst z; rw [List.getElem?_set_self hi] at el; cases el
    · rw [List.getElem?_set_ne z] at el; exact S.dat l τ el
  · by_cases z : i = l
    · subst z; rw [List.getElem?_set_self hi] at el; cases el
      exact ⟨e1, e2, e3, o, e4, m, ea⟩
    · rw [List.getElem?_set_ne z] at el; exact S.own l c ω0 el
  · have back : ∀ {l : Nat} {ω3 : OTy}, (ρ.set i (.own p (f a)))[l]? = some (.own c ω3) → ∃ ω4, ρ[l]? = some (.own c ω4) := fun {l ω3} el => by
      by_cases z : i = l
      · subst z; rw [List.getElem?_set_self hi] at el; cases el; exact ⟨ω, e⟩
      · rw [List.getElem?_set_ne z] at el; exact ⟨ω3, el⟩
    obtain ⟨q1, r1⟩ := back el
    obtain ⟨q2, r2⟩ := back ek
    exact S.sep l k c q1 q2 r1 r2
end
structure Stm where
  ns : List Int
  c : Int
  k : Int
  len : ns.length ≤ 100000000
  c0 : 0 ≤ c
  k0 : 0 ≤ k
def stmO (s : Stm) : OTy := OL [LstOf (s.ns.map isI), Is (.int s.c), Is (.int s.k)]
def STRM : OTy := ⟨fun o F => ∃ s : Stm, (stmO s).p o F, fun o F F' u ⟨s, h⟩ => ⟨s, (stmO s).up o F F' u h⟩⟩
section
variable {W : Wd}
def S_nx : OTy → List Ty → OTy → Ty → Prop := fun ω τs ω' τ => ∃ (a : Addr) (many : Int), (1 ≤ many ∧ many ≤ 1000000) ∧ ω = STRM ∧ τs = [At a, Is (.int many)] ∧ ω' = STRM ∧ τ = IntP fun d => 0 ≤ d ∧ d < many
theorem c_L_next (T : Txt W) : Cal W "_law_next" 1 ["_law_stream_here", "_law_many"] (spO 0 S_nx) := by
  refine cal_O T.d_L_next sc_L_next (by decide) (fun _ _ _ _ _ _ us hl => match us, hl with | [_, _], _ => rfl) (fun ω τs ω' τ h => by obtain ⟨_, _, _, _, rfl, _⟩ := h; rfl) fun X g a0 ω τs ω' τ h => ?_
  obtain ⟨aa, many, ⟨m1, m2⟩, rfl, rfl, rfl, rfl⟩ := h
  refine DB.anyO (i := 0) (p := a0) (f := stmO) rfl (fun o F h => h) fun s => ?_
  refine db_join (fun ρ' => ∃ (s' : Stm) (s2 s3 s4 : Sl), ρ' = [.own a0 (stmO s'), .dat (Is (.int many)), s2, s3, s4]) ?_ ?_
  · refine ds_ifE (dt_cmp op_eq (de_ixO (s := 0) (de_own (i := 0) g rfl) rfl de_int rfl) de_int vr_eqI) (fun z => ?_) (fun z => db_nil ⟨s, _, _, _, rfl⟩)
    refine db_cons (ds_set (i := 2) (τ := Is (.int s.k)) g (de_ixO (s := 0) (de_own (i := 0) g rfl) rfl de_int rfl) ?_)
    refine db_cons (ds_set (i := 3) g (de_add de_int (de_slot (i := 2) g rfl)) ?_)
    have hk0 := s.k0
    have hln := s.len
    refine db_join (fun ρ' => ∃ cell : Int, ρ' = [.own a0 (stmO s), .dat (Is (.int many)), .dat (Is (.int s.k)), .dat (Is (.int cell)), .un] ∧ 0 ≤ cell ∧ (cell < 10 ^ 18 → s.k < 10 ^ 18)) ?_ ?_
    · refine ds_ifE (dt_cmp op_lt (de_slot (i := 2) g rfl) (de_lenL g T.b_len (de_ixO (s := 0) (τ := LstOf (s.ns.map isI)) (de_own (i := 0) g rfl) rfl de_int rfl)) vr_lt) (fun z => ?_) (fun z => db_nil ⟨7 + s.k, rfl, by omega, fun h => by omega⟩)
      have hk : s.k < s.ns.length := by simpa using z
      have hx : atI (s.ns.map isI) s.k = some (isI (s.ns.getD s.k.toNat 0)) := atI_of hk0 (by
        have hl : s.k.toNat < s.ns.length := by omega
        rw [List.getElem?_map, List.getElem?_eq_getElem hl, List.getD_eq_getElem?_getD, List.getElem?_eq_getElem hl]; rfl)
      refine db_one (ds_set (i := 3) (τ := Is (.int ((s.ns.getD s.k.toNat 0).natAbs : Int))) g (DE.ofInt (de_absP (P1 := fun z => z = s.ns.getD s.k.toNat 0) (P2 := fun z => z = ((s.ns.getD s.k.toNat 0).natAbs : Int)) g T.b_abs (DE.intP (de_ixL (de_ixO (s := 0) (τ := LstOf (s.ns.map isI)) (de_own (i := 0) g rfl) rfl de_int rfl) (de_slot (i := 2) g rfl) hx) rfl) (fun i hi => by rw [hi])) (fun z hz => hz)) ?_)
      exact ⟨_, rfl, by omega, fun _ => by omega⟩
    rintro ρ' ⟨cell, rfl, hc0, hck⟩
    refine db_join (fun ρ' => ∃ cell : Int, ρ' = [.own a0 (stmO s), .dat (Is (.int many)), .dat (Is (.int s.k)), .dat (Is (.int cell)), .un] ∧ 0 ≤ cell) ?_ ?_
    · refine ds_ifE (dt_cmp op_lt (de_slot (i := 3) g rfl) (de_pow de_int de_int ⟨by decide, by decide, by decide⟩) vr_lt) (fun z => ?_) (fun z => db_nil ⟨cell, rfl, hc0⟩)
      have hcl : cell < 10 ^ 18 := of_decide_eq_true z
      have hkl := hck hcl
      refine db_cons (ds_set (i := 3) (τ := Is (.int ((cell * 48271 + s.k * 69621 + 11) % 2147483647))) g (de_mod (DE.ofInt (de_intP (P1 := fun z => z = cell * 48271 + s.k * 69621 + 11) g T.b_int (DE.intP (de_add (de_add (de_mul (de_slot (i := 3) g rfl) de_int (by first | assumption | (refine .inl ⟨?_, ?_⟩ <;> omega) | (refine .inr ⟨?_, ?_⟩ <;> omega))) (de_mul (de_slot (i := 2) g rfl) de_int (by first | assumption | (refine .inl ⟨?_, ?_⟩ <;> omega) | (refine .inr ⟨?_, ?_⟩ <;> omega)))) de_int) rfl)) (fun z hz => hz)) de_int (by decide)) ?_)
      generalize hc2 : (cell * 48271 + s.k * 69621 + 11) % 2147483647 = c2
      have c20 : 0 ≤ c2 ∧ c2 < 2147483647 := by omega
      refine db_one (ds_set (i := 3) (τ := Is (.int ((c2 * 16807 + 13) % 2147483647 * 65537 + c2))) g (de_add (de_mul (de_mod (DE.ofInt (de_intP (P1 := fun z => z = c2 * 16807 + 13) g T.b_int (DE.intP (de_add (de_mul (de_slot (i := 3) g rfl) de_int (by first | assumption | (refine .inl ⟨?_, ?_⟩ <;> omega) | (refine .inr ⟨?_, ?_⟩ <;> omega))) de_int) rfl)) (fun z hz => hz)) de_int (by decide)) de_int (.inr ⟨by decide, by decide⟩)) (de_slot (i := 3) g rfl)) ?_)
      exact ⟨_, rfl, by omega⟩
    rintro ρ' ⟨cell, rfl, hc0⟩
    refine db_cons (ds_store (s := 0) (m := 1) (τ := Is (.int cell)) g rfl de_int (by show 1 < 3; decide) (de_slot (i := 3) g rfl) ?_)
    refine db_one (ds_store (s := 0) (m := 2) (τ := Is (.int (s.k + 1))) g rfl de_int (by show 2 < 3; decide) (de_add (de_slot (i := 2) g rfl) de_int) ?_)
    exact ⟨⟨s.ns, cell, s.k + 1, s.len, hc0, by omega⟩, _, _, _, rfl⟩
  rintro ρ' ⟨s', s2, s3, s4, rfl⟩
  have hc0 := s'.c0
  refine db_cons (ds_set (i := 4) (τ := Is (.int (s'.c % many))) g (de_mod (DE.ofInt (de_intP (P1 := fun z => z = s'.c) g T.b_int (DE.intP (de_ixO (s := 0) (τ := Is (.int s'.c)) (de_own (i := 0) g rfl) rfl de_int rfl) rfl)) (fun z hz => hz)) (de_slot (i := 1) g rfl) (by omega)) ?_)
  refine db_cons (ds_store (s := 0) (m := 1) (τ := Is (.int (s'.c / many))) g rfl de_int (by show 1 < 3; decide) (de_fdivW (de_ixO (s := 0) (τ := Is (.int s'.c)) (de_own (i := 0) g rfl) rfl de_int rfl) (de_slot (i := 1) g rfl) ⟨by omega, by
    have := nlog (x := many.natAbs) (n := 20) (by
      have e : (2 : Nat) ^ 20 = 1048576 := by decide
      omega)
    omega⟩) ?_)
  refine DB.anyO (i := 0) (p := a0) (f := fun _ : Unit => STRM) (ω := stmO ⟨s'.ns, s'.c / many, s'.k, s'.len, Int.ediv_nonneg hc0 (by omega), s'.k0⟩) rfl (fun o F h => ⟨(), _, h⟩) fun _ => ?_
  refine db_one (ds_ret (de_slot (i := 4) g rfl) fun v F p => ⟨⟨_, ⟨s'.c % many, rfl, Int.emod_nonneg _ (by omega), Int.emod_lt_of_pos _ (by omega)⟩, p⟩, rfl⟩)
end
end K35
set_option Elab.async false
set_option linter.all false
set_option maxRecDepth 100000
set_option maxHeartbeats 1000000
set_option exponentiation.threshold 20000
/-! drawn: divisors, votes -/
namespace K35
open PySem PySem.Spec L2
section
variable {W : Wd} {n : Nat} {df : Bool} {X : Cx} {N : List Str} {sc : Scope} {ρ : List Sl} {sts : List Stmt} {P : Post} {a b : Expr} {pos : Pos} {i j : Int} {τ : Ty} {τs : List Ty}
/-- a list at an index that is drawn -/
theorem de_ixLx {Pi : Int → Prop} (hv : DE X a ρ (LstOf τs)) (hi : DE X b ρ (IntP Pi)) (h : ∀ i, Pi i → ∃ τ', atI τs i = some τ' ∧ ∀ v F, τ'.p v F → τ.p v F) (hs : PlainIx b := by exact fun _ _ => rfl) : DE X (.Subscript a b pos) ρ τ := fun σ F G H Q S q =>
  we_of (pe_ix ix_list pe_w pe_w hs) (hv σ F G H _ S fun v F1 H1 x1 S1 p1 => hi σ F1 G H1 _ S1 fun u F2 H2 x2 S2 p2 => by
    obtain ⟨t, vs, rfl, hr, pv⟩ := (LstOf τs).up _ _ _ x2.up p1
    obtain ⟨k, rfl, hk⟩ := intP_get p2
    obtain ⟨τ', e, hτ⟩ := h k hk
    obtain ⟨z, ez, pz⟩ := atI_all2 pv e
    exact ⟨t, vs, k, z, rfl, rfl, .inl (S2.fh _ _ True.intro hr), ez, q z F2 H2 (x1.trans x2) S2 (hτ _ _ pz)⟩)
theorem tupEx {Pd : PyData → Prop} {m : Nat} {v : V} {F : Hp} (h : (TupOf (List.replicate m (Ex Pd))).p v F) : ∃ ds : List PyData, ds.length = m ∧ (∀ d ∈ ds, Pd d) ∧ (Is (.tuple ds)).p v F := by
  obtain ⟨t, vs, e, hr, pv⟩ := h
  obtain ⟨ds, h1, h2, h3⟩ := exL pv
  exact ⟨ds, h1, h2, tup_is.mp ⟨t, vs, e, hr, h3⟩⟩
theorem intsDs {Pi : Int → Prop} : ∀ {ds : List PyData}, (∀ d ∈ ds, ∃ i, d = .int i ∧ Pi i) → ∃ ns : List Int, ds = ns.map I' ∧ ∀ x ∈ ns, Pi x
  | [], _ => ⟨[], rfl, fun x hx => nomatch hx⟩
  | d :: ds, h => by
    obtain ⟨i, e, hi⟩ := h d (by simp)
    obtain ⟨ns, e2, hn⟩ := intsDs (ds := ds) fun y hy => h y (List.mem_cons_of_mem _ hy)
    exact ⟨i :: ns, by rw [e, e2]; rfl, fun y hy => (List.mem_cons.mp hy).elim (fun z => z ▸ hi) (hn y)⟩
end
def DivOK (d : PyData) : Prop := ∃ ns : List Int, d = .tuple (ns.map I') ∧ ns ≠ [] ∧ ∀ x ∈ ns, 1 ≤ x ∧ x ≤ 100
section
variable {W : Wd}
def S_dv : OTy → List Ty → OTy → Ty → Prop := fun ω τs ω' τ => ∃ (a : Addr), ω = STRM ∧ τs = [At a] ∧ ω' = STRM ∧ τ = Ex DivOK
theorem c_L_divisors (T : Txt W) : Cal W "_law_divisors" 2 ["_law_stream_here"] (spO 0 S_dv) := by
  refine cal_O T.d_L_divisors sc_L_divisors (by decide) (fun _ _ _ _ _ _ us hl => match us, hl with | [_], _ => rfl) (fun ω τs ω' τ h => by obtain ⟨_, _, rfl, _⟩ := h; rfl) fun X g a0 ω τs ω' τ h => ?_
  obtain ⟨aa, rfl, rfl, rfl, rfl⟩ := h
  refine db_cons (ds_setF (i := 1) g (df_lst des_nil) fun pf => ?_)
  refine db_cons (ds_set (i := 2) (τ := IntP fun h => 0 ≤ h ∧ h ≤ 3 * (0 : Nat)) g (DE.intP de_int ⟨by decide, by decide⟩) ?_)
  refine db_cons (ds_for g (di_rangeP (Pm := fun m => 2 ≤ m ∧ m ≤ 5) g T.b_range (DE.imp (de_addP (P1 := fun z => z = 2) (P2 := fun d => 0 ≤ d ∧ d < 4) (P3 := fun z => 2 ≤ z ∧ z ≤ 5) (DE.intP de_int rfl) (de_callO (i := 0) g (c_L_next T) (des_cons (de_own (i := 0) g rfl) (des_cons de_int des_nil)) rfl rfl ⟨_, _, (by first | exact ⟨by decide, by decide⟩ | exact ⟨by omega, by omega⟩ | assumption), rfl, rfl, rfl, rfl⟩) (fun i j hi hj => by omega)) fun d ⟨i, e, h2, h5⟩ => ⟨i.toNat, by rw [e, Int.toNat_of_nonneg (by omega)], by omega, by omega⟩)) fun ys hy => ⟨fun i ρ' => ∃ s3 : Sl, ρ' = [.own a0 STRM, .own pf (OL (List.replicate i (IntP fun x => 1 ≤ x ∧ x ≤ 100))), .dat (IntP fun h => 0 ≤ h ∧ h ≤ 3 * (i : Nat)), s3], ⟨_, rfl⟩, ?_, ?_⟩)
  · rintro i y ρ' ey ⟨s3, rfl⟩
    obtain ⟨m, rfl, hm⟩ := hy
    obtain ⟨i', ei, rfl⟩ := map_get ey
    have hi : i < 5 := by have := (List.getElem?_eq_some_iff.mp ei).1; simp at this; omega
    refine (dg_name (i := 3) g (by first | exact .inl rfl | exact .inr ⟨rfl, rfl⟩) rfl (lt_of_get rfl) ?_)
    refine db_cons (ds_set (i := 2) (τ := IntP fun h => 0 ≤ h ∧ h ≤ 3 * ((i + 1 : Nat) : Int)) g (de_addP (P1 := fun h => 0 ≤ h ∧ h ≤ 3 * (i : Nat)) (P2 := fun z => 0 ≤ z ∧ z ≤ 3) (de_slot (i := 2) g rfl) (de_ixLx (τ := IntP fun z => 0 ≤ z ∧ z ≤ 3) (DF.lst (df_lst (des_cons de_int (des_cons de_int (des_cons de_int (des_cons de_int (des_cons de_int des_nil))))))) (de_callO (i := 0) g (c_L_next T) (des_cons (de_own (i := 0) g rfl) (des_cons de_int des_nil)) rfl rfl ⟨_, _, (by first | exact ⟨by decide, by decide⟩ | exact ⟨by omega, by omega⟩ | assumption), rfl, rfl, rfl, rfl⟩) fun z hz => ?_) (fun i j hi hj => by omega)) ?_)
    · obtain ⟨z0, z5⟩ := hz
      have : z = 0 ∨ z = 1 ∨ z = 2 ∨ z = 3 ∨ z = 4 := by omega
      rcases this with rfl | rfl | rfl | rfl | rfl <;> exact ⟨_, rfl, fun v F p => ⟨_, ⟨_, rfl, by decide, by decide⟩, p⟩⟩
    refine db_one (ds_append (s := 1) (τ := IntP fun x => 1 ≤ x ∧ x ≤ 100) g rfl (de_max2P (P1 := fun z => z = 1) (P2 := fun h => 0 ≤ h ∧ h ≤ 3 * ((i + 1 : Nat) : Int)) g T.b_max (DE.intP de_int rfl) (de_slot (i := 2) g rfl) fun i j hi hj => by omega) (by rw [List.length_replicate]; omega) ?_)
    exact ⟨_, by rw [List.replicate_succ']; rfl⟩
  · rintro ρ' ⟨s3, rfl⟩
    obtain ⟨m, rfl, hm⟩ := hy
    have el : (intsT m).length = m := by simp [intsT]
    rw [el]
    refine DB.freezeL (i := 1) (p := pf) ?_ rfl
    refine db_one (ds_ret (de_tupleOfL g T.b_tuple (de_slot (i := 1) g rfl)) fun v F p => ⟨?_, rfl⟩)
    obtain ⟨ds, e1, e2, p⟩ := tupEx p
    obtain ⟨ns, rfl, hn⟩ := intsDs e2
    exact ⟨_, ⟨ns, rfl, fun e => by subst e; simp at e1; omega, hn⟩, p⟩
end
end K35
set_option Elab.async false
set_option linter.all false
set_option maxRecDepth 100000
set_option maxHeartbeats 1000000
set_option exponentiation.threshold 20000
/-! drawn: votes -/
namespace K35
open PySem PySem.Spec L2
section
variable {W : Wd} {n : Nat} {df : Bool} {X : Cx} {N : List Str} {sc : Scope} {ρ : List Sl} {y : Str} {pos : Pos}
/-- a comprehension over a range of a drawn length, every item of one type -/
theorem df_rep {elt it : Expr} {scope : Scope} {v : Nat} {pt : Pos} {τ : Ty} {Pm : Nat → Prop} (g : Good W n df X N sc) (hb : blkC N sc scope [(y, v)] = true) (hi : DI X (.Name y pt) it ρ (fun ys => ∃ m : Nat, ys = intsT m ∧ Pm m)) (hz : ∀ m, Pm m → m ≤ 1000) (hno : ∃ s, ρ[v]? = some s ∧ s.noOwn = true)
    (h2 : ∀ k : Nat, ∀ X', Good W n false X' N (relS scope sc) → DE X' elt (ρ.set v (.dat (natI k))) τ)
    (hN : N[v]? = some y := by rfl) (hv : v < ρ.length := by first | decide | assumption | exact lt_of_get rfl) (hx : (relS scope sc).names.lookup y = some .local := by rfl) (hs : ∀ x, foldedSetIterable it X.env x = pure x := by intro _; rfl) : DF X (.ListComp elt [⟨.Name y pt, it, [], 0⟩] scope pos) ρ (OLx fun ts => ∃ m, Pm m ∧ ts = List.replicate m τ) :=
  df_lcG (own := [(y, v)]) g hb hi (fun i hi a ω => by
    have : i = v := by simpa using hi
    subst this; exact noOwn_of hno a ω) (fun ys hy => by
    obtain ⟨m, rfl, hm⟩ := hy
    have hl : (intsT m).length = m := by simp [intsT]
    refine ⟨by rw [hl]; have := hz m hm; omega, fun i ts => ts = List.replicate i τ, rfl, fun i ts e => by rw [e, List.length_replicate]; exact Nat.le_refl _, fun i z ts ez e => ?_, fun ts e => ⟨m, hm, by rw [e, hl]⟩⟩
    obtain ⟨k, ek, rfl⟩ := map_get ez
    refine ⟨ρ.set v (.dat (natI k)), fun j hj => List.getElem?_set_ne fun e => hj (by simp [e]), fun X' g' => cg_name g' (by simp) (by show (ρ.set v .un).set v _ = _; rw [List.set_set]; rfl) hN (by rw [wipeL_len]; exact hv) hx, fun c => c = true, fun X' g' => dts_nil, fun _ => ⟨τ, h2 k, by show ts ++ [τ] = List.replicate (i + 1) τ; rw [show ts = List.replicate i τ from e, List.replicate_succ']⟩, fun z => nomatch z⟩) hs
theorem froz_rep {τ : Ty} {Pm : Nat → Prop} {v : V} {F : Hp} (h : (Froz (OLx fun ts => ∃ m, Pm m ∧ ts = List.replicate m τ)).p v F) : (Some' fun (q : { m : Nat // Pm m }) => LstOf (List.replicate q.1 τ)).p v F := by
  obtain ⟨a, o, e, pl, r, ts, ⟨m, hm, rfl⟩, q⟩ := h
  exact ⟨⟨m, hm⟩, froz_ol ⟨a, o, e, pl, r, q⟩⟩
end
def VotOK (d : PyData) : Prop := ∃ v : List Int, d = .tuple (v.map I') ∧ 1 ≤ v.length ∧ v.length ≤ 3 ∧ ∀ x ∈ v, 1 ≤ x ∧ x ≤ 1000
section
variable {W : Wd}
def S_vo : OTy → List Ty → OTy → Ty → Prop := fun ω τs ω' τ => ∃ (a : Addr), ω = STRM ∧ τs = [At a, Is (.int 3)] ∧ ω' = STRM ∧ τ = Ex VotOK
theorem c_L_votes (T : Txt W) : Cal W "_law_votes" 2 ["_law_stream_here", "_law_most"] (spO 0 S_vo) := by
  refine cal_O T.d_L_votes sc_L_votes (by decide) (fun _ _ _ _ _ _ us hl => match us, hl with | [_, _], _ => rfl) (fun ω τs ω' τ h => by obtain ⟨_, _, rfl, _⟩ := h; rfl) fun X g a0 ω τs ω' τ h => ?_
  obtain ⟨aa, rfl, rfl, rfl, rfl⟩ := h
  refine db_cons (ds_set (i := 2) (τ := IntP fun z => 1 ≤ z ∧ z ≤ 1000) g (de_ixLx (DF.lst (df_lst (des_cons de_int (des_cons de_int (des_cons de_int (des_cons de_int des_nil)))))) (de_callO (i := 0) g (c_L_next T) (des_cons (de_own (i := 0) g rfl) (des_cons de_int des_nil)) rfl rfl ⟨_, _, (by first | exact ⟨by decide, by decide⟩ | exact ⟨by omega, by omega⟩ | assumption), rfl, rfl, rfl, rfl⟩) fun z hz => ?_) ?_)
  · obtain ⟨z0, z5⟩ := hz
    have : z = 0 ∨ z = 1 ∨ z = 2 ∨ z = 3 := by omega
    rcases this with rfl | rfl | rfl | rfl <;> exact ⟨_, rfl, fun v F p => ⟨_, ⟨_, rfl, by decide, by decide⟩, p⟩⟩
  refine DB.ex (i := 2) rfl fun d hd => ?_
  obtain ⟨t, rfl, t1, t2⟩ := hd
  refine db_one (ds_ret (de_tupleOfS (f := fun (q : { m : Nat // 1 ≤ m ∧ m ≤ 3 }) => List.replicate q.1 (IntP fun x => 1 ≤ x ∧ x ≤ 1000)) g T.b_tuple ((df_rep (v := 3) (Pm := fun m => 1 ≤ m ∧ m ≤ 3) (τ := IntP fun x => 1 ≤ x ∧ x ≤ 1000) g (by decide +kernel) (di_rangeP (Pm := fun m => 1 ≤ m ∧ m ≤ 3) g T.b_range (DE.imp (de_addP (P1 := fun z => z = 1) (P2 := fun d => 0 ≤ d ∧ d < 3) (P3 := fun z => 1 ≤ z ∧ z ≤ 3) (DE.intP de_int rfl) (de_callO (i := 0) g (c_L_next T) (des_cons (de_own (i := 0) g rfl) (des_cons (de_slot (i := 1) g rfl) des_nil)) rfl rfl ⟨_, _, (by first | exact ⟨by decide, by decide⟩ | exact ⟨by omega, by omega⟩ | assumption), rfl, rfl, rfl, rfl⟩) (fun i j hi hj => by omega)) fun d ⟨i, e, h2, h5⟩ => ⟨i.toNat, by rw [e, Int.toNat_of_nonneg (by omega)], by omega, by omega⟩)) (fun m hm => by omega) ⟨_, rfl, rfl⟩ fun k X' g' => ?_).dat.sub fun v F p => froz_rep p)) fun v F p => ⟨?_, rfl⟩)
  · exact de_addP (P1 := fun z => z = 1) (P2 := fun d => 0 ≤ d ∧ d < t) (DE.intP de_int rfl) (de_callO (i := 0) g' (c_L_next T) (des_cons (de_own (i := 0) g' rfl) (des_cons (de_slot (i := 2) g' rfl) des_nil)) rfl rfl ⟨_, _, (by first | exact ⟨by decide, by decide⟩ | exact ⟨by omega, by omega⟩ | assumption), rfl, rfl, rfl, rfl⟩) (fun i j hi hj => by omega)
  · obtain ⟨⟨m, hm⟩, p⟩ := p
    obtain ⟨ds, e1, e2, p⟩ := tupEx p
    obtain ⟨ns, rfl, hn⟩ := intsDs e2
    rw [List.length_map] at e1
    have e1 : ns.length = m := e1
    exact ⟨_, ⟨ns, rfl, by omega, by omega, hn⟩, p⟩
end
end K35
set_option Elab.async false
set_option linter.all false
set_option maxRecDepth 100000
set_option maxHeartbeats 1000000
set_option exponentiation.threshold 20000
/-! drawn: seats -/
namespace K35
open PySem PySem.Spec L2
theorem swF {W : Wd} {n : Nat} {df : Bool} {X : Cx} {N : List Str} {sc : Scope} {elt : Expr} {gs : List Comprehension} {scope : Scope} {pos py : Pos} {y : Str} {l : Nat} (g : Good W n df X N sc) (hy : (sc.names.lookup y == some .local) = false) : swapsWith (.ListComp elt gs scope pos) (some (.Name y py)) l X.env = pure false := by
  have ky : (X.env.kindOf y == some .local) = false := by unfold Env.kindOf; rw [g.es]; exact hy
  unfold swapsWith
  simp only [ky, Bool.and_false, Bool.false_and]
section
variable {W : Wd} {n : Nat} {df : Bool} {X : Cx} {N : List Str} {sc : Scope} {ρ : List Sl} {sts : List Stmt} {P : Post} {a b : Expr} {pos : Pos} {τ : Ty} {τs : List Ty}
/-- an own list at an index that is drawn -/
theorem de_ixOx {Pi : Int → Prop} {s : Nat} {o1 : Addr} (hv : DE X a ρ (At o1)) (hs' : ρ[s]? = some (.own o1 (OL τs))) (hi : DE X b ρ (IntP Pi)) (h : ∀ i, Pi i → ∃ τ', atI τs i = some τ' ∧ ∀ v F, τ'.p v F → τ.p v F) (hs : PlainIx b := by exact fun _ _ => rfl) : DE X (.Subscript a b pos) ρ τ := fun σ F G H Q S q =>
  we_of (pe_ix ix_list pe_w pe_w hs) (hv σ F G H _ S fun v F1 H1 x1 S1 p1 => hi σ F1 G H1 _ S1 fun u F2 H2 x2 S2 p2 => by
    have ev : v = .ref o1 := p1
    subst ev
    obtain ⟨_, _, _, o, y4, _, vs, eo, pv⟩ := S2.own s o1 _ hs'
    subst eo
    obtain ⟨k, rfl, hk⟩ := intP_get p2
    obtain ⟨τ', e, hτ⟩ := h k hk
    obtain ⟨z, ez, pz⟩ := atI_all2 pv e
    exact ⟨o1, vs, k, z, rfl, rfl, .inl (.inl y4), ez, q z F2 H2 (x1.trans x2) S2 (hτ _ _ pz)⟩)
end
/-- one that is behind none -/
theorem best_ex {v d : Nat → Int} : ∀ n : Nat, 1 ≤ n → (∀ i < n, 1 ≤ v i ∧ 1 ≤ d i) → ∃ i < n, ∀ j < n, ¬ v i * d j < v j * d i
  | 1, _, h => ⟨0, by omega, fun j hj => by have : j = 0 := by omega
                                            subst this; omega⟩
  | n + 2, _, h => by
    obtain ⟨i, hi, hb⟩ := best_ex (n + 1) (by omega) fun i hi => h i (by omega)
    by_cases q : v i * d (n + 1) < v (n + 1) * d i
    · refine ⟨n + 1, by omega, fun j hj hlt => ?_⟩
      by_cases e : j = n + 1
      · subst e; omega
      · have hji := hb j (by omega)
        obtain ⟨vi, di⟩ := h i (by omega)
        obtain ⟨vn, dn⟩ := h (n + 1) (by omega)
        obtain ⟨vj, dj⟩ := h j (by omega)
        -- v(n+1) d j < v j d(n+1), v i d(n+1) < v(n+1) d i, v j d i <= v i d j
        have a1 : v j * d i ≤ v i * d j := by omega
        have b1 : v j * d i * d (n + 1) ≤ v i * d j * d (n + 1) := Int.mul_le_mul_of_nonneg_right a1 (by omega)
        have b2 : v i * d (n + 1) * d j ≤ v (n + 1) * d i * d j := Int.mul_le_mul_of_nonneg_right (by omega) (by omega)
        have b3 : v (n + 1) * d j * d i < v j * d (n + 1) * d i := Int.mul_lt_mul_of_pos_right hlt (by omega)
        have e1 : v i * d j * d (n + 1) = v i * d (n + 1) * d j := Int.mul_right_comm _ _ _
        have e2 : v (n + 1) * d i * d j = v (n + 1) * d j * d i := Int.mul_right_comm _ _ _
        have e3 : v j * d (n + 1) * d i = v j * d i * d (n + 1) := Int.mul_right_comm _ _ _
        omega
    · refine ⟨i, by omega, fun j hj => ?_⟩
      by_cases e : j = n + 1
      · subst e; exact q
      · exact hb j (by omega)
def SeatOK (v : List Int) (m : Nat) (s : List Int) : Prop := s.length = v.length ∧ s.sum = m ∧ ∀ x ∈ s, 0 ≤ x ∧ x ≤ m
theorem sum_set : ∀ (s : List Int) (i : Nat), i < s.length → (s.set i (s.getD i 0 + 1)).sum = s.sum + 1
  | [], i, h => by simp at h
  | a :: s, 0, _ => by simp; omega
  | a :: s, i + 1, h => by
    have := sum_set s i (by simpa using h)
    simp only [List.set_cons_succ, List.sum_cons, List.getD_cons_succ] at this ⊢
    omega
theorem SeatOK.next {v s : List Int} {m : Nat} (h : SeatOK v m s) {i : Nat} (hi : i < s.length) : SeatOK v (m + 1) (s.set i (s.getD i 0 + 1)) := by
  obtain ⟨h1, h2, h3⟩ := h
  refine ⟨by rw [List.length_set]; exact h1, by rw [sum_set s i hi, h2]; push_cast; rfl, fun x hx => ?_⟩
  rcases List.mem_or_eq_of_mem_set hx with q | q
  · have := h3 x q; push_cast; omega
  · have := h3 _ (getD_mem hi); rw [q]; push_cast; omega
def aheadB (ns v s : List Int) (one other : Nat) : Bool := decide (v.getD one 0 * divAt ns (s.getD other 0) < v.getD other 0 * divAt ns (s.getD one 0))
def bestB (ns v s : List Int) (one : Nat) : Bool := ((List.range v.length).filter (aheadB ns v s one)).isEmpty
section
variable {W : Wd}
def S_se : OTy → List Ty → OTy → Ty → Prop := fun ω τs ω' τ => ∃ (a : Addr) (ns v : List Int) (h : Nat), (ns ≠ [] ∧ (∀ x ∈ ns, 1 ≤ x ∧ x ≤ 100) ∧ 1 ≤ v.length ∧ v.length ≤ 3 ∧ (∀ x ∈ v, 1 ≤ x ∧ x ≤ 1000) ∧ h ≤ 5) ∧ ω = STRM ∧ τs = [At a, Is (.tuple (ns.map I')), Is (.tuple (v.map I')), Is (.int h)] ∧ ω' = STRM ∧ τ = Ex fun d => ∃ s, d = .tuple (s.map I') ∧ SeatOK v h s
theorem c_L_seated (T : Txt W) : Cal W "_law_seated" 2 ["_law_stream_here", "_law_divisors_here", "_law_votes_here", "_law_house"] (spO 0 S_se) := by
  refine cal_O T.d_L_seated sc_L_seated (by decide) (fun _ _ _ _ _ _ us hl => match us, hl with | [_, _, _, _], _ => rfl) (fun ω τs ω' τ h => by obtain ⟨_, _, _, _, _, _, rfl, _⟩ := h; rfl) fun X g a0 ω τs ω' τ h => ?_
  obtain ⟨aa, ns, v, hh, ⟨hne, hns, v1, v3, hv, h5⟩, rfl, rfl, rfl, rfl⟩ := h
  refine db_cons (ds_setF (i := 4) (ω := OL (v.map fun _ => isI 0)) g (df_map (v := 9) v isI (fun _ => isI 0) g (by decide +kernel) (di_tupM (DE.tupM (de_slot (i := 2) g rfl))) (by omega) ⟨_, rfl, rfl⟩ fun x hx X' g' => de_int) (fun ps => ?_) (hs := swF g (by decide +kernel)))
  have e0 : v.map (fun _ => isI 0) = (List.replicate v.length (0 : Int)).map isI := by rw [List.map_const', List.map_replicate]
  rw [e0]
  refine db_cons (ds_for g (di_rangeM (m := hh) g T.b_range (de_slot (i := 3) g rfl) rfl (by omega)) fun ys hy => ⟨fun i ρ' => ∃ (s : List Int) (s5 s6 s7 s8 s9 s10 : Sl), ρ' = [.own a0 STRM, .dat (Is (.tuple (ns.map I'))), .dat (Is (.tuple (v.map I'))), .dat (Is (.int hh)), .own ps (OL (s.map isI)), s5, s6, s7, s8, s9, s10] ∧ s10.noOwn = true ∧ SeatOK v i s, ⟨_, _, _, _, _, _, _, rfl, rfl, by simp, by simp, fun x hx => by rw [List.eq_of_mem_replicate hx]; omega⟩, ?_, ?_⟩)
  · rintro i y ρ' ey ⟨s, s5, s6, s7, s8, s9, s10, rfl, h10, hs⟩
    subst hy
    obtain ⟨i', ei, rfl⟩ := map_get ey
    have hi : i < hh := by have := (List.getElem?_eq_some_iff.mp ei).1; simpa using this
    have sl := hs.1
    refine (dg_name (i := 5) g (by first | exact .inl rfl | exact .inr ⟨rfl, rfl⟩) rfl (lt_of_get rfl) ?_)
    refine db_cons (ds_setF (i := 6) g (df_lst des_nil) fun pb => ?_)
    refine db_cons (ds_for g (di_rangeM (m := v.length) g T.b_range (de_len g T.b_len (de_slot (i := 2) g rfl)) (by simp) (by omega)) fun ys hy => ⟨fun j ρ' => ∃ (s7 s8 s10 : Sl), ρ' = [.own a0 STRM, .dat (Is (.tuple (ns.map I'))), .dat (Is (.tuple (v.map I'))), .dat (Is (.int hh)), .own ps (OL (s.map isI)), .dat (natI i'), .own pb (OL (((List.range j).filter (bestB ns v s)).map natI)), s7, s8, s9, s10] ∧ s10.noOwn = true, ⟨_, _, _, rfl, h10⟩, ?_, ?_⟩)
    · rintro j y ρ' ey2 ⟨s7, s8, s10, rfl, h10⟩
      subst hy
      obtain ⟨j', ej, rfl⟩ := map_get ey2
      have hj : j < v.length := by have := (List.getElem?_eq_some_iff.mp ej).1; simpa using this
      rw [List.getElem?_range hj] at ej
      cases ej
      refine (dg_name (i := 7) g (by first | exact .inl rfl | exact .inr ⟨rfl, rfl⟩) rfl (lt_of_get rfl) ?_)
      refine db_cons (ds_setFil (v := 10) (i := 8) (List.range v.length) natI (aheadB ns v s j) natI g (by decide +kernel) (di_rangeM (m := v.length) g T.b_range (de_len g T.b_len (de_slot (i := 2) g rfl)) (by simp) (by omega)) (by simp; omega) ⟨_, rfl, h10⟩ (fun k hk X' g' => ?_) (fun k hk hb X' g' => (de_slot (i := 10) g' rfl)) fun pa => ?_)
      · have hk : k < v.length := by simpa using hk
        have sj := hs.2.2 _ (getD_mem (show j < s.length by omega))
        have sk := hs.2.2 _ (getD_mem (show k < s.length by omega))
        have vj := hv _ (getD_mem hj)
        have vk := hv _ (getD_mem hk)
        have xj : atI (s.map isI) (j : Int) = some (isI (s.getD j 0)) := by
          have hl : j < s.length := by omega
          exact atI_of (by omega) (by rw [Int.toNat_natCast, List.getElem?_map, List.getElem?_eq_getElem hl, List.getD_eq_getElem?_getD, List.getElem?_eq_getElem hl]; rfl)
        have xk : atI (s.map isI) (k : Int) = some (isI (s.getD k 0)) := by
          have hl : k < s.length := by omega
          exact atI_of (by omega) (by rw [Int.toNat_natCast, List.getElem?_map, List.getElem?_eq_getElem hl, List.getD_eq_getElem?_getD, List.getElem?_eq_getElem hl]; rfl)
        refine dts_one (dt_cmp op_gt (de_mul (de_ixI (d := I' _) (de_slot (i := 2) g' rfl) (de_slot (i := 10) g' rfl) (atI_I' hk)) (de_call g' (c_L_divisor T) (des_cons (de_slot (i := 1) g' rfl) (des_cons (de_ixO (s := 4) (τ := isI _) (de_own (i := 4) g' rfl) rfl (de_slot (i := 7) g' rfl) xj) des_nil)) ⟨ns, s.getD j 0, ⟨hne, sj.1⟩, rfl, rfl⟩) (.inl ⟨by omega, by omega⟩)) (de_mul (de_ixI (d := I' _) (de_slot (i := 2) g' rfl) (de_slot (i := 7) g' rfl) (atI_I' hj)) (de_call g' (c_L_divisor T) (des_cons (de_slot (i := 1) g' rfl) (des_cons (de_ixO (s := 4) (τ := isI _) (de_own (i := 4) g' rfl) rfl (de_slot (i := 10) g' rfl) xk) des_nil)) ⟨ns, s.getD k 0, ⟨hne, sk.1⟩, rfl, rfl⟩) (.inl ⟨by omega, by omega⟩)) vr_gt)
      refine DB.freezeL (i := 8) (p := pa) ?_ rfl
      have eb : (!(!(((List.range v.length).filter (aheadB ns v s j)).map natI).isEmpty)) = bestB ns v s j := by rw [Bool.not_not, List.isEmpty_map]; rfl
      refine db_one (ds_ifE (b1 := bestB ns v s j) (DT.eqE (dt_notE (dt_lstT (de_slot (i := 8) g rfl))) eb) (fun z => db_one (ds_append (s := 6) (τ := natI j) g rfl (de_slot (i := 7) g rfl) (by
        rw [List.length_map]
        have := List.length_filter_le (bestB ns v s) (List.range j)
        rw [List.length_range] at this
        omega) ?_)) (fun z => db_nil ?_))
      · exact ⟨_, _, _, by rw [filter_succ, if_pos z, List.map_append]; rfl, h10⟩
      · exact ⟨_, _, _, by rw [filter_succ, if_neg (by rw [z]; exact Bool.false_ne_true), List.append_nil]; rfl, h10⟩
    · rintro ρ' ⟨s7, s8, s10, rfl, h10⟩
      subst hy
      rw [List.length_map, List.length_range]
      have dpos : ∀ j < v.length, 1 ≤ v.getD j 0 ∧ 1 ≤ divAt ns (s.getD j 0) := fun j hj => by
        have a1 := hv _ (getD_mem hj)
        have a2 := hs.2.2 _ (getD_mem (show j < s.length by omega))
        have a3 := (divAt_ok hne (fun n hn => (hns n hn).1) (fun n hn => (hns n hn).2) a2.1 (by omega)).1
        exact ⟨a1.1, a3⟩
      obtain ⟨o, ho, hbo⟩ := best_ex (v := fun j => v.getD j 0) (d := fun j => divAt ns (s.getD j 0)) v.length v1 dpos
      have hbst : bestB ns v s o = true := by
        unfold bestB
        rw [List.isEmpty_iff, List.filter_eq_nil_iff]
        intro k hk
        have := hbo k (by simpa using hk)
        unfold aheadB
        simpa using this
      generalize hB : (List.range v.length).filter (bestB ns v s) = B
      have hBl : 1 ≤ B.length ∧ B.length ≤ 3 := by
        rw [← hB]
        have := List.length_filter_le (bestB ns v s) (List.range v.length)
        rw [List.length_range] at this
        exact ⟨List.length_pos_of_mem (List.mem_filter.mpr ⟨List.mem_range.mpr ho, hbst⟩), by omega⟩
      have hBm : ∀ k ∈ B, k < v.length := fun k hk => by
        rw [← hB] at hk
        simpa using (List.mem_filter.mp hk).1
      have hmany : (1 : Int) ≤ ((B.map natI).length : Nat) ∧ (((B.map natI).length : Nat) : Int) ≤ 1000000 := by rw [List.length_map]; omega
      refine db_cons (ds_set (i := 7) (τ := IntP fun z => 0 ≤ z ∧ z < v.length) g (de_ixOx (s := 6) (de_own (i := 6) g rfl) rfl (de_callO (i := 0) g (c_L_next T) (des_cons (de_own (i := 0) g rfl) (des_cons (de_lenO (s := 6) g T.b_len (de_own (i := 6) g rfl) rfl) des_nil)) rfl rfl ⟨_, _, (by first | exact ⟨by decide, by decide⟩ | exact ⟨by omega, by omega⟩ | assumption), rfl, rfl, rfl, rfl⟩) fun z hz => ?_) ?_)
      · obtain ⟨z0, z1⟩ := hz
        rw [List.length_map] at z1
        have hl : z.toNat < B.length := by omega
        refine ⟨natI B[z.toNat], atI_of z0 (by rw [List.getElem?_map, List.getElem?_eq_getElem hl]; rfl), fun v' F p => ⟨_, ⟨_, rfl, ?_⟩, p⟩⟩
        have := hBm _ (List.getElem_mem hl)
        omega
      refine DB.ex (i := 7) rfl fun d hd => ?_
      obtain ⟨z, rfl, z0, z1⟩ := hd
      obtain ⟨u, rfl⟩ : ∃ u : Nat, z = u := ⟨z.toNat, by omega⟩
      have hu : u < s.length := by omega
      have xu : atI (s.map isI) (u : Int) = some (isI (s.getD u 0)) := atI_of (by omega) (by rw [Int.toNat_natCast, List.getElem?_map, List.getElem?_eq_getElem hu, List.getD_eq_getElem?_getD, List.getElem?_eq_getElem hu]; rfl)
      refine db_one (ds_store (s := 4) (m := u) (τ := isI (s.getD u 0 + 1)) g rfl (de_slot (i := 7) g rfl) (by rw [List.length_map]; exact hu) (de_add (de_ixO (s := 4) (τ := isI _) (de_own (i := 4) g rfl) rfl (de_slot (i := 7) g rfl) xu) de_int) ?_)
      exact ⟨s.set u (s.getD u 0 + 1), _, _, _, _, _, _, by rw [List.map_set]; rfl, h10, hs.next hu⟩
  · rintro ρ' ⟨s, s5, s6, s7, s8, s9, s10, rfl, h10, hs⟩
    subst hy
    rw [List.length_map, List.length_range] at hs
    refine DB.freezeL (i := 4) (p := ps) ?_ rfl
    refine db_one (ds_ret (DE.tupMI (xs := s) (f := I') (de_tupleOfL g T.b_tuple (de_slot (i := 4) g rfl))) fun w F p => ⟨⟨_, ⟨s, rfl, hs⟩, p⟩, rfl⟩)
end
end K35
set_option Elab.async false
set_option linter.all false
set_option maxRecDepth 100000
set_option maxHeartbeats 1000000
set_option exponentiation.threshold 20000
/-! promises told otherwise; new objects that a def returns; the stream's start -/
namespace K35
open PySem PySem.Spec L2
section
variable {W : Wd} {n k : Nat} {df : Bool} {X : Cx} {N ps : List Str} {sc : Scope} {ρ : List Sl} {sts : List Stmt} {P : Post} {e a b : Expr} {es : List Expr} {pos p : Pos} {x : Str} {τ : Ty} {τs : List Ty} {ω ω' : OTy} {sp sp' : Sp}
theorem Cal.imp (C : Cal W x k ps sp) (h : ∀ vs H Q E, sp' vs H Q E → sp vs H Q E) : Cal W x k ps sp' := by
  obtain ⟨f, fd, F, a, b, c⟩ := C.ex
  exact ⟨f, fd, F.imp h, a, b, c⟩
theorem Cal.wideO {j : Nat} {S S' : OTy → List Ty → OTy → Ty → Prop} (C : Cal W x k ps (spO j S)) (h : ∀ ω τs ω' τ, S' ω τs ω' τ → ∀ vs F, All2 τs vs F → ∃ τs' τ', S ω τs' ω' τ' ∧ All2 τs' vs F ∧ ∀ v F', τ'.p v F' → τ.p v F') : Cal W x k ps (spO j S') := C.imp fun vs H Q E ⟨a, o, ω, τs, ω', τ, F, hS, up, fs, hj, p, h1, h2, h3, h4, r⟩ => by
  obtain ⟨τs', τ', hS', p', hτ⟩ := h ω τs ω' τ hS vs F p
  exact ⟨a, o, ω, τs', ω', τ', F, hS', up, fs, hj, p', h1, h2, h3, h4, fun v F' H' o' x' ke u' f' ho hm hw pv => r v F' H' o' x' ke u' f' ho hm hw (hτ v F' pv)⟩
theorem Cal.wideP {S S' : List Ty → Ty → Prop} (C : Cal W x k ps (spP S)) (h : ∀ τs τ, S' τs τ → ∀ vs F, All2 τs vs F → ∃ τs' τ', S τs' τ' ∧ All2 τs' vs F ∧ ∀ v F', τ'.p v F' → τ.p v F') : Cal W x k ps (spP S') := C.imp fun vs H Q E ⟨τs, τ, F, hS, up, fs, p, r⟩ => by
  obtain ⟨τs', τ', hS', p', hτ⟩ := h τs τ hS vs F p
  exact ⟨τs', τ', F, hS', up, fs, p', fun v F' H' x' sm u' f' pv => r v F' H' x' sm u' f' (hτ v F' pv)⟩
theorem DF.sub (h : DF X e ρ ω) (q : ∀ o F, ω.p o F → ω'.p o F) : DF X e ρ ω' := fun σ F G H Q S z => h σ F G H Q S fun a o F' H' x s hF hG hn hH pl hω => z a o F' H' x s hF hG hn hH pl (q o F' hω)
/-- of a def that returns a new object -/
def spF (S : List Ty → OTy → Prop) : Sp := fun vs H Q _ => ∃ τs ω F, S τs ω ∧ Up F H ∧ (∀ b, H b = none → F b = none) ∧ All2 τs vs F ∧
  ∀ a o F' H', Ext F H F' → Same H H' → Up F' H' → (∀ b, H' b = none → F' b = none) → F' a = none → H a = none → H' a = some o → Mb o → ω.p o F' → Q (.ref a) H'
theorem df_call {S : List Ty → OTy → Prop} (g : Good W n df X N sc) (C : Cal W x k ps (spF S)) (ha : DEs X (e :: es) ρ τs) (hS : S τs ω) (hk : k ≤ n := by first | decide | omega) (hg : sc.names.lookup x = some .globalImplicit := by rfl) (hdb : (x == ("__debug__" : Str)) = false := by decide)
    (he : starEach (e :: es) X.env = (false, eval e X.env) :: starEach es X.env := by rfl) (hpl : (backTo pos (starEach es X.env)).any (·.1) = false := by rfl) : DF X (.Call (.Name x p) (e :: es) [] pos) ρ ω := fun σ F G H Q St q => by
  obtain ⟨f, fd, F0, hm, kp, hb⟩ := C.ex
  have F1 : FnOk X.prog X.w X.K X.mg X.base CX0 k f fd ps (spF S) := by rw [g.eP, g.ew, g.eK, g.em, g.eb]; exact F0
  refine we_of (pe_call F1 (g.room.mono hk) (g.gl hg) (by rw [g.em]; exact hm) (by rw [g.eK]; exact kp) (by rw [g.eK]; exact hb) .nil (pass0 (X := X)) pa_w hdb he hpl) (ha σ F G H _ St fun vs F1 H1 x1 S1 p1 => ?_)
  show spF S (vs ++ []) H1 Q E0
  rw [List.append_nil]
  refine ⟨τs, ω, F1, hS, S1.fh, S1.fs, p1, fun a o F' H' x' same up' fs' hFa hHa hoa mb hω => q a o F' H' (x1.trans ⟨x'.up, fun c gc fc => x'.own c (fun z => ?_) fc⟩) (S1.mono up' fs' (S1.gh.trans same) x'.up fun i c ω2 o2 ei eo => ⟨x'.ownN up' (by rw [eo]; exact fun z => nomatch z) (S1.own i c ω2 ei).2.1 (same c o2 eo) (by obtain ⟨_, _, _, o3, y4, y5, _⟩ := S1.own i c ω2 ei; rw [eo] at y4; cases y4; exact y5), same c o2 eo⟩) hFa ?_ (fun i c ω2 ei => ?_) hoa mb hω⟩
  · cases y : G c with
    | none => exact gc y
    | some u => rw [S1.gh c u y] at z; cases z
  · cases y : G a with
    | none => rfl
    | some u => rw [S1.gh a u y] at hHa; cases hHa
  · obtain ⟨_, _, _, o3, y4, _⟩ := S1.own i c ω2 ei
    intro z
    subst z
    rw [hHa] at y4; cases y4
theorem fn_okF {Sg : List Ty → OTy → Prop} {name qual : Str} {params : Arguments} {f : Addr} {fd : FuncData} (F : FunD W.K name qual params [.Return (some e) pos] sc [] [] f fd) (S : FnScope N ps sc) (hz : ps.length ≤ N.length) (len : ∀ τs ω, Sg τs ω → τs.length = ps.length)
    (h : ∀ X, Good W k true X N sc → ∀ τs ω, Sg τs ω → DF X e (slots N τs) ω) : FnOk W.P W.w W.K W.mg W.base CX0 (k + 1) f fd ps (spF Sg) := by
  refine FunD.ok F S (fun vs H Q E h => ?_) fun cdv A outer s H vs Q E hr hsp => ?_
  · obtain ⟨τs, ω, F, hS, _, _, p, _⟩ := h
    rw [← p.length]; exact len τs ω hS
  · obtain ⟨τs, ω, F1, hS, up, fs, p, q⟩ := hsp
    have hl := len τs ω hS
    refine ⟨_, PSs.nox pss_w, wss_of (pss_one (ps_ret pe_w)) (h _ (good_start S hr) τs ω hS _ F1 H H _ (sat_start (by rw [hl]; exact hz) up fs p) fun a o F' H' x S' hF hG hn hH pl hω => ?_)⟩
    exact q a o F' H' x S'.gh S'.fh S'.fs hF hG hH pl hω
theorem cal_F {Sg : List Ty → OTy → Prop} {m : Str} {st : Stmt} (D : Df W x m st) (S : FnScope N ps (defScope st)) (hb : defBody st = [.Return (some e) pos]) (hz : ps.length ≤ N.length)
    (bd : ∀ (kV doc pm : Value) (an : Option Addr) (cdv ct : Value) (us : List Value), us.length = ps.length → bindArgs (PySem.W.fnOf m m (defArgs st) (defBody st) (defScope st) .none kV doc pm an cdv ct) ⟨us, []⟩ = pure (ps.zip us))
    (len : ∀ τs ω, Sg τs ω → τs.length = ps.length) (h : ∀ X, Good W k true X N (defScope st) → ∀ τs ω, Sg τs ω → DF X e (slots N τs) ω) : Cal W x (k + 1) ps (spF Sg) := by
  obtain ⟨f, fd, hm, F⟩ := D
  have B := F.bindsN bd
  have kp := F.kp
  rw [hb] at F
  exact ⟨f, fd, fn_okF F S hz len h, hm, kp, B⟩
/-- a list that the top or the caller holds -/
def LstK (K : PySem.W.Frag) (ns : List Int) : Ty := ⟨fun v F => ∃ a, v = .ref a ∧ SqL K F a (ns.map V.int), fun v F F' u ⟨a, e, h⟩ => ⟨a, e, sqL_up u h⟩⟩
theorem de_listOfK {ns : List Int} (g : Good W n df X N sc) (hm : W.mg "list" = none) (ha : DE X a ρ (LstK W.K ns)) (hg : sc.names.lookup ("list" : Str) = some .globalImplicit := by rfl) (hs : starEach [a] X.env = (false, eval a X.env) :: starEach [] X.env := by rfl) : DE X (.Call (.Name "list" p) [a] [] pos) ρ (LstOf (ns.map isI)) :=
  de_ty g call_list_of hm (by decide +kernel) (des_cons ha des_nil hs) (vrl_new (o := HO.lst) fun F H vs Q up fs p q => by
    obtain ⟨v, rfl, t, rfl, hr⟩ := all2_one p
    have hr' : SqL X.K H t (ns.map V.int) := by rw [g.eK]; exact sqL_up up hr
    exact ⟨t, ns.map V.int, rfl, .inl hr', fun l hl => q l (.lst (ns.map V.int)) hl ⟨l, _, rfl, .inl upd_same, (all2_ints ns)⟩⟩) hg (hs := hs)
/-- a, b = a list -/
theorem dg_lst {ts : List Expr} {k : Nat} {Nx : List Sl → Prop} (g : Good W n df X N sc) (h : DGs X ts τs ρ Nx) (hn : (assignEach ts X.env).length = τs.length := by rfl) (hst : (assignEach ts X.env).findIdx? (·.1) = none := by rfl) : DG X (.Tuple ts k pos) (LstOf τs) ρ Nx := fun v σ F G H Q S p q => by
  obtain ⟨a, vs, rfl, hr, p2⟩ := p
  exact wg_of (pg_lst g.calm pgs_w hn hst) ⟨a, vs, rfl, .inl (S.fh _ _ True.intro hr), p2.length.symm, h vs σ F G H Q S p2 q⟩
theorem DG.lstI {ds : List PyData} {t : Expr} {Nx : List Sl → Prop} (h : DG X t (LstOf (ds.map Is)) ρ Nx) : DG X t (Is (.list ds)) ρ Nx := fun v σ F G H Q S p q => h v σ F G H Q S (lst_is.mpr p) q
theorem tup2x {P1 P2 : PyData → Prop} {v : V} {F : Hp} (h : (TupOf [Ex P1, Ex P2]).p v F) : ∃ a b, P1 a ∧ P2 b ∧ (Is (.tuple [a, b])).p v F := by
  obtain ⟨t, vs, rfl, hr, pv⟩ := h
  cases pv with
  | cons p1 q =>
    cases q with
    | cons p2 q =>
      cases q
      obtain ⟨a, ha, pa⟩ := p1
      obtain ⟨b, hb, pb⟩ := p2
      exact ⟨a, b, ha, hb, tup_is.mp ⟨t, _, rfl, hr, .cons pa (.cons pb .nil)⟩⟩
end
section
variable {W : Wd}
def S_st (W : Wd) : List Ty → OTy → Prop := fun τs ω => ∃ ns : List Int, ns.length ≤ 100000000 ∧ τs = [LstK W.K ns] ∧ ω = STRM
theorem c_L_stream (T : Txt W) : Cal W "_law_stream" 1 ["_law_script"] (spF (S_st W)) := by
  refine cal_F T.d_L_stream sc_L_stream rfl (by decide) (fun _ _ _ _ _ _ us hl => match us, hl with | [_], _ => rfl) (fun τs ω h => by obtain ⟨_, _, rfl, _⟩ := h; rfl) fun X g τs ω h => ?_
  obtain ⟨ns, hl, rfl, rfl⟩ := h
  refine DF.sub (df_lst (des_cons (de_listOfK (ns := ns) g T.b_list (de_slot (i := 0) g rfl)) (des_cons (de_int (i := 0)) (des_cons (de_int (i := 0)) des_nil)))) fun o F h => ?_
  exact ⟨⟨ns, 0, 0, hl, by decide, by decide⟩, h⟩
end
end K35
set_option Elab.async false
set_option linter.all false
set_option maxRecDepth 100000
set_option maxHeartbeats 1000000
set_option exponentiation.threshold 20000
/-! drawn: results -/
namespace K35
open PySem PySem.Spec L2
def ResOK (d : PyData) : Prop := ∃ r : Res, d = encR r ∧ WfR r
def RowsOK (d : PyData) : Prop := ∃ rs dv, d = .list [encRs rs, dv] ∧ Wf rs
theorem resDs : ∀ {ds : List PyData}, (∀ d ∈ ds, ResOK d) → ∃ rs : List Res, ds = rs.map encR ∧ ∀ r ∈ rs, WfR r
  | [], _ => ⟨[], rfl, fun x hx => nomatch hx⟩
  | d :: ds, h => by
    obtain ⟨r, e, hr⟩ := h d (by simp)
    obtain ⟨rs, e2, hrs⟩ := resDs (ds := ds) fun y hy => h y (List.mem_cons_of_mem _ hy)
    exact ⟨r :: rs, by rw [e, e2]; rfl, fun y hy => (List.mem_cons.mp hy).elim (fun z => z ▸ hr) (hrs y)⟩
section
variable {W : Wd}
def S_se2 : OTy → List Ty → OTy → Ty → Prop := fun ω τs ω' τ => ∃ (a : Addr) (ns v : List Int), (ns ≠ [] ∧ (∀ x ∈ ns, 1 ≤ x ∧ x ≤ 100) ∧ 1 ≤ v.length ∧ v.length ≤ 3 ∧ (∀ x ∈ v, 1 ≤ x ∧ x ≤ 1000)) ∧ ω = STRM ∧ τs = [At a, Is (.tuple (ns.map I')), Is (.tuple (v.map I')), IntP fun h => 0 ≤ h ∧ h < 6] ∧ ω' = STRM ∧ τ = Ex fun d => ∃ s, ∃ h : Nat, h ≤ 5 ∧ d = .tuple (s.map I') ∧ SeatOK v h s
theorem c_L_seated2 (T : Txt W) : Cal W "_law_seated" 2 ["_law_stream_here", "_law_divisors_here", "_law_votes_here", "_law_house"] (spO 0 S_se2) := (c_L_seated T).wideO fun ω τs ω' τ h vs F p => by
  obtain ⟨a, ns, v, ⟨h1, h2, h3, h4, h5⟩, rfl, rfl, rfl, rfl⟩ := h
  cases p with
  | cons p1 p =>
    cases p with
    | cons p2 p =>
      cases p with
      | cons p3 p =>
        cases p with
        | cons p4 p =>
          cases p
          obtain ⟨d, ⟨i, rfl, h0, h6⟩, p4⟩ := p4
          obtain ⟨h, rfl⟩ : ∃ h : Nat, i = h := ⟨i.toNat, by omega⟩
          have hh : h ≤ 5 := by omega
          exact ⟨_, _, ⟨a, ns, v, h, ⟨h1, h2, h3, h4, h5, hh⟩, rfl, rfl, rfl, rfl⟩, .cons p1 (.cons p2 (.cons p3 (.cons p4 .nil))), fun w F' ⟨d, ⟨s, e, hs⟩, q⟩ => ⟨d, ⟨s, h, hh, e, hs⟩, q⟩⟩
def S_rs : OTy → List Ty → OTy → Ty → Prop := fun ω τs ω' τ => ∃ (a : Addr), ω = STRM ∧ τs = [At a, Is (.int 3)] ∧ ω' = STRM ∧ τ = Ex RowsOK
theorem c_L_results (T : Txt W) : Cal W "_law_results" 3 ["_law_stream_here", "_law_most"] (spO 0 S_rs) := by
  refine cal_O T.d_L_results sc_L_results (by decide) (fun _ _ _ _ _ _ us hl => match us, hl with | [_, _], _ => rfl) (fun ω τs ω' τ h => by obtain ⟨_, _, rfl, _⟩ := h; rfl) fun X g a0 ω τs ω' τ h => ?_
  obtain ⟨aa, rfl, rfl, rfl, rfl⟩ := h
  refine db_cons (ds_set (i := 2) g (de_callO (i := 0) g (c_L_divisors T) (des_cons (de_own (i := 0) g rfl) des_nil) rfl rfl ⟨_, rfl, rfl, rfl, rfl⟩) ?_)
  refine DB.ex (i := 2) rfl fun d hd => ?_
  obtain ⟨ns, rfl, hne, hns⟩ := hd
  refine db_cons (ds_set (i := 3) g (de_callO (i := 0) g (c_L_divisors T) (des_cons (de_own (i := 0) g rfl) des_nil) rfl rfl ⟨_, rfl, rfl, rfl, rfl⟩) ?_)
  refine DB.ex (i := 3) rfl fun d hd => ?_
  obtain ⟨ms, rfl, hme, hms⟩ := hd
  refine db_cons (ds_setF (i := 4) g (df_lst des_nil) fun pf => ?_)
  refine db_cons (ds_for g (di_rangeP (Pm := fun m => m ≤ 3) g T.b_range (DE.imp (de_callO (i := 0) g (c_L_next T) (des_cons (de_own (i := 0) g rfl) (des_cons (de_add (de_slot (i := 1) g rfl) de_int) des_nil)) rfl rfl ⟨_, _, (by first | exact ⟨by decide, by decide⟩ | exact ⟨by omega, by omega⟩ | assumption), rfl, rfl, rfl, rfl⟩) fun d ⟨i, e, h2, h5⟩ => ⟨i.toNat, by rw [e, Int.toNat_of_nonneg (by omega)], by omega, by omega⟩)) fun ys hy => ⟨fun i ρ' => ∃ s5 s6 s7 : Sl, ρ' = [.own a0 STRM, .dat (Is (.int 3)), .dat (Is (.tuple (ns.map I'))), .dat (Is (.tuple (ms.map I'))), .own pf (OL (List.replicate i (Ex ResOK))), s5, s6, s7], ⟨_, _, _, rfl⟩, ?_, ?_⟩)
  · rintro i y ρ' ey ⟨s5, s6, s7, rfl⟩
    obtain ⟨m, rfl, hm⟩ := hy
    obtain ⟨i', ei, rfl⟩ := map_get ey
    have hi : i < 3 := by have := (List.getElem?_eq_some_iff.mp ei).1; simp at this; omega
    refine (dg_name (i := 5) g (by first | exact .inl rfl | exact .inr ⟨rfl, rfl⟩) rfl (lt_of_get rfl) ?_)
    refine db_cons (ds_set (i := 6) g (de_callO (i := 0) g (c_L_votes T) (des_cons (de_own (i := 0) g rfl) (des_cons de_int des_nil)) rfl rfl ⟨_, rfl, rfl, rfl, rfl⟩) ?_)
    refine DB.ex (i := 6) rfl fun d hd => ?_
    obtain ⟨v, rfl, v1, v3, hv⟩ := hd
    refine db_cons (ds_set (i := 7) g (de_slot (i := 2) g rfl) ?_)
    refine db_join (fun ρ' => ∃ us : List Int, ρ' = [.own a0 STRM, .dat (Is (.int 3)), .dat (Is (.tuple (ns.map I'))), .dat (Is (.tuple (ms.map I'))), .own pf (OL (List.replicate i (Ex ResOK))), .dat (natI i'), .dat (Is (.tuple (v.map I'))), .dat (Is (.tuple (us.map I')))] ∧ us ≠ [] ∧ ∀ x ∈ us, 1 ≤ x ∧ x ≤ 100) ?_ ?_
    · refine ds_if (dt_cmp op_eq (de_callO (i := 0) g (c_L_next T) (des_cons (de_own (i := 0) g rfl) (des_cons de_int des_nil)) rfl rfl ⟨_, _, (by first | exact ⟨by decide, by decide⟩ | exact ⟨by omega, by omega⟩ | assumption), rfl, rfl, rfl, rfl⟩) (DE.intP (Pi := fun _ => True) de_int trivial) (vr_eqP (β := fun _ => True) fun _ _ _ _ => trivial)) (fun z => db_one (ds_set (i := 7) g (de_slot (i := 3) g rfl) ?_)) (fun z => db_nil ?_)
      · exact ⟨ms, rfl, hme, hms⟩
      · exact ⟨ns, rfl, hne, hns⟩
    rintro ρ' ⟨us, rfl, hue, hus⟩
    refine db_one (ds_append (s := 4) (τ := Ex ResOK) g rfl (DE.sub (de_tup (τs := [Ex fun d => d = .tuple (v.map I'), Ex fun d => ∃ s, ∃ h : Nat, h ≤ 5 ∧ d = .tuple (s.map I') ∧ SeatOK v h s]) (des_cons (DE.ex (de_slot (i := 6) g rfl) rfl) (des_cons (de_callO (i := 0) g (c_L_seated2 T) (des_cons (de_own (i := 0) g rfl) (des_cons (de_slot (i := 7) g rfl) (des_cons (de_slot (i := 6) g rfl) (des_cons (de_callO (i := 0) g (c_L_next T) (des_cons (de_own (i := 0) g rfl) (des_cons de_int des_nil)) rfl rfl ⟨_, _, (by first | exact ⟨by decide, by decide⟩ | exact ⟨by omega, by omega⟩ | assumption), rfl, rfl, rfl, rfl⟩) des_nil)))) rfl rfl ⟨_, us, v, ⟨hue, hus, v1, v3, hv⟩, rfl, rfl, rfl, rfl⟩) des_nil))) fun w F p => ?_) (by rw [List.length_replicate]; omega) ?_)
    · obtain ⟨a, b, rfl, ⟨s, h, h5, rfl, s1, s2, s3⟩, p⟩ := tup2x p
      exact ⟨_, ⟨(v, s), rfl, ⟨v1, v3, s1, hv, fun x hx => ⟨(s3 x hx).1, by have := (s3 x hx).2; omega⟩, by show s.sum ≤ 5; omega⟩⟩, p⟩
    · exact ⟨_, _, _, by rw [List.replicate_succ']; rfl⟩
  · rintro ρ' ⟨s5, s6, s7, rfl⟩
    obtain ⟨m, rfl, hm⟩ := hy
    have el : (intsT m).length = m := by simp [intsT]
    rw [el]
    refine DB.freezeL (i := 4) (p := pf) ?_ rfl
    refine DB.exL (i := 4) (n := m) rfl fun ds hl hds => ?_
    obtain ⟨rs, rfl, hrs⟩ := resDs hds
    rw [List.length_map] at hl
    refine db_one (ds_ret (DE.lstI (ds := [.tuple (rs.map encR), .tuple (ns.map I')]) (DF.lst (df_lst (des_cons (DE.tupI (de_tupleOfL g T.b_tuple (DE.lstT (de_slot (i := 4) g rfl)))) (des_cons (de_slot (i := 2) g rfl) des_nil))))) fun w F p => ⟨⟨_, ⟨rs, _, rfl, ⟨by omega, hrs⟩⟩, p⟩, rfl⟩)
end
end K35
set_option Elab.async false
set_option linter.all false
set_option maxRecDepth 100000
set_option maxHeartbeats 1000000
set_option exponentiation.threshold 20000
/-! what turned values are -/
namespace K35
open PySem PySem.Spec L2
def ShK (k : Nat) (d : PyData) : Prop := d.canLay0 = true ∧ d.depth ≤ k
theorem ShK.sh {k : Nat} {d : PyData} (h : ShK k d) (hk : k ≤ 64) : Sh d := by
  unfold Sh SeqAt.shaped
  rw [h.1, Bool.true_and]
  exact decide_eq_true (Nat.le_trans h.2 hk)
theorem ShK.mono {j k : Nat} {d : PyData} (h : ShK j d) (hk : j ≤ k) : ShK k d := ⟨h.1, Nat.le_trans h.2 hk⟩
theorem shK_all {k : Nat} : ∀ {ds : List PyData}, (∀ x ∈ ds, ShK k x) → PyData.canLayAll0 ds = true ∧ PyData.depthAll ds ≤ k
  | [], _ => by simp [PyData.canLayAll0, PyData.depthAll]
  | d :: ds, h => by
    obtain ⟨h1, h2⟩ := h d (by simp)
    obtain ⟨h3, h4⟩ := shK_all (ds := ds) fun x hx => h x (List.mem_cons_of_mem _ hx)
    simp only [PyData.canLayAll0, PyData.depthAll, h1, h3, Bool.and_self, true_and]
    exact Nat.max_le.mpr ⟨h2, h4⟩
theorem ShK.tup {k : Nat} {ds : List PyData} (h : ∀ x ∈ ds, ShK k x) : ShK (k + 1) (.tuple ds) := by
  obtain ⟨h1, h2⟩ := shK_all h
  unfold ShK
  simp only [PyData.canLay0, PyData.depth]
  exact ⟨h1, by omega⟩
theorem ShK.lst {k : Nat} {ds : List PyData} (h : ∀ x ∈ ds, ShK k x) : ShK (k + 1) (.list ds) := by
  obtain ⟨h1, h2⟩ := shK_all h
  unfold ShK
  simp only [PyData.canLay0, PyData.depth]
  exact ⟨h1, by omega⟩
def Item (k : Nat) (d : PyData) : Prop := ShK k d ∧ (∀ ds, d = .tuple ds → ds.length ≤ 900) ∧ ∀ i, d = .int i → i ≤ 2 ^ 6000
def itemB (k : Nat) (d : PyData) : Bool := d.canLay0 && decide (d.depth ≤ k) && (match d with | .tuple ds => decide (ds.length ≤ 900) | .int i => decide (i ≤ 1000) | _ => true)
theorem item_of {k : Nat} {d : PyData} (h : itemB k d = true) : Item k d := by
  unfold itemB at h
  rw [Bool.and_eq_true, Bool.and_eq_true] at h
  obtain ⟨⟨h1, h2⟩, h3⟩ := h
  refine ⟨⟨h1, of_decide_eq_true h2⟩, fun ds e => ?_, fun i e => ?_⟩
  · subst e; exact of_decide_eq_true h3
  · subst e
    have : i ≤ 1000 := of_decide_eq_true h3
    exact Int.le_trans this (by decide +kernel)
theorem Item.mono {j k : Nat} {d : PyData} (h : Item j d) (hk : j ≤ k) : Item k d := ⟨h.1.mono hk, h.2⟩
theorem item_int {k : Nat} {i : Int} (h : i ≤ 2 ^ 6000) : Item k (.int i) := ⟨⟨by simp only [PyData.canLay0], by simp only [PyData.depth]; omega⟩, fun ds e => (nomatch e), fun j e => by cases e; exact h⟩
theorem item_tup {k : Nat} {ds : List PyData} (hl : ds.length ≤ 900) (h : ∀ x ∈ ds, ShK k x) : Item (k + 1) (.tuple ds) := ⟨.tup h, fun ds' e => by cases e; exact hl, fun i e => nomatch e⟩
theorem item_lst {k : Nat} {ds : List PyData} (h : ∀ x ∈ ds, ShK k x) : Item (k + 1) (.list ds) := ⟨.lst h, fun ds' e => (nomatch e), fun i e => nomatch e⟩
theorem shK_int {k : Nat} {i : Int} : ShK k (.int i) := ⟨by simp only [PyData.canLay0], by simp only [PyData.depth]; omega⟩
theorem shK_str {k : Nat} {s : Str} (h : (PyData.str s).canLay0 = true) : ShK k (.str s) := ⟨h, by simp only [PyData.depth]; omega⟩
def Part (d : PyData) : Prop := ShK 12 d ∧ ∀ ds, d = .tuple ds → ds.length ≤ 900 ∧ ∀ x ∈ ds, Item 11 x
theorem part_tup {ds : List PyData} (hl : ds.length ≤ 900) (h : ∀ x ∈ ds, Item 11 x) : Part (.tuple ds) := ⟨.tup fun x hx => (h x hx).1, fun ds' e => by cases e; exact ⟨hl, h⟩⟩
theorem part_lst {ds : List PyData} (h : ∀ x ∈ ds, Item 11 x) : Part (.list ds) := ⟨.lst fun x hx => (h x hx).1, fun ds' e => nomatch e⟩
theorem part_non : Part .none := ⟨⟨by simp only [PyData.canLay0], by simp only [PyData.depth]; omega⟩, fun ds' e => nomatch e⟩
theorem part_str {s : Str} (h : (PyData.str s).canLay0 = true) : Part (.str s) := ⟨shK_str h, fun ds' e => nomatch e⟩
theorem part_int {i : Int} : Part (.int i) := ⟨shK_int, fun ds' e => nomatch e⟩
theorem Part.nice2 {d : PyData} (h : Part d) : Nice2 d := ⟨h.1.sh (by omega), fun ds e => ⟨Nat.le_trans (h.2 ds e).1 (by omega), fun x hx => ⟨((h.2 ds e).2 x hx).1.sh (by omega), fun ys ey => Nat.le_trans (((h.2 ds e).2 x hx).2.1 ys ey) (by omega)⟩⟩⟩
theorem Part.len {d : PyData} (h : Part d) : Len1000 d := fun ds e => (h.2 ds e).1
theorem Part.bd {d : PyData} (h : Part d) : BdT (2 ^ 6000) d := fun ns e n hn => ((h.2 _ e).2 (.int n) (List.mem_map.mpr ⟨n, hn, rfl⟩)).2.2 n rfl
theorem ints_item {k : Nat} {B : Int} {ns : List Int} (hB : B ≤ 2 ^ 6000) (h : ∀ x ∈ ns, x ≤ B) : ∀ x ∈ ns.map I', Item k x := fun x hx => by
  obtain ⟨n, hn, rfl⟩ := List.mem_map.mp hx
  exact item_int (Int.le_trans (h n hn) hB)
theorem mem_cutD {ds : List PyData} {l h : Option Int} {x : PyData} (hx : x ∈ cutD ds l h) : x ∈ ds := List.mem_of_mem_drop (List.mem_of_mem_take hx)
theorem len_cutD (ds : List PyData) (l h : Option Int) : (cutD ds l h).length ≤ ds.length := by
  unfold cutD
  rw [List.length_take, List.length_drop]
  omega
theorem len_rep {α : Type} (l : List α) : ∀ n : Nat, (List.replicate n l).flatten.length = n * l.length
  | 0 => by simp
  | n + 1 => by rw [List.replicate_succ, List.flatten_cons, List.length_append, len_rep l n, Nat.add_mul]; omega
theorem nm_item {rs : List Res} {top : Nat} {c : Cd} (h : c ∈ allL rs top) : Item 6 c.nm := by
  unfold allL at h
  rcases List.mem_append.mp h with h | h
  · obtain ⟨i, r, one, other, _, _, _, _, _, rfl⟩ := seenL_mem h
    exact item_tup (by show 4 ≤ 900; omega) fun x hx => by
      simp only [List.mem_cons, List.not_mem_nil, or_false] at hx
      rcases hx with rfl | rfl | rfl | rfl
      · exact shK_str (by decide +kernel)
      · exact shK_int
      · exact shK_int
      · exact shK_int
  · obtain ⟨k, _, rfl⟩ := List.mem_map.mp h
    exact item_tup (by show 2 ≤ 900; omega) fun x hx => by
      simp only [List.mem_cons, List.not_mem_nil, or_false] at hx
      rcases hx with rfl | rfl
      · exact shK_str (by decide +kernel)
      · exact shK_int
/-! argument lists, told by the sign of the first part -/
section
variable {X : Cx} {e : Expr} {es es' : List Expr} {ρ : List Sl} {τ : Ty} {τs : List Ty} {k : Nat} {q : Pos}
theorem df_lst2 (h : DEs X es ρ τs) (hz : τs.length ≤ 1000 := by simp) : DF X (.List es q) ρ (OL τs) := df_lst h hz
theorem des_T (h : DE X (.Tuple es' k q) ρ τ) (t : DEs X es ρ τs) : DEs X (.Tuple es' k q :: es) ρ (τ :: τs) := des_cons h t rfl
theorem des_L (h : DE X (.List es' q) ρ τ) (t : DEs X es ρ τs) : DEs X (.List es' q :: es) ρ (τ :: τs) := des_cons h t rfl
theorem des_S {a b : Expr} (h : DE X (.Subscript a b q) ρ τ) (t : DEs X es ρ τs) : DEs X (.Subscript a b q :: es) ρ (τ :: τs) := des_cons h t rfl
theorem des_C {a : Expr} {kw} (h : DE X (.Call a es' kw q) ρ τ) (t : DEs X es ρ τs) : DEs X (.Call a es' kw q :: es) ρ (τ :: τs) := des_cons h t rfl
theorem des_B {a b : Expr} {op} (h : DE X (.BinOp a op b q) ρ τ) (t : DEs X es ρ τs) : DEs X (.BinOp a op b q :: es) ρ (τ :: τs) := des_cons h t rfl
theorem des_K {c} (h : DE X (.Constant c k q) ρ τ) (t : DEs X es ρ τs) : DEs X (.Constant c k q :: es) ρ (τ :: τs) := des_cons h t rfl
theorem des_N {x : Str} (h : DE X (.Name x q) ρ τ) (t : DEs X es ρ τs) : DEs X (.Name x q :: es) ρ (τ :: τs) := des_cons h t rfl
theorem des_U {a : Expr} {op} (h : DE X (.UnaryOp op a q) ρ τ) (t : DEs X es ρ τs) : DEs X (.UnaryOp op a q :: es) ρ (τ :: τs) := des_cons h t rfl
end
/-! types that all tell so much -/
def Und (P : PyData → Prop) (τs : List Ty) : Prop := ∀ τ ∈ τs, ∀ v F, τ.p v F → (Ex P).p v F
section
variable {P Q : PyData → Prop} {τ : Ty} {τs τs' : List Ty} {d : PyData} {F : Hp}
theorem und_nil : Und P [] := fun τ h => nomatch h
theorem und_is (h : P d) (t : Und P τs) : Und P (Is d :: τs) := fun τ hτ => (List.mem_cons.mp hτ).elim (fun e => by subst e; exact fun v F p => ⟨d, h, p⟩) (t τ)
theorem und_ex (h : ∀ d, Q d → P d) (t : Und P τs) : Und P (Ex Q :: τs) := fun τ hτ => (List.mem_cons.mp hτ).elim (fun e => by subst e; exact fun v F ⟨d, a, p⟩ => ⟨d, h d a, p⟩) (t τ)
theorem und_app (h : Und P τs) (t : Und P τs') : Und P (τs ++ τs') := fun τ hτ => (List.mem_append.mp hτ).elim (h τ) (t τ)
theorem und_map {ds : List PyData} (h : ∀ d ∈ ds, P d) : Und P (ds.map Is) := fun τ hτ => by
  obtain ⟨d, hd, rfl⟩ := List.mem_map.mp hτ
  exact fun v F p => ⟨d, h d hd, p⟩
theorem und_at (h : Und P τs) {i : Int} (h0 : 0 ≤ i) (hl : i < τs.length) : ∃ τ', atI τs i = some τ' ∧ ∀ v F, τ'.p v F → (Ex P).p v F := by
  have hj : i.toNat < τs.length := by omega
  exact ⟨τs[i.toNat], atI_of h0 (List.getElem?_eq_getElem hj), h _ (List.getElem_mem hj)⟩
theorem und_ds {vs : List V} (h : Und P τs) (p : All2 τs vs F) : ∃ ds : List PyData, ds.length = τs.length ∧ (∀ d ∈ ds, P d) ∧ All2 (ds.map Is) vs F := by
  unfold All2 at p
  induction p with
  | nil => exact ⟨[], rfl, (fun d hd => nomatch hd), .nil⟩
  | @cons τ v τs vs a t ih =>
    obtain ⟨ds, h1, h2, h3⟩ := ih fun τ' hτ => h τ' (List.mem_cons_of_mem _ hτ)
    obtain ⟨d, hd, p⟩ := h τ (by simp) _ _ a
    exact ⟨d :: ds, by simp [h1], fun y hy => (List.mem_cons.mp hy).elim (fun z => z ▸ hd) (h2 y), .cons p h3⟩
theorem und_tup {v : V} (h : Und P τs) (p : (TupOf τs).p v F) : ∃ ds : List PyData, ds.length = τs.length ∧ (∀ d ∈ ds, P d) ∧ (Is (.tuple ds)).p v F := by
  obtain ⟨t, vs, rfl, hr, pv⟩ := p
  obtain ⟨ds, h1, h2, h3⟩ := und_ds h pv
  exact ⟨ds, h1, h2, tup_is.mp ⟨t, vs, rfl, hr, h3⟩⟩
theorem und_lst {v : V} (h : Und P τs) (p : (LstOf τs).p v F) : ∃ ds : List PyData, ds.length = τs.length ∧ (∀ d ∈ ds, P d) ∧ (Is (.list ds)).p v F := by
  obtain ⟨t, vs, rfl, hr, pv⟩ := p
  obtain ⟨ds, h1, h2, h3⟩ := und_ds h pv
  exact ⟨ds, h1, h2, lst_is.mp ⟨t, vs, rfl, hr, h3⟩⟩
end
end K35
set_option Elab.async false
set_option linter.all false
set_option maxRecDepth 100000
set_option maxHeartbeats 1000000
set_option exponentiation.threshold 20000
/-! turned steps -/
namespace K35
open PySem PySem.Spec L2
section
variable {W : Wd} {n : Nat} {df : Bool} {X : Cx} {N : List Str} {sc : Scope} {ρ : List Sl} {P : Post} {tg : Expr} {pos : Pos}
def row5 (ρ : List Sl) (v1 v2 v3 v4 v5 : Nat) (c : Cd) : List Sl := ((((ρ.set v1 (.dat (Is c.nm))).set v2 (.dat (isI c.s))).set v3 (.dat (isI c.e))).set v4 (.dat (isI c.p))).set v5 (.dat (isI c.q))
/-- names of conditions, on one line to a local -/
theorem ds_setMapC {elt it : Expr} {scope : Scope} {y1 y2 y3 y4 y5 : Str} {v1 v2 v3 v4 v5 i : Nat} {py spos : Pos} {y' : Str} (cs : List Cd) (t : Cd → Ty) (g : Good W n df X N sc) (hb : blkC N sc scope [(y1, v1), (y2, v2), (y3, v3), (y4, v4), (y5, v5)] = true) (hi : DI X tg it ρ (fun ys => ys = cs.map fun c => Is (encC c))) (hz : cs.length ≤ 100000)
    (hno : ∀ i ∈ [v1, v2, v3, v4, v5], ∃ s, ρ[i]? = some s ∧ s.noOwn = true) (hcg : ∀ c ∈ cs, ∀ X', Good W n false X' N (relS scope sc) → CG X' tg (Is (encC c)) (wipeL ρ [v1, v2, v3, v4, v5]) [v1, v2, v3, v4, v5] fun r => r = row5 ρ v1 v2 v3 v4 v5 c)
    (h2 : ∀ c ∈ cs, ∀ X', Good W n false X' N (relS scope sc) → DE X' elt (row5 ρ v1 v2 v3 v4 v5 c) (t c)) (k : ∀ p, P.nx (ρ.set i (.own p (OL (cs.map t)))))
    (hN' : N[i]? = some y' := by rfl) (hil : i < ρ.length := by first | decide | assumption | exact lt_of_get rfl) (hyl : sc.names.lookup y' = some .local := by rfl)
    (hl : (py.line == pos.line) = true := by rfl) (ha : (scope.names.any fun (n, k) => n == y' && (k == .local || k == .cell)) = false := by decide +kernel) (hs : ∀ x, foldedSetIterable it X.env x = pure x := by intro _; rfl) : DS X (.Assign [.Name y' py] (.ListComp elt [⟨tg, it, [], 0⟩] scope pos) spos) ρ P :=
  ds_setMapG (own := [(y1, v1), (y2, v2), (y3, v3), (y4, v4), (y5, v5)]) cs (fun c => Is (encC c)) t (row5 ρ v1 v2 v3 v4 v5) g hb hi hz hno (fun c hc j hj => by
    simp only [List.map_cons, List.map_nil, List.mem_cons, List.not_mem_nil, or_false, not_or] at hj
    obtain ⟨h1, h2, h3, h4, h5⟩ := hj
    unfold row5
    rw [List.getElem?_set_ne (Ne.symm h5), List.getElem?_set_ne (Ne.symm h4), List.getElem?_set_ne (Ne.symm h3), List.getElem?_set_ne (Ne.symm h2), List.getElem?_set_ne (Ne.symm h1)]) hcg h2 k hN' hil hyl hl ha hs
end
section
variable {W : Wd}
def S_ts : OTy → List Ty → OTy → Ty → Prop := fun ω τs ω' τ => ∃ (a : Addr) (rs : List Res) (ws : List PyData), (Wf rs ∧ ws.length ≤ 10 ∧ ∀ x ∈ ws, Item 6 x) ∧ ω = STRM ∧ τs = [At a, Is (encRs rs), Is (.tuple ws)] ∧ ω' = STRM ∧ τ = Ex Part
theorem c_L_turned_steps (T : Txt W) : Cal W "_law_turned_steps" 2 ["_law_stream_here", "_law_results_here", "_law_steps"] (spO 0 S_ts) := by
  refine cal_O T.d_L_turned_steps sc_L_turned_steps (by decide) (fun _ _ _ _ _ _ us hl => match us, hl with | [_, _, _], _ => rfl) (fun ω τs ω' τ h => by obtain ⟨_, _, _, _, _, rfl, _⟩ := h; rfl) fun X g a0 ω τs ω' τ h => ?_
  obtain ⟨aa, rs, ws, ⟨w, hw, hws⟩, rfl, rfl, rfl, rfl⟩ := h
  have h27 := seenL_len w
  have hI : ∀ x ∈ ws, Item 11 x := fun x hx => (hws x hx).mono (by omega)
  have pT : ∀ ds : List PyData, ds.length ≤ 90 → (∀ x ∈ ds, x ∈ ws) → Part (.tuple ds) := fun ds hl h => part_tup (by omega) fun x hx => hI x (h x hx)
  have cT : ∀ l h, Part (.tuple (cutD ws l h)) := fun l h => pT _ (by have := len_cutD ws l h; omega) fun x hx => mem_cutD hx
  refine db_cons ?_
  refine (ds_set (i := 3) g (de_callO (i := 0) g (c_L_next T) (des_cons (de_own (i := 0) g rfl) (des_cons de_int des_nil)) rfl rfl ⟨_, _, (by first | exact ⟨by decide, by decide⟩ | exact ⟨by omega, by omega⟩ | assumption), rfl, rfl, rfl, rfl⟩) ?_)
  refine DB.ex (i := 3) rfl fun d hd => ?_
  obtain ⟨z, rfl, z0, z6⟩ := hd
  refine db_cons ?_
  refine (ds_set (i := 4) g (de_callO (i := 0) g (c_L_next T) (des_cons (de_own (i := 0) g rfl) (des_cons (de_add (de_len g T.b_len (de_slot (i := 2) g rfl)) de_int) des_nil)) rfl rfl ⟨_, _, (by first | exact ⟨by decide, by decide⟩ | exact ⟨by omega, by omega⟩ | assumption), rfl, rfl, rfl, rfl⟩) ?_)
  refine DB.ex (i := 4) rfl fun d hd => ?_
  obtain ⟨j, rfl, j0, jl⟩ := hd
  refine db_cons ?_
  refine (ds_ifE (dt_cmp op_eq (de_slot (i := 3) g rfl) de_int vr_eqI) (fun _ => db_one ?_) (fun _ => db_nil ?_))
  · refine ds_ret (de_ixLx (τs := [Ex Part, Ex Part, Ex Part, Ex Part, Ex Part, Ex Part, Ex Part, Ex Part]) (DF.lst (df_lst2 (des_K (DE.ex de_non part_non) (des_C (DE.ex (DE.lstI (de_listOfT g T.b_list ((de_slot (i := 2) g rfl)).tupT)) (part_lst hI)) (des_S (DE.ex (de_revI (de_slot (i := 2) g rfl)) (pT _ (by rw [List.length_reverse]; omega) fun x hx => List.mem_reverse.mp hx)) (des_S (DE.ex (de_sliceI (de_slot (i := 2) g rfl) (lo := some _) (l := some _) de_int (hi := none) (h := none) True.intro) (cT _ _)) (des_S (DE.ex (de_sliceI (de_slot (i := 2) g rfl) (lo := none) (l := none) True.intro (hi := some _) (h := some _) (de_neg de_int)) (cT _ _)) (des_B ?_ (des_T (DE.ex (DE.tupI (ds := []) (de_tup des_nil)) (pT [] (by simp) fun x hx => nomatch hx)) (des_B (DE.ex (de_catI (de_sliceI (de_slot (i := 2) g rfl) (lo := some _) (l := some _) de_int (hi := none) (h := none) True.intro) (de_sliceI (de_slot (i := 2) g rfl) (lo := none) (l := none) True.intro (hi := some _) (h := some _) de_int) ?_) ?_) des_nil)))))))))) (de_callO (i := 0) g (c_L_next T) (des_cons (de_own (i := 0) g rfl) (des_cons de_int des_nil)) rfl rfl ⟨_, _, (by first | exact ⟨by decide, by decide⟩ | exact ⟨by omega, by omega⟩ | assumption), rfl, rfl, rfl, rfl⟩) (fun i hi => und_at (P := Part) ?_ hi.1 hi.2)) fun v F p => ⟨p, rfl⟩
    · by_cases hne : ws = []
      · subst hne
        exact DE.ex (de_repE (de_slot (i := 2) g rfl) de_int (by decide) (by decide)) (pT [] (by simp) fun x hx => nomatch hx)
      · refine DE.ex (de_repI (de_slot (i := 2) g rfl) de_int hne (by decide) (by decide) (by omega)) (part_tup ?_ fun x hx => ?_)
        · rw [len_rep]
          show 9 * ws.length ≤ 900
          omega
        · obtain ⟨l, hl, hx⟩ := List.mem_flatten.mp hx
          rw [List.eq_of_mem_replicate hl] at hx
          exact hI x hx
    · have h1 := len_cutD ws (some 1) none
      have h2 := len_cutD ws none (some 1)
      omega
    · refine pT _ ?_ fun x hx => (List.mem_append.mp hx).elim mem_cutD mem_cutD
      have h1 := len_cutD ws (some 1) none
      have h2 := len_cutD ws none (some 1)
      rw [List.length_append]; omega
    · exact fun τ hτ v F p => by
        simp only [List.mem_cons, List.not_mem_nil, or_false, or_self] at hτ
        subst hτ; exact p
  refine db_cons ?_
  refine (ds_set (i := 5) g (de_len g T.b_len (de_slot (i := 1) g rfl)) ?_)
  refine db_cons ?_
  refine (ds_setF (i := 6) (ω := OL [Ex (Item 6), Ex (Item 6), Ex (Item 6), Ex (Item 6), Ex (Item 6), Ex (Item 6), Ex (Item 6), Ex (Item 6), Ex (Item 6), Ex (Item 6), Ex (Item 6), Ex (Item 6)]) g (df_lst2 (des_K (DE.ex de_non (item_of (by decide +kernel))) (des_T (DE.ex (DE.tupI (ds := [_, _]) (de_tup (des_K de_str (des_K de_int des_nil)))) (item_of (by decide +kernel))) (des_T (DE.ex (DE.tupI (ds := [_, _]) (de_tup (des_K de_str (des_U (de_neg de_int) des_nil)))) (item_of (by decide +kernel))) (des_T (DE.ex (DE.tupI (ds := [_, _]) (de_tup (des_K de_str (des_K de_bl des_nil)))) (item_of (by decide +kernel))) (des_T (DE.ex (DE.tupI (ds := [_]) (de_tup (des_K de_str des_nil))) (item_of (by decide +kernel))) (des_T (DE.ex (DE.tupI (ds := [_, _, _]) (de_tup (des_K de_str (des_K de_int (des_K de_int des_nil))))) (item_of (by decide +kernel))) (des_L (DE.ex (DE.lstI (ds := [_, _]) (df_lst (des_K de_str (des_K de_int des_nil))).lst) (item_of (by decide +kernel))) (des_T (DE.ex (DE.tupI (ds := [_, _]) (de_tup (des_K de_str (des_K de_int des_nil)))) (item_of (by decide +kernel))) (des_T (DE.ex (DE.tupI (ds := [_, _, _, _]) (de_tup (des_K de_str (des_N (de_slot (i := 5) g rfl) (des_K de_int (des_K de_int des_nil)))))) ?_) (des_T (DE.ex (DE.tupI (ds := [_, _, _, _]) (de_tup (des_K de_str (des_U (de_neg de_int) (des_K de_int (des_K de_int des_nil)))))) (item_of (by decide +kernel))) (des_T (DE.ex (DE.tupI (ds := [_, _, _]) (de_tup (des_K de_str (des_K de_int (des_K de_int des_nil))))) (item_of (by decide +kernel))) (des_T (DE.ex (DE.tupI (ds := [_, _]) (de_tup (des_K de_str (des_K de_int des_nil)))) (item_of (by decide +kernel))) des_nil))))))))))))) fun p1 => ?_)
  · refine item_tup (by show 4 ≤ 900; omega) fun x hx => ?_
    simp only [List.mem_cons, List.not_mem_nil, or_false] at hx
    rcases hx with rfl | rfl | rfl | rfl
    · exact shK_str (by decide +kernel)
    · exact shK_int
    · exact shK_int
    · exact shK_int
  refine DB.freezeL (i := 6) (p := p1) ?_ rfl
  refine db_cons ?_
  refine (ds_setF (i := 6) (ω := OL ([Ex (Item 6), Ex (Item 6), Ex (Item 6), Ex (Item 6), Ex (Item 6), Ex (Item 6), Ex (Item 6), Ex (Item 6), Ex (Item 6), Ex (Item 6), Ex (Item 6), Ex (Item 6)] ++ [Ex (Item 6), Ex (Item 6), Ex (Item 6), Ex (Item 6), Ex (Item 6), Ex (Item 6), Ex (Item 6), Ex (Item 6)])) g (df_catL (de_slot (i := 6) g rfl) (DF.lst (df_lst2 (des_T (DE.ex (DE.tupI (ds := [_, _, _, _]) (de_tup (des_K de_str (des_K de_int (des_K de_int (des_K de_int des_nil)))))) (item_of (by decide +kernel))) (des_T (DE.ex (DE.tupI (ds := [_, _, _, _]) (de_tup (des_K de_str (des_K de_bl (des_K de_int (des_K de_int des_nil)))))) (item_of (by decide +kernel))) (des_T (DE.ex (DE.tupI (ds := [_, _, _, _]) (de_tup (des_K de_str (des_K de_int (des_K de_int (des_K de_non des_nil)))))) (item_of (by decide +kernel))) (des_T (DE.sub (τ' := Ex (Item 6)) (de_tup (τs := [Ex fun d => d = .str "up", IntP fun z => 0 ≤ z ∧ z < 9]) (des_K (DE.ex de_str rfl) (des_C (de_callO (i := 0) g (c_L_next T) (des_cons (de_own (i := 0) g rfl) (des_cons de_int des_nil)) rfl rfl ⟨_, _, (by first | exact ⟨by decide, by decide⟩ | exact ⟨by omega, by omega⟩ | assumption), rfl, rfl, rfl, rfl⟩) des_nil))) ?_) (des_T (DE.ex (DE.tupI (ds := [_, _, _, _]) (de_tup (des_K de_str (des_K de_int (des_K de_int (des_K de_int des_nil)))))) (item_of (by decide +kernel))) (des_T (DE.ex (DE.tupI (ds := [_, _, _, _]) (de_tup (des_K de_str (des_K de_int (des_K de_int (des_K de_int des_nil)))))) (item_of (by decide +kernel))) (des_T (DE.ex (DE.tupI (ds := [_, _]) (de_tup (des_K de_non (des_K de_int des_nil)))) (item_of (by decide +kernel))) (des_T (DE.ex (DE.tupI (ds := []) (de_tup des_nil)) (item_of (by decide +kernel))) des_nil)))))))))) (by show 12 + 8 ≤ 1000000; decide)) fun po => ?_)
  · intro v F p
    obtain ⟨a, b, rfl, ⟨i, rfl, _⟩, p⟩ := tup2x p
    refine ⟨_, item_tup (by show 2 ≤ 900; omega) fun x hx => ?_, p⟩
    simp only [List.mem_cons, List.not_mem_nil, or_false] at hx
    rcases hx with rfl | rfl
    · exact shK_str (by decide +kernel)
    · exact shK_int
  rw [show ([Ex (Item 6), Ex (Item 6), Ex (Item 6), Ex (Item 6), Ex (Item 6), Ex (Item 6), Ex (Item 6), Ex (Item 6), Ex (Item 6), Ex (Item 6), Ex (Item 6), Ex (Item 6)] ++ [Ex (Item 6), Ex (Item 6), Ex (Item 6), Ex (Item 6), Ex (Item 6), Ex (Item 6), Ex (Item 6), Ex (Item 6)] : List Ty) = List.replicate 20 (Ex (Item 6)) from rfl]
  show DB X _ [.own a0 STRM, .dat (Is (encRs rs)), .dat (Is (.tuple ws)), .dat (Is (.int z)), .dat (Is (.int j)), .dat (Is (.int (rs.map encR).length)), .own po (OL (List.replicate 20 (Ex (Item 6)))), .un, .un, .un, .un, .un, .un] _
  refine db_cons ?_
  refine (ds_setMapC (i := 8) (y1 := "_law_step") (y2 := "_law_start") (y3 := "_law_end") (y4 := "_law_p") (y5 := "_law_q") (v1 := 7) (v2 := 9) (v3 := 10) (v4 := 11) (v5 := 12) (seenL rs) (fun c => Is c.nm) g (by decide +kernel) (di_lstM (DE.lstM (de_call g (c_L_seen T) (des_cons (de_slot (i := 1) g rfl) des_nil) ⟨_, by assumption, rfl, rfl⟩))) (by omega) ?_ (fun c hc X' g' => ?_) (fun c hc X' g' => ?_) fun pq => ?_)
  · intro i hi
    simp only [List.mem_cons, List.not_mem_nil, or_false] at hi
    rcases hi with rfl | rfl | rfl | rfl | rfl <;> exact ⟨_, rfl, rfl⟩
  · refine (CG.tupI (cg_tup g' (cgs_cons (cg_name (i := 7) g' (by simp) (cgs_cons (cg_name (i := 9) g' (by simp) (cgs_cons (cg_name (i := 10) g' (by simp) (cgs_cons (cg_name (i := 11) g' (by simp) (cgs_cons (cg_name (i := 12) g' (by simp) (cgs_nil ?_)))))))))))))
    rfl
  · exact (de_slot (i := 7) g' rfl)
  refine DB.freezeL (i := 8) (p := pq) ?_ rfl
  have um : Und (Item 6) ((seenL rs).map fun c => Is c.nm) := fun τ hτ => by
    obtain ⟨c, hc, rfl⟩ := List.mem_map.mp hτ
    exact fun v F p => ⟨_, nm_item (top := 0) (List.mem_append.mpr (.inl hc)), p⟩
  refine db_join (fun ρ' => ∃ m : Nat, 20 ≤ m ∧ m ≤ 21 ∧ ρ' = [.own a0 STRM, .dat (Is (encRs rs)), .dat (Is (.tuple ws)), .dat (Is (.int z)), .dat (Is (.int j)), .dat (Is (.int (rs.map encR).length)), .own po (OL (List.replicate m (Ex (Item 6)))), .un, .dat (LstOf ((seenL rs).map fun c => Is c.nm)), .un, .un, .un, .un]) ?_ ?_
  · refine ds_ifE (dt_lstT (de_slot (i := 8) g rfl)) (fun hz => ?_) (fun _ => db_nil ⟨20, by omega, by omega, rfl⟩)
    have hne : 1 ≤ (seenL rs).length := by
      rw [List.isEmpty_map] at hz
      cases q : seenL rs with
      | nil => rw [q] at hz; cases hz
      | cons c cs => simp
    refine db_one ?_
    refine (ds_append (s := 6) (τ := Ex (Item 6)) g rfl (de_ixLx (de_slot (i := 8) g rfl) (de_callO (i := 0) g (c_L_next T) (des_N (de_own (i := 0) g rfl) (des_C (de_lenL g T.b_len (de_slot (i := 8) g rfl)) des_nil)) rfl rfl ⟨_, _, ⟨by rw [List.length_map]; omega, by rw [List.length_map]; omega⟩, rfl, rfl, rfl, rfl⟩) fun i hi => und_at um hi.1 hi.2) (by rw [List.length_replicate]; omega) ?_)
    exact ⟨21, by omega, by omega, by rw [show [Ex (Item 6)] = List.replicate 1 (Ex (Item 6)) from rfl, List.replicate_append_replicate]; rfl⟩
  rintro ρ' ⟨m, hm1, hm2, rfl⟩
  have eI : ∀ i : Int, 0 ≤ i ∧ i < (((List.replicate m (Ex (Item 6))).length : Nat) : Int) → ∃ τ', atI (List.replicate m (Ex (Item 6))) i = some τ' ∧ ∀ v F, τ'.p v F → (Ex (Item 6)).p v F := fun i hi => und_at (fun τ hτ v F p => by rw [List.eq_of_mem_replicate hτ] at p; exact p) hi.1 (by omega)
  refine db_cons ?_
  refine (ds_set (i := 7) (τ := Ex (Item 6)) g (de_ixOx (s := 6) (de_own (i := 6) g rfl) rfl (de_callO (i := 0) g (c_L_next T) (des_N (de_own (i := 0) g rfl) (des_C (de_lenO (s := 6) g T.b_len (de_own (i := 6) g rfl) rfl) des_nil)) rfl rfl ⟨_, _, ⟨by rw [List.length_replicate]; omega, by rw [List.length_replicate]; omega⟩, rfl, rfl, rfl, rfl⟩) eI) ?_)
  refine DB.ex (i := 7) rfl fun x hx => ?_
  have hx' : Item 11 x := hx.mono (by omega)
  have lc := fun l h => len_cutD ws l h
  have fin : ∀ l h l' h', Part (.tuple ((cutD ws l h ++ [x]) ++ cutD ws l' h')) := fun l h l' h' => part_tup (by have := lc l h; have := lc l' h'; rw [List.length_append, List.length_append]; simp only [List.length_cons, List.length_nil]; omega) fun y hy => by
    rcases List.mem_append.mp hy with hy | hy
    · rcases List.mem_append.mp hy with hy | hy
      · exact hI y (mem_cutD hy)
      · rw [List.mem_singleton.mp hy]; exact hx'
    · exact hI y (mem_cutD hy)
  refine db_cons ?_
  refine (ds_ifE (dt_cmp op_lt (de_slot (i := 3) g rfl) de_int vr_lt) (fun _ => db_one (ds_ret (de_catI (de_catI (de_sliceI (de_slot (i := 2) g rfl) (lo := none) (l := none) True.intro (hi := some _) (h := some _) (de_slot (i := 4) g rfl)) (DE.tupI (ds := [_]) (de_tup (des_N (de_slot (i := 7) g rfl) des_nil))) (by have := lc none (some j); simp only [List.length_cons, List.length_nil]; omega)) (de_sliceI (de_slot (i := 2) g rfl) (lo := some _) (l := some _) (de_add (de_slot (i := 4) g rfl) de_int) (hi := none) (h := none) True.intro) (by have := lc none (some j); have := lc (some (j + 1)) none; rw [List.length_append]; simp only [List.length_cons, List.length_nil]; omega)) fun v F p => ⟨⟨_, fin _ _ _ _, p⟩, rfl⟩)) (fun _ => db_nil ?_))
  refine db_cons ?_
  refine (ds_ifE (dt_cmp op_eq (de_slot (i := 3) g rfl) de_int vr_eqI) (fun _ => db_one (ds_ret (de_catI (de_catI (de_sliceI (de_slot (i := 2) g rfl) (lo := none) (l := none) True.intro (hi := some _) (h := some _) (de_slot (i := 4) g rfl)) (DE.tupI (ds := [_]) (de_tup (des_N (de_slot (i := 7) g rfl) des_nil))) (by have := lc none (some j); simp only [List.length_cons, List.length_nil]; omega)) (de_sliceI (de_slot (i := 2) g rfl) (lo := some _) (l := some _) (de_slot (i := 4) g rfl) (hi := none) (h := none) True.intro) (by have := lc none (some j); have := lc (some j) none; rw [List.length_append]; simp only [List.length_cons, List.length_nil]; omega)) fun v F p => ⟨⟨_, fin _ _ _ _, p⟩, rfl⟩)) (fun _ => db_nil ?_))
  exact db_one (ds_ret (de_slot (i := 2) g rfl) fun v F p => ⟨⟨_, pT ws (by omega) fun x hx => hx, p⟩, rfl⟩)
end
end K35
set_option Elab.async false
set_option linter.all false
set_option maxRecDepth 100000
set_option maxHeartbeats 1000000
set_option exponentiation.threshold 20000
/-! turned divisors, turned indices -/
namespace K35
open PySem PySem.Spec L2
theorem eI_of {P : PyData → Prop} {m : Nat} {i : Int} (h : 0 ≤ i ∧ i < (m : Int)) : ∃ τ', atI (List.replicate m (Ex P)) i = some τ' ∧ ∀ v F, τ'.p v F → (Ex P).p v F := und_at (fun τ hτ v F p => by rw [List.eq_of_mem_replicate hτ] at p; exact p) h.1 (by rw [List.length_replicate]; exact h.2)
section
variable {W : Wd}
def S_tv : OTy → List Ty → OTy → Ty → Prop := fun ω τs ω' τ => ∃ (a : Addr) (ns : List Int), (1 ≤ ns.length ∧ ns.length ≤ 10 ∧ ∀ x ∈ ns, 0 ≤ x ∧ x ≤ 2 ^ 5000) ∧ ω = STRM ∧ τs = [At a, Is (.tuple (ns.map I'))] ∧ ω' = STRM ∧ τ = Ex Part
theorem c_L_turned_divisors (T : Txt W) : Cal W "_law_turned_divisors" 2 ["_law_stream_here", "_law_divisors_here"] (spO 0 S_tv) := by
  refine cal_O T.d_L_turned_divisors sc_L_turned_divisors (by decide) (fun _ _ _ _ _ _ us hl => match us, hl with | [_, _], _ => rfl) (fun ω τs ω' τ h => by obtain ⟨_, _, _, _, rfl, _⟩ := h; rfl) fun X g a0 ω τs ω' τ h => ?_
  obtain ⟨aa, ns, ⟨n1, n10, hns⟩, rfl, rfl, rfl, rfl⟩ := h
  obtain ⟨B, hB1, hB, hns⟩ : ∃ B : Int, 1000 ≤ B ∧ (∀ z : Int, z ≤ B + B → z ≤ 2 ^ 6000) ∧ ∀ x ∈ ns, 0 ≤ x ∧ x ≤ B := ⟨2 ^ 5000, by decide +kernel, fun z hz => Int.le_trans hz (by decide +kernel), hns⟩
  have hI : ∀ x ∈ ns.map I', Item 11 x := ints_item (hB B (by omega)) fun x hx => (hns x hx).2
  have lT : (ns.map I').length = ns.length := List.length_map _
  have pT : ∀ ds : List PyData, ds.length ≤ 900 → (∀ x ∈ ds, x ∈ ns.map I') → Part (.tuple ds) := fun ds hl h => part_tup hl fun x hx => hI x (h x hx)
  have lc := fun l h => len_cutD (ns.map I') l h
  have cT : ∀ l h, Part (.tuple (cutD (ns.map I') l h)) := fun l h => pT _ (by have := lc l h; omega) fun x hx => mem_cutD hx
  refine db_cons ?_
  refine (ds_set (i := 2) g (de_callO (i := 0) g (c_L_next T) (des_N (de_own (i := 0) g rfl) (des_C (de_len g T.b_len (de_slot (i := 1) g rfl)) des_nil)) rfl rfl ⟨_, _, ⟨by omega, by omega⟩, rfl, rfl, rfl, rfl⟩) ?_)
  refine DB.ex (i := 2) rfl fun d hd => ?_
  obtain ⟨j, rfl, j0, jl⟩ := hd
  obtain ⟨u, rfl⟩ : ∃ u : Nat, j = u := ⟨j.toNat, by omega⟩
  have hu : u < ns.length := by omega
  have hx := hns _ (getD_mem hu)
  have xu := atI_I' hu
  generalize ns.getD u 0 = x at hx xu
  refine db_cons ?_
  refine (ds_set (i := 3) (τ := Is (.int x)) g (de_ixI (d := .int x) (de_slot (i := 1) g rfl) (de_slot (i := 2) g rfl) xu) ?_)
  refine db_cons ?_
  refine (ds_setF (i := 4) (ω := OL (List.replicate 8 (Ex (Item 11)))) g (df_lst2 (des_B (DE.ex (de_sub (de_slot (i := 3) g rfl) de_int) (item_int (hB _ (by omega)))) (des_B (DE.ex (de_add (de_slot (i := 3) g rfl) de_int) (item_int (hB _ (by omega)))) (des_K (DE.ex de_int (item_of (by decide +kernel))) (des_K (DE.ex de_bl (item_of (by decide +kernel))) (des_K (DE.ex de_non (item_of (by decide +kernel))) (des_K (DE.ex de_str (item_of (by decide +kernel))) (des_U (DE.ex (de_neg de_int) (item_of (by decide +kernel))) (des_B (DE.ex (de_mul (de_slot (i := 3) g rfl) de_int (by first | assumption | (refine .inl ⟨?_, ?_⟩ <;> omega) | (refine .inr ⟨?_, ?_⟩ <;> omega))) (item_int (hB _ (by omega)))) des_nil))))))))) fun po => ?_)
  refine db_cons ?_
  refine (ds_setF (i := 5) (ω := OL (List.replicate 9 (Ex Part))) g (df_lst2 (des_K (DE.ex de_non part_non) (des_C (DE.ex (DE.lstI (de_listOfT g T.b_list ((de_slot (i := 1) g rfl)).tupT)) (part_lst hI)) (des_S (DE.ex (de_revI (de_slot (i := 1) g rfl)) (pT _ (by rw [List.length_reverse]; omega) fun x hx => List.mem_reverse.mp hx)) (des_B (DE.ex (de_catI (de_slot (i := 1) g rfl) (de_sliceI (de_slot (i := 1) g rfl) (lo := some _) (l := some _) (de_neg de_int) (hi := none) (h := none) True.intro) ?_) ?_) (des_S (DE.ex (de_sliceI (de_slot (i := 1) g rfl) (lo := some _) (l := some _) de_int (hi := none) (h := none) True.intro) (cT _ _)) (des_T (DE.ex (DE.tupI (ds := []) (de_tup des_nil)) (pT [] (by simp) fun x hx => nomatch hx)) (des_B (DE.ex (de_repI (de_slot (i := 1) g rfl) de_int (fun e => by rw [e] at lT; simp at lT; omega) (by decide) (by decide) (by omega)) (part_tup ?_ fun x hx => ?_)) (des_C (DE.ex (DE.tupMI (xs := ns) (f := fun z => .int (z * 2)) (de_tupleOfL g T.b_tuple (DF.lst (df_map (v := 6) ns isI (fun z => Is (.int (z * 2))) g (by decide +kernel) (di_tupM (DE.tupM (de_slot (i := 1) g rfl))) (by omega) ⟨_, rfl, rfl⟩ fun z hz X' g' => (de_mul (de_slot (i := 6) g' rfl) de_int (by first | assumption | (refine .inl ⟨?_, ?_⟩ <;> omega) | (refine .inr ⟨?_, ?_⟩ <;> omega))))))) (part_tup ?_ fun x hx => ?_)) (des_S (DE.ex (de_sliceI (de_slot (i := 1) g rfl) (lo := none) (l := none) True.intro (hi := some _) (h := some _) de_int) (cT _ _)) des_nil)))))))))) fun pr => ?_)
  · have := lc (some (-1)) none; omega
  · refine pT _ ?_ fun x hx => (List.mem_append.mp hx).elim id mem_cutD
    have := lc (some (-1)) none
    rw [List.length_append]; omega
  · rw [len_rep, lT]
    show 21 * ns.length ≤ 900
    omega
  · obtain ⟨l, hl, hx⟩ := List.mem_flatten.mp hx
    rw [List.eq_of_mem_replicate hl] at hx
    exact hI x hx
  · rw [List.length_map]; omega
  · obtain ⟨z, hz, rfl⟩ := List.mem_map.mp hx
    have := hns z hz
    exact item_int (hB _ (by omega))
  refine db_cons ?_
  refine (ds_if (dt_cmp op_eq (de_callO (i := 0) g (c_L_next T) (des_cons (de_own (i := 0) g rfl) (des_cons de_int des_nil)) rfl rfl ⟨_, _, (by first | exact ⟨by decide, by decide⟩ | exact ⟨by omega, by omega⟩ | assumption), rfl, rfl, rfl, rfl⟩) (DE.intP (Pi := fun _ => True) de_int trivial) (vr_eqP (β := fun _ => True) fun _ _ _ _ => trivial)) (fun _ => db_one (ds_ret (de_ixOx (s := 5) (de_own (i := 5) g rfl) rfl (de_callO (i := 0) g (c_L_next T) (des_cons (de_own (i := 0) g rfl) (des_cons de_int des_nil)) rfl rfl ⟨_, _, (by first | exact ⟨by decide, by decide⟩ | exact ⟨by omega, by omega⟩ | assumption), rfl, rfl, rfl, rfl⟩) fun i hi => eI_of hi) fun v F p => ⟨p, rfl⟩)) (fun _ => db_nil ?_))
  refine db_one ?_
  refine (ds_ret (de_catT (de_catT ((de_sliceI (de_slot (i := 1) g rfl) (lo := none) (l := none) True.intro (hi := some _) (h := some _) (de_slot (i := 2) g rfl))).tupT (de_tup (des_cons (de_ixOx (s := 4) (de_own (i := 4) g rfl) rfl (de_callO (i := 0) g (c_L_next T) (des_cons (de_own (i := 0) g rfl) (des_cons de_int des_nil)) rfl rfl ⟨_, _, (by first | exact ⟨by decide, by decide⟩ | exact ⟨by omega, by omega⟩ | assumption), rfl, rfl, rfl, rfl⟩) fun i hi => eI_of (P := Item 11) hi) des_nil)) ?_) ((de_sliceI (de_slot (i := 1) g rfl) (lo := some _) (l := some _) (de_add (de_slot (i := 2) g rfl) de_int) (hi := none) (h := none) True.intro)).tupT ?_) fun v F p => ?_)
  · have := lc none (some (u : Int)); rw [List.length_map]; simp only [List.length_cons, List.length_nil]; omega
  · have := lc none (some (u : Int)); have := lc (some ((u : Int) + 1)) none; rw [List.length_append, List.length_map, List.length_map]; simp only [List.length_cons, List.length_nil]; omega
  · obtain ⟨ds, h1, h2, p⟩ := und_tup (P := Item 11) (und_app (und_app (und_map fun d hd => hI d (mem_cutD hd)) (und_ex (fun d h => h) und_nil)) (und_map fun d hd => hI d (mem_cutD hd))) p
    refine ⟨⟨_, part_tup ?_ h2, p⟩, rfl⟩
    have := lc none (some (u : Int)); have := lc (some ((u : Int) + 1)) none
    rw [h1, List.length_append, List.length_append, List.length_map, List.length_map]
    simp only [List.length_cons, List.length_nil]; omega
def S_tc : OTy → List Ty → OTy → Ty → Prop := fun ω τs ω' τ => ∃ (a : Addr) (ns : List Int), (ns.length ≤ 10 ∧ ∀ x ∈ ns, 0 ≤ x ∧ x ≤ 9) ∧ ω = STRM ∧ τs = [At a, Is (.tuple (ns.map I'))] ∧ ω' = STRM ∧ τ = Ex Part
theorem c_L_turned_chosen (T : Txt W) : Cal W "_law_turned_chosen" 2 ["_law_stream_here", "_law_chosen"] (spO 0 S_tc) := by
  refine cal_O T.d_L_turned_chosen sc_L_turned_chosen (by decide) (fun _ _ _ _ _ _ us hl => match us, hl with | [_, _], _ => rfl) (fun ω τs ω' τ h => by obtain ⟨_, _, _, _, rfl, _⟩ := h; rfl) fun X g a0 ω τs ω' τ h => ?_
  obtain ⟨aa, ns, ⟨n10, hns⟩, rfl, rfl, rfl, rfl⟩ := h
  have hB : (1000 : Int) ≤ 2 ^ 6000 := by decide +kernel
  have hI : ∀ x ∈ ns.map I', Item 11 x := ints_item hB fun x hx => by have := hns x hx; omega
  have lT : (ns.map I').length = ns.length := List.length_map _
  have pT : ∀ ds : List PyData, ds.length ≤ 900 → (∀ x ∈ ds, x ∈ ns.map I') → Part (.tuple ds) := fun ds hl h => part_tup hl fun x hx => hI x (h x hx)
  have lc := fun l h => len_cutD (ns.map I') l h
  have cT : ∀ l h, Part (.tuple (cutD (ns.map I') l h)) := fun l h => pT _ (by have := lc l h; omega) fun x hx => mem_cutD hx
  have aT : ∀ ds es : List PyData, ds.length ≤ 100 → es.length ≤ 100 → (∀ x ∈ ds, Item 11 x) → (∀ x ∈ es, Item 11 x) → Part (.tuple (ds ++ es)) := fun ds es h1 h2 h3 h4 => part_tup (by rw [List.length_append]; omega) fun x hx => (List.mem_append.mp hx).elim (h3 x) (h4 x)
  have oI : ∀ d, itemB 11 d = true → ∀ x ∈ [d], Item 11 x := fun d hd x hx => by rw [List.mem_singleton.mp hx]; exact item_of hd
  refine db_cons ?_
  refine (ds_set (i := 2) g (de_callO (i := 0) g (c_L_next T) (des_N (de_own (i := 0) g rfl) (des_B (de_add (de_len g T.b_len (de_slot (i := 1) g rfl)) de_int) des_nil)) rfl rfl ⟨_, _, ⟨by omega, by omega⟩, rfl, rfl, rfl, rfl⟩) ?_)
  refine DB.ex (i := 2) rfl fun d hd => ?_
  obtain ⟨j, rfl, j0, jl⟩ := hd
  refine db_cons ?_
  refine (ds_set (i := 3) g (de_callO (i := 0) g (c_L_next T) (des_cons (de_own (i := 0) g rfl) (des_cons de_int des_nil)) rfl rfl ⟨_, _, (by first | exact ⟨by decide, by decide⟩ | exact ⟨by omega, by omega⟩ | assumption), rfl, rfl, rfl, rfl⟩) ?_)
  refine DB.ex (i := 3) rfl fun d hd => ?_
  obtain ⟨m, rfl, m0, m9⟩ := hd
  refine db_cons ?_
  refine (ds_setF (i := 4) (ω := OL (List.replicate 10 (Ex Part))) g (df_lst2 (des_K (DE.ex de_non part_non) (des_C (DE.ex (DE.lstI (de_listOfT g T.b_list ((de_slot (i := 1) g rfl)).tupT)) (part_lst hI)) (des_S (DE.ex (de_revI (de_slot (i := 1) g rfl)) (pT _ (by rw [List.length_reverse]; omega) fun x hx => List.mem_reverse.mp hx)) (des_S (DE.ex (de_sliceI (de_slot (i := 1) g rfl) (lo := some _) (l := some _) de_int (hi := none) (h := none) True.intro) (cT _ _)) (des_S (DE.ex (de_sliceI (de_slot (i := 1) g rfl) (lo := none) (l := none) True.intro (hi := some _) (h := some _) (de_neg de_int)) (cT _ _)) (des_B (DE.ex (de_catI (de_slot (i := 1) g rfl) (DE.tupI (ds := [_]) (de_tup (des_K de_int des_nil))) ?_) (aT _ _ (by omega) (by simp) hI (oI _ (by decide +kernel)))) (des_B (DE.ex (de_catI (DE.tupI (ds := [_]) (de_tup (des_U (de_neg de_int) des_nil))) (de_slot (i := 1) g rfl) ?_) (aT _ _ (by simp) (by omega) (oI _ (by decide +kernel)) hI)) (des_B (DE.ex (de_catI (DE.tupI (ds := [_]) (de_tup (des_K de_bl des_nil))) (de_sliceI (de_slot (i := 1) g rfl) (lo := some _) (l := some _) de_int (hi := none) (h := none) True.intro) ?_) (aT _ _ (by simp) (by have := lc (some 1) none; omega) (oI _ (by decide +kernel)) fun x hx => hI x (mem_cutD hx))) (des_B (DE.ex (de_catI (de_sliceI (de_slot (i := 1) g rfl) (lo := none) (l := none) True.intro (hi := some _) (h := some _) (de_slot (i := 2) g rfl)) (de_sliceI (de_slot (i := 1) g rfl) (lo := some _) (l := some _) (de_add (de_slot (i := 2) g rfl) de_int) (hi := none) (h := none) True.intro) ?_) (aT _ _ (by have := lc none (some j); omega) (by have := lc (some (j + 1)) none; omega) (fun x hx => hI x (mem_cutD hx)) fun x hx => hI x (mem_cutD hx))) (des_C (DE.ex (DE.tupMI (xs := List.range 10) (f := fun k : Nat => .int (k : Int)) (de_tupRange (m := 10) g T.b_tuple T.b_range (DE.isE de_int rfl))) (part_tup (by simp) fun x hx => ?_)) des_nil))))))))))) fun pr => ?_)
  · simp only [List.length_cons, List.length_nil]; omega
  · simp only [List.length_cons, List.length_nil]; omega
  · have := lc (some 1) none; simp only [List.length_cons, List.length_nil]; omega
  · have := lc none (some j); have := lc (some (j + 1)) none; omega
  · obtain ⟨k, hk, rfl⟩ := List.mem_map.mp hx
    have := List.mem_range.mp hk
    exact item_int (Int.le_trans (by omega) hB)
  refine db_cons ?_
  refine (ds_append (s := 4) (τ := Ex Part) g rfl (DE.sub (de_tupleOfS (f := fun (q : { ms : List Int // ms.Perm (ns.filter (fun z => !decide (z = m)) ++ [m]) ∧ ms.Pairwise (· ≤ ·) }) => q.1.map isI) g T.b_tuple (de_sortedI (ns := ns.filter (fun z => !decide (z = m)) ++ [m]) g T.b_sorted (by
    rw [List.map_append]
    exact de_catL (DF.lst (df_fil (v := 5) ns isI (fun z => !decide (z = m)) isI g (by decide +kernel) (di_tupM (DE.tupM (de_slot (i := 1) g rfl))) (by omega) ⟨_, rfl, rfl⟩ (fun z hz X' g' => dts_one (dt_cmp op_ne (de_slot (i := 5) g' rfl) (de_slot (i := 3) g' rfl) vr_neI)) fun z hz hb X' g' => (de_slot (i := 5) g' rfl))) (DF.lst (df_lst2 (des_N (de_slot (i := 3) g rfl) des_nil))) (by
      have := List.length_filter_le (fun z => !decide (z = m)) ns
      rw [List.length_map]
      show _ + 1 ≤ _
      omega)))) fun v F p => ?_) (by rw [List.length_replicate]; decide) ?_)
  · obtain ⟨⟨ms, hp, _⟩, p⟩ := p
    have hl := hp.length_eq
    have := List.length_filter_le (fun z => !decide (z = m)) ns
    rw [List.length_append] at hl
    simp only [List.length_cons, List.length_nil] at hl
    refine ⟨.tuple (ms.map I'), part_tup (by rw [List.length_map]; omega) (ints_item hB fun z hz => ?_), tup_is.mp (by rw [List.map_map]; exact p)⟩
    rcases List.mem_append.mp (hp.mem_iff.mp hz) with q | q
    · have := hns z (List.mem_filter.mp q).1; omega
    · rw [List.mem_singleton.mp q]; omega
  rw [show [Ex Part] = List.replicate 1 (Ex Part) from rfl, List.replicate_append_replicate]
  exact db_one (ds_ret (de_ixOx (s := 4) (de_own (i := 4) g rfl) rfl (de_callO (i := 0) g (c_L_next T) (des_cons (de_own (i := 0) g rfl) (des_cons de_int des_nil)) rfl rfl ⟨_, _, (by first | exact ⟨by decide, by decide⟩ | exact ⟨by omega, by omega⟩ | assumption), rfl, rfl, rfl, rfl⟩) fun i hi => eI_of hi) fun v F p => ⟨p, rfl⟩)
end
end K35
set_option Elab.async false
set_option linter.all false
set_option maxRecDepth 100000
set_option maxHeartbeats 1000000
set_option exponentiation.threshold 20000
/-! some value; equal truth values -/
namespace K35
open PySem PySem.Spec L2
def ValOK (d : PyData) : Prop := ∀ ds, d = .tuple ds → ∀ x ∈ ds, Part x
theorem val_tup {ds : List PyData} (h : ∀ x ∈ ds, Part x) : ValOK (.tuple ds) := fun ds' e => by cases e; exact h
theorem mem3 {a b c : PyData} (ha : Part a) (hb : Part b) (hc : Part c) : ∀ x ∈ [a, b, c], Part x := fun x hx => by
  simp only [List.mem_cons, List.not_mem_nil, or_false] at hx
  rcases hx with rfl | rfl | rfl
  · exact ha
  · exact hb
  · exact hc
/-- what the evidence is: its parts -/
def Told (d : PyData) : Prop := ∃ (w : Str) (f : PyData) (ns : List Int), d = .tuple [.str w, f, .tuple (ns.map I')] ∧ Part (.str w) ∧ Part f ∧ Part (.tuple (ns.map I')) ∧ (1 ≤ ns.length ∧ ns.length ≤ 10 ∧ ∀ x ∈ ns, 0 ≤ x ∧ x ≤ 2 ^ 5000) ∧
  ((w = "most" ∧ ∃ ws, f = .tuple ws ∧ ws.length ≤ 10 ∧ ∀ x ∈ ws, Item 6 x) ∨ (w = "none" ∧ ∃ cs : List Int, f = .tuple (cs.map I') ∧ cs.length ≤ 10 ∧ ∀ x ∈ cs, 0 ≤ x ∧ x ≤ 9))
theorem told_of {rs : List Res} {d : PyData} (h : EvOK (allL rs 9) d) : Told d := by
  have hB : (1000 : Int) ≤ 2 ^ 6000 := by decide +kernel
  have num : ∀ (n : Nat) (d2 : PyData), 1 ≤ n → n ≤ 10 → NumsOK n d2 → ∃ ns : List Int, d2 = .tuple (ns.map I') ∧ Part d2 ∧ (1 ≤ ns.length ∧ ns.length ≤ 10 ∧ ∀ x ∈ ns, 0 ≤ x ∧ x ≤ 2 ^ 5000) := fun n d2 h1 h2 ⟨ns, e, hl, hn⟩ => by
    subst e
    exact ⟨ns, rfl, part_tup (by rw [List.length_map]; omega) (ints_item (B := 2 ^ 5000) (by decide +kernel) fun x hx => (hn x hx).2), by omega, by omega, hn⟩
  rcases h with ⟨ws, d2, rfl, ⟨k, hk, hl, hw⟩, hn⟩ | ⟨c, d2, n, rfl, ⟨cs, rfl, hl, hc⟩, ⟨n1, n10⟩, hn⟩
  · obtain ⟨ns, rfl, hp, hns⟩ := num 10 d2 (by omega) (by omega) hn
    have hI : ∀ x ∈ ws, Item 6 x := fun x hx => by
      obtain ⟨c, hc, rfl⟩ := hw x hx
      exact nm_item hc
    exact ⟨_, _, ns, rfl, part_str (by decide +kernel), part_tup (by omega) fun x hx => (hI x hx).mono (by omega), hp, hns, .inl ⟨rfl, ws, rfl, by omega, hI⟩⟩
  · obtain ⟨ns, rfl, hp, hns⟩ := num n d2 n1 n10 hn
    exact ⟨_, _, ns, rfl, part_str (by decide +kernel), part_tup (by rw [List.length_map]; omega) (ints_item hB fun x hx => by have := hc x hx; omega), hp, hns, .inr ⟨rfl, cs, rfl, hl, hc⟩⟩
section
variable {W : Wd}
def S_so : OTy → List Ty → OTy → Ty → Prop := fun ω τs ω' τ => ∃ (a : Addr) (rs : List Res) (d : PyData), (Wf rs ∧ Told d) ∧ ω = STRM ∧ τs = [At a, Is (encRs rs), Is d] ∧ ω' = STRM ∧ τ = Ex ValOK
theorem c_L_some (T : Txt W) : Cal W "_law_some" 3 ["_law_stream_here", "_law_results_here", "_law_told"] (spO 0 S_so) := by
  refine cal_O T.d_L_some sc_L_some (by decide) (fun _ _ _ _ _ _ us hl => match us, hl with | [_, _, _], _ => rfl) (fun ω τs ω' τ h => by obtain ⟨_, _, _, _, _, rfl, _⟩ := h; rfl) fun X g a0 ω τs ω' τ h => ?_
  obtain ⟨aa, rs, d, ⟨w, wd, f, ns, rfl, pw, pf, ps, hns, hf⟩, rfl, rfl, rfl, rfl⟩ := h
  refine db_cons ?_
  refine (ds_asg (de_slot (i := 2) g rfl) (DG.tupI (dg_tup g (dgs_cons (dg_name (i := 3) g (by first | exact .inl rfl | exact .inr ⟨rfl, rfl⟩) rfl (lt_of_get rfl) (dgs_cons (dg_name (i := 4) g (by first | exact .inl rfl | exact .inr ⟨rfl, rfl⟩) rfl (lt_of_get rfl) (dgs_cons (dg_name (i := 5) g (by first | exact .inl rfl | exact .inr ⟨rfl, rfl⟩) rfl (lt_of_get rfl) (dgs_nil ?_))))))))))
  refine db_cons ?_
  refine (ds_set (i := 6) g (de_callO (i := 0) g (c_L_next T) (des_cons (de_own (i := 0) g rfl) (des_cons de_int des_nil)) rfl rfl ⟨_, _, (by first | exact ⟨by decide, by decide⟩ | exact ⟨by omega, by omega⟩ | assumption), rfl, rfl, rfl, rfl⟩) ?_)
  refine DB.ex (i := 6) rfl fun d hd => ?_
  obtain ⟨z, rfl, z0, z6⟩ := hd
  have p3 := mem3 pw pf ps
  refine db_cons ?_
  refine (ds_ifE (dt_cmp op_eq (de_slot (i := 6) g rfl) de_int vr_eqI) (fun _ => ?_) (fun _ => db_nil ?_))
  · refine db_cons ?_
    refine (ds_setF (i := 7) (ω := OL (List.replicate 9 (Ex ValOK))) g (df_lst2 (des_K (DE.ex de_non fun ds e => nomatch e) (des_C (DE.ex (DE.lstI (de_listOfT g T.b_list ((de_slot (i := 2) g rfl)).tupT)) fun ds e => nomatch e) (des_S (DE.ex (de_sliceI (de_slot (i := 2) g rfl) (lo := none) (l := none) True.intro (hi := some _) (h := some _) de_int) (val_tup fun x hx => p3 x (mem_cutD hx))) (des_B (DE.ex (de_catI (de_slot (i := 2) g rfl) (DE.tupI (ds := [_]) (de_tup (des_K de_int des_nil))) (by show 3 + 1 ≤ 1000000; decide)) (val_tup fun x hx => ?_)) (des_T (DE.ex (DE.tupI (ds := [_, _, _]) (de_tup (des_K de_str (des_N (de_slot (i := 4) g rfl) (des_N (de_slot (i := 5) g rfl) des_nil))))) (val_tup (mem3 (part_str (by decide +kernel)) pf ps))) (des_T (DE.ex (DE.tupI (ds := [_, _, _]) (de_tup (des_K de_non (des_N (de_slot (i := 4) g rfl) (des_N (de_slot (i := 5) g rfl) des_nil))))) (val_tup (mem3 part_non pf ps))) (des_T (DE.ex (DE.tupI (ds := [_, _, _]) (de_tup (des_N (de_slot (i := 3) g rfl) (des_N (de_slot (i := 5) g rfl) (des_N (de_slot (i := 4) g rfl) des_nil))))) (val_tup (mem3 pw ps pf))) (des_T (DE.ex (DE.tupI (ds := [_, _, _]) (de_tup (des_K de_str (des_N (de_slot (i := 4) g rfl) (des_N (de_slot (i := 5) g rfl) des_nil))))) (val_tup (mem3 (part_str (by decide +kernel)) pf ps))) (des_T (DE.ex (DE.tupI (ds := [_, _, _]) (de_tup (des_K de_str (des_N (de_slot (i := 4) g rfl) (des_N (de_slot (i := 5) g rfl) des_nil))))) (val_tup (mem3 (part_str (by decide +kernel)) pf ps))) des_nil)))))))))) fun po => ?_)
    · rcases List.mem_append.mp hx with hx | hx
      · exact p3 x hx
      · rw [List.mem_singleton.mp hx]; exact part_int
    exact db_one (ds_ret (de_ixOx (s := 7) (de_own (i := 7) g rfl) rfl (de_callO (i := 0) g (c_L_next T) (des_cons (de_own (i := 0) g rfl) (des_cons de_int des_nil)) rfl rfl ⟨_, _, (by first | exact ⟨by decide, by decide⟩ | exact ⟨by omega, by omega⟩ | assumption), rfl, rfl, rfl, rfl⟩) fun i hi => eI_of hi) fun v F p => ⟨p, rfl⟩)
  rcases hf with ⟨rfl, ws, rfl, hl, hws⟩ | ⟨rfl, cs, rfl, hl, hcs⟩
  · refine db_cons ?_
    refine (ds_ifE (DW.dt (dw_andE (dt_cmp op_lt (de_slot (i := 6) g rfl) de_int vr_lt) (fun _ => (dw_and1 (dt_cmp op_eq (de_slot (i := 3) g rfl) de_str vr_eqS))))) (fun _ => db_one (ds_ret (de_tup (τs := [Ex fun d => d = .str "most", Ex Part, Ex fun d => d = .tuple (ns.map I')]) (des_N (DE.ex (de_slot (i := 3) g rfl) rfl) (des_C (de_callO (i := 0) g (c_L_turned_steps T) (des_N (de_own (i := 0) g rfl) (des_N (de_slot (i := 1) g rfl) (des_N (de_slot (i := 4) g rfl) des_nil))) rfl rfl ⟨_, rs, ws, ⟨w, hl, hws⟩, rfl, rfl, rfl, rfl⟩) (des_N (DE.ex (de_slot (i := 5) g rfl) rfl) des_nil)))) fun v F p => ?_)) (fun q => db_nil ?_))
    · obtain ⟨a, b, c, rfl, hb, rfl, p⟩ := tup3x p
      exact ⟨⟨_, val_tup (mem3 pw hb ps), p⟩, rfl⟩
    have q3 : ¬ z < 3 := by simpa using q
    refine db_cons ?_
    refine (ds_ifE (dt_cmp op_lt (de_slot (i := 6) g rfl) de_int vr_lt) (fun q => absurd (of_decide_eq_true q) q3) (fun _ => db_nil ?_))
    refine db_cons ?_
    refine (ds_ifE (dt_cmp op_lt (de_slot (i := 6) g rfl) de_int vr_lt) (fun _ => db_one (ds_ret (de_tup (τs := [Ex fun d => d = .str "most", Ex fun d => d = .tuple ws, Ex Part]) (des_N (DE.ex (de_slot (i := 3) g rfl) rfl) (des_N (DE.ex (de_slot (i := 4) g rfl) rfl) (des_C (de_callO (i := 0) g (c_L_turned_divisors T) (des_N (de_own (i := 0) g rfl) (des_N (de_slot (i := 5) g rfl) des_nil)) rfl rfl ⟨_, ns, hns, rfl, rfl, rfl, rfl⟩) des_nil)))) fun v F p => ?_)) (fun q => db_nil ?_))
    · obtain ⟨a, b, c, rfl, rfl, hc, p⟩ := tup3x p
      exact ⟨⟨_, val_tup (mem3 pw pf hc), p⟩, rfl⟩
    exact db_one (ds_ret (de_slot (i := 2) g rfl) fun v F p => ⟨⟨_, val_tup p3, p⟩, rfl⟩)
  · refine db_cons ?_
    refine (ds_ifE (b1 := false) (DT.eqE (DW.dt (dw_andE (dt_cmp op_lt (de_slot (i := 6) g rfl) de_int vr_lt) (fun _ => (dw_and1 (dt_cmp op_eq (de_slot (i := 3) g rfl) de_str vr_eqS))))) (by rw [show decide (("none" : Str) = "most") = false by decide +kernel, Bool.and_false])) (fun q => nomatch q) (fun _ => db_nil ?_))
    refine db_cons ?_
    refine (ds_ifE (dt_cmp op_lt (de_slot (i := 6) g rfl) de_int vr_lt) (fun _ => db_one (ds_ret (de_tup (τs := [Ex fun d => d = .str "none", Ex Part, Ex fun d => d = .tuple (ns.map I')]) (des_N (DE.ex (de_slot (i := 3) g rfl) rfl) (des_C (de_callO (i := 0) g (c_L_turned_chosen T) (des_N (de_own (i := 0) g rfl) (des_N (de_slot (i := 4) g rfl) des_nil)) rfl rfl ⟨_, cs, ⟨hl, hcs⟩, rfl, rfl, rfl, rfl⟩) (des_N (DE.ex (de_slot (i := 5) g rfl) rfl) des_nil)))) fun v F p => ?_)) (fun q => db_nil ?_))
    · obtain ⟨a, b, c, rfl, hb, rfl, p⟩ := tup3x p
      exact ⟨⟨_, val_tup (mem3 pw hb ps), p⟩, rfl⟩
    refine db_cons ?_
    refine (ds_ifE (dt_cmp op_lt (de_slot (i := 6) g rfl) de_int vr_lt) (fun _ => db_one (ds_ret (de_tup (τs := [Ex fun d => d = .str "none", Ex fun d => d = .tuple (cs.map I'), Ex Part]) (des_N (DE.ex (de_slot (i := 3) g rfl) rfl) (des_N (DE.ex (de_slot (i := 4) g rfl) rfl) (des_C (de_callO (i := 0) g (c_L_turned_divisors T) (des_N (de_own (i := 0) g rfl) (des_N (de_slot (i := 5) g rfl) des_nil)) rfl rfl ⟨_, ns, hns, rfl, rfl, rfl, rfl⟩) des_nil)))) fun v F p => ?_)) (fun q => db_nil ?_))
    · obtain ⟨a, b, c, rfl, rfl, hc, p⟩ := tup3x p
      exact ⟨⟨_, val_tup (mem3 pw pf hc), p⟩, rfl⟩
    exact db_one (ds_ret (de_slot (i := 2) g rfl) fun v F p => ⟨⟨_, val_tup p3, p⟩, rfl⟩)
def S_eq : List Ty → Ty → Prop := fun τs τ => ∃ a b : Bool, τs = [BI a, BI b] ∧ τ = BI (decide (a = b))
theorem c_L_equal (T : Txt W) : Cal W "_law_equal" 1 ["_law_actual", "_law_due"] (spP S_eq) := by
  refine cal_P T.d_L_equal sc_L_equal (by decide) (fun _ _ _ _ _ _ us hl => match us, hl with | [_, _], _ => rfl) (fun τs τ h => by obtain ⟨_, _, rfl, _⟩ := h; rfl) fun X g τs τ h => ?_
  obtain ⟨a, b, rfl, rfl⟩ := h
  refine DB.ex (i := 0) rfl fun d hd => ?_
  obtain ⟨_, rfl, rfl⟩ := hd
  refine DB.ex (i := 1) rfl fun d hd => ?_
  obtain ⟨_, rfl, rfl⟩ := hd
  refine db_cons ?_
  refine (ds_ifE (b1 := false) (DT.eqE (dt_isN (de_slot (i := 1) g rfl)) rfl) (fun q => nomatch q) (fun _ => db_nil ?_))
  refine db_cons ?_
  refine (ds_ifE (b1 := true) (DT.eqE (dt_val (de_isBool g T.b_isinstance T.b_bool (de_slot (i := 1) g rfl))) rfl) (fun _ => db_one (ds_retB (de_andE (de_isBool g T.b_isinstance T.b_bool (de_slot (i := 0) g rfl)) (fun _ => de_one (de_cmp op_eq (de_slot (i := 0) g rfl) (de_slot (i := 1) g rfl) vr_eqB))) ?_)) (fun q => nomatch q))
  show (true && _) = _
  rw [Bool.true_and]
end
end K35
set_option Elab.async false
set_option linter.all false
set_option maxRecDepth 100000
set_option maxHeartbeats 2000000
set_option exponentiation.threshold 20000
/-! the law -/
namespace K35
open PySem PySem.Spec L2
def RatP (d : PyData) : Prop := Sh d ∧ BdT (2 ^ 1100) d
def ratPB (d : PyData) : Bool := d.canLay0 && decide (d.depth ≤ 12) && (match d with | .tuple ds => ds.all (fun x => match x with | .int i => decide (i ≤ 1000) | _ => true) | _ => true)
theorem ratP_tup {ds : List PyData} (h : ∀ x ∈ ds, ShK 5 x ∧ ∀ i, x = .int i → i ≤ 2 ^ 1100) : RatP (.tuple ds) := ⟨(ShK.tup fun x hx => (h x hx).1).sh (by omega), fun ns e n hn => by
  cases e
  exact (h (.int n) (List.mem_map.mpr ⟨n, hn, rfl⟩)).2 n rfl⟩
theorem ratP_of {d : PyData} (h : ratPB d = true) : RatP d := by
  unfold ratPB at h
  rw [Bool.and_eq_true, Bool.and_eq_true] at h
  obtain ⟨⟨h1, h2⟩, h3⟩ := h
  refine ⟨ShK.sh (k := 12) ⟨h1, of_decide_eq_true h2⟩ (by omega), fun ns e n hn => ?_⟩
  subst e
  have h4 := List.all_eq_true.mp h3 (.int n) (List.mem_map.mpr ⟨n, hn, rfl⟩)
  have : n ≤ 1000 := of_decide_eq_true h4
  exact Int.le_trans this (by decide +kernel)
theorem ratP_lst {ds : List PyData} (h : ∀ x ∈ ds, ShK 5 x) : RatP (.list ds) := ⟨(ShK.lst h).sh (by omega), fun ns e => nomatch e⟩
theorem mem2 {Q : PyData → Prop} {a b : PyData} (ha : Q a) (hb : Q b) : ∀ x ∈ [a, b], Q x := fun x hx => by
  simp only [List.mem_cons, List.not_mem_nil, or_false] at hx
  rcases hx with rfl | rfl
  · exact ha
  · exact hb
theorem eqv_due (o : Option (Nat × Nat)) : PyData.eqv (encRt o) (encRt o) = true := by
  cases o with
  | none => simp only [encRt, PyData.eqv]
  | some x => simp [encRt, ratD, PyData.eqv, PyData.eqvAll]
/-- what both judges ask -/
theorem pre_of {rs : List Res} (w : Wf rs) (nr : NoRound (allL rs (topN rs))) {a b : Nat} (h1 : a ≤ 8) (h2 : b ≤ 8) {r v : PyData} (hr : BdT (2 ^ 1100) r) (hv : ValOK v) : AccPre rs a b r v ∧ RatPre rs a b r v := by
  have h3 : ∀ ds, v = .tuple ds → (∀ x ∈ ds, Sh x) ∧ ∀ z x y, ds = [z, x, y] → Nice2 x ∧ Len1000 x ∧ BdT (2 ^ 6000) y := fun ds e => ⟨fun x hx => (hv ds e x hx).1.sh (by omega), fun z x y e2 => by
    subst e2
    have hx := hv _ e x (by simp)
    exact ⟨hx.nice2, hx.len, (hv _ e y (by simp)).bd⟩⟩
  exact ⟨⟨w, nr, by omega, by omega, hr, h3⟩, ⟨w, by omega, by omega, hr, h3⟩⟩
section
variable {W : Wd}
def S_so2 : OTy → List Ty → OTy → Ty → Prop := fun ω τs ω' τ => ∃ (a : Addr) (rs : List Res), Wf rs ∧ ω = STRM ∧ τs = [At a, Is (encRs rs), Ex (EvOK (allL rs 9))] ∧ ω' = STRM ∧ τ = Ex ValOK
theorem c_L_some2 (T : Txt W) : Cal W "_law_some" 3 ["_law_stream_here", "_law_results_here", "_law_told"] (spO 0 S_so2) := (c_L_some T).wideO fun ω τs ω' τ h vs F p => by
  obtain ⟨a, rs, w, rfl, rfl, rfl, rfl⟩ := h
  cases p with
  | cons p1 p =>
    cases p with
    | cons p2 p =>
      cases p with
      | cons p3 p =>
        cases p
        obtain ⟨d, hd, p3⟩ := p3
        exact ⟨_, _, ⟨a, rs, d, ⟨w, told_of hd⟩, rfl, rfl, rfl, rfl⟩, .cons p1 (.cons p2 (.cons p3 .nil)), fun w F' q => q⟩
def S_law (W : Wd) : List Ty → Ty → Prop := fun τs τ => ∃ ns : List Int, ns.length ≤ 100000000 ∧ τs = [LstK W.K ns] ∧ τ = Is (.bool true)
theorem law_ok (T : Txt W) {f : Addr} {fd : FuncData} (Fd : FunD W.K "law" "law" (defArgs s_law) (defBody s_law) (defScope s_law) [] [] f fd) : FnOk W.P W.w W.K W.mg W.base CX0 8 f fd ["_law_script"] (spP (S_law W)) := by
  refine fn_ok Fd sc_law (by decide) (fun τs τ h => by obtain ⟨_, _, rfl, _⟩ := h; rfl) fun X g τs τ h => ?_
  obtain ⟨ns, hl, rfl, rfl⟩ := h
  refine db_cons ?_
  refine (ds_setF (i := 1) (ω := STRM) g (df_call g (c_L_stream T) (des_N (de_slot (i := 0) g rfl) des_nil) ⟨ns, hl, rfl, rfl⟩) fun st => ?_)
  refine db_cons ?_
  refine (ds_asg (τ := Ex RowsOK) (de_callO (i := 1) g (c_L_results T) (des_N (de_own (i := 1) g rfl) (des_K de_int des_nil)) rfl rfl ⟨_, rfl, rfl, rfl, rfl⟩) (DG.ex fun d hd => ?_))
  obtain ⟨rs, dv, rfl, w⟩ := hd
  refine (DG.lstI (dg_lst g (dgs_cons (dg_name (i := 2) g (by first | exact .inl rfl | exact .inr ⟨rfl, rfl⟩) rfl (lt_of_get rfl) (dgs_cons (dg_name (i := 3) g (by first | exact .inl rfl | exact .inr ⟨rfl, rfl⟩) rfl (lt_of_get rfl) (dgs_nil ?_)))))))
  refine db_cons ?_
  refine (ds_ifE (dt_isNx (de_call g (c_L_told_divisors T) (des_N (de_slot (i := 2) g rfl) des_nil) ⟨rs, w, rfl, rfl⟩)) (fun _ => db_one (ds_ret de_bl fun v F p => p)) (fun hz => db_nil ?_))
  have nr := told_noRound w hz
  refine db_cons ?_
  refine (ds_for g (di_rangeM (m := 5) g T.b_range de_int rfl (by omega)) fun ys hy => ⟨fun i ρ' => ∃ s4 s5 s6 s7 s8 s9 s10 s11 s12 s13 : Sl, ρ' = [.dat (LstK W.K ns), .own st STRM, .dat (Is (encRs rs)), .dat (Is dv), s4, s5, s6, s7, s8, s9, s10, s11, s12, s13], ⟨_, _, _, _, _, _, _, _, _, _, rfl⟩, ?_, ?_⟩)
  rotate_left
  · rintro ρ' ⟨s4, s5, s6, s7, s8, s9, s10, s11, s12, s13, rfl⟩
    exact db_one (ds_ret de_bl fun v F p => p)
  rintro i y ρ' ey ⟨s4, s5, s6, s7, s8, s9, s10, s11, s12, s13, rfl⟩
  subst hy
  obtain ⟨i', ei, rfl⟩ := map_get ey
  refine (dg_name (i := 4) g (by first | exact .inl rfl | exact .inr ⟨rfl, rfl⟩) rfl (lt_of_get rfl) ?_)
  refine db_cons ?_
  refine (ds_set (i := 5) g (de_callO (i := 1) g (c_L_next T) (des_cons (de_own (i := 1) g rfl) (des_cons de_int des_nil)) rfl rfl ⟨_, _, (by first | exact ⟨by decide, by decide⟩ | exact ⟨by omega, by omega⟩ | assumption), rfl, rfl, rfl, rfl⟩) ?_)
  refine DB.ex (i := 5) rfl fun d hd => ?_
  obtain ⟨z, rfl, z0, z9⟩ := hd
  obtain ⟨a, rfl⟩ : ∃ a : Nat, z = a := ⟨z.toNat, by omega⟩
  have h1 : a ≤ 8 := by omega
  refine db_cons ?_
  refine (ds_set (i := 6) g (de_callO (i := 1) g (c_L_next T) (des_cons (de_own (i := 1) g rfl) (des_cons de_int des_nil)) rfl rfl ⟨_, _, (by first | exact ⟨by decide, by decide⟩ | exact ⟨by omega, by omega⟩ | assumption), rfl, rfl, rfl, rfl⟩) ?_)
  refine DB.ex (i := 6) rfl fun d hd => ?_
  obtain ⟨z, rfl, y0, y9⟩ := hd
  obtain ⟨b, rfl⟩ : ∃ b : Nat, z = b := ⟨z.toNat, by omega⟩
  have h2 : b ≤ 8 := by omega
  have hra : Wf rs ∧ a ≤ 8 ∧ b ≤ 8 := ⟨w, h1, h2⟩
  have hre : Wf rs ∧ NoRound (allL rs (topN rs)) ∧ (0 ≤ (a : Int) ∧ (a : Int) ≤ 8) ∧ (0 ≤ (b : Int) ∧ (b : Int) ≤ 8) := ⟨w, nr, by omega, by omega⟩
  refine db_cons ?_
  refine (ds_set (i := 7) g (de_call g (c_L_ratio T) (des_cons (de_slot (i := 2) g rfl) (des_cons (de_slot (i := 5) g rfl) (des_cons (de_slot (i := 6) g rfl) des_nil))) ⟨_, _, _, by assumption, rfl, rfl⟩) ?_)
  have hacc : ∀ ratio value, accB rs a b ratio value = true → ratio = encRt (dueO rs a b) := fun ratio value h => acc_due w h1 h2 h
  obtain ⟨B, hB1, hB2, hdue⟩ : ∃ B : Nat, 1000 ≤ B ∧ (∀ z : Int, z ≤ B + B → z ≤ 2 ^ 1100) ∧ ∀ x, dueO rs a b = some x → x.1 ≤ B ∧ x.2 ≤ B := ⟨1000 ^ 9, by decide, fun z hz => Int.le_trans hz (by decide +kernel), fun x hx => (due_small w hz (by omega) hx).2.2.2⟩
  generalize dueO rs a b = due at hacc hdue
  have hint : ∀ z : Int, z ≤ B + B → ShK 5 (.int z) ∧ ∀ i, PyData.int z = .int i → i ≤ 2 ^ 1100 := fun n hn => ⟨shK_int, fun i e => by cases e; exact hB2 _ hn⟩
  have pdue : RatP (encRt due) := by
    cases due with
    | none => exact ratP_of (by decide +kernel)
    | some x => exact ratP_tup (mem2 (hint x.1 (by have := (hdue x rfl).1; omega)) (hint x.2 (by have := (hdue x rfl).2; omega)))
  have shD : SeqAt.shaped (encRt due) = true := pdue.1
  refine db_cons ?_
  refine (ds_set (i := 8) (τ := Ex RatP) g (DE.ex (de_slot (i := 7) g rfl) pdue) ?_)
  refine db_join (fun ρ' => ∃ s9 : Sl, ρ' = [.dat (LstK W.K ns), .own st STRM, .dat (Is (encRs rs)), .dat (Is dv), .dat (natI i'), .dat (Is (.int a)), .dat (Is (.int b)), .dat (Is (encRt due)), .dat (Ex RatP), s9, s10, s11, s12, s13]) ?_ ?_
  · refine ds_if (dt_cmp op_eq (de_callO (i := 1) g (c_L_next T) (des_cons (de_own (i := 1) g rfl) (des_cons de_int des_nil)) rfl rfl ⟨_, _, (by first | exact ⟨by decide, by decide⟩ | exact ⟨by omega, by omega⟩ | assumption), rfl, rfl, rfl, rfl⟩) (DE.intP (Pi := fun _ => True) de_int trivial) (vr_eqP (β := fun _ => True) fun _ _ _ _ => trivial)) (fun _ => ?_) (fun _ => db_nil ⟨_, rfl⟩)
    refine db_cons ?_
    refine (ds_setF (i := 9) (ω := OL (List.replicate 8 (Ex RatP))) g (df_lst2 (des_K (DE.ex de_non (ratP_of (by decide +kernel))) (des_T (DE.ex (DE.tupI (ds := [_, _]) (de_tup (des_K de_int (des_K de_int des_nil)))) (ratP_of (by decide +kernel))) (des_T (DE.ex (DE.tupI (ds := [_, _]) (de_tup (des_K de_int (des_K de_int des_nil)))) (ratP_of (by decide +kernel))) (des_L (DE.ex (DE.lstI (ds := [_, _]) (df_lst (des_K de_int (des_K de_int des_nil))).lst) (ratP_of (by decide +kernel))) (des_T (DE.ex (DE.tupI (ds := [_]) (de_tup (des_K de_int des_nil))) (ratP_of (by decide +kernel))) (des_T (DE.ex (DE.tupI (ds := [_, _]) (de_tup (des_K de_bl (des_K de_int des_nil)))) (ratP_of (by decide +kernel))) (des_T (DE.ex (DE.tupI (ds := [_, _]) (de_tup (des_K de_int (des_K de_int des_nil)))) (ratP_of (by decide +kernel))) (des_K (DE.ex de_str (ratP_of (by decide +kernel))) des_nil))))))))) fun po => ?_)
    refine db_join (fun ρ' => ∃ (m : Nat) (pr : Addr), 8 ≤ m ∧ m ≤ 13 ∧ ρ' = [.dat (LstK W.K ns), .own st STRM, .dat (Is (encRs rs)), .dat (Is dv), .dat (natI i'), .dat (Is (.int a)), .dat (Is (.int b)), .dat (Is (encRt due)), .dat (Ex RatP), .own pr (OL (List.replicate m (Ex RatP))), s10, s11, s12, s13]) ?_ ?_
    · cases due with
      | none => exact ds_ifE (b1 := false) (DT.eqE (dt_notN (de_slot (i := 7) g rfl)) rfl) (fun q => nomatch q) (fun _ => db_nil ⟨8, po, by omega, by omega, rfl⟩)
      | some x =>
        have hx := hdue x rfl
        refine ds_ifE (b1 := true) (DT.eqE (dt_notN (de_slot (i := 7) g rfl)) rfl) (fun _ => ?_) (fun q => nomatch q)
        refine DB.freezeL (i := 9) (p := po) ?_ rfl
        show DB X _ [.dat (LstK W.K ns), .own st STRM, .dat (Is (encRs rs)), .dat (Is dv), .dat (natI i'), .dat (Is (.int a)), .dat (Is (.int b)), .dat (Is (.tuple [.int x.1, .int x.2])), .dat (Ex RatP), .dat (LstOf (List.replicate 8 (Ex RatP))), s10, s11, s12, s13] _
        refine db_one ?_
        refine (ds_setF (i := 9) (ω := OL (List.replicate 8 (Ex RatP) ++ List.replicate 5 (Ex RatP))) g (df_catL (de_slot (i := 9) g rfl) (DF.lst (df_lst2 (des_S (DE.ex (de_revI (de_slot (i := 7) g rfl)) (show RatP (.tuple [.int x.2, .int x.1]) from ratP_tup (mem2 (hint x.2 (by omega)) (hint x.1 (by omega))))) (des_T (DE.ex (DE.tupI (ds := [.int (x.1 * 2), .int (x.2 * 2)]) (de_tup (des_B (de_mul (de_ixI (d := .int x.1) (ds := [.int x.1, .int x.2]) (de_slot (i := 7) g rfl) de_int rfl) de_int (.inr ⟨by decide, by decide⟩)) (des_B (de_mul (de_ixI (d := .int x.2) (ds := [.int x.1, .int x.2]) (de_slot (i := 7) g rfl) de_int rfl) de_int (.inr ⟨by decide, by decide⟩)) des_nil)))) (ratP_tup (mem2 (hint _ (by omega)) (hint _ (by omega))))) (des_B (DE.ex (de_catI (de_slot (i := 7) g rfl) (DE.tupI (ds := [_]) (de_tup (des_K de_int des_nil))) (by show 2 + 1 ≤ 1000000; decide)) (ratP_tup fun y hy => (List.mem_append.mp hy).elim (mem2 (Q := fun y => ShK 5 y ∧ ∀ i, y = .int i → i ≤ 2 ^ 1100) (hint x.1 (by omega)) (hint x.2 (by omega)) y) fun hy => by rw [List.mem_singleton.mp hy]; exact hint 1 (by omega))) (des_C (DE.ex (DE.lstI (de_listOfT g T.b_list ((de_slot (i := 7) g rfl)).tupT)) (ratP_lst (mem2 shK_int shK_int))) (des_T (DE.ex (DE.tupI (ds := [.int (x.1 + 1), .int x.2]) (de_tup (des_B (de_add (de_ixI (d := .int x.1) (ds := [.int x.1, .int x.2]) (de_slot (i := 7) g rfl) de_int rfl) de_int) (des_S (de_ixI (d := .int x.2) (ds := [.int x.1, .int x.2]) (de_slot (i := 7) g rfl) de_int rfl) des_nil)))) (ratP_tup (mem2 (hint _ (by omega)) (hint _ (by omega))))) des_nil))))))) (by rw [List.length_replicate, List.length_replicate]; decide)) fun pr => ?_)
        exact ⟨13, pr, by omega, by omega, by rw [List.replicate_append_replicate]; rfl⟩
    rintro ρ' ⟨m, pr, hm1, hm2, rfl⟩
    refine db_one ?_
    refine (ds_set (i := 8) (τ := Ex RatP) g (de_ixOx (s := 9) (de_own (i := 9) g rfl) rfl (de_callO (i := 1) g (c_L_next T) (des_N (de_own (i := 1) g rfl) (des_C (de_lenO (s := 9) g T.b_len (de_own (i := 9) g rfl) rfl) des_nil)) rfl rfl ⟨_, _, ⟨by rw [List.length_replicate]; omega, by rw [List.length_replicate]; omega⟩, rfl, rfl, rfl, rfl⟩) fun i hi => eI_of (by rw [List.length_replicate] at hi; exact hi)) ?_)
    exact ⟨_, rfl⟩
  rintro ρ' ⟨t9, rfl⟩
  refine DB.ex (i := 8) rfl fun r hr => ?_
  have shR : SeqAt.shaped r = true := hr.1
  refine db_cons ?_
  refine (ds_set (i := 10) (τ := Ex ValOK) g (de_callO (i := 1) g (c_L_some2 T) (des_N (de_own (i := 1) g rfl) (des_N (de_slot (i := 2) g rfl) (des_C (de_call g (c_ratio_evidence T) (des_cons (de_slot (i := 2) g rfl) (des_cons (de_slot (i := 5) g rfl) (des_cons (de_slot (i := 6) g rfl) des_nil))) ⟨_, _, _, by assumption, rfl, rfl⟩) des_nil))) rfl rfl ⟨_, rs, w, rfl, rfl, rfl, rfl⟩) ?_)
  refine DB.ex (i := 10) rfl fun v hv => ?_
  obtain ⟨hap, hrp⟩ := pre_of w nr h1 h2 hr.2 hv
  refine db_cons ?_
  refine (ds_set (i := 11) g (de_call g (c_L_shows_ratio T) (des_cons (de_slot (i := 2) g rfl) (des_cons (de_slot (i := 5) g rfl) (des_cons (de_slot (i := 6) g rfl) (des_cons (de_slot (i := 8) g rfl) (des_cons (de_slot (i := 10) g rfl) des_nil))))) ⟨_, _, _, _, _, by assumption, rfl, rfl⟩) ?_)
  refine db_cons ?_
  refine (ds_ifE (b1 := false) (DT.eqE (DW.dt (dw_orE (dt_notE (dt_val (de_call g (c_L_equal T) (des_cons (de_call g (c_accepts_ratio T) (des_cons (de_slot (i := 2) g rfl) (des_cons (de_slot (i := 5) g rfl) (des_cons (de_slot (i := 6) g rfl) (des_cons (de_slot (i := 8) g rfl) (des_cons (de_slot (i := 10) g rfl) des_nil))))) ⟨_, _, _, _, _, by assumption, rfl, rfl⟩) (des_cons (de_slot (i := 11) g rfl) des_nil)) ⟨_, _, rfl, rfl⟩))) (fun _ => (dw_or1 (DW.dt (dw_andE (dt_val (de_slot (i := 11) g rfl)) (fun _ => (dw_and1 (dt_ne g (de_slot (i := 8) g rfl) (de_slot (i := 7) g rfl) (by first | assumption | rfl) (by first | assumption | rfl)))))))))) ?_) (fun q => nomatch q) (fun _ => db_nil ?_))
  · cases q : accB rs a b r v with
    | false => rfl
    | true =>
      rw [hacc r v q, eqv_due]
      rfl
  refine db_cons ?_
  refine (ds_set (i := 12) g (de_call g (c_ratio_evidence T) (des_cons (de_slot (i := 2) g rfl) (des_cons (de_slot (i := 5) g rfl) (des_cons (de_slot (i := 6) g rfl) des_nil))) ⟨_, _, _, by assumption, rfl, rfl⟩) ?_)
  refine DB.ex (i := 12) rfl fun d hd => ?_
  obtain ⟨wd, f, ms, rfl, pw, pf, ps, hms, _⟩ := told_of hd
  have p3 := mem3 pw pf ps
  refine db_one ?_
  refine (ds_for g (di_list (df_lst (des_cons de_int (des_cons de_int des_nil))).lst) fun ys hy => ⟨fun j ρ' => ∃ u10 u13 : Sl, ρ' = [.dat (LstK W.K ns), .own st STRM, .dat (Is (encRs rs)), .dat (Is dv), .dat (natI i'), .dat (Is (.int a)), .dat (Is (.int b)), .dat (Is (encRt due)), .dat (Is r), t9, u10, .dat (BI (accB rs a b r v)), .dat (Is (.tuple [.str wd, f, .tuple (ms.map I')])), u13], ⟨_, _, rfl⟩, ?_, ?_⟩)
  rotate_left
  · rintro ρ' ⟨u10, u13, rfl⟩
    exact ⟨_, _, _, _, _, _, _, _, _, _, rfl⟩
  rintro j y ρ' ey ⟨u10, u13, rfl⟩
  subst hy
  obtain ⟨mm, rfl⟩ : ∃ mm : Int, y = Is (.int mm) := match j, ey with
    | 0, e => ⟨8, (Option.some.inj e).symm⟩
    | 1, e => ⟨9, (Option.some.inj e).symm⟩
    | j + 2, e => by simp at e
  have l3 := len_cutD [.str wd, f, .tuple (ms.map I')] none (some 2)
  have lm := len_cutD (ms.map I') none (some mm)
  rw [List.length_map] at lm
  have hB6 : (2 : Int) ^ 5000 ≤ 2 ^ 6000 := by decide +kernel
  have hv2 : ValOK (.tuple (cutD [.str wd, f, .tuple (ms.map I')] none (some 2) ++ [.tuple (cutD (ms.map I') none (some mm))])) := val_tup fun x hx => (List.mem_append.mp hx).elim (fun hx => p3 x (mem_cutD hx)) fun hx => by
    rw [List.mem_singleton.mp hx]
    exact part_tup (by omega) fun y hy => ints_item hB6 (fun x hx => (hms.2.2 x hx).2) y (mem_cutD hy)
  obtain ⟨hap2, hrp2⟩ := pre_of w nr h1 h2 pdue.2 hv2
  refine (dg_name (i := 13) g (by first | exact .inl rfl | exact .inr ⟨rfl, rfl⟩) rfl (lt_of_get rfl) ?_)
  refine db_cons ?_
  refine (ds_set (i := 10) g (de_catI (de_sliceI (de_slot (i := 12) g rfl) (lo := none) (l := none) True.intro (hi := some _) (h := some _) de_int) (DE.tupI (ds := [.tuple (cutD (ms.map I') none (some mm))]) (de_tup (des_S (de_sliceI (de_ixI (d := .tuple (ms.map I')) (ds := [.str wd, f, .tuple (ms.map I')]) (de_slot (i := 12) g rfl) de_int rfl) (lo := none) (l := none) True.intro (hi := some _) (h := some _) (de_slot (i := 13) g rfl)) des_nil))) (by show _ + 1 ≤ 1000000; have : [PyData.str wd, f, .tuple (ms.map I')].length = 3 := rfl; omega)) ?_)
  refine db_one ?_
  refine (ds_ifE (b1 := false) (DT.eqE (dt_notE (dt_val (de_call g (c_L_equal T) (des_cons (de_call g (c_accepts_ratio T) (des_cons (de_slot (i := 2) g rfl) (des_cons (de_slot (i := 5) g rfl) (des_cons (de_slot (i := 6) g rfl) (des_cons (de_slot (i := 7) g rfl) (des_cons (de_slot (i := 10) g rfl) des_nil))))) ⟨_, _, _, _, _, by assumption, rfl, rfl⟩) (des_cons (de_call g (c_L_shows_ratio T) (des_cons (de_slot (i := 2) g rfl) (des_cons (de_slot (i := 5) g rfl) (des_cons (de_slot (i := 6) g rfl) (des_cons (de_slot (i := 7) g rfl) (des_cons (de_slot (i := 10) g rfl) des_nil))))) ⟨_, _, _, _, _, by assumption, rfl, rfl⟩) des_nil)) ⟨_, _, rfl, rfl⟩))) (by rw [decide_eq_true rfl]; rfl)) (fun q => nomatch q) (fun _ => db_nil ⟨_, _, rfl⟩))
end
end K35
set_option Elab.async false
set_option linter.all false
set_option maxRecDepth 100000
set_option maxHeartbeats 0
namespace K35
open PySem PySem.Spec PyProof.Rows L2
abbrev dfn (x n : Str) (st : Stmt) : He.DefD := ⟨(x, none), n, n, defArgs st, defBody st, defScope st, [], []⟩
def fn : List He.DefD := [dfn "is_whole_methods" "is_whole" s_is_whole_methods,
  dfn "is_votes" "is_votes" s_is_votes,
  dfn "is_seats" "is_seats" s_is_seats,
  dfn "is_whole_fitting" "is_whole" s_is_whole_fitting,
  dfn "is_result" "is_result" s_is_result,
  dfn "are_results" "are_results" s_are_results,
  dfn "are_divisors" "are_divisors" s_are_divisors,
  dfn "check_results" "check_results" s_check_results,
  dfn "divisor_in" "divisor_in" s_divisor_in,
  dfn "seen_in" "seen_in" s_seen_in,
  dfn "top_of" "top_of" s_top_of,
  dfn "least_steps" "least_steps" s_least_steps,
  dfn "longer" "longer" s_longer,
  dfn "walks_of" "walks_of" s_walks_of,
  dfn "round_in" "round_in" s_round_in,
  dfn "common" "common" s_common,
  dfn "whole_numbers" "whole_numbers" s_whole_numbers,
  dfn "reduced" "reduced" s_reduced,
  dfn "least_ratios" "least_ratios" s_least_ratios,
  dfn "fit" "fit" s_fit,
  dfn "first_wrong" "first_wrong" s_first_wrong,
  dfn "condition_of" "condition_of" s_condition_of,
  dfn "walked" "walked" s_walked,
  dfn "fitting" "fitting" s_fitting,
  dfn "check_asked" "check_asked" s_check_asked,
  dfn "best_walks" "best_walks" s_best_walks,
  dfn "spread" "spread" s_spread,
  dfn "reached_from" "reached_from" s_reached_from,
  dfn "ratio_evidence" "ratio_evidence" s_ratio_evidence,
  dfn "is_ratio" "is_ratio" s_is_ratio,
  dfn "shows_most" "shows_most" s_shows_most,
  dfn "shows_none" "shows_none" s_shows_none,
  dfn "accepts_ratio" "accepts_ratio" s_accepts_ratio,
  dfn "_law_stream" "_law_stream" s_L_stream,
  dfn "_law_next" "_law_next" s_L_next,
  dfn "_law_is_integer" "_law_is_integer" s_L_is_integer,
  dfn "_law_equal" "_law_equal" s_L_equal,
  dfn "_law_divisor" "_law_divisor" s_L_divisor,
  dfn "_law_divisors" "_law_divisors" s_L_divisors,
  dfn "_law_votes" "_law_votes" s_L_votes,
  dfn "_law_seated" "_law_seated" s_L_seated,
  dfn "_law_results" "_law_results" s_L_results,
  dfn "_law_seen" "_law_seen" s_L_seen,
  dfn "_law_all" "_law_all" s_L_all,
  dfn "_law_top" "_law_top" s_L_top,
  dfn "_law_common" "_law_common" s_L_common,
  dfn "_law_reduced" "_law_reduced" s_L_reduced,
  dfn "_law_whole" "_law_whole" s_L_whole,
  dfn "_law_relaxed" "_law_relaxed" s_L_relaxed,
  dfn "_law_told_divisors" "_law_told_divisors" s_L_told_divisors,
  dfn "_law_keeps" "_law_keeps" s_L_keeps,
  dfn "_law_are_divisors" "_law_are_divisors" s_L_are_divisors,
  dfn "_law_condition" "_law_condition" s_L_condition,
  dfn "_law_walked" "_law_walked" s_L_walked,
  dfn "_law_turned_steps" "_law_turned_steps" s_L_turned_steps,
  dfn "_law_turned_divisors" "_law_turned_divisors" s_L_turned_divisors,
  dfn "_law_ratio" "_law_ratio" s_L_ratio,
  dfn "_law_is_ratio" "_law_is_ratio" s_L_is_ratio,
  dfn "_law_shows_most" "_law_shows_most" s_L_shows_most,
  dfn "_law_shows_none" "_law_shows_none" s_L_shows_none,
  dfn "_law_shows_ratio" "_law_shows_ratio" s_L_shows_ratio,
  dfn "_law_turned_chosen" "_law_turned_chosen" s_L_turned_chosen,
  dfn "_law_some" "_law_some" s_L_some,
  dfn "law" "law" s_law]
def fa : List He.Fa := [.glo "is_whole_methods",
  .glo "is_votes",
  .glo "is_seats",
  .glo "is_whole_fitting",
  .glo "is_result",
  .glo "are_results",
  .glo "are_divisors",
  .glo "check_results",
  .glo "divisor_in",
  .glo "seen_in",
  .glo "top_of",
  .glo "least_steps",
  .glo "longer",
  .glo "walks_of",
  .glo "round_in",
  .glo "common",
  .glo "whole_numbers",
  .glo "reduced",
  .glo "least_ratios",
  .glo "fit",
  .glo "first_wrong",
  .glo "condition_of",
  .glo "walked",
  .glo "fitting",
  .glo "check_asked",
  .glo "best_walks",
  .glo "spread",
  .glo "reached_from",
  .glo "ratio_evidence",
  .glo "is_ratio",
  .glo "shows_most",
  .glo "shows_none",
  .glo "accepts_ratio",
  .glo "_law_stream",
  .glo "_law_next",
  .glo "_law_is_integer",
  .glo "_law_equal",
  .glo "_law_divisor",
  .glo "_law_divisors",
  .glo "_law_votes",
  .glo "_law_seated",
  .glo "_law_results",
  .glo "_law_seen",
  .glo "_law_all",
  .glo "_law_top",
  .glo "_law_common",
  .glo "_law_reduced",
  .glo "_law_whole",
  .glo "_law_relaxed",
  .glo "_law_told_divisors",
  .glo "_law_keeps",
  .glo "_law_are_divisors",
  .glo "_law_condition",
  .glo "_law_walked",
  .glo "_law_turned_steps",
  .glo "_law_turned_divisors",
  .glo "_law_ratio",
  .glo "_law_is_ratio",
  .glo "_law_shows_most",
  .glo "_law_shows_none",
  .glo "_law_shows_ratio",
  .glo "_law_turned_chosen",
  .glo "_law_some",
  .glo "law",
  .glo "INDICES",
  .int "MOST_PARTIES" 5,
  .int "MOST_VOTES" 1000000,
  .int "MOST_SEATS" 8,
  .int "MOST_RESULTS" 6,
  .int "MOST_STEPS" 40,
  .int "MOST_DIVISORS" 20,
  .int "LAST_UP" 8,
  .int "LEAST_DIVISORS" 9,
  .free "isinstance",
  .free "int",
  .free "bool",
  .free "tuple",
  .free "len",
  .free "all",
  .free "any",
  .free "sum",
  .free "range",
  .free "enumerate",
  .free "max",
  .free "list",
  .free "sorted",
  .free "str",
  .free "abs"]
def ex (K : PySem.W.Frag) : Bool := He.tupB K "INDICES" [.int 0, .int 1, .int 2, .int 3, .int 4, .int 5, .int 6, .int 7, .int 8, .int 9]
def loose0 : List Str := ["SeatError", "BadValue", "NotPossible", "is_whole", "is_whole_methods", "MOST_PARTIES", "MOST_VOTES", "MOST_SEATS", "is_votes", "is_seats", "MOST_RESULTS", "MOST_STEPS", "MOST_DIVISORS", "LAST_UP", "is_whole_fitting", "is_result", "are_results", "are_divisors", "check_results", "divisor_in", "seen_in", "top_of", "least_steps", "longer", "walks_of", "round_in", "common", "whole_numbers", "reduced", "least_ratios"]
def loose1 : List Str := ["fit", "first_wrong", "condition_of", "walked", "fitting", "INDICES", "LEAST_DIVISORS", "check_asked", "best_walks", "spread", "reached_from", "ratio_evidence", "is_ratio", "shows_most", "shows_none", "accepts_ratio", "_law_stream", "_law_next", "_law_is_integer", "_law_equal", "_law_divisor", "_law_divisors", "_law_votes", "_law_seated", "_law_results", "_law_seen", "_law_all", "_law_top", "_law_common", "_law_reduced"]
def loose2 : List Str := ["_law_whole", "_law_relaxed", "_law_told_divisors", "_law_keeps", "_law_are_divisors", "_law_condition", "_law_walked", "_law_is_round", "_law_shows", "_law_turned_steps", "_law_turned_divisors", "_law_ratio", "_law_is_ratio", "_law_shows_most", "_law_shows_none", "_law_shows_ratio", "_law_turned_chosen", "_law_some"]
def loose : List Str := loose0 ++ loose1 ++ loose2
abbrev R : PySem.W.OpenRow := PySem.W.OpenLaw.row PySem.Challenge.rw_dividedseats_k35_whole_any_evidence_abou
abbrev hk : PySem.W.Hook := He.hookX 4 fa fn [] [] ex
def ob (s : PySem.W.SharedT) : He.AlX := He.obsX 4 fa fn [] [] ex (HandSHeadRun.getT s)
theorem ob_eq (s : PySem.W.SharedT) : ob s = hk.obs s.abs := He.obsX_eq (HandSHeadRun.getT_eq s)
theorem run (w : World) : HandSHeadRun.RunEq R (PySem.W.view R.prog [85]) hk ob 3000 loose w := by
  intro os
  kernel_rfl
end K35
set_option Elab.async false
set_option linter.all false
set_option maxRecDepth 100000
set_option maxHeartbeats 0
namespace K35
open PySem PySem.Spec PyProof.Rows L2
theorem df_of {P : Program} {w : World} {K : PySem.W.Frag} {h : Heap} {mg : Str → Option Value} {base : Heap} (X : K.In h) (G : h.Ns mainGlobals mg) (c : He.SaysX fa fn [] [] ex w h K) (x n : Str) (st : Stmt) (i j : Nat) (hf : fa[i]? = some (.glo x)) (hd : fn[j]? = some (dfn x n st)) : Df ⟨P, w, K, mg, base⟩ x n st := by
  obtain ⟨fd, F⟩ := c.t.d.def_ j (d := dfn x n st) hd
  exact ⟨_, fd, He.glo_ok X G (c.t.d.fact i (f := .glo x) hf), F⟩
theorem txt_of {P : Program} {w : World} {K : PySem.W.Frag} {h : Heap} {mg : Str → Option Value} {base : Heap} (X : K.In h) (G : h.Ns mainGlobals mg) (c : He.SaysX fa fn [] [] ex w h K) : Txt ⟨P, w, K, mg, base⟩ where
  b_isinstance := He.free_ok X G (c.t.d.fact 73 (f := .free "isinstance") rfl)
  b_int := He.free_ok X G (c.t.d.fact 74 (f := .free "int") rfl)
  b_bool := He.free_ok X G (c.t.d.fact 75 (f := .free "bool") rfl)
  b_tuple := He.free_ok X G (c.t.d.fact 76 (f := .free "tuple") rfl)
  b_len := He.free_ok X G (c.t.d.fact 77 (f := .free "len") rfl)
  b_all := He.free_ok X G (c.t.d.fact 78 (f := .free "all") rfl)
  b_any := He.free_ok X G (c.t.d.fact 79 (f := .free "any") rfl)
  b_sum := He.free_ok X G (c.t.d.fact 80 (f := .free "sum") rfl)
  b_range := He.free_ok X G (c.t.d.fact 81 (f := .free "range") rfl)
  b_enumerate := He.free_ok X G (c.t.d.fact 82 (f := .free "enumerate") rfl)
  b_max := He.free_ok X G (c.t.d.fact 83 (f := .free "max") rfl)
  b_list := He.free_ok X G (c.t.d.fact 84 (f := .free "list") rfl)
  b_sorted := He.free_ok X G (c.t.d.fact 85 (f := .free "sorted") rfl)
  b_str := He.free_ok X G (c.t.d.fact 86 (f := .free "str") rfl)
  b_abs := He.free_ok X G (c.t.d.fact 87 (f := .free "abs") rfl)
  c_MOST_PARTIES := He.int_ok X G (c.t.d.fact 65 (f := .int "MOST_PARTIES" 5) rfl)
  c_MOST_VOTES := He.int_ok X G (c.t.d.fact 66 (f := .int "MOST_VOTES" 1000000) rfl)
  c_MOST_SEATS := He.int_ok X G (c.t.d.fact 67 (f := .int "MOST_SEATS" 8) rfl)
  c_MOST_RESULTS := He.int_ok X G (c.t.d.fact 68 (f := .int "MOST_RESULTS" 6) rfl)
  c_MOST_STEPS := He.int_ok X G (c.t.d.fact 69 (f := .int "MOST_STEPS" 40) rfl)
  c_MOST_DIVISORS := He.int_ok X G (c.t.d.fact 70 (f := .int "MOST_DIVISORS" 20) rfl)
  c_LAST_UP := He.int_ok X G (c.t.d.fact 71 (f := .int "LAST_UP" 8) rfl)
  c_LEAST_DIVISORS := He.int_ok X G (c.t.d.fact 72 (f := .int "LEAST_DIVISORS" 9) rfl)
  inds := ⟨_, He.glo_ok X G (c.t.d.fact 64 (f := .glo "INDICES") rfl), fun F => He.tupB_ok c.more F⟩
  d_is_whole_methods := df_of X G c "is_whole_methods" "is_whole" s_is_whole_methods 0 0 rfl rfl
  d_is_votes := df_of X G c "is_votes" "is_votes" s_is_votes 1 1 rfl rfl
  d_is_seats := df_of X G c "is_seats" "is_seats" s_is_seats 2 2 rfl rfl
  d_is_whole_fitting := df_of X G c "is_whole_fitting" "is_whole" s_is_whole_fitting 3 3 rfl rfl
  d_is_result := df_of X G c "is_result" "is_result" s_is_result 4 4 rfl rfl
  d_are_results := df_of X G c "are_results" "are_results" s_are_results 5 5 rfl rfl
  d_are_divisors := df_of X G c "are_divisors" "are_divisors" s_are_divisors 6 6 rfl rfl
  d_check_results := df_of X G c "check_results" "check_results" s_check_results 7 7 rfl rfl
  d_divisor_in := df_of X G c "divisor_in" "divisor_in" s_divisor_in 8 8 rfl rfl
  d_seen_in := df_of X G c "seen_in" "seen_in" s_seen_in 9 9 rfl rfl
  d_top_of := df_of X G c "top_of" "top_of" s_top_of 10 10 rfl rfl
  d_least_steps := df_of X G c "least_steps" "least_steps" s_least_steps 11 11 rfl rfl
  d_longer := df_of X G c "longer" "longer" s_longer 12 12 rfl rfl
  d_walks_of := df_of X G c "walks_of" "walks_of" s_walks_of 13 13 rfl rfl
  d_round_in := df_of X G c "round_in" "round_in" s_round_in 14 14 rfl rfl
  d_common := df_of X G c "common" "common" s_common 15 15 rfl rfl
  d_whole_numbers := df_of X G c "whole_numbers" "whole_numbers" s_whole_numbers 16 16 rfl rfl
  d_reduced := df_of X G c "reduced" "reduced" s_reduced 17 17 rfl rfl
  d_least_ratios := df_of X G c "least_ratios" "least_ratios" s_least_ratios 18 18 rfl rfl
  d_fit := df_of X G c "fit" "fit" s_fit 19 19 rfl rfl
  d_first_wrong := df_of X G c "first_wrong" "first_wrong" s_first_wrong 20 20 rfl rfl
  d_condition_of := df_of X G c "condition_of" "condition_of" s_condition_of 21 21 rfl rfl
  d_walked := df_of X G c "walked" "walked" s_walked 22 22 rfl rfl
  d_fitting := df_of X G c "fitting" "fitting" s_fitting 23 23 rfl rfl
  d_check_asked := df_of X G c "check_asked" "check_asked" s_check_asked 24 24 rfl rfl
  d_best_walks := df_of X G c "best_walks" "best_walks" s_best_walks 25 25 rfl rfl
  d_spread := df_of X G c "spread" "spread" s_spread 26 26 rfl rfl
  d_reached_from := df_of X G c "reached_from" "reached_from" s_reached_from 27 27 rfl rfl
  d_ratio_evidence := df_of X G c "ratio_evidence" "ratio_evidence" s_ratio_evidence 28 28 rfl rfl
  d_is_ratio := df_of X G c "is_ratio" "is_ratio" s_is_ratio 29 29 rfl rfl
  d_shows_most := df_of X G c "shows_most" "shows_most" s_shows_most 30 30 rfl rfl
  d_shows_none := df_of X G c "shows_none" "shows_none" s_shows_none 31 31 rfl rfl
  d_accepts_ratio := df_of X G c "accepts_ratio" "accepts_ratio" s_accepts_ratio 32 32 rfl rfl
  d_L_stream := df_of X G c "_law_stream" "_law_stream" s_L_stream 33 33 rfl rfl
  d_L_next := df_of X G c "_law_next" "_law_next" s_L_next 34 34 rfl rfl
  d_L_is_integer := df_of X G c "_law_is_integer" "_law_is_integer" s_L_is_integer 35 35 rfl rfl
  d_L_equal := df_of X G c "_law_equal" "_law_equal" s_L_equal 36 36 rfl rfl
  d_L_divisor := df_of X G c "_law_divisor" "_law_divisor" s_L_divisor 37 37 rfl rfl
  d_L_divisors := df_of X G c "_law_divisors" "_law_divisors" s_L_divisors 38 38 rfl rfl
  d_L_votes := df_of X G c "_law_votes" "_law_votes" s_L_votes 39 39 rfl rfl
  d_L_seated := df_of X G c "_law_seated" "_law_seated" s_L_seated 40 40 rfl rfl
  d_L_results := df_of X G c "_law_results" "_law_results" s_L_results 41 41 rfl rfl
  d_L_seen := df_of X G c "_law_seen" "_law_seen" s_L_seen 42 42 rfl rfl
  d_L_all := df_of X G c "_law_all" "_law_all" s_L_all 43 43 rfl rfl
  d_L_top := df_of X G c "_law_top" "_law_top" s_L_top 44 44 rfl rfl
  d_L_common := df_of X G c "_law_common" "_law_common" s_L_common 45 45 rfl rfl
  d_L_reduced := df_of X G c "_law_reduced" "_law_reduced" s_L_reduced 46 46 rfl rfl
  d_L_whole := df_of X G c "_law_whole" "_law_whole" s_L_whole 47 47 rfl rfl
  d_L_relaxed := df_of X G c "_law_relaxed" "_law_relaxed" s_L_relaxed 48 48 rfl rfl
  d_L_told_divisors := df_of X G c "_law_told_divisors" "_law_told_divisors" s_L_told_divisors 49 49 rfl rfl
  d_L_keeps := df_of X G c "_law_keeps" "_law_keeps" s_L_keeps 50 50 rfl rfl
  d_L_are_divisors := df_of X G c "_law_are_divisors" "_law_are_divisors" s_L_are_divisors 51 51 rfl rfl
  d_L_condition := df_of X G c "_law_condition" "_law_condition" s_L_condition 52 52 rfl rfl
  d_L_walked := df_of X G c "_law_walked" "_law_walked" s_L_walked 53 53 rfl rfl
  d_L_turned_steps := df_of X G c "_law_turned_steps" "_law_turned_steps" s_L_turned_steps 54 54 rfl rfl
  d_L_turned_divisors := df_of X G c "_law_turned_divisors" "_law_turned_divisors" s_L_turned_divisors 55 55 rfl rfl
  d_L_ratio := df_of X G c "_law_ratio" "_law_ratio" s_L_ratio 56 56 rfl rfl
  d_L_is_ratio := df_of X G c "_law_is_ratio" "_law_is_ratio" s_L_is_ratio 57 57 rfl rfl
  d_L_shows_most := df_of X G c "_law_shows_most" "_law_shows_most" s_L_shows_most 58 58 rfl rfl
  d_L_shows_none := df_of X G c "_law_shows_none" "_law_shows_none" s_L_shows_none 59 59 rfl rfl
  d_L_shows_ratio := df_of X G c "_law_shows_ratio" "_law_shows_ratio" s_L_shows_ratio 60 60 rfl rfl
  d_L_turned_chosen := df_of X G c "_law_turned_chosen" "_law_turned_chosen" s_L_turned_chosen 61 61 rfl rfl
  d_L_some := df_of X G c "_law_some" "_law_some" s_L_some 62 62 rfl rfl
  d_law := df_of X G c "law" "law" s_law 63 63 rfl rfl
theorem facts {P : Program} {w : World} {K : PySem.W.Frag} {h : Heap} {mg : Str → Option Value} {f : Addr} (X : K.In h) (G : h.Ns mainGlobals mg) (hfa : mg ("law" : Str) = some (.ref f)) (c : He.SaysX fa fn [] [] ex w h K) :
    ∃ fd : FuncData, (∀ (s : Shared) (v : Value), BindsTo s fd ⟨[v], []⟩ [("_law_script", v)]) ∧ ∀ base : Heap, FnOk P w K mg base CX0 8 f fd ["_law_script"] (spP (S_law ⟨P, w, K, mg, h⟩)) := by
  obtain ⟨fd, F⟩ := c.t.d.def_ 63 (d := dfn "law" "law" s_law) rfl
  have e := hfa.symm.trans (He.glo_ok X G (c.t.d.fact 63 (f := .glo "law") rfl))
  cases e
  have b := FunD.bindsA (ps := ["_law_script"]) F fun _ _ _ _ _ _ us hl => match us, hl with | [_], _ => rfl
  exact ⟨fd, fun s v => b s [v] rfl, fun base => law_ok (W := ⟨P, w, K, mg, base⟩) (txt_of X G c) F⟩
end K35
open PySem PySem.W PySem.Calls PyProof.Rows
theorem PySem.Challenge.cw_dividedseats_k35_whole_any_evidence_abou_holds : PySem.Challenge.rw_dividedseats_k35_whole_any_evidence_abou.Holds := by
  w_on; o_law
  refine HandSHeadRun.head_any (r := OpenLaw.row PySem.Challenge.rw_dividedseats_k35_whole_any_evidence_abou) (q := view (OpenLaw.row PySem.Challenge.rw_dividedseats_k35_whole_any_evidence_abou).prog [85]) (H := K35.hk) (ob := K35.ob) (M := 3000) (loose := K35.loose) (d := HandSHeadRun.topDef (OpenLaw.row PySem.Challenge.rw_dividedseats_k35_whole_any_evidence_abou).prog 85) (kwd := []) K35.ob_eq
    (by kernel_rfl) (fun s => by kernel_rfl) K35.run (by kernel_rfl) (by kernel_rfl) (by kernel_rfl) (by rfl) (by first | assumption | decide +kernel) (by decide +kernel) ⟨rfl, rfl, rfl, rfl, rfl, by decide +kernel⟩ ?hw ?hc
  case hw => w_witness2
  case hc =>
    refine L2.walk_ofE (l := PySem.Challenge.rw_dividedseats_k35_whole_any_evidence_abou) (n := 63) (k := 8) (x := "_law_script") (CX := L2.CX0) rfl (by decide) (by kernel_rfl) ⟨rfl, by decide, by decide⟩ ?F (fun _ _ _ _ z => z)
    intro w mg fa h Y G hmg0
    obtain ⟨K, KX, c⟩ := Y
    have hmg : mg ("law" : PySem.Str) = some (.ref fa) := by
      have e : (HandSHeadRun.topDef (OpenLaw.row PySem.Challenge.rw_dividedseats_k35_whole_any_evidence_abou).prog 85).name = ("law" : PySem.Str) := by kernel_rfl
      rw [← e]
      exact hmg0
    obtain ⟨fd, hb, hF⟩ := K35.facts (P := PySem.Challenge.rw_dividedseats_k35_whole_any_evidence_abou.prog) (w := w) KX G hmg c
    exact ⟨K, fd, K35.spP (K35.S_law ⟨PySem.Challenge.rw_dividedseats_k35_whole_any_evidence_abou.prog, w, K, mg, h⟩), KX, hb, fun H a ns hl _ hS => ⟨[K35.LstK K ns], K35.Is (.bool true), H, ⟨ns, by omega, rfl, rfl⟩, K35.Up.refl H, fun b e => e, .cons ⟨a, rfl, hS⟩ .nil, fun v F' H' x s u f p => K35.is_bool p⟩, fun base _ _ => hF base⟩
