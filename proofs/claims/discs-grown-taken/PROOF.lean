import PyProof.Rows.All
import Wide.All
import OpenK.AllK
import Wide.FinOn
import HandS.ForMost
import KE.KDictKeyed
import KE.KDictCopyH
import KE.KeyNested
import HandS.Deep
import HandS.SetFor
import HandS.Star
import HandS.Style
import KE.GoesEnum
import KE.DataMinMax
import KE.SortData
import HandS.DictComp
import KE.KTupSum
import PyProof.DictUpdate
import HandS.TupLen
import PySem.Challenge.RW_whatrims_k48_whole_discs_grown_and_taken
set_option Elab.async false
set_option linter.all false
set_option maxRecDepth 100000
set_option maxHeartbeats 1000000
/-! The data layer: plain data over the abstract heap, and what a reading is worth. -/
namespace Wr
open PySem PySem.Spec PyProof.Rows L2

/-! ### plain data -/
/-- data that never change -/
inductive Dt where
  | non | bl (b : Bool) | int (i : Int) | tup (l : List Dt)
/-- what may change: a list, a dict by pairs of ints, a dict by ints, a list of lists, a dict by nested tuples whose values are True -/
inductive Ct where
  | lst (l : List Dt) | dP (l : List ((Int × Int) × Dt)) | dI (l : List (Int × Dt)) | ll (l : List (List Dt)) | dN (l : List Dt)

mutual
inductive Rep (H : Hp) : Dt → V → Prop
  | non : Rep H .non .non
  | bl (b : Bool) : Rep H (.bl b) (.bl b)
  | int (i : Int) : Rep H (.int i) (.int i)
  | tup {a : Addr} {xs : List V} {ds : List Dt} : H a = some (.tup xs) → Reps H ds xs → Rep H (.tup ds) (.ref a)
inductive Reps (H : Hp) : List Dt → List V → Prop
  | nil : Reps H [] []
  | cons {d : Dt} {x : V} {ds : List Dt} {xs : List V} : Rep H d x → Reps H ds xs → Reps H (d :: ds) (x :: xs)
end
inductive KP (H : Hp) : List ((Int × Int) × Dt) → List (List Key × V) → Prop
  | nil : KP H [] []
  | cons {i j : Int} {d : Dt} {v : V} {l : List ((Int × Int) × Dt)} {m : List (List Key × V)} : Rep H d v → KP H l m → KP H (((i, j), d) :: l) (([.inl i, .inl j], v) :: m)
inductive KI (H : Hp) : List (Int × Dt) → List (Key × V) → Prop
  | nil : KI H [] []
  | cons {i : Int} {d : Dt} {v : V} {l : List (Int × Dt)} {m : List (Key × V)} : Rep H d v → KI H l m → KI H ((i, d) :: l) ((.inl i, v) :: m)
inductive LL (P : Addr → Prop) (H : Hp) : List (List Dt) → List V → Prop
  | nil : LL P H [] []
  | cons {b : Addr} {ys : List V} {ds : List Dt} {l : List (List Dt)} {xs : List V} : P b → H b = some (.lst ys) → Reps H ds ys → LL P H l xs → LL P H (ds :: l) (.ref b :: xs)
mutual
/-- plain data as a key -/
def nk : Dt → NestedKey
  | .non => .none
  | .bl b => .num (if b = true then 1 else 0)
  | .int i => .num i
  | .tup l => .tup (nks l)
def nks : List Dt → List NestedKey
  | [] => []
  | d :: l => nk d :: nks l
end
mutual
/-- the hash of a key without texts -/
def nh : NestedKey → Int
  | .none => reduceHash 0xFCA86420
  | .num i => hashInt i
  | .text _ => 0
  | .tup ks => reduceHash (Builtin.Tuple.tupleHashOf (nhs ks))
def nhs : List NestedKey → List Int
  | [] => []
  | k :: ks => nh k :: nhs ks
end
def ent (x : NestedKey × Addr) : DictEntry := ⟨nh x.1, .ref x.2, .bool true⟩
/-- at a stands a dict with these keys, its values True -/
def NF (a : Addr) (xs : List (NestedKey × Addr)) : HO := .ext fun h => ∃ ep, h.DictRaw a (xs.map ent).toArray ep
inductive KN (H : Hp) : List Dt → List (NestedKey × Addr) → Prop
  | nil : KN H [] []
  | cons {d : Dt} {b : Addr} {l : List Dt} {m : List (NestedKey × Addr)} : Rep H d (.ref b) → (nk d).depth ≤ 8 → KN H l m → KN H (d :: l) ((nk d, b) :: m)
/-- c stands at a; P holds of all its addresses that may be written -/
inductive AtP (P : Addr → Prop) (H : Hp) : Ct → Addr → Prop
  | lst {a : Addr} {xs : List V} {ds : List Dt} : P a → H a = some (.lst xs) → Reps H ds xs → AtP P H (.lst ds) a
  | dP {a : Addr} {ys : List (List Key × V)} {l : List ((Int × Int) × Dt)} : P a → H a = some (.dT ys) → KP H l ys → AtP P H (.dP l) a
  | dI {a : Addr} {ys : List (Key × V)} {l : List (Int × Dt)} : P a → H a = some (.dK ys) → KI H l ys → AtP P H (.dI l) a
  | ll {a : Addr} {xs : List V} {l : List (List Dt)} : P a → H a = some (.lst xs) → LL P H l xs → AtP P H (.ll l) a
  | dN {a : Addr} {xs : List (NestedKey × Addr)} {l : List Dt} : P a → H a = some (NF a xs) → KN H l xs → (a == sysModules) = false → (xs.map (·.1)).Nodup → AtP P H (.dN l) a

/-- the tuples stand -/
def TEx (H H' : Hp) : Prop := ∀ a xs, H a = some (.tup xs) → H' a = some (.tup xs)
theorem TEx.of {H H' : Hp} (e : Same H H') : TEx H H' := fun a xs h => e a _ h
theorem TEx.trans {H H1 H2 : Hp} (a : TEx H H1) (b : TEx H1 H2) : TEx H H2 := fun p xs h => b p xs (a p xs h)
/-- an object that is no tuple is written -/
theorem TEx.put {H : Hp} {a : Addr} {o u : HO} (h : H a = some u) (n : ∀ xs, u ≠ .tup xs) : TEx H (upd H a o) := fun b xs e => by
  have hb : b ≠ a := fun z => by
    subst z
    rw [h] at e
    exact n xs (Option.some.inj e)
  rw [upd_ne hb]
  exact e
theorem Same.new {H : Hp} {p : Addr} {o : HO} (h : H p = none) : Same H (upd H p o) := fun b x e => by
  rw [upd_ne (ne_of_none e h)]
  exact e
theorem TEx.new {H : Hp} {p : Addr} {o : HO} (h : H p = none) : TEx H (upd H p o) := TEx.of (Same.new h)

section
variable {H H' : Hp}
mutual
theorem Rep.tex (e : TEx H H') : ∀ {d : Dt} {v : V}, Rep H d v → Rep H' d v
  | _, _, .non => .non
  | _, _, .bl b => .bl b
  | _, _, .int i => .int i
  | _, _, .tup h r => .tup (e _ _ h) (Reps.tex e r)
theorem Reps.tex (e : TEx H H') : ∀ {ds : List Dt} {xs : List V}, Reps H ds xs → Reps H' ds xs
  | _, _, .nil => .nil
  | _, _, .cons a r => .cons (Rep.tex e a) (Reps.tex e r)
end
theorem KP.tex (e : TEx H H') : ∀ {l m}, KP H l m → KP H' l m
  | _, _, .nil => .nil
  | _, _, .cons a r => .cons (a.tex e) (KP.tex e r)
theorem KI.tex (e : TEx H H') : ∀ {l m}, KI H l m → KI H' l m
  | _, _, .nil => .nil
  | _, _, .cons a r => .cons (a.tex e) (KI.tex e r)
theorem KN.tex (e : TEx H H') : ∀ {l m}, KN H l m → KN H' l m
  | _, _, .nil => .nil
  | _, _, .cons a d r => .cons (a.tex e) d (KN.tex e r)
theorem LL.keep {P P' : Addr → Prop} (e : TEx H H') (k : ∀ b o, P b → H b = some o → H' b = some o) (w : ∀ b o, P b → H b = some o → P' b) : ∀ {l xs}, LL P H l xs → LL P' H' l xs
  | _, _, .nil => .nil
  | _, _, .cons p h a r => .cons (w _ _ p h) (k _ _ p h) (a.tex e) (LL.keep e k w r)
theorem AtP.keep {P P' : Addr → Prop} {c : Ct} {a : Addr} (x : AtP P H c a) (e : TEx H H') (k : ∀ b o, P b → H b = some o → H' b = some o) (w : ∀ b o, P b → H b = some o → P' b) : AtP P' H' c a := by
  cases x with
  | lst p h r => exact .lst (w _ _ p h) (k _ _ p h) (r.tex e)
  | dP p h r => exact .dP (w _ _ p h) (k _ _ p h) (r.tex e)
  | dI p h r => exact .dI (w _ _ p h) (k _ _ p h) (r.tex e)
  | ll p h r => exact .ll (w _ _ p h) (k _ _ p h) (r.keep e k w)
  | dN p h r n d => exact .dN (w _ _ p h) (k _ _ p h) (r.tex e) n d
theorem AtP.same {P : Addr → Prop} {c : Ct} {a : Addr} (x : AtP P H c a) (e : Same H H') : AtP P H' c a := x.keep (.of e) (fun b o _ h => e b o h) fun _ _ p _ => p
theorem AtP.weak {P P' : Addr → Prop} {c : Ct} {a : Addr} (x : AtP P H c a) (w : ∀ b o, P b → H b = some o → P' b) : AtP P' H c a := x.keep (.of (Same.refl H)) (fun _ _ _ h => h) w
theorem AtP.any {P : Addr → Prop} {c : Ct} {a : Addr} (x : AtP P H c a) : AtP (fun _ => True) H c a := x.weak fun _ _ _ _ => trivial
theorem AtP.there {P : Addr → Prop} {c : Ct} {a : Addr} (x : AtP P H c a) : P a ∧ ∃ o, H a = some o ∧ ∀ xs, o ≠ .tup xs := by
  cases x with
  | lst p h r => exact ⟨p, _, h, fun _ z => by cases z⟩
  | dP p h r => exact ⟨p, _, h, fun _ z => by cases z⟩
  | dI p h r => exact ⟨p, _, h, fun _ z => by cases z⟩
  | ll p h r => exact ⟨p, _, h, fun _ z => by cases z⟩
  | dN p h r _ _ => exact ⟨p, _, h, fun _ z => by cases z⟩
theorem Rep.same {d : Dt} {v : V} (x : Rep H d v) (e : Same H H') : Rep H' d v := x.tex (.of e)
theorem Reps.same {d : List Dt} {v : List V} (x : Reps H d v) (e : Same H H') : Reps H' d v := x.tex (.of e)
end
/-- a container without containers in it -/
def Ct.flat : Ct → Bool
  | .ll _ => false
  | _ => true

/-! ### slots -/
inductive Sl where
  | im (d : Dt) | fz (c : Ct) | ow (c : Ct)
abbrev En := List (Option Sl)
def sget : En → Nat → Option Sl
  | [], _ => none
  | s :: _, 0 => s
  | _ :: r, n + 1 => sget r n
def sset : En → Nat → Option Sl → En
  | [], _, _ => []
  | _ :: r, 0, s => s :: r
  | a :: r, n + 1, s => a :: sset r n s
theorem sset_len : ∀ (ε : En) (i : Nat) (s : Option Sl), (sset ε i s).length = ε.length
  | [], _, _ => rfl
  | _ :: _, 0, _ => rfl
  | _ :: r, n + 1, s => by
    show (sset r n s).length + 1 = r.length + 1
    rw [sset_len r n s]
theorem sget_set_same : ∀ {ε : En} {i : Nat} {s : Option Sl} {t : Sl}, sget (sset ε i s) i = some t → s = some t
  | [], _, _, _, h => by cases h
  | _ :: _, 0, _, _, h => h
  | _ :: r, n + 1, s, t, h => sget_set_same (ε := r) (i := n) h
theorem sget_set_ne : ∀ {ε : En} {i j : Nat} {s : Option Sl}, j ≠ i → sget (sset ε i s) j = sget ε j
  | [], _, _, _, _ => rfl
  | _ :: _, 0, 0, _, h => absurd rfl h
  | _ :: _, 0, _ + 1, _, _ => rfl
  | _ :: _, _ + 1, 0, _, _ => rfl
  | _ :: r, n + 1, m + 1, s, h => sget_set_ne (ε := r) fun e => h (by rw [e])
theorem sget_lt : ∀ {ε : En} {i : Nat} {t : Sl}, sget ε i = some t → i < ε.length
  | [], _, _, h => by cases h
  | _ :: _, 0, _, _ => Nat.succ_pos _
  | _ :: r, n + 1, _, h => Nat.succ_lt_succ (sget_lt (ε := r) h)
def swipe (ε : En) : List Nat → En
  | [] => ε
  | v :: vs => sset (swipe ε vs) v none
theorem swipe_some {ε : En} {i : Nat} {t : Sl} : ∀ {vs : List Nat}, sget (swipe ε vs) i = some t → sget ε i = some t ∧ i ∉ vs
  | [], h => ⟨h, by simp⟩
  | v :: vs, h => by
    have h' : sget (sset (swipe ε vs) v none) i = some t := h
    by_cases hi : i = v
    · subst hi
      cases sget_set_same h'
    · rw [sget_set_ne hi] at h'
      obtain ⟨h1, h2⟩ := swipe_some h'
      exact ⟨h1, by simp only [List.mem_cons, not_or]; exact ⟨hi, h2⟩⟩
theorem swipe_len (ε : En) : ∀ vs : List Nat, (swipe ε vs).length = ε.length
  | [] => rfl
  | v :: vs => by
    show (sset (swipe ε vs) v none).length = ε.length
    rw [sset_len, swipe_len ε vs]
theorem wipe_keep {σ : L2.St} {i : Nat} : ∀ {vs : List Nat}, i ∉ vs → (wipe σ vs)[i]? = σ[i]?
  | [], _ => rfl
  | v :: vs, h => by
    simp only [List.mem_cons, not_or] at h
    show ((wipe σ vs).set v none)[i]? = σ[i]?
    rw [List.getElem?_set_ne (Ne.symm h.1)]
    exact wipe_keep h.2

/-- a is the object of a slot that may be written -/
def OwnAt (σ : L2.St) (ε : En) (a : Addr) : Prop := ∃ i c, sget ε i = some (.ow c) ∧ σ[i]? = some (some (V.ref a))
structure R (H0 H : Hp) (σ : L2.St) (ε : En) : Prop where
  ex : Same H0 H
  len : σ.length = ε.length
  im : ∀ i d, sget ε i = some (.im d) → ∃ v, σ[i]? = some (some v) ∧ Rep H d v
  fz : ∀ i c, sget ε i = some (.fz c) → ∃ a, σ[i]? = some (some (V.ref a)) ∧ AtP (fun b => ¬ OwnAt σ ε b) H c a
  ow : ∀ i c, sget ε i = some (.ow c) → ∃ a, σ[i]? = some (some (V.ref a)) ∧ H0 a = none ∧ c.flat = true ∧ AtP (fun _ => True) H c a
  inj : ∀ i j c c' a, sget ε i = some (.ow c) → sget ε j = some (.ow c') → σ[i]? = some (some (V.ref a)) → σ[j]? = some (some (V.ref a)) → i = j
/-- from one state to a later one: what isn't written stands, and isn't written later -/
def Keep (σ : L2.St) (ε : En) (H : Hp) (σ' : L2.St) (ε' : En) (H' : Hp) : Prop := ∀ a o, H a = some o → ¬ OwnAt σ ε a → H' a = some o ∧ ¬ OwnAt σ' ε' a
theorem Keep.refl (σ : L2.St) (ε : En) (H : Hp) : Keep σ ε H σ ε H := fun _ _ h n => ⟨h, n⟩
theorem Keep.trans {σ σ1 σ2 : L2.St} {ε ε1 ε2 : En} {H H1 H2 : Hp} (a : Keep σ ε H σ1 ε1 H1) (b : Keep σ1 ε1 H1 σ2 ε2 H2) : Keep σ ε H σ2 ε2 H2 := fun p o h n => let ⟨h1, n1⟩ := a p o h n; b p o h1 n1
theorem Keep.same {σ : L2.St} {ε : En} {H H' : Hp} (e : Same H H') : Keep σ ε H σ ε H' := fun a o h n => ⟨e a o h, n⟩

section
variable {H0 H H' : Hp} {σ : L2.St} {ε : En}
theorem R.own_there (r : R H0 H σ ε) {a : Addr} (h : OwnAt σ ε a) : H0 a = none ∧ ∃ o, H a = some o ∧ ∀ xs, o ≠ .tup xs := by
  obtain ⟨i, c, h1, h2⟩ := h
  obtain ⟨b, h3, h4, _, h5⟩ := r.ow i c h1
  rw [h2] at h3
  cases h3
  exact ⟨h4, h5.there.2⟩
theorem R.same (r : R H0 H σ ε) (e : Same H H') : R H0 H' σ ε where
  ex := r.ex.trans e
  len := r.len
  im i d h := let ⟨v, h1, h2⟩ := r.im i d h; ⟨v, h1, h2.same e⟩
  fz i c h := let ⟨a, h1, h2⟩ := r.fz i c h; ⟨a, h1, h2.same e⟩
  ow i c h := let ⟨a, h1, h2, h3, h4⟩ := r.ow i c h; ⟨a, h1, h2, h3, h4.same e⟩
  inj := r.inj
/-- fresh objects are not owned -/
theorem R.new_free (r : R H0 H σ ε) {a : Addr} (h : H a = none) : ¬ OwnAt σ ε a := fun z => by
  obtain ⟨_, o, h1, _⟩ := r.own_there z
  rw [h] at h1
  cases h1
theorem R.tup_free (r : R H0 H σ ε) {a : Addr} {xs : List V} (h : H a = some (.tup xs)) : ¬ OwnAt σ ε a := fun z => by
  obtain ⟨_, o, h1, h2⟩ := r.own_there z
  rw [h] at h1
  cases h1
  exact h2 xs rfl
theorem own_set {σ : L2.St} {ε : En} {i : Nat} {v : V} {s : Sl} {a : Addr} (hs : ∀ c, s ≠ .ow c) (h : OwnAt (σ.set i (some v)) (sset ε i (some s)) a) : OwnAt σ ε a := by
  obtain ⟨j, c, h1, h2⟩ := h
  by_cases hj : j = i
  · subst hj
    exact absurd (Option.some.inj (sget_set_same h1)) (hs c)
  · rw [sget_set_ne hj] at h1
    rw [List.getElem?_set_ne (Ne.symm hj)] at h2
    exact ⟨j, c, h1, h2⟩
theorem set_at (r : R H0 H σ ε) {i : Nat} {v : V} {s t : Sl} (h : sget (sset ε i (some s)) i = some t) : (σ.set i (some v))[i]? = some (some v) := by
  have h1 := sget_lt h
  rw [sset_len, ← r.len] at h1
  rw [List.getElem?_set_self h1]
/-- a slot gets plain data -/
theorem R.set_im (r : R H0 H σ ε) {i : Nat} {d : Dt} {v : V} (h : Rep H d v) : R H0 H (σ.set i (some v)) (sset ε i (some (.im d))) ∧ Keep σ ε H (σ.set i (some v)) (sset ε i (some (.im d))) H := by
  have ho : ∀ {a}, OwnAt (σ.set i (some v)) (sset ε i (some (.im d))) a → OwnAt σ ε a := fun z => own_set (fun c e => by cases e) z
  refine ⟨⟨r.ex, by rw [List.length_set, sset_len, r.len], fun j e h1 => ?_, fun j c h1 => ?_, fun j c h1 => ?_, fun j k c c' a h1 h2 h3 h4 => ?_⟩, fun a o h1 n => ⟨h1, fun z => n (ho z)⟩⟩
  · by_cases hj : j = i
    · subst hj
      have e1 := Option.some.inj (sget_set_same h1)
      cases e1
      exact ⟨v, set_at r h1, h⟩
    · rw [sget_set_ne hj] at h1
      obtain ⟨u, h2, h3⟩ := r.im j e h1
      exact ⟨u, by rw [List.getElem?_set_ne (Ne.symm hj)]; exact h2, h3⟩
  · by_cases hj : j = i
    · subst hj
      cases sget_set_same h1
    · rw [sget_set_ne hj] at h1
      obtain ⟨a, h2, h3⟩ := r.fz j c h1
      exact ⟨a, by rw [List.getElem?_set_ne (Ne.symm hj)]; exact h2, h3.weak fun b o p _ z => p (ho z)⟩
  · by_cases hj : j = i
    · subst hj
      cases sget_set_same h1
    · rw [sget_set_ne hj] at h1
      obtain ⟨a, h2, h3⟩ := r.ow j c h1
      exact ⟨a, by rw [List.getElem?_set_ne (Ne.symm hj)]; exact h2, h3⟩
  · by_cases hj : j = i
    · subst hj
      cases sget_set_same h1
    · by_cases hk : k = i
      · subst hk
        cases sget_set_same h2
      · rw [sget_set_ne hj] at h1
        rw [sget_set_ne hk] at h2
        rw [List.getElem?_set_ne (Ne.symm hj)] at h3
        rw [List.getElem?_set_ne (Ne.symm hk)] at h4
        exact r.inj j k c c' a h1 h2 h3 h4
/-- a slot gets a container that is not written -/
theorem R.set_fz (r : R H0 H σ ε) {i : Nat} {c : Ct} {p : Addr} (h : AtP (fun b => ¬ OwnAt σ ε b) H c p) : R H0 H (σ.set i (some (.ref p))) (sset ε i (some (.fz c))) ∧ Keep σ ε H (σ.set i (some (.ref p))) (sset ε i (some (.fz c))) H := by
  have ho : ∀ {a}, OwnAt (σ.set i (some (.ref p))) (sset ε i (some (.fz c))) a → OwnAt σ ε a := fun z => own_set (fun c e => by cases e) z
  refine ⟨⟨r.ex, by rw [List.length_set, sset_len, r.len], fun j e h1 => ?_, fun j c1 h1 => ?_, fun j c1 h1 => ?_, fun j k c1 c' a h1 h2 h3 h4 => ?_⟩, fun a o h1 n => ⟨h1, fun z => n (ho z)⟩⟩
  · by_cases hj : j = i
    · subst hj
      cases sget_set_same h1
    · rw [sget_set_ne hj] at h1
      obtain ⟨u, h2, h3⟩ := r.im j e h1
      exact ⟨u, by rw [List.getElem?_set_ne (Ne.symm hj)]; exact h2, h3⟩
  · by_cases hj : j = i
    · subst hj
      have e1 := Option.some.inj (sget_set_same h1)
      cases e1
      exact ⟨p, set_at r h1, h.weak fun b o q _ z => q (ho z)⟩
    · rw [sget_set_ne hj] at h1
      obtain ⟨a, h2, h3⟩ := r.fz j c1 h1
      exact ⟨a, by rw [List.getElem?_set_ne (Ne.symm hj)]; exact h2, h3.weak fun b o p _ z => p (ho z)⟩
  · by_cases hj : j = i
    · subst hj
      cases sget_set_same h1
    · rw [sget_set_ne hj] at h1
      obtain ⟨a, h2, h3⟩ := r.ow j c1 h1
      exact ⟨a, by rw [List.getElem?_set_ne (Ne.symm hj)]; exact h2, h3⟩
  · by_cases hj : j = i
    · subst hj
      cases sget_set_same h1
    · by_cases hk : k = i
      · subst hk
        cases sget_set_same h2
      · rw [sget_set_ne hj] at h1
        rw [sget_set_ne hk] at h2
        rw [List.getElem?_set_ne (Ne.symm hj)] at h3
        rw [List.getElem?_set_ne (Ne.symm hk)] at h4
        exact r.inj j k c1 c' a h1 h2 h3 h4
end
theorem AtP.flat_of {P : Addr → Prop} {H : Hp} {c : Ct} {a : Addr} (x : AtP (fun _ => True) H c a) (f : c.flat = true) (p : P a) : AtP P H c a := by
  cases x with
  | lst _ h r => exact .lst p h r
  | dP _ h r => exact .dP p h r
  | dI _ h r => exact .dI p h r
  | ll _ h r => cases f
  | dN _ h r n d => exact .dN p h r n d
section
variable {H0 H H1 : Hp} {σ : L2.St} {ε : En}
/-- a slot gets a new container that may be written -/
theorem R.set_ow (r : R H0 H σ ε) (e : Same H H1) {i : Nat} {c : Ct} {p : Addr} (f : c.flat = true) (h : AtP (fun b => H b = none) H1 c p) : R H0 H1 (σ.set i (some (.ref p))) (sset ε i (some (.ow c))) ∧ Keep σ ε H (σ.set i (some (.ref p))) (sset ε i (some (.ow c))) H1 := by
  have hp : H p = none := h.there.1
  have ho : ∀ {a}, OwnAt (σ.set i (some (.ref p))) (sset ε i (some (.ow c))) a → a = p ∨ OwnAt σ ε a := fun {a} z => by
    obtain ⟨j, c1, h1, h2⟩ := z
    by_cases hj : j = i
    · subst hj
      rw [set_at r h1] at h2
      exact .inl (V.ref.inj (Option.some.inj (Option.some.inj h2))).symm
    · rw [sget_set_ne hj] at h1
      rw [List.getElem?_set_ne (Ne.symm hj)] at h2
      exact .inr ⟨j, c1, h1, h2⟩
  have hne : ∀ {b o}, H b = some o → b ≠ p := fun h1 z => by
    subst z
    rw [hp] at h1
    cases h1
  refine ⟨⟨r.ex.trans e, by rw [List.length_set, sset_len, r.len], fun j d h1 => ?_, fun j c1 h1 => ?_, fun j c1 h1 => ?_, fun j k c1 c2 a h1 h2 h3 h4 => ?_⟩, fun a o h1 n => ⟨e a o h1, fun z => (ho z).elim (hne h1) n⟩⟩
  · by_cases hj : j = i
    · subst hj
      cases sget_set_same h1
    · rw [sget_set_ne hj] at h1
      obtain ⟨u, h2, h3⟩ := r.im j d h1
      exact ⟨u, by rw [List.getElem?_set_ne (Ne.symm hj)]; exact h2, h3.same e⟩
  · by_cases hj : j = i
    · subst hj
      cases sget_set_same h1
    · rw [sget_set_ne hj] at h1
      obtain ⟨a, h2, h3⟩ := r.fz j c1 h1
      exact ⟨a, by rw [List.getElem?_set_ne (Ne.symm hj)]; exact h2, h3.keep (.of e) (fun b o _ q => e b o q) fun b o q hb z => (ho z).elim (hne hb) q⟩
  · by_cases hj : j = i
    · subst hj
      have e1 := Option.some.inj (sget_set_same h1)
      cases e1
      refine ⟨p, set_at r h1, ?_, f, h.any⟩
      cases q : H0 p with
      | none => rfl
      | some o =>
        have := r.ex p o q
        rw [hp] at this
        cases this
    · rw [sget_set_ne hj] at h1
      obtain ⟨a, h2, h3, h4, h5⟩ := r.ow j c1 h1
      exact ⟨a, by rw [List.getElem?_set_ne (Ne.symm hj)]; exact h2, h3, h4, h5.same e⟩
  · have old : ∀ {j c1}, j ≠ i → sget ε j = some (.ow c1) → σ[j]? = some (some (V.ref a)) → a ≠ p := fun {j c1} _ g1 g2 => by
      obtain ⟨b, g3, _, _, g5⟩ := r.ow j c1 g1
      rw [g2] at g3
      cases g3
      exact hne g5.there.2.choose_spec.1
    by_cases hj : j = i
    · subst hj
      rw [set_at r h1] at h3
      have ea : p = a := V.ref.inj (Option.some.inj (Option.some.inj h3))
      by_cases hk : k = j
      · exact hk.symm
      · rw [sget_set_ne hk] at h2
        rw [List.getElem?_set_ne (Ne.symm hk)] at h4
        exact absurd ea.symm (old hk h2 h4)
    · rw [sget_set_ne hj] at h1
      rw [List.getElem?_set_ne (Ne.symm hj)] at h3
      by_cases hk : k = i
      · subst hk
        rw [set_at r h2] at h4
        exact absurd (V.ref.inj (Option.some.inj (Option.some.inj h4))).symm (old hj h1 h3)
      · rw [sget_set_ne hk] at h2
        rw [List.getElem?_set_ne (Ne.symm hk)] at h4
        exact r.inj j k c1 c2 a h1 h2 h3 h4
/-- a slot is forgotten -/
theorem own_forget {i : Nat} {a : Addr} (h : OwnAt σ (sset ε i none) a) : OwnAt σ ε a := by
  obtain ⟨j, c, h1, h2⟩ := h
  by_cases hj : j = i
  · subst hj
    cases sget_set_same h1
  · rw [sget_set_ne hj] at h1
    exact ⟨j, c, h1, h2⟩
theorem R.forget (r : R H0 H σ ε) (i : Nat) : R H0 H σ (sset ε i none) := by
  have back : ∀ {j t}, sget (sset ε i none) j = some t → sget ε j = some t := fun {j t} h => by
    by_cases hj : j = i
    · subst hj
      cases sget_set_same h
    · rwa [sget_set_ne hj] at h
  exact ⟨r.ex, by rw [sset_len, r.len], fun j d h => r.im j d (back h), fun j c h => let ⟨a, h1, h2⟩ := r.fz j c (back h); ⟨a, h1, h2.weak fun b o p _ z => p (own_forget z)⟩,
    fun j c h => r.ow j c (back h), fun j k c c' a h1 h2 => r.inj j k c c' a (back h1) (back h2)⟩
theorem Keep.forget (i : Nat) : Keep σ ε H σ (sset ε i none) H := fun _ _ h n => ⟨h, fun z => n (own_forget z)⟩
theorem R.wipe_at {s : Sl} {i : Nat} {vs : List Nat} (h : sget (swipe ε vs) i = some s) : sget ε i = some s ∧ (wipe σ vs)[i]? = σ[i]? :=
  let ⟨h1, h2⟩ := swipe_some h; ⟨h1, wipe_keep h2⟩
theorem own_wipe {vs : List Nat} {a : Addr} (h : OwnAt (wipe σ vs) (swipe ε vs) a) : OwnAt σ ε a := by
  obtain ⟨j, c, h1, h2⟩ := h
  obtain ⟨h3, h4⟩ := R.wipe_at (σ := σ) h1
  rw [h4] at h2
  exact ⟨j, c, h3, h2⟩
/-- a block's start: its own names are forgotten -/
theorem R.wiped (r : R H0 H σ ε) (vs : List Nat) : R H0 H (wipe σ vs) (swipe ε vs) where
  ex := r.ex
  len := by rw [wipe_length, swipe_len, r.len]
  im i d h := let ⟨h1, h2⟩ := R.wipe_at (σ := σ) h; let ⟨v, h3, h4⟩ := r.im i d h1; ⟨v, h2.trans h3, h4⟩
  fz i c h := let ⟨h1, h2⟩ := R.wipe_at (σ := σ) h; let ⟨v, h3, h4⟩ := r.fz i c h1; ⟨v, h2.trans h3, h4.weak fun _ _ p _ z => p (own_wipe z)⟩
  ow i c h := let ⟨h1, h2⟩ := R.wipe_at (σ := σ) h; let ⟨v, h3, h4⟩ := r.ow i c h1; ⟨v, h2.trans h3, h4⟩
  inj i j c c' a h1 h2 h3 h4 := by
    obtain ⟨g1, g2⟩ := R.wipe_at (σ := σ) h1
    obtain ⟨g3, g4⟩ := R.wipe_at (σ := σ) h2
    exact r.inj i j c c' a g1 g3 (g2.symm.trans h3) (g4.symm.trans h4)
/-- the container of a slot, given up: it isn't written any longer -/
theorem R.move_fz (r : R H0 H σ ε) {i j : Nat} {c : Ct} (h : sget ε j = some (.ow c)) : ∃ a, σ[j]? = some (some (V.ref a)) ∧ R H0 H (σ.set i (some (.ref a))) (sset (sset ε j none) i (some (.fz c))) ∧ Keep σ ε H (σ.set i (some (.ref a))) (sset (sset ε j none) i (some (.fz c))) H := by
  obtain ⟨a, h1, h2, h3, h4⟩ := r.ow j c h
  have n : ¬ OwnAt σ (sset ε j none) a := fun z => by
    obtain ⟨k, c', g1, g2⟩ := z
    by_cases hk : k = j
    · subst hk
      cases sget_set_same g1
    · rw [sget_set_ne hk] at g1
      exact hk (r.inj k j c' c a g1 h g2 h1)
  obtain ⟨r2, k2⟩ := (r.forget j).set_fz (i := i) (h4.flat_of h3 n)
  exact ⟨a, h1, r2, (Keep.forget j).trans k2⟩
/-- the object of slot i is written -/
theorem R.write (r : R H0 H σ ε) {i : Nat} {c c' : Ct} {a : Addr} {o : HO} (h : sget ε i = some (.ow c)) (ha : σ[i]? = some (some (V.ref a))) (f : c'.flat = true) (h' : AtP (fun _ => True) (upd H a o) c' a) :
    R H0 (upd H a o) σ (sset ε i (some (.ow c'))) ∧ Keep σ ε H σ (sset ε i (some (.ow c'))) (upd H a o) := by
  obtain ⟨a', h1, h2, h3, h4⟩ := r.ow i c h
  rw [ha] at h1
  cases h1
  have hi : i < σ.length := by rw [r.len]; exact sget_lt h
  have own : OwnAt σ ε a := ⟨i, c, h, ha⟩
  obtain ⟨_, u, hu, hn⟩ := r.own_there own
  have te : TEx H (upd H a o) := TEx.put hu hn
  have ho : ∀ {b}, OwnAt σ (sset ε i (some (.ow c'))) b → OwnAt σ ε b := fun {b} z => by
    obtain ⟨j, c1, g1, g2⟩ := z
    by_cases hj : j = i
    · subst hj
      exact ⟨j, c, h, g2⟩
    · rw [sget_set_ne hj] at g1
      exact ⟨j, c1, g1, g2⟩
  refine ⟨⟨fun b x e => ?_, by rw [sset_len, r.len], fun j d g => ?_, fun j c1 g => ?_, fun j c1 g => ?_, fun j k c1 c2 b g1 g2 g3 g4 => ?_⟩, fun b x e n => ⟨?_, fun z => n (ho z)⟩⟩
  · rw [upd_ne (fun z => by subst z; rw [h2] at e; cases e)]
    exact r.ex b x e
  · by_cases hj : j = i
    · subst hj
      cases sget_set_same g
    · rw [sget_set_ne hj] at g
      obtain ⟨v, g1, g2⟩ := r.im j d g
      exact ⟨v, g1, g2.tex te⟩
  · by_cases hj : j = i
    · subst hj
      cases sget_set_same g
    · rw [sget_set_ne hj] at g
      obtain ⟨b, g1, g2⟩ := r.fz j c1 g
      exact ⟨b, g1, g2.keep te (fun p x q e => by rw [upd_ne (fun z => q (by subst z; exact own))]; exact e) fun p x q _ z => q (ho z)⟩
  · by_cases hj : j = i
    · subst hj
      have e1 := Option.some.inj (sget_set_same g)
      cases e1
      exact ⟨a, ha, h2, f, h'⟩
    · rw [sget_set_ne hj] at g
      obtain ⟨b, g1, g2, g3, g4⟩ := r.ow j c1 g
      have hb : b ≠ a := fun z => by
        subst z
        exact hj (r.inj j i c1 c b g h g1 ha)
      have g5 : AtP (fun p => p ≠ a) H c1 b := g4.flat_of g3 hb
      exact ⟨b, g1, g2, g3, (g5.keep (P' := fun p => p ≠ a) te (fun p x q e => by rw [upd_ne q]; exact e) fun _ _ q _ => q).any⟩
  · have st : ∀ {j c1}, sget (sset ε i (some (.ow c'))) j = some (.ow c1) → ∃ c2, sget ε j = some (.ow c2) := fun {j c1} q => by
      by_cases hj : j = i
      · subst hj
        exact ⟨c, h⟩
      · rw [sget_set_ne hj] at q
        exact ⟨c1, q⟩
    obtain ⟨d1, q1⟩ := st g1
    obtain ⟨d2, q2⟩ := st g2
    exact r.inj j k d1 d2 b q1 q2 g3 g4
  · rw [upd_ne (fun z => n (by subst z; exact own))]
    exact e
end

/-! ### what a reading is worth -/
def SE (t : TE) (f : En → Option Dt) : Prop := ∀ H0 H σ ε d, R H0 H σ ε → f ε = some d → ∀ Q : VK, (∀ H1 v, Same H H1 → Rep H1 d v → Q v H1) → t σ H Q
/-- a container that stands somewhere -/
def SC (t : TE) (f : En → Option Ct) : Prop := ∀ H0 H σ ε c, R H0 H σ ε → f ε = some c → ∀ Q : VK, (∀ H1 a, Same H H1 → AtP (fun _ => True) H1 c a → Q (.ref a) H1) → t σ H Q
/-- .. that is no slot's own -/
def SZ (t : TE) (f : En → Option Ct) : Prop := ∀ H0 H σ ε c, R H0 H σ ε → f ε = some c → ∀ Q : VK, (∀ H1 a, Same H H1 → AtP (fun b => ¬ OwnAt σ ε b) H1 c a → Q (.ref a) H1) → t σ H Q
/-- .. that is new -/
def SF (t : TE) (f : En → Option Ct) : Prop := ∀ H0 H σ ε c, R H0 H σ ε → f ε = some c → ∀ Q : VK, (∀ H1 a, Same H H1 → AtP (fun b => H b = none) H1 c a → Q (.ref a) H1) → t σ H Q
def ST (t : TT) (f : En → Option Bool) : Prop := ∀ H0 H σ ε b, R H0 H σ ε → f ε = some b → ∀ Q : Bool → Hp → Prop, (∀ H1, Same H H1 → Q b H1) → t σ H Q
theorem SF.z {t : TE} {f : En → Option Ct} (h : SF t f) : SZ t f := fun H0 H σ ε c r e Q q => h H0 H σ ε c r e Q fun H1 a s x => q H1 a s (x.weak fun _ _ p _ => r.new_free p)
theorem SZ.c {t : TE} {f : En → Option Ct} (h : SZ t f) : SC t f := fun H0 H σ ε c r e Q q => h H0 H σ ε c r e Q fun H1 a s x => q H1 a s x.any
theorem SF.c {t : TE} {f : En → Option Ct} (h : SF t f) : SC t f := h.z.c
/-- arguments: plain data, containers -/
inductive Ar where
  | im (d : Dt) | ct (c : Ct)
def RepA (H : Hp) : Ar → V → Prop
  | .im d, v => Rep H d v
  | .ct c, v => ∃ a, v = .ref a ∧ AtP (fun _ => True) H c a
theorem RepA.same {H H' : Hp} (e : Same H H') : ∀ {x : Ar} {v : V}, RepA H x v → RepA H' x v
  | .im _, _, h => Rep.same (show Rep H _ _ from h) e
  | .ct _, _, h => let ⟨a, h1, h2⟩ := (show ∃ a, _ = V.ref a ∧ AtP (fun _ => True) H _ a from h); ⟨a, h1, h2.same e⟩
inductive RepAs (H : Hp) : List Ar → List V → Prop
  | nil : RepAs H [] []
  | cons {x : Ar} {v : V} {xs : List Ar} {vs : List V} : RepA H x v → RepAs H xs vs → RepAs H (x :: xs) (v :: vs)
theorem RepAs.same {H H' : Hp} (e : Same H H') : ∀ {x : List Ar} {v : List V}, RepAs H x v → RepAs H' x v
  | _, _, .nil => .nil
  | _, _, .cons a r => .cons (a.same e) (RepAs.same e r)
def SAr (t : TA) (f : En → Option (List Ar)) : Prop := ∀ H0 H σ ε xs, R H0 H σ ε → f ε = some xs → ∀ Q : List V → Hp → Prop, (∀ H1 vs, Same H H1 → RepAs H1 xs vs → Q vs H1) → t σ H Q
/-- plain data alone -/
def SAi (t : TA) (f : En → Option (List Dt)) : Prop := ∀ H0 H σ ε xs, R H0 H σ ε → f ε = some xs → ∀ Q : List V → Hp → Prop, (∀ H1 vs, Same H H1 → Reps H1 xs vs → Q vs H1) → t σ H Q
end Wr

set_option maxHeartbeats 1000000
/-! Expressions. -/
namespace Wr
open PySem PySem.Spec PyProof.Rows L2

/-! ### ints, quickly -/
def ieq : Int → Int → Bool
  | .ofNat m, .ofNat n => Nat.beq m n
  | .negSucc m, .negSucc n => Nat.beq m n
  | _, _ => false
def ilt : Int → Int → Bool
  | .ofNat m, .ofNat n => Nat.blt m n
  | .ofNat _, .negSucc _ => false
  | .negSucc _, .ofNat _ => true
  | .negSucc m, .negSucc n => Nat.blt n m
theorem ieq_dec : ∀ i j : Int, decide (i = j) = ieq i j
  | .ofNat m, .ofNat n => by
    rw [Bool.eq_iff_iff, decide_eq_true_iff]
    show (Int.ofNat m = Int.ofNat n) ↔ Nat.beq m n = true
    exact ⟨fun h => by rw [Int.ofNat.inj h]; exact Nat.beq_refl n, fun h => by rw [Nat.eq_of_beq_eq_true h]⟩
  | .negSucc m, .negSucc n => by
    rw [Bool.eq_iff_iff, decide_eq_true_iff]
    show (Int.negSucc m = Int.negSucc n) ↔ Nat.beq m n = true
    exact ⟨fun h => by rw [Int.negSucc.inj h]; exact Nat.beq_refl n, fun h => by rw [Nat.eq_of_beq_eq_true h]⟩
  | .ofNat m, .negSucc n => decide_eq_false fun h => by cases h
  | .negSucc m, .ofNat n => decide_eq_false fun h => by cases h
theorem ieq_true {i j : Int} (h : ieq i j = true) : i = j := by
  rw [← ieq_dec] at h
  exact of_decide_eq_true h
theorem ieq_false {i j : Int} (h : ieq i j = false) : i ≠ j := by
  rw [← ieq_dec] at h
  exact of_decide_eq_false h
theorem ilt_dec : ∀ i j : Int, decide (i < j) = ilt i j
  | .ofNat m, .ofNat n => by
    rw [Bool.eq_iff_iff, decide_eq_true_iff]
    show (Int.ofNat m < Int.ofNat n) ↔ Nat.blt m n = true
    rw [Nat.blt_eq]
    exact Int.ofNat_lt
  | .negSucc m, .negSucc n => by
    rw [Bool.eq_iff_iff, decide_eq_true_iff]
    show (Int.negSucc m < Int.negSucc n) ↔ Nat.blt n m = true
    rw [Nat.blt_eq]
    omega
  | .ofNat m, .negSucc n => by
    refine decide_eq_false fun h => ?_
    have : (Int.ofNat m : Int) = (m : Int) := rfl
    omega
  | .negSucc m, .ofNat n => by
    refine decide_eq_true ?_
    have : (Int.ofNat n : Int) = (n : Int) := rfl
    omega
theorem ilt_true {i j : Int} (h : ilt i j = true) : i < j := by
  rw [← ilt_dec] at h
  exact of_decide_eq_true h
theorem ilt_false {i j : Int} (h : ilt i j = false) : j ≤ i := by
  rw [← ilt_dec] at h
  exact Int.not_lt.mp (of_decide_eq_false h)

/-! ### partial functions of an environment -/
section
variable {α β γ δ : Type}
def o1 (f : En → Option α) (k : α → Option β) : En → Option β := fun ε => match f ε with
  | none => none
  | some a => k a
def o2 (f : En → Option α) (g : En → Option β) (k : α → β → Option γ) : En → Option γ := fun ε => match f ε with
  | none => none
  | some a => match g ε with
    | none => none
    | some b => k a b
theorem o1_some {f : En → Option α} {k : α → Option β} {ε : En} {b : β} (h : o1 f k ε = some b) : ∃ a, f ε = some a ∧ k a = some b := by
  unfold o1 at h
  cases e : f ε with
  | none => rw [e] at h; cases h
  | some a => rw [e] at h; exact ⟨a, rfl, h⟩
theorem o2_some {f : En → Option α} {g : En → Option β} {k : α → β → Option γ} {ε : En} {c : γ} (h : o2 f g k ε = some c) : ∃ a b, f ε = some a ∧ g ε = some b ∧ k a b = some c := by
  unfold o2 at h
  cases e : f ε with
  | none => rw [e] at h; cases h
  | some a =>
    rw [e] at h
    cases e2 : g ε with
    | none => rw [e2] at h; cases h
    | some b => rw [e2] at h; exact ⟨a, b, rfl, rfl, h⟩
end
def vIm (i : Nat) : En → Option Dt := fun ε => match sget ε i with
  | some (.im d) => some d
  | _ => none
def vCt (i : Nat) : En → Option Ct := fun ε => match sget ε i with
  | some (.fz c) => some c
  | some (.ow c) => some c
  | _ => none
def vFz (i : Nat) : En → Option Ct := fun ε => match sget ε i with
  | some (.fz c) => some c
  | _ => none
def cI (i : Int) : En → Option Dt := fun _ => some (.int i)
def cN : En → Option Dt := fun _ => some .non
def cB (b : Bool) : En → Option Dt := fun _ => some (.bl b)

theorem se_var {i : Nat} : SE (tVar i) (vIm i) := fun H0 H σ ε d r h Q q => by
  unfold vIm at h
  split at h
  · rename_i d' e
    cases h
    obtain ⟨v, h1, h2⟩ := r.im i d e
    exact ⟨v, h1, q H v (Same.refl H) h2⟩
  · cases h
theorem sc_var {i : Nat} : SC (tVar i) (vCt i) := fun H0 H σ ε d r h Q q => by
  unfold vCt at h
  split at h
  · rename_i d' e
    cases h
    obtain ⟨v, h1, h2⟩ := r.fz i d e
    exact ⟨_, h1, q H v (Same.refl H) h2.any⟩
  · rename_i d' e
    cases h
    obtain ⟨v, h1, _, _, h2⟩ := r.ow i d e
    exact ⟨_, h1, q H v (Same.refl H) h2.any⟩
  · cases h
theorem sz_var {i : Nat} : SZ (tVar i) (vFz i) := fun H0 H σ ε d r h Q q => by
  unfold vFz at h
  split at h
  · rename_i d' e
    cases h
    obtain ⟨v, h1, h2⟩ := r.fz i d e
    exact ⟨_, h1, q H v (Same.refl H) h2⟩
  · cases h
theorem se_cI {i : Int} : SE (tC (.int i)) (cI i) := fun H0 H σ ε d r h Q q => by
  cases h
  exact q H _ (Same.refl H) (.int i)
theorem se_cN : SE (tC .non) cN := fun H0 H σ ε d r h Q q => by
  cases h
  exact q H _ (Same.refl H) .non
theorem se_cB {b : Bool} : SE (tC (.bl b)) (cB b) := fun H0 H σ ε d r h Q q => by
  cases h
  exact q H _ (Same.refl H) (.bl b)

/-! ### operations on two values -/
/-- of two plain values -/
def RII (r : R2) (k : Dt → Dt → Option Dt) : Prop := ∀ H x y a b d, Rep H a x → Rep H b y → k a b = some d → ∀ Q : VK, (∀ v, Rep H d v → Q v H) → r x y H Q
/-- of a container and a plain value -/
def RCI (r : R2) (k : Ct → Dt → Option Dt) : Prop := ∀ H x y a b d, AtP (fun _ => True) H a x → Rep H b y → k a b = some d → ∀ Q : VK, (∀ v, Rep H d v → Q v H) → r (.ref x) y H Q
def RIC (r : R2) (k : Dt → Ct → Option Dt) : Prop := ∀ H x y a b d, Rep H a x → AtP (fun _ => True) H b y → k a b = some d → ∀ Q : VK, (∀ v, Rep H d v → Q v H) → r x (.ref y) H Q
def RCC (r : R2) (k : Ct → Ct → Option Dt) : Prop := ∀ H x y a b d, AtP (fun _ => True) H a x → AtP (fun _ => True) H b y → k a b = some d → ∀ Q : VK, (∀ v, Rep H d v → Q v H) → r (.ref x) (.ref y) H Q
section
variable {r : R2} {ta tb : TE}
theorem se_op {f g : En → Option Dt} {k : Dt → Dt → Option Dt} (hr : RII r k) (ha : SE ta f) (hb : SE tb g) : SE (tOp r ta tb) (o2 f g k) := fun H0 H σ ε d R h Q q => by
  obtain ⟨a, b, h1, h2, h3⟩ := o2_some h
  refine ha H0 H σ ε a R h1 _ fun H1 x e1 r1 => ?_
  refine hb H0 H1 σ ε b (R.same e1) h2 _ fun H2 y e2 r2 => ?_
  exact hr H2 x y a b d (r1.same e2) r2 h3 Q fun v r3 => q H2 v (e1.trans e2) r3
theorem se_opCI {f : En → Option Ct} {g : En → Option Dt} {k : Ct → Dt → Option Dt} (hr : RCI r k) (ha : SC ta f) (hb : SE tb g) : SE (tOp r ta tb) (o2 f g k) := fun H0 H σ ε d R h Q q => by
  obtain ⟨a, b, h1, h2, h3⟩ := o2_some h
  refine ha H0 H σ ε a R h1 _ fun H1 x e1 r1 => ?_
  refine hb H0 H1 σ ε b (R.same e1) h2 _ fun H2 y e2 r2 => ?_
  exact hr H2 x y a b d (r1.same e2) r2 h3 Q fun v r3 => q H2 v (e1.trans e2) r3
theorem se_opIC {f : En → Option Dt} {g : En → Option Ct} {k : Dt → Ct → Option Dt} (hr : RIC r k) (ha : SE ta f) (hb : SC tb g) : SE (tOp r ta tb) (o2 f g k) := fun H0 H σ ε d R h Q q => by
  obtain ⟨a, b, h1, h2, h3⟩ := o2_some h
  refine ha H0 H σ ε a R h1 _ fun H1 x e1 r1 => ?_
  refine hb H0 H1 σ ε b (R.same e1) h2 _ fun H2 y e2 r2 => ?_
  exact hr H2 x y a b d (r1.same e2) r2 h3 Q fun v r3 => q H2 v (e1.trans e2) r3
theorem se_opCC {f : En → Option Ct} {g : En → Option Ct} {k : Ct → Ct → Option Dt} (hr : RCC r k) (ha : SC ta f) (hb : SC tb g) : SE (tOp r ta tb) (o2 f g k) := fun H0 H σ ε d R h Q q => by
  obtain ⟨a, b, h1, h2, h3⟩ := o2_some h
  refine ha H0 H σ ε a R h1 _ fun H1 x e1 r1 => ?_
  refine hb H0 H1 σ ε b (R.same e1) h2 _ fun H2 y e2 r2 => ?_
  exact hr H2 x y a b d (r1.same e2) r2 h3 Q fun v r3 => q H2 v (e1.trans e2) r3
end
theorem rep_int {H : Hp} {i : Int} {v : V} (h : Rep H (.int i) v) : v = .int i := by cases h; rfl
theorem rep_bl {H : Hp} {i : Bool} {v : V} (h : Rep H (.bl i) v) : v = .bl i := by cases h; rfl
theorem rep_tup {H : Hp} {ds : List Dt} {v : V} (h : Rep H (.tup ds) v) : ∃ a xs, v = .ref a ∧ H a = some (.tup xs) ∧ Reps H ds xs := by
  cases h with
  | tup h1 h2 => exact ⟨_, _, rfl, h1, h2⟩
/-- two ints to a value -/
def kII (g : Int → Int → Option Dt) : Dt → Dt → Option Dt
  | .int i, .int j => g i j
  | _, _ => none
theorem kII_some {g : Int → Int → Option Dt} {a b d : Dt} (h : kII g a b = some d) : ∃ i j, a = .int i ∧ b = .int j ∧ g i j = some d := by
  unfold kII at h
  split at h
  · exact ⟨_, _, rfl, rfl, h⟩
  · cases h
theorem rii_I0 {g : Int → Int → V} {k : Int → Int → Option Dt} (hk : ∀ H i j d, k i j = some d → Rep H d (g i j)) : RII (rI0 g) (kII k) := fun H x y a b d ra rb h Q q => by
  obtain ⟨i, j, rfl, rfl, h⟩ := kII_some h
  exact ⟨i, j, rep_int ra, rep_int rb, q _ (hk H i j d h)⟩
theorem rii_I {C : Int → Int → Prop} {g : Int → Int → V} {k : Int → Int → Option Dt} (hk : ∀ H i j d, k i j = some d → C i j ∧ Rep H d (g i j)) : RII (rI C g) (kII k) := fun H x y a b d ra rb h Q q => by
  obtain ⟨i, j, rfl, rfl, h⟩ := kII_some h
  obtain ⟨h1, h2⟩ := hk H i j d h
  exact ⟨i, j, rep_int ra, rep_int rb, h1, q _ h2⟩
def kAdd : Dt → Dt → Option Dt := kII fun i j => some (.int (i + j))
def kSub : Dt → Dt → Option Dt := kII fun i j => some (.int (i - j))
/-- below 2^60, not below 0 -/
def sm (i : Int) : Bool := match i with
  | .ofNat n => Nat.blt n 1152921504606846976
  | .negSucc _ => false
theorem sm_lt {i : Int} (h : sm i = true) : 0 ≤ i ∧ i < 1152921504606846976 := by
  unfold sm at h
  split at h
  · rename_i n
    rw [Nat.blt_eq] at h
    have : (Int.ofNat n : Int) = (n : Int) := rfl
    omega
  · cases h
def kMul : Dt → Dt → Option Dt := kII fun i j => if sm i then some (.int (i * j)) else none
def kMod : Dt → Dt → Option Dt := kII fun i j => if ilt 0 j then some (.int (i % j)) else none
def kDiv : Dt → Dt → Option Dt := kII fun i j => if ilt 0 j && ilt j 1073741824 then some (.int (i / j)) else none
def kLt : Dt → Dt → Option Dt := kII fun i j => some (.bl (ilt i j))
def kLe : Dt → Dt → Option Dt := kII fun i j => some (.bl (!ilt j i))
def kGt : Dt → Dt → Option Dt := kII fun i j => some (.bl (ilt j i))
def kGe : Dt → Dt → Option Dt := kII fun i j => some (.bl (!ilt i j))
theorem le_dec (i j : Int) : decide (i ≤ j) = !ilt j i := by
  rw [← ilt_dec, ← decide_not, Bool.eq_iff_iff, decide_eq_true_iff, decide_eq_true_iff]
  omega
theorem rii_add : RII (rI0 fun i j => .int (i + j)) kAdd := rii_I0 fun H i j d h => by cases h; exact .int _
theorem rii_sub : RII (rI0 fun i j => .int (i - j)) kSub := rii_I0 fun H i j d h => by cases h; exact .int _
theorem rii_mul : RII (rI CMul fun i j => .int (i * j)) kMul := rii_I fun H i j d h => by
  split at h
  · rename_i h1
    have h2 := sm_lt h1
    cases h
    exact ⟨.inl ⟨by omega, by omega⟩, .int _⟩
  · cases h
theorem rii_mod : RII (rI (fun _ j => 0 < j) fun i j => .int (i % j)) kMod := rii_I fun H i j d h => by
  split at h
  · rename_i h1
    cases h
    exact ⟨ilt_true h1, .int _⟩
  · cases h
theorem rii_div : RII (rI CDiv fun i j => .int (i / j)) kDiv := rii_I fun H i j d h => by
  split at h
  · rename_i h1
    rw [Bool.and_eq_true] at h1
    cases h
    exact ⟨⟨ilt_true h1.1, ilt_true h1.2⟩, .int _⟩
  · cases h
theorem rii_lt : RII (rI0 fun i j => .bl (decide (i < j))) kLt := rii_I0 fun H i j d h => by cases h; rw [ilt_dec]; exact .bl _
theorem rii_gt : RII (rI0 fun i j => .bl (decide (j < i))) kGt := rii_I0 fun H i j d h => by cases h; rw [ilt_dec]; exact .bl _
theorem rii_le : RII (rI0 fun i j => .bl (decide (i ≤ j))) kLe := rii_I0 fun H i j d h => by cases h; rw [le_dec]; exact .bl _
theorem rii_ge : RII (rI0 fun i j => .bl (decide (j ≤ i))) kGe := rii_I0 fun H i j d h => by cases h; rw [le_dec]; exact .bl _

/-! ### is None -/
def isNon : Dt → Bool
  | .non => true
  | _ => false
theorem isNon_rep {H : Hp} {d : Dt} {v : V} (h : Rep H d v) : decide (v = .non) = isNon d := by
  cases h <;> rfl
theorem se_isN {ta : TE} {f : En → Option Dt} (ha : SE ta f) : SE (tOp (fun x y H Q => y = .non ∧ Q (.bl (decide (x = .non))) H) ta (tC .non)) (o1 f fun d => some (.bl (isNon d))) := fun H0 H σ ε d R h Q q => by
  obtain ⟨a, h1, h2⟩ := o1_some h
  refine ha H0 H σ ε a R h1 _ fun H1 x e1 r1 => ⟨rfl, ?_⟩
  cases h2
  rw [isNon_rep r1]
  exact q H1 _ e1 (.bl _)
theorem se_notN {ta : TE} {f : En → Option Dt} (ha : SE ta f) : SE (tOp (fun x y H Q => y = .non ∧ Q (.bl (!decide (x = .non))) H) ta (tC .non)) (o1 f fun d => some (.bl (!isNon d))) := fun H0 H σ ε d R h Q q => by
  obtain ⟨a, h1, h2⟩ := o1_some h
  refine ha H0 H σ ε a R h1 _ fun H1 x e1 r1 => ⟨rfl, ?_⟩
  cases h2
  rw [isNon_rep r1]
  exact q H1 _ e1 (.bl _)

/-! ### places -/
def nth {α : Type} : List α → Nat → Option α
  | [], _ => none
  | a :: _, 0 => some a
  | _ :: r, n + 1 => nth r n
theorem nth_eq {α : Type} : ∀ (l : List α) (n : Nat), nth l n = l[n]?
  | [], _ => rfl
  | _ :: _, 0 => rfl
  | a :: r, n + 1 => by
    show nth r n = (a :: r)[n + 1]?
    rw [nth_eq r n, List.getElem?_cons_succ]
theorem Reps.length {H : Hp} : ∀ {ds : List Dt} {xs : List V}, Reps H ds xs → ds.length = xs.length
  | _, _, .nil => rfl
  | _, _, .cons _ r => by rw [List.length_cons, List.length_cons, Reps.length r]
theorem Reps.nth {H : Hp} : ∀ {ds : List Dt} {xs : List V} {n : Nat} {d : Dt}, Reps H ds xs → nth ds n = some d → ∃ x, xs[n]? = some x ∧ Rep H d x
  | _, _, _, _, .nil, h => by cases h
  | _, _, 0, _, .cons a _, h => by
    cases h
    exact ⟨_, rfl, a⟩
  | _, _, n + 1, _, .cons _ r, h => by
    obtain ⟨x, h1, h2⟩ := Reps.nth (n := n) r h
    exact ⟨x, by rw [List.getElem?_cons_succ]; exact h1, h2⟩
/-- xs[i], i of any sign -/
def atZ {α : Type} (l : List α) : Int → Option α
  | .ofNat n => nth l n
  | .negSucc m => if Nat.blt m l.length then nth l (l.length - 1 - m) else none
theorem atZ_reps {H : Hp} {ds : List Dt} {xs : List V} {i : Int} {d : Dt} (r : Reps H ds xs) (h : atZ ds i = some d) : ∃ x, atI xs i = some x ∧ Rep H d x := by
  cases i with
  | ofNat n =>
    obtain ⟨x, h1, h2⟩ := r.nth (n := n) h
    exact ⟨x, atI_nat h1, h2⟩
  | negSucc m =>
    have h' : (if Nat.blt m ds.length then Wr.nth ds (ds.length - 1 - m) else none) = some d := h
    split at h'
    · rename_i hb
      obtain ⟨x, h1, h2⟩ := r.nth h'
      refine ⟨x, ?_, h2⟩
      rw [Nat.blt_eq, r.length] at hb
      rw [r.length] at h1
      unfold atI ixN
      rw [if_neg (by omega), if_pos (by omega)]
      show xs[(Int.negSucc m + (xs.length : Int)).toNat]? = some x
      rw [show (Int.negSucc m + (xs.length : Int)).toNat = xs.length - 1 - m by omega]
      exact h1
    · cases h'
section
variable {K : PySem.W.Frag}
def kIxT : Dt → Dt → Option Dt
  | .tup ds, .int i => atZ ds i
  | _, _ => none
theorem rii_ixT : RII (rIxT K) kIxT := fun H x y a b d ra rb h Q q => by
  unfold kIxT at h
  split at h
  · obtain ⟨p, xs, rfl, h1, h2⟩ := rep_tup ra
    obtain ⟨z, h3, h4⟩ := atZ_reps h2 h
    exact ⟨p, xs, _, z, rfl, rep_int rb, SqT.of h1, h3, q z h4⟩
  · cases h
def kIxL : Ct → Dt → Option Dt
  | .lst ds, .int i => atZ ds i
  | _, _ => none
theorem rci_ixL : RCI (rIxL K) kIxL := fun H x y a b d ra rb h Q q => by
  unfold kIxL at h
  split at h
  · cases ra with
    | lst _ h1 h2 =>
      obtain ⟨z, h3, h4⟩ := atZ_reps h2 h
      exact ⟨x, _, _, z, rfl, rep_int rb, SqL.of h1, h3, q z h4⟩
  · cases h
end

/-! ### the data of the library -/
mutual
def toP : Dt → PyData
  | .non => .none
  | .bl b => .bool b
  | .int i => .int i
  | .tup l => .tuple (toPs l)
def toPs : List Dt → List PyData
  | [] => []
  | d :: ds => toP d :: toPs ds
end
section
variable {K : PySem.W.Frag} {H : Hp}
mutual
theorem Rep.dp : ∀ {d : Dt} {v : V}, Rep H d v → Dp K H v (toP d)
  | _, _, .non => by rw [toP]; exact .non
  | _, _, .bl b => by rw [toP]; exact .bl b
  | _, _, .int i => by rw [toP]; exact .int i
  | _, _, .tup h r => by rw [toP]; exact .tup (SqT.of h) (Reps.dp r)
theorem Reps.dp : ∀ {ds : List Dt} {xs : List V}, Reps H ds xs → DpAll K H xs (toPs ds)
  | _, _, .nil => by rw [toPs]; exact .nil
  | _, _, .cons a r => by rw [toPs]; exact .cons (Rep.dp a) (Reps.dp r)
end
end
mutual
theorem lay_toP : ∀ d : Dt, (toP d).canLay0 = true
  | .non => by rw [toP]; simp only [PyData.canLay0]
  | .bl b => by rw [toP]; simp only [PyData.canLay0]
  | .int i => by rw [toP]; simp only [PyData.canLay0]
  | .tup l => by rw [toP]; simp only [PyData.canLay0]; exact lay_toPs l
theorem lay_toPs : ∀ l : List Dt, PyData.canLayAll0 (toPs l) = true
  | [] => by rw [toPs]; simp only [PyData.canLayAll0]
  | d :: l => by rw [toPs]; simp only [PyData.canLayAll0]; rw [lay_toP d, lay_toPs l]; rfl
end
/-- at most n deep -/
def shal : Nat → Dt → Bool
  | 0, .tup _ => false
  | n + 1, .tup l => l.all (shal n)
  | _, _ => true
theorem depth_all {n : Nat} (h : ∀ d, shal n d = true → (toP d).depth ≤ n) : ∀ l : List Dt, l.all (shal n) = true → PyData.depthAll (toPs l) ≤ n
  | [], _ => by rw [toPs]; simp [PyData.depthAll]
  | d :: l, q => by
    rw [List.all_cons, Bool.and_eq_true] at q
    rw [toPs]
    simp only [PyData.depthAll]
    have h1 := h d q.1
    have h2 := depth_all h l q.2
    omega
theorem depth_toP : ∀ (n : Nat) (d : Dt), shal n d = true → (toP d).depth ≤ n
  | 0, .non, _ => by rw [toP]; simp [PyData.depth]
  | 0, .bl _, _ => by rw [toP]; simp [PyData.depth]
  | 0, .int _, _ => by rw [toP]; simp [PyData.depth]
  | 0, .tup _, h => by simp [shal] at h
  | n + 1, .non, _ => by rw [toP]; simp [PyData.depth]
  | n + 1, .bl _, _ => by rw [toP]; simp [PyData.depth]
  | n + 1, .int _, _ => by rw [toP]; simp [PyData.depth]
  | n + 1, .tup l, h => by
    rw [toP]
    simp only [PyData.depth]
    have := depth_all (n := n) (depth_toP n) l (by simpa [shal] using h)
    omega
theorem shaped_toP {d : Dt} (h : shal 20 d = true) : SeqAt.shaped (toP d) = true := by
  show ((toP d).canLay0 && decide ((toP d).depth ≤ 64)) = true
  rw [lay_toP d, Bool.true_and]
  exact decide_eq_true (Nat.le_trans (depth_toP 20 d h) (by decide))
theorem shaped_list {l : List Dt} (h : l.all (shal 20) = true) : SeqAt.shaped (.list (toPs l)) = true := by
  show (PyData.canLay0 (.list (toPs l)) && decide ((PyData.list (toPs l)).depth ≤ 64)) = true
  have h1 := depth_all (n := 20) (depth_toP 20) l h
  rw [Bool.and_eq_true]
  refine ⟨by simp only [PyData.canLay0]; exact lay_toPs l, decide_eq_true ?_⟩
  simp only [PyData.depth]
  omega
/-- ==, where bools and ints don't meet -/
def deqL (f : Dt → Dt → Option Bool) : List Dt → List Dt → Option Bool
  | [], [] => some true
  | [], _ :: _ => some false
  | _ :: _, [] => some false
  | x :: xs, y :: ys => match f x y with
    | some true => deqL f xs ys
    | some false => some false
    | none => none
def deq : Nat → Dt → Dt → Option Bool
  | _, .int i, .int j => some (ieq i j)
  | _, .non, .non => some true
  | _, .bl a, .bl b => some (a == b)
  | n + 1, .tup xs, .tup ys => deqL (deq n) xs ys
  | _, .non, .int _ => some false
  | _, .int _, .non => some false
  | _, .non, .tup _ => some false
  | _, .tup _, .non => some false
  | _, .int _, .tup _ => some false
  | _, .tup _, .int _ => some false
  | _, _, _ => none
theorem deqL_ok {f : Dt → Dt → Option Bool} (h : ∀ x y b, f x y = some b → PyData.eqv (toP x) (toP y) = b) : ∀ (xs ys : List Dt) (b : Bool), deqL f xs ys = some b → PyData.eqvAll (toPs xs) (toPs ys) = b
  | [], [], b, e => by cases e; simp only [toPs, PyData.eqvAll]
  | [], _ :: _, b, e => by cases e; simp only [toPs, PyData.eqvAll]
  | _ :: _, [], b, e => by cases e; simp only [toPs, PyData.eqvAll]
  | x :: xs, y :: ys, b, e => by
    unfold deqL at e
    simp only [toPs, PyData.eqvAll]
    split at e
    · rename_i h1
      rw [h x y _ h1, deqL_ok h xs ys b e, Bool.true_and]
    · rename_i h1
      cases e
      rw [h x y _ h1, Bool.false_and]
    · cases e
theorem deq_ok : ∀ (n : Nat) (x y : Dt) (b : Bool), deq n x y = some b → PyData.eqv (toP x) (toP y) = b
  | n, .int i, .int j, b, h => by
    have h' : some (ieq i j) = some b := by cases n <;> exact h
    cases h'
    simp only [toP, PyData.eqv]
    rw [← ieq_dec, Bool.beq_eq_decide_eq]
  | n, .non, .non, b, h => by
    have h' : some true = some b := by cases n <;> exact h
    cases h'
    simp only [toP, PyData.eqv]
  | n, .bl p, .bl q, b, h => by
    have h' : some (p == q) = some b := by cases n <;> exact h
    cases h'
    simp only [toP, PyData.eqv]
  | n + 1, .tup xs, .tup ys, b, h => by
    have h' : deqL (deq n) xs ys = some b := h
    simp only [toP, PyData.eqv]
    exact deqL_ok (deq_ok n) xs ys b h'
  | 0, .tup xs, .tup ys, b, h => by cases h
  | n, .non, .int _, b, h => by
    have h' : some false = some b := by cases n <;> exact h
    cases h'
    simp only [toP, PyData.eqv]
  | n, .int _, .non, b, h => by
    have h' : some false = some b := by cases n <;> exact h
    cases h'
    simp only [toP, PyData.eqv]
  | n, .non, .tup _, b, h => by
    have h' : some false = some b := by cases n <;> exact h
    cases h'
    simp only [toP, PyData.eqv]
  | n, .tup _, .non, b, h => by
    have h' : some false = some b := by cases n <;> exact h
    cases h'
    simp only [toP, PyData.eqv]
  | n, .int _, .tup _, b, h => by
    have h' : some false = some b := by cases n <;> exact h
    cases h'
    simp only [toP, PyData.eqv]
  | n, .tup _, .int _, b, h => by
    have h' : some false = some b := by cases n <;> exact h
    cases h'
    simp only [toP, PyData.eqv]
  | n, .bl _, .non, b, h => by cases n <;> cases h
  | n, .bl _, .int _, b, h => by cases n <;> cases h
  | n, .bl _, .tup _, b, h => by cases n <;> cases h
  | n, .non, .bl _, b, h => by cases n <;> cases h
  | n, .int _, .bl _, b, h => by cases n <;> cases h
  | n, .tup _, .bl _, b, h => by cases n <;> cases h
def kEq (g : Bool → Bool) : Dt → Dt → Option Dt := fun a b => if shal 20 a && shal 20 b then (match deq 20 a b with | some r => some (.bl (g r)) | none => none) else none
def kEqC (g : Bool → Bool) : Ct → Ct → Option Dt
  | .lst a, .lst b => if a.all (shal 20) && b.all (shal 20) then (match deqL (deq 20) a b with | some r => some (.bl (g r)) | none => none) else none
  | _, _ => none
section
variable {K : PySem.W.Frag}
theorem rii_eq : RII (rEqD K) (kEq id) := fun H x y a b d ra rb h Q q => by
  unfold kEq at h
  split at h
  · rename_i hs
    rw [Bool.and_eq_true] at hs
    split at h
    · rename_i r e
      cases h
      exact ⟨toP a, toP b, ra.dp, rb.dp, shaped_toP hs.1, shaped_toP hs.2, by rw [deq_ok 20 a b r e]; exact q _ (.bl _)⟩
    · cases h
  · cases h
theorem rii_ne : RII (rNeD K) (kEq not) := fun H x y a b d ra rb h Q q => by
  unfold kEq at h
  split at h
  · rename_i hs
    rw [Bool.and_eq_true] at hs
    split at h
    · rename_i r e
      cases h
      exact ⟨toP a, toP b, ra.dp, rb.dp, shaped_toP hs.1, shaped_toP hs.2, by rw [deq_ok 20 a b r e]; exact q _ (.bl _)⟩
    · cases h
  · cases h
theorem rcc_eq : RCC (rEqD K) (kEqC id) := fun H x y a b d ra rb h Q q => by
  unfold kEqC at h
  split at h
  · split at h
    · rename_i hs
      rw [Bool.and_eq_true] at hs
      split at h
      · rename_i r e
        cases h
        cases ra with
        | lst _ h1 h2 =>
          cases rb with
          | lst _ h3 h4 =>
            refine ⟨_, _, .lst (SqL.of h1) h2.dp, .lst (SqL.of h3) h4.dp, shaped_list hs.1, shaped_list hs.2, ?_⟩
            have e2 := deqL_ok (deq_ok 20) _ _ r e
            simp only [PyData.eqv]
            rw [e2]
            exact q _ (.bl _)
      · cases h
    · cases h
  · cases h
theorem rcc_ne : RCC (rNeD K) (kEqC not) := fun H x y a b d ra rb h Q q => by
  unfold kEqC at h
  split at h
  · split at h
    · rename_i hs
      rw [Bool.and_eq_true] at hs
      split at h
      · rename_i r e
        cases h
        cases ra with
        | lst _ h1 h2 =>
          cases rb with
          | lst _ h3 h4 =>
            refine ⟨_, _, .lst (SqL.of h1) h2.dp, .lst (SqL.of h3) h4.dp, shaped_list hs.1, shaped_list hs.2, ?_⟩
            have e2 := deqL_ok (deq_ok 20) _ _ r e
            simp only [PyData.eqv]
            rw [e2]
            exact q _ (.bl _)
      · cases h
    · cases h
  · cases h
/-! ### x in a list -/
def anyEq (d : Dt) : List Dt → Option Bool
  | [] => some false
  | z :: zs => match deq 20 z d with
    | some true => some true
    | some false => anyEq d zs
    | none => none
theorem anyEq_ok (d : Dt) : ∀ (l : List Dt) (b : Bool), anyEq d l = some b → ((toPs l).any fun z => PyData.eqv z (toP d)) = b
  | [], b, h => by cases h; simp only [toPs, List.any_nil]
  | z :: zs, b, h => by
    unfold anyEq at h
    simp only [toPs, List.any_cons]
    split at h
    · rename_i e
      cases h
      rw [deq_ok 20 z d _ e, Bool.true_or]
    · rename_i e
      rw [deq_ok 20 z d _ e, Bool.false_or]
      exact anyEq_ok d zs b h
    · cases h
def kIn (g : Bool → Bool) : Dt → Ct → Option Dt
  | d, .lst l => if shal 20 d && l.all (shal 20) then (match anyEq d l with | some r => some (.bl (g r)) | none => none) else none
  | _, _ => none
theorem ric_in : RIC (rInD K) (kIn id) := fun H x y a b d ra rb h Q q => by
  unfold kIn at h
  split at h
  · split at h
    · rename_i hs
      rw [Bool.and_eq_true] at hs
      split at h
      · rename_i r e
        cases h
        cases rb with
        | lst _ h1 h2 =>
          refine ⟨_, _, ra.dp, .lst (SqL.of h1) h2.dp, shaped_toP hs.1, shaped_list hs.2, ?_⟩
          rw [anyEq_ok _ _ r e]
          exact q _ (.bl _)
      · cases h
    · cases h
  · cases h
theorem ric_notIn : RIC (rNotInD K) (kIn not) := fun H x y a b d ra rb h Q q => by
  unfold kIn at h
  split at h
  · split at h
    · rename_i hs
      rw [Bool.and_eq_true] at hs
      split at h
      · rename_i r e
        cases h
        cases rb with
        | lst _ h1 h2 =>
          refine ⟨_, _, ra.dp, .lst (SqL.of h1) h2.dp, shaped_toP hs.1, shaped_list hs.2, ?_⟩
          rw [anyEq_ok _ _ r e]
          exact q _ (.bl _)
      · cases h
    · cases h
  · cases h
end
end Wr

set_option maxHeartbeats 1000000
/-! Arguments, displays, calls, built-ins, dicts, tests. -/
namespace Wr
open PySem PySem.Spec PyProof.Rows L2

theorem Reps.app {H : Hp} : ∀ {ds es : List Dt} {xs ys : List V}, Reps H ds xs → Reps H es ys → Reps H (ds ++ es) (xs ++ ys)
  | _, _, _, _, .nil, s => s
  | _, _, _, _, .cons a r, s => .cons a (Reps.app r s)
theorem Reps.take {H : Hp} : ∀ {ds : List Dt} {xs : List V} (n : Nat), Reps H ds xs → Reps H (ds.take n) (xs.take n)
  | _, _, 0, _ => .nil
  | _, _, _ + 1, .nil => .nil
  | _, _, n + 1, .cons a r => .cons a (Reps.take n r)
theorem Reps.drop {H : Hp} : ∀ {ds : List Dt} {xs : List V} (n : Nat), Reps H ds xs → Reps H (ds.drop n) (xs.drop n)
  | _, _, 0, r => r
  | _, _, _ + 1, .nil => .nil
  | _, _, n + 1, .cons _ r => Reps.drop n r
theorem Reps.set {H : Hp} {d : Dt} {x : V} (a : Rep H d x) : ∀ {ds : List Dt} {xs : List V} (n : Nat), Reps H ds xs → Reps H (ds.set n d) (xs.set n x)
  | _, _, _, .nil => .nil
  | _, _, 0, .cons _ r => .cons a r
  | _, _, n + 1, .cons b r => .cons b (Reps.set a n r)
theorem Reps.rep {H : Hp} : ∀ {ds : List Dt} {xs : List V} (k : Nat), Reps H ds xs → Reps H (List.replicate k ds).flatten (List.replicate k xs).flatten
  | _, _, 0, _ => .nil
  | ds, xs, k + 1, r => by
    rw [List.replicate_succ, List.replicate_succ, List.flatten_cons, List.flatten_cons]
    exact r.app (Reps.rep k r)
theorem line_le {n : Nat} (h : Nat.ble n 100000 = true) : n ≤ sizeLine := by
  rw [Nat.ble_eq] at h
  rw [sizeLine_eq]
  omega
theorem line_lt {n : Nat} (h : Nat.ble n 100000 = true) : n < sizeLine := by
  rw [Nat.ble_eq] at h
  rw [sizeLine_eq]
  omega

/-! ### arguments -/
def aNil {α : Type} : En → Option (List α) := fun _ => some []
def aCons (f : En → Option Dt) (g : En → Option (List Dt)) : En → Option (List Dt) := o2 f g fun d ds => some (d :: ds)
def aConsI (f : En → Option Dt) (g : En → Option (List Ar)) : En → Option (List Ar) := o2 f g fun d ds => some (.im d :: ds)
def aConsC (f : En → Option Ct) (g : En → Option (List Ar)) : En → Option (List Ar) := o2 f g fun d ds => some (.ct d :: ds)
section
variable {te : TE} {ta : TA} {K : PySem.W.Frag}
theorem sai_nil : SAi tNil aNil := fun H0 H σ ε xs r h Q q => by
  cases h
  exact q H _ (Same.refl H) .nil
theorem sar_nil : SAr tNil aNil := fun H0 H σ ε xs r h Q q => by
  cases h
  exact q H _ (Same.refl H) .nil
theorem sai_cons {f : En → Option Dt} {g : En → Option (List Dt)} (h1 : SE te f) (h2 : SAi ta g) : SAi (tCons te ta) (aCons f g) := fun H0 H σ ε xs r h Q q => by
  obtain ⟨a, b, e1, e2, e3⟩ := o2_some h
  cases e3
  refine h1 H0 H σ ε a r e1 _ fun H1 x s1 r1 => ?_
  refine h2 H0 H1 σ ε b (r.same s1) e2 _ fun H2 y s2 r2 => ?_
  exact q H2 _ (s1.trans s2) (.cons (r1.same s2) r2)
theorem sar_consI {f : En → Option Dt} {g : En → Option (List Ar)} (h1 : SE te f) (h2 : SAr ta g) : SAr (tCons te ta) (aConsI f g) := fun H0 H σ ε xs r h Q q => by
  obtain ⟨a, b, e1, e2, e3⟩ := o2_some h
  cases e3
  refine h1 H0 H σ ε a r e1 _ fun H1 x s1 r1 => ?_
  refine h2 H0 H1 σ ε b (r.same s1) e2 _ fun H2 y s2 r2 => ?_
  exact q H2 _ (s1.trans s2) (.cons (r1.same s2) r2)
theorem sar_consC {f : En → Option Ct} {g : En → Option (List Ar)} (h1 : SC te f) (h2 : SAr ta g) : SAr (tCons te ta) (aConsC f g) := fun H0 H σ ε xs r h Q q => by
  obtain ⟨a, b, e1, e2, e3⟩ := o2_some h
  cases e3
  refine h1 H0 H σ ε a r e1 _ fun H1 x s1 r1 => ?_
  refine h2 H0 H1 σ ε b (r.same s1) e2 _ fun H2 y s2 r2 => ?_
  exact q H2 _ (s1.trans s2) (.cons ⟨x, rfl, r1.same s2⟩ r2)
/-- *t, t a tuple; *l, l a list -/
def aStarT (f : En → Option Dt) (g : En → Option (List Dt)) : En → Option (List Dt) := o2 f g fun d ds => match d with
  | .tup l => some (l ++ ds)
  | _ => none
def aStarL (f : En → Option Ct) (g : En → Option (List Dt)) : En → Option (List Dt) := o2 f g fun d ds => match d with
  | .lst l => some (l ++ ds)
  | _ => none
theorem sai_starT {f : En → Option Dt} {g : En → Option (List Dt)} (h1 : SE te f) (h2 : SAi ta g) : SAi (StX.tStar K te ta) (aStarT f g) := fun H0 H σ ε xs r h Q q => by
  obtain ⟨a, b, e1, e2, e3⟩ := o2_some h
  split at e3
  · cases e3
    refine h1 H0 H σ ε _ r e1 _ fun H1 x s1 r1 => ?_
    obtain ⟨p, ys, rfl, h3, h4⟩ := rep_tup r1
    refine ⟨p, ys, rfl, .inl (SqT.of h3), ?_⟩
    refine h2 H0 H1 σ ε b (r.same s1) e2 _ fun H2 y s2 r2 => ?_
    exact q H2 _ (s1.trans s2) ((h4.same s2).app r2)
  · cases e3
theorem sai_starL {f : En → Option Ct} {g : En → Option (List Dt)} (h1 : SC te f) (h2 : SAi ta g) : SAi (StX.tStar K te ta) (aStarL f g) := fun H0 H σ ε xs r h Q q => by
  obtain ⟨a, b, e1, e2, e3⟩ := o2_some h
  split at e3
  · cases e3
    refine h1 H0 H σ ε _ r e1 _ fun H1 x s1 r1 => ?_
    cases r1 with
    | lst _ h3 h4 =>
      refine ⟨x, _, rfl, .inr (SqL.of h3), ?_⟩
      refine h2 H0 H1 σ ε b (r.same s1) e2 _ fun H2 y s2 r2 => ?_
      exact q H2 _ (s1.trans s2) ((h4.same s2).app r2)
  · cases e3
def kTup (l : List Dt) : Option Dt := if Nat.ble l.length 100000 then some (.tup l) else none
def kLst (l : List Dt) : Option Ct := if Nat.ble l.length 100000 then some (.lst l) else none
theorem se_tup {f : En → Option (List Dt)} (h : SAi ta f) : SE (tTup ta) (o1 f kTup) := fun H0 H σ ε d r e Q q => by
  obtain ⟨l, e1, e2⟩ := o1_some e
  unfold kTup at e2
  split at e2
  · rename_i hl
    cases e2
    refine h H0 H σ ε l r e1 _ fun H1 vs s1 r1 => ⟨by rw [← r1.length]; exact line_le hl, fun p hp => ?_⟩
    have s2 : Same H1 (upd H1 p (.tup vs)) := Wr.Same.new hp
    exact q _ _ (s1.trans s2) (.tup upd_same (r1.same s2))
  · cases e2
theorem sf_lst {f : En → Option (List Dt)} (h : SAi ta f) : SF (tLst ta) (o1 f kLst) := fun H0 H σ ε d r e Q q => by
  obtain ⟨l, e1, e2⟩ := o1_some e
  unfold kLst at e2
  split at e2
  · rename_i hl
    cases e2
    refine h H0 H σ ε l r e1 _ fun H1 vs s1 r1 => ⟨by rw [← r1.length]; exact line_le hl, fun p hp => ?_⟩
    have s2 : Same H1 (upd H1 p (.lst vs)) := Wr.Same.new hp
    exact q _ _ (s1.trans s2) (.lst (s1.free hp) upd_same (r1.same s2))
  · cases e2
end

/-! ### calls of defs -/
def spI (φ : List Ar → Option Dt) : Sp := fun vs H Q _ => ∃ xs d, RepAs H xs vs ∧ φ xs = some d ∧ ∀ H1 v, Same H H1 → Rep H1 d v → Q v H1
def spF (φ : List Ar → Option Ct) : Sp := fun vs H Q _ => ∃ xs d, RepAs H xs vs ∧ φ xs = some d ∧ ∀ H1 a, Same H H1 → AtP (fun b => H b = none) H1 d a → Q (.ref a) H1
section
variable {ta : TA} {f : En → Option (List Ar)}
theorem se_call {φ : List Ar → Option Dt} {E : XK} (h : SAr ta f) : SE (tCall (spI φ) [] E ta) (o1 f φ) := fun H0 H σ ε d r e Q q => by
  obtain ⟨l, e1, e2⟩ := o1_some e
  refine h H0 H σ ε l r e1 _ fun H1 vs s1 r1 => ?_
  refine ⟨l, d, by rw [List.append_nil]; exact r1, e2, fun H2 v s2 r2 => q H2 v (s1.trans s2) r2⟩
theorem sf_call {φ : List Ar → Option Ct} {E : XK} (h : SAr ta f) : SF (tCall (spF φ) [] E ta) (o1 f φ) := fun H0 H σ ε d r e Q q => by
  obtain ⟨l, e1, e2⟩ := o1_some e
  refine h H0 H σ ε l r e1 _ fun H1 vs s1 r1 => ?_
  refine ⟨l, d, by rw [List.append_nil]; exact r1, e2, fun H2 a s2 r2 => q H2 a (s1.trans s2) (r2.weak fun b o p _ => s1.free p)⟩
end

/-! ### built-ins -/
abbrev RB := List V → Hp → VK → Prop
def RBI (r : RB) (k : List Ar → Option Dt) : Prop := ∀ H xs vs d, RepAs H xs vs → k xs = some d → ∀ Q : VK, (∀ H1 v, Same H H1 → Rep H1 d v → Q v H1) → r vs H Q
def RBF (r : RB) (k : List Ar → Option Ct) : Prop := ∀ H xs vs d, RepAs H xs vs → k xs = some d → ∀ Q : VK, (∀ H1 a, Same H H1 → AtP (fun b => H b = none) H1 d a → Q (.ref a) H1) → r vs H Q
section
variable {r : RB} {ta : TA} {f : En → Option (List Ar)} {K : PySem.W.Frag}
theorem se_cb {k : List Ar → Option Dt} (hr : RBI r k) (h : SAr ta f) : SE (tCB r ta) (o1 f k) := fun H0 H σ ε d R e Q q => by
  obtain ⟨l, e1, e2⟩ := o1_some e
  exact h H0 H σ ε l R e1 _ fun H1 vs s1 r1 => hr H1 l vs d r1 e2 Q fun H2 v s2 r2 => q H2 v (s1.trans s2) r2
theorem sf_cb {k : List Ar → Option Ct} (hr : RBF r k) (h : SAr ta f) : SF (tCB r ta) (o1 f k) := fun H0 H σ ε d R e Q q => by
  obtain ⟨l, e1, e2⟩ := o1_some e
  exact h H0 H σ ε l R e1 _ fun H1 vs s1 r1 => hr H1 l vs d r1 e2 Q fun H2 v s2 r2 => q H2 v (s1.trans s2) (r2.weak fun b o p _ => s1.free p)
theorem repA_tup {H : Hp} {l : List Dt} {vs : List V} (h : RepAs H [.im (.tup l)] vs) : ∃ p xs, vs = [.ref p] ∧ H p = some (.tup xs) ∧ Reps H l xs := by
  cases h with
  | cons a b =>
    cases b
    obtain ⟨p, xs, rfl, h1, h2⟩ := rep_tup (show Rep H _ _ from a)
    exact ⟨p, xs, rfl, h1, h2⟩
theorem repA_lst {H : Hp} {l : List Dt} {vs : List V} (h : RepAs H [.ct (.lst l)] vs) : ∃ p xs, vs = [.ref p] ∧ H p = some (.lst xs) ∧ Reps H l xs := by
  cases h with
  | cons a b =>
    cases b
    obtain ⟨p, rfl, h1⟩ := (show ∃ a, _ = V.ref a ∧ AtP (fun _ => True) H _ a from a)
    cases h1 with
    | lst _ h1 h2 => exact ⟨p, _, rfl, h1, h2⟩
theorem LL.length {P : Addr → Prop} {H : Hp} : ∀ {l : List (List Dt)} {xs : List V}, LL P H l xs → l.length = xs.length
  | _, _, .nil => rfl
  | _, _, .cons _ _ _ r => by rw [List.length_cons, List.length_cons, LL.length r]
theorem repA_ll {H : Hp} {l : List (List Dt)} {vs : List V} (h : RepAs H [.ct (.ll l)] vs) : ∃ p xs, vs = [.ref p] ∧ H p = some (.lst xs) ∧ l.length = xs.length := by
  cases h with
  | cons a b =>
    cases b
    obtain ⟨p, rfl, h1⟩ := (show ∃ a, _ = V.ref a ∧ AtP (fun _ => True) H _ a from a)
    cases h1 with
    | ll _ h1 h2 => exact ⟨p, _, rfl, h1, h2.length⟩
def kLen : List Ar → Option Dt
  | [.im (.tup l)] => some (.int (l.length : Nat))
  | [.ct (.lst l)] => some (.int (l.length : Nat))
  | [.ct (.ll l)] => some (.int (l.length : Nat))
  | _ => none
theorem rb_len : RBI (fun xs H Q => ∃ p ys, xs = [.ref p] ∧ (SqL K H p ys ∨ SqT K H p ys) ∧ Q (.int ys.length) H) kLen := fun H xs vs d ra h Q q => by
  unfold kLen at h
  split at h
  · cases h
    obtain ⟨p, ys, rfl, h1, h2⟩ := repA_tup ra
    exact ⟨p, ys, rfl, .inr (SqT.of h1), by rw [← h2.length]; exact q H _ (Same.refl H) (.int _)⟩
  · cases h
    obtain ⟨p, ys, rfl, h1, h2⟩ := repA_lst ra
    exact ⟨p, ys, rfl, .inl (SqL.of h1), by rw [← h2.length]; exact q H _ (Same.refl H) (.int _)⟩
  · cases h
    obtain ⟨p, ys, rfl, h1, h2⟩ := repA_ll ra
    exact ⟨p, ys, rfl, .inl (SqL.of h1), by rw [← h2]; exact q H _ (Same.refl H) (.int _)⟩
  · cases h
def kMin2 : List Ar → Option Dt
  | [.im (.int i), .im (.int j)] => some (.int (if ilt j i then j else i))
  | _ => none
theorem rb_min2 : RBI (fun xs H Q => ∃ i j, xs = [.int i, .int j] ∧ Q (.int (if j < i then j else i)) H) kMin2 := fun H xs vs d ra h Q q => by
  unfold kMin2 at h
  split at h
  · rename_i i j
    cases h
    cases ra with
    | cons a b =>
      cases b with
      | cons b c =>
        cases c
        cases rep_int (show Rep H _ _ from a)
        cases rep_int (show Rep H _ _ from b)
        refine ⟨i, j, rfl, ?_⟩
        have e : (if j < i then j else i) = (if ilt j i = true then j else i) := by
          rw [← ilt_dec]
          by_cases hji : j < i
          · rw [if_pos hji, if_pos (decide_eq_true hji)]
          · rw [if_neg hji, if_neg (by simpa using hji)]
        rw [e]
        exact q H _ (Same.refl H) (.int _)
  · cases h
def kTupOf : List Ar → Option Dt
  | [.ct (.lst l)] => some (.tup l)
  | _ => none
theorem rb_tupOf : RBI (fun xs H Q => ∃ p ys, xs = [.ref p] ∧ ((SqL K H p ys ∧ ∀ l, H l = none → Q (.ref l) (upd H l (.tup ys))) ∨ (SqT K H p ys ∧ Q (.ref p) H))) kTupOf := fun H xs vs d ra h Q q => by
  unfold kTupOf at h
  split at h
  · cases h
    obtain ⟨p, ys, rfl, h1, h2⟩ := repA_lst ra
    refine ⟨p, ys, rfl, .inl ⟨SqL.of h1, fun l hl => ?_⟩⟩
    have s2 : Same H (upd H l (.tup ys)) := Wr.Same.new hl
    exact q _ _ s2 (.tup upd_same (h2.same s2))
  · cases h
def dInts : List Dt → Option (List Int)
  | [] => some []
  | .int i :: r => match dInts r with
    | some l => some (i :: l)
    | none => none
  | _ => none
theorem dInts_ok {H : Hp} : ∀ {l : List Dt} {xs : List V} {ns : List Int}, Reps H l xs → dInts l = some ns → xs = ns.map V.int
  | _, _, _, .nil, h => by cases h; rfl
  | d :: r, _, _, .cons a b, h => by
    cases d with
    | int i =>
      unfold dInts at h
      split at h
      · rename_i e
        cases h
        cases rep_int a
        rw [dInts_ok b e, List.map_cons]
      · cases h
    | non => cases h
    | bl _ => cases h
    | tup _ => cases h
def sumI : List Int → Int
  | [] => 0
  | i :: r => i + sumI r
theorem sumI_eq : ∀ l : List Int, l.sum = sumI l
  | [] => rfl
  | i :: r => by
    rw [List.sum_cons, sumI_eq r]
    rfl
def kSum : List Ar → Option Dt
  | [.ct (.lst l)] => match dInts l with
    | some ns => some (.int (sumI ns))
    | none => none
  | _ => none
theorem rb_sum : RBI (rSum K) kSum := fun H xs vs d ra h Q q => by
  unfold kSum at h
  split at h
  · split at h
    · rename_i e
      cases h
      obtain ⟨p, ys, rfl, h1, h2⟩ := repA_lst ra
      refine ⟨p, _, rfl, SqL.of (by rw [h1, dInts_ok h2 e]), ?_⟩
      rw [sumI_eq]
      exact q H _ (Same.refl H) (.int _)
    · cases h
  · cases h
def dBools : List Dt → Option (List Bool)
  | [] => some []
  | .bl i :: r => match dBools r with
    | some l => some (i :: l)
    | none => none
  | _ => none
theorem dBools_ok {H : Hp} : ∀ {l : List Dt} {xs : List V} {ns : List Bool}, Reps H l xs → dBools l = some ns → xs = ns.map V.bl
  | _, _, _, .nil, h => by cases h; rfl
  | d :: r, _, _, .cons a b, h => by
    cases d with
    | bl i =>
      unfold dBools at h
      split at h
      · rename_i e
        cases h
        cases rep_bl a
        rw [dBools_ok b e, List.map_cons]
      · cases h
    | non => cases h
    | int _ => cases h
    | tup _ => cases h
def kBools (g : List Bool → Bool) : List Ar → Option Dt
  | [.ct (.lst l)] => match dBools l with
    | some ns => some (.bl (g ns))
    | none => none
  | _ => none
theorem rb_any : RBI (rAny K) (kBools fun l => l.any id) := fun H xs vs d ra h Q q => by
  unfold kBools at h
  split at h
  · split at h
    · rename_i e
      cases h
      obtain ⟨p, ys, rfl, h1, h2⟩ := repA_lst ra
      exact ⟨p, _, rfl, SqL.of (by rw [h1, dBools_ok h2 e]), q H _ (Same.refl H) (.bl _)⟩
    · cases h
  · cases h
theorem rb_all : RBI (rAll K) (kBools fun l => l.all id) := fun H xs vs d ra h Q q => by
  unfold kBools at h
  split at h
  · split at h
    · rename_i e
      cases h
      obtain ⟨p, ys, rfl, h1, h2⟩ := repA_lst ra
      exact ⟨p, _, rfl, SqL.of (by rw [h1, dBools_ok h2 e]), q H _ (Same.refl H) (.bl _)⟩
    · cases h
  · cases h
end

/-! ### methods of lists -/
section
variable {to : TE} {ta : TA} {K : PySem.W.Frag}
def RMI (r : V → List V → Hp → VK → Prop) (k : Ct → List Dt → Option Dt) : Prop := ∀ H p c xs vs d, AtP (fun _ => True) H c p → Reps H xs vs → k c xs = some d → ∀ Q : VK, (∀ v, Rep H d v → Q v H) → r (.ref p) vs H Q
theorem se_bm {r : V → List V → Hp → VK → Prop} {f : En → Option Ct} {g : En → Option (List Dt)} {k : Ct → List Dt → Option Dt} (hr : RMI r k) (h1 : SC to f) (h2 : SAi ta g)
    (hl : ∀ ε c, f ε = some c → ∃ l, c = .lst l) : SE (tBM K "list" r to ta) (o2 f g k) := fun H0 H σ ε d R e Q q => by
  obtain ⟨c, xs, e1, e2, e3⟩ := o2_some e
  refine h1 H0 H σ ε c R e1 _ fun H1 p s1 r1 => ?_
  obtain ⟨l, rfl⟩ := hl ε c e1
  refine ⟨?_, h2 H0 H1 σ ε xs (R.same s1) e2 _ fun H2 vs s2 r2 => hr H2 p _ xs vs d (r1.same s2) r2 e3 Q fun v r3 => q H2 v (s1.trans s2) r3⟩
  cases r1 with
  | lst _ h3 h4 => exact .inl ⟨rfl, _, SqL.of h3⟩
/-- a list only -/
def oL (f : En → Option Ct) : En → Option Ct := fun ε => match f ε with
  | some (.lst l) => some (.lst l)
  | _ => none
theorem oL_lst {f : En → Option Ct} : ∀ ε c, oL f ε = some c → ∃ l, c = .lst l := fun ε c h => by
  unfold oL at h
  split at h
  · cases h
    exact ⟨_, rfl⟩
  · cases h
theorem sc_oL {t : TE} {f : En → Option Ct} (h : SC t f) : SC t (oL f) := fun H0 H σ ε c R e Q q => by
  unfold oL at e
  split at e
  · rename_i e1
    cases e
    exact h H0 H σ ε _ R e1 Q q
  · cases e
/-- the first place of an equal one -/
def place (d : Dt) : List Dt → Nat → Option Nat
  | [], _ => none
  | z :: zs, n => match deq 20 z d with
    | some true => some n
    | some false => place d zs (n + 1)
    | none => none
theorem toPs_get : ∀ (l : List Dt) (j : Nat), (toPs l)[j]? = (l[j]?).map toP
  | [], j => by simp [toPs]
  | d :: l, 0 => by simp [toPs]
  | d :: l, j + 1 => by
    rw [toPs, List.getElem?_cons_succ, List.getElem?_cons_succ]
    exact toPs_get l j
theorem place_ok (d : Dt) : ∀ (l : List Dt) (n m : Nat), place d l n = some m → ∃ j z, m = n + j ∧ (toPs l)[j]? = some z ∧ PyData.eqv z (toP d) = true ∧ ∀ (i : Nat) (z' : PyData), i < j → (toPs l)[i]? = some z' → PyData.eqv z' (toP d) = false
  | [], n, m, h => by cases h
  | z :: zs, n, m, h => by
    unfold place at h
    split at h
    · rename_i e
      cases h
      exact ⟨0, toP z, by omega, by rw [toPs]; rfl, deq_ok 20 z d _ e, fun i z' hi => absurd hi (Nat.not_lt_zero i)⟩
    · rename_i e
      obtain ⟨j, z2, h1, h2, h3, h4⟩ := place_ok d zs (n + 1) m h
      refine ⟨j + 1, z2, by omega, by rw [toPs, List.getElem?_cons_succ]; exact h2, h3, fun i z' hi hz => ?_⟩
      cases i with
      | zero =>
        rw [toPs, List.getElem?_cons_zero] at hz
        cases hz
        exact deq_ok 20 z d _ e
      | succ i =>
        rw [toPs, List.getElem?_cons_succ] at hz
        exact h4 i z' (by omega) hz
    · cases h
def kIndex : Ct → List Dt → Option Dt
  | .lst l, [d] => if shal 20 d && l.all (shal 20) then (match place d l 0 with | some m => some (.int (m : Nat)) | none => none) else none
  | _, _ => none
theorem rm_index : RMI (rIndexD K) kIndex := fun H p c xs vs d r1 r2 h Q q => by
  unfold kIndex at h
  split at h
  · split at h
    · rename_i hs
      rw [Bool.and_eq_true] at hs
      split at h
      · rename_i m e
        cases h
        cases r1 with
        | lst _ h1 h2 =>
          cases r2 with
          | cons a b =>
            cases b
            obtain ⟨j, z, e1, e2, e3, e4⟩ := place_ok _ _ 0 m e
            have e5 : m = j := by omega
            subst e5
            exact ⟨p, _, _, _, m, z, rfl, rfl, .lst (SqL.of h1) h2.dp, a.dp, shaped_list hs.2, shaped_toP hs.1, e2, e3, e4, q _ (.int _)⟩
      · cases h
    · cases h
  · cases h
def cntI (k : Int) : List Int → Nat
  | [] => 0
  | i :: r => if ieq i k then cntI k r + 1 else cntI k r
theorem cntI_eq (k : Int) : ∀ l : List Int, l.count k = cntI k l
  | [] => rfl
  | i :: r => by
    rw [List.count_cons, cntI_eq k r]
    show _ = (if ieq i k then cntI k r + 1 else cntI k r)
    rw [← ieq_dec]
    by_cases h : i = k
    · subst h
      simp
    · have h' : (i == k) = false := beq_eq_false_iff_ne.mpr h
      simp [h, h']
def kCount : Ct → List Dt → Option Dt
  | .lst l, [.int k] => match dInts l with
    | some ns => some (.int (cntI k ns : Nat))
    | none => none
  | _, _ => none
theorem rm_count : RMI (rCntI K) kCount := fun H p c xs vs d r1 r2 h Q q => by
  unfold kCount at h
  split at h
  · rename_i l k
    split at h
    · rename_i ns e
      cases h
      cases r1 with
      | lst _ h1 h2 =>
        cases r2 with
        | cons a b =>
          cases b
          cases rep_int a
          refine ⟨p, ns, k, rfl, rfl, SqL.of (by rw [h1, dInts_ok h2 e]), ?_⟩
          rw [cntI_eq]
          exact q _ (.int _)
    · cases h
  · cases h
end

/-! ### dicts -/
def lookP : List ((Int × Int) × Dt) → Int → Int → Option Dt
  | [], _, _ => none
  | ((a, b), d) :: r, i, j => if ieq a i && ieq b j then some d else lookP r i j
def lookI : List (Int × Dt) → Int → Option Dt
  | [], _ => none
  | (a, d) :: r, i => if ieq a i then some d else lookI r i
def RepO (H : Hp) : Option Dt → Option V → Prop
  | some d, some v => Rep H d v
  | none, none => True
  | _, _ => False
theorem RepO.some {H : Hp} {d : Dt} {o : Option V} (h : RepO H (.some d) o) : ∃ u, o = .some u ∧ Rep H d u := by
  cases o with
  | none => cases h
  | some u => exact ⟨u, rfl, h⟩
theorem RepO.none {H : Hp} {o : Option V} (h : RepO H .none o) : o = .none := by
  cases o with
  | none => rfl
  | some u => cases h
theorem lookP_ok {H : Hp} : ∀ {l : List ((Int × Int) × Dt)} {m : List (List Key × V)} (i j : Int), KP H l m → RepO H (lookP l i j) (valV m [.inl i, .inl j])
  | _, _, i, j, .nil => trivial
  | _, _, i, j, .cons (i := a) (j := b) (d := d) (v := v) (l := l) (m := m) r t => by
    unfold lookP
    by_cases h : a = i ∧ b = j
    · obtain ⟨rfl, rfl⟩ := h
      have e : (ieq a a && ieq b b) = true := by rw [← ieq_dec, ← ieq_dec]; simp
      rw [if_pos e, valV_pos rfl]
      exact r
    · have e : ¬ (ieq a i && ieq b j) = true := by
        rw [← ieq_dec, ← ieq_dec]
        simpa using h
      rw [if_neg e]
      have ne : ¬ ([Sum.inl a, Sum.inl b] : List Key) = [.inl i, .inl j] := fun z => h (by
        injection z with z1 z2
        injection z2 with z2 _
        exact ⟨Sum.inl.inj z1, Sum.inl.inj z2⟩)
      rw [valV_neg ne]
      exact lookP_ok i j t
theorem lookI_ok {H : Hp} : ∀ {l : List (Int × Dt)} {m : List (Key × V)} (i : Int), KI H l m → RepO H (lookI l i) (valV m (.inl i))
  | _, _, i, .nil => trivial
  | _, _, i, .cons (i := a) (d := d) (v := v) (l := l) (m := m) r t => by
    unfold lookI
    by_cases h : a = i
    · subst h
      have e : ieq a a = true := by rw [← ieq_dec]; simp
      rw [if_pos e, valV_pos rfl]
      exact r
    · have e : ¬ ieq a i = true := by
        rw [← ieq_dec]
        simpa using h
      rw [if_neg e]
      have ne : ¬ (Sum.inl a : Key) = .inl i := fun z => h (Sum.inl.inj z)
      rw [valV_neg ne]
      exact lookI_ok i t
/-- what a dict has at a key: the outer none where it is no such dict or key -/
def look : Ct → Dt → Option (Option Dt)
  | .dP l, .tup [.int i, .int j] => some (lookP l i j)
  | .dI l, .int i => some (lookI l i)
  | _, _ => none
theorem look_ok {H : Hp} {c : Ct} {a : Addr} {k : Dt} {v : V} {o : Option Dt} (hc : AtP (fun _ => True) H c a) (hk : Rep H k v) (h : look c k = some o) : IsD H a ∧ ∃ ov, DGet H a v ov ∧ RepO H o ov := by
  unfold look at h
  split at h
  · rename_i l i j
    cases h
    cases hc with
    | dP _ h1 h2 =>
      obtain ⟨p, xs, rfl, h3, h4⟩ := rep_tup hk
      have e : xs = ([Sum.inl i, Sum.inl j] : List Key).map kV := by
        cases h4 with
        | cons a b =>
          cases b with
          | cons b c =>
            cases c
            rw [rep_int a, rep_int b]
            rfl
      rw [e] at h3
      exact ⟨.inr ⟨_, .inl h1⟩, _, DGet.t h1 h3, lookP_ok i j h2⟩
  · rename_i l i
    cases h
    cases hc with
    | dI _ h1 h2 =>
      cases rep_int hk
      exact ⟨.inl ⟨_, .inl h1⟩, _, DGet.k (k := .inl i) h1, lookI_ok i h2⟩
  · cases h
theorem look_isD {H : Hp} {P : Addr → Prop} {c : Ct} {a : Addr} {k : Dt} {o : Option Dt} (hc : AtP P H c a) (h : look c k = some o) : IsD H a := by
  unfold look at h
  split at h
  · cases hc with
    | dP _ h3 _ => exact .inr ⟨_, .inl h3⟩
  · cases hc with
    | dI _ h3 _ => exact .inl ⟨_, .inl h3⟩
  · cases h
def kGet (c : Ct) (k : Dt) : Option Dt := match look c k with
  | some o => o
  | none => none
def kGet1 (c : Ct) (k : Dt) : Option Dt := match look c k with
  | some (some d) => some d
  | some none => some .non
  | none => none
def kHas (g : Bool → Bool) (c : Ct) (k : Dt) : Option Dt := match look c k with
  | some (some _) => some (.bl (g true))
  | some none => some (.bl (g false))
  | none => none
section
variable {td ty tx : TE} {f : En → Option Ct} {g : En → Option Dt}
theorem se_dget (h1 : SC td f) (h2 : SE ty g) : SE (tDGet td ty) (o2 f g kGet) := fun H0 H σ ε d R e Q q => by
  obtain ⟨c, k, e1, e2, e3⟩ := o2_some e
  refine h1 H0 H σ ε c R e1 _ fun H1 a s1 r1 => h2 H0 H1 σ ε k (R.same s1) e2 _ fun H2 y s2 r2 => ?_
  unfold kGet at e3
  split at e3
  · rename_i o e4
    obtain ⟨_, ov, g1, g2⟩ := look_ok (r1.same s2) r2 e4
    subst e3
    obtain ⟨u, rfl, g3⟩ := g2.some
    exact ⟨a, u, rfl, g1, q H2 u (s1.trans s2) g3⟩
  · cases e3
theorem se_dget1 (h1 : SC td f) (h2 : SE ty g) : SE (tDGet1 td ty) (o2 f g kGet1) := fun H0 H σ ε d R e Q q => by
  obtain ⟨c, k, e1, e2, e3⟩ := o2_some e
  refine h1 H0 H σ ε c R e1 _ fun H1 a s1 r1 => ⟨a, rfl, ?_, h2 H0 H1 σ ε k (R.same s1) e2 _ fun H2 y s2 r2 => ?_⟩
  · unfold kGet1 at e3
    split at e3
    · rename_i e4
      exact look_isD r1 e4
    · rename_i e4
      exact look_isD r1 e4
    · cases e3
  · unfold kGet1 at e3
    split at e3
    · rename_i d' e4
      obtain ⟨_, ov, g1, g2⟩ := look_ok (r1.same s2) r2 e4
      obtain ⟨u, rfl, g3⟩ := g2.some
      cases e3
      exact ⟨_, g1, q H2 u (s1.trans s2) g3⟩
    · rename_i e4
      obtain ⟨_, ov, g1, g2⟩ := look_ok (r1.same s2) r2 e4
      cases g2.none
      cases e3
      exact ⟨_, g1, q H2 .non (s1.trans s2) .non⟩
    · cases e3
theorem se_dget2N (h1 : SC td f) (h2 : SE ty g) : SE (tDGet2 td ty (tC .non)) (o2 f g kGet1) := se_dget1 h1 h2
theorem se_din (h2 : SE ty g) (h1 : SC td f) : SE (tDIn ty td) (o2 f g (kHas id)) := fun H0 H σ ε d R e Q q => by
  obtain ⟨c, k, e1, e2, e3⟩ := o2_some e
  refine h2 H0 H σ ε k R e2 _ fun H1 y s1 r1 => h1 H0 H1 σ ε c (R.same s1) e1 _ fun H2 a s2 r2 => ?_
  unfold kHas at e3
  split at e3
  · rename_i d' e4
    obtain ⟨_, ov, g1, g2⟩ := look_ok r2 (r1.same s2) e4
    obtain ⟨u, rfl, g3⟩ := g2.some
    cases e3
    exact ⟨a, _, rfl, g1, q H2 _ (s1.trans s2) (.bl _)⟩
  · rename_i e4
    obtain ⟨_, ov, g1, g2⟩ := look_ok r2 (r1.same s2) e4
    cases g2.none
    cases e3
    exact ⟨a, _, rfl, g1, q H2 _ (s1.trans s2) (.bl _)⟩
  · cases e3
theorem se_dnotin (h2 : SE ty g) (h1 : SC td f) : SE (tDNotIn ty td) (o2 f g (kHas not)) := fun H0 H σ ε d R e Q q => by
  obtain ⟨c, k, e1, e2, e3⟩ := o2_some e
  refine h2 H0 H σ ε k R e2 _ fun H1 y s1 r1 => h1 H0 H1 σ ε c (R.same s1) e1 _ fun H2 a s2 r2 => ?_
  unfold kHas at e3
  split at e3
  · rename_i d' e4
    obtain ⟨_, ov, g1, g2⟩ := look_ok r2 (r1.same s2) e4
    obtain ⟨u, rfl, g3⟩ := g2.some
    cases e3
    exact ⟨a, _, rfl, g1, q H2 _ (s1.trans s2) (.bl _)⟩
  · rename_i e4
    obtain ⟨_, ov, g1, g2⟩ := look_ok r2 (r1.same s2) e4
    cases g2.none
    cases e3
    exact ⟨a, _, rfl, g1, q H2 _ (s1.trans s2) (.bl _)⟩
  · cases e3
end

/-! ### tests -/
def toB : Dt → Option Bool
  | .bl b => some b
  | _ => none
theorem toB_some {d : Dt} {b : Bool} (h : toB d = some b) : d = .bl b := by
  cases d <;> cases h
  rfl
def bAnd (f g : En → Option Bool) : En → Option Bool := fun ε => match f ε with
  | some true => g ε
  | some false => some false
  | none => none
def bOr (f g : En → Option Bool) : En → Option Bool := fun ε => match f ε with
  | some true => some true
  | some false => g ε
  | none => none
def bIf {α : Type} (c : En → Option Bool) (f g : En → Option α) : En → Option α := fun ε => match c ε with
  | some true => f ε
  | some false => g ε
  | none => none
def vAnd (f g : En → Option Dt) : En → Option Dt := fun ε => match f ε with
  | some (.bl true) => g ε
  | some (.bl false) => some (.bl false)
  | _ => none
section
variable {te tb : TE} {t u : TT}
theorem st_test {f : En → Option Dt} (h : SE te f) : ST (tTest te) (o1 f toB) := fun H0 H σ ε b R e Q q => by
  obtain ⟨d, e1, e2⟩ := o1_some e
  cases toB_some e2
  refine h H0 H σ ε _ R e1 _ fun H1 v s1 r1 => ?_
  cases rep_bl r1
  exact ⟨b, rfl, q H1 s1⟩
theorem st_B {f : En → Option Dt} (h : SE te f) : ST (tB te) (o1 f toB) := st_test h
theorem st_and {f g : En → Option Bool} (h1 : ST t f) (h2 : ST u g) : ST (tAnd t u) (bAnd f g) := fun H0 H σ ε b R e Q q => by
  unfold bAnd at e
  split at e
  · rename_i e1
    refine h1 H0 H σ ε _ R e1 _ fun H1 s1 => ?_
    rw [if_pos rfl]
    exact h2 H0 H1 σ ε b (R.same s1) e Q fun H2 s2 => q H2 (s1.trans s2)
  · rename_i e1
    cases e
    refine h1 H0 H σ ε _ R e1 _ fun H1 s1 => ?_
    rw [if_neg Bool.false_ne_true]
    exact q H1 s1
  · cases e
theorem st_or {f g : En → Option Bool} (h1 : ST t f) (h2 : ST u g) : ST (tOr t u) (bOr f g) := fun H0 H σ ε b R e Q q => by
  unfold bOr at e
  split at e
  · rename_i e1
    cases e
    refine h1 H0 H σ ε _ R e1 _ fun H1 s1 => ?_
    rw [if_pos rfl]
    exact q H1 s1
  · rename_i e1
    refine h1 H0 H σ ε _ R e1 _ fun H1 s1 => ?_
    rw [if_neg Bool.false_ne_true]
    exact h2 H0 H1 σ ε b (R.same s1) e Q fun H2 s2 => q H2 (s1.trans s2)
  · cases e
theorem st_not {f : En → Option Bool} (h1 : ST t f) : ST (tNot t) (o1 f fun b => some (!b)) := fun H0 H σ ε b R e Q q => by
  obtain ⟨d, e1, e2⟩ := o1_some e
  cases e2
  exact h1 H0 H σ ε d R e1 _ fun H1 s1 => q H1 s1
theorem st_yes : ST tYes (fun _ => some true) := fun H0 H σ ε b R e Q q => by
  cases e
  exact q H (Same.refl H)
theorem se_andV {f g : En → Option Dt} (h1 : SE te f) (h2 : SE tb g) : SE (tAndV te tb) (vAnd f g) := fun H0 H σ ε d R e Q q => by
  unfold vAnd at e
  split at e
  · rename_i e1
    refine h1 H0 H σ ε _ R e1 _ fun H1 v s1 r1 => ?_
    cases rep_bl r1
    refine ⟨true, rfl, ?_⟩
    rw [if_pos rfl]
    exact h2 H0 H1 σ ε d (R.same s1) e Q fun H2 v s2 r2 => q H2 v (s1.trans s2) r2
  · rename_i e1
    cases e
    refine h1 H0 H σ ε _ R e1 _ fun H1 v s1 r1 => ?_
    cases rep_bl r1
    refine ⟨false, rfl, ?_⟩
    rw [if_neg Bool.false_ne_true]
    exact q H1 _ s1 (.bl _)
  · cases e
theorem se_if {c : En → Option Bool} {f g : En → Option Dt} (h0 : ST t c) (h1 : SE te f) (h2 : SE tb g) : SE (tIf t te tb) (bIf c f g) := fun H0 H σ ε d R e Q q => by
  unfold bIf at e
  split at e
  · rename_i e1
    refine h0 H0 H σ ε _ R e1 _ fun H1 s1 => ?_
    rw [if_pos rfl]
    exact h1 H0 H1 σ ε d (R.same s1) e Q fun H2 v s2 r2 => q H2 v (s1.trans s2) r2
  · rename_i e1
    refine h0 H0 H σ ε _ R e1 _ fun H1 s1 => ?_
    rw [if_neg Bool.false_ne_true]
    exact h2 H0 H1 σ ε d (R.same s1) e Q fun H2 v s2 r2 => q H2 v (s1.trans s2) r2
  · cases e
theorem sf_if {c : En → Option Bool} {f g : En → Option Ct} (h0 : ST t c) (h1 : SF te f) (h2 : SF tb g) : SF (tIf t te tb) (bIf c f g) := fun H0 H σ ε d R e Q q => by
  unfold bIf at e
  split at e
  · rename_i e1
    refine h0 H0 H σ ε _ R e1 _ fun H1 s1 => ?_
    rw [if_pos rfl]
    exact h1 H0 H1 σ ε d (R.same s1) e Q fun H2 v s2 r2 => q H2 v (s1.trans s2) (r2.weak fun b o p _ => s1.free p)
  · rename_i e1
    refine h0 H0 H σ ε _ R e1 _ fun H1 s1 => ?_
    rw [if_neg Bool.false_ne_true]
    exact h2 H0 H1 σ ε d (R.same s1) e Q fun H2 v s2 r2 => q H2 v (s1.trans s2) (r2.weak fun b o p _ => s1.free p)
  · cases e
/-- a op b op' c -/
def o3c (f g h : En → Option Dt) (k k' : Dt → Dt → Option Dt) : En → Option Dt := fun ε => match f ε with
  | none => none
  | some a => match g ε with
    | none => none
    | some b => match k a b with
      | some (.bl true) => (match h ε with
        | none => none
        | some c => k' b c)
      | some (.bl false) => some (.bl false)
      | _ => none
theorem se_chain {r r' : R2} {ta tc : TE} {f g h : En → Option Dt} {k k' : Dt → Dt → Option Dt} (hr : RII r k) (hr' : RII r' k') (h1 : SE ta f) (h2 : SE tb g) (h3 : SE tc h) : SE (tChain r r' ta tb tc) (o3c f g h k k') := fun H0 H σ ε d R e Q q => by
  unfold o3c at e
  split at e
  · cases e
  · rename_i a e1
    split at e
    · cases e
    · rename_i b e2
      refine h1 H0 H σ ε a R e1 _ fun H1 x s1 r1 => h2 H0 H1 σ ε b (R.same s1) e2 _ fun H2 y s2 r2 => ?_
      split at e
      · rename_i e3
        refine hr H2 x y a b _ (r1.same s2) r2 e3 _ fun v r3 => ?_
        cases rep_bl r3
        refine ⟨true, rfl, ?_⟩
        rw [if_pos rfl]
        split at e
        · cases e
        · rename_i c e4
          refine h3 H0 H2 σ ε c ((R.same s1).same s2) e4 _ fun H3 z s3 r4 => ?_
          exact hr' H3 y z b c d (r2.same s3) r4 e Q fun v r5 => q H3 v ((s1.trans s2).trans s3) r5
      · rename_i e3
        cases e
        refine hr H2 x y a b _ (r1.same s2) r2 e3 _ fun v r3 => ?_
        cases rep_bl r3
        refine ⟨false, rfl, ?_⟩
        rw [if_neg Bool.false_ne_true]
        exact q H2 _ (s1.trans s2) (.bl _)
      · cases e
end
end Wr

set_option maxHeartbeats 1000000
/-! What is walked, targets, comprehensions, lists made of lists. -/
namespace Wr
open PySem PySem.Spec PyProof.Rows L2

/-! ### what is walked -/
/-- no slot's own | any -/
def NO (σ : L2.St) (ε : En) (a : Addr) : Prop := ¬ OwnAt σ ε a
def NA (_ : L2.St) (_ : En) (_ : Addr) : Prop := True
def SCN (N : L2.St → En → Addr → Prop) (t : TE) (f : En → Option Ct) : Prop := ∀ H0 H σ ε c, R H0 H σ ε → f ε = some c → ∀ Q : VK, (∀ H1 a, Same H H1 → AtP (N σ ε) H1 c a → Q (.ref a) H1) → t σ H Q
theorem scn_a {t : TE} {f : En → Option Ct} (h : SC t f) : SCN NA t f := h
theorem scn_o {t : TE} {f : En → Option Ct} (h : SZ t f) : SCN NO t f := h
structure WalkOk (J : It) (Hs : Hp → Prop) (ds : List Dt) : Prop where
  stop : ∀ H', Hs H' → J.stop ds.length H'
  go : ∀ i d H', nth ds i = some d → Hs H' → J.go i H'
  yld : ∀ i d H' x H'', nth ds i = some d → Hs H' → J.yld i H' x H'' → Same H' H'' ∧ Rep H'' d x
/-- the heaps in which what stood in H1 stands -/
def Hs (N : Addr → Prop) (H1 H' : Hp) : Prop := (∀ a o, N a → H1 a = some o → H' a = some o) ∧ TEx H1 H'
def SI (N : L2.St → En → Addr → Prop) (wi : TI) (fi : En → Option (List Dt)) : Prop :=
  ∀ H0 H σ ε ds, R H0 H σ ε → fi ε = some ds → ∀ Q : It → Hp → Prop, (∀ J H1, Same H H1 → WalkOk J (Hs (N σ ε) H1) ds → Q J H1) → wi σ H Q
def kItems : Ct → Option (List Dt)
  | .lst l => some l
  | _ => none
def kParts : Dt → Option (List Dt)
  | .tup l => some l
  | _ => none
section
variable {N : L2.St → En → Addr → Prop} {K : PySem.W.Frag} {te : TE} {ta : TA}
theorem si_list {f : En → Option Ct} (h : SCN N te f) : SI N (iList K te) (o1 f kItems) := fun H0 H σ ε ds R e Q q => by
  obtain ⟨c, e1, e2⟩ := o1_some e
  refine h H0 H σ ε c R e1 _ fun H1 a s1 r1 => ?_
  unfold kItems at e2
  split at e2
  · cases e2
    cases r1 with
    | @lst _ xs _ n h1 h2 =>
      refine ⟨a, rfl, ⟨xs, SqL.of h1⟩, q _ H1 s1 ⟨fun H' k => ⟨xs, SqL.of (k.1 a _ n h1), by rw [h2.length]; exact Nat.le_refl _⟩, fun i d H' hd k => ?_, fun i d H' x H'' hd k y => ?_⟩⟩
      · obtain ⟨x, h3, _⟩ := h2.nth hd
        exact ⟨xs, x, SqL.of (k.1 a _ n h1), h3⟩
      · obtain ⟨x', h3, h4⟩ := h2.nth hd
        obtain ⟨rfl, y2⟩ := y
        have := y2 xs (SqL.of (k.1 a _ n h1))
        rw [h3] at this
        cases this
        exact ⟨Same.refl _, h4.tex k.2⟩
  · cases e2
theorem si_tup {f : En → Option Dt} (h : SE te f) : SI N (iTup K te) (o1 f kParts) := fun H0 H σ ε ds R e Q q => by
  obtain ⟨c, e1, e2⟩ := o1_some e
  refine h H0 H σ ε c R e1 _ fun H1 v s1 r1 => ?_
  unfold kParts at e2
  split at e2
  · cases e2
    obtain ⟨a, xs, rfl, h1, h2⟩ := rep_tup r1
    refine ⟨a, rfl, ⟨xs, SqT.of h1⟩, q _ H1 s1 ⟨fun H' k => ⟨xs, SqT.of (k.2 a _ h1), by rw [h2.length]; exact Nat.le_refl _⟩, fun i d H' hd k => ?_, fun i d H' x H'' hd k y => ?_⟩⟩
    · obtain ⟨x, h3, _⟩ := h2.nth hd
      exact ⟨xs, x, SqT.of (k.2 a _ h1), h3⟩
    · obtain ⟨x', h3, h4⟩ := h2.nth hd
      obtain ⟨rfl, y2⟩ := y
      have := y2 xs (SqT.of (k.2 a _ h1))
      rw [h3] at this
      cases this
      exact ⟨Same.refl _, h4.tex k.2⟩
  · cases e2
/-- k, k + 1, .. (n of them) -/
def upFrom : Nat → Nat → List Dt
  | _, 0 => []
  | k, n + 1 => .int (Int.ofNat k) :: upFrom (k + 1) n
theorem upFrom_len : ∀ (n k : Nat), (upFrom k n).length = n
  | 0, _ => rfl
  | n + 1, k => by rw [upFrom, List.length_cons, upFrom_len n]
theorem upFrom_nth : ∀ (n k i : Nat) (d : Dt), nth (upFrom k n) i = some d → i < n ∧ d = .int (Int.ofNat (k + i))
  | 0, _, _, _, h => by cases h
  | n + 1, k, 0, d, h => by
    cases h
    exact ⟨Nat.succ_pos _, rfl⟩
  | n + 1, k, i + 1, d, h => by
    obtain ⟨h1, h2⟩ := upFrom_nth n (k + 1) i d h
    refine ⟨by omega, ?_⟩
    rw [h2]
    congr 2
    omega
theorem walk_range {Hq : Hp → Prop} (k n : Nat) : WalkOk (Itr (Int.ofNat k) n) Hq (upFrom k n) where
  stop H' _ := by
    show n ≤ (upFrom k n).length
    rw [upFrom_len]
    exact Nat.le_refl _
  go i d H' hd _ := (upFrom_nth n k i d hd).1
  yld i d H' x H'' hd _ y := by
    obtain ⟨rfl, rfl⟩ := y
    obtain ⟨_, rfl⟩ := upFrom_nth n k i d hd
    refine ⟨Same.refl _, ?_⟩
    have e : (Int.ofNat k + (i : Int)) = Int.ofNat (k + i) := rfl
    rw [e]
    exact .int _
def kRng1 : List Dt → Option (List Dt)
  | [.int (.ofNat n)] => if Nat.ble n 100000 then some (upFrom 0 n) else none
  | _ => none
def kRng2 : List Dt → Option (List Dt)
  | [.int (.ofNat k), .int (.ofNat n)] => if Nat.ble n 100000 && Nat.ble k 100000 then some (upFrom k (n - k)) else none
  | _ => none
theorem si_rng1 {f : En → Option (List Dt)} (h : SAi ta f) : SI N (iRng1 ta) (o1 f kRng1) := fun H0 H σ ε ds R e Q q => by
  obtain ⟨c, e1, e2⟩ := o1_some e
  refine h H0 H σ ε c R e1 _ fun H1 v s1 r1 => ?_
  unfold kRng1 at e2
  split at e2
  · rename_i n
    split at e2
    · rename_i hn
      cases e2
      rw [Nat.ble_eq] at hn
      cases r1 with
      | cons a b =>
        cases b
        cases rep_int a
        have en : (Int.ofNat n : Int) = (n : Int) := rfl
        exact ⟨_, rfl, by omega, by omega, q _ H1 s1 (walk_range 0 n)⟩
    · cases e2
  · cases e2
theorem si_rng2 {f : En → Option (List Dt)} (h : SAi ta f) : SI N (iRng2 ta) (o1 f kRng2) := fun H0 H σ ε ds R e Q q => by
  obtain ⟨c, e1, e2⟩ := o1_some e
  refine h H0 H σ ε c R e1 _ fun H1 v s1 r1 => ?_
  unfold kRng2 at e2
  split at e2
  · rename_i k n
    split at e2
    · rename_i hn
      cases e2
      rw [Bool.and_eq_true, Nat.ble_eq, Nat.ble_eq] at hn
      cases r1 with
      | cons a b =>
        cases b with
        | cons b c =>
          cases c
          cases rep_int a
          cases rep_int b
          have en : (Int.ofNat n : Int) = (n : Int) := rfl
          have ek : (Int.ofNat k : Int) = (k : Int) := rfl
          refine ⟨_, _, rfl, by omega, ?_⟩
          have ez : (Int.ofNat n - Int.ofNat k).toNat = n - k := by omega
          rw [ez]
          exact q _ H1 s1 (walk_range k (n - k))
    · cases e2
  · cases e2
/-- the pairs (n, item) -/
def pairs : Nat → List Dt → List Dt
  | _, [] => []
  | n, d :: r => .tup [.int (Int.ofNat n), d] :: pairs (n + 1) r
theorem pairs_len : ∀ (l : List Dt) (n : Nat), (pairs n l).length = l.length
  | [], _ => rfl
  | d :: r, n => by rw [pairs, List.length_cons, List.length_cons, pairs_len r]
theorem pairs_nth : ∀ (l : List Dt) (n i : Nat) (d : Dt), nth (pairs n l) i = some d → ∃ e, nth l i = some e ∧ d = .tup [.int (Int.ofNat (n + i)), e]
  | [], _, _, _, h => by cases h
  | a :: r, n, 0, d, h => by
    cases h
    exact ⟨a, rfl, rfl⟩
  | a :: r, n, i + 1, d, h => by
    obtain ⟨e, h1, h2⟩ := pairs_nth r (n + 1) i d h
    refine ⟨e, h1, ?_⟩
    rw [h2]
    congr 4
    omega
def kPairs : List Ar → Option (List Dt)
  | [.ct (.lst l)] => some (pairs 0 l)
  | _ => none
/-- arguments of one container -/
theorem si_enum {f : En → Option Ct} (h : SCN N te f) : SI N (iEnum K (tCons te tNil)) (o1 f fun c => match c with | .lst l => some (pairs 0 l) | _ => none) := fun H0 H σ ε ds R e Q q => by
  obtain ⟨c, e1, e2⟩ := o1_some e
  refine h H0 H σ ε c R e1 _ fun H1 a s1 r1 => ?_
  split at e2
  · rename_i l
    cases e2
    cases r1 with
    | @lst _ xs _ n h1 h2 =>
      refine ⟨a, xs, rfl, SqL.of h1, q _ H1 s1 ⟨fun H' k => ⟨xs, SqL.of (k.1 a _ n h1), by rw [pairs_len, h2.length]; exact Nat.le_refl _⟩, fun i d H' hd k => ?_, fun i d H' x H'' hd k y => ?_⟩⟩
      · obtain ⟨e, h5, _⟩ := pairs_nth l 0 i d hd
        obtain ⟨x, h3, _⟩ := h2.nth h5
        exact ⟨xs, x, SqL.of (k.1 a _ n h1), h3⟩
      · obtain ⟨e, h5, rfl⟩ := pairs_nth l 0 i d hd
        obtain ⟨x', h3, h4⟩ := h2.nth h5
        obtain ⟨T, z, rfl, hT, rfl, y2⟩ := y
        have := y2 xs (SqL.of (k.1 a _ n h1))
        rw [h3] at this
        cases this
        have s2 : Same H' (upd H' T (.tup [.int (i : Nat), x'])) := Wr.Same.new hT
        refine ⟨s2, .tup upd_same (.cons ?_ (.cons ((h4.tex k.2).same s2) .nil))⟩
        rw [Nat.zero_add]
        exact .int _
  · cases e2
end

/-! ### targets -/
/-- the slots behind it are the same wherever the tuples stand -/
structure Tgt (ε ε' : En) (H : Hp) (σ σ' : L2.St) (is : List Nat) (run : Hp → (L2.St → Hp → Prop) → Prop) : Prop where
  go : ∀ H', TEx H H' → ∀ Q : L2.St → Hp → Prop, Q σ' H' → run H' Q
  rel : ∀ H0 H', TEx H H' → R H0 H' σ ε → R H0 H' σ' ε' ∧ Keep σ ε H' σ' ε' H'
  wip : ∀ vs : List Nat, (∀ i ∈ is, i ∈ vs) → wipe σ' vs = wipe σ vs
def SG (g : TG) (m : Dt → En → Option En) (is : List Nat) : Prop := ∀ H σ ε v d ε', Rep H d v → m d ε = some ε' → ∃ σ', Tgt ε ε' H σ σ' is fun H' Q => g v σ H' Q
def SGs (g : TGs) (m : List Dt → En → Option En) (n : Nat) (is : List Nat) : Prop := ∀ H σ ε vs ds ε', Reps H ds vs → m ds ε = some ε' → ds.length = n ∧ ∃ σ', Tgt ε ε' H σ σ' is fun H' Q => g vs σ H' Q
theorem wipe_set {σ : L2.St} {i : Nat} {x : Option V} : ∀ {vs : List Nat}, i ∈ vs → wipe (σ.set i x) vs = wipe σ vs
  | v :: vs, h => by
    show (wipe (σ.set i x) vs).set v none = (wipe σ vs).set v none
    by_cases hi : i ∈ vs
    · rw [wipe_set hi]
    · have e : i = v := by
        rcases List.mem_cons.mp h with e | e
        · exact e
        · exact absurd e hi
      subst e
      have : ∀ ws : List Nat, wipe (σ.set i x) ws = wipe σ ws ∨ wipe (σ.set i x) ws = (wipe σ ws).set i x := by
        intro ws
        induction ws with
        | nil => exact .inr rfl
        | cons w ws ih =>
          show (wipe (σ.set i x) ws).set w none = (wipe σ ws).set w none ∨ (wipe (σ.set i x) ws).set w none = ((wipe σ ws).set w none).set i x
          rcases ih with ih | ih
          · exact .inl (by rw [ih])
          · rw [ih]
            by_cases hw : i = w
            · subst hw
              exact .inl (by rw [List.set_set])
            · exact .inr (by rw [List.set_comm _ _ hw])
      rcases this vs with q | q
      · rw [q]
      · rw [q, List.set_set]
theorem wipe_wipe {σ : L2.St} : ∀ vs : List Nat, ∀ us : List Nat, (∀ v ∈ vs, v ∈ us) → wipe (wipe σ vs) us = wipe σ us
  | [], _, _ => rfl
  | v :: vs, us, h => by
    show wipe ((wipe σ vs).set v none) us = wipe σ us
    rw [wipe_set (h v (List.mem_cons_self))]
    exact wipe_wipe vs us fun w hw => h w (List.mem_cons_of_mem _ hw)
def mName (i : Nat) : Dt → En → Option En := fun d ε => some (sset ε i (some (.im d)))
theorem sg_name {i : Nat} : SG (gName i) (mName i) [i] := fun H σ ε v d ε' r e => by
  cases e
  exact ⟨_, fun H' _ Q q => q, fun H0 H' t R => R.set_im (i := i) (r.tex t), fun vs h => wipe_set (h i (by simp))⟩
def mNil : List Dt → En → Option En := fun ds ε => match ds with
  | [] => some ε
  | _ => none
def mCons (m : Dt → En → Option En) (ms : List Dt → En → Option En) : List Dt → En → Option En := fun ds ε => match ds with
  | d :: r => match m d ε with
    | some ε1 => ms r ε1
    | none => none
  | [] => none
def mTup (ms : List Dt → En → Option En) : Dt → En → Option En := fun d ε => match d with
  | .tup l => ms l ε
  | _ => none
section
variable {K : PySem.W.Frag}
theorem sgs_nil : SGs gNil mNil 0 [] := fun H σ ε vs ds ε' r e => by
  unfold mNil at e
  split at e
  · cases e
    cases r
    exact ⟨rfl, σ, fun H' _ Q q => ⟨rfl, q⟩, fun H0 H' _ R => ⟨R, Keep.refl _ _ _⟩, fun _ _ => rfl⟩
  · cases e
theorem sgs_cons {g : TG} {gs : TGs} {m : Dt → En → Option En} {ms : List Dt → En → Option En} {n : Nat} {is js : List Nat} (h1 : SG g m is) (h2 : SGs gs ms n js) : SGs (gCons g gs) (mCons m ms) (n + 1) (is ++ js) := fun H σ ε vs ds ε' r e => by
  unfold mCons at e
  split at e
  · split at e
    · rename_i ε1 e1
      cases r with
      | cons a b =>
        obtain ⟨σ1, T1⟩ := h1 H σ ε _ _ ε1 a e1
        obtain ⟨l2, σ2, T2⟩ := h2 H σ1 ε1 _ _ ε' b e
        refine ⟨by rw [List.length_cons, l2], σ2, fun H' t Q q => ⟨_, _, rfl, T1.go H' t _ (T2.go H' t Q q)⟩, fun H0 H' t R => ?_, fun us hu => ?_⟩
        · obtain ⟨r1, k1⟩ := T1.rel H0 H' t R
          obtain ⟨r2, k2⟩ := T2.rel H0 H' t r1
          exact ⟨r2, k1.trans k2⟩
        · rw [T2.wip us fun i hi => hu i (List.mem_append_right _ hi), T1.wip us fun i hi => hu i (List.mem_append_left _ hi)]
    · cases e
  · cases e
theorem sg_tup {gs : TGs} {ms : List Dt → En → Option En} {n : Nat} {is : List Nat} (h : SGs gs ms n is) : SG (gTup K n gs) (mTup ms) is := fun H σ ε v d ε' r e => by
  unfold mTup at e
  split at e
  · obtain ⟨a, xs, rfl, h1, h2⟩ := rep_tup r
    obtain ⟨l, σ', T⟩ := h H σ ε xs _ ε' h2 e
    exact ⟨σ', fun H' t Q qq => ⟨a, xs, rfl, SqT.of (t a xs h1), by rw [← h2.length]; exact l, T.go H' t Q qq⟩, T.rel, T.wip⟩
  · cases e
end

/-! ### comprehensions -/
def lcGo (m : Dt → En → Option En) (ft : En → Option Bool) (fe : En → Option Dt) (ε : En) : List Dt → Option (List Dt)
  | [] => some []
  | d :: ds => match m d ε with
    | none => none
    | some ε1 => match ft ε1 with
      | none => none
      | some true => (match fe ε1 with
        | none => none
        | some y => match lcGo m ft fe ε ds with
          | none => none
          | some l => some (y :: l))
      | some false => lcGo m ft fe ε ds
def mLc (fi : En → Option (List Dt)) (m : Dt → En → Option En) (ft : En → Option Bool) (fe : En → Option Dt) (vs : List Nat) : En → Option Ct := fun ε => match fi ε with
  | none => none
  | some ds => match lcGo m ft fe (swipe ε vs) ds with
    | none => none
    | some l => if Nat.ble l.length 100000 then some (.lst l) else none
theorem nth_drop {α : Type} : ∀ {l : List α} {i : Nat} {a : α} {r : List α}, l.drop i = a :: r → nth l i = some a ∧ l.drop (i + 1) = r
  | [], i, a, r, h => by simp at h
  | b :: l, 0, a, r, h => by
    cases h
    exact ⟨rfl, rfl⟩
  | b :: l, i + 1, a, r, h => by
    have h' : l.drop i = a :: r := by simpa using h
    obtain ⟨h1, h2⟩ := nth_drop h'
    exact ⟨h1, by simpa using h2⟩
section
variable {wi : TI} {g : TG} {tt : TT} {te : TE} {fi : En → Option (List Dt)} {m : Dt → En → Option En} {ft : En → Option Bool} {fe : En → Option Dt} {is vs : List Nat}
/-- all but D stands -/
def KD (D : Addr) (H H' : Hp) : Prop := ∀ a o, a ≠ D → H a = some o → H' a = some o
theorem KD.refl (D : Addr) (H : Hp) : KD D H H := fun _ _ _ h => h
theorem KD.trans {D : Addr} {H H1 H2 : Hp} (a : KD D H H1) (b : KD D H1 H2) : KD D H H2 := fun p o n h => b p o n (a p o n h)
theorem KD.of {D : Addr} {H H1 : Hp} (a : Same H H1) : KD D H H1 := fun p o _ h => a p o h
theorem KD.put {D : Addr} {H : Hp} {o : HO} : KD D H (upd H D o) := fun p u n h => by rw [upd_ne n]; exact h
theorem KD.tex {D : Addr} {H H' : Hp} {acc : List V} (hD : H D = some (.lst acc)) (k : KD D H H') : TEx H H' := fun a xs h => k a _ (fun z => by subst z; rw [hD] at h; cases h) h
theorem KD.same {D : Addr} {H1 H' : Hp} {o : HO} (hD : H1 D = none) (k : KD D (upd H1 D o) H') : Same H1 H' := fun a u h => by
  have n : a ≠ D := fun z => by subst z; rw [hD] at h; cases h
  exact k a u n (by rw [upd_ne n]; exact h)
theorem WalkOk.weak {J : It} {A B : Hp → Prop} {ds : List Dt} (h : WalkOk J A ds) (w : ∀ H', B H' → A H') : WalkOk J B ds := ⟨fun H' b => h.stop H' (w H' b), fun i d H' e b => h.go i d H' e (w H' b), fun i d H' x H'' e b y => h.yld i d H' x H'' e (w H' b) y⟩
theorem app_len {α : Type} {a b l : List α} (h : a ++ b = l) (hl : l.length ≤ 100000) : a.length + b.length ≤ 100000 := by
  rw [← List.length_append, h]
  exact hl
/-- the loop of a list comprehension (or of its second clause): from acc to the list that is wanted -/
theorem lc_loop {H0 H2 : Hp} {σ : L2.St} {ε : En} {D : Addr} {J : It} {ds : List Dt} {l0 l : List Dt} {acc0 : List V} {ad0 : List Dt} {End : Hp → Prop} (hg : SG g m is) (ht : ST tt ft) (he : SE te fe) (hw : ∀ i ∈ is, i ∈ vs)
    (hr : ∀ H', KD D H2 H' → R H0 H' (wipe σ vs) ε) (hD : H2 D = some (.lst acc0)) (ha : Reps H2 ad0 acc0) (ok : WalkOk J (Hs (fun a => a ≠ D) H2) ds) (hgo : lcGo m ft fe ε ds = some l) (el : ad0 ++ l = l0) (hl : l0.length ≤ 100000)
    (hend : ∀ H' acc, KD D H2 H' → H' D = some (.lst acc) → Reps H' l0 acc → End H') :
    ∃ W : Nat → Nat → Hp → Prop, (∃ k, W 0 k H2) ∧ ∀ i k H, W i k H → (J.stop i H ∧ End H) ∨ (J.go i H ∧ ∃ Nx : Hp → Prop, (∀ H', Nx H' → ∃ k', k' < k ∧ W (i + 1) k' H') ∧ ∀ x H', J.yld i H x H' → g x (wipe σ vs) H' fun σ2 H2 => wipe σ2 vs = wipe σ vs ∧ tt σ2 H2 fun b H3 =>
      if b = true then te σ2 H3 fun y H4 => ∃ acc, H4 D = some (.lst acc) ∧ acc.length < sizeLine ∧ Nx (upd H4 D (.lst (acc ++ [y]))) else Nx H3) := by
  refine ⟨fun i k H' => i + k = ds.length ∧ KD D H2 H' ∧ ∃ acc ad l2, H' D = some (.lst acc) ∧ Reps H' ad acc ∧ lcGo m ft fe ε (ds.drop i) = some l2 ∧ ad ++ l2 = l0,
    ⟨ds.length, by omega, KD.refl D H2, acc0, ad0, l, hD, ha, hgo, el⟩, ?_⟩
  rintro i k H' ⟨ei, kH, acc, ad, l2, hDa, ra, hgo, el⟩
  have hs : Hs (fun a => a ≠ D) H2 H' := ⟨fun a o n h => kH a o n h, kH.tex hD⟩
  cases hdrop : ds.drop i with
  | nil =>
    have hi' : ds.length ≤ i := by simpa using hdrop
    have ei' : i = ds.length := by omega
    subst ei'
    rw [hdrop] at hgo
    cases hgo
    rw [List.append_nil] at el
    subst el
    exact .inl ⟨ok.stop H' hs, hend H' acc kH hDa ra⟩
  | cons d rest =>
    obtain ⟨hn, hrest⟩ := nth_drop hdrop
    rw [hdrop] at hgo
    have hk : 0 < k := by
      have h2 : (ds.drop i).length = (d :: rest).length := by rw [hdrop]
      rw [List.length_drop, List.length_cons] at h2
      omega
    refine .inr ⟨ok.go i d H' hn hs, fun H3 => KD D H2 H3 ∧ ∃ acc ad l2, H3 D = some (.lst acc) ∧ Reps H3 ad acc ∧ lcGo m ft fe ε rest = some l2 ∧ ad ++ l2 = l0, fun H3 n2 => ⟨k - 1, by omega, by omega, ?_⟩, fun x H3 hy => ?_⟩
    · rw [hrest]
      exact n2
    · obtain ⟨s2, rx⟩ := ok.yld i d H' x H3 hn hs hy
      have len := app_len el hl
      have k3 : KD D H2 H3 := kH.trans (.of s2)
      unfold lcGo at hgo
      split at hgo
      · cases hgo
      · rename_i ε2 e1
        obtain ⟨σ', T⟩ := hg H3 (wipe σ vs) ε x d ε2 rx e1
        obtain ⟨r', _⟩ := T.rel H0 H3 (fun _ _ h => h) (hr H3 k3)
        refine T.go H3 (fun _ _ h => h) _ ⟨by rw [T.wip vs hw]; exact wipe_wipe vs vs fun _ h => h, ?_⟩
        split at hgo
        · cases hgo
        · rename_i e2
          refine ht H0 H3 σ' ε2 true r' e2 _ fun H4 s4 => ?_
          rw [if_pos rfl]
          split at hgo
          · cases hgo
          · rename_i y e3
            refine he H0 H4 σ' ε2 y (r'.same s4) e3 _ fun H5 v s5 r5 => ?_
            have hD5 := s5 D _ (s4 D _ (s2 D _ hDa))
            split at hgo
            · cases hgo
            · rename_i l3 e4
              cases hgo
              rw [List.length_cons] at len
              refine ⟨acc, hD5, ?_, ?_, acc ++ [v], ad ++ [y], l3, upd_same, ?_, e4, by rw [List.append_assoc]; exact el⟩
              · rw [← ra.length, sizeLine_eq]
                omega
              · exact ((k3.trans (.of s4)).trans (.of s5)).trans KD.put
              · have te : TEx H5 (upd H5 D (.lst (acc ++ [v]))) := TEx.put hD5 fun _ z => by cases z
                exact ((((ra.same s2).same s4).same s5).app (.cons r5 .nil)).tex te
        · rename_i e2
          refine ht H0 H3 σ' ε2 false r' e2 _ fun H4 s4 => ?_
          rw [if_neg Bool.false_ne_true]
          exact ⟨k3.trans (.of s4), acc, ad, l2, s4 D _ (s2 D _ hDa), (ra.same s2).same s4, hgo, el⟩
theorem sf_lc (hi : SI NA wi fi) (hg : SG g m is) (ht : ST tt ft) (he : SE te fe) (hw : ∀ i ∈ is, i ∈ vs) : SF (tLc wi g tt te vs) (mLc fi m ft fe vs) := fun H0 H σ ε c R e Q q => by
  unfold mLc at e
  split at e
  · cases e
  · rename_i ds e1
    split at e
    · cases e
    · rename_i l e2
      split at e
      · rename_i hlen
        rw [Nat.ble_eq] at hlen
        cases e
        refine hi H0 H σ ε ds R e1 _ fun J H1 s1 ok D hD => ?_
        exact lc_loop hg ht he hw (fun H' k => ((R.same s1).wiped vs).same (k.same hD)) upd_same .nil (ok.weak fun H' h => ⟨fun a o _ z => (KD.same hD fun a o n z => h.1 a o n z) a o z, .of (KD.same hD fun a o n z => h.1 a o n z)⟩) e2 rfl hlen
          fun H' acc k h2 r2 => q H' D (s1.trans (k.same hD)) (.lst (s1.free hD) h2 r2)
      · cases e
/-! two clauses -/
variable {wi1 : TI} {g1 : TG} {tt1 : TT} {fi1 : En → Option (List Dt)} {m1 : Dt → En → Option En} {ft1 : En → Option Bool} {is1 vs1 : List Nat}
def lcGo2 (m : Dt → En → Option En) (ft : En → Option Bool) (fi1 : En → Option (List Dt)) (m1 : Dt → En → Option En) (ft1 : En → Option Bool) (fe : En → Option Dt) (vs1 : List Nat) (ε : En) : List Dt → Option (List Dt)
  | [] => some []
  | d :: ds => match m d ε with
    | none => none
    | some ε1 => match ft ε1 with
      | none => none
      | some false => lcGo2 m ft fi1 m1 ft1 fe vs1 ε ds
      | some true => match fi1 ε1 with
        | none => none
        | some ds1 => match lcGo m1 ft1 fe (swipe ε1 vs1) ds1 with
          | none => none
          | some l1 => match lcGo2 m ft fi1 m1 ft1 fe vs1 ε ds with
            | none => none
            | some l => some (l1 ++ l)
def mLc2 (fi : En → Option (List Dt)) (m : Dt → En → Option En) (ft : En → Option Bool) (fi1 : En → Option (List Dt)) (m1 : Dt → En → Option En) (ft1 : En → Option Bool) (fe : En → Option Dt) (vs vs1 : List Nat) : En → Option Ct := fun ε => match fi ε with
  | none => none
  | some ds => match lcGo2 m ft fi1 m1 ft1 fe vs1 (swipe ε vs) ds with
    | none => none
    | some l => if Nat.ble l.length 100000 then some (.lst l) else none
theorem sf_lc2 (hi : SI NA wi fi) (hg : SG g m is) (ht : ST tt ft) (hi1 : ∀ N, SI N wi1 fi1) (hg1 : SG g1 m1 is1) (ht1 : ST tt1 ft1) (he : SE te fe) (hw : ∀ i ∈ is, i ∈ vs) (hw1 : ∀ i ∈ is1, i ∈ vs1) :
    SF (tLc2 wi g tt wi1 g1 tt1 te vs vs1) (mLc2 fi m ft fi1 m1 ft1 fe vs vs1) := fun H0 H σ ε c R e Q q => by
  unfold mLc2 at e
  split at e
  · cases e
  · rename_i ds e1
    split at e
    · cases e
    · rename_i l0 e2
      split at e
      · rename_i hlen
        rw [Nat.ble_eq] at hlen
        cases e
        refine hi H0 H σ ε ds R e1 _ fun J H1 s1 ok D hD => ?_
        have r1 : ∀ H', KD D (upd H1 D (.lst [])) H' → Wr.R H0 H' (wipe σ vs) (swipe ε vs) := fun H' k => ((R.same s1).wiped vs).same (k.same hD)
        refine ⟨fun i k H' => i + k = ds.length ∧ KD D (upd H1 D (.lst [])) H' ∧ ∃ acc ad l2, H' D = some (.lst acc) ∧ Reps H' ad acc ∧ lcGo2 m ft fi1 m1 ft1 fe vs1 (swipe ε vs) (ds.drop i) = some l2 ∧ ad ++ l2 = l0,
          ⟨ds.length, by omega, KD.refl _ _, [], [], l0, upd_same, .nil, e2, rfl⟩, ?_⟩
        rintro i k H' ⟨ei, kH, acc, ad, l2, hDa, ra, hgo, el⟩
        have sH : Same H1 H' := kH.same hD
        have hs : Hs (fun _ => True) H1 H' := ⟨fun a o _ h => sH a o h, .of sH⟩
        cases hdrop : ds.drop i with
        | nil =>
          have hi' : ds.length ≤ i := by simpa using hdrop
          have ei' : i = ds.length := by omega
          subst ei'
          rw [hdrop] at hgo
          cases hgo
          rw [List.append_nil] at el
          subst el
          exact .inl ⟨ok.stop H' hs, q H' D (s1.trans sH) (.lst (s1.free hD) hDa ra)⟩
        | cons d rest =>
          obtain ⟨hn, hrest⟩ := nth_drop hdrop
          rw [hdrop] at hgo
          have hk : 0 < k := by
            have h2 : (ds.drop i).length = (d :: rest).length := by rw [hdrop]
            rw [List.length_drop, List.length_cons] at h2
            omega
          refine .inr ⟨ok.go i d H' hn hs, fun H2 => KD D (upd H1 D (.lst [])) H2 ∧ ∃ acc ad l2, H2 D = some (.lst acc) ∧ Reps H2 ad acc ∧ lcGo2 m ft fi1 m1 ft1 fe vs1 (swipe ε vs) rest = some l2 ∧ ad ++ l2 = l0, fun H2 n2 => ⟨k - 1, by omega, by omega, ?_⟩, fun x H2 hy => ?_⟩
          · rw [hrest]
            exact n2
          · obtain ⟨s2, rx⟩ := ok.yld i d H' x H2 hn hs hy
            have k2 : KD D (upd H1 D (.lst [])) H2 := kH.trans (.of s2)
            unfold lcGo2 at hgo
            split at hgo
            · cases hgo
            · rename_i ε1 g1e
              obtain ⟨σ2, T⟩ := hg H2 (wipe σ vs) (swipe ε vs) x d ε1 rx g1e
              obtain ⟨r2, _⟩ := T.rel H0 H2 (fun _ _ h => h) (r1 H2 k2)
              refine T.go H2 (fun _ _ h => h) _ ⟨by rw [T.wip vs hw]; exact wipe_wipe vs vs fun _ h => h, ?_⟩
              split at hgo
              · cases hgo
              · rename_i g2e
                refine ht H0 H2 σ2 ε1 false r2 g2e _ fun H3 s3 => ?_
                rw [if_neg Bool.false_ne_true]
                exact ⟨k2.trans (.of s3), acc, ad, l2, s3 D _ (s2 D _ hDa), (ra.same s2).same s3, hgo, el⟩
              · rename_i g2e
                refine ht H0 H2 σ2 ε1 true r2 g2e _ fun H3 s3 => ?_
                rw [if_pos rfl]
                split at hgo
                · cases hgo
                · rename_i ds1 g3e
                  split at hgo
                  · cases hgo
                  · rename_i l1 g4e
                    split at hgo
                    · cases hgo
                    · rename_i l3 g5e
                      cases hgo
                      refine hi1 (fun _ _ a => a ≠ D) H0 H3 σ2 ε1 ds1 (r2.same s3) g3e _ fun J1 H4 s4 ok1 => ?_
                      have eq1 : (ad ++ l1) ++ l3 = l0 := by rw [List.append_assoc]; exact el
                      have len1 : (ad ++ l1).length ≤ 100000 := by
                        have := app_len eq1 hlen
                        omega
                      have k4 : KD D (upd H1 D (.lst [])) H4 := (k2.trans (.of s3)).trans (.of s4)
                      have hD4 : H4 D = some (.lst acc) := s4 D _ (s3 D _ (s2 D _ hDa))
                      have t2 : ∀ {H'}, KD D H4 H' → TEx H2 H' := fun {H'} kk => (TEx.of (s3.trans s4)).trans (kk.tex hD4)
                      refine lc_loop (H0 := H0) (σ := σ2) (ε := swipe ε1 vs1) hg1 ht1 he hw1 (fun H' kk => ?_) hD4 (((ra.same s2).same s3).same s4) ok1 g4e rfl len1 fun H' acc' kk h5 r5 => ⟨k4.trans kk, acc', ad ++ l1, l3, h5, r5, g5e, eq1⟩
                      exact (T.rel H0 H' (t2 kk) (r1 H' (k4.trans kk))).1.wiped vs1
      · cases e
end
end Wr

set_option maxHeartbeats 1000000
/-! Statements and defs. -/
namespace Wr
open PySem PySem.Spec PyProof.Rows L2

inductive Rs where
  | nx (ε : En) | rI (d : Dt) | rF (c : Ct)
/-- what must hold behind a statement for its reading to hold -/
def Post (H0 H : Hp) (σ : L2.St) (ε : En) (D : Ends) : Rs → Prop
  | .nx ε' => ∀ σ' H', R H0 H' σ' ε' → Keep σ ε H σ' ε' H' → D.nx σ' H'
  | .rI d => ∀ H' v, Same H0 H' → Rep H' d v → D.rt v H'
  | .rF c => ∀ H' a, Same H0 H' → AtP (fun b => H0 b = none) H' c a → D.rt (.ref a) H'
def SS (t : TS) (m : En → Option Rs) : Prop := ∀ H0 H σ ε r, R H0 H σ ε → m ε = some r → ∀ D : Ends, Post H0 H σ ε D r → t D σ H
abbrev MS := En → Option Rs
theorem Post.after {H0 H H1 : Hp} {σ σ1 : L2.St} {ε ε1 : En} {D : Ends} {r : Rs} (p : Post H0 H σ ε D r) (k : Keep σ ε H σ1 ε1 H1) : Post H0 H1 σ1 ε1 D r := by
  cases r with
  | nx ε' => exact fun σ' H' R' k' => p σ' H' R' (k.trans k')
  | rI d => exact p
  | rF c => exact p
def mNext : MS := fun ε => some (.nx ε)
def mSeq (m n : MS) : MS := fun ε => match m ε with
  | some (.nx ε1) => n ε1
  | r => r
def mIf (c : En → Option Bool) (m n : MS) : MS := fun ε => match c ε with
  | some true => m ε
  | some false => n ε
  | none => none
theorem ss_next : SS tNext mNext := fun H0 H σ ε r R e D p => by
  cases e
  exact p σ H R (Keep.refl _ _ _)
theorem ss_seq {t u : TS} {m n : MS} (h1 : SS t m) (h2 : SS u n) : SS (tSeq t u) (mSeq m n) := fun H0 H σ ε r R e D p => by
  unfold mSeq at e
  split at e
  · rename_i ε1 e1
    exact h1 H0 H σ ε _ R e1 _ fun σ' H' R' k => h2 H0 H' σ' ε1 r R' e D (p.after k)
  · rename_i n1
    refine h1 H0 H σ ε r R e _ ?_
    cases r with
    | nx ε' => exact absurd e (n1 ε')
    | rI d => exact p
    | rF c => exact p
theorem ss_if {c : TT} {t u : TS} {f : En → Option Bool} {m n : MS} (h0 : ST c f) (h1 : SS t m) (h2 : SS u n) : SS (tIfS c t u) (mIf f m n) := fun H0 H σ ε r R e D p => by
  unfold mIf at e
  split at e
  · rename_i e1
    refine h0 H0 H σ ε _ R e1 _ fun H1 s1 => ?_
    rw [if_pos rfl]
    exact h1 H0 H1 σ ε r (R.same s1) e D (p.after (Keep.same s1))
  · rename_i e1
    refine h0 H0 H σ ε _ R e1 _ fun H1 s1 => ?_
    rw [if_neg Bool.false_ne_true]
    exact h2 H0 H1 σ ε r (R.same s1) e D (p.after (Keep.same s1))
  · cases e

/-! ### assignments -/
def mSetI (i : Nat) (f : En → Option Dt) : MS := fun ε => match f ε with
  | some d => some (.nx (sset ε i (some (.im d))))
  | none => none
def mSetZ (i : Nat) (f : En → Option Ct) : MS := fun ε => match f ε with
  | some d => some (.nx (sset ε i (some (.fz d))))
  | none => none
def mSetO (i : Nat) (f : En → Option Ct) : MS := fun ε => match f ε with
  | some d => if d.flat then some (.nx (sset ε i (some (.ow d)))) else none
  | none => none
def mMove (i j : Nat) : MS := fun ε => match sget ε j with
  | some (.ow c) => some (.nx (sset (sset ε j none) i (some (.fz c))))
  | _ => none
def mTgt (f : En → Option Dt) (m : Dt → En → Option En) : MS := fun ε => match f ε with
  | some d => (match m d ε with
    | some ε' => some (.nx ε')
    | none => none)
  | none => none
section
variable {te : TE} {i : Nat}
theorem ss_setI {f : En → Option Dt} (h : SE te f) : SS (tAsg te (gName i)) (mSetI i f) := fun H0 H σ ε r R e D p => by
  unfold mSetI at e
  split at e
  · rename_i d e1
    cases e
    refine h H0 H σ ε d R e1 _ fun H1 v s1 r1 => ?_
    obtain ⟨R2, k2⟩ := (R.same s1).set_im (i := i) r1
    exact p _ H1 R2 ((Keep.same s1).trans k2)
  · cases e
theorem ss_setZ {f : En → Option Ct} (h : SZ te f) : SS (tAsg te (gName i)) (mSetZ i f) := fun H0 H σ ε r R e D p => by
  unfold mSetZ at e
  split at e
  · rename_i d e1
    cases e
    refine h H0 H σ ε d R e1 _ fun H1 v s1 r1 => ?_
    obtain ⟨R2, k2⟩ := (R.same s1).set_fz (i := i) r1
    exact p _ H1 R2 ((Keep.same s1).trans k2)
  · cases e
theorem ss_setO {f : En → Option Ct} (h : SF te f) : SS (tAsg te (gName i)) (mSetO i f) := fun H0 H σ ε r R e D p => by
  unfold mSetO at e
  split at e
  · rename_i d e1
    split at e
    · rename_i hf
      cases e
      refine h H0 H σ ε d R e1 _ fun H1 v s1 r1 => ?_
      obtain ⟨R2, k2⟩ := R.set_ow s1 (i := i) hf r1
      exact p _ H1 R2 k2
    · cases e
  · cases e
theorem ss_move {j : Nat} : SS (tAsg (tVar j) (gName i)) (mMove i j) := fun H0 H σ ε r R e D p => by
  unfold mMove at e
  split at e
  · rename_i c e1
    cases e
    obtain ⟨a, h1, R2, k2⟩ := R.move_fz (i := i) e1
    exact ⟨.ref a, h1, p _ H R2 k2⟩
  · cases e
theorem ss_tgt {f : En → Option Dt} {g : TG} {m : Dt → En → Option En} {is : List Nat} (h : SE te f) (hg : SG g m is) : SS (tAsg te g) (mTgt f m) := fun H0 H σ ε r R e D p => by
  unfold mTgt at e
  split at e
  · rename_i d e1
    split at e
    · rename_i ε' e2
      cases e
      refine h H0 H σ ε d R e1 _ fun H1 v s1 r1 => ?_
      obtain ⟨σ', T⟩ := hg H1 σ ε v d ε' r1 e2
      obtain ⟨R2, k2⟩ := T.rel H0 H1 (fun _ _ h => h) (R.same s1)
      exact T.go H1 (fun _ _ h => h) _ (p _ H1 R2 ((Keep.same s1).trans k2))
    · cases e
  · cases e
end
/-! several at once -/
inductive RepM : Hp → List Sl → List V → Hp → Prop
  | nil {H H' : Hp} : Same H H' → RepM H [] [] H'
  | im {H H1 H2 : Hp} {d : Dt} {v : V} {ss : List Sl} {vs : List V} : Same H H1 → Rep H1 d v → RepM H1 ss vs H2 → RepM H (.im d :: ss) (v :: vs) H2
  | ow {H H1 H2 : Hp} {c : Ct} {a : Addr} {ss : List Sl} {vs : List V} : Same H H1 → c.flat = true → AtP (fun b => H b = none) H1 c a → RepM H1 ss vs H2 → RepM H (.ow c :: ss) (.ref a :: vs) H2
  | fz {H H1 H2 : Hp} {c : Ct} {a : Addr} {ss : List Sl} {vs : List V} : Same H H1 → AtP (fun b => H b = none) H1 c a → RepM H1 ss vs H2 → RepM H (.fz c :: ss) (.ref a :: vs) H2
def setV (σ : L2.St) : List Nat → List V → L2.St
  | i :: is, v :: vs => setV (σ.set i (some v)) is vs
  | _, _ => σ
def setS (ε : En) : List Nat → List Sl → En
  | i :: is, s :: ss => setS (sset ε i (some s)) is ss
  | _, _ => ε
theorem R.setM {H0 : Hp} : ∀ {ss : List Sl} {is : List Nat} {H H2 : Hp} {σ : L2.St} {ε : En} {vs : List V}, R H0 H σ ε → RepM H ss vs H2 → ss.length = is.length → R H0 H2 (setV σ is vs) (setS ε is ss) ∧ Keep σ ε H (setV σ is vs) (setS ε is ss) H2
  | [], [], H, H2, σ, ε, vs, r, m, _ => by
    cases m with
    | nil s => exact ⟨r.same s, Keep.same s⟩
  | s :: ss, i :: is, H, H2, σ, ε, vs, r, m, hl => by
    have hl' : ss.length = is.length := by simpa using hl
    cases m with
    | im s1 r1 m1 =>
      obtain ⟨R1, k1⟩ := (r.same s1).set_im (i := i) r1
      obtain ⟨R2, k2⟩ := R.setM R1 m1 hl'
      exact ⟨R2, ((Keep.same s1).trans k1).trans k2⟩
    | ow s1 f r1 m1 =>
      obtain ⟨R1, k1⟩ := r.set_ow s1 (i := i) f r1
      obtain ⟨R2, k2⟩ := R.setM R1 m1 hl'
      exact ⟨R2, k1.trans k2⟩
    | fz s1 r1 m1 =>
      obtain ⟨R1, k1⟩ := (r.same s1).set_fz (i := i) (r1.weak fun b o n _ => r.new_free n)
      obtain ⟨R2, k2⟩ := R.setM R1 m1 hl'
      exact ⟨R2, ((Keep.same s1).trans k1).trans k2⟩
  | [], _ :: _, _, _, _, _, _, _, _, hl => by simp at hl
  | _ :: _, [], _, _, _, _, _, _, _, hl => by simp at hl
theorem RepM.len {H H2 : Hp} {ss : List Sl} {vs : List V} (m : RepM H ss vs H2) : ss.length = vs.length := by
  induction m with
  | nil _ => rfl
  | im _ _ _ ih => simp [ih]
  | ow _ _ _ _ ih => simp [ih]
  | fz _ _ _ ih => simp [ih]
theorem RepM.more {H H2 H3 : Hp} {ss : List Sl} {vs : List V} (m : RepM H ss vs H2) (s : Same H2 H3) : RepM H ss vs H3 := by
  induction m with
  | nil a => exact .nil (a.trans s)
  | im a b _ ih => exact .im a b (ih s)
  | ow a f b _ ih => exact .ow a f b (ih s)
  | fz a b _ ih => exact .fz a b (ih s)
def SM (ta : TA) (fs : En → Option (List Sl)) : Prop := ∀ H0 H σ ε ss, R H0 H σ ε → fs ε = some ss → ∀ Q : List V → Hp → Prop, (∀ H1 vs, RepM H ss vs H1 → Q vs H1) → ta σ H Q
def sI (f : En → Option Dt) (g : En → Option (List Sl)) : En → Option (List Sl) := o2 f g fun d ds => some (.im d :: ds)
def sO (f : En → Option Ct) (g : En → Option (List Sl)) : En → Option (List Sl) := o2 f g fun d ds => if d.flat then some (.ow d :: ds) else none
def sZ (f : En → Option Ct) (g : En → Option (List Sl)) : En → Option (List Sl) := o2 f g fun d ds => some (.fz d :: ds)
section
variable {te : TE} {ta : TA} {f : En → Option Dt} {fc : En → Option Ct} {g : En → Option (List Sl)}
theorem sm_nil : SM tNil aNil := fun H0 H σ ε ss R e Q q => by
  cases e
  exact q H _ (.nil (Same.refl H))
theorem sm_I (h1 : SE te f) (h2 : SM ta g) : SM (tCons te ta) (sI f g) := fun H0 H σ ε ss R e Q q => by
  obtain ⟨a, b, e1, e2, e3⟩ := o2_some e
  cases e3
  exact h1 H0 H σ ε a R e1 _ fun H1 x s1 r1 => h2 H0 H1 σ ε b (R.same s1) e2 _ fun H2 vs m => q H2 _ (.im s1 r1 m)
theorem sm_O (h1 : SF te fc) (h2 : SM ta g) : SM (tCons te ta) (sO fc g) := fun H0 H σ ε ss R e Q q => by
  obtain ⟨a, b, e1, e2, e3⟩ := o2_some e
  split at e3
  · rename_i hf
    cases e3
    exact h1 H0 H σ ε a R e1 _ fun H1 x s1 r1 => h2 H0 H1 σ ε b (R.same s1) e2 _ fun H2 vs m => q H2 _ (.ow s1 hf r1 m)
  · cases e3
theorem sm_Z (h1 : SF te fc) (h2 : SM ta g) : SM (tCons te ta) (sZ fc g) := fun H0 H σ ε ss R e Q q => by
  obtain ⟨a, b, e1, e2, e3⟩ := o2_some e
  cases e3
  exact h1 H0 H σ ε a R e1 _ fun H1 x s1 r1 => h2 H0 H1 σ ε b (R.same s1) e2 _ fun H2 vs m => q H2 _ (.fz s1 r1 m)
/-- the slots is get the values -/
def mPar (is : List Nat) (fs : En → Option (List Sl)) : MS := fun ε => match fs ε with
  | some ss => if Nat.beq ss.length is.length then some (.nx (setS ε is ss)) else none
  | none => none
theorem ss_par {i j : Nat} (h : SM ta g) : SS (tPar i j ta) (mPar [i, j] g) := fun H0 H σ ε r R e D p => by
  unfold mPar at e
  split at e
  · rename_i ss e1
    split at e
    · rename_i hl
      cases e
      have hl := Nat.eq_of_beq_eq_true hl
      refine h H0 H σ ε ss R e1 _ fun H1 vs m => ?_
      obtain ⟨R2, k2⟩ := R.setM m hl
      have hv : vs.length = 2 := by rw [← m.len, hl]; rfl
      match vs, hv, R2, k2 with
      | [v, w], _, R2, k2 => exact ⟨v, w, rfl, p _ H1 R2 k2⟩
    · cases e
  · cases e
theorem ss_par3 {i j l : Nat} (h : SM ta g) : SS (tPar3 i j l ta) (mPar [i, j, l] g) := fun H0 H σ ε r R e D p => by
  unfold mPar at e
  split at e
  · rename_i ss e1
    split at e
    · rename_i hl
      cases e
      have hl := Nat.eq_of_beq_eq_true hl
      refine h H0 H σ ε ss R e1 _ fun H1 vs m => ?_
      obtain ⟨R2, k2⟩ := R.setM m hl
      have hv : vs.length = 3 := by rw [← m.len, hl]; rfl
      match vs, hv, R2, k2 with
      | [v, w, z], _, R2, k2 => exact ⟨v, w, z, rfl, p _ H1 R2 k2⟩
    · cases e
  · cases e
/-- a tuple made and taken apart into names -/
def gNames : List Nat → TGs
  | [] => gNil
  | i :: is => gCons (gName i) (gNames is)
theorem gNames_run : ∀ {is : List Nat} {vs : List V} {σ : L2.St} {H : Hp} {Q : L2.St → Hp → Prop}, vs.length = is.length → Q (setV σ is vs) H → gNames is vs σ H Q
  | [], [], _, _, _, _, q => ⟨rfl, q⟩
  | i :: is, v :: vs, _, _, _, hl, q => ⟨v, vs, rfl, gNames_run (by simpa using hl) q⟩
  | [], _ :: _, _, _, _, hl, _ => by simp at hl
  | _ :: _, [], _, _, _, hl, _ => by simp at hl
theorem ss_parT {K : PySem.W.Frag} {is : List Nat} {n : Nat} (hn : is.length = n) (hs : Nat.ble n 100000 = true) (h : SM ta g) : SS (tAsg (tTup ta) (gTup K n (gNames is))) (mPar is g) := fun H0 H σ ε r R e D p => by
  unfold mPar at e
  split at e
  · rename_i ss e1
    split at e
    · rename_i hl
      cases e
      have hl := Nat.eq_of_beq_eq_true hl
      refine h H0 H σ ε ss R e1 _ fun H1 vs m => ?_
      have hv : vs.length = is.length := by rw [← m.len, hl]
      refine ⟨by rw [hv, hn]; exact line_le hs, fun q hq => ⟨q, vs, rfl, SqT.of upd_same, by rw [hv, hn], ?_⟩⟩
      obtain ⟨R2, k2⟩ := R.setM (m.more (Wr.Same.new hq)) hl
      exact gNames_run hv (p _ _ R2 k2)
    · cases e
  · cases e
end

/-! ### dicts and lists that are written -/
def putI (l : List (Int × Dt)) (i : Int) (d : Dt) : List (Int × Dt) := match lookI l i with
  | some _ => l.map fun p => if ieq p.1 i then (p.1, d) else p
  | none => l ++ [(i, d)]
def putP (l : List ((Int × Int) × Dt)) (i j : Int) (d : Dt) : List ((Int × Int) × Dt) := match lookP l i j with
  | some _ => l.map fun p => if ieq p.1.1 i && ieq p.1.2 j then (p.1, d) else p
  | none => l ++ [((i, j), d)]
theorem KI.app {H : Hp} : ∀ {l l' : List (Int × Dt)} {m m' : List (Key × V)}, KI H l m → KI H l' m' → KI H (l ++ l') (m ++ m')
  | _, _, _, _, .nil, s => s
  | _, _, _, _, .cons a r, s => .cons a (KI.app r s)
theorem KP.app {H : Hp} : ∀ {l l' : List ((Int × Int) × Dt)} {m m' : List (List Key × V)}, KP H l m → KP H l' m' → KP H (l ++ l') (m ++ m')
  | _, _, _, _, .nil, s => s
  | _, _, _, _, .cons a r, s => .cons a (KP.app r s)
theorem KI.length {H : Hp} : ∀ {l : List (Int × Dt)} {m : List (Key × V)}, KI H l m → l.length = m.length
  | _, _, .nil => rfl
  | _, _, .cons _ r => by rw [List.length_cons, List.length_cons, KI.length r]
theorem KP.length {H : Hp} : ∀ {l : List ((Int × Int) × Dt)} {m : List (List Key × V)}, KP H l m → l.length = m.length
  | _, _, .nil => rfl
  | _, _, .cons _ r => by rw [List.length_cons, List.length_cons, KP.length r]
theorem KI.repl {H : Hp} {i : Int} {d : Dt} {v : V} (rv : Rep H d v) : ∀ {l : List (Int × Dt)} {m : List (Key × V)}, KI H l m → KI H (l.map fun p => if ieq p.1 i then (p.1, d) else p) (m.map fun kv => if kv.1 = Sum.inl i then (kv.1, v) else kv)
  | _, _, .nil => .nil
  | _, _, .cons (i := a) (d := e) (v := u) a1 r => by
    rw [List.map_cons, List.map_cons]
    by_cases h : a = i
    · subst h
      have e1 : ieq a a = true := by rw [← ieq_dec]; simp
      rw [if_pos e1, if_pos rfl]
      exact .cons rv (KI.repl rv r)
    · have e1 : ¬ ieq a i = true := by
        rw [← ieq_dec]
        simpa using h
      rw [if_neg e1, if_neg (fun z => h (Sum.inl.inj z))]
      exact .cons a1 (KI.repl rv r)
theorem KP.repl {H : Hp} {i j : Int} {d : Dt} {v : V} (rv : Rep H d v) : ∀ {l : List ((Int × Int) × Dt)} {m : List (List Key × V)}, KP H l m → KP H (l.map fun p => if ieq p.1.1 i && ieq p.1.2 j then (p.1, d) else p) (m.map fun kv => if kv.1 = [Sum.inl i, Sum.inl j] then (kv.1, v) else kv)
  | _, _, .nil => .nil
  | _, _, .cons (i := a) (j := b) (d := e) (v := u) a1 r => by
    rw [List.map_cons, List.map_cons]
    by_cases h : a = i ∧ b = j
    · obtain ⟨rfl, rfl⟩ := h
      have e1 : (ieq a a && ieq b b) = true := by rw [← ieq_dec, ← ieq_dec]; simp
      rw [if_pos e1, if_pos rfl]
      exact .cons rv (KP.repl rv r)
    · have e1 : ¬ (ieq a i && ieq b j) = true := by
        rw [← ieq_dec, ← ieq_dec]
        simpa using h
      rw [if_neg e1, if_neg (fun z => h (by
        injection z with z1 z2
        injection z2 with z2 _
        exact ⟨Sum.inl.inj z1, Sum.inl.inj z2⟩))]
      exact .cons a1 (KP.repl rv r)
theorem any_val {κ : Type} [DecidableEq κ] {m : List (κ × V)} {k : κ} : (m.any fun kv => decide (kv.1 = k)) = (valV m k).isSome := valV_any k m
theorem KI.put {H : Hp} {l : List (Int × Dt)} {m : List (Key × V)} {i : Int} {d : Dt} {v : V} (r : KI H l m) (rv : Rep H d v) : KI H (putI l i d) (putK m (.inl i) v) := by
  have q := lookI_ok i r
  unfold putI putK
  rw [any_val]
  cases e : lookI l i with
  | none =>
    rw [e] at q
    rw [q.none, if_neg (by simp)]
    exact r.app (.cons rv .nil)
  | some x =>
    rw [e] at q
    obtain ⟨u, h1, _⟩ := q.some
    rw [h1, if_pos (by simp)]
    exact r.repl rv
theorem KP.put {H : Hp} {l : List ((Int × Int) × Dt)} {m : List (List Key × V)} {i j : Int} {d : Dt} {v : V} (r : KP H l m) (rv : Rep H d v) : KP H (putP l i j d) (putK m [.inl i, .inl j] v) := by
  have q := lookP_ok i j r
  unfold putP putK
  rw [any_val]
  cases e : lookP l i j with
  | none =>
    rw [e] at q
    rw [q.none, if_neg (by simp)]
    exact r.app (.cons rv .nil)
  | some x =>
    rw [e] at q
    obtain ⟨u, h1, _⟩ := q.some
    rw [h1, if_pos (by simp)]
    exact r.repl rv
/-- the container behind c[k] = d -/
def cPut : Ct → Dt → Dt → Option Ct
  | .dP l, .tup [.int i, .int j], d => if Nat.ble l.length 100000 then some (.dP (putP l i j d)) else none
  | .dI l, .int i, d => if Nat.ble l.length 100000 then some (.dI (putI l i d)) else none
  | _, _, _ => none
theorem cPut_ok {H : Hp} {c c' : Ct} {a : Addr} {k d : Dt} {y v : V} (hc : AtP (fun _ => True) H c a) (hk : Rep H k y) (hd : Rep H d v) (h : cPut c k d = some c') : ∃ o, DPut H a y v (upd H a o) ∧ c'.flat = true ∧ AtP (fun _ => True) (upd H a o) c' a := by
  unfold cPut at h
  split at h
  · rename_i l i j
    split at h
    · rename_i hl
      cases h
      cases hc with
      | @dP _ ys _ _ h1 h2 =>
        obtain ⟨p, xs, rfl, h3, h4⟩ := rep_tup hk
        have e : xs = ([Sum.inl i, Sum.inl j] : List Key).map kV := by
          cases h4 with
          | cons a b =>
            cases b with
            | cons b c =>
              cases c
              rw [rep_int a, rep_int b]
              rfl
        rw [e] at h3
        have te : TEx H (upd H a (.dT (putK ys [.inl i, .inl j] v))) := TEx.put h1 fun _ z => by cases z
        exact ⟨_, DPut.t h1 h3 (by rw [← h2.length]; exact line_lt hl), rfl, .dP trivial upd_same ((h2.put hd).tex te)⟩
    · cases h
  · rename_i l i
    split at h
    · rename_i hl
      cases h
      cases hc with
      | @dI _ ys _ _ h1 h2 =>
        cases rep_int hk
        have te : TEx H (upd H a (.dK (putK ys (.inl i) v))) := TEx.put h1 fun _ z => by cases z
        exact ⟨_, DPut.k (k := .inl i) h1 (by rw [← h2.length]; exact line_lt hl), rfl, .dI trivial upd_same ((h2.put hd).tex te)⟩
    · cases h
  · cases h
def vOw (i : Nat) : En → Option Ct := fun ε => match sget ε i with
  | some (.ow c) => some c
  | _ => none
theorem vOw_some {i : Nat} {ε : En} {c : Ct} (h : vOw i ε = some c) : sget ε i = some (.ow c) := by
  unfold vOw at h
  split at h
  · rename_i e
    cases h
    exact e
  · cases h
def mPut (i : Nat) (fk fv : En → Option Dt) : MS := fun ε => match fv ε with
  | none => none
  | some d => match vOw i ε with
    | none => none
    | some c => match fk ε with
      | none => none
      | some k => match cPut c k d with
        | none => none
        | some c' => some (.nx (sset ε i (some (.ow c'))))
def rSetD : TSet := fun o k v H Q => ∃ a H', o = .ref a ∧ DPut H a k v H' ∧ Q H'
section
variable {i : Nat} {ty tv : TE} {fk fv : En → Option Dt}
theorem put_go {H0 H : Hp} {σ : L2.St} {ε : En} (hk : SE ty fk) (R : Wr.R H0 H σ ε) {d k : Dt} {v : V} {c c' : Ct} (rv : Rep H d v) (e2 : vOw i ε = some c) (e3 : fk ε = some k) (e4 : cPut c k d = some c') :
    ∃ a, σ[i]? = some (some (V.ref a)) ∧ ∀ Q : VK, (∀ y H2 H4, DPut H2 a y v H4 → Wr.R H0 H4 σ (sset ε i (some (.ow c'))) → Keep σ ε H σ (sset ε i (some (.ow c'))) H4 → Q y H2) → ty σ H Q := by
  have h1 := vOw_some e2
  obtain ⟨a, ha, h2, h3, h4⟩ := R.ow i c h1
  refine ⟨a, ha, fun Q q => hk H0 H σ ε k R e3 Q fun H2 y s2 r2 => ?_⟩
  obtain ⟨o, g1, g2, g3⟩ := cPut_ok (h4.same s2) r2 (rv.same s2) e4
  obtain ⟨R2, k2⟩ := (R.same s2).write h1 ha g2 g3
  exact q y H2 _ g1 R2 ((Keep.same s2).trans k2)
theorem ss_dput (hk : SE ty fk) (hv : SE tv fv) : SS (sDPut (tVar i) ty tv) (mPut i fk fv) := fun H0 H σ ε r R e D p => by
  unfold mPut at e
  split at e
  · cases e
  · rename_i d e1
    split at e
    · cases e
    · rename_i c e2
      split at e
      · cases e
      · rename_i k e3
        split at e
        · cases e
        · rename_i c' e4
          cases e
          refine hv H0 H σ ε d R e1 _ fun H1 v s1 r1 => ?_
          obtain ⟨a, ha, q⟩ := put_go hk (R.same s1) r1 e2 e3 e4
          exact ⟨.ref a, ha, q _ fun y H2 H4 g R2 k2 => ⟨a, H4, rfl, g, p σ H4 R2 ((Keep.same s1).trans k2)⟩⟩
/-! a[..], b[..] = x, y -/
variable {j : Nat} {ty2 tv2 : TE} {fk2 fv2 : En → Option Dt} {K : PySem.W.Frag}
def mPut2 (i j : Nat) (fk fv fk2 fv2 : En → Option Dt) : MS := fun ε => match fv ε, fv2 ε with
  | some d, some d2 => (match vOw i ε, fk ε with
    | some c, some k => (match cPut c k d with
      | some c' => (match vOw j (sset ε i (some (.ow c'))), fk2 (sset ε i (some (.ow c'))) with
        | some c2, some k2 => (match cPut c2 k2 d2 with
          | some c2' => some (.nx (sset (sset ε i (some (.ow c'))) j (some (.ow c2'))))
          | none => none)
        | _, _ => none)
      | none => none)
    | _, _ => none)
  | _, _ => none
theorem ss_dput2 (hk : SE ty fk) (hv : SE tv fv) (hk2 : SE ty2 fk2) (hv2 : SE tv2 fv2) :
    SS (tAsg (tTup (tCons tv (tCons tv2 tNil))) (gTup K 2 (gCons (gSub (tVar i) ty rSetD) (gCons (gSub (tVar j) ty2 rSetD) gNil)))) (mPut2 i j fk fv fk2 fv2) := fun H0 H σ ε r R e D p => by
  unfold mPut2 at e
  split at e
  · rename_i d d2 e1 e2
    split at e
    · rename_i c k e3 e4
      split at e
      · rename_i c' e5
        split at e
        · rename_i c2 k2 e6 e7
          split at e
          · rename_i c2' e8
            cases e
            refine hv H0 H σ ε d R e1 _ fun H1 v s1 r1 => hv2 H0 H1 σ ε d2 (R.same s1) e2 _ fun H2 v2 s2 r2 => ⟨by show 2 ≤ sizeLine; decide, fun q hq => ⟨q, [v, v2], rfl, SqT.of upd_same, rfl, v, [v2], rfl, ?_⟩⟩
            have s3 : Same H2 (upd H2 q (.tup [v, v2])) := Wr.Same.new hq
            obtain ⟨a, ha, q1⟩ := put_go hk (((R.same s1).same s2).same s3) ((r1.same s2).same s3) e3 e4 e5
            refine ⟨.ref a, ha, q1 _ fun y H3 H4 g R2 kk2 => ⟨a, H4, rfl, g, v2, [], rfl, ?_⟩⟩
            have t4 : TEx (upd H2 q (.tup [v, v2])) H4 := fun b xs h => (kk2 b _ h ((((R.same s1).same s2).same s3).tup_free h)).1
            obtain ⟨a2, ha2, q2⟩ := put_go hk2 R2 ((r2.same s3).tex t4) e6 e7 e8
            exact ⟨.ref a2, ha2, q2 _ fun y2 H5 H6 g2 R3 kk3 => ⟨a2, H6, rfl, g2, rfl, p σ H6 R3 ((((Keep.same s1).trans (Keep.same s2)).trans (Keep.same s3)).trans (kk2.trans kk3))⟩⟩
          · cases e
        · cases e
      · cases e
    · cases e
  · cases e
/-- l[..] = x -/
def mSetL (i : Nat) (fk fv : En → Option Dt) : MS := fun ε => match fv ε with
  | none => none
  | some d => match vOw i ε with
    | some (.lst l) => (match fk ε with
      | some (.int (.ofNat n)) => if Nat.blt n l.length then some (.nx (sset ε i (some (.ow (.lst (l.set n d)))))) else none
      | _ => none)
    | _ => none
theorem ss_setL (hk : SE ty fk) (hv : SE tv fv) : SS (tAsg tv (gSub (tVar i) ty rSetL)) (mSetL i fk fv) := fun H0 H σ ε r R e D p => by
  unfold mSetL at e
  split at e
  · cases e
  · rename_i d e1
    split at e
    · rename_i l e2
      split at e
      · rename_i n e3
        split at e
        · rename_i hn
          cases e
          rw [Nat.blt_eq] at hn
          refine hv H0 H σ ε d R e1 _ fun H1 v s1 r1 => ?_
          have h1 := vOw_some e2
          obtain ⟨a, ha, h2, h3, h4⟩ := (R.same s1).ow i _ h1
          refine ⟨.ref a, ha, hk H0 H1 σ ε _ (R.same s1) e3 _ fun H2 y s2 r2 => ?_⟩
          cases rep_int r2
          cases h4.same s2 with
          | @lst _ xs _ _ g1 g2 =>
            have te : TEx H2 (upd H2 a (.lst (xs.set n v))) := TEx.put g1 fun _ z => by cases z
            obtain ⟨R3, k3⟩ := ((R.same s1).same s2).write (o := .lst (xs.set n v)) (c' := .lst (l.set n d)) h1 ha rfl (.lst trivial upd_same ((g2.set (r1.same s2) n).tex te))
            refine ⟨a, xs, _, n, rfl, rfl, g1, ?_, p σ _ R3 (((Keep.same s1).trans (Keep.same s2)).trans k3)⟩
            have en : (Int.ofNat n : Int) = (n : Int) := rfl
            unfold ixN
            rw [if_pos (by omega), if_pos (by rw [← g2.length]; omega)]
            rfl
        · cases e
      · cases e
    · cases e
/-- l.append(x), l.extend(x) -/
def mApp (i : Nat) (f : En → Option Dt) : MS := fun ε => match f ε with
  | none => none
  | some d => match vOw i ε with
    | some (.lst l) => if Nat.ble l.length 100000 then some (.nx (sset ε i (some (.ow (.lst (l ++ [d])))))) else none
    | _ => none
theorem ss_app (hv : SE tv fv) : SS (tDrop (tBM K "list" rAppend (tVar i) (tCons tv tNil))) (mApp i fv) := fun H0 H σ ε r R e D p => by
  unfold mApp at e
  split at e
  · cases e
  · rename_i d e1
    split at e
    · rename_i l e2
      split at e
      · rename_i hn
        cases e
        have h1 := vOw_some e2
        obtain ⟨a, ha, h2, h3, h4⟩ := R.ow i _ h1
        refine ⟨.ref a, ha, ?_, hv H0 H σ ε d R e1 _ fun H1 v s1 r1 => ?_⟩
        · cases h4 with
          | lst _ g1 _ => exact .inl ⟨rfl, _, SqL.of g1⟩
        · cases h4.same s1 with
          | @lst _ xs _ _ g1 g2 =>
            have te : TEx H1 (upd H1 a (.lst (xs ++ [v]))) := TEx.put g1 fun _ z => by cases z
            obtain ⟨R3, k3⟩ := (R.same s1).write (o := .lst (xs ++ [v])) (c' := .lst (l ++ [d])) h1 ha rfl (.lst trivial upd_same ((g2.app (.cons r1 .nil)).tex te))
            exact ⟨a, xs, v, rfl, rfl, g1, by rw [← g2.length]; exact line_lt hn, p σ _ R3 ((Keep.same s1).trans k3)⟩
      · cases e
    · cases e
def mExt (i : Nat) (f : En → Option Ct) : MS := fun ε => match f ε with
  | some (.lst m) => (match vOw i ε with
    | some (.lst l) => if Nat.ble (l.length + m.length) 100000 then some (.nx (sset ε i (some (.ow (.lst (l ++ m)))))) else none
    | _ => none)
  | _ => none
theorem ss_ext {fc : En → Option Ct} (hv : SF tv fc) : SS (tDrop (tBM K "list" rExtend (tVar i) (tCons tv tNil))) (mExt i fc) := fun H0 H σ ε r R e D p => by
  unfold mExt at e
  split at e
  · rename_i m e1
    split at e
    · rename_i l e2
      split at e
      · rename_i hn
        cases e
        have h1 := vOw_some e2
        obtain ⟨a, ha, h2, h3, h4⟩ := R.ow i _ h1
        refine ⟨.ref a, ha, ?_, hv H0 H σ ε _ R e1 _ fun H1 v s1 r1 => ?_⟩
        · cases h4 with
          | lst _ g1 _ => exact .inl ⟨rfl, _, SqL.of g1⟩
        · cases h4.same s1 with
          | @lst _ xs _ _ g1 g2 =>
            cases r1 with
            | @lst _ ys _ _ g3 g4 =>
              have te : TEx H1 (upd H1 a (.lst (xs ++ ys))) := TEx.put g1 fun _ z => by cases z
              obtain ⟨R3, k3⟩ := (R.same s1).write (o := .lst (xs ++ ys)) (c' := .lst (l ++ m)) h1 ha rfl (.lst trivial upd_same ((g2.app g4).tex te))
              exact ⟨a, v, xs, ys, rfl, rfl, g1, g3, by rw [← g2.length, ← g4.length]; exact line_le hn, p σ _ R3 ((Keep.same s1).trans k3)⟩
      · cases e
    · cases e
  · cases e
/-- x += 1 -/
def mAug (i : Nat) (k : Dt → Dt → Option Dt) (f : En → Option Dt) : MS := fun ε => match vIm i ε with
  | some a => (match f ε with
    | some b => (match k a b with
      | some d => some (.nx (sset ε i (some (.im d))))
      | none => none)
    | none => none)
  | none => none
theorem ss_augAdd (hv : SE tv fv) : SS (tAug i tv (ipI fun i j => i + j)) (mAug i kAdd fv) := fun H0 H σ ε r R e D p => by
  unfold mAug at e
  split at e
  · rename_i a e1
    split at e
    · rename_i b e2
      split at e
      · rename_i d e3
        cases e
        obtain ⟨x, y, rfl, rfl, e4⟩ := kII_some e3
        cases e4
        unfold vIm at e1
        split at e1
        · rename_i e5
          cases e1
          obtain ⟨v, g1, g2⟩ := R.im i _ e5
          cases rep_int g2
          refine ⟨_, g1, hv H0 H σ ε _ R e2 _ fun H1 w s1 r1 => ?_⟩
          cases rep_int r1
          obtain ⟨R2, k2⟩ := (R.same s1).set_im (i := i) (.int (x + y))
          exact ⟨x, y, rfl, rfl, p _ H1 R2 ((Keep.same s1).trans k2)⟩
        · cases e1
      · cases e
    · cases e
  · cases e
end

/-! ### loops -/
def mForL (m : Dt → En → Option En) (mb : MS) : List Dt → MS
  | [], ε => some (.nx ε)
  | d :: ds, ε => match m d ε with
    | none => none
    | some ε1 => match mb ε1 with
      | some (.nx ε2) => mForL m mb ds ε2
      | r => r
def mFor (fi : En → Option (List Dt)) (m : Dt → En → Option En) (mb : MS) : MS := fun ε => match fi ε with
  | some ds => mForL m mb ds ε
  | none => none
def mWhile (c : En → Option Bool) (mb : MS) : Nat → MS
  | 0, _ => none
  | n + 1, ε => match c ε with
    | some true => (match mb ε with
      | some (.nx ε1) => mWhile c mb n ε1
      | r => r)
    | some false => some (.nx ε)
    | none => none
theorem Keep.tex {H0 H H' : Hp} {σ σ' : L2.St} {ε ε' : En} (r : R H0 H σ ε) (k : Keep σ ε H σ' ε' H') : TEx H H' := fun a xs h => (k a _ h (r.tup_free h)).1
section
variable {wi : TI} {g : TG} {tb : TS} {tc : TT} {fi : En → Option (List Dt)} {m : Dt → En → Option En} {mb : MS} {is : List Nat} {c : En → Option Bool}
theorem ss_for (hi : SI NO wi fi) (hg : SG g m is) (hb : SS tb mb) : SS (tFor wi g tb) (mFor fi m mb) := fun H0 H σ ε r R e D p => by
  unfold mFor at e
  split at e
  · rename_i ds e1
    refine hi H0 H σ ε ds R e1 _ fun J H1 s1 ok => ?_
    have R1 := R.same s1
    refine ⟨fun i k σ' H' => i + k = ds.length ∧ ∃ ε', Wr.R H0 H' σ' ε' ∧ Keep σ ε H1 σ' ε' H' ∧ mForL m mb (ds.drop i) ε' = some r, ⟨ds.length, by omega, ε, R1, Keep.refl _ _ _, e⟩, ?_⟩
    rintro i k σ' H' ⟨ei, ε', R', kp, hgo⟩
    have hs : Hs (NO σ ε) H1 H' := ⟨fun a o n h => (kp a o h n).1, kp.tex R1⟩
    cases hdrop : ds.drop i with
    | nil =>
      have hi' : ds.length ≤ i := by simpa using hdrop
      have ei' : i = ds.length := by omega
      subst ei'
      rw [hdrop] at hgo
      cases hgo
      exact .inl ⟨ok.stop H' hs, p σ' H' R' ((Keep.same s1).trans kp)⟩
    | cons d rest =>
      obtain ⟨hn, hrest⟩ := nth_drop hdrop
      rw [hdrop] at hgo
      have hk : 0 < k := by
        have h2 : (ds.drop i).length = (d :: rest).length := by rw [hdrop]
        rw [List.length_drop, List.length_cons] at h2
        omega
      refine .inr ⟨ok.go i d H' hn hs, fun σ2 H2 => ∃ ε2, Wr.R H0 H2 σ2 ε2 ∧ Keep σ ε H1 σ2 ε2 H2 ∧ mForL m mb rest ε2 = some r, fun σ2 H2 n2 => ⟨k - 1, by omega, by omega, ?_⟩, fun x H2 hy => ?_⟩
      · rw [hrest]
        exact n2
      · obtain ⟨s2, rx⟩ := ok.yld i d H' x H2 hn hs hy
        unfold mForL at hgo
        split at hgo
        · cases hgo
        · rename_i ε1 g1
          obtain ⟨σ2, T⟩ := hg H2 σ' ε' x d ε1 rx g1
          obtain ⟨R2, k2⟩ := T.rel H0 H2 (fun _ _ h => h) (R'.same s2)
          have kk := (kp.trans (Keep.same s2)).trans k2
          refine T.go H2 (fun _ _ h => h) _ ?_
          split at hgo
          · rename_i ε2 g2
            exact hb H0 H2 σ2 ε1 _ R2 g2 _ fun σ3 H3 R3 k3 => ⟨ε2, R3, kk.trans k3, hgo⟩
          · rename_i n1
            refine hb H0 H2 σ2 ε1 r R2 hgo _ ?_
            cases r with
            | nx ε' => exact absurd hgo (n1 ε')
            | rI d => exact p
            | rF c => exact p
  · cases e
theorem ss_while (n : Nat) (hc : ST tc c) (hb : SS tb mb) : SS (tWhile tc tb) (mWhile c mb n) := fun H0 H σ ε r R e D p => by
  refine ⟨fun k σ' H' => ∃ ε', Wr.R H0 H' σ' ε' ∧ Keep σ ε H σ' ε' H' ∧ mWhile c mb k ε' = some r, ⟨n, ε, R, Keep.refl _ _ _, e⟩, ?_⟩
  rintro k σ' H' ⟨ε', R', kp, hgo⟩
  cases k with
  | zero => cases hgo
  | succ k =>
    unfold mWhile at hgo
    split at hgo
    · rename_i e1
      refine hc H0 H' σ' ε' true R' e1 _ fun H1 s1 => ?_
      rw [if_pos rfl]
      refine ⟨fun σ2 H2 => ∃ ε2, Wr.R H0 H2 σ2 ε2 ∧ Keep σ ε H σ2 ε2 H2 ∧ mWhile c mb k ε2 = some r, fun σ2 H2 n2 => ⟨k, Nat.lt_succ_self k, n2⟩, ?_⟩
      have kk := kp.trans (Keep.same s1)
      split at hgo
      · rename_i ε2 g2
        exact hb H0 H1 σ' ε' _ (R'.same s1) g2 _ fun σ3 H3 R3 k3 => ⟨ε2, R3, kk.trans k3, hgo⟩
      · rename_i n1
        refine hb H0 H1 σ' ε' r (R'.same s1) hgo _ ?_
        cases r with
        | nx ε' => exact absurd hgo (n1 ε')
        | rI d => exact p
        | rF c => exact p
    · rename_i e1
      cases hgo
      refine hc H0 H' σ' ε' false R' e1 _ fun H1 s1 => ?_
      rw [if_neg Bool.false_ne_true]
      exact p σ' H1 (R'.same s1) (kp.trans (Keep.same s1))
    · cases hgo
end

/-! ### the end -/
def mRetI (f : En → Option Dt) : MS := fun ε => match f ε with
  | some d => some (.rI d)
  | none => none
def mRetF (f : En → Option Ct) : MS := fun ε => match f ε with
  | some d => some (.rF d)
  | none => none
def mRetO (i : Nat) : MS := fun ε => match vOw i ε with
  | some c => some (.rF c)
  | none => none
def mNever : MS := fun _ => none
section
variable {te : TE}
theorem ss_retI {f : En → Option Dt} (h : SE te f) : SS (tRet te) (mRetI f) := fun H0 H σ ε r R e D p => by
  unfold mRetI at e
  split at e
  · rename_i d e1
    cases e
    exact h H0 H σ ε d R e1 _ fun H1 v s1 r1 => p H1 v (R.ex.trans s1) r1
  · cases e
theorem ss_retF {f : En → Option Ct} (h : SF te f) : SS (tRet te) (mRetF f) := fun H0 H σ ε r R e D p => by
  unfold mRetF at e
  split at e
  · rename_i d e1
    cases e
    exact h H0 H σ ε d R e1 _ fun H1 v s1 r1 => p H1 v (R.ex.trans s1) (r1.weak fun b o n _ => R.ex.free n)
  · cases e
theorem ss_retO {i : Nat} : SS (tRet (tVar i)) (mRetO i) := fun H0 H σ ε r R e D p => by
  unfold mRetO at e
  split at e
  · rename_i c e1
    cases e
    obtain ⟨a, h1, h2, h3, h4⟩ := R.ow i c (vOw_some e1)
    exact ⟨_, h1, p H a R.ex (h4.flat_of h3 h2)⟩
  · cases e
theorem ss_never : SS tNever mNever := fun H0 H σ ε r R e D p => by cases e
end

/-! ### a def -/
def slOf : Ar → Option Sl
  | .im d => some (.im d)
  | .ct c => some (.fz c)
def blanks : Nat → En
  | 0 => []
  | n + 1 => none :: blanks n
def init (n : Nat) : List Ar → En
  | [] => blanks n
  | x :: xs => slOf x :: init (n - 1) xs
theorem blanks_len : ∀ n, (blanks n).length = n
  | 0 => rfl
  | n + 1 => by rw [blanks, List.length_cons, blanks_len n]
theorem blanks_get : ∀ (n i : Nat), sget (blanks n) i = none
  | 0, _ => rfl
  | n + 1, 0 => rfl
  | n + 1, i + 1 => blanks_get n i
theorem init_rel {H : Hp} : ∀ {xs : List Ar} {vs : List V} {n : Nat}, RepAs H xs vs → xs.length ≤ n → (init n xs).length = n ∧ ∀ i s, sget (init n xs) i = some s → ∃ x v, slOf x = some s ∧ vs[i]? = some v ∧ RepA H x v
  | [], _, n, .nil, _ => ⟨blanks_len n, fun i s h => by
    have h' : sget (blanks n) i = some s := h
    rw [blanks_get] at h'
    cases h'⟩
  | x :: xs, _, 0, .cons a r, h => by simp at h
  | x :: xs, _, n + 1, .cons (v := v) a r, h => by
    obtain ⟨h1, h2⟩ := init_rel (n := n) r (by simpa using h)
    refine ⟨by show (slOf x :: init n xs).length = n + 1; rw [List.length_cons, h1], fun i s e => ?_⟩
    cases i with
    | zero => exact ⟨x, v, e, rfl, a⟩
    | succ i =>
      obtain ⟨y, w, g1, g2, g3⟩ := h2 i s e
      exact ⟨y, w, g1, by rw [List.getElem?_cons_succ]; exact g2, g3⟩
theorem RepAs.length {H : Hp} : ∀ {xs : List Ar} {vs : List V}, RepAs H xs vs → xs.length = vs.length
  | _, _, .nil => rfl
  | _, _, .cons _ r => by rw [List.length_cons, List.length_cons, RepAs.length r]
theorem R.begin {H : Hp} {N : List Str} {xs : List Ar} {vs : List V} (r : RepAs H xs vs) (h : xs.length ≤ N.length) : R H H (L2.start N vs) (init N.length xs) := by
  obtain ⟨h1, h2⟩ := init_rel r h
  have get : ∀ {i : Nat} {v : V}, vs[i]? = some v → (L2.start N vs)[i]? = some (some v) := fun {i v} e => by
    have hi := (List.getElem?_eq_some_iff.mp e).1
    unfold L2.start
    rw [List.getElem?_append_left (by rw [List.length_map]; exact hi), List.getElem?_map, e]
    rfl
  have no : ∀ {i c}, sget (init N.length xs) i = some (.ow c) → False := fun {i c} e => by
    obtain ⟨x, v, g1, _⟩ := h2 i _ e
    cases x <;> cases g1
  refine ⟨Same.refl H, ?_, fun i d e => ?_, fun i c e => ?_, fun i c e => (no e).elim, fun i j c c' a e => (no e).elim⟩
  · rw [h1]
    unfold L2.start
    rw [List.length_append, List.length_map, List.length_replicate, ← r.length]
    omega
  · obtain ⟨x, v, g1, g2, g3⟩ := h2 i _ e
    cases x with
    | im d' =>
      cases g1
      exact ⟨v, get g2, g3⟩
    | ct c => cases g1
  · obtain ⟨x, v, g1, g2, g3⟩ := h2 i _ e
    cases x with
    | im d' => cases g1
    | ct c' =>
      cases g1
      obtain ⟨a, rfl, g4⟩ := (show ∃ a, v = V.ref a ∧ AtP (fun _ => True) H _ a from g3)
      refine ⟨a, get g2, g4.weak fun b o _ _ z => ?_⟩
      obtain ⟨j, c2, z1, _⟩ := z
      exact no z1
/-- what a body's function makes of the arguments -/
def runI (n : Nat) (m : MS) (xs : List Ar) : Option Dt := match m (init n xs) with
  | some (.rI d) => some d
  | _ => none
def runF (n : Nat) (m : MS) (xs : List Ar) : Option Ct := match m (init n xs) with
  | some (.rF d) => some d
  | _ => none
/-- of k arguments -/
def argc {α : Type} (k : Nat) (f : List Ar → Option α) : List Ar → Option α := fun xs => if Nat.beq xs.length k then f xs else none
theorem argc_some {α : Type} {k : Nat} {f : List Ar → Option α} {xs : List Ar} {a : α} (h : argc k f xs = some a) : xs.length = k ∧ f xs = some a := by
  unfold argc at h
  split at h
  · rename_i e
    exact ⟨Nat.eq_of_beq_eq_true e, h⟩
  · cases h
section
variable {P : Program} {w : World} {K : PySem.W.Frag} {mg : Str → Option Value} {base : Heap}
theorem fn_I {x qual : Str} {st : Stmt} {f : Addr} {fd : FuncData} {N ps : List Str} {k : Nat} {t : TS} {m : MS} (F : Fun K x qual st f fd) (S : FnScope N ps (defScope st)) (hN : ps.length ≤ N.length) (hm : SS t m)
    (hb : ∀ (cdv : Value) (A : Around) (outer : List Env) (s : Shared) (H : Hp) (E : XK), Room k (A.deeper (envOfC qual (defScope st) s.heap.objs.size f cdv)) →
      PSs (cxOf CX0 P w K mg base N qual (defScope st) f cdv A outer s H E).nox (defBody st) t) : FnOk P w K mg base CX0 (k + 1) f fd ps (spI (argc ps.length (runI N.length m))) := by
  refine F.ok S (fun vs H Q E h => ?_) fun cdv A outer s H vs Q E hr h => ?_
  · obtain ⟨xs, d, h1, h2, _⟩ := h
    rw [← h1.length]
    exact (argc_some h2).1
  · obtain ⟨xs, d, h1, h2, q⟩ := h
    obtain ⟨h3, h4⟩ := argc_some h2
    refine ⟨t, hb cdv A outer s H E hr, ?_⟩
    unfold runI at h4
    split at h4
    · rename_i d' e
      cases h4
      exact hm H H _ _ _ (R.begin h1 (by omega)) e _ fun H' v s' r' => q H' v s' r'
    · cases h4
theorem fn_F {x qual : Str} {st : Stmt} {f : Addr} {fd : FuncData} {N ps : List Str} {k : Nat} {t : TS} {m : MS} (F : Fun K x qual st f fd) (S : FnScope N ps (defScope st)) (hN : ps.length ≤ N.length) (hm : SS t m)
    (hb : ∀ (cdv : Value) (A : Around) (outer : List Env) (s : Shared) (H : Hp) (E : XK), Room k (A.deeper (envOfC qual (defScope st) s.heap.objs.size f cdv)) →
      PSs (cxOf CX0 P w K mg base N qual (defScope st) f cdv A outer s H E).nox (defBody st) t) : FnOk P w K mg base CX0 (k + 1) f fd ps (spF (argc ps.length (runF N.length m))) := by
  refine F.ok S (fun vs H Q E h => ?_) fun cdv A outer s H vs Q E hr h => ?_
  · obtain ⟨xs, d, h1, h2, _⟩ := h
    rw [← h1.length]
    exact (argc_some h2).1
  · obtain ⟨xs, d, h1, h2, q⟩ := h
    obtain ⟨h3, h4⟩ := argc_some h2
    refine ⟨t, hb cdv A outer s H E hr, ?_⟩
    unfold runF at h4
    split at h4
    · rename_i d' e
      cases h4
      exact hm H H _ _ _ (R.begin h1 (by omega)) e _ fun H' v s' r' => q H' v s' r'
    · cases h4
end
end Wr

set_option maxHeartbeats 1000000
/-! Rules that the layer lacks: enumerate of a tuple, least and greatest of data, sorted data. -/
namespace PySem
theorem wr_enum_new {v : Value} {o : Obj} {G : Heap → Prop} (B : Begins v o G) :
    Meets (Builtin.«enumerate.__new__» ⟨[.type "enumerate", v], []⟩) (fun _ Z s => G s.heap ∧
      Z (.ok (.ret (.ref (s.heap.push o).objs.size))) { s with heap := (s.heap.push o).push { cls := .type "enumerate", data := .fields #[.none, .bool false, .ref s.heap.objs.size, rawInt 0, .none, .none] } }) :=
  .of_wp fun prog w A Z s hz => by
    obtain ⟨hp, gg, dd, tk, os⟩ := s
    obtain ⟨hG, hz⟩ := hz
    have hsub := sub_enumerate
    have step : ∀ {A' : Around} {E : Value → Shared → Prop} {Q : Value → Shared → Prop}, Q (.ref hp.objs.size) ⟨hp.push o, gg, dd, tk, os⟩ → wpAny (model prog w) A' (pyIter v) Q E ⟨hp, gg, dd, tk, os⟩ :=
      fun q => B.iter prog w _ _ ⟨hp, gg, dd, tk, os⟩ _ hG q
    wp_walk using step
    refine wpAny_stack_any fun st => wpAny_pure ?_
    split
    · rename_i c _ _ _ _ _
      cases (c == Value.type "enumerate") <;> (wp_walk using step; exact ⟨_, rfl, hz⟩)
    · wp_walk using step
      exact ⟨_, rfl, hz⟩
section
variable {prog : Program} {w : World} {A : Around} {E : Value → Shared → Prop} {s : Shared}
theorem wr_call_enum {v : Value} {o : Obj} {G : Heap → Prop} {Q : Value → Shared → Prop} (B : Begins v o G) (hG : G s.heap)
    (q : ∀ h', IsEnum h' (s.heap.objs.size + 1) s.heap.objs.size 0 .none → h'.get? s.heap.objs.size = some o → (∀ b u, s.heap.get? b = some u → h'.get? b = some u) → Q (.ref (s.heap.objs.size + 1)) { s with heap := h' }) :
    wpAny (model prog w) A (call (.type "enumerate") [v]) Q E s := by
  refine callType_new F.called_enumerate (by decide) (F.typeCall_enumerate_1 _) (F.newCall_enumerate_1 _) (fun obj => F.args_object_init_2 obj _) F.entry_enumerate_new (wr_enum_new B) ⟨hG, ?_⟩
  have sz : (s.heap.push o).objs.size = s.heap.objs.size + 1 := Heap.size_push ..
  show _ ∧ _
  rw [sz]
  have he : IsEnum ((s.heap.push o).push { cls := .type "enumerate", data := .fields #[.none, .bool false, .ref s.heap.objs.size, rawInt 0, .none, .none] }) (s.heap.objs.size + 1) s.heap.objs.size 0 .none := by
    have z := Heap.get?_push_size (s.heap.push o) (o := { cls := .type "enumerate", data := .fields #[.none, .bool false, .ref s.heap.objs.size, rawInt 0, .none, .none] }) rfl
    rw [sz] at z
    exact z
  exact ⟨⟨_, he, rfl⟩, q _ he (Heap.get?_push_of_some _ (Heap.get?_push_size _ B.free)) fun b u x => Heap.get?_push_of_some _ (Heap.get?_push_of_some _ x)⟩
end
end PySem
namespace Wr
open PySem PySem.Spec PyProof.Rows L2

/-! ### enumerate(t), t a tuple -/
/-- the tuple at a as it stands at each turn, each item in a new pair -/
def IteT (K : PySem.W.Frag) (a : Addr) : It :=
  ⟨fun i H => ∃ (xs : List V) (x : V), SqT K H a xs ∧ xs[i]? = some x, fun i H v H' => ∃ T x, v = .ref T ∧ H T = none ∧ H' = upd H T (.tup [.int (i : Nat), x]) ∧ ∀ xs, SqT K H a xs → xs[i]? = some x, fun i H => ∃ xs : List V, SqT K H a xs ∧ xs.length = i⟩
theorem tup_apart {h : Heap} {a e : Addr} {its : Array Value} {i : Int} {it : Addr} {old : Value} (ht : IsTup h a its) (he : IsEnum h e it i old) : e ≠ a := fun z => by
  subst z
  obtain ⟨o, ho, hc, _⟩ := ht
  have q : h.get? e = some _ := he
  rw [ho] at q
  cases q
  exact absurd (show Value.type "enumerate" = Value.type "tuple" from hc) (by decide)
theorem tup_apart2 {h : Heap} {a it : Addr} {its : Array Value} {b : Addr} {i : Nat} (ht : IsTup h a its) (hi : h.IsTupleIter it b i) : a ≠ it := fun z => by
  subst z
  obtain ⟨o, ho, hc, _⟩ := ht
  obtain ⟨u, hu, hd, _⟩ := hi
  rw [ho] at hu
  cases hu
  rw [hc] at hd
  exact absurd hd (by decide)
theorem turn_enumT {P : Program} {w : World} {K : PySem.W.Frag} {elts : List Expr} {kk : Nat} {tpos : Pos} (a e it : Addr) :
    Turn P w K (.Tuple elts kk tpos) (IteT K a) [e, it] e (fun i h => (∃ old, IsEnum h e it ((i : Nat) : Int) old) ∧ h.IsTupleIter it a i ∧ e ≠ it) where
  mem := by simp
  obj := fun i h st b hb => by
    obtain ⟨⟨old, he⟩, ⟨o, ho, hc, hd⟩, _⟩ := st
    rcases (by simpa using hb : b = e ∨ b = it) with z | z
    · rw [z]
      exact ⟨_, he, fun v q => nomatch q⟩
    · rw [z]
      exact ⟨o, ho, fun v q => by rw [hd] at q; cases q⟩
  keep := fun i h h' st k => let ⟨⟨old, he⟩, hi, hne⟩ := st; ⟨⟨old, k e (by simp) _ he⟩, hi.at fun o q => k it (by simp) o q, hne⟩
  item := by
    intro X hP hw hK hc i pins s σ H E I hf st hg
    subst hP hw hK
    obtain ⟨⟨old, he⟩, hit, hne⟩ := st
    obtain ⟨xs, x, hq, hx⟩ := hg
    obtain ⟨its, rv, ht, hz⟩ := I.tuple hq
    obtain ⟨u, hu, ru⟩ := rv.get hx
    have hlt : i < its.toArray.size := by simpa using (List.getElem?_eq_some_iff.mp hu).1
    have dr := Draws.tuple (prog := X.prog) (w := X.w) (A := X.A.in1) (I.ok.hd hc) it a (tup_apart2 ht hit) its.toArray
    have hel : e < s.heap.objs.size := Heap.lt_size he
    have hil : it < s.heap.objs.size := by obtain ⟨_, q, _⟩ := hit; exact Heap.lt_size q
    have hea := tup_apart ht he
    refine wpAny_pyNext_enum_itemD dr he ⟨hit, ht⟩ hlt hne (by simp [hne, hea]) fun x' h' tk hpx ho hst' hT hsz hk => ?_
    have ex : x' = u := by
      have e2 : its.toArray[i]? = some u := by simpa using hu
      rw [e2] at hpx
      exact (Option.some.inj hpx).symm
    subst ex
    refine ⟨_, rfl, wpAny_letOwnedTupleGo_enum (s := { s with heap := h', toks := tk + 1 }) ho fun h'' he' sb => ?_⟩
    have hT2 : h''.get? s.heap.objs.size = some { cls := .type "tuple", data := .seq #[.int i tk, x'] } := (sb.2 _ (Nat.ne_of_gt hel)).trans hT
    have new : ObjOk X.prog X.w (upd H s.heap.objs.size (.tup [.int (i : Nat), x])) h'' s.heap.objs.size (.tup [.int (i : Nat), x]) :=
      ⟨by show 2 ≤ sizeLine; decide, [.int i tk, x'], .cons ⟨_, rfl⟩ (.cons ru .nil), ⟨_, hT2, rfl, _, rfl⟩⟩
    have I1 : Inv X pins σ (upd H s.heap.objs.size (.tup [.int (i : Nat), x])) { s with heap := h'', toks := tk + 1 } :=
      I.turnedNew (ch := [e, it]) (fun b ob hb q => (sb.2 b (fun z => hb (by simp [z]))).trans (hk b ob (fun z => hb (by simp [z])) (fun z => hb (by simp [z])) q)) hf (Nat.le_refl _) new
    refine ⟨.ref s.heap.objs.size, _, I1, rfl, ⟨_, x, rfl, I.hok.fresh (Nat.le_refl _), rfl, fun ys hy => by rw [I.tuple_inj hy hq]; exact hx⟩, ⟨⟨x', ?_⟩, hst'.1.at fun o q => (sb.2 it (Ne.symm hne)).trans q, hne⟩, fun b hb => ?_⟩
    · have e1 : ((i + 1 : Nat) : Int) = (i : Int) + 1 := by omega
      rw [e1]
      exact he'
    · have hb' : b < s.heap.objs.size := by
        rcases (by simpa using hb : b = e ∨ b = it) with z | z
        · rw [z]
          exact hel
        · rw [z]
          exact hil
      rw [upd_ne (Nat.ne_of_lt hb')]
      exact (hf b hb).1
  done := by
    intro X hP hw hK hc i pins s σ H E I hf st hg
    subst hP hw hK
    obtain ⟨⟨old, he⟩, hit, hne⟩ := st
    obtain ⟨xs, hq, hx⟩ := hg
    obtain ⟨its, rv, ht, hz⟩ := I.tuple hq
    obtain ⟨f0, f1, f2, f3, f4, f5⟩ := hf it (by simp)
    have dr := Draws.tuple (prog := X.prog) (w := X.w) (A := X.A.in1) (I.ok.hd hc) it a (tup_apart2 ht hit) its.toArray
    have ei : i = its.toArray.size := by
      rw [List.size_toArray, ← rv.length, hx]
    rw [ei] at hit
    exact wpAny_pyNext_enum_endD dr he ⟨hit, ht⟩ fun h' eb => ⟨rfl, I.turned (t' := s.toks) (fun b o hb q => eb b o hb q) f0 f1 f3 f4 f5⟩
  self := fun A i s Q E st h => let ⟨⟨_, he⟩, _⟩ := st; wpAny_pyIter_enum he h
def iEnumT (K : PySem.W.Frag) (ta : TA) : TI := fun σ H Z => ta σ H fun vs H1 => ∃ a xs, vs = [.ref a] ∧ SqT K H1 a xs ∧ Z (IteT K a) H1
theorem pi_enumT {X : Cx} {e : Expr} {ta : TA} {p pos tpos : Pos} {elts : List Expr} {kk : Nat} (hg : Gl X "enumerate") (hm : X.mg "enumerate" = none) (ha : PA X [e] ta) (hs : starEach [e] X.env = [(false, eval e X.env)] := by rfl) :
    PI X (.Tuple elts kk tpos) (.Call (.Name "enumerate" p) [e] [] pos) (iEnumT X.K ta) := by
  refine ⟨fun pins s σ H Z I h => ?_⟩
  refine Call_ (ld_blt I hg hm boot_enumerate (PyProof.Rows.callWith_type1 (thn (ha.run pos pins s σ H _ I h) fun us s1 ⟨vs, H1, I1, r1, q1⟩ => ?_) hs rfl))
  obtain ⟨a, xs, ex, hq, q⟩ := q1
  subst ex
  cases r1 with
  | cons r rr =>
    cases rr
    cases r
    obtain ⟨its, rv, ht, hz⟩ := I1.tuple hq
    refine wr_call_enum (begins_tuple a its.toArray) ht fun h' he hit hk => wpAny_pyIter_enum he ?_
    have I2 : Inv X pins σ H1 { s1 with heap := h' } := I1.kept (t' := s1.toks) hk
    refine ⟨s1.heap.objs.size + 1, [s1.heap.objs.size + 1, s1.heap.objs.size], _, _, H1, rfl, I2, turn_enumT a (s1.heap.objs.size + 1) s1.heap.objs.size, ⟨⟨.none, he⟩, ⟨_, hit, rfl, rfl⟩, Nat.succ_ne_self _⟩, fun b hb => ?_, q⟩
    have hle : s1.heap.objs.size ≤ b := by
      rcases (by simpa using hb : b = s1.heap.objs.size + 1 ∨ b = s1.heap.objs.size) with z | z
      · rw [z]
        exact Nat.le_add_right _ _
      · rw [z]
        exact Nat.le_refl _
    exact I1.fpOk hle (I1.hok.fresh hle)
theorem si_enumT {N : L2.St → En → Addr → Prop} {K : PySem.W.Frag} {te : TE} {f : En → Option Dt} (h : SE te f) : SI N (iEnumT K (tCons te tNil)) (o1 f fun c => match c with | .tup l => some (pairs 0 l) | _ => none) := fun H0 H σ ε ds R e Q q => by
  obtain ⟨c, e1, e2⟩ := o1_some e
  refine h H0 H σ ε c R e1 _ fun H1 v s1 r1 => ?_
  split at e2
  · rename_i l
    cases e2
    obtain ⟨a, xs, rfl, h1, h2⟩ := rep_tup r1
    refine ⟨a, xs, rfl, SqT.of h1, q _ H1 s1 ⟨fun H' k => ⟨xs, SqT.of (k.2 a _ h1), by rw [pairs_len, h2.length]⟩, fun i d H' hd k => ?_, fun i d H' x H'' hd k y => ?_⟩⟩
    · obtain ⟨e, h5, _⟩ := pairs_nth l 0 i d hd
      obtain ⟨x, h3, _⟩ := h2.nth h5
      exact ⟨xs, x, SqT.of (k.2 a _ h1), h3⟩
    · obtain ⟨e, h5, rfl⟩ := pairs_nth l 0 i d hd
      obtain ⟨x', h3, h4⟩ := h2.nth h5
      obtain ⟨T, z, rfl, hT, rfl, y2⟩ := y
      have y3 := y2 xs (SqT.of (k.2 a _ h1))
      rw [h3] at y3
      cases y3
      have s2 : Same H' (upd H' T (.tup [.int (i : Nat), x'])) := Wr.Same.new hT
      refine ⟨s2, .tup upd_same (.cons ?_ (.cons ((h4.tex k.2).same s2) .nil))⟩
      rw [Nat.zero_add]
      exact .int _
  · cases e2
end Wr

set_option maxHeartbeats 1000000
/-! The order of data: least, greatest, sorted. -/
namespace Wr
open PySem PySem.Spec PyProof.Rows L2

/-! ### kinds of data that can be compared -/
inductive Ty where
  | int | tup (l : List Ty) | seq (t : Ty)
def allTy (f : Ty → Dt → Bool) : List Ty → List Dt → Bool
  | [], [] => true
  | t :: ts, d :: ds => f t d && allTy f ts ds
  | _, _ => false
def hasTy : Nat → Ty → Dt → Bool
  | _, .int, .int _ => true
  | n + 1, .tup ts, .tup ds => allTy (hasTy n) ts ds
  | n + 1, .seq t, .tup ds => ds.all (hasTy n t)
  | _, _, _ => false
def dcmpL (f : Dt → Dt → Ordering) : List Dt → List Dt → Ordering
  | [], [] => .eq
  | [], _ :: _ => .lt
  | _ :: _, [] => .gt
  | x :: xs, y :: ys => match f x y with
    | .eq => dcmpL f xs ys
    | o => o
def dcmp : Nat → Dt → Dt → Ordering
  | _, .int i, .int j => bif ilt i j then .lt else (bif ilt j i then .gt else .eq)
  | n + 1, .tup xs, .tup ys => dcmpL (dcmp n) xs ys
  | _, _, _ => .eq
/-- the two lists, place by place -/
inductive AllZ (P : Dt → Dt → Prop) : List Dt → List Dt → Prop
  | nilL {ys : List Dt} : AllZ P [] ys
  | nilR {xs : List Dt} : AllZ P xs []
  | cons {x y : Dt} {xs ys : List Dt} : P x y → AllZ P xs ys → AllZ P (x :: xs) (y :: ys)
theorem allZ_tup {n : Nat} {P : Dt → Dt → Prop} (h : ∀ t a b, hasTy n t a = true → hasTy n t b = true → P a b) : ∀ {ts : List Ty} {xs ys : List Dt}, allTy (hasTy n) ts xs = true → allTy (hasTy n) ts ys = true → AllZ P xs ys ∧ xs.length = ys.length
  | [], [], [], _, _ => ⟨.nilL, rfl⟩
  | t :: ts, x :: xs, y :: ys, h1, h2 => by
    unfold allTy at h1 h2
    rw [Bool.and_eq_true] at h1 h2
    obtain ⟨a, b⟩ := allZ_tup h h1.2 h2.2
    exact ⟨.cons (h t x y h1.1 h2.1) a, by rw [List.length_cons, List.length_cons, b]⟩
  | [], _ :: _, _, h1, _ => by cases h1
  | [], [], _ :: _, _, h2 => by cases h2
  | _ :: _, [], _, h1, _ => by cases h1
  | _ :: _, _ :: _, [], _, h2 => by cases h2
theorem allZ_seq {n : Nat} {P : Dt → Dt → Prop} {t : Ty} (h : ∀ a b, hasTy n t a = true → hasTy n t b = true → P a b) : ∀ {xs ys : List Dt}, xs.all (hasTy n t) = true → ys.all (hasTy n t) = true → AllZ P xs ys
  | [], _, _, _ => .nilL
  | _ :: _, [], _, _ => .nilR
  | x :: xs, y :: ys, h1, h2 => by
    rw [List.all_cons, Bool.and_eq_true] at h1 h2
    exact .cons (h x y h1.1 h2.1) (allZ_seq h h1.2 h2.2)
/-- what two data of one kind are -/
theorem ty_cases {n : Nat} {t : Ty} {a b : Dt} (ha : hasTy n t a = true) (hb : hasTy n t b = true) :
    (∃ i j, a = .int i ∧ b = .int j) ∨ ∃ m xs ys, n = m + 1 ∧ a = .tup xs ∧ b = .tup ys ∧ ∀ P : Dt → Dt → Prop, (∀ u x y, hasTy m u x = true → hasTy m u y = true → P x y) → AllZ P xs ys := by
  cases t with
  | int =>
    cases a with
    | int i =>
      cases b with
      | int j => exact .inl ⟨i, j, rfl, rfl⟩
      | _ => cases n <;> cases hb
    | _ => cases n <;> cases ha
  | tup ts =>
    cases n with
    | zero => cases a <;> cases ha
    | succ m =>
      cases a with
      | tup xs =>
        cases b with
        | tup ys => exact .inr ⟨m, xs, ys, rfl, rfl, rfl, fun P h => (allZ_tup h ha hb).1⟩
        | _ => cases hb
      | _ => cases ha
  | seq u =>
    cases n with
    | zero => cases a <;> cases ha
    | succ m =>
      cases a with
      | tup xs =>
        cases b with
        | tup ys => exact .inr ⟨m, xs, ys, rfl, rfl, rfl, fun P h => allZ_seq (t := u) (h u) ha hb⟩
        | _ => cases hb
      | _ => cases ha
theorem alike_all : ∀ {xs ys : List Dt}, AllZ (fun x y => PySem.W.alike (toP x) (toP y) = true) xs ys → PySem.W.alikeAll (toPs xs) (toPs ys) = true
  | [], ys, _ => by cases ys <;> simp only [toPs, PySem.W.alikeAll]
  | _ :: _, [], _ => by simp only [toPs, PySem.W.alikeAll]
  | x :: xs, y :: ys, .cons a r => by
    simp only [toPs, PySem.W.alikeAll]
    rw [a, alike_all r]
    rfl
theorem alike_ty : ∀ (n : Nat) (t : Ty) (a b : Dt), hasTy n t a = true → hasTy n t b = true → PySem.W.alike (toP a) (toP b) = true := by
  intro n
  induction n with
  | zero =>
    intro t a b ha hb
    rcases ty_cases ha hb with ⟨i, j, rfl, rfl⟩ | ⟨m, xs, ys, e, _⟩
    · simp only [toP, PySem.W.alike]
    · cases e
  | succ n ih =>
    intro t a b ha hb
    rcases ty_cases ha hb with ⟨i, j, rfl, rfl⟩ | ⟨m, xs, ys, e, rfl, rfl, h⟩
    · simp only [toP, PySem.W.alike]
    · cases e
      simp only [toP, PySem.W.alike]
      exact alike_all (h _ ih)
theorem lex_app_cons (p : Int ⊕ List Nat) (l m : List (Int ⊕ List Nat)) : PyProof.Rows.lexLt itemOrd (p :: l) (p :: m) = PyProof.Rows.lexLt itemOrd l m := PySem.W.lex_pre [p] l m
/-- what dcmp says -/
def Says (o : Ordering) (a b : List (Int ⊕ List Nat)) : Prop := ∀ u v, PyProof.Rows.lexLt itemOrd (a ++ u) (b ++ v) = match o with
  | .lt => true
  | .gt => false
  | .eq => PyProof.Rows.lexLt itemOrd u v
theorem says_int (i j : Int) : Says (bif ilt i j then .lt else (bif ilt j i then .gt else .eq)) [Sum.inl i] [Sum.inl j] := fun u v => by
  show PyProof.Rows.lexLt itemOrd (Sum.inl i :: u) (Sum.inl j :: v) = _
  rw [PyProof.Rows.lex_cons]
  have h1 : itemOrd.blt (Sum.inl i : Int ⊕ List Nat) (Sum.inl j) = ilt i j := by
    rw [← ilt_dec]
    rfl
  have h2 : itemOrd.blt (Sum.inl j : Int ⊕ List Nat) (Sum.inl i) = ilt j i := by
    rw [← ilt_dec]
    rfl
  rw [h1, h2]
  cases e1 : ilt i j with
  | true => rfl
  | false =>
    cases e2 : ilt j i with
    | true => rfl
    | false => rfl
theorem says_list {f : Dt → Dt → Ordering} : ∀ {xs ys : List Dt}, AllZ (fun x y => Says (f x y) (PySem.W.keyToks (toP x)) (PySem.W.keyToks (toP y))) xs ys → Says (dcmpL f xs ys) (PySem.W.keyToksAll (toPs xs)) (PySem.W.keyToksAll (toPs ys))
  | [], [], _ => fun u v => by
    simp only [toPs, PySem.W.keyToksAll, dcmpL]
    exact lex_app_cons _ u v
  | [], y :: ys, _ => fun u v => by
    simp only [toPs, PySem.W.keyToksAll, dcmpL, List.cons_append]
    rw [PyProof.Rows.lex_cons]
    rfl
  | x :: xs, [], _ => fun u v => by
    simp only [toPs, PySem.W.keyToksAll, dcmpL, List.cons_append]
    rw [PyProof.Rows.lex_cons]
    rfl
  | x :: xs, y :: ys, .cons a r => fun u v => by
    simp only [toPs, PySem.W.keyToksAll, dcmpL, List.cons_append, List.append_assoc]
    rw [lex_app_cons, a]
    cases e : f x y with
    | lt => rfl
    | gt => rfl
    | eq => exact says_list r u v
theorem says_ty : ∀ (n : Nat) (t : Ty) (a b : Dt), hasTy n t a = true → hasTy n t b = true → Says (dcmp n a b) (PySem.W.keyToks (toP a)) (PySem.W.keyToks (toP b)) := by
  intro n
  induction n with
  | zero =>
    intro t a b ha hb
    rcases ty_cases ha hb with ⟨i, j, rfl, rfl⟩ | ⟨m, xs, ys, e, _⟩
    · simp only [toP, PySem.W.keyToks]
      exact says_int i j
    · cases e
  | succ n ih =>
    intro t a b ha hb
    rcases ty_cases ha hb with ⟨i, j, rfl, rfl⟩ | ⟨m, xs, ys, e, rfl, rfl, h⟩
    · simp only [toP, PySem.W.keyToks]
      exact says_int i j
    · cases e
      simp only [toP, PySem.W.keyToks]
      exact says_list (h _ ih)
theorem eq_list {f : Dt → Dt → Ordering} : ∀ {xs ys : List Dt}, AllZ (fun x y => f x y = .eq → x = y) xs ys → dcmpL f xs ys = .eq → xs = ys
  | [], [], _, _ => rfl
  | [], _ :: _, _, h => by cases h
  | _ :: _, [], _, h => by cases h
  | x :: xs, y :: ys, .cons a r, h => by
    unfold dcmpL at h
    split at h
    · rename_i e
      rw [a e, eq_list r h]
    · rename_i n
      exact absurd h n
theorem eq_ty : ∀ (n : Nat) (t : Ty) (a b : Dt), hasTy n t a = true → hasTy n t b = true → dcmp n a b = .eq → a = b := by
  have base : ∀ (n : Nat) (i j : Int), dcmp n (.int i) (.int j) = .eq → Dt.int i = .int j := fun n i j h => by
    have h' : (bif ilt i j then Ordering.lt else (bif ilt j i then .gt else .eq)) = .eq := by cases n <;> exact h
    cases e1 : ilt i j with
    | true => rw [e1] at h'; cases h'
    | false =>
      cases e2 : ilt j i with
      | true => rw [e1, e2] at h'; cases h'
      | false =>
        have a := ilt_false e1
        have b := ilt_false e2
        rw [Int.le_antisymm b a]
  intro n
  induction n with
  | zero =>
    intro t a b ha hb
    rcases ty_cases ha hb with ⟨i, j, rfl, rfl⟩ | ⟨m, xs, ys, e, _⟩
    · exact base 0 i j
    · cases e
  | succ n ih =>
    intro t a b ha hb
    rcases ty_cases ha hb with ⟨i, j, rfl, rfl⟩ | ⟨m, xs, ys, e, rfl, rfl, h⟩
    · exact base _ i j
    · cases e
      intro q
      rw [eq_list (h _ ih) q]
theorem lt_ty {n : Nat} {t : Ty} {a b : Dt} (ha : hasTy n t a = true) (hb : hasTy n t b = true) : PySem.W.dataLt (toP a) (toP b) = (dcmp n a b == .lt) := by
  have h := says_ty n t a b ha hb [] []
  rw [List.append_nil, List.append_nil] at h
  unfold PySem.W.dataLt
  rw [h]
  cases dcmp n a b <;> rfl
theorem depth_ty : ∀ (n : Nat) (t : Ty) (a : Dt), hasTy n t a = true → (toP a).depth ≤ n := by
  have all : ∀ (n : Nat) (l : List Dt), (∀ a ∈ l, (toP a).depth ≤ n) → PyData.depthAll (toPs l) ≤ n := fun n l => by
    induction l with
    | nil => intro _; simp [toPs, PyData.depthAll]
    | cons d l ih =>
      intro h
      simp only [toPs, PyData.depthAll]
      have h1 := h d (List.mem_cons_self)
      have h2 := ih fun a ha => h a (List.mem_cons_of_mem _ ha)
      omega
  have mem : ∀ (n : Nat) (ts : List Ty) (l : List Dt), allTy (hasTy n) ts l = true → ∀ a ∈ l, ∃ t, hasTy n t a = true := fun n ts => by
    induction ts with
    | nil =>
      intro l h a ha
      cases l with
      | nil => cases ha
      | cons _ _ => cases h
    | cons t ts ih =>
      intro l h a ha
      cases l with
      | nil => cases ha
      | cons d l =>
        unfold allTy at h
        rw [Bool.and_eq_true] at h
        rcases List.mem_cons.mp ha with rfl | ha
        · exact ⟨t, h.1⟩
        · exact ih l h.2 a ha
  intro n
  induction n with
  | zero =>
    intro t a ha
    rcases ty_cases ha ha with ⟨i, j, rfl, _⟩ | ⟨m, xs, ys, e, _⟩
    · simp [toP, PyData.depth]
    · cases e
  | succ n ih =>
    intro t a ha
    cases a with
    | int i => simp [toP, PyData.depth]
    | non => cases t <;> cases ha
    | bl b => cases t <;> cases ha
    | tup xs =>
      simp only [toP, PyData.depth]
      have := all n xs fun a hm => by
        cases t with
        | int => cases ha
        | tup ts =>
          obtain ⟨u, hu⟩ := mem n ts xs ha a hm
          exact ih u a hu
        | seq u =>
          have ha' : xs.all (hasTy n u) = true := ha
          exact ih u a (List.all_eq_true.mp ha' a hm)
      omega
theorem depths_ty {n : Nat} {t : Ty} : ∀ {l : List Dt}, l.all (hasTy n t) = true → PyData.depthAll (toPs l) ≤ n
  | [], _ => by simp [toPs, PyData.depthAll]
  | d :: l, h => by
    rw [List.all_cons, Bool.and_eq_true] at h
    simp only [toPs, PyData.depthAll]
    have h1 := depth_ty n t d h.1
    have h2 := depths_ty h.2
    omega
theorem toPs_map : ∀ l : List Dt, toPs l = l.map toP
  | [] => rfl
  | d :: l => by rw [toPs, List.map_cons, toPs_map l]
mutual
theorem toP_inj : ∀ (a b : Dt), toP a = toP b → a = b
  | .non, .non, _ => rfl
  | .bl a, .bl b, h => by
    simp only [toP, PyData.bool.injEq] at h
    rw [h]
  | .int a, .int b, h => by
    simp only [toP, PyData.int.injEq] at h
    rw [h]
  | .tup a, .tup b, h => by
    simp only [toP, PyData.tuple.injEq] at h
    rw [toPs_inj a b h]
  | .non, .bl _, h => by simp [toP] at h
  | .non, .int _, h => by simp [toP] at h
  | .non, .tup _, h => by simp [toP] at h
  | .bl _, .non, h => by simp [toP] at h
  | .bl _, .int _, h => by simp [toP] at h
  | .bl _, .tup _, h => by simp [toP] at h
  | .int _, .non, h => by simp [toP] at h
  | .int _, .bl _, h => by simp [toP] at h
  | .int _, .tup _, h => by simp [toP] at h
  | .tup _, .non, h => by simp [toP] at h
  | .tup _, .bl _, h => by simp [toP] at h
  | .tup _, .int _, h => by simp [toP] at h
theorem toPs_inj : ∀ (a b : List Dt), toPs a = toPs b → a = b
  | [], [], _ => rfl
  | x :: xs, y :: ys, h => by
    simp only [toPs, List.cons.injEq] at h
    rw [toP_inj x y h.1, toPs_inj xs ys h.2]
  | [], _ :: _, h => by simp [toPs] at h
  | _ :: _, [], h => by simp [toPs] at h
end
theorem alikes_ty {n : Nat} {t : Ty} {l : List Dt} (h : l.all (hasTy n t) = true) : PySem.W.AlikeAll (toPs l) := by
  rw [toPs_map]
  refine ⟨fun x hx y hy => ?_, fun x hx => ?_⟩
  · obtain ⟨a, ha, rfl⟩ := List.mem_map.mp hx
    obtain ⟨b, hb, rfl⟩ := List.mem_map.mp hy
    exact alike_ty n t a b (List.all_eq_true.mp h a ha) (List.all_eq_true.mp h b hb)
  · obtain ⟨a, ha, rfl⟩ := List.mem_map.mp hx
    have := List.all_eq_true.mp h a ha
    cases a with
    | non => cases n <;> cases t <;> cases this
    | bl _ => simp [toP]
    | int _ => simp [toP]
    | tup _ => simp [toP]

/-! ### least and greatest -/
def dMin (d : Dt) : List Dt → Dt
  | [] => d
  | y :: ys => match dcmp 8 y d with
    | .lt => dMin y ys
    | _ => dMin d ys
def dMax (d : Dt) : List Dt → Dt
  | [] => d
  | y :: ys => match dcmp 8 d y with
    | .lt => dMax y ys
    | _ => dMax d ys
theorem dMin_eq {t : Ty} : ∀ {ds : List Dt} {d : Dt}, (d :: ds).all (hasTy 8 t) = true → PySem.W.minD (toP d) (toPs ds) = toP (dMin d ds)
  | [], d, _ => rfl
  | y :: ys, d, h => by
    rw [List.all_cons, List.all_cons, Bool.and_eq_true, Bool.and_eq_true] at h
    have e := lt_ty h.2.1 h.1
    show (toPs ys).foldl (fun a y => if PySem.W.dataLt y a then y else a) (if PySem.W.dataLt (toP y) (toP d) then toP y else toP d) = _
    rw [e]
    unfold dMin
    cases e2 : dcmp 8 y d with
    | lt => exact dMin_eq (by rw [List.all_cons, h.2.1, h.2.2]; rfl)
    | eq => exact dMin_eq (by rw [List.all_cons, h.1, h.2.2]; rfl)
    | gt => exact dMin_eq (by rw [List.all_cons, h.1, h.2.2]; rfl)
theorem dMax_eq {t : Ty} : ∀ {ds : List Dt} {d : Dt}, (d :: ds).all (hasTy 8 t) = true → PySem.W.maxD (toP d) (toPs ds) = toP (dMax d ds)
  | [], d, _ => rfl
  | y :: ys, d, h => by
    rw [List.all_cons, List.all_cons, Bool.and_eq_true, Bool.and_eq_true] at h
    have e := lt_ty h.1 h.2.1
    show (toPs ys).foldl (fun a y => if PySem.W.dataLt a y then y else a) (if PySem.W.dataLt (toP d) (toP y) then toP y else toP d) = _
    rw [e]
    unfold dMax
    cases e2 : dcmp 8 d y with
    | lt => exact dMax_eq (by rw [List.all_cons, h.2.1, h.2.2]; rfl)
    | eq => exact dMax_eq (by rw [List.all_cons, h.1, h.2.2]; rfl)
    | gt => exact dMax_eq (by rw [List.all_cons, h.1, h.2.2]; rfl)
theorem Reps.back {H : Hp} : ∀ {ds : List Dt} {xs : List V} {n : Nat} {x : V}, Reps H ds xs → xs[n]? = some x → ∃ d ∈ ds, Rep H d x
  | _, _, _, _, .nil, h => by simp at h
  | _, _, 0, _, .cons a _, h => by
    cases h
    exact ⟨_, List.mem_cons_self, a⟩
  | _, _, n + 1, _, .cons _ r, h => by
    rw [List.getElem?_cons_succ] at h
    obtain ⟨d, h1, h2⟩ := Reps.back r h
    exact ⟨d, List.mem_cons_of_mem _ h1, h2⟩
theorem vals_back : ∀ {xs : List V} {us : List Value} {i : Nat} {u : Value}, Vals xs us → us[i]? = some u → ∃ x, xs[i]? = some x ∧ RelV x u
  | _, _, _, _, .nil, h => by simp at h
  | _, _, 0, _, .cons r _, h => by
    cases h
    exact ⟨_, rfl, r⟩
  | _, _, i + 1, _, .cons _ t, h => by
    rw [List.getElem?_cons_succ] at h
    obtain ⟨x, h1, h2⟩ := vals_back t h
    exact ⟨x, by rw [List.getElem?_cons_succ]; exact h1, h2⟩
/-- the list (tuple) at a of data of the kind t; the value wanted is that of m -/
def rPickL (t : Ty) (m : Dt → List Dt → Dt) : RB := fun vs H Q => ∃ a xs d ds, vs = [.ref a] ∧ H a = some (.lst xs) ∧ Reps H (d :: ds) xs ∧ (d :: ds).all (hasTy 8 t) = true ∧ ∀ x, Rep H (m d ds) x → Q x H
def rPickT (t : Ty) (m : Dt → List Dt → Dt) : RB := fun vs H Q => ∃ a xs d ds, vs = [.ref a] ∧ H a = some (.tup xs) ∧ Reps H (d :: ds) xs ∧ (d :: ds).all (hasTy 8 t) = true ∧ ∀ x, Rep H (m d ds) x → Q x H
section
variable {X : Cx} {t : Ty}
theorem picked {pins : List (Addr × Obj)} {s : Shared} {σ : L2.St} {H : Hp} {its : List Value} {xs : List V} {ds : List Dt} {i : Nat} {v : Value} {h' : Heap} {tk : Nat} {bs : List Addr} {m : Dt} {Q : VK} (I : Inv X pins σ H s) (rv : Vals xs its) (hr : Reps H ds xs) (hv : its[i]? = some v)
    (rd : Reads h' v (toP m) bs) (hk : ∀ b o, s.heap.get? b = some o → h'.get? b = some o) (q : ∀ x, Rep H m x → Q x H) : EP X pins σ Q v { s with heap := h', toks := tk } := by
  obtain ⟨x, hx, rx⟩ := vals_back rv hv
  obtain ⟨d, _, hd⟩ := hr.back hx
  obtain ⟨as, r1⟩ := Dp.reads I (toP d) x v hd.dp rx
  have r2 := PySem.W.reads_keeps hk r1
  have e : toP d = toP m := (SeqAt.readOf_eq (lay_toP d) r2).symm.trans (SeqAt.readOf_eq (lay_toP m) rd)
  rw [toP_inj d m e] at hd
  exact ⟨x, H, I.kept hk, rx, q x hd⟩
theorem cr_minL (hc : X.calm = true) (hu : X.A.units + 64 < cLine) : CallR X (.builtin "min") (rPickL t dMin) := by
  intro pins s σ H vs us Q I r h
  obtain ⟨a, xs, d, ds, rfl, hs, hr, ht, q⟩ := h
  obtain ⟨its, rv, hl, _⟩ := I.list (SqL.of hs)
  rw [Vals.ref1 r]
  obtain ⟨as, h4⟩ := Dp.readsAll I (toPs (d :: ds)) xs its hr.dp rv
  have hd := depths_ty ht
  refine PySem.W.min_list_data (I.ok.hd hc) hl.isList (x := toP d) (xs := toPs ds) (as := as) (by simpa [toPs] using h4) (by simpa [toPs] using alikes_ty ht) (by simp only [toPs] at hd; omega) fun i v h' tk bs hv hr' hk => ?_
  rw [dMin_eq ht] at hr'
  exact picked I rv hr (by simpa using hv) hr' hk q
theorem cr_minT (hc : X.calm = true) (hu : X.A.units + 64 < cLine) : CallR X (.builtin "min") (rPickT t dMin) := by
  intro pins s σ H vs us Q I r h
  obtain ⟨a, xs, d, ds, rfl, hs, hr, ht, q⟩ := h
  obtain ⟨its, rv, hl, _⟩ := I.tuple (SqT.of hs)
  rw [Vals.ref1 r]
  obtain ⟨as, h4⟩ := Dp.readsAll I (toPs (d :: ds)) xs its hr.dp rv
  have hd := depths_ty ht
  refine PySem.W.min_tuple_data (I.ok.hd hc) (show s.heap.IsTuple a its.toArray from hl) (x := toP d) (xs := toPs ds) (as := as) (by simpa [toPs] using h4) (by simpa [toPs] using alikes_ty ht) (by simp only [toPs] at hd; omega) fun i v h' tk bs hv hr' hk => ?_
  rw [dMin_eq ht] at hr'
  exact picked I rv hr (by simpa using hv) hr' hk q
theorem cr_maxT (hc : X.calm = true) (hu : X.A.units + 64 < cLine) : CallR X (.builtin "max") (rPickT t dMax) := by
  intro pins s σ H vs us Q I r h
  obtain ⟨a, xs, d, ds, rfl, hs, hr, ht, q⟩ := h
  obtain ⟨its, rv, hl, _⟩ := I.tuple (SqT.of hs)
  rw [Vals.ref1 r]
  obtain ⟨as, h4⟩ := Dp.readsAll I (toPs (d :: ds)) xs its hr.dp rv
  have hd := depths_ty ht
  refine PySem.W.max_tuple_data (I.ok.hd hc) (show s.heap.IsTuple a its.toArray from hl) (x := toP d) (xs := toPs ds) (as := as) (by simpa [toPs] using h4) (by simpa [toPs] using alikes_ty ht) (by simp only [toPs] at hd; omega) fun i v h' tk bs hv hr' hk => ?_
  rw [dMax_eq ht] at hr'
  exact picked I rv hr (by simpa using hv) hr' hk q
end
def kPickL (t : Ty) (m : Dt → List Dt → Dt) : List Ar → Option Dt
  | [.ct (.lst (d :: ds))] => if (d :: ds).all (hasTy 8 t) then some (m d ds) else none
  | _ => none
def kPickT (t : Ty) (m : Dt → List Dt → Dt) : List Ar → Option Dt
  | [.im (.tup (d :: ds))] => if (d :: ds).all (hasTy 8 t) then some (m d ds) else none
  | _ => none
theorem rb_pickL {t : Ty} {m : Dt → List Dt → Dt} : RBI (rPickL t m) (kPickL t m) := fun H xs vs d ra h Q q => by
  unfold kPickL at h
  split at h
  · split at h
    · rename_i ht
      cases h
      obtain ⟨p, ys, rfl, h1, h2⟩ := repA_lst ra
      exact ⟨p, ys, _, _, rfl, h1, h2, ht, fun x hx => q H x (Same.refl H) hx⟩
    · cases h
  · cases h
theorem rb_pickT {t : Ty} {m : Dt → List Dt → Dt} : RBI (rPickT t m) (kPickT t m) := fun H xs vs d ra h Q q => by
  unfold kPickT at h
  split at h
  · split at h
    · rename_i ht
      cases h
      obtain ⟨p, ys, rfl, h1, h2⟩ := repA_tup ra
      exact ⟨p, ys, _, _, rfl, h1, h2, ht, fun x hx => q H x (Same.refl H) hx⟩
    · cases h
  · cases h

/-! ### sorted -/
def ins (x : Dt) : List Dt → List Dt
  | [] => [x]
  | y :: ys => match dcmp 8 y x with
    | .lt => y :: ins x ys
    | _ => x :: y :: ys
def isort : List Dt → List Dt
  | [] => []
  | x :: xs => ins x (isort xs)
def sortOk : Ty → Bool
  | .int => true
  | .tup (_ :: _) => true
  | _ => false
theorem ins_perm (x : Dt) : ∀ l : List Dt, (ins x l).Perm (x :: l)
  | [] => List.Perm.refl _
  | y :: ys => by
    unfold ins
    split
    · exact ((ins_perm x ys).cons y).trans (List.Perm.swap x y ys)
    · exact List.Perm.refl _
theorem isort_perm : ∀ l : List Dt, (isort l).Perm l
  | [] => List.Perm.refl _
  | x :: xs => (ins_perm x (isort xs)).trans ((isort_perm xs).cons x)
/-- the library's order -/
abbrev dle (a b : Dt) : Bool := PySem.W.dataLe false toP a b
theorem dle_ty {t : Ty} {a b : Dt} (ha : hasTy 8 t a = true) (hb : hasTy 8 t b = true) : dle a b = !(dcmp 8 b a == .lt) := by
  rw [← lt_ty hb ha]
  rfl
theorem dle_total : PySem.W.TotalLe dle := PySem.W.sortLe_total _ _ _
theorem ins_sorted {t : Ty} {x : Dt} (hx : hasTy 8 t x = true) : ∀ {l : List Dt}, l.all (hasTy 8 t) = true → l.Pairwise (fun a b => dle a b = true) → (ins x l).Pairwise (fun a b => dle a b = true)
  | [], _, _ => List.pairwise_singleton _ _
  | y :: ys, ht, hp => by
    rw [List.all_cons, Bool.and_eq_true] at ht
    obtain ⟨h1, h2⟩ := List.pairwise_cons.mp hp
    unfold ins
    split
    · rename_i e
      refine List.pairwise_cons.mpr ⟨fun z hz => ?_, ins_sorted hx ht.2 h2⟩
      rcases List.mem_cons.mp ((ins_perm x ys).mem_iff.mp hz) with rfl | hz
      · rcases dle_total.total y z with q | q
        · exact q
        · rw [dle_ty hx ht.1, e] at q
          cases q
      · exact h1 z hz
    · rename_i e
      have q : dle x y = true := by
        rw [dle_ty hx ht.1]
        cases h : dcmp 8 y x with
        | lt => exact absurd h e
        | eq => rfl
        | gt => rfl
      refine List.pairwise_cons.mpr ⟨fun z hz => ?_, hp⟩
      rcases List.mem_cons.mp hz with rfl | hz
      · exact q
      · exact dle_total.trans _ _ _ q (h1 z hz)
theorem isort_ty {t : Ty} : ∀ {l : List Dt}, l.all (hasTy 8 t) = true → (isort l).all (hasTy 8 t) = true := fun {l} h =>
  List.all_eq_true.mpr fun x hx => List.all_eq_true.mp h x ((isort_perm l).mem_iff.mp hx)
theorem isort_sorted {t : Ty} : ∀ {l : List Dt}, l.all (hasTy 8 t) = true → (isort l).Pairwise (fun a b => dle a b = true)
  | [], _ => List.Pairwise.nil
  | x :: xs, h => by
    rw [List.all_cons, Bool.and_eq_true] at h
    exact ins_sorted h.1 (isort_ty h.2) (isort_sorted h.2)
theorem isort_eq {t : Ty} {l : List Dt} (h : l.all (hasTy 8 t) = true) : l.mergeSort dle = isort l := by
  refine List.Perm.eq_of_pairwise (le := fun a b => dle a b = true) (fun a b ha hb h1 h2 => ?_) (PySem.W.sort_pairwise dle_total l) (isort_sorted h) ((List.mergeSort_perm l dle).trans (isort_perm l).symm)
  have ta := List.all_eq_true.mp h a ((List.mergeSort_perm l dle).mem_iff.mp ha)
  have tb := List.all_eq_true.mp h b ((isort_perm l).mem_iff.mp hb)
  rw [dle_ty ta tb] at h1
  rw [dle_ty tb ta] at h2
  have s1 := says_ty 8 t a b ta tb [] []
  have s2 := says_ty 8 t b a tb ta [] []
  refine eq_ty 8 t a b ta tb ?_
  cases e : dcmp 8 a b with
  | eq => rfl
  | lt => rw [e] at h2; cases h2
  | gt =>
    -- then b < a
    have k1 := lt_ty ta tb
    have k2 := lt_ty tb ta
    rw [e] at k1
    cases e2 : dcmp 8 b a with
    | lt => rw [e2] at h1; cases h1
    | eq =>
      have := eq_ty 8 t b a tb ta e2
      subst this
      rw [e2] at e
      cases e
    | gt =>
      rw [e] at s1
      rw [e2] at s2
      rw [List.append_nil, List.append_nil] at s1 s2
      have u1 := says_ty 8 t a b ta tb [Sum.inl 0] [Sum.inl 1]
      rw [e] at u1
      have u2 := says_ty 8 t b a tb ta [Sum.inl 0] [Sum.inl 1]
      rw [e2] at u2
      exfalso
      -- neither is less: the two are the same words
      have tri : ∀ l m : List (Int ⊕ List Nat), PyProof.Rows.lexLt itemOrd l m = false → PyProof.Rows.lexLt itemOrd m l = false → l = m := fun l m p q => (PyProof.Rows.listOrd itemOrd).total l m p q
      have w1 := tri _ _ s1 s2
      have w2 := s1
      have v1 := says_ty 8 t a b ta tb [] [Sum.inl 0]
      rw [e, w1] at v1
      have v1' : PyProof.Rows.lexLt itemOrd (PySem.W.keyToks (toP b) ++ []) (PySem.W.keyToks (toP b) ++ [Sum.inl 0]) = false := v1
      rw [PySem.W.lex_pre] at v1'
      cases v1'
end Wr

set_option maxHeartbeats 1000000
/-! Dict comprehensions whose keys may be tuples, of one clause and of two. -/
namespace Wr
open PySem PySem.Spec PyProof.Rows L2

/-! ### the machine's side -/
theorem dturn_out (kx vx t0 i0 t1 i1 : Expr) (c0 c1 : List Expr) (sc : Scope) (pos : Pos) (it : Value) (D : Addr) (env : Env) :
    compTurn (.DictComp kx vx [⟨t0, i0, c0, 0⟩, ⟨t1, i1, c1, 0⟩] sc pos) 0 it (.ref D) env = (do
      standAt i0.pos
      match ← pyNext it with
      | none => pure (.done .next)
      | some v =>
        letOwnedTupleGo t0 it v
        assign t0 env v
        let mut ok := true
        for c in c0 do
          if ok then ok ← isTrue c env (eval c env)
        if ok then
          let x ← eval i1 env
          standAt i1.pos
          let x ← foldedSetIterable i1 env x
          let _ ← runOwn (.compStart (.DictComp kx vx [⟨t0, i0, c0, 0⟩, ⟨t1, i1, c1, 0⟩] sc pos) 1 (← holding [x] (pyIter x)) (.ref D) env) env
        again (.compLoop (.DictComp kx vx [⟨t0, i0, c0, 0⟩, ⟨t1, i1, c1, 0⟩] sc pos) 0 it (.ref D) env)) := by rfl
theorem dturn_in (kx vx t0 i0 t1 i1 : Expr) (c0 c1 : List Expr) (sc : Scope) (pos : Pos) (it : Value) (D : Addr) (env : Env) :
    compTurn (.DictComp kx vx [⟨t0, i0, c0, 0⟩, ⟨t1, i1, c1, 0⟩] sc pos) 1 it (.ref D) env = (do
      standAt i1.pos
      match ← pyNext it with
      | none => pure (.done .next)
      | some v =>
        letOwnedTupleGo t1 it v
        assign t1 env v
        let mut ok := true
        for c in c1 do
          if ok then ok ← isTrue c env (eval c env)
        if ok then
          (do
            let kv ← eval kx env
            let vv ← holding [kv] (eval vx env)
            standAt { kx.pos with endLine := vx.pos.endLine, endCol := vx.pos.endCol }
            holding [kv, vv] (dictSet D kv vv))
        again (.compLoop (.DictComp kx vx [⟨t0, i0, c0, 0⟩, ⟨t1, i1, c1, 0⟩] sc pos) 1 it (.ref D) env)) := by rfl
section
variable {prog : Program} {w : World} {A : Around} {Z : Result → Shared → Prop} {s : Shared} {kx vx t0 i0 t1 i1 : Expr} {c0 c1 : List Expr} {sc : Scope} {pos : Pos} {it : Value} {D : Addr} {env : Env}
/-- an error of a turn -/
abbrev Ntd (prog : Program) (w : World) (A : Around) (env : Env) (Z : Result → Shared → Prop) : Value → Shared → Prop := notedBy (model prog w) A env fun e s' => Z (.error e) s'
/-- a clause's tests, as the machine runs them -/
abbrev tst (c : List Expr) (env : Env) : Sem Bool := forIn c true fun c r => if r = true then do let ok ← isTrue c env (eval c env); pure (ForInStep.yield ok) else pure (ForInStep.yield r)
theorem dloop_out (hs : ∀ x, foldedSetIterable i1 env x = pure x) (G : Nat → Shared → Prop)
    (turn : ∀ n s, G n s → wpAny (model prog w) A (pyNext it) (fun r s1 => match r with
      | none => Z (.ok .next) s1
      | some v => wpAny (model prog w) A (letOwnedTupleGo t0 it v) (fun _ s2 => wpAny (model prog w) A (assign t0 env v) (fun _ s3 => wpAny (model prog w) A (tst c0 env) (fun ok s4 =>
          if ok = true then wpAny (model prog w) A (eval i1 env) (fun x s5 => wpAny (model prog w) A (pyIter x) (fun it1 s6 =>
            codeAny (model prog w) A (.compStart (.DictComp kx vx [⟨t0, i0, c0, 0⟩, ⟨t1, i1, c1, 0⟩] sc pos) 1 it1 (.ref D) env) (fun r s' => match r with
              | .ok _ => ∃ m, m < n ∧ G m s'
              | .error _ => False) s6) (Ntd prog w A env Z) s5) (Ntd prog w A env Z) s4
          else ∃ m, m < n ∧ G m s4) (Ntd prog w A env Z) s3) (Ntd prog w A env Z) s2) (Ntd prog w A env Z) s1) (Ntd prog w A env Z) s)
    (n : Nat) (h : G n s) : codeAny (model prog w) A (.compLoop (.DictComp kx vx [⟨t0, i0, c0, 0⟩, ⟨t1, i1, c1, 0⟩] sc pos) 0 it (.ref D) env) Z s := by
  refine codeAny_loop rfl G (fun n s hG => ?_) n h
  show wpAny _ A ((compTurn (.DictComp kx vx [⟨t0, i0, c0, 0⟩, ⟨t1, i1, c1, 0⟩] sc pos) 0 it (.ref D) env).onRaise (fun x => do noteFrame x env; theTreesLotGoes x)) _ _ s
  refine wpAny_noted ?_
  rw [dturn_out]
  refine wpAny_bind (wpAny_standAt (wpAny_bind (wpAny_mono (turn n s hG) (fun r s1 q1 => ?_) fun _ _ z => z)))
  cases r with
  | none => exact wpAny_pure q1
  | some v =>
    refine wpAny_bind (wpAny_mono q1 (fun _ s2 q2 => wpAny_bind (wpAny_mono q2 (fun _ s3 q3 => wpAny_bind (wpAny_mono q3 (fun ok s4 q4 => ?_) fun _ _ z => z)) fun _ _ z => z)) fun _ _ z => z)
    cases ok with
    | false => exact wpAny_pure ⟨rfl, q4⟩
    | true =>
      refine wpAny_bind (wpAny_mono q4 (fun x s5 q5 => wpAny_bind (wpAny_standAt (wpAny_bind (wpAny_of_eq (hs x) (wpAny_bind (wpAny_holding (wpAny_mono q5 (fun it1 s6 q6 => ?_) fun _ _ z => z)))))) ) fun _ _ z => z)
      refine wpAny_bind (wpAny_runOwn ?_)
      rw [Around.mark_none]
      refine codeAny_mono q6 fun r s' hr => ?_
      cases r with
      | ok f => first | exact wpAny_pure ⟨rfl, hr⟩ | exact wpAny_bind (wpAny_pure (wpAny_pure ⟨rfl, hr⟩))
      | error e => exact hr.elim
theorem dloop_in (G : Nat → Shared → Prop)
    (turn : ∀ n s, G n s → wpAny (model prog w) A (pyNext it) (fun r s1 => match r with
      | none => Z (.ok .next) s1
      | some v => wpAny (model prog w) A (letOwnedTupleGo t1 it v) (fun _ s2 => wpAny (model prog w) A (assign t1 env v) (fun _ s3 => wpAny (model prog w) A (tst c1 env) (fun ok s4 =>
          if ok = true then wpAny (model prog w) A (eval kx env) (fun kv s5 => wpAny (model prog w) A (eval vx env) (fun vv s6 =>
            wpAny (model prog w) A (dictSet D kv vv) (fun _ s7 => ∃ m, m < n ∧ G m s7) (Ntd prog w A env Z) s6) (Ntd prog w A env Z) s5) (Ntd prog w A env Z) s4
          else ∃ m, m < n ∧ G m s4) (Ntd prog w A env Z) s3) (Ntd prog w A env Z) s2) (Ntd prog w A env Z) s1) (Ntd prog w A env Z) s)
    (n : Nat) (h : G n s) : codeAny (model prog w) A (.compLoop (.DictComp kx vx [⟨t0, i0, c0, 0⟩, ⟨t1, i1, c1, 0⟩] sc pos) 1 it (.ref D) env) Z s := by
  refine codeAny_loop rfl G (fun n s hG => ?_) n h
  show wpAny _ A ((compTurn (.DictComp kx vx [⟨t0, i0, c0, 0⟩, ⟨t1, i1, c1, 0⟩] sc pos) 1 it (.ref D) env).onRaise (fun x => do noteFrame x env; theTreesLotGoes x)) _ _ s
  refine wpAny_noted ?_
  rw [dturn_in]
  refine wpAny_bind (wpAny_standAt (wpAny_bind (wpAny_mono (turn n s hG) (fun r s1 q1 => ?_) fun _ _ z => z)))
  cases r with
  | none => exact wpAny_pure q1
  | some v =>
    refine wpAny_bind (wpAny_mono q1 (fun _ s2 q2 => wpAny_bind (wpAny_mono q2 (fun _ s3 q3 => wpAny_bind (wpAny_mono q3 (fun ok s4 q4 => ?_) fun _ _ z => z)) fun _ _ z => z)) fun _ _ z => z)
    cases ok with
    | false => exact wpAny_pure ⟨rfl, q4⟩
    | true =>
      exact wpAny_bind (wpAny_bind (wpAny_mono q4 (fun kv s5 q5 => wpAny_bind (wpAny_holding (wpAny_mono q5 (fun vv s6 q6 => wpAny_bind (wpAny_standAt (wpAny_holding (wpAny_mono q6 (fun _ s7 q7 => wpAny_pure ⟨rfl, q7⟩) fun _ _ z => z)))) fun _ _ z => z))) fun _ _ z => z))
theorem dstart_in (h0 : codeAny (model prog w) A (.compLoop (.DictComp kx vx [⟨t0, i0, c0, 0⟩, ⟨t1, i1, c1, 0⟩] sc pos) 1 it (.ref D) env) Z s)
    (h1 : wpAny (model prog w) A (pyIter it) (fun it' s' => codeAny (model prog w) A (.compLoop (.DictComp kx vx [⟨t0, i0, c0, 0⟩, ⟨t1, i1, c1, 0⟩] sc pos) 1 it' (.ref D) env) Z s') (Ntd prog w A env Z) s) :
    codeAny (model prog w) A (.compStart (.DictComp kx vx [⟨t0, i0, c0, 0⟩, ⟨t1, i1, c1, 0⟩] sc pos) 1 it (.ref D) env) Z s := by
  refine codeAny_of_tree ?_
  show wpAny _ _ ((compStart (.DictComp kx vx [⟨t0, i0, c0, 0⟩, ⟨t1, i1, c1, 0⟩] sc pos) 1 it (.ref D) env).onRaise (fun x => do noteFrame x env; standAt theWindowsPlace)) _ _ s
  refine wpAny_notedAt ?_
  unfold compStart
  show wpAny _ _ (ask >>= _) _ _ s
  refine wpAny_bind (wpAny_askSetting (wpAny_ite ?_))
  split
  · first | exact wpAny_bind (wpAny_pure (wpAny_pure (And.intro rfl h0))) | exact wpAny_pure (And.intro rfl h0)
  · first
      | exact wpAny_bind (wpAny_rule (wpAny_bind (wpAny_standAt (wpAny_bind (wpAny_mono h1 (fun it' s' z => wpAny_pure (And.intro rfl z)) fun _ _ x => x)))))
      | (refine wpAny_bind (wpAny_rule ?_); show wpAny _ _ (standAt i1.pos >>= _) _ _ s; exact wpAny_bind (wpAny_standAt (wpAny_bind (wpAny_mono h1 (fun it' s' z => wpAny_pure (And.intro rfl z)) fun _ _ x => x))))
end

/-! ### the layer's side -/
/-- d[y] = v, as a comprehension does it -/
theorem comp_put {X : Cx} {pins : List (Addr × Obj)} {σ : L2.St} {H H' : Hp} {s : Shared} {E : Value → Shared → Prop} {D : Addr} {y v : V} {u r : Value} {Q : Unit → Shared → Prop} (hu : X.A.units + 1 < cLine) (I : Inv X pins σ H s) (g : DPut H D y v H')
    (ry : RelV y u) (rv : RelV v r) (q : ∀ s', Inv X pins σ H' s' → Q () s') : wpAny (model X.prog X.w) X.A (dictSet D u r) Q E s := by
  rcases g with ⟨kvs, k, e, ey, l, eH⟩ | ⟨kvs, k, b, e, ey, eb, l, eH⟩
  · subst ey eH
    exact d_dictSet I e l ry rv q
  · subst ey eH
    cases (show u = Value.ref b from ry)
    obtain ⟨z, hd, xs, rel, dd⟩ := dt_of I.hok e
    have hz : xs.length ≤ sizeLine := by
      rw [← Paired.length rel]
      exact z
    have hl : (putK kvs k v).length ≤ sizeLine := by
      have := length_putK kvs k v
      omega
    refine wpAny_dictSet_heap (hsz := hz) (show X.A.units < cLine by omega) (key_of I.hok eb) dd fun h' dd' hs => q _ ?_
    obtain ⟨ob, es, ep, hob, g2, g3, g4, _, g5⟩ := dd'
    refine d_write I (by rw [e]; exact True.intro) hs ⟨ob, hob⟩ ⟨hl, hd, _, (rel.put k eb rv).keeps fun c ys ec => ?_, ob, es, ep, hob, g2, g3, g4, g5⟩
    rw [upd_ne (ne_of ec e (fun z => nomatch z))]
    exact ec
section
variable {X : Cx}
/-- what a block's runs share: from the walk's start to the loop -/
theorem dict_block {pins : List (Addr × Obj)} {s : Shared} {σ : L2.St} {H : Hp} {Q : VK} {kx vx tg iter : Expr} {ifs : List Expr} {rest : List Comprehension} {scope : Scope} {own : List (Str × Nat)} {pos pos' : Pos} {wi : TI} {use : Option (Value → Sem Unit)} {Qf : Value → Shared → Prop} {o0 : HO} {G : It → Hp → Prop}
    (new : ∀ (h : Heap) (H' : Hp), sysModules < h.objs.size → ObjOk X.prog X.w H' (h.push { cls := .type "dict", data := .dict #[] }) h.objs.size o0)
    (hN : X.N.Nodup) (I : Inv X pins σ H s) (hi : PI X tg iter wi) (ok : BlkOk X.N X.env.scope scope own) (hs : ∀ x, foldedSetIterable iter X.env x = pure x) (h : wi σ H G)
    (fin : ∀ D C s' m H', Inv X pins σ H' s' → Q (.ref D) H' → s'.heap.Ns C m → FpOk X pins H' C → compPost (model X.prog X.w) X.A X.xe use Qf (.ref D) C (.ok .next) s')
    (loop : ∀ (it D C : Addr) (cl : List (Str × Addr)) (fp : List Addr) (tn : Nat → Heap → Prop) (J : It) (H2 : Hp) (s3 s4 : Shared), G J H2 → H2 D = none → Turn X.prog X.w X.K tg J fp it tn →
      Inv (X.blk s3 (upd H2 D o0) scope (compEnvC scope cl C X.env) fp) [] (wipe σ (own.map (·.2))) (upd H2 D o0) s4 → tn 0 s4.heap → (∀ b ∈ fp, upd H2 D o0 b = none) →
      (∀ (σ' : L2.St) (H5 : Hp) (s6 : Shared), Inv (X.blk s3 (upd H2 D o0) scope (compEnvC scope cl C X.env) fp) [] σ' H5 s6 → Q (.ref D) H5 → compPost (model X.prog X.w) X.A X.xe use Qf (.ref D) C (.ok .next) s6) →
      codeAny (model X.prog X.w) X.A (.compLoop (.DictComp kx vx (⟨tg, iter, ifs, 0⟩ :: rest) scope pos) 0 (.ref it) (.ref D) (compEnvC scope cl C X.env)) (compPost (model X.prog X.w) X.A X.xe use Qf (.ref D) C) s4) :
    wpAny (model X.prog X.w) X.A (comprehension (.DictComp kx vx (⟨tg, iter, ifs, 0⟩ :: rest) scope pos) scope X.env pos' newDict false (eval iter X.env) use) Qf X.xe s := by
  have caught : ∀ y ∈ scope.names, y.2 = .free → ∃ c, X.env.cells.lookup y.1 = some c := fun y hy e => by
    rcases ok.free y hy e with k | k
    · exact I.ok.has _ (.inl k)
    · exact I.ok.has _ (.inr k)
  refine wpAny_comprehension_free (use := use) rfl hs (closure_ok caught) ok.kind (fun y hy e => by rw [ok.uniq y hy, e]) (thn (hi.run pins s σ H _ I h) fun _ s1 q1 => thn q1 fun _ s2 q2 => ?_)
  obtain ⟨it, fp, tn, J, H2, e, I2, T, st2, f2, g⟩ := q2
  subst e
  refine wpAny_newObj_type (newEnv_comp ?_)
  generalize hD : s2.heap.objs.size = D
  have freeD : H2 D = none := I2.hok.fresh (Nat.le_of_eq hD)
  generalize es3 : ({ s2 with heap := s2.heap.push { cls := .type "dict", data := .dict #[] } } : Shared) = s3
  have hp3 : s3.heap = s2.heap.push { cls := .type "dict", data := .dict #[] } := by rw [← es3]
  have I3 : Inv X pins σ (upd H2 D o0) s3 := by
    rw [← es3]
    refine I2.laid (t' := s2.toks) (fun b o e => Heap.get?_push_of_some _ e) (Nat.le_of_eq hD) ?_
    rw [← hD]
    exact new s2.heap _ I2.big
  have small : ∀ b ∈ fp, b < s2.heap.objs.size := fun b hb => by
    obtain ⟨o, e, _⟩ := T.obj _ _ st2 b hb
    exact Heap.lt_size e
  have f3 : ∀ b ∈ fp, FpOk X pins (upd H2 D o0) b ∧ b < s3.heap.objs.size := fun b hb => by
    have lt := small b hb
    refine ⟨⟨?_, (f2 b hb).2⟩, ?_⟩
    · rw [upd_ne (by rw [← hD]; exact Nat.ne_of_lt lt)]
      exact (f2 b hb).1
    · rw [hp3, Heap.size_push]
      exact Nat.lt_succ_of_lt lt
  have st3 : tn 0 s3.heap := T.keep _ _ _ st2 fun b _ o e => by
    rw [hp3]
    exact Heap.get?_push_of_some _ e
  have I4 := block_start I3 ok hN f3
  refine codeAny_compStart_dict ?_ (T.self X.A 0 _ _ _ ?_ ?_)
  · refine loop it D _ _ fp tn J H2 s3 _ g freeD T I4 (T.keep _ _ _ st3 fun b _ o e => pushCells_keeps _ _ _ _ (Heap.get?_push_of_some _ e)) (fun b hb => (f3 b hb).1.1) fun σ' H5 s6 I6 qq => ?_
    have I7 : Inv X pins σ H5 s6 := I3.call' (ch := fp) I6.os I6.base I6.hok I6.bare fun b hb => ⟨(f3 b hb).1.2.2.2.1, (f3 b hb).1.2.1, (f3 b hb).1.2.2.2.2.1, (f3 b hb).1.2.2.2.2.2⟩
    have nC : H5 s3.heap.objs.size = none := I6.free
    obtain ⟨m, hn, _⟩ := I6.loc
    exact fin D s3.heap.objs.size s6 m H5 I7 qq hn (I3.fpOk (Nat.le_refl _) nC)
  · exact T.keep _ _ _ st3 fun b _ o e => pushCells_keeps _ _ _ _ (Heap.get?_push_of_some _ e)
  · refine loop it D _ _ fp tn J H2 s3 _ g freeD T I4 (T.keep _ _ _ st3 fun b _ o e => pushCells_keeps _ _ _ _ (Heap.get?_push_of_some _ e)) (fun b hb => (f3 b hb).1.1) fun σ' H5 s6 I6 qq => ?_
    have I7 : Inv X pins σ H5 s6 := I3.call' (ch := fp) I6.os I6.base I6.hok I6.bare fun b hb => ⟨(f3 b hb).1.2.2.2.1, (f3 b hb).1.2.1, (f3 b hb).1.2.2.2.2.1, (f3 b hb).1.2.2.2.2.2⟩
    have nC : H5 s3.heap.objs.size = none := I6.free
    obtain ⟨m, hn, _⟩ := I6.loc
    exact fin D s3.heap.objs.size s6 m H5 I7 qq hn (I3.fpOk (Nat.le_refl _) nC)
/-- a turn: the target, the tests, the key, the value; D the new dict, Nx what is to be reached -/
abbrev tTurn (g : TG) (tt : TT) (tk tv : TE) (vs : List Nat) (D : Addr) (Nx : Hp → Prop) : V → L2.St → Hp → Prop := fun x σ H => g x (wipe σ vs) H fun σ2 H2 => wipe σ2 vs = wipe σ vs ∧ tt σ2 H2 fun b H3 =>
  if b = true then tk σ2 H3 fun y H4 => tv σ2 H4 fun z H5 => ∃ H6, DPut H5 D y z H6 ∧ Nx H6 else Nx H3
def tDcP (o0 : HO) (wi : TI) (g : TG) (tt : TT) (tk tv : TE) (vs : List Nat) : TE := fun σ H Q => wi σ H fun J H1 => ∀ D, H1 D = none → ∃ W : Nat → Nat → Hp → Prop, (∃ m, W 0 m (upd H1 D o0)) ∧ ∀ i m H, W i m H →
  (J.stop i H ∧ Q (.ref D) H) ∨ (J.go i H ∧ ∃ Nx : Hp → Prop, (∀ H', Nx H' → ∃ m', m' < m ∧ W (i + 1) m' H') ∧ ∀ x H', J.yld i H x H' → tTurn g tt tk tv vs D Nx x σ H')
theorem pe_dcP {kx vx tg iter : Expr} {ifs : List Expr} {scope : Scope} {own : List (Str × Nat)} {pos : Pos} {wi : TI} {g : TG} {tt : TT} {tk tv : TE} {o0 : HO} (new : ∀ (h : Heap) (H' : Hp), sysModules < h.objs.size → ObjOk X.prog X.w H' (h.push { cls := .type "dict", data := .dict #[] }) h.objs.size o0)
    (hu : X.A.units + 1 < cLine) (hc : X.calm = true) (hN : X.N.Nodup) (hi : PI X tg iter wi) (ok : BlkOk X.N X.env.scope scope own)
    (hg : ∀ (s : Shared) (H : Hp) (C : Addr) (cl : List (Str × Addr)) (fp : List Addr), PG (X.blk s H scope (compEnvC scope cl C X.env) fp) tg g) (ht : ∀ (s : Shared) (H : Hp) (C : Addr) (cl : List (Str × Addr)) (fp : List Addr), PTs (X.blk s H scope (compEnvC scope cl C X.env) fp) ifs tt)
    (hk : ∀ (s : Shared) (H : Hp) (C : Addr) (cl : List (Str × Addr)) (fp : List Addr), PE (X.blk s H scope (compEnvC scope cl C X.env) fp) kx tk) (he : ∀ (s : Shared) (H : Hp) (C : Addr) (cl : List (Str × Addr)) (fp : List Addr), PE (X.blk s H scope (compEnvC scope cl C X.env) fp) vx tv)
    (hs : ∀ x, foldedSetIterable iter X.env x = pure x := by intro _; rfl) : PE X (.DictComp kx vx [⟨tg, iter, ifs, 0⟩] scope pos) (tDcP o0 wi g tt tk tv (own.map (·.2))) := by
  refine ⟨fun pins s σ H Q I h => ?_⟩
  rw [arm_eval_DictComp]
  refine dict_block (Q := Q) new hN I hi ok hs h (fun D C s' m H' I' q hn f => ⟨m, hn, fun h2 sb => ?_⟩) fun it D C cl fp tn J H2 s3 s4 hG freeD T I4 st4 nfp back => ?_
  · obtain ⟨f0, f1, _, f3, f4, f5⟩ := f
    exact ⟨.ref D, H', I'.turned (t' := s'.toks) (fun b o hb e => (sb.2 b hb).trans e) f0 f1 f3 f4 f5, rfl, q⟩
  obtain ⟨W, ⟨m0, w0⟩, turn⟩ := hG D freeD
  generalize hce : compEnvC scope cl C X.env = ce at I4 back ⊢
  have pg := hg s3 (upd H2 D o0) C cl fp
  have pt := ht s3 (upd H2 D o0) C cl fp
  have pk := hk s3 (upd H2 D o0) C cl fp
  have pe := he s3 (upd H2 D o0) C cl fp
  rw [hce] at pg pt pk pe
  have stat : ∀ {σ' : L2.St} {H' : Hp} {s' : Shared}, Inv (X.blk s3 (upd H2 D o0) scope ce fp) [] σ' H' s' → (∀ b ∈ fp, H' b = none) → ∀ b ∈ fp, FpOk (X.blk s3 (upd H2 D o0) scope ce fp) [] H' b := fun {σ' H' s'} I' hn b hb =>
    ⟨hn b hb, (I'.ok.exf b (hb)).1, I'.ok.exfs b (hb), .inl (hb), fun x c e => (I'.ok.exf b (hb)).2 x c e, fun p hp => absurd (show p ∈ ([] : List (Addr × Obj)) ++ [] from hp) (by simp)⟩
  refine compLoop_anyD (fun n s' => ∃ i H', Inv (X.blk s3 (upd H2 D o0) scope ce fp) [] (wipe σ (own.map (·.2))) H' s' ∧ tn i s'.heap ∧ (∀ b ∈ fp, H' b = none) ∧ W i n H') ?_ m0 ⟨0, _, I4, st4, nfp, w0⟩
  rintro n s5 ⟨i, H5, I5, st5, n5, w5⟩
  rcases turn i n H5 w5 with ⟨stop, qq⟩ | ⟨go, Nx, hNx, step⟩
  · refine thnF (T.done (X.blk s3 (upd H2 D o0) scope ce fp) rfl rfl rfl hc i [] s5 _ H5 (fun _ _ => False) I5 (stat I5 n5) st5 stop) fun r s6 ⟨hr, I6⟩ => ?_
    subst hr
    exact back _ H5 s6 I6 qq
  · refine thnF (T.item (X.blk s3 (upd H2 D o0) scope ce fp) rfl rfl rfl hc i [] s5 _ H5 (fun _ _ => False) I5 (stat I5 n5) st5 go) fun r s6 ⟨u, hr, h6⟩ => ?_
    subst hr
    refine thnF h6 fun _ s7 ⟨x, H7, I7, r7, y7, st7, n7⟩ => ?_
    have I7' := I7.pinned (stat I7 n7) (T.obj _ _ st7)
    refine thnF (pg.run _ s7 _ H7 x u _ I7' r7 (step x H7 y7)) fun _ s8 ⟨σ8, H8, I8, hw8, q8⟩ => ?_
    refine thnF (pt.run _ s8 σ8 H8 _ I8 q8) fun b s9 ⟨H9, I9, q9⟩ => ?_
    have over : ∀ {s' : Shared} {H' : Hp}, Inv (X.blk s3 (upd H2 D o0) scope ce fp) ([] ++ pinsAt fp s7.heap) σ8 H' s' → Nx H' → ∃ m, m < n ∧ ∃ i H', Inv (X.blk s3 (upd H2 D o0) scope ce fp) [] (wipe σ (own.map (·.2))) H' s' ∧ tn i s'.heap ∧ (∀ b ∈ fp, H' b = none) ∧ W i m H' := fun {s' H'} I' nx => by
      obtain ⟨m', hm, w'⟩ := hNx H' nx
      have pin : ∀ b ∈ fp, ∀ o, s7.heap.get? b = some o → s'.heap.get? b = some o ∧ H' b = none := fun b hb o e =>
        let z := I'.pin (b, o) (List.mem_append_right _ (List.mem_append_right _ (mem_pinsAt hb e)))
        ⟨z.1, z.2.1⟩
      refine ⟨m', hm, i + 1, H', (I'.unpinned (pins := [])).weak (by rw [← hw8, wipe_length]) (fun j v e => ?_), T.keep _ _ _ st7 fun b hb o e => (pin b hb o e).1, fun b hb => ?_, w'⟩
      · rw [← hw8] at e
        exact (wipe_some e).1
      · obtain ⟨o, e, _⟩ := T.obj _ _ st7 b hb
        exact (pin b hb o e).2
    cases b with
    | false =>
      simp only [Bool.false_eq_true, if_false] at q9 ⊢
      exact over I9 q9
    | true =>
      simp only [if_true] at q9 ⊢
      refine thnF (pk.run _ s9 σ8 H9 _ I9 q9) fun z s10 ⟨yk, H10, I10, r10, q10⟩ => ?_
      refine thnF (pe.run _ s10 σ8 H10 _ I10 q10) fun z2 s11 ⟨yv, H11, I11, r11, H12, g12, nx⟩ => ?_
      have cp := comp_put (X := (X.blk s3 (upd H2 D o0) scope ce fp)) (E := (fun _ _ => False)) (Q := fun _ s' => Inv (X.blk s3 (upd H2 D o0) scope ce fp) ([] ++ pinsAt fp s7.heap) σ8 H12 s') (hu) I11 g12 r10 r11 fun s12 I12 => I12
      exact thnF cp fun _ s12 I12 => over I12 nx
/-- two clauses -/
def tDcP2 (o0 : HO) (wi : TI) (g : TG) (tt : TT) (wi1 : TI) (g1 : TG) (tt1 : TT) (tk tv : TE) (vs vs1 : List Nat) : TE := fun σ H Q => wi σ H fun J H1 => ∀ D, H1 D = none → ∃ W : Nat → Nat → Hp → Prop, (∃ m, W 0 m (upd H1 D o0)) ∧ ∀ i m H, W i m H →
  (J.stop i H ∧ Q (.ref D) H) ∨ (J.go i H ∧ ∃ Nx : Hp → Prop, (∀ H', Nx H' → ∃ m', m' < m ∧ W (i + 1) m' H') ∧ ∀ x H', J.yld i H x H' → g x (wipe σ vs) H' fun σ2 H2 => wipe σ2 vs = wipe σ vs ∧ tt σ2 H2 fun b H3 =>
    if b = true then wi1 σ2 H3 fun J1 H4 => ∃ W1 : Nat → Nat → Hp → Prop, (∃ k, W1 0 k H4) ∧ ∀ j k H, W1 j k H →
      (J1.stop j H ∧ Nx H) ∨ (J1.go j H ∧ ∃ Nx1 : Hp → Prop, (∀ H', Nx1 H' → ∃ k', k' < k ∧ W1 (j + 1) k' H') ∧ ∀ x H', J1.yld j H x H' → tTurn g1 tt1 tk tv vs1 D Nx1 x σ2 H')
    else Nx H3)
theorem pe_dcP2 {kx vx tg iter tg1 iter1 : Expr} {ifs ifs1 : List Expr} {scope : Scope} {own : List (Str × Nat)} {vs1 : List Nat} {pos : Pos} {wi wi1 : TI} {g g1 : TG} {tt tt1 : TT} {tk tv : TE} {o0 : HO} (new : ∀ (h : Heap) (H' : Hp), sysModules < h.objs.size → ObjOk X.prog X.w H' (h.push { cls := .type "dict", data := .dict #[] }) h.objs.size o0)
    (hu : X.A.units + 1 < cLine) (hc : X.calm = true) (hN : X.N.Nodup) (hi : PI X tg iter wi) (ok : BlkOk X.N X.env.scope scope own) (hv : ∀ i ∈ vs1, i ∈ own.map (·.2))
    (hg : ∀ (s : Shared) (H : Hp) (C : Addr) (cl : List (Str × Addr)) (fp : List Addr), PG (X.blk s H scope (compEnvC scope cl C X.env) fp) tg g) (ht : ∀ (s : Shared) (H : Hp) (C : Addr) (cl : List (Str × Addr)) (fp : List Addr), PTs (X.blk s H scope (compEnvC scope cl C X.env) fp) ifs tt)
    (hi1 : ∀ (s : Shared) (H : Hp) (C : Addr) (cl : List (Str × Addr)) (fp : List Addr), PI (X.blk s H scope (compEnvC scope cl C X.env) fp) tg1 iter1 wi1)
    (hg1 : ∀ (s : Shared) (H : Hp) (C : Addr) (cl : List (Str × Addr)) (fp : List Addr), PG (X.blk s H scope (compEnvC scope cl C X.env) fp) tg1 g1) (ht1 : ∀ (s : Shared) (H : Hp) (C : Addr) (cl : List (Str × Addr)) (fp : List Addr), PTs (X.blk s H scope (compEnvC scope cl C X.env) fp) ifs1 tt1)
    (hk : ∀ (s : Shared) (H : Hp) (C : Addr) (cl : List (Str × Addr)) (fp : List Addr), PE (X.blk s H scope (compEnvC scope cl C X.env) fp) kx tk) (he : ∀ (s : Shared) (H : Hp) (C : Addr) (cl : List (Str × Addr)) (fp : List Addr), PE (X.blk s H scope (compEnvC scope cl C X.env) fp) vx tv)
    (hs : ∀ x, foldedSetIterable iter X.env x = pure x := by intro _; rfl) (hs1 : ∀ env x, foldedSetIterable iter1 env x = pure x := by intro _ _; rfl) :
    PE X (.DictComp kx vx [⟨tg, iter, ifs, 0⟩, ⟨tg1, iter1, ifs1, 0⟩] scope pos) (tDcP2 o0 wi g tt wi1 g1 tt1 tk tv (own.map (·.2)) vs1) := by
  refine ⟨fun pins s σ H Q I h => ?_⟩
  rw [arm_eval_DictComp]
  refine dict_block (Q := Q) new hN I hi ok hs h (fun D C s' m H' I' q hn f => ⟨m, hn, fun h2 sb => ?_⟩) fun it D C cl fp tn J H2 s3 s4 hG freeD T I4 st4 nfp back => ?_
  · obtain ⟨f0, f1, _, f3, f4, f5⟩ := f
    exact ⟨.ref D, H', I'.turned (t' := s'.toks) (fun b o hb e => (sb.2 b hb).trans e) f0 f1 f3 f4 f5, rfl, q⟩
  obtain ⟨W, ⟨m0, w0⟩, turn⟩ := hG D freeD
  have pg := hg s3 (upd H2 D o0) C cl fp
  have pt := ht s3 (upd H2 D o0) C cl fp
  have pi1 := hi1 s3 (upd H2 D o0) C cl fp
  have pg1 := hg1 s3 (upd H2 D o0) C cl fp
  have pt1 := ht1 s3 (upd H2 D o0) C cl fp
  have pk := hk s3 (upd H2 D o0) C cl fp
  have pe := he s3 (upd H2 D o0) C cl fp
  generalize hce : compEnvC scope cl C X.env = ce at I4 back pg pt pi1 pg1 pt1 pk pe ⊢
  have stat : ∀ {σ' : L2.St} {H' : Hp} {s' : Shared}, Inv (X.blk s3 (upd H2 D o0) scope ce fp) [] σ' H' s' → (∀ b ∈ fp, H' b = none) → ∀ b ∈ fp, FpOk (X.blk s3 (upd H2 D o0) scope ce fp) [] H' b := fun {σ' H' s'} I' hn b hb =>
    ⟨hn b hb, (I'.ok.exf b hb).1, I'.ok.exfs b hb, .inl hb, fun x c e => (I'.ok.exf b hb).2 x c e, fun p hp => absurd (show p ∈ ([] : List (Addr × Obj)) ++ [] from hp) (by simp)⟩
  refine dloop_out (hs1 ce) (fun n s' => ∃ i H', Inv (X.blk s3 (upd H2 D o0) scope ce fp) [] (wipe σ (own.map (·.2))) H' s' ∧ tn i s'.heap ∧ (∀ b ∈ fp, H' b = none) ∧ W i n H') ?_ m0 ⟨0, _, I4, st4, nfp, w0⟩
  rintro n s5 ⟨i, H5, I5, st5, n5, w5⟩
  rcases turn i n H5 w5 with ⟨stop, qq⟩ | ⟨go, Nx, hNx, step⟩
  · refine thnF (T.done (X.blk s3 (upd H2 D o0) scope ce fp) rfl rfl rfl hc i [] s5 _ H5 (fun _ _ => False) I5 (stat I5 n5) st5 stop) fun r s6 ⟨hr, I6⟩ => ?_
    subst hr
    exact back _ H5 s6 I6 qq
  · refine thnF (T.item (X.blk s3 (upd H2 D o0) scope ce fp) rfl rfl rfl hc i [] s5 _ H5 (fun _ _ => False) I5 (stat I5 n5) st5 go) fun r s6 ⟨u, hr, h6⟩ => ?_
    subst hr
    refine thnF h6 fun _ s7 ⟨x, H7, I7, r7, y7, st7, n7⟩ => ?_
    have I7' := I7.pinned (stat I7 n7) (T.obj _ _ st7)
    refine thnF (pg.run _ s7 _ H7 x u _ I7' r7 (step x H7 y7)) fun _ s8 ⟨σ8, H8, I8, hw8, q8⟩ => ?_
    refine thnF (pt.run _ s8 σ8 H8 _ I8 q8) fun b s9 ⟨H9, I9, q9⟩ => ?_
    have over : ∀ {σ' : L2.St} {s' : Shared} {H' : Hp}, Inv (X.blk s3 (upd H2 D o0) scope ce fp) ([] ++ pinsAt fp s7.heap) σ' H' s' → (wipe σ (own.map (·.2))).length = σ'.length → (∀ (j : Nat) v, (wipe σ (own.map (·.2)))[j]? = some (some v) → σ'[j]? = some (some v)) → Nx H' →
        ∃ m, m < n ∧ ∃ i H', Inv (X.blk s3 (upd H2 D o0) scope ce fp) [] (wipe σ (own.map (·.2))) H' s' ∧ tn i s'.heap ∧ (∀ b ∈ fp, H' b = none) ∧ W i m H' := fun {σ' s' H'} I' hl hkk nx => by
      obtain ⟨m', hm, w'⟩ := hNx H' nx
      have pin : ∀ b ∈ fp, ∀ o, s7.heap.get? b = some o → s'.heap.get? b = some o ∧ H' b = none := fun b hb o e =>
        let z := I'.pin (b, o) (List.mem_append_right _ (List.mem_append_right _ (mem_pinsAt hb e)))
        ⟨z.1, z.2.1⟩
      refine ⟨m', hm, i + 1, H', (I'.unpinned (pins := [])).weak hl hkk, T.keep _ _ _ st7 fun b hb o e => (pin b hb o e).1, fun b hb => ?_, w'⟩
      obtain ⟨o, e, _⟩ := T.obj _ _ st7 b hb
      exact (pin b hb o e).2
    have len8 : (wipe σ (own.map (·.2))).length = σ8.length := by rw [← hw8, wipe_length]
    have sub8 : ∀ (j : Nat) v, (wipe σ (own.map (·.2)))[j]? = some (some v) → σ8[j]? = some (some v) := fun j v e => by
      rw [← hw8] at e
      exact (wipe_some e).1
    have sub9 : ∀ (j : Nat) v, (wipe σ (own.map (·.2)))[j]? = some (some v) → (wipe σ8 vs1)[j]? = some (some v) := fun j v e => by
      rw [← hw8] at e
      obtain ⟨z1, z2⟩ := wipe_some e
      rw [wipe_keep fun z => z2 (hv j z)]
      exact z1
    cases b with
    | false =>
      simp only [Bool.false_eq_true, if_false] at q9 ⊢
      exact over I9 len8 sub8 q9
    | true =>
      simp only [if_true] at q9 ⊢
      refine thnF (pi1.run _ s9 σ8 H9 _ I9 q9) fun _ s10 hx => thnF hx fun _ s11 h11 => ?_
      obtain ⟨it1, fp1, tn1, J1, H11, e1, I11, T1, st11, f11, W1, ⟨m1, w1⟩, turn1⟩ := h11
      subst e1
      have stat1 : ∀ {H' : Hp}, (∀ b ∈ fp1, H' b = none) → ∀ b ∈ fp1, FpOk (X.blk s3 (upd H2 D o0) scope ce fp) ([] ++ pinsAt fp s7.heap) H' b := fun hn b hb => ⟨hn b hb, (f11 b hb).2⟩
      have inner : codeAny (model X.prog X.w) X.A (.compLoop (.DictComp kx vx [⟨tg, iter, ifs, 0⟩, ⟨tg1, iter1, ifs1, 0⟩] scope pos) 1 (.ref it1) (.ref D) ce)
          (fun r s' => match r with
            | .ok _ => ∃ m, m < n ∧ ∃ i H', Inv (X.blk s3 (upd H2 D o0) scope ce fp) [] (wipe σ (own.map (·.2))) H' s' ∧ tn i s'.heap ∧ (∀ b ∈ fp, H' b = none) ∧ W i m H'
            | .error _ => False) s11 := by
        refine dloop_in (fun k s' => ∃ j H', Inv (X.blk s3 (upd H2 D o0) scope ce fp) ([] ++ pinsAt fp s7.heap) (wipe σ8 vs1) H' s' ∧ tn1 j s'.heap ∧ (∀ b ∈ fp1, H' b = none) ∧ W1 j k H') ?_ m1 ⟨0, H11, I11.weak (wipe_length _ _) (fun j v e => (wipe_some e).1), st11, fun b hb => (f11 b hb).1, w1⟩
        rintro k s12 ⟨j, H12, I12, st12, n12, w12⟩
        rcases turn1 j k H12 w12 with ⟨stop1, nx1⟩ | ⟨go1, Nx1, hNx1, step1⟩
        · refine thnF (T1.done (X.blk s3 (upd H2 D o0) scope ce fp) rfl rfl rfl hc j _ s12 (wipe σ8 vs1) H12 (fun _ _ => False) I12 (stat1 n12) st12 stop1) fun r s13 ⟨hr, I13⟩ => ?_
          subst hr
          exact over I13 (len8.trans (wipe_length σ8 vs1).symm) sub9 nx1
        · refine thnF (T1.item (X.blk s3 (upd H2 D o0) scope ce fp) rfl rfl rfl hc j _ s12 (wipe σ8 vs1) H12 (fun _ _ => False) I12 (stat1 n12) st12 go1) fun r s13 ⟨u1, hr, h13⟩ => ?_
          subst hr
          refine thnF h13 fun _ s14 ⟨x1, H14, I14, r14, y14, st14, n14⟩ => ?_
          have I14' := I14.pinned (stat1 n14) (T1.obj _ _ st14)
          refine thnF (pg1.run _ s14 (wipe σ8 vs1) H14 x1 u1 _ I14' r14 (step1 x1 H14 y14)) fun _ s15 ⟨σ15, H15, I15, hw15, q15⟩ => ?_
          refine thnF (pt1.run _ s15 σ15 H15 _ I15 q15) fun b1 s16 ⟨H16, I16, q16⟩ => ?_
          have over1 : ∀ {s' : Shared} {H' : Hp}, Inv (X.blk s3 (upd H2 D o0) scope ce fp) (([] ++ pinsAt fp s7.heap) ++ pinsAt fp1 s14.heap) σ15 H' s' → Nx1 H' → ∃ m, m < k ∧ ∃ j H', Inv (X.blk s3 (upd H2 D o0) scope ce fp) ([] ++ pinsAt fp s7.heap) (wipe σ8 vs1) H' s' ∧ tn1 j s'.heap ∧ (∀ b ∈ fp1, H' b = none) ∧ W1 j m H' := fun {s' H'} I' nx => by
            obtain ⟨m', hm, w'⟩ := hNx1 H' nx
            have pin : ∀ b ∈ fp1, ∀ o, s14.heap.get? b = some o → s'.heap.get? b = some o ∧ H' b = none := fun b hb o e =>
              let z := I'.pin (b, o) (List.mem_append_right _ (List.mem_append_right _ (mem_pinsAt hb e)))
              ⟨z.1, z.2.1⟩
            refine ⟨m', hm, j + 1, H', I'.unpinned.weak (by rw [← hw15, wipe_length]) (fun j v e => by rw [← hw15] at e; exact (wipe_some e).1), T1.keep _ _ _ st14 fun b hb o e => (pin b hb o e).1, fun b hb => ?_, w'⟩
            obtain ⟨o, e, _⟩ := T1.obj _ _ st14 b hb
            exact (pin b hb o e).2
          cases b1 with
          | false =>
            simp only [Bool.false_eq_true, if_false] at q16 ⊢
            exact over1 I16 q16
          | true =>
            simp only [if_true] at q16 ⊢
            refine thnF (pk.run _ s16 σ15 H16 _ I16 q16) fun z s17 ⟨yk, H17, I17, r17, q17⟩ => ?_
            refine thnF (pe.run _ s17 σ15 H17 _ I17 q17) fun z2 s18 ⟨yv, H18, I18, r18, H19, g19, nx⟩ => ?_
            have cp := comp_put (X := (X.blk s3 (upd H2 D o0) scope ce fp)) (E := (fun _ _ => False)) (Q := fun _ s' => Inv (X.blk s3 (upd H2 D o0) scope ce fp) (([] ++ pinsAt fp s7.heap) ++ pinsAt fp1 s14.heap) σ15 H19 s') hu I18 g19 r17 r18 fun s19 I19 => I19
            exact thnF cp fun _ s19 I19 => over1 I19 nx
      exact dstart_in inner (T1.self X.A 0 _ _ _ st11 inner)
end
end Wr

set_option maxHeartbeats 1000000
/-! More expressions and statements: dicts made and joined, sorted, sums of tuples, slices. -/
namespace Wr
open PySem PySem.Spec PyProof.Rows L2

/-! ### dict comprehensions -/
theorem KD.tex2 {D : Addr} {H H' : Hp} {c : Ct} (hD : AtP (fun _ => True) H c D) (k : KD D H H') : TEx H H' := fun a xs h => k a _ (fun z => by
  subst z
  obtain ⟨_, o, h1, h2⟩ := hD.there
  rw [h] at h1
  cases h1
  exact h2 xs rfl) h
def dcGo (m : Dt → En → Option En) (ft : En → Option Bool) (fk fv : En → Option Dt) (ε : En) : List Dt → Ct → Option Ct
  | [], c => some c
  | d :: ds, c => match m d ε with
    | none => none
    | some ε1 => match ft ε1 with
      | none => none
      | some false => dcGo m ft fk fv ε ds c
      | some true => match fk ε1 with
        | none => none
        | some k => match fv ε1 with
          | none => none
          | some v => match cPut c k v with
            | none => none
            | some c' => dcGo m ft fk fv ε ds c'
theorem cPut_flat {c c' : Ct} {k d : Dt} (h : cPut c k d = some c') : c'.flat = true := by
  unfold cPut at h
  split at h
  · split at h
    · cases h
      rfl
    · cases h
  · split at h
    · cases h
      rfl
    · cases h
  · cases h
section
variable {wi : TI} {g : TG} {tt : TT} {tk tv : TE} {fi : En → Option (List Dt)} {m : Dt → En → Option En} {ft : En → Option Bool} {fk fv : En → Option Dt} {is vs : List Nat}
theorem dc_loop {H0 H2 : Hp} {σ : L2.St} {ε : En} {D : Addr} {J : It} {ds : List Dt} {c0 c1 : Ct} {End : Hp → Prop} (hg : SG g m is) (ht : ST tt ft) (hk : SE tk fk) (hv : SE tv fv) (hw : ∀ i ∈ is, i ∈ vs)
    (hr : ∀ H', KD D H2 H' → R H0 H' (wipe σ vs) ε) (hD : AtP (fun _ => True) H2 c0 D) (ok : WalkOk J (Hs (fun a => a ≠ D) H2) ds) (hgo : dcGo m ft fk fv ε ds c0 = some c1)
    (hend : ∀ H', KD D H2 H' → AtP (fun _ => True) H' c1 D → End H') :
    ∃ W : Nat → Nat → Hp → Prop, (∃ k, W 0 k H2) ∧ ∀ i k H, W i k H → (J.stop i H ∧ End H) ∨ (J.go i H ∧ ∃ Nx : Hp → Prop, (∀ H', Nx H' → ∃ k', k' < k ∧ W (i + 1) k' H') ∧ ∀ x H', J.yld i H x H' → tTurn g tt tk tv vs D Nx x σ H') := by
  refine ⟨fun i k H' => i + k = ds.length ∧ KD D H2 H' ∧ ∃ c, AtP (fun _ => True) H' c D ∧ dcGo m ft fk fv ε (ds.drop i) c = some c1, ⟨ds.length, by omega, KD.refl D H2, c0, hD, hgo⟩, ?_⟩
  rintro i k H' ⟨ei, kH, c, hDc, hgo⟩
  have hs : Hs (fun a => a ≠ D) H2 H' := ⟨fun a o n h => kH a o n h, kH.tex2 hD⟩
  cases hdrop : ds.drop i with
  | nil =>
    have hi' : ds.length ≤ i := by simpa using hdrop
    have ei' : i = ds.length := by omega
    subst ei'
    rw [hdrop] at hgo
    cases hgo
    exact .inl ⟨ok.stop H' hs, hend H' kH hDc⟩
  | cons d rest =>
    obtain ⟨hn, hrest⟩ := nth_drop hdrop
    rw [hdrop] at hgo
    have hk0 : 0 < k := by
      have h2 : (ds.drop i).length = (d :: rest).length := by rw [hdrop]
      rw [List.length_drop, List.length_cons] at h2
      omega
    refine .inr ⟨ok.go i d H' hn hs, fun H3 => KD D H2 H3 ∧ ∃ c, AtP (fun _ => True) H3 c D ∧ dcGo m ft fk fv ε rest c = some c1, fun H3 n2 => ⟨k - 1, by omega, by omega, ?_⟩, fun x H3 hy => ?_⟩
    · rw [hrest]
      exact n2
    · obtain ⟨s2, rx⟩ := ok.yld i d H' x H3 hn hs hy
      have k3 : KD D H2 H3 := kH.trans (.of s2)
      unfold dcGo at hgo
      split at hgo
      · cases hgo
      · rename_i ε2 e1
        obtain ⟨σ', T⟩ := hg H3 (wipe σ vs) ε x d ε2 rx e1
        obtain ⟨r', _⟩ := T.rel H0 H3 (fun _ _ h => h) (hr H3 k3)
        refine T.go H3 (fun _ _ h => h) _ ⟨by rw [T.wip vs hw]; exact wipe_wipe vs vs fun _ h => h, ?_⟩
        split at hgo
        · cases hgo
        · rename_i e2
          refine ht H0 H3 σ' ε2 false r' e2 _ fun H4 s4 => ?_
          rw [if_neg Bool.false_ne_true]
          exact ⟨k3.trans (.of s4), c, (hDc.same s2).same s4, hgo⟩
        · rename_i e2
          refine ht H0 H3 σ' ε2 true r' e2 _ fun H4 s4 => ?_
          rw [if_pos rfl]
          split at hgo
          · cases hgo
          · rename_i kk e3
            split at hgo
            · cases hgo
            · rename_i vv e4
              split at hgo
              · cases hgo
              · rename_i c' e5
                refine hk H0 H4 σ' ε2 kk (r'.same s4) e3 _ fun H5 y s5 r5 => ?_
                refine hv H0 H5 σ' ε2 vv ((r'.same s4).same s5) e4 _ fun H6 z s6 r6 => ?_
                obtain ⟨o, g1, _, g3⟩ := cPut_ok ((((hDc.same s2).same s4).same s5).same s6) (r5.same s6) r6 e5
                exact ⟨_, g1, (((k3.trans (.of s4)).trans (.of s5)).trans (.of s6)).trans KD.put, c', g3, hgo⟩
def mDc (c0 : Ct) (fi : En → Option (List Dt)) (m : Dt → En → Option En) (ft : En → Option Bool) (fk fv : En → Option Dt) (vs : List Nat) : En → Option Ct := fun ε => match fi ε with
  | none => none
  | some ds => match dcGo m ft fk fv (swipe ε vs) ds c0 with
    | some c => if c.flat then some c else none
    | none => none
/-- the empty dict as the layer's object -/
structure Nil0 (o0 : HO) (c0 : Ct) : Prop where
  at0 : ∀ H D, AtP (fun _ => True) (upd H D o0) c0 D
theorem nilP : Nil0 (.dT []) (.dP []) := ⟨fun H D => .dP trivial upd_same .nil⟩
theorem nilI : Nil0 (.dK []) (.dI []) := ⟨fun H D => .dI trivial upd_same .nil⟩
theorem sf_dc {o0 : HO} {c0 : Ct} (h0 : Nil0 o0 c0) (hi : SI NA wi fi) (hg : SG g m is) (ht : ST tt ft) (hk : SE tk fk) (hv : SE tv fv) (hw : ∀ i ∈ is, i ∈ vs) : SF (tDcP o0 wi g tt tk tv vs) (mDc c0 fi m ft fk fv vs) := fun H0 H σ ε cF R e Q q => by
  unfold mDc at e
  split at e
  · cases e
  · rename_i ds e1
    split at e
    · rename_i c9 e2
      split at e
      · rename_i hf
        cases e
        refine hi H0 H σ ε ds R e1 _ fun J H1 s1 ok D hD => ?_
        exact dc_loop hg ht hk hv hw (fun H' k => ((R.same s1).wiped vs).same (k.same hD)) (h0.at0 H1 D) (ok.weak fun H' h => ⟨fun a o _ z => (KD.same hD fun a o n z => h.1 a o n z) a o z, .of (KD.same hD fun a o n z => h.1 a o n z)⟩) e2
          fun H' k h2 => q H' D (s1.trans (k.same hD)) (h2.flat_of hf (s1.free hD))
      · cases e
    · cases e
variable {wi1 : TI} {g1 : TG} {tt1 : TT} {fi1 : En → Option (List Dt)} {m1 : Dt → En → Option En} {ft1 : En → Option Bool} {is1 vs1 : List Nat}
def dcGo2 (m : Dt → En → Option En) (ft : En → Option Bool) (fi1 : En → Option (List Dt)) (m1 : Dt → En → Option En) (ft1 : En → Option Bool) (fk fv : En → Option Dt) (vs1 : List Nat) (ε : En) : List Dt → Ct → Option Ct
  | [], c => some c
  | d :: ds, c => match m d ε with
    | none => none
    | some ε1 => match ft ε1 with
      | none => none
      | some false => dcGo2 m ft fi1 m1 ft1 fk fv vs1 ε ds c
      | some true => match fi1 ε1 with
        | none => none
        | some ds1 => match dcGo m1 ft1 fk fv (swipe ε1 vs1) ds1 c with
          | none => none
          | some c' => dcGo2 m ft fi1 m1 ft1 fk fv vs1 ε ds c'
def mDc2 (c0 : Ct) (fi : En → Option (List Dt)) (m : Dt → En → Option En) (ft : En → Option Bool) (fi1 : En → Option (List Dt)) (m1 : Dt → En → Option En) (ft1 : En → Option Bool) (fk fv : En → Option Dt) (vs vs1 : List Nat) : En → Option Ct := fun ε => match fi ε with
  | none => none
  | some ds => match dcGo2 m ft fi1 m1 ft1 fk fv vs1 (swipe ε vs) ds c0 with
    | some c => if c.flat then some c else none
    | none => none
theorem sf_dc2 {o0 : HO} {c0 : Ct} (h0 : Nil0 o0 c0) (hi : SI NA wi fi) (hg : SG g m is) (ht : ST tt ft) (hi1 : ∀ N, SI N wi1 fi1) (hg1 : SG g1 m1 is1) (ht1 : ST tt1 ft1) (hk : SE tk fk) (hv : SE tv fv) (hw : ∀ i ∈ is, i ∈ vs) (hw1 : ∀ i ∈ is1, i ∈ vs1) :
    SF (tDcP2 o0 wi g tt wi1 g1 tt1 tk tv vs vs1) (mDc2 c0 fi m ft fi1 m1 ft1 fk fv vs vs1) := fun H0 H σ ε cF R e Q q => by
  unfold mDc2 at e
  split at e
  · cases e
  · rename_i ds e1
    split at e
    · rename_i c9 e2
      split at e
      · rename_i hf
        cases e
        refine hi H0 H σ ε ds R e1 _ fun J H1 s1 ok D hD => ?_
        have r1 : ∀ H', KD D (upd H1 D o0) H' → Wr.R H0 H' (wipe σ vs) (swipe ε vs) := fun H' k => ((R.same s1).wiped vs).same (k.same hD)
        refine ⟨fun i k H' => i + k = ds.length ∧ KD D (upd H1 D o0) H' ∧ ∃ c, AtP (fun _ => True) H' c D ∧ dcGo2 m ft fi1 m1 ft1 fk fv vs1 (swipe ε vs) (ds.drop i) c = some cF, ⟨ds.length, by omega, KD.refl _ _, c0, h0.at0 H1 D, e2⟩, ?_⟩
        rintro i k H' ⟨ei, kH, c, hDc, hgo⟩
        have sH : Same H1 H' := kH.same hD
        have hs : Hs (fun _ => True) H1 H' := ⟨fun a o _ h => sH a o h, .of sH⟩
        cases hdrop : ds.drop i with
        | nil =>
          have hi' : ds.length ≤ i := by simpa using hdrop
          have ei' : i = ds.length := by omega
          subst ei'
          rw [hdrop] at hgo
          cases hgo
          exact .inl ⟨ok.stop H' hs, q H' D (s1.trans sH) (hDc.flat_of hf (s1.free hD))⟩
        | cons d rest =>
          obtain ⟨hn, hrest⟩ := nth_drop hdrop
          rw [hdrop] at hgo
          have hk0 : 0 < k := by
            have h2 : (ds.drop i).length = (d :: rest).length := by rw [hdrop]
            rw [List.length_drop, List.length_cons] at h2
            omega
          refine .inr ⟨ok.go i d H' hn hs, fun H2 => KD D (upd H1 D o0) H2 ∧ ∃ c, AtP (fun _ => True) H2 c D ∧ dcGo2 m ft fi1 m1 ft1 fk fv vs1 (swipe ε vs) rest c = some cF, fun H2 n2 => ⟨k - 1, by omega, by omega, ?_⟩, fun x H2 hy => ?_⟩
          · rw [hrest]
            exact n2
          · obtain ⟨s2, rx⟩ := ok.yld i d H' x H2 hn hs hy
            have k2 : KD D (upd H1 D o0) H2 := kH.trans (.of s2)
            unfold dcGo2 at hgo
            split at hgo
            · cases hgo
            · rename_i ε1 g1e
              obtain ⟨σ2, T⟩ := hg H2 (wipe σ vs) (swipe ε vs) x d ε1 rx g1e
              obtain ⟨r2, _⟩ := T.rel H0 H2 (fun _ _ h => h) (r1 H2 k2)
              refine T.go H2 (fun _ _ h => h) _ ⟨by rw [T.wip vs hw]; exact wipe_wipe vs vs fun _ h => h, ?_⟩
              split at hgo
              · cases hgo
              · rename_i g2e
                refine ht H0 H2 σ2 ε1 false r2 g2e _ fun H3 s3 => ?_
                rw [if_neg Bool.false_ne_true]
                exact ⟨k2.trans (.of s3), c, (hDc.same s2).same s3, hgo⟩
              · rename_i g2e
                refine ht H0 H2 σ2 ε1 true r2 g2e _ fun H3 s3 => ?_
                rw [if_pos rfl]
                split at hgo
                · cases hgo
                · rename_i ds1 g3e
                  split at hgo
                  · cases hgo
                  · rename_i c' g4e
                    refine hi1 (fun _ _ a => a ≠ D) H0 H3 σ2 ε1 ds1 (r2.same s3) g3e _ fun J1 H4 s4 ok1 => ?_
                    have k4 : KD D (upd H1 D o0) H4 := (k2.trans (.of s3)).trans (.of s4)
                    have hD4 := ((hDc.same s2).same s3).same s4
                    have t2 : ∀ {H'}, KD D H4 H' → TEx H2 H' := fun {H'} kk => (TEx.of (s3.trans s4)).trans (kk.tex2 hD4)
                    refine dc_loop (H0 := H0) (σ := σ2) (ε := swipe ε1 vs1) hg1 ht1 hk hv hw1 (fun H' kk => ?_) hD4 ok1 g4e fun H' kk h5 => ⟨k4.trans kk, c', h5, hgo⟩
                    exact (T.rel H0 H' (t2 kk) (r1 H' (k4.trans kk))).1.wiped vs1
      · cases e
    · cases e
end

/-! ### dicts made -/
def kDI (k v : Dt) : Option Ct := match k with
  | .int i => some (.dI [(i, v)])
  | _ => none
theorem sf_newP : SF tDNewT (fun _ => some (.dP [])) := fun H0 H σ ε c R e Q q => by
  cases e
  exact fun p hp => q _ p (Wr.Same.new hp) (.dP hp upd_same .nil)
theorem sf_newI : SF tDNewK (fun _ => some (.dI [])) := fun H0 H σ ε c R e Q q => by
  cases e
  exact fun p hp => q _ p (Wr.Same.new hp) (.dI hp upd_same .nil)
/-- {k: v}, k an int -/
theorem sf_disp1 {tk tv : TE} {fk fv : En → Option Dt} (hk : SE tk fk) (hv : SE tv fv) : SF (tDisp [(tk, tv)]) (o2 fk fv kDI) := fun H0 H σ ε c R e Q q => by
  obtain ⟨k, v, e1, e2, e3⟩ := o2_some e
  intro p hp
  have s0 : Same H (upd H p (.dK [])) := Wr.Same.new hp
  refine hk H0 _ σ ε k (R.same s0) e1 _ fun H1 x s1 r1 => hv H0 H1 σ ε v ((R.same s0).same s1) e2 _ fun H2 y s2 r2 => ?_
  unfold kDI at e3
  split at e3
  · rename_i i
    cases e3
    cases rep_int r1
    refine ⟨s2 p _ (s1 p _ upd_same), [(.inl i, y)], rfl, by show 1 ≤ 15; decide, ?_⟩
    have te : TEx H2 (upd H2 p (.dK (mergeK [] [(.inl i, y)]))) := TEx.put (s2 p _ (s1 p _ upd_same)) fun _ z => by cases z
    refine q _ p (fun a o h => ?_) (.dI hp upd_same (.cons (r2.tex te) .nil))
    rw [upd_ne (fun z => by subst z; rw [hp] at h; cases h)]
    exact s2 a o (s1 a o (s0 a o h))
  · cases e3

/-! ### dicts joined -/
def mergeT (l m : List (List Key × V)) : List (List Key × V) := m.foldl (fun acc kv => putK acc kv.1 kv.2) l
theorem mergeT_len : ∀ (m l : List (List Key × V)), (mergeT l m).length ≤ l.length + m.length
  | [], l => Nat.le_refl _
  | p :: m, l => by
    have h1 := mergeT_len m (putK l p.1 p.2)
    have h2 := length_putK l p.1 p.2
    show (mergeT (putK l p.1 p.2) m).length ≤ l.length + (m.length + 1)
    omega
theorem KT.join {H : Hp} : ∀ {m : List (List Key × V)} {ys : List (List Key × Addr × Value)} {l : List (List Key × V)} {xs : List (List Key × Addr × Value)}, KT H m ys → KT H l xs → KT H (mergeT l m) (storedAllH xs ys)
  | _, _, _, _, .nil, r => r
  | _, _, l, xs, .cons (a := p) (b := y) ⟨h1, h2, h3⟩ t, r => by
    have q := KT.put r p.1 (b := y.2.1) h2 h3
    rw [h1] at q
    have z := KT.join t q
    show KT H (mergeT (putK l p.1 p.2) _) (storedAllH (storedH xs y.1 y.2.1 y.2.2) _)
    rw [h1]
    exact z
def rUpd : V → List V → Hp → VK → Prop := fun x vs H Q => ∃ d o, x = .ref d ∧ vs = [.ref o] ∧ d ≠ o ∧
  ((∃ l m, H d = some (.dK l) ∧ H o = some (.dK m) ∧ l.length + m.length ≤ sizeLine ∧ Q .non (upd H d (.dK (mergeK l m)))) ∨
    ∃ l m, H d = some (.dT l) ∧ H o = some (.dT m) ∧ (l ≠ [] ∨ (m.map fun p => reduceHash (Builtin.Tuple.tupleHashOf (p.1.map fun k => match k with | .inl i => hashInt i | .inr _ => 0))).Nodup ∧ ∀ p ∈ m, ∀ k ∈ p.1, ∃ i, k = .inl i) ∧ l.length + m.length ≤ sizeLine ∧ Q .non (upd H d (.dT (mergeT l m))))
theorem mt_upd {X : Cx} (hu : X.A.units + 1 < cLine) : MtR X "dict.update" rUpd := by
  intro pins s σ H x xs v us Q I rx rxs h
  obtain ⟨d, o, rfl, rfl, hne, h⟩ := h
  cases rx
  rw [Vals.ref1 rxs]
  rcases h with ⟨l, m, hd, ho, hz, q⟩ | ⟨l, m, hd, ho, hh, hz, q⟩
  · obtain ⟨zl, yl, ls, rl, dl⟩ := dk_of I.hok hd
    obtain ⟨zm, ym, ms, rm, dm⟩ := dk_of I.hok ho
    refine call_meetsIn F.slot_dict_update dl.typeIs F.entry_dict_update (F.args_dict_update_2 _ _) (meets_dict_update (mixKind X.prog X.w) d o hne ym) ⟨ls, ms, dl, dm, by rw [← rl.length, ← rm.length]; exact hz, fun h' d1 d2 sb => ⟨.non, _, ?_, rfl, q⟩⟩
    have lz : (mergeK l m).length ≤ sizeLine := by
      have := length_mergeK m l
      omega
    have he : ∃ q, h'.get? d = some q := let ⟨q, _, _, hq, _⟩ := d1; ⟨q, hq⟩
    exact d_write I (by rw [hd]; exact True.intro) sb he (dk_new lz yl (KV.merge rm rl) d1)
  · obtain ⟨zl, yl, ls, rl, dl⟩ := dt_of I.hok hd
    obtain ⟨zm, ym, ms, rm, dm⟩ := dt_of I.hok ho
    refine call_update_dictH (tupleKind_room_in1 hu) hne ym dl dm ?_ (by rw [← Paired.length rl, ← Paired.length rm]; exact hz) fun h' d1 d2 sb => ⟨.non, _, ?_, rfl, q⟩
    · rcases hh with hh | ⟨hn, hi⟩
      · refine .inl fun z => hh ?_
        subst z
        cases rl
        rfl
      · refine .inr ⟨fun p hp => ?_, ?_⟩
        · obtain ⟨ob, es, ep, _, _, _, _, all, _⟩ := dm
          exact IsTupleKey.typeIs (all p hp)
        · have e : ∀ {m : List (List Key × V)} {ms : List (List Key × Addr × Value)}, KT H m ms → (∀ p ∈ m, ∀ k ∈ p.1, ∃ i, k = .inl i) →
              (ms.map fun x => (tupleKind (mixKind X.prog X.w)).hash x.1) = m.map fun p => reduceHash (Builtin.Tuple.tupleHashOf (p.1.map fun k => match k with | .inl i => hashInt i | .inr _ => 0)) := by
            intro m ms z
            induction z with
            | nil => intro _; rfl
            | @cons p y ps ys hq t ih =>
              intro al
              rw [List.map_cons, List.map_cons, ih fun p hp => al p (List.mem_cons_of_mem _ hp), ← hq.1]
              congr 1
              show reduceHash (Builtin.Tuple.tupleHashOf (p.1.map (mixKind X.prog X.w).hash)) = _
              congr 2
              refine List.map_congr_left fun k hk => ?_
              obtain ⟨i, rfl⟩ := al p List.mem_cons_self k hk
              rfl
          rw [e rm hi]
          exact hn
    · have lz : (mergeT l m).length ≤ sizeLine := by
        have := mergeT_len m l
        omega
      obtain ⟨ob, es, ep, hob, h2, h3, h4, _, h5⟩ := d1
      refine d_write I (by rw [hd]; exact True.intro) sb ⟨ob, hob⟩ ⟨lz, yl, _, (KT.join rm rl).keeps fun c ys ec => ?_, ob, es, ep, hob, h2, h3, h4, h5⟩
      rw [upd_ne (ne_of ec hd (fun z => nomatch z))]
      exact ec
def joinI (l m : List (Int × Dt)) : List (Int × Dt) := match m with
  | [] => l
  | p :: m => joinI (putI l p.1 p.2) m
def joinP (l m : List ((Int × Int) × Dt)) : List ((Int × Int) × Dt) := match m with
  | [] => l
  | p :: m => joinP (putP l p.1.1 p.1.2 p.2) m
theorem KI.join {H : Hp} : ∀ {m : List (Int × Dt)} {l : List (Int × Dt)} {ms ls : List (Key × V)}, KI H m ms → KI H l ls → KI H (joinI l m) (mergeK ls ms)
  | _, _, _, _, .nil, r => r
  | _, _, _, _, .cons (i := i) (d := d) (v := v) (l := l) (m := m) a t, r => (KI.join (l := putI _ i d) (ls := putK _ (.inl i) v) t (r.put a) : KI H (joinI (putI _ i d) l) (mergeK (putK _ (.inl i) v) m))
theorem KP.join {H : Hp} : ∀ {m : List ((Int × Int) × Dt)} {l : List ((Int × Int) × Dt)} {ms ls : List (List Key × V)}, KP H m ms → KP H l ls → KP H (joinP l m) (mergeT ls ms)
  | _, _, _, _, .nil, r => r
  | _, _, _, _, .cons (i := i) (j := j) (d := d) (v := v) (l := l) (m := m) a t, r => (KP.join (l := putP _ i j d) (ls := putK _ [.inl i, .inl j] v) t (r.put a) : KP H (joinP (putP _ i j d) l) (mergeT (putK _ [.inl i, .inl j] v) m))
def hsh (p : (Int × Int) × Dt) : Int := reduceHash (Builtin.Tuple.tupleHashOf [hashInt p.1.1, hashInt p.1.2])
def notIn (i : Int) : List Int → Bool
  | [] => true
  | j :: r => !(ieq i j) && notIn i r
def apart : List Int → Bool
  | [] => true
  | i :: r => notIn i r && apart r
theorem notIn_ok {i : Int} : ∀ {l : List Int}, notIn i l = true → i ∉ l
  | [], _ => by simp
  | j :: r, h => by
    unfold notIn at h
    rw [Bool.and_eq_true] at h
    simp only [List.mem_cons, not_or]
    refine ⟨fun e => ?_, notIn_ok h.2⟩
    subst e
    have : ieq i i = true := by rw [← ieq_dec]; simp
    rw [this] at h
    cases h.1
theorem apart_ok : ∀ {l : List Int}, apart l = true → l.Nodup
  | [], _ => List.nodup_nil
  | i :: r, h => by
    unfold apart at h
    rw [Bool.and_eq_true] at h
    exact List.nodup_cons.mpr ⟨notIn_ok h.1, apart_ok h.2⟩
theorem KP.hash {H : Hp} : ∀ {m : List ((Int × Int) × Dt)} {ms : List (List Key × V)}, KP H m ms → (ms.map fun p => reduceHash (Builtin.Tuple.tupleHashOf (p.1.map fun k => match k with | .inl i => hashInt i | .inr _ => 0))) = m.map hsh ∧ ∀ p ∈ ms, ∀ k ∈ p.1, ∃ i, k = .inl i
  | _, _, .nil => ⟨rfl, fun p hp => nomatch hp⟩
  | _, _, .cons (i := i) (j := j) a t => by
    obtain ⟨h1, h2⟩ := KP.hash t
    refine ⟨by rw [List.map_cons, List.map_cons, h1]; rfl, fun p hp => ?_⟩
    rcases List.mem_cons.mp hp with rfl | hp
    · intro k hk
      rcases (by simpa using hk : k = .inl i ∨ k = .inl j) with z | z
      · exact ⟨_, z⟩
      · exact ⟨_, z⟩
    · exact h2 p hp
def cJoin : Ct → Ct → Option Ct
  | .dI l, .dI m => if Nat.ble (l.length + m.length) 100000 then some (.dI (joinI l m)) else none
  | .dP l, .dP m => if Nat.ble (l.length + m.length) 100000 && (!l.isEmpty || apart (m.map hsh)) then some (.dP (joinP l m)) else none
  | _, _ => none
def mUpd (i : Nat) (f : En → Option Ct) : MS := fun ε => match f ε with
  | none => none
  | some c2 => match vOw i ε with
    | none => none
    | some c => match cJoin c c2 with
      | none => none
      | some c' => some (.nx (sset ε i (some (.ow c'))))
theorem vOw_dict {i : Nat} {ε : En} {c c2 c' : Ct} {K : PySem.W.Frag} {H0 H : Hp} {σ : L2.St} {a : Addr} (R : Wr.R H0 H σ ε) (h : AtP (fun _ => True) H c a) (hj : cJoin c c2 = some c') : tyV K "dict" (.ref a) H := by
  unfold cJoin at hj
  split at hj
  · cases h with
    | dI _ h1 _ => exact .inr (.inr (.inl ⟨rfl, .inl ⟨_, h1⟩⟩))
  · cases h with
    | dP _ h1 _ => exact .inr (.inr (.inl ⟨rfl, .inr ⟨_, h1⟩⟩))
  · cases hj
theorem ss_upd {i : Nat} {tv : TE} {fc : En → Option Ct} {K : PySem.W.Frag} (hv : SF tv fc) : SS (tDrop (tBM K "dict" rUpd (tVar i) (tCons tv tNil))) (mUpd i fc) := fun H0 H σ ε r R e D p => by
  unfold mUpd at e
  split at e
  · cases e
  · rename_i c2 e1
    split at e
    · cases e
    · rename_i c e2
      split at e
      · cases e
      · rename_i c' e3
        cases e
        have h1 := vOw_some e2
        obtain ⟨a, ha, h2, h3, h4⟩ := R.ow i _ h1
        refine ⟨.ref a, ha, vOw_dict (i := i) R h4 e3, hv H0 H σ ε _ R e1 _ fun H1 v s1 r1 => ?_⟩
        have h5 := h4.same s1
        have hne : a ≠ v := fun z => by
          subst z
          obtain ⟨_, o, g, _⟩ := h4.there
          rw [r1.there.1] at g
          cases g
        unfold cJoin at e3
        split at e3
        · split at e3
          · rename_i hz
            cases e3
            cases h5 with
            | @dI _ ls _ _ g1 g2 =>
              cases r1 with
              | @dI _ ms _ _ g3 g4 =>
                have te : TEx H1 (upd H1 a (.dK (mergeK ls ms))) := TEx.put g1 fun _ z => by cases z
                obtain ⟨R3, k3⟩ := (R.same s1).write (o := .dK (mergeK ls ms)) h1 ha rfl (.dI trivial upd_same ((KI.join g4 g2).tex te))
                exact ⟨a, v, rfl, rfl, hne, .inl ⟨ls, ms, g1, g3, by rw [← g2.length, ← g4.length]; exact line_le hz, p σ _ R3 ((Keep.same s1).trans k3)⟩⟩
          · cases e3
        · split at e3
          · rename_i hz
            rw [Bool.and_eq_true] at hz
            cases e3
            cases h5 with
            | @dP _ ls _ _ g1 g2 =>
              cases r1 with
              | @dP _ ms _ _ g3 g4 =>
                have te : TEx H1 (upd H1 a (.dT (mergeT ls ms))) := TEx.put g1 fun _ z => by cases z
                obtain ⟨R3, k3⟩ := (R.same s1).write (o := .dT (mergeT ls ms)) h1 ha rfl (.dP trivial upd_same ((KP.join g4 g2).tex te))
                obtain ⟨q1, q2⟩ := KP.hash g4
                refine ⟨a, v, rfl, rfl, hne, .inr ⟨ls, ms, g1, g3, ?_, by rw [← g2.length, ← g4.length]; exact line_le hz.1, p σ _ R3 ((Keep.same s1).trans k3)⟩⟩
                rcases Bool.or_eq_true_iff.mp hz.2 with z | z
                · refine .inl fun w => ?_
                  subst w
                  cases g2
                  cases z
                · exact .inr ⟨by rw [q1]; exact apart_ok z, q2⟩
          · cases e3
        · cases e3
theorem set_dict {X : Cx} (hu : X.A.units + 1 < cLine) : PSet X rSetD := by
  intro pins s σ H o i v ov iv u Q I ro ri rv h
  obtain ⟨a, H', rfl, g, q⟩ := h
  cases ro
  exact d_setItem hu I g ri rv fun s' I' => ⟨H', I', q⟩
end Wr

set_option maxHeartbeats 1000000
/-! Sorted lists, sums of tuples, slices, lists joined and repeated. -/
namespace Wr
open PySem PySem.Spec PyProof.Rows L2

/-! ### sorted -/
def rSortT (t : Ty) : RB := fun vs H Q => ∃ a xs ds, vs = [.ref a] ∧ H a = some (.lst xs) ∧ Reps H ds xs ∧ ds.all (hasTy 8 t) = true ∧ sortOk t = true ∧ Nat.ble ds.length 100000 = true ∧ ∀ p ys, H p = none → Reps H (isort ds) ys → Q (.ref p) (upd H p (.lst ys))
theorem each_zip {H : Hp} : ∀ {ds : List Dt} {xs : List V} {us : List Value}, Reps H ds xs → Vals xs us → PySem.W.EachIs (fun (v : Value) (b : Dt × V) => RelV b.2 v ∧ Rep H b.1 b.2) us (ds.zip xs)
  | _, _, _, .nil, .nil => .nil
  | _, _, _, .cons a r, .cons b t => .cons ⟨b, a⟩ (each_zip r t)
theorem each_vals {H : Hp} : ∀ {us : List Value} {bs : List (Dt × V)}, PySem.W.EachIs (fun (v : Value) (b : Dt × V) => RelV b.2 v ∧ Rep H b.1 b.2) us bs → Vals (bs.map (·.2)) us ∧ Reps H (bs.map (·.1)) (bs.map (·.2))
  | _, _, .nil => ⟨.nil, .nil⟩
  | _, _, .cons h t => let ⟨h1, h2⟩ := each_vals t; ⟨.cons h.1 h1, .cons h.2 h2⟩
theorem each_mono {R S : Value → Dt × V → Prop} (h : ∀ v b, R v b → S v b) : ∀ {us : List Value} {bs : List (Dt × V)}, PySem.W.EachIs R us bs → PySem.W.EachIs S us bs
  | _, _, .nil => .nil
  | _, _, .cons a t => .cons (h _ _ a) (each_mono h t)
theorem zip_fst : ∀ {ds : List Dt} {xs : List V}, ds.length = xs.length → (ds.zip xs).map (·.1) = ds
  | [], [], _ => rfl
  | d :: ds, x :: xs, h => by
    rw [List.zip_cons_cons, List.map_cons, zip_fst (by simpa using h)]
  | [], _ :: _, h => by simp at h
  | _ :: _, [], h => by simp at h
theorem cr_sortT {X : Cx} {t : Ty} (hu : X.A.units + 64 < cLine) : CallR X (.builtin "sorted") (rSortT t) := by
  intro pins s σ H vs us Q I r h
  obtain ⟨a, xs, ds, rfl, hs, hr, ht, hk, hz, q⟩ := h
  obtain ⟨its, rv, hl, _⟩ := I.list (SqL.of hs)
  rw [Vals.ref1 r]
  have hlen := hr.length
  have ez := each_zip hr rv
  have mem : ∀ b, b ∈ ds.zip xs → hasTy 8 t b.1 = true := fun b hb => List.all_eq_true.mp ht b.1 (List.of_mem_zip (a := b.1) (b := b.2) hb).1
  have enc : (ds.zip xs).map (fun b => toP b.1) = ds.map toP := by
    rw [show (fun b : Dt × V => toP b.1) = toP ∘ (·.1) from rfl, ← List.map_map, zip_fst hlen]
  refine PySem.W.sorted_data (enc := fun b : Dt × V => toP b.1) hl.isList ez (each_mono (fun v b h => Dp.reads I (toP b.1) b.2 v h.2.dp h.1) ez) ?_ ?_ ?_ ?_ fun out ho eo => ?_
  · rw [enc]
    intro d hd d' hd'
    obtain ⟨x, hx, rfl⟩ := List.mem_map.mp hd
    obtain ⟨y, hy, rfl⟩ := List.mem_map.mp hd'
    exact alike_ty 8 t x y (List.all_eq_true.mp ht x hx) (List.all_eq_true.mp ht y hy)
  · rw [enc]
    cases t with
    | int =>
      refine .inr fun d hd => ?_
      obtain ⟨x, hx, rfl⟩ := List.mem_map.mp hd
      have := List.all_eq_true.mp ht x hx
      cases x with
      | int i => exact ⟨by simp [toP], fun ys => by simp [toP]⟩
      | _ => cases this
    | tup ts =>
      cases ts with
      | nil => cases hk
      | cons u us =>
        refine .inl fun d hd => ?_
        obtain ⟨x, hx, rfl⟩ := List.mem_map.mp hd
        have h1 := List.all_eq_true.mp ht x hx
        cases x with
        | tup l =>
          cases l with
          | nil => cases h1
          | cons y ys => exact ⟨_, _, by rw [toP, toPs]⟩
        | _ => cases h1
    | seq u => cases hk
  · rw [List.length_zip, hlen, Nat.min_self, ← hlen]
    exact line_le hz
  · intro b hb
    have := depth_ty 8 t b.1 (mem b hb)
    show X.A.units + 2 + (toP b.1).depth < cLine
    omega
  · obtain ⟨v1, r1⟩ := each_vals eo
    have e1 : ((ds.zip xs).mergeSort (PySem.W.dataLe false fun b : Dt × V => toP b.1)).map (·.1) = isort ds := by
      rw [PySem.W.sort_maps (r := PySem.W.dataLe false fun b : Dt × V => toP b.1) (s := dle) (fun b : Dt × V => b.1) (fun a _ b _ => rfl), zip_fst hlen]
      exact isort_eq ht
    rw [e1] at r1
    obtain ⟨ep, he'⟩ := PyProof.Rows.sortedAll_at s.heap its out.toArray
    refine ⟨.ref _, upd H (s.heap.objs.size + 1) (.lst _), I.laid (t' := s.toks) (fun _ _ => PyProof.Rows.sortedAll_old) (Nat.le_succ _) ⟨?_, out, ep, v1, he'⟩, rfl, q _ _ (I.hok.fresh (Nat.le_succ _)) r1⟩
    rw [← r1.length, (isort_perm ds).length_eq]
    exact line_le hz
def kSort (t : Ty) : List Ar → Option Ct
  | [.ct (.lst ds)] => if ds.all (hasTy 8 t) && sortOk t && Nat.ble ds.length 100000 then some (.lst (isort ds)) else none
  | _ => none
theorem rb_sort {t : Ty} : RBF (rSortT t) (kSort t) := fun H xs vs d ra h Q q => by
  unfold kSort at h
  split at h
  · split at h
    · rename_i hc
      rw [Bool.and_eq_true, Bool.and_eq_true] at hc
      cases h
      obtain ⟨a, ys, rfl, h1, h2⟩ := repA_lst ra
      refine ⟨a, ys, _, rfl, h1, h2, hc.1.1, hc.1.2, hc.2, fun p zs hp hz => ?_⟩
      have s1 : Same H (upd H p (.lst zs)) := Wr.Same.new hp
      exact q _ p s1 (.lst hp upd_same (hz.same s1))
    · cases h
  · cases h

/-! ### sum of a tuple of ints -/
def rSumT : RB := fun vs H Q => ∃ (a : Addr) (ns : List Int), vs = [V.ref a] ∧ H a = some (.tup (ns.map V.int)) ∧ Q (.int ns.sum) H
theorem cr_sumT {X : Cx} (hc : X.calm = true) : CallR X (.builtin "sum") rSumT := by
  intro pins s σ H vs us Q I r h
  obtain ⟨a, ns, rfl, hs, q⟩ := h
  obtain ⟨its, rv, ht, _⟩ := I.tuple (SqT.of hs)
  rw [Vals.ref1 r]
  have hi := rv.ints
  obtain ⟨zs, e⟩ := hi.allInts.items
  have hn : numsOf (intItems zs).toList = ns := by
    rw [← e]
    exact hi.numsOf
  rw [nums_intItems] at hn
  have ht' : s.heap.IsTuple a its.toArray := ht
  rw [e] at ht'
  refine PySem.W.ktm_sumG (I.ok.hd hc) ht' fun h' tk t' hk => ?_
  rw [preSum_eq, List.take_of_length_le (by simp), hn]
  exact ⟨.int _, H, I.kept hk, ⟨_, rfl⟩, q⟩
def kSumT : List Ar → Option Dt
  | [.im (.tup l)] => match dInts l with
    | some ns => some (.int (sumI ns))
    | none => none
  | _ => none
theorem rb_sumT : RBI rSumT kSumT := fun H xs vs d ra h Q q => by
  unfold kSumT at h
  split at h
  · split at h
    · rename_i e
      cases h
      obtain ⟨p, ys, rfl, h1, h2⟩ := repA_tup ra
      refine ⟨p, _, rfl, by rw [h1, dInts_ok h2 e], ?_⟩
      rw [sumI_eq]
      exact q H _ (Same.refl H) (.int _)
    · cases h
  · cases h

/-! ### slices -/
/-- a part of a slice, left out or not below 0 -/
def SO (t : TO) (f : En → Option (Option Nat)) : Prop := ∀ H0 H σ ε o, R H0 H σ ε → f ε = some o → ∀ Q : Option Int → Hp → Prop, (∀ H1, Same H H1 → Q (o.map fun n => (n : Int)) H1) → t σ H Q
def pN : En → Option (Option Nat) := fun _ => some none
def pS (f : En → Option Dt) : En → Option (Option Nat) := fun ε => match f ε with
  | some (.int (.ofNat n)) => some (some n)
  | _ => none
theorem so_none : SO tNoPart pN := fun H0 H σ ε o R e Q q => by
  cases e
  exact q H (Same.refl H)
theorem so_some {t : TE} {f : En → Option Dt} (h : SE t f) : SO (tPart t) (pS f) := fun H0 H σ ε o R e Q q => by
  unfold pS at e
  split at e
  · rename_i n e1
    cases e
    refine h H0 H σ ε _ R e1 _ fun H1 v s1 r1 => ?_
    cases rep_int r1
    exact ⟨_, rfl, q H1 s1⟩
  · cases e
def cutL (ds : List Dt) (lo hi : Option Nat) : List Dt := match lo, hi with
  | none, none => ds
  | none, some h => ds.take h
  | some l, none => ds.drop l
  | some l, some h => (ds.take h).drop l
theorem cutV_L (xs : List V) (lo hi : Option Nat) : cutV xs (lo.map fun n => (n : Int)) (hi.map fun n => (n : Int)) = match lo, hi with
    | none, none => xs
    | none, some h => xs.take h
    | some l, none => xs.drop l
    | some l, some h => (xs.take h).drop l := by
  unfold cutV
  cases lo with
  | none =>
    cases hi with
    | none =>
      show (xs.drop (HT.sIx xs.length 0 none)).take (HT.sIx xs.length xs.length none - HT.sIx xs.length 0 none) = xs
      rw [HT.sIx_none, HT.sIx_none, List.drop_zero, Nat.sub_zero, List.take_length]
    | some h =>
      show (xs.drop (HT.sIx xs.length 0 none)).take (HT.sIx xs.length xs.length (some (h : Int)) - HT.sIx xs.length 0 none) = xs.take h
      rw [HT.sIx_none, HT.sIx_nat, List.drop_zero, Nat.sub_zero, List.take_eq_take_min (i := h)]
      
  | some l =>
    cases hi with
    | none =>
      show (xs.drop (HT.sIx xs.length 0 (some (l : Int)))).take (HT.sIx xs.length xs.length none - HT.sIx xs.length 0 (some (l : Int))) = xs.drop l
      rw [HT.sIx_none, HT.sIx_nat]
      by_cases hl : l ≤ xs.length
      · rw [Nat.min_eq_left hl, List.take_of_length_le (by rw [List.length_drop]; exact Nat.le_refl _)]
      · rw [Nat.min_eq_right (by omega), List.drop_of_length_le (by omega), List.drop_of_length_le (by omega), List.take_nil]
    | some h =>
      show (xs.drop (HT.sIx xs.length 0 (some (l : Int)))).take (HT.sIx xs.length xs.length (some (h : Int)) - HT.sIx xs.length 0 (some (l : Int))) = (xs.take h).drop l
      rw [HT.sIx_nat, HT.sIx_nat, List.drop_take]
      by_cases hl : l ≤ xs.length
      · rw [Nat.min_eq_left hl]
        by_cases hh : h ≤ xs.length
        · rw [Nat.min_eq_left hh]
        · rw [Nat.min_eq_right (by omega), List.take_of_length_le (by rw [List.length_drop]; omega), List.take_of_length_le (by rw [List.length_drop]; omega)]
      · rw [Nat.min_eq_right (a := l) (by omega), List.drop_of_length_le (by omega), List.drop_of_length_le (by omega), List.take_nil, List.take_nil]
theorem reps_cut {H : Hp} {ds : List Dt} {xs : List V} (r : Reps H ds xs) (lo hi : Option Nat) : Reps H (cutL ds lo hi) (cutV xs (lo.map fun n => (n : Int)) (hi.map fun n => (n : Int))) := by
  rw [cutV_L]
  cases lo with
  | none =>
    cases hi with
    | none => exact r
    | some h => exact r.take h
  | some l =>
    cases hi with
    | none => exact r.drop l
    | some h => exact (r.take h).drop l
def fSl {α : Type} (f : En → Option α) (a b : En → Option (Option Nat)) (k : α → Option Nat → Option Nat → Option α) : En → Option α := fun ε => match f ε with
  | none => none
  | some x => match a ε with
    | none => none
    | some lo => match b ε with
      | none => none
      | some hi => k x lo hi
theorem fSl_some {α : Type} {f : En → Option α} {a b : En → Option (Option Nat)} {k : α → Option Nat → Option Nat → Option α} {ε : En} {z : α} (h : fSl f a b k ε = some z) : ∃ x lo hi, f ε = some x ∧ a ε = some lo ∧ b ε = some hi ∧ k x lo hi = some z := by
  unfold fSl at h
  split at h
  · cases h
  · split at h
    · cases h
    · split at h
      · cases h
      · exact ⟨_, _, _, by assumption, by assumption, by assumption, h⟩
def kSlL (c : Ct) (lo hi : Option Nat) : Option Ct := match c with
  | .lst l => some (.lst (cutL l lo hi))
  | _ => none
/-- t[:k], less than the whole -/
def kSlT (d : Dt) (lo hi : Option Nat) : Option Dt := match d, lo, hi with
  | .tup l, none, some k => if Nat.blt k l.length then some (.tup (l.take k)) else none
  | _, _, _ => none
section
variable {K : PySem.W.Frag} {te : TE} {tl th : TO} {a b : En → Option (Option Nat)}
theorem sf_slL {f : En → Option Ct} (h : SC te f) (h1 : SO tl a) (h2 : SO th b) : SF (tSl (rSlL K) te tl th) (fSl f a b kSlL) := fun H0 H σ ε c R e Q q => by
  obtain ⟨x, lo, hi, e1, e2, e3, e4⟩ := fSl_some e
  refine h H0 H σ ε x R e1 _ fun H1 p s1 r1 => h1 H0 H1 σ ε lo (R.same s1) e2 _ fun H2 s2 => h2 H0 H2 σ ε hi ((R.same s1).same s2) e3 _ fun H3 s3 => ?_
  unfold kSlL at e4
  split at e4
  · cases e4
    cases (r1.same s2).same s3 with
    | @lst _ xs _ _ g1 g2 =>
      refine ⟨p, xs, rfl, SqL.of g1, fun z hz => ?_⟩
      have s4 : Same H3 (upd H3 z (.lst (cutV xs (lo.map fun n => (n : Int)) (hi.map fun n => (n : Int))))) := Wr.Same.new hz
      exact q _ z (((s1.trans s2).trans s3).trans s4) (.lst (((s1.trans s2).trans s3).free hz) upd_same ((reps_cut g2 lo hi).same s4))
  · cases e4
theorem se_slT {f : En → Option Dt} (h : SE te f) (h1 : SO tl a) (h2 : SO th b) : SE (tSl (rSlT K) te tl th) (fSl f a b kSlT) := fun H0 H σ ε c R e Q q => by
  obtain ⟨x, lo, hi, e1, e2, e3, e4⟩ := fSl_some e
  refine h H0 H σ ε x R e1 _ fun H1 v s1 r1 => h1 H0 H1 σ ε lo (R.same s1) e2 _ fun H2 s2 => h2 H0 H2 σ ε hi ((R.same s1).same s2) e3 _ fun H3 s3 => ?_
  unfold kSlT at e4
  split at e4
  · split at e4
    · rename_i l k hk
      cases e4
      rw [Nat.blt_eq] at hk
      obtain ⟨p, xs, rfl, g1, g2⟩ := rep_tup ((r1.same s2).same s3)
      refine ⟨p, xs, rfl, SqT.of g1, fun z => ?_, fun z hz => ?_⟩
      · have z2 : HT.sIx xs.length xs.length (some (k : Int)) = xs.length := z.2
        rw [HT.sIx_nat, ← g2.length] at z2
        omega
      · have s4 : Same H3 (upd H3 z (.tup (cutV xs (Option.map (fun n : Nat => (n : Int)) none) (Option.map (fun n : Nat => (n : Int)) (some k))))) := Wr.Same.new hz
        exact q _ _ (((s1.trans s2).trans s3).trans s4) (.tup upd_same ((reps_cut g2 none (some k)).same s4))
    · cases e4
  · cases e4
end

/-! ### lists joined, repeated -/
section
variable {ta tb : TE} {f : En → Option Ct}
def kCat (a b : Ct) : Option Ct := match a, b with
  | .lst l, .lst m => if Nat.ble (l.length + m.length) 100000 then some (.lst (l ++ m)) else none
  | _, _ => none
theorem sf_cat {g : En → Option Ct} (ha : SC ta f) (hb : SC tb g) : SF (tOp rCat ta tb) (o2 f g kCat) := fun H0 H σ ε c R e Q q => by
  obtain ⟨x, y, e1, e2, e3⟩ := o2_some e
  refine ha H0 H σ ε x R e1 _ fun H1 p s1 r1 => hb H0 H1 σ ε y (R.same s1) e2 _ fun H2 p2 s2 r2 => ?_
  unfold kCat at e3
  split at e3
  · split at e3
    · rename_i hz
      cases e3
      cases r1.same s2 with
      | @lst _ xs _ _ g1 g2 =>
        cases r2 with
        | @lst _ ys _ _ g3 g4 =>
          refine ⟨p, p2, xs, ys, rfl, rfl, g1, g3, by rw [← g2.length, ← g4.length]; exact line_le hz, fun z hz => ?_⟩
          have s3 : Same H2 (upd H2 z (.lst (xs ++ ys))) := Wr.Same.new hz
          exact q _ z ((s1.trans s2).trans s3) (.lst ((s1.trans s2).free hz) upd_same ((g2.app g4).same s3))
    · cases e3
  · cases e3
def repL (l : List Dt) : Nat → List Dt
  | 0 => []
  | n + 1 => l ++ repL l n
theorem repL_eq (l : List Dt) : ∀ n, repL l n = (List.replicate n l).flatten
  | 0 => rfl
  | n + 1 => by
    rw [List.replicate_succ, List.flatten_cons, ← repL_eq l n]
    rfl
def kRep (a : Ct) (d : Dt) : Option Ct := match a, d with
  | .lst l, .int (.ofNat n) => if Nat.ble (l.length * n) 100000 && Nat.ble n 100000 then some (.lst (repL l n)) else none
  | _, _ => none
theorem sf_rep {g : En → Option Dt} (ha : SC ta f) (hb : SE tb g) : SF (tOp rRep ta tb) (o2 f g kRep) := fun H0 H σ ε c R e Q q => by
  obtain ⟨x, y, e1, e2, e3⟩ := o2_some e
  refine ha H0 H σ ε x R e1 _ fun H1 p s1 r1 => hb H0 H1 σ ε y (R.same s1) e2 _ fun H2 v s2 r2 => ?_
  unfold kRep at e3
  split at e3
  · rename_i l n
    split at e3
    · rename_i hz
      rw [Bool.and_eq_true, Nat.ble_eq, Nat.ble_eq] at hz
      cases e3
      cases r1.same s2 with
      | @lst _ xs _ _ g1 g2 =>
        cases rep_int r2
        have en : (Int.ofNat n : Int) = (n : Int) := rfl
        refine ⟨p, _, xs, rfl, rfl, g1, by omega, by omega, ?_, fun z hz => ?_⟩
        · rw [sizeLine_eq, show (Int.ofNat n).toNat = n from rfl, ← g2.length]
          omega
        · have s3 : Same H2 (upd H2 z (.lst (List.replicate (Int.ofNat n).toNat xs).flatten)) := Wr.Same.new hz
          rw [repL_eq] at q
          exact q _ z ((s1.trans s2).trans s3) (.lst ((s1.trans s2).free hz) upd_same ((g2.rep n).same s3))
    · cases e3
  · cases e3
/-- l[i], l a list of lists: the list there -/
def kIxLL (a : Ct) (d : Dt) : Option Ct := match a, d with
  | .ll l, .int (.ofNat n) => match nth l n with
    | some x => some (.lst x)
    | none => none
  | _, _ => none
theorem LL.nth {P : Addr → Prop} {H : Hp} : ∀ {l : List (List Dt)} {xs : List V} {n : Nat} {d : List Dt}, LL P H l xs → nth l n = some d → ∃ b, xs[n]? = some (.ref b) ∧ AtP P H (.lst d) b
  | _, _, _, _, .nil, h => by cases h
  | _, _, 0, _, .cons (b := b) p h1 r _, h => by
    cases h
    exact ⟨b, rfl, .lst p h1 r⟩
  | _, _, n + 1, _, .cons _ _ _ t, h => by
    obtain ⟨b, h1, h2⟩ := LL.nth (n := n) t h
    exact ⟨b, by rw [List.getElem?_cons_succ]; exact h1, h2⟩
theorem scn_ixLL {N : L2.St → En → Addr → Prop} {K : PySem.W.Frag} {g : En → Option Dt} (ha : SCN N ta f) (hb : SE tb g) : SCN N (tOp (rIxL K) ta tb) (o2 f g kIxLL) := fun H0 H σ ε c R e Q q => by
  obtain ⟨x, y, e1, e2, e3⟩ := o2_some e
  refine ha H0 H σ ε x R e1 _ fun H1 p s1 r1 => hb H0 H1 σ ε y (R.same s1) e2 _ fun H2 v s2 r2 => ?_
  unfold kIxLL at e3
  split at e3
  · split at e3
    · rename_i l n x e4
      cases e3
      cases r1.same s2 with
      | @ll _ xs _ _ g1 g2 =>
        cases rep_int r2
        obtain ⟨b, g3, g4⟩ := g2.nth e4
        exact ⟨p, xs, _, .ref b, rfl, rfl, SqL.of g1, atI_nat g3, q H2 b (s1.trans s2) g4⟩
    · cases e3
  · cases e3
end
end Wr

set_option maxHeartbeats 1000000
/-! Known defs, the last rules. -/
namespace Wr
open PySem PySem.Spec PyProof.Rows L2

def E0 : XK := fun _ _ _ => False
structure Kn (P : Program) (w : World) (K : PySem.W.Frag) (mg : Str → Option Value) (base : Heap) (x : Str) (ps : List Str) (k : Nat) (sp : Sp) : Prop where
  ex : ∃ f fd, mg x = some (.ref f) ∧ PySem.W.keepIn K (.ref f) = true ∧ Binds K fd ps [] ∧ FnOk P w K mg base CX0 k f fd ps sp
theorem Kn.imp {P : Program} {w : World} {K : PySem.W.Frag} {mg : Str → Option Value} {base : Heap} {x : Str} {ps : List Str} {k : Nat} {sp sp' : Sp} (F : Kn P w K mg base x ps k sp) (h : ∀ vs H Q E, sp' vs H Q E → sp vs H Q E) : Kn P w K mg base x ps k sp' := by
  obtain ⟨f, fd, a, b, c, d⟩ := F.ex
  exact ⟨f, fd, a, b, c, d.imp h⟩
theorem Kn.of {P : Program} {w : World} {K : PySem.W.Frag} {mg : Str → Option Value} {base : Heap} {x q y : Str} {st : Stmt} {ps : List Str} {k : Nat} {sp : Sp} {f : Addr} {fd : FuncData} (F : Fun K y q st f fd) (m : mg x = some (.ref f)) (b : Binds K fd ps []) (d : FnOk P w K mg base CX0 k f fd ps sp) : Kn P w K mg base x ps k sp :=
  ⟨f, fd, m, F.kp, b, d⟩
theorem Kn.call {X : Cx} {x : Str} {ps : List Str} {j k : Nat} {sp : Sp} {e : Expr} {es : List Expr} {t : TA} {p pos : Pos} (h : Kn X.prog X.w X.K X.mg X.base x ps j sp) (hr : Room k X.A) (hj : j ≤ k) (hg : Gl X x) (ha : PA X (e :: es) t)
    (hdb : (x == ("__debug__" : Str)) = false := by decide) (he : starEach (e :: es) X.env = (false, eval e X.env) :: starEach es X.env := by rfl) (hpl : (backTo pos (starEach es X.env)).any (·.1) = false := by rfl) :
    PE X (.Call (.Name x p) (e :: es) [] pos) (tCall sp [] E0 t) := by
  obtain ⟨f, fd, a, b, c, d⟩ := h.ex
  exact pe_call d (hr.mono hj) hg a b c .nil pass0 ha hdb he hpl
structure Nb (mg : Str → Option Value) : Prop where
  len : mg "len" = none
  min : mg "min" = none
  max : mg "max" = none
  sum : mg "sum" = none
  tuple : mg "tuple" = none
  sorted : mg "sorted" = none
  any : mg "any" = none
  all : mg "all" = none
  range : mg "range" = none
  enumerate : mg "enumerate" = none

def kNeg : Dt → Option Dt
  | .int i => some (.int (-i))
  | _ => none
theorem se_neg {ta : TE} {f : En → Option Dt} (h : SE ta f) : SE (tUn (rU fun i => .int (-i)) ta) (o1 f kNeg) := fun H0 H σ ε d R e Q q => by
  obtain ⟨a, e1, e2⟩ := o1_some e
  refine h H0 H σ ε a R e1 _ fun H1 v s r => ?_
  cases a with
  | int i =>
    cases e2
    cases r
    exact ⟨i, rfl, q _ _ s (.int _)⟩
  | _ => cases e2

/-! ### sorted(d), the keys ints -/
def insI (i : Int) : List Int → List Int
  | [] => [i]
  | j :: r => if ilt j i then j :: insI i r else i :: j :: r
def srtI : List Int → List Int
  | [] => []
  | i :: r => insI i (srtI r)
theorem insI_perm (i : Int) : ∀ l : List Int, (insI i l).Perm (i :: l)
  | [] => .refl _
  | j :: r => by
    unfold insI
    split
    · exact ((insI_perm i r).cons j).trans (.swap i j r)
    · exact .refl _
theorem srtI_perm : ∀ l : List Int, (srtI l).Perm l
  | [] => .refl _
  | i :: r => (insI_perm i (srtI r)).trans ((srtI_perm r).cons i)
theorem insI_srt (i : Int) : ∀ {l : List Int}, l.Pairwise (· ≤ ·) → (insI i l).Pairwise (· ≤ ·)
  | [], _ => by simp [insI]
  | j :: r, h => by
    rw [List.pairwise_cons] at h
    unfold insI
    split
    · next e =>
      rw [List.pairwise_cons]
      refine ⟨fun a ha => ?_, insI_srt i h.2⟩
      rcases List.mem_cons.mp ((insI_perm i r).mem_iff.mp ha) with e1 | e1
      · subst e1
        exact Int.le_of_lt (ilt_true e)
      · exact h.1 a e1
    · next e =>
      have le : i ≤ j := ilt_false (Bool.eq_false_iff.mpr e)
      rw [List.pairwise_cons]
      refine ⟨fun a ha => ?_, List.pairwise_cons.mpr h⟩
      rcases List.mem_cons.mp ha with e1 | e1
      · subst e1
        exact le
      · exact Int.le_trans le (h.1 a e1)
theorem srtI_srt : ∀ l : List Int, (srtI l).Pairwise (· ≤ ·)
  | [] => .nil
  | i :: r => insI_srt i (srtI_srt r)
theorem srt_uniq : ∀ {xs ys : List Int}, xs.Perm ys → xs.Pairwise (· ≤ ·) → ys.Pairwise (· ≤ ·) → xs = ys
  | [], ys, p, _, _ => p.nil_eq
  | x :: xs, [], p, _, _ => by cases p.eq_nil
  | x :: xs, y :: ys, p, hx, hy => by
    rw [List.pairwise_cons] at hx hy
    have e : x = y := by
      have h1 : x ∈ y :: ys := p.mem_iff.mp List.mem_cons_self
      have h2 : y ∈ x :: xs := p.mem_iff.mpr List.mem_cons_self
      rcases List.mem_cons.mp h1 with e | e
      · exact e
      · rcases List.mem_cons.mp h2 with e2 | e2
        · exact e2.symm
        · exact Int.le_antisymm (hx.1 y e2) (hy.1 x e)
    subst e
    rw [srt_uniq p.cons_inv hx.2 hy.2]
def rSortDI (X : Cx) : RB := fun xs H Q => ∃ (a : Addr) (kvs : List (Key × V)) (ks : List Int), xs = [.ref a] ∧ H a = some (.dK kvs) ∧ kvs.map (·.1) = ks.map Sum.inl ∧ ks.length < 64 ∧ ∀ (p : Addr), H p = none → Q (.ref p) (upd H p (.lst ((srtI ks).map V.int)))
def rSortI : RB := fun xs H Q => ∃ (a : Addr) (kvs : List (Key × V)) (ks : List Int), xs = [.ref a] ∧ H a = some (.dK kvs) ∧ kvs.map (·.1) = ks.map Sum.inl ∧ ks.length < 64 ∧ ∀ (p : Addr), H p = none → Q (.ref p) (upd H p (.lst ((srtI ks).map V.int)))
theorem cr_sortI {X : Cx} (hc : X.calm = true) : CallR X (.builtin "sorted") rSortI := by
  intro pins s σ H xs us Q I r q
  obtain ⟨a, kvs, ks, ex, hd, hks, h64, q⟩ := q
  refine call_sortedDI hc pins s σ H xs us Q I r ⟨a, kvs, ks, ex, .inl hd, hks, h64, fun ys p hp hs hn => ?_⟩
  rw [srt_uniq (hp.trans (srtI_perm ks).symm) hs (srtI_srt ks)]
  exact q p hn
def dInt : List Int → List Dt
  | [] => []
  | i :: r => .int i :: dInt r
theorem dInt_reps {H : Hp} : ∀ l : List Int, Reps H (dInt l) (l.map V.int)
  | [] => .nil
  | i :: r => .cons (.int i) (dInt_reps r)
theorem ki_keys {H : Hp} : ∀ {l : List (Int × Dt)} {m : List (Key × V)}, KI H l m → m.map (·.1) = (l.map (·.1)).map Sum.inl
  | [], _, .nil => rfl
  | _ :: _, _, .cons _ r => by
    simp only [List.map_cons]
    rw [ki_keys r]
def kSortI : List Ar → Option Ct
  | [.ct (.dI l)] => if Nat.blt l.length 64 then some (.lst (dInt (srtI (l.map (·.1))))) else none
  | _ => none
theorem rb_sortI : RBF rSortI kSortI := fun H xs vs d ra h Q q => by
  unfold kSortI at h
  split at h
  · next l =>
    split at h
    · next e =>
      cases h
      cases ra with
      | cons r1 r2 =>
        cases r2
        obtain ⟨a, rfl, at1⟩ := r1
        cases at1 with
        | dI p hH hk =>
          refine ⟨a, _, l.map (·.1), rfl, hH, ki_keys hk, ?_, fun p hn => q _ _ (Same.new hn) (.lst hn upd_same (dInt_reps _))⟩
          rw [List.length_map]
          exact Nat.lt_of_lt_of_le (Nat.blt_eq.mp e) (Nat.le_refl _)
    · cases h
  · cases h
end Wr

set_option maxHeartbeats 1000000
namespace Wr
open PySem PySem.Spec PyProof.Rows L2
def topS (i : Nat) : Stmt := PySem.Challenge.pw_whatrims_k48_whole_discs_grown_and_taken.main.body.getD i (.Pass ⟨0, 0, 0, 0⟩)
theorem hu65 {A : Around} {k : Nat} (r : Room k A) : A.units + 65 < cLine := by have := r.un; omega
def tY : En → Option Bool := fun _ => some true
def iPairsL : Ct → Option (List Dt) := fun c => match c with | .lst l => some (pairs 0 l) | _ => none
def iPairsT : Dt → Option (List Dt) := fun c => match c with | .tup l => some (pairs 0 l) | _ => none
theorem si_enumL {N : L2.St → En → Addr → Prop} {K : PySem.W.Frag} {te : TE} {f : En → Option Ct} (h : SCN N te f) : SI N (iEnum K (tCons te tNil)) (o1 f iPairsL) := si_enum h
theorem si_enumU {N : L2.St → En → Addr → Prop} {K : PySem.W.Frag} {te : TE} {f : En → Option Dt} (h : SE te f) : SI N (iEnumT K (tCons te tNil)) (o1 f iPairsT) := si_enumT h
end Wr

set_option maxHeartbeats 1000000
/-! The dict by nested tuples. -/
namespace Wr
open PySem PySem.Spec PyProof.Rows L2

section
variable {P : Program} {w : World} {H : Hp} {h : Heap}
mutual
theorem rep_nested (ok : HOk P w H h) : ∀ {d : Dt} {v : V} {u : Value}, Rep H d v → RelV v u → NestedIs h (nk d) u
  | .non, _, _, .non, r => by cases r; exact .none
  | .bl b, _, _, .bl _, r => by cases r; exact .bool rfl
  | .int i, _, _, .int _, r => by obtain ⟨t, rfl⟩ := r; exact .int i t
  | .tup l, _, _, .tup g rs, r => by
    cases r
    obtain ⟨_, its, va, o, ho, hc, n, hd⟩ := ok _ _ g
    exact .tup ho hc hd (reps_nested ok rs va)
theorem reps_nested (ok : HOk P w H h) : ∀ {ds : List Dt} {xs : List V} {us : List Value}, Reps H ds xs → Vals xs us → NestedAll h (nks ds) us
  | [], _, _, .nil, va => by cases va; exact .nil
  | _ :: _, _, _, .cons a r, va => by
    cases va with
    | cons v1 v2 => exact .cons (rep_nested ok a v1) (reps_nested ok r v2)
end
mutual
theorem nk_hash (w : World) : ∀ d : Dt, (nk d).hash w = nh (nk d)
  | .non => rfl
  | .bl _ => rfl
  | .int _ => rfl
  | .tup l => by
    show reduceHash (Builtin.Tuple.tupleHashOf (NestedKey.hashes w (nks l))) = reduceHash (Builtin.Tuple.tupleHashOf (nhs (nks l)))
    rw [nks_hash w l]
theorem nks_hash (w : World) : ∀ l : List Dt, NestedKey.hashes w (nks l) = nhs (nks l)
  | [] => rfl
  | d :: l => by
    show NestedKey.hash w (nk d) :: NestedKey.hashes w (nks l) = nh (nk d) :: nhs (nks l)
    rw [nk_hash w d, nks_hash w l]
end
def full (xs : List (NestedKey × Addr)) : List (NestedKey × Addr × Value) := xs.map fun x => (x.1, x.2, .bool true)
theorem full_keys (xs : List (NestedKey × Addr)) : (full xs).map (·.1) = xs.map (·.1) := by
  unfold full
  rw [List.map_map]
  rfl
theorem kn_hash {l : List Dt} {xs : List (NestedKey × Addr)} (r : KN H l xs) : xs.map ent = (full xs).map (entryOfKey (nestedKind P w)) := by
  induction r with
  | nil => rfl
  | cons a d r ih =>
    show ent _ :: List.map ent _ = entryOfKey (nestedKind P w) _ :: List.map (entryOfKey (nestedKind P w)) (full _)
    rw [ih]
    congr 1
    show (⟨nh (nk _), _, _⟩ : DictEntry) = ⟨(nk _).hash w, _, _⟩
    rw [nk_hash]
theorem kn_is (ok : HOk P w H h) {l : List Dt} {xs : List (NestedKey × Addr)} (r : KN H l xs) : ∀ x ∈ full xs, (nestedKind P w).is h x.1 x.2.1 := by
  induction r with
  | nil => intro x hx; cases hx
  | cons a d r ih =>
    intro x hx
    rcases List.mem_cons.mp hx with e | e
    · subst e
      exact ⟨rep_nested ok a rfl, d⟩
    · exact ih x e
theorem KN.length {l : List Dt} {xs : List (NestedKey × Addr)} (r : KN H l xs) : l.length = xs.length := by
  induction r with
  | nil => rfl
  | cons a d r ih => simp [ih]
theorem kn_dict (ok : HOk P w H h) {a : Addr} {l : List Dt} {xs : List (NestedKey × Addr)} (e : H a = some (NF a xs)) (r : KN H l xs) (nd : (xs.map (·.1)).Nodup) : h.DictOfH (nestedKind P w) a (full xs) := by
  obtain ⟨⟨ep, o, ho, hx, hd⟩, _⟩ := ok a _ e
  refine ⟨o, _, ep, ho, hx, hd, ?_, kn_is ok r, by rw [full_keys]; exact nd⟩
  rw [← kn_hash (P := P) (w := w) r]
theorem nf_ok {a : Addr} {xs : List (NestedKey × Addr)} {ep : Nat} {h' : Heap} {H' : Hp} (x : h'.DictRaw a (xs.map ent).toArray ep) : ObjOk P w H' h' a (NF a xs) := by
  refine ⟨⟨ep, x⟩, let ⟨o, ho, _⟩ := x; ⟨o, ho⟩, fun h1 h2 ⟨ep1, x1⟩ k => ⟨ep1, x1.at k⟩⟩
end

/-! ### {} -/
def tDNewN : TE := fun _ H Q => ∀ p, H p = none → (p == sysModules) = false → Q (.ref p) (upd H p (NF p []))
theorem pe_dnewN {X : Cx} {pos : Pos} : PE X (.Dict [] [] pos) tDNewN := ⟨fun pins s σ H Q I h =>
  wpAny_Dict_empty ⟨.ref s.heap.objs.size, _, I.laid (a := s.heap.objs.size) (o := NF s.heap.objs.size []) (t' := s.toks) (fun _ _ q => Heap.get?_push_of_some _ q) (Nat.le_refl _)
    (nf_ok (ep := 0) ⟨_, Heap.get?_push_size _ rfl, ⟨rfl, rfl, rfl⟩, rfl⟩), rfl, h _ (I.hok.fresh (Nat.le_refl _)) (beq_eq_false_iff_ne.mpr (Ne.symm (Nat.ne_of_lt I.big)))⟩⟩
theorem sf_newN : SF tDNewN (fun _ => some (.dN [])) := fun H0 H σ ε c R e Q q p hp hs => by
  cases e
  exact q _ p (Wr.Same.new hp) (.dN hp upd_same .nil hs .nil)

/-! ### d[k] = True -/
def putN (xs : List (NestedKey × Addr)) (k : NestedKey) (b : Addr) : List (NestedKey × Addr) := if xs.any (fun x => decide (x.1 = k)) then xs else xs ++ [(k, b)]
theorem full_put (xs : List (NestedKey × Addr)) (k : NestedKey) (b : Addr) : storedH (full xs) k b (.bool true) = full (putN xs k b) := by
  have e1 : (atKey (full xs) k).isSome = xs.any (fun x => decide (x.1 = k)) := by
    unfold atKey full
    rw [Option.isSome_map]
    induction xs with
    | nil => rfl
    | cons x xs ih =>
      rw [List.map_cons, List.find?_cons, List.any_cons]
      split
      · rename_i h
        rw [show decide (x.1 = k) = true from h]
        rfl
      · rename_i h
        rw [show decide (x.1 = k) = false from h, Bool.false_or]
        exact ih
  unfold storedH putN
  rw [e1]
  split
  · unfold full
    rw [List.map_map]
    refine List.map_congr_left fun x _ => ?_
    show putAt k (.bool true) (x.1, x.2, .bool true) = _
    unfold putAt
    split <;> rfl
  · unfold full
    rw [List.map_append]
    rfl
theorem putN_len (xs : List (NestedKey × Addr)) (k : NestedKey) (b : Addr) : (putN xs k b).length ≤ xs.length + 1 := by
  unfold putN
  split
  · omega
  · simp
def rSetN : TSet := fun o k v H Q => ∃ (a b : Addr) (xs : List (NestedKey × Addr)) (l : List Dt) (d : Dt), o = .ref a ∧ k = .ref b ∧ v = .bl true ∧ H a = some (NF a xs) ∧ KN H l xs ∧ (xs.map (·.1)).Nodup ∧ Rep H d (.ref b) ∧ (nk d).depth ≤ 8 ∧ xs.length ≤ 100000 ∧
  Q (upd H a (NF a (putN xs (nk d) b)))
theorem KN.app {H : Hp} {l : List Dt} {xs : List (NestedKey × Addr)} {d : Dt} {b : Addr} (r : KN H l xs) (rd : Rep H d (.ref b)) (hd : (nk d).depth ≤ 8) : KN H (l ++ [d]) (xs ++ [(nk d, b)]) := by
  induction r with
  | nil => exact .cons rd hd .nil
  | cons a e r ih => exact .cons a e ih
theorem KN.put {H : Hp} {l : List Dt} {xs : List (NestedKey × Addr)} {d : Dt} {b : Addr} (r : KN H l xs) (rd : Rep H d (.ref b)) (hd : (nk d).depth ≤ 8) : KN H (if xs.any (fun x => decide (x.1 = nk d)) then l else l ++ [d]) (putN xs (nk d) b) := by
  unfold putN
  split
  · exact r
  · exact r.app rd hd
theorem putN_nodup {xs : List (NestedKey × Addr)} {k : NestedKey} {b : Addr} (nd : (xs.map (·.1)).Nodup) : ((putN xs k b).map (·.1)).Nodup := by
  unfold putN
  split
  · exact nd
  · rename_i h
    rw [List.map_append, List.nodup_append]
    refine ⟨nd, by simp, fun x hx y hy => ?_⟩
    rw [List.map_cons, List.map_nil, List.mem_singleton] at hy
    subst hy
    intro e
    subst e
    obtain ⟨z, hz, rfl⟩ := List.mem_map.mp hx
    exact h (List.any_eq_true.mpr ⟨z, hz, decide_eq_true rfl⟩)
theorem set_N {X : Cx} (hu : X.A.units + 64 < cLine) : PSet X rSetN := by
  intro pins s σ H o i v ov iv u Q I ro ri rv h
  obtain ⟨a, b, xs, l, d, rfl, rfl, rfl, ha, hk, nd, rd, hd, hz, q⟩ := h
  cases ro
  cases ri
  cases (show u = Value.bool true from rv)
  have D := kn_dict I.hok ha hk nd
  have hz' : (full xs).length ≤ sizeLine := by
    unfold full
    rw [List.length_map]
    exact Nat.le_trans hz (by decide)
  refine wpAny_setItem_heap (knd := nestedKind X.prog X.w) (hsz := hz') (show X.A.in1.units + 8 < cLine by show X.A.units + 1 + 8 < cLine; omega) (k := nk d) ⟨rep_nested I.hok rd rfl, hd⟩ D fun h' D' hs => ⟨_, ?_, q⟩
  rw [full_put] at D'
  obtain ⟨o', es, ep, ho, hx, hdt, he, _, _⟩ := D'
  have te : TEx H (upd H a (NF a (putN xs (nk d) b))) := TEx.put ha fun _ z => by cases z
  have hk' := (KN.put hk rd hd).tex te
  refine d_write I (by rw [ha]; exact True.intro) hs ⟨_, ho⟩ (nf_ok (ep := ep) ⟨o', ho, hx, ?_⟩)
  rw [hdt, kn_hash (P := X.prog) (w := X.w) (KN.put hk rd hd), ← he, Array.toArray_toList]

/-! ### sorted(d), len(d) -/
def rSortN (t : Ty) : RB := fun vs H Q => ∃ (a : Addr) (xs : List (NestedKey × Addr)) (ds : List Dt), vs = [.ref a] ∧ H a = some (NF a xs) ∧ KN H ds xs ∧ (a == sysModules) = false ∧ (xs.map (·.1)).Nodup ∧ ds.all (hasTy 8 t) = true ∧ sortOk t = true ∧ Nat.ble ds.length 100000 = true ∧ ∀ p ys, H p = none → Reps H (isort ds) ys → Q (.ref p) (upd H p (.lst ys))
theorem kn_reps {H : Hp} {l : List Dt} {xs : List (NestedKey × Addr)} (r : KN H l xs) : Reps H l (xs.map fun x => V.ref x.2) := by
  induction r with
  | nil => exact .nil
  | cons a d r ih => exact .cons a ih
theorem vals_of_get : ∀ {xs : List V} {us : List Value}, us.length = xs.length → (∀ (j : Nat) (u : Value) (x : V), us[j]? = some u → xs[j]? = some x → RelV x u) → Vals xs us
  | [], [], _, _ => .nil
  | x :: xs, u :: us, hl, h => .cons (h 0 u x rfl rfl) (vals_of_get (by simpa using hl) fun j u x e1 e2 => h (j + 1) u x (by simpa using e1) (by simpa using e2))
  | [], _ :: _, hl, _ => by simp at hl
  | _ :: _, [], hl, _ => by simp at hl
theorem cr_sortN {X : Cx} {t : Ty} (hc : X.calm = true) (hu : X.A.units + 64 < cLine) : CallR X (.builtin "sorted") (rSortN t) := by
  intro pins s σ H vs us Q I r h
  obtain ⟨a, xs, ds, rfl, ha, hkn, lo, nd, ht, hk, hz, q⟩ := h
  rw [Vals.ref1 r]
  obtain ⟨⟨ep, hraw⟩, _⟩ := I.hok a _ ha
  have hlen := hkn.length
  have h16 : (xs.map ent).toArray.size ≤ sizeLine := by
    rw [List.size_toArray, List.length_map, ← hlen]
    exact line_le hz
  refine Calls.call_function_entry PyProof.Rows.kind_sorted PyProof.Rows.plain_sorted PyProof.Rows.entry_sorted (PyProof.Rows.args_sorted1 _) ?_
  unfold Builtin.«sorted»
  refine wpAny_bind (m := checkCount "sorted" 1 1 _) (wpAny_pure ?_)
  refine wpAny_bind (PySem.W.kdu_collect (A := X.A.in1) (KdlSrc.rawDict lo) (I.ok.hd hc) hraw h16 fun h' tk acc hkp hacc => ?_)
  have hal : acc.toList.length = xs.length := by rw [Array.length_toList, hacc.1, List.size_toArray, List.length_map]
  have rv : Vals (xs.map fun x => V.ref x.2) acc.toList := vals_of_get (by rw [hal, List.length_map]) fun j u x e1 e2 => by
    obtain ⟨hi, e⟩ := hacc.2 j u (by rw [← Array.getElem?_toList]; exact e1)
    rw [List.getElem?_map] at e2
    cases e3 : xs[j]? with
    | none => rw [e3] at e2; cases e2
    | some y =>
      rw [e3] at e2
      cases e2
      rw [e]
      have e4 : (xs.map ent).toArray[j]? = some (ent y) := by
        rw [List.getElem?_toArray, List.getElem?_map, e3]
        rfl
      rw [Array.getElem?_eq_getElem hi] at e4
      rw [Option.some.inj e4]
      rfl
  have I1 : Inv X pins σ H { s with heap := h', toks := tk } := I.kept hkp
  have hr := kn_reps hkn
  refine wpAny_bind (wpAny_newList ?_ (by rw [hal, ← hlen]; exact line_le hz))
  have hoL : (h'.push (seqObj "list" acc.toList.toArray 0)).get? h'.objs.size = some (seqObj "list" acc.toList.toArray 0) := Heap.get?_push_size _ rfl
  show wpAny _ _ _ _ _ { s with heap := h'.push (seqObj "list" acc.toList.toArray 0), toks := tk }
  have ez := each_zip hr rv
  have hlz : ds.length = (xs.map fun x => V.ref x.2).length := by rw [List.length_map]; exact hlen
  have mem : ∀ b, b ∈ ds.zip (xs.map fun x => V.ref x.2) → hasTy 8 t b.1 = true := fun b hb => List.all_eq_true.mp ht b.1 (List.of_mem_zip (a := b.1) (b := b.2) hb).1
  have enc : (ds.zip (xs.map fun x => V.ref x.2)).map (fun b => toP b.1) = ds.map toP := by
    rw [show (fun b : Dt × V => toP b.1) = toP ∘ (·.1) from rfl, ← List.map_map, zip_fst hlz]
  have hal2 : PySem.W.AllAlike ((ds.zip (xs.map fun x => V.ref x.2)).map fun b => toP b.1) := by
    rw [enc]
    intro d hd d' hd'
    obtain ⟨x, hx, rfl⟩ := List.mem_map.mp hd
    obtain ⟨y, hy, rfl⟩ := List.mem_map.mp hd'
    exact alike_ty 8 t x y (List.all_eq_true.mp ht x hx) (List.all_eq_true.mp ht y hy)
  have hso : PySem.W.Sortable ((ds.zip (xs.map fun x => V.ref x.2)).map fun b => toP b.1) := by
    rw [enc]
    cases t with
    | int =>
      refine .inr fun d hd => ?_
      obtain ⟨x, hx, rfl⟩ := List.mem_map.mp hd
      have := List.all_eq_true.mp ht x hx
      cases x with
      | int i => exact ⟨by simp [toP], fun ys => by simp [toP]⟩
      | _ => cases this
    | tup ts =>
      cases ts with
      | nil => cases hk
      | cons u us =>
        refine .inl fun d hd => ?_
        obtain ⟨x, hx, rfl⟩ := List.mem_map.mp hd
        have h1 := List.all_eq_true.mp ht x hx
        cases x with
        | tup l =>
          cases l with
          | nil => cases h1
          | cons y ys => exact ⟨_, _, by rw [toP, toPs]⟩
        | _ => cases h1
    | seq u => cases hk
  have hL : (ds.zip (xs.map fun x => V.ref x.2)).length ≤ sizeLine := by
    rw [List.length_zip, hlz, Nat.min_self, ← hlz]
    exact line_le hz
  have hu2 : ∀ b, b ∈ ds.zip (xs.map fun x => V.ref x.2) → X.A.in1.units + 1 + (toP b.1).depth < cLine := fun b hb => by
    have := depth_ty 8 t b.1 (mem b hb)
    show X.A.units + 1 + 1 + (toP b.1).depth < cLine
    omega
  have er : PySem.W.EachIs (fun (v : Value) (b : Dt × V) => ∃ as, Reads h' v (toP b.1) as) acc.toList (ds.zip (xs.map fun x => V.ref x.2)) := each_mono (fun v b h => Dp.reads I1 (toP b.1) b.2 v h.2.dp h.1) ez
  have er' : PySem.W.EachIs (fun (v : Value) (b : Dt × V) => ∃ as, Reads (PySem.W.sortingHeap (h'.push (seqObj "list" acc.toList.toArray 0)) h'.objs.size acc.toList) v (toP b.1) as) acc.toList (ds.zip (xs.map fun x => V.ref x.2)) :=
    each_mono (fun _ _ ⟨as, r⟩ => ⟨as, PyProof.Rows.Reads.keeps (fun b o e => PySem.W.sortingHeap_old (Nat.ne_of_lt (Heap.lt_size e)) (Heap.get?_push_of_some _ e)) r⟩) er
  refine wpAny_bind (wpAny_holding (wpAny_call_entry PyProof.Rows.slot_list_sort ⟨_, hoL, rfl⟩ PyProof.Rows.entry_list_sort
    (PySem.W.list_sort_vals (κ := PySem.W.dataKind (PySem.W.sortingHeap (h'.push (seqObj "list" acc.toList.toArray 0)) h'.objs.size acc.toList) ((ds.zip (xs.map fun x => V.ref x.2)).map fun b => toP b.1)) hoL
      (PySem.W.SortsAt.data (s := { s with heap := PySem.W.sortingHeap (h'.push (seqObj "list" acc.toList.toArray 0)) h'.objs.size acc.toList, toks := tk }) (PySem.W.each_map (R := fun v d => ∃ as, Reads (PySem.W.sortingHeap (h'.push (seqObj "list" acc.toList.toArray 0)) h'.objs.size acc.toList) v d as) (fun b : Dt × V => toP b.1) er') hal2 hso (PySem.W.bound_map hu2))
      (by rw [ez.length]; exact hL) ⟨.none, rfl, ?_⟩) (PyProof.Rows.args_list_sort _)))
  have eo := PySem.W.sortVals_data (enc := fun b : Dt × V => toP b.1) false ez er' hal2
  obtain ⟨v1, r1⟩ := each_vals eo
  have e1 : ((ds.zip (xs.map fun x => V.ref x.2)).mergeSort (PySem.W.dataLe false fun b : Dt × V => toP b.1)).map (·.1) = isort ds := by
    rw [PySem.W.sort_maps (r := PySem.W.dataLe false fun b : Dt × V => toP b.1) (s := dle) (fun b : Dt × V => b.1) (fun a _ b _ => rfl), zip_fst hlz]
    exact isort_eq ht
  rw [e1] at r1
  obtain ⟨ep', he'⟩ := PyProof.Rows.sortedHeap_at (vs := acc.toList) (out := (PySem.W.sortVals (PySem.W.dataKind (PySem.W.sortingHeap (h'.push (seqObj "list" acc.toList.toArray 0)) h'.objs.size acc.toList) ((ds.zip (xs.map fun x => V.ref x.2)).map fun b => toP b.1)) false acc.toList acc.toList).toArray) hoL
  have hbig : (isort ds).length ≤ sizeLine := by
    rw [(isort_perm ds).length_eq]
    exact line_le hz
  refine wpAny_pure ⟨_, rfl, .ref h'.objs.size, upd H h'.objs.size (.lst _), I1.laid (t' := tk) (fun b u e => ?_) (Nat.le_refl _) ⟨?_, _, ep', v1, he'⟩, rfl, q _ _ (I1.hok.fresh (Nat.le_refl _)) r1⟩
  · have hb : b < h'.objs.size := Heap.lt_size e
    rw [PyProof.Rows.sortedHeap_old (Nat.ne_of_lt hb) (by rw [size_push']; exact Nat.lt_succ_of_lt hb)]
    exact Heap.get?_push_of_some _ e
  · rw [← r1.length]
    exact hbig
def kSortN (t : Ty) : List Ar → Option Ct
  | [.ct (.dN ds)] => if ds.all (hasTy 8 t) && sortOk t && Nat.ble ds.length 100000 then some (.lst (isort ds)) else none
  | _ => none
theorem repA_dN {H : Hp} {l : List Dt} {vs : List V} (h : RepAs H [.ct (.dN l)] vs) : ∃ p xs, vs = [.ref p] ∧ H p = some (NF p xs) ∧ KN H l xs ∧ (p == sysModules) = false ∧ (xs.map (·.1)).Nodup := by
  cases h with
  | cons h1 h2 =>
    cases h2
    obtain ⟨a, rfl, h3⟩ := h1
    cases h3 with
    | dN _ h4 h5 h6 h7 => exact ⟨a, _, rfl, h4, h5, h6, h7⟩
theorem rb_sortN {t : Ty} : RBF (rSortN t) (kSortN t) := fun H xs vs d ra h Q q => by
  unfold kSortN at h
  split at h
  · split at h
    · rename_i hc
      rw [Bool.and_eq_true, Bool.and_eq_true] at hc
      cases h
      obtain ⟨a, ys, rfl, h1, h2, h3, h4⟩ := repA_dN ra
      refine ⟨a, ys, _, rfl, h1, h2, h3, h4, hc.1.1, hc.1.2, hc.2, fun p zs hp hz => ?_⟩
      have s1 : Same H (upd H p (.lst zs)) := Wr.Same.new hp
      exact q _ p s1 (.lst hp upd_same (hz.same s1))
    · cases h
  · cases h
def rLenN : RB := fun vs H Q => ∃ (a : Addr) (xs : List (NestedKey × Addr)) (ds : List Dt), vs = [.ref a] ∧ H a = some (NF a xs) ∧ KN H ds xs ∧ (a == sysModules) = false ∧ (xs.map (·.1)).Nodup ∧ xs.length ≤ 100000 ∧ Q (.int ((xs.length : Nat) : Int)) H
theorem cr_lenN {X : Cx} : CallR X (.builtin "len") rLenN := by
  intro pins s σ H vs us Q I r h
  obtain ⟨a, xs, ds, rfl, ha, hkn, lo, nd, hz, q⟩ := h
  rw [Vals.ref1 r]
  have D := kn_dict I.hok ha hkn nd
  have e : (full xs).length = xs.length := by
    unfold full
    rw [List.length_map]
  refine call_len_dictH lo D (by rw [e]; omega) ?_
  rw [e]
  exact ⟨.int ((xs.length : Nat) : Int), H, I.tok _, ⟨_, rfl⟩, q⟩
def kLenN : List Ar → Option Dt
  | [.ct (.dN l)] => if Nat.ble l.length 100000 then some (.int (l.length : Nat)) else none
  | _ => none
theorem rb_lenN : RBI rLenN kLenN := fun H xs vs d ra h Q q => by
  unfold kLenN at h
  split at h
  · split at h
    · rename_i hc
      cases h
      obtain ⟨a, ys, rfl, h1, h2, h3, h4⟩ := repA_dN ra
      have hl := h2.length
      refine ⟨a, ys, _, rfl, h1, h2, h3, h4, by rw [← hl]; exact Nat.le_of_ble_eq_true hc, q _ _ (Same.refl H) ?_⟩
      rw [hl]
      exact .int _
    · cases h
  · cases h

/-! ### d[k] = True, in the data -/
def dpt : Nat → Dt → Bool
  | n + 1, .tup l => l.all (dpt n)
  | _, .tup _ => false
  | _, _ => true
theorem dpt_ok : ∀ (n : Nat) (d : Dt), dpt n d = true → (nk d).depth ≤ n
  | _, .non, _ => Nat.zero_le _
  | _, .bl _, _ => Nat.zero_le _
  | _, .int _, _ => Nat.zero_le _
  | 0, .tup _, h => by cases h
  | n + 1, .tup l, h => by
    have ih : ∀ l : List Dt, l.all (dpt n) = true → NestedKey.depthAll (nks l) ≤ n := fun l => by
      induction l with
      | nil => intro _; exact Nat.zero_le _
      | cons x l ih =>
        intro h
        rw [List.all_cons, Bool.and_eq_true] at h
        have h1 := dpt_ok n x h.1
        have h2 := ih h.2
        show max (nk x).depth (NestedKey.depthAll (nks l)) ≤ n
        omega
    show NestedKey.depthAll (nks l) + 1 ≤ n + 1
    have := ih l h
    omega
/-- ints and tuples alone -/
def pl : Nat → Dt → Bool
  | _, .int _ => true
  | n + 1, .tup l => l.all (pl n)
  | _, _ => false
def eqL (f : Dt → Dt → Bool) : List Dt → List Dt → Bool
  | [], [] => true
  | x :: xs, y :: ys => f x y && eqL f xs ys
  | _, _ => false
def eqD : Nat → Dt → Dt → Bool
  | _, .int a, .int b => ieq a b
  | n + 1, .tup a, .tup b => eqL (eqD n) a b
  | _, _, _ => false
theorem eqL_true {f : Dt → Dt → Bool} (h : ∀ x y, f x y = true → x = y) : ∀ {xs ys : List Dt}, eqL f xs ys = true → xs = ys
  | [], [], _ => rfl
  | [], _ :: _, e => by cases e
  | _ :: _, [], e => by cases e
  | x :: xs, y :: ys, e => by
    unfold eqL at e
    rw [Bool.and_eq_true] at e
    rw [h x y e.1, eqL_true h e.2]
theorem eqD_true : ∀ (n : Nat) (x y : Dt), eqD n x y = true → x = y
  | n, .int a, .int b, e => by
    have e' : ieq a b = true := by cases n <;> exact e
    rw [ieq_true e']
  | 0, .tup a, .tup b, e => by cases e
  | n + 1, .tup a, .tup b, e => by rw [eqL_true (fun x y => eqD_true n x y) (show eqL (eqD n) a b = true from e)]
  | n, .non, y, e => by cases n <;> cases y <;> cases e
  | n, .bl _, y, e => by cases n <;> cases y <;> cases e
  | n, .int _, .non, e => by cases n <;> cases e
  | n, .int _, .bl _, e => by cases n <;> cases e
  | n, .int _, .tup _, e => by cases n <;> cases e
  | n, .tup _, .non, e => by cases n <;> cases e
  | n, .tup _, .bl _, e => by cases n <;> cases e
  | n, .tup _, .int _, e => by cases n <;> cases e
theorem eqL_self {f : Dt → Dt → Bool} : ∀ {l : List Dt}, (∀ x ∈ l, f x x = true) → eqL f l l = true
  | [], _ => rfl
  | x :: l, h => by
    unfold eqL
    rw [h x List.mem_cons_self, eqL_self fun y hy => h y (List.mem_cons_of_mem _ hy)]
    rfl
theorem eqD_self : ∀ (n : Nat) (x : Dt), pl n x = true → eqD n x x = true
  | n, .int i, _ => by
    have : ieq i i = true := by rw [← ieq_dec]; exact decide_eq_true rfl
    cases n <;> exact this
  | 0, .tup _, h => by cases h
  | n + 1, .tup l, h => eqL_self fun x hx => eqD_self n x (List.all_eq_true.mp (show l.all (pl n) = true from h) x hx)
  | n, .non, h => by cases n <;> cases h
  | n, .bl _, h => by cases n <;> cases h
theorem nk_inj : ∀ (n : Nat) (x y : Dt), pl n x = true → pl n y = true → nk x = nk y → x = y
  | n, .int i, .int j, _, _, e => by
    have e' : NestedKey.num i = NestedKey.num j := e
    cases e'
    rfl
  | 0, .tup _, _, h, _, _ => by cases h
  | 0, .int _, .tup _, _, h, _ => by cases h
  | n + 1, .tup a, .tup b, hx, hy, e => by
    have e' : NestedKey.tup (nks a) = NestedKey.tup (nks b) := e
    injection e' with e1
    have go : ∀ a b : List Dt, a.all (pl n) = true → b.all (pl n) = true → nks a = nks b → a = b := fun a => by
      induction a with
      | nil =>
        intro b _ _ e
        cases b with
        | nil => rfl
        | cons y b => cases e
      | cons x a ih =>
        intro b ha hb e
        cases b with
        | nil => cases e
        | cons y b =>
          rw [List.all_cons, Bool.and_eq_true] at ha hb
          have e2 : nk x :: nks a = nk y :: nks b := e
          injection e2 with e3 e4
          rw [nk_inj n x y ha.1 hb.1 e3, ih b ha.2 hb.2 e4]
    rw [go a b hx hy e1]
  | n + 1, .int _, .tup _, _, _, e => by cases e
  | n + 1, .tup _, .int _, _, _, e => by cases e
  | n, .non, _, h, _, _ => by cases n <;> cases h
  | n, .bl _, _, h, _, _ => by cases n <;> cases h
  | n, _, .non, _, h, _ => by cases n <;> cases h
  | n, _, .bl _, _, h, _ => by cases n <;> cases h
def putD (l : List Dt) (d : Dt) : List Dt := if l.any (eqD 8 d) then l else l ++ [d]
theorem kn_any {H : Hp} {l : List Dt} {xs : List (NestedKey × Addr)} {d : Dt} (r : KN H l xs) (hl : l.all (pl 8) = true) (hd : pl 8 d = true) : xs.any (fun x => decide (x.1 = nk d)) = l.any (eqD 8 d) := by
  induction r with
  | nil => rfl
  | @cons e b l m a e1 r ih =>
    rw [List.all_cons, Bool.and_eq_true] at hl
    rw [List.any_cons, List.any_cons, ih hl.2]
    congr 1
    cases h : eqD 8 d e with
    | true =>
      rw [← eqD_true 8 d e h]
      exact decide_eq_true rfl
    | false =>
      refine decide_eq_false fun z => ?_
      rw [← nk_inj 8 _ _ hl.1 hd z, eqD_self 8 e hl.1] at h
      cases h
def mPutN (i : Nat) (fk : En → Option Dt) : MS := fun ε => match vOw i ε with
  | some (.dN l) => match fk ε with
    | some d => if dpt 8 d && pl 8 d && l.all (pl 8) && Nat.ble l.length 100000 then some (.nx (sset ε i (some (.ow (.dN (putD l d)))))) else none
    | none => none
  | _ => none
theorem rep_ref {H : Hp} {d : Dt} {v : V} (r : Rep H d v) (h : ∃ l, d = .tup l) : ∃ b, v = .ref b := by
  obtain ⟨l, rfl⟩ := h
  cases r with
  | tup g _ => exact ⟨_, rfl⟩
def isTup : Dt → Bool
  | .tup _ => true
  | _ => false
def oT (f : En → Option Dt) : En → Option Dt := fun ε => match f ε with
  | some (.tup l) => some (.tup l)
  | _ => none
theorem ss_putN {i : Nat} {ty : TE} {fk : En → Option Dt} (hk : SE ty fk) : SS (tAsg (tC (.bl true)) (gSub (tVar i) ty rSetN)) (mPutN i (oT fk)) := fun H0 H σ ε r R e D p => by
  unfold mPutN at e
  split at e
  · rename_i l e2
    split at e
    · rename_i d e3
      split at e
      · rename_i hc
        cases e
        rw [Bool.and_eq_true, Bool.and_eq_true, Bool.and_eq_true] at hc
        obtain ⟨⟨⟨c1, c2⟩, c3⟩, c4⟩ := hc
        have h1 := vOw_some e2
        obtain ⟨a, ha, h2, h3, h4⟩ := R.ow i _ h1
        have e4 : fk ε = some d ∧ ∃ t, d = .tup t := by
          unfold oT at e3
          split at e3
          · rename_i t e5
            cases e3
            exact ⟨e5, t, rfl⟩
          · cases e3
        refine ⟨.ref a, ha, hk H0 H σ ε _ R e4.1 _ fun H2 y s2 r2 => ?_⟩
        obtain ⟨b, rfl⟩ := rep_ref r2 e4.2
        cases h4.same s2 with
        | @dN _ xs _ _ g1 g2 g3 g4 =>
          have te : TEx H2 (upd H2 a (NF a (putN xs (nk d) b))) := TEx.put g1 fun _ z => by cases z
          have hd := dpt_ok 8 d c1
          have ek := kn_any g2 c3 c2
          have g5 := (KN.put g2 r2 hd).tex te
          rw [ek] at g5
          obtain ⟨R3, k3⟩ := (R.same s2).write (o := NF a (putN xs (nk d) b)) (c' := .dN (putD l d)) h1 ha rfl (.dN trivial upd_same g5 g3 (putN_nodup g4))
          exact ⟨a, b, xs, l, d, rfl, rfl, rfl, g1, g2, g4, r2, hd, by rw [← g2.length]; exact Nat.le_of_ble_eq_true c4, p σ _ R3 ((Keep.same s2).trans k3)⟩
      · cases e
    · cases e
  · cases e
end Wr

set_option maxHeartbeats 1000000
/-! A def that writes to the dict it is handed. -/
namespace Wr
open PySem PySem.Spec PyProof.Rows L2

theorem R.writeG {H0 H H' : Hp} {σ : L2.St} {ε : En} (r : R H0 H σ ε) {i : Nat} {c c' : Ct} {a : Addr} (k : ∀ b x, b ≠ a → H b = some x → H' b = some x) (h : sget ε i = some (.ow c)) (ha : σ[i]? = some (some (V.ref a))) (f : c'.flat = true) (h' : AtP (fun _ => True) H' c' a) :
    R H0 H' σ (sset ε i (some (.ow c'))) ∧ Keep σ ε H σ (sset ε i (some (.ow c'))) H' := by
  obtain ⟨a', h1, h2, h3, h4⟩ := r.ow i c h
  rw [ha] at h1
  cases h1
  have hi : i < σ.length := by rw [r.len]; exact sget_lt h
  have own : OwnAt σ ε a := ⟨i, c, h, ha⟩
  obtain ⟨_, u, hu, hn⟩ := r.own_there own
  have te : TEx H H' := fun b xs e => k b _ (fun z => by subst z; rw [hu] at e; exact hn xs (Option.some.inj e)) e
  have ho : ∀ {b}, OwnAt σ (sset ε i (some (.ow c'))) b → OwnAt σ ε b := fun {b} z => by
    obtain ⟨j, c1, g1, g2⟩ := z
    by_cases hj : j = i
    · subst hj
      exact ⟨j, c, h, g2⟩
    · rw [sget_set_ne hj] at g1
      exact ⟨j, c1, g1, g2⟩
  refine ⟨⟨fun b x e => ?_, by rw [sset_len, r.len], fun j d g => ?_, fun j c1 g => ?_, fun j c1 g => ?_, fun j k c1 c2 b g1 g2 g3 g4 => ?_⟩, fun b x e n => ⟨?_, fun z => n (ho z)⟩⟩
  · exact k b x (fun z => by subst z; rw [h2] at e; cases e) (r.ex b x e)
  · by_cases hj : j = i
    · subst hj
      cases sget_set_same g
    · rw [sget_set_ne hj] at g
      obtain ⟨v, g1, g2⟩ := r.im j d g
      exact ⟨v, g1, g2.tex te⟩
  · by_cases hj : j = i
    · subst hj
      cases sget_set_same g
    · rw [sget_set_ne hj] at g
      obtain ⟨b, g1, g2⟩ := r.fz j c1 g
      exact ⟨b, g1, g2.keep te (fun p x q e => k p x (fun z => q (by subst z; exact own)) e) fun p x q _ z => q (ho z)⟩
  · by_cases hj : j = i
    · subst hj
      have e1 := Option.some.inj (sget_set_same g)
      cases e1
      exact ⟨a, ha, h2, f, h'⟩
    · rw [sget_set_ne hj] at g
      obtain ⟨b, g1, g2, g3, g4⟩ := r.ow j c1 g
      have hb : b ≠ a := fun z => by
        subst z
        exact hj (r.inj j i c1 c b g h g1 ha)
      have g5 : AtP (fun p => p ≠ a) H c1 b := g4.flat_of g3 hb
      exact ⟨b, g1, g2, g3, (g5.keep (P' := fun p => p ≠ a) te (fun p x q e => k p x q e) fun _ _ q _ => q).any⟩
  · have st : ∀ {j c1}, sget (sset ε i (some (.ow c'))) j = some (.ow c1) → ∃ c2, sget ε j = some (.ow c2) := fun {j c1} q => by
      by_cases hj : j = i
      · subst hj
        exact ⟨c, h⟩
      · rw [sget_set_ne hj] at q
        exact ⟨c1, q⟩
    obtain ⟨d1, q1⟩ := st g1
    obtain ⟨d2, q2⟩ := st g2
    exact r.inj j k d1 d2 b q1 q2 g3 g4
  · exact k b x (fun z => n (by subst z; exact own)) e
/-- as Post, and the slot s stands -/
def PostX (s : Nat) (H0 H : Hp) (σ : L2.St) (ε : En) (D : Ends) : Rs → Prop
  | .nx ε' => ∀ σ' H', R H0 H' σ' ε' → Keep σ ε H σ' ε' H' → σ'[s]? = σ[s]? → D.nx σ' H'
  | _ => False
def SX (s : Nat) (t : TS) (m : MS) : Prop := ∀ H0 H σ ε r, R H0 H σ ε → m ε = some r → ∀ D : Ends, PostX s H0 H σ ε D r → t D σ H
theorem PostX.after {s : Nat} {H0 H H1 : Hp} {σ σ1 : L2.St} {ε ε1 : En} {D : Ends} {r : Rs} (p : PostX s H0 H σ ε D r) (k : Keep σ ε H σ1 ε1 H1) (e : σ1[s]? = σ[s]?) : PostX s H0 H1 σ1 ε1 D r := by
  cases r with
  | nx ε' => exact fun σ' H' R' k' e' => p σ' H' R' (k.trans k') (e'.trans e)
  | rI d => exact p.elim
  | rF c => exact p.elim
theorem sx_seq {s : Nat} {t u : TS} {m n : MS} (h1 : SX s t m) (h2 : SX s u n) : SX s (tSeq t u) (mSeq m n) := fun H0 H σ ε r R e D p => by
  unfold mSeq at e
  split at e
  · rename_i ε1 e1
    exact h1 H0 H σ ε _ R e1 _ fun σ' H' R' k es => h2 H0 H' σ' ε1 r R' e D (p.after k es)
  · rename_i n1
    refine h1 H0 H σ ε r R e _ ?_
    cases r with
    | nx ε' => exact absurd e (n1 ε')
    | rI d => exact p.elim
    | rF c => exact p.elim
theorem sx_setI {s i : Nat} {te : TE} (hs : s ≠ i) {f : En → Option Dt} (h : SE te f) : SX s (tAsg te (gName i)) (mSetI i f) := fun H0 H σ ε r R e D p => by
  unfold mSetI at e
  split at e
  · rename_i d e1
    cases e
    refine h H0 H σ ε d R e1 _ fun H1 v s1 r1 => ?_
    obtain ⟨R2, k2⟩ := (R.same s1).set_im (i := i) r1
    exact p _ H1 R2 ((Keep.same s1).trans k2) (List.getElem?_set_ne (Ne.symm hs))
  · cases e
theorem sx_putN {i s : Nat} {ty : TE} {fk : En → Option Dt} (hk : SE ty fk) : SX s (tAsg (tC (.bl true)) (gSub (tVar i) ty rSetN)) (mPutN i (oT fk)) := fun H0 H σ ε r R e D p => by
  unfold mPutN at e
  split at e
  · rename_i l e2
    split at e
    · rename_i d e3
      split at e
      · rename_i hc
        cases e
        rw [Bool.and_eq_true, Bool.and_eq_true, Bool.and_eq_true] at hc
        obtain ⟨⟨⟨c1, c2⟩, c3⟩, c4⟩ := hc
        have h1 := vOw_some e2
        obtain ⟨a, ha, h2, h3, h4⟩ := R.ow i _ h1
        have e4 : fk ε = some d ∧ ∃ t, d = .tup t := by
          unfold oT at e3
          split at e3
          · rename_i t e5
            cases e3
            exact ⟨e5, t, rfl⟩
          · cases e3
        refine ⟨.ref a, ha, hk H0 H σ ε _ R e4.1 _ fun H2 y s2 r2 => ?_⟩
        obtain ⟨b, rfl⟩ := rep_ref r2 e4.2
        cases h4.same s2 with
        | @dN _ xs _ _ g1 g2 g3 g4 =>
          have te : TEx H2 (upd H2 a (NF a (putN xs (nk d) b))) := TEx.put g1 fun _ z => by cases z
          have hd := dpt_ok 8 d c1
          have ek := kn_any g2 c3 c2
          have g5 := (KN.put g2 r2 hd).tex te
          rw [ek] at g5
          obtain ⟨R3, k3⟩ := (R.same s2).write (o := NF a (putN xs (nk d) b)) (c' := .dN (putD l d)) h1 ha rfl (.dN trivial upd_same g5 g3 (putN_nodup g4))
          exact ⟨a, b, xs, l, d, rfl, rfl, rfl, g1, g2, g4, r2, hd, by rw [← g2.length]; exact Nat.le_of_ble_eq_true c4, p σ _ R3 ((Keep.same s2).trans k3) rfl⟩
      · cases e
    · cases e
  · cases e
theorem sx_for {s : Nat} {wi : TI} {g : TG} {tb : TS} {fi : En → Option (List Dt)} {m : Dt → En → Option En} {mb : MS} {is : List Nat} (hs : s ∉ is) (hi : SI NO wi fi) (hg : SG g m is) (hb : SX s tb mb) : SX s (tFor wi g tb) (mFor fi m mb) := fun H0 H σ ε r R e D p => by
  unfold mFor at e
  split at e
  · rename_i ds e1
    refine hi H0 H σ ε ds R e1 _ fun J H1 s1 ok => ?_
    have R1 := R.same s1
    refine ⟨fun i k σ' H' => i + k = ds.length ∧ ∃ ε', Wr.R H0 H' σ' ε' ∧ Keep σ ε H1 σ' ε' H' ∧ σ'[s]? = σ[s]? ∧ mForL m mb (ds.drop i) ε' = some r, ⟨ds.length, by omega, ε, R1, Keep.refl _ _ _, rfl, e⟩, ?_⟩
    rintro i k σ' H' ⟨ei, ε', R', kp, es, hgo⟩
    have hh : Hs (NO σ ε) H1 H' := ⟨fun a o n h => (kp a o h n).1, kp.tex R1⟩
    cases hdrop : ds.drop i with
    | nil =>
      have hi' : ds.length ≤ i := by simpa using hdrop
      have ei' : i = ds.length := by omega
      subst ei'
      rw [hdrop] at hgo
      cases hgo
      exact .inl ⟨ok.stop H' hh, p σ' H' R' ((Keep.same s1).trans kp) es⟩
    | cons d rest =>
      obtain ⟨hn, hrest⟩ := nth_drop hdrop
      rw [hdrop] at hgo
      have hk : 0 < k := by
        have h2 : (ds.drop i).length = (d :: rest).length := by rw [hdrop]
        rw [List.length_drop, List.length_cons] at h2
        omega
      refine .inr ⟨ok.go i d H' hn hh, fun σ2 H2 => ∃ ε2, Wr.R H0 H2 σ2 ε2 ∧ Keep σ ε H1 σ2 ε2 H2 ∧ σ2[s]? = σ[s]? ∧ mForL m mb rest ε2 = some r, fun σ2 H2 n2 => ⟨k - 1, by omega, by omega, ?_⟩, fun x H2 hy => ?_⟩
      · rw [hrest]
        exact n2
      · obtain ⟨s2, rx⟩ := ok.yld i d H' x H2 hn hh hy
        unfold mForL at hgo
        split at hgo
        · cases hgo
        · rename_i ε1 g1
          obtain ⟨σ2, T⟩ := hg H2 σ' ε' x d ε1 rx g1
          obtain ⟨R2, k2⟩ := T.rel H0 H2 (fun _ _ h => h) (R'.same s2)
          have kk := (kp.trans (Keep.same s2)).trans k2
          have e2 : σ2[s]? = σ'[s]? := by rw [← wipe_keep hs, T.wip is fun _ z => z, wipe_keep hs]
          refine T.go H2 (fun _ _ h => h) _ ?_
          split at hgo
          · rename_i ε2 g2
            exact hb H0 H2 σ2 ε1 _ R2 g2 _ fun σ3 H3 R3 k3 e3 => ⟨ε2, R3, kk.trans k3, (e3.trans e2).trans es, hgo⟩
          · rename_i n1
            refine hb H0 H2 σ2 ε1 r R2 hgo _ ?_
            cases r with
            | nx ε' => exact absurd hgo (n1 ε')
            | rI d => exact p.elim
            | rF c => exact p.elim
  · cases e

/-! ### the def -/
def spG (φ : List Dt → List Dt → Option (List Dt)) : Sp := fun vs H Q _ => ∃ (xs : List Dt) (us : List V) (a : Addr) (l l' : List Dt), vs = us ++ [.ref a] ∧ Reps H xs us ∧ AtP (fun _ => True) H (.dN l) a ∧ φ xs l = some l' ∧
  ∀ H1, (∀ b o, b ≠ a → H b = some o → H1 b = some o) → AtP (fun _ => True) H1 (.dN l') a → Q .non H1
def imL : List Dt → List Ar
  | [] => []
  | d :: l => .im d :: imL l
theorem imL_len : ∀ l, (imL l).length = l.length
  | [] => rfl
  | d :: l => by simp [imL, imL_len l]
def initG (n : Nat) (xs : List Dt) (l : List Dt) : En := sset (init n (imL xs ++ [.ct (.dN l)])) xs.length (some (.ow (.dN l)))
def runG (n k : Nat) (m : MS) (xs l : List Dt) : Option (List Dt) := if Nat.beq xs.length k then match m (initG n xs l) with
    | some (.nx ε) => (match vOw k ε with
      | some (.dN l') => some l'
      | _ => none)
    | _ => none
  else none
def without (H : Hp) (a : Addr) : Hp := fun b => if b = a then none else H b
theorem R.claim {H : Hp} {σ : L2.St} {ε : En} (r : R H H σ ε) {i : Nat} {c : Ct} {a : Addr} (h : sget ε i = some (.fz c)) (ha : σ[i]? = some (some (.ref a))) (fl : c.flat = true) (n1 : ∀ j c', sget ε j = some (.fz c') → j = i) (n2 : ∀ j c', sget ε j ≠ some (.ow c')) :
    R (without H a) H σ (sset ε i (some (.ow c))) := by
  have get : ∀ {j t}, sget (sset ε i (some (.ow c))) j = some t → (j = i ∧ t = .ow c) ∨ (j ≠ i ∧ sget ε j = some t) := fun {j t} g => by
    by_cases hj : j = i
    · subst hj
      exact .inl ⟨rfl, (Option.some.inj (sget_set_same g)).symm⟩
    · rw [sget_set_ne hj] at g
      exact .inr ⟨hj, g⟩
  refine ⟨fun b x e => ?_, by rw [sset_len, r.len], fun j d g => ?_, fun j c1 g => ?_, fun j c1 g => ?_, fun j k c1 c2 b g1 g2 g3 g4 => ?_⟩
  · unfold without at e
    split at e
    · cases e
    · exact e
  · rcases get g with ⟨_, z⟩ | ⟨_, g⟩
    · cases z
    · exact r.im j d g
  · rcases get g with ⟨_, z⟩ | ⟨hj, g⟩
    · cases z
    · exact (hj (n1 j _ g)).elim
  · rcases get g with ⟨rfl, z⟩ | ⟨hj, g⟩
    · cases z
      obtain ⟨b, g1, g2⟩ := r.fz _ _ h
      rw [ha] at g1
      cases g1
      exact ⟨a, ha, if_pos rfl, fl, g2.any⟩
    · exact (n2 j _ g).elim
  · rcases get g1 with ⟨rfl, _⟩ | ⟨_, g1⟩
    · rcases get g2 with ⟨rfl, _⟩ | ⟨_, g2⟩
      · rfl
      · exact (n2 _ _ g2).elim
    · exact (n2 _ _ g1).elim
theorem reps_A {H : Hp} : ∀ {xs : List Dt} {us : List V} {a : Addr} {c : Ct}, Reps H xs us → AtP (fun _ => True) H c a → RepAs H (imL xs ++ [.ct c]) (us ++ [.ref a])
  | [], _, a, c, .nil, h => .cons ⟨a, rfl, h⟩ .nil
  | d :: xs, _, a, c, .cons r rs, h => .cons r (reps_A rs h)
theorem initG_get {n : Nat} : ∀ {xs : List Dt} {c : Ct} {j : Nat} {t : Sl}, xs.length < n → sget (init n (imL xs ++ [.ct c])) j = some t → (j = xs.length ∧ t = .fz c) ∨ ∃ d, t = .im d
  | [], c, j, t, hn, h => by
    cases j with
    | zero => exact .inl ⟨rfl, (Option.some.inj (show some (Sl.fz c) = some t from h)).symm⟩
    | succ j =>
      have h' : sget (blanks (n - 1)) j = some t := h
      rw [blanks_get] at h'
      cases h'
  | d :: xs, c, j, t, hn, h => by
    cases j with
    | zero => exact .inr ⟨d, (Option.some.inj (show some (Sl.im d) = some t from h)).symm⟩
    | succ j =>
      rcases initG_get (n := n - 1) (xs := xs) (c := c) (j := j) (t := t) (by rw [List.length_cons] at hn; omega) h with ⟨e1, e2⟩ | e
      · exact .inl ⟨by rw [List.length_cons, e1], e2⟩
      · exact .inr e
theorem initG_at {n : Nat} : ∀ {xs : List Dt} {c : Ct}, sget (init n (imL xs ++ [.ct c])) xs.length = some (.fz c)
  | [], c => rfl
  | d :: xs, c => initG_at (n := n - 1) (xs := xs) (c := c)
section
variable {P : Program} {w : World} {K : PySem.W.Frag} {mg : Str → Option Value} {base : Heap}
theorem fn_G {x qual : Str} {st : Stmt} {f : Addr} {fd : FuncData} {N ps : List Str} {k n : Nat} {t : TS} {m : MS} (F : Fun K x qual st f fd) (S : FnScope N ps (defScope st)) (hn : ps.length = n + 1) (hN : n + 1 ≤ N.length) (hm : SX n t m)
    (hb : ∀ (cdv : Value) (A : Around) (outer : List Env) (s : Shared) (H : Hp) (E : XK), Room k (A.deeper (envOfC qual (defScope st) s.heap.objs.size f cdv)) →
      PSs (cxOf CX0 P w K mg base N qual (defScope st) f cdv A outer s H E).nox (defBody st) t) : FnOk P w K mg base CX0 (k + 1) f fd ps (spG (runG N.length n m)) := by
  have hlen : ∀ {xs l l'}, runG N.length n m xs l = some l' → xs.length = n := fun {xs l l'} h => by
    unfold runG at h
    split at h
    · rename_i e
      exact Nat.eq_of_beq_eq_true e
    · cases h
  refine F.ok S (fun vs H Q E h => ?_) fun cdv A outer s H vs Q E hr h => ?_
  · obtain ⟨xs, us, a, l, l', rfl, h1, h2, h3, _⟩ := h
    rw [List.length_append, ← h1.length, hlen h3, hn]
    rfl
  · obtain ⟨xs, us, a, l, l', rfl, h1, h2, h3, q⟩ := h
    have hx := hlen h3
    refine ⟨t, hb cdv A outer s H E hr, ?_⟩
    unfold runG at h3
    split at h3
    · split at h3
      · rename_i ε' e1
        split at h3
        · rename_i l2 e2
          cases h3
          have hu : us.length = n := by rw [← h1.length]; exact hx
          have R0 := R.begin (N := N) (reps_A h1 h2) (by rw [List.length_append, imL_len, hx]; exact hN)
          have hat : (L2.start N (us ++ [.ref a]))[n]? = some (some (V.ref a)) := by
            unfold L2.start
            rw [List.getElem?_append_left (by rw [List.length_map, List.length_append, hu]; exact Nat.lt_succ_self n), List.getElem?_map, List.getElem?_append_right (by rw [hu]; exact Nat.le_refl n), hu, Nat.sub_self]
            rfl
          have R1 := R0.claim (i := xs.length) initG_at (by rw [hx]; exact hat) rfl (fun j c' g => by
            rcases initG_get (by omega) g with ⟨z, _⟩ | ⟨_, z⟩
            · exact z
            · cases z) (fun j c' g => by
            rcases initG_get (by omega) g with ⟨_, z⟩ | ⟨_, z⟩ <;> cases z)
          refine hm _ H _ _ _ R1 e1 _ fun σ' H' R' kp es => ?_
          obtain ⟨a', g1, g2, g3, g4⟩ := R'.ow n _ (vOw_some e2)
          rw [es, hat] at g1
          cases g1
          exact q H' (fun b o hb e => R'.ex b o (by unfold without; rw [if_neg hb]; exact e)) g4
        · cases h3
      · cases h3
    · cases h3
end
/-! ### its call -/
def SAo (i : Nat) (t : TA) (f : En → Option (List Dt)) : Prop := ∀ H0 H σ ε xs a, R H0 H σ ε → f ε = some xs → σ[i]? = some (some (V.ref a)) → ∀ Q : List V → Hp → Prop, (∀ H1 us, Same H H1 → Reps H1 xs us → Q (us ++ [.ref a]) H1) → t σ H Q
theorem sao_last {i : Nat} : SAo i (tCons (tVar i) tNil) aNil := fun H0 H σ ε xs a R e ha Q q => by
  cases e
  exact ⟨.ref a, ha, q H [] (Same.refl H) .nil⟩
theorem sao_cons {i : Nat} {te : TE} {ta : TA} {f : En → Option Dt} {g : En → Option (List Dt)} (h1 : SE te f) (h2 : SAo i ta g) : SAo i (tCons te ta) (aCons f g) := fun H0 H σ ε xs a R e ha Q q => by
  obtain ⟨d, ds, e1, e2, e3⟩ := o2_some e
  cases e3
  exact h1 H0 H σ ε d R e1 _ fun H1 v s1 r1 => h2 H0 H1 σ ε ds a (R.same s1) e2 ha _ fun H2 us s2 r2 => q H2 (v :: us) (s1.trans s2) (.cons (r1.same s2) r2)
def mCallG (i : Nat) (f : En → Option (List Dt)) (φ : List Dt → List Dt → Option (List Dt)) : MS := fun ε => match f ε with
  | none => none
  | some xs => match vOw i ε with
    | some (.dN l) => (match φ xs l with
      | some l' => some (.nx (sset ε i (some (.ow (.dN l')))))
      | none => none)
    | _ => none
theorem ss_callG {i : Nat} {ta : TA} {f : En → Option (List Dt)} {φ : List Dt → List Dt → Option (List Dt)} (h : SAo i ta f) : SS (tDrop (tCall (spG φ) [] E0 ta)) (mCallG i f φ) := fun H0 H σ ε r R e D p => by
  unfold mCallG at e
  split at e
  · cases e
  · rename_i xs e1
    split at e
    · rename_i l e2
      split at e
      · rename_i l' e3
        cases e
        have h1 := vOw_some e2
        obtain ⟨a, ha, h2, h3, h4⟩ := R.ow i _ h1
        refine h H0 H σ ε xs a R e1 ha _ fun H1 us s1 r1 => ⟨xs, us, a, l, l', by rw [List.append_nil], r1, h4.same s1, e3, fun H2 k at2 => ?_⟩
        obtain ⟨R2, k2⟩ := (R.same s1).writeG k h1 ha rfl at2
        exact p σ H2 R2 ((Keep.same s1).trans k2)
      · cases e
    · cases e
end Wr

set_option maxHeartbeats 1000000
/-! neighbours, by hand: a list of dicts that are written. -/
namespace Wr
open PySem PySem.Spec PyProof.Rows L2

/-- a list's dicts: new, apart from each other and from the list -/
inductive RW (H0 : Hp) (D : Addr) (H : Hp) : List (List (Int × Dt)) → List V → Prop
  | nil : RW H0 D H [] []
  | cons {b : Addr} {ys : List (Key × V)} {l : List (Int × Dt)} {ls : List (List (Int × Dt))} {xs : List V} : H b = some (.dK ys) → KI H l ys → H0 b = none → b ≠ D → V.ref b ∉ xs → RW H0 D H ls xs → RW H0 D H (l :: ls) (.ref b :: xs)
section
variable {H0 H H' : Hp} {D : Addr}
theorem RW.keep (te : TEx H H') : ∀ {ls : List (List (Int × Dt))} {xs : List V}, (∀ b o, V.ref b ∈ xs → H b = some o → H' b = some o) → RW H0 D H ls xs → RW H0 D H' ls xs
  | _, _, _, .nil => .nil
  | _, _, k, .cons h1 h2 h3 h4 h5 r => .cons (k _ _ List.mem_cons_self h1) (h2.tex te) h3 h4 h5 (RW.keep te (fun b o hb => k b o (List.mem_cons_of_mem _ hb)) r)
theorem RW.there : ∀ {ls : List (List (Int × Dt))} {xs : List V} {b : Addr}, RW H0 D H ls xs → V.ref b ∈ xs → (∃ o, H b = some o) ∧ b ≠ D ∧ H0 b = none
  | _, _, b, .cons h1 h2 h3 h4 h5 r, h => by
    rcases List.mem_cons.mp h with e | e
    · cases e
      exact ⟨⟨_, h1⟩, h4, h3⟩
    · exact RW.there r e
theorem RW.app {b : Addr} (hb : H b = some (.dK [])) (h0 : H0 b = none) (hD : b ≠ D) : ∀ {ls : List (List (Int × Dt))} {xs : List V}, V.ref b ∉ xs → RW H0 D H ls xs → RW H0 D H (ls ++ [[]]) (xs ++ [.ref b])
  | _, _, _, .nil => .cons hb .nil h0 hD (by simp) .nil
  | _, _, n, .cons h1 h2 h3 h4 h5 r => .cons h1 h2 h3 h4 (fun z => by
      rcases List.mem_append.mp z with z | z
      · exact h5 z
      · rw [List.mem_singleton] at z
        exact n (by rw [z]; exact List.mem_cons_self)) (RW.app hb h0 hD (fun z => n (List.mem_cons_of_mem _ z)) r)
theorem RW.get : ∀ {ls : List (List (Int × Dt))} {xs : List V} {i : Nat} {l : List (Int × Dt)}, RW H0 D H ls xs → nth ls i = some l → ∃ b ys, xs[i]? = some (V.ref b) ∧ H b = some (.dK ys) ∧ KI H l ys ∧ H0 b = none ∧ b ≠ D
  | _, _, 0, l, .cons h1 h2 h3 h4 h5 r, h => by
    cases (Option.some.inj (show some _ = some l from h))
    exact ⟨_, _, rfl, h1, h2, h3, h4⟩
  | _, _, i + 1, l, .cons h1 h2 h3 h4 h5 r, h => by
    obtain ⟨b, ys, e1, e2⟩ := RW.get (i := i) (l := l) r h
    exact ⟨b, ys, by rw [List.getElem?_cons_succ]; exact e1, e2⟩
  | _, _, 0, l, .nil, h => by cases h
  | _, _, i + 1, l, .nil, h => by cases h
theorem RW.put {b : Addr} {ys : List (Key × V)} {l : List (Int × Dt)} (te : TEx H H') (k : ∀ c o, c ≠ b → H c = some o → H' c = some o) (hb : H' b = some (.dK ys)) (hk : KI H' l ys) : ∀ {ls : List (List (Int × Dt))} {xs : List V} {i : Nat}, RW H0 D H ls xs → xs[i]? = some (V.ref b) → RW H0 D H' (ls.set i l) xs
  | _, _, 0, .cons h1 h2 h3 h4 h5 r, h => by
    rw [List.getElem?_cons_zero] at h
    cases h
    exact .cons hb hk h3 h4 h5 (r.keep te fun c o hc e => k c o (fun z => by subst z; exact h5 hc) e)
  | _, _, i + 1, .cons (b := c) h1 h2 h3 h4 h5 r, h => by
    rw [List.getElem?_cons_succ] at h
    have hc : c ≠ b := fun z => by
      subst z
      exact h5 (List.mem_of_getElem? h)
    exact .cons (k _ _ hc h1) (h2.tex te) h3 h4 h5 (RW.put te k hb hk (i := i) r h)
  | _, _, _, .nil, h => by simp at h
theorem RW.len : ∀ {ls : List (List (Int × Dt))} {xs : List V}, RW H0 D H ls xs → ls.length = xs.length
  | _, _, .nil => rfl
  | _, _, .cons _ _ _ _ _ r => by rw [List.length_cons, List.length_cons, RW.len r]
end

/-! ### the first loop -/
section
variable {K : PySem.W.Frag} {H0 : Hp}
def NN (_ : L2.St) (_ : En) (_ : Addr) : Prop := False
theorem nb_make {te : TE} {f : En → Option Dt} {v : Nat} (h : SE te f) {H : Hp} {σ : L2.St} {ε : En} {ds : List Dt} (R : R H0 H σ ε) (e : f ε = some (.tup ds)) (hn : ds.length ≤ 100000) {Q : VK}
    (q : ∀ H' D xs, Same H H' → H' D = some (.lst xs) → H0 D = none → RW H0 D H' (List.replicate ds.length []) xs → Q (.ref D) H') : tLc (iTup K te) (gName v) tYes tDNewK [v] σ H Q := by
  refine si_tup (N := NN) (K := K) h H0 H σ ε ds R (show o1 f kParts ε = some ds by unfold o1; rw [e]; rfl) _ fun J H1 s1 ok D hD => ?_
  have R1 := R.same s1
  refine ⟨fun i k H' => i + k = ds.length ∧ KD D (upd H1 D (.lst [])) H' ∧ ∃ acc, H' D = some (.lst acc) ∧ RW H0 D H' (List.replicate i []) acc, ⟨ds.length, by omega, KD.refl _ _, [], upd_same, .nil⟩, ?_⟩
  rintro i k H' ⟨ei, kH, acc, hA, hr⟩
  have sH : Same H1 H' := KD.same hD kH
  have hs : Hs (NN σ ε) H1 H' := ⟨fun a o n => n.elim, .of sH⟩
  by_cases hi : i < ds.length
  · obtain ⟨d, hd⟩ : ∃ d, nth ds i = some d := ⟨ds[i], by rw [nth_eq, List.getElem?_eq_getElem hi]⟩
    refine .inr ⟨ok.go i d H' hd hs, fun H3 => KD D (upd H1 D (.lst [])) H3 ∧ ∃ acc, H3 D = some (.lst acc) ∧ RW H0 D H3 (List.replicate (i + 1) []) acc, fun H3 n3 => ⟨k - 1, by omega, by omega, n3⟩, fun x H3 hy => ?_⟩
    obtain ⟨s3, _⟩ := ok.yld i d H' x H3 hd hs hy
    refine ⟨by rw [wipe_set (List.mem_singleton.mpr rfl)]; exact wipe_wipe [v] [v] fun _ h => h, fun p hp => ?_⟩
    have hA3 : H3 D = some (.lst acc) := s3 D _ hA
    have pD : p ≠ D := fun z => by
      subst z
      rw [hp] at hA3
      cases hA3
    have sp : Same H3 (upd H3 p (.dK [])) := Wr.Same.new hp
    have hA4 : upd H3 p (.dK []) D = some (.lst acc) := sp D _ hA3
    have h0 : H0 p = none := by
      cases hz : H0 p with
      | none => rfl
      | some o => rw [s3 p _ (sH p _ (R1.ex p o hz))] at hp; cases hp
    have nin : V.ref p ∉ acc := fun z => by
      obtain ⟨⟨o, ho⟩, _⟩ := hr.there z
      rw [s3 p _ ho] at hp
      cases hp
    have te : TEx (upd H3 p (.dK [])) (upd (upd H3 p (.dK [])) D (.lst (acc ++ [.ref p]))) := TEx.put hA4 fun _ z => by cases z
    refine ⟨acc, hA4, ?_, ((kH.trans (.of s3)).trans (.of sp)).trans KD.put, acc ++ [.ref p], upd_same, ?_⟩
    · have := hr.len
      rw [List.length_replicate] at this
      rw [← this, sizeLine_eq]
      omega
    · rw [List.replicate_succ']
      refine RW.app (by rw [upd_ne pD, upd_same]) h0 pD nin ?_
      refine ((hr.keep (.of s3) fun b o _ e => s3 b o e).keep (.of sp) fun b o _ e => sp b o e).keep te fun b o hb e => ?_
      rw [upd_ne (hr.there hb).2.1]
      exact e
  · have : i = ds.length := by omega
    subst this
    exact .inl ⟨ok.stop H' hs, q H' D acc (s1.trans sH) hA (by
      cases hz : H0 D with
      | none => rfl
      | some o => rw [R1.ex D o hz] at hD; cases hD) hr⟩

/-! ### the second loop -/
def putRow (ls : List (List (Int × Dt))) (i j : Dt) : Option (List (List (Int × Dt))) := match i, j with
  | .int (.ofNat i), .int j => match nth ls i with
    | some l => if Nat.ble l.length 100000 then some (ls.set i (putI l j (.bl true))) else none
    | none => none
  | _, _ => none
def fst (d : Dt) : Option Dt := match d with
  | .tup (a :: _) => some a
  | _ => none
theorem R.two {H0 H : Hp} {σ : L2.St} {x y : V} {d e : Dt} (s : Same H0 H) (hl : σ.length = 6) (h2 : σ[2]? = some (some x)) (h3 : σ[3]? = some (some y)) (r2 : Rep H d x) (r3 : Rep H e y) : R H0 H σ [none, none, some (.im d), some (.im e), none, none] := by
  have nc : ∀ i c, sget [none, none, some (.im d), some (.im e), none, none] i = some (.fz c) ∨ sget [none, none, some (.im d), some (.im e), none, none] i = some (.ow c) → False := fun i c h => by
    match i with
    | 0 => rcases h with h | h <;> cases h
    | 1 => rcases h with h | h <;> cases h
    | 2 => rcases h with h | h <;> cases h
    | 3 => rcases h with h | h <;> cases h
    | 4 => rcases h with h | h <;> cases h
    | 5 => rcases h with h | h <;> cases h
    | i + 6 => rcases h with h | h <;> cases h
  refine ⟨s, hl, fun i c h => ?_, fun i c h => (nc i c (.inl h)).elim, fun i c h => (nc i c (.inr h)).elim, fun i j c c' a h => (nc i c (.inr h)).elim⟩
  match i with
  | 0 => cases h
  | 1 => cases h
  | 2 => cases h; exact ⟨x, h2, r2⟩
  | 3 => cases h; exact ⟨y, h3, r3⟩
  | 4 => cases h
  | 5 => cases h
  | i + 6 => cases h
theorem fst_ix {d a : Dt} (h : fst d = some a) : kIxT d (.int 0) = some a := by
  unfold fst at h
  split at h
  · cases h
    rfl
  · cases h
/-- found[s[0]][t[0]] = True -/
theorem nb_put {s t : Nat} {H : Hp} {σ : L2.St} {ε : En} {D : Addr} {xs : List V} {ls ls' : List (List (Int × Dt))} {ds dt i j : Dt} (R : R H0 H σ ε) (nf : ∀ i c, sget ε i ≠ some (.fz c)) (no : ∀ i c, sget ε i ≠ some (.ow c)) (h1 : σ[1]? = some (some (V.ref D)))
    (hD : H D = some (.lst xs)) (hr : RW H0 D H ls xs) (es : sget ε s = some (.im ds)) (et : sget ε t = some (.im dt)) (fs : fst ds = some i) (ft : fst dt = some j) (hp : putRow ls i j = some ls') {E : Ends}
    (q : ∀ H', Wr.R H0 H' σ ε → TEx H H' → H' D = some (.lst xs) → RW H0 D H' ls' xs → E.nx σ H') :
    sDPut (tOp (rIxL K) (tVar 1) (tOp (rIxT K) (tVar s) (tC (.int 0)))) (tOp (rIxT K) (tVar t) (tC (.int 0))) (tC (.bl true)) E σ H := by
  have hs : SE (tOp (rIxT K) (tVar s) (tC (.int 0))) (o2 (vIm s) (cI 0) kIxT) := se_op rii_ixT se_var se_cI
  have ht : SE (tOp (rIxT K) (tVar t) (tC (.int 0))) (o2 (vIm t) (cI 0) kIxT) := se_op rii_ixT se_var se_cI
  have v1 : o2 (vIm s) (cI 0) kIxT ε = some i := by unfold o2 vIm; rw [es]; exact fst_ix fs
  have v2 : o2 (vIm t) (cI 0) kIxT ε = some j := by unfold o2 vIm; rw [et]; exact fst_ix ft
  unfold putRow at hp
  split at hp
  · rename_i n m
    split at hp
    · rename_i l hl
      split at hp
      · rename_i hz
        cases hp
        refine ⟨V.ref D, h1, hs H0 H σ ε _ R v1 _ fun H2 y s2 r2 => ?_⟩
        cases rep_int r2
        have hr2 := hr.keep (.of s2) fun b o _ e => s2 b o e
        obtain ⟨b, ys, g1, g2, g3, g4, g5⟩ := hr2.get hl
        refine ⟨D, xs, (n : Int), V.ref b, rfl, rfl, SqL.of (s2 D _ hD), atI_nat g1, ?_⟩
        refine ht H0 H2 σ ε _ (R.same s2) v2 _ fun H3 z s3 r3 => ?_
        have at3 : AtP (fun _ => True) H3 (.dI l) b := .dI trivial (s3 b _ g2) (g3.tex (.of s3))
        obtain ⟨o, dp, _, at4⟩ := cPut_ok (c' := .dI (putI l m (.bl true))) (d := .bl true) (v := .bl true) at3 r3 (.bl true) (by show (if Nat.ble l.length 100000 = true then _ else _) = _; rw [if_pos hz])
        refine ⟨b, _, rfl, dp, ?_⟩
        cases at4 with
        | @dI _ ys' _ _ k1 k2 =>
          have te3 : TEx H3 (upd H3 b o) := TEx.put (s3 b _ g2) fun _ z => by cases z
          have te : TEx H (upd H3 b o) := ((TEx.of s2).trans (.of s3)).trans te3
          have sm : Same H0 (upd H3 b o) := fun c x e => by
            rw [upd_ne (fun z => by subst z; rw [g4] at e; cases e)]
            exact s3 c x (s2 c x (R.ex c x e))
          refine q _ ⟨sm, R.len, fun i d g => ?_, fun i c g => (nf i c g).elim, fun i c g => (no i c g).elim, fun i j c c' a g => (no i c g).elim⟩ te ?_ ?_
          · obtain ⟨v, w1, w2⟩ := R.im i d g
            exact ⟨v, w1, w2.tex te⟩
          · rw [upd_ne g5.symm]
            exact s3 D _ (s2 D _ hD)
          · exact (hr2.keep (.of s3) fun b o _ e => s3 b o e).put te3 (fun c o' hc e => by rw [upd_ne hc]; exact e) k1 k2 g1
      · cases hp
    · cases hp
  · cases hp

def nbGo : List Dt → List (List (Int × Dt)) → Option (List (List (Int × Dt)))
  | [], ls => some ls
  | d :: r, ls => match d with
    | .tup [a, b] => (match fst a, fst b with
      | some i, some j => (match putRow ls i j with
        | some l1 => (match putRow l1 j i with
          | some l2 => nbGo r l2
          | none => none)
        | none => none)
      | _, _ => none)
    | _ => none
abbrev tPutR (K : PySem.W.Frag) (s t : Nat) : TS := sDPut (tOp (rIxL K) (tVar 1) (tOp (rIxT K) (tVar s) (tC (.int 0)))) (tOp (rIxT K) (tVar t) (tC (.int 0))) (tC (.bl true))
theorem nb_for {te : TE} {f : En → Option Dt} (h : SE te f) {H : Hp} {σ : L2.St} {ε : En} {ds : List Dt} {D : Addr} {xs : List V} {ls l' : List (List (Int × Dt))} (R : R H0 H σ ε) (e : f ε = some (.tup ds)) (hl : σ.length = 6) (h1 : σ[1]? = some (some (V.ref D)))
    (hD : H D = some (.lst xs)) (hr : RW H0 D H ls xs) (hgo : nbGo ds ls = some l') {E : Ends} (q : ∀ σ' H', σ'.length = 6 → σ'[1]? = some (some (V.ref D)) → Same H0 H' → H' D = some (.lst xs) → RW H0 D H' l' xs → E.nx σ' H') :
    tFor (iTup K te) (gTup K 2 (gCons (gName 2) (gCons (gName 3) gNil))) (tSeq (tPutR K 2 3) (tPutR K 3 2)) E σ H := by
  refine si_tup (N := NN) (K := K) h H0 H σ ε ds R (show o1 f kParts ε = some ds by unfold o1; rw [e]; rfl) _ fun J H1 s1 ok => ?_
  refine ⟨fun i k σ' H' => i + k = ds.length ∧ σ'.length = 6 ∧ σ'[1]? = some (some (V.ref D)) ∧ TEx H1 H' ∧ Same H0 H' ∧ H' D = some (.lst xs) ∧ ∃ ls, RW H0 D H' ls xs ∧ nbGo (ds.drop i) ls = some l',
    ⟨ds.length, by omega, hl, h1, fun _ _ h => h, fun b o z => s1 b o (R.ex b o z), s1 D _ hD, ls, hr.keep (.of s1) fun b o _ e => s1 b o e, hgo⟩, ?_⟩
  rintro i k σ' H' ⟨ei, hl', h1', te', s', hD', ls', hr', hgo'⟩
  have hs : Hs (NN σ ε) H1 H' := ⟨fun a o n => n.elim, te'⟩
  cases hdrop : ds.drop i with
  | nil =>
    have hi' : ds.length ≤ i := by simpa using hdrop
    have ei' : i = ds.length := by omega
    subst ei'
    rw [hdrop] at hgo'
    cases hgo'
    exact .inl ⟨ok.stop H' hs, q σ' H' hl' h1' s' hD' hr'⟩
  | cons d rest =>
    obtain ⟨hn, hrest⟩ := nth_drop hdrop
    rw [hdrop] at hgo'
    have hk : 0 < k := by
      have h2 : (ds.drop i).length = (d :: rest).length := by rw [hdrop]
      rw [List.length_drop, List.length_cons] at h2
      omega
    refine .inr ⟨ok.go i d H' hn hs, fun σ2 H2 => σ2.length = 6 ∧ σ2[1]? = some (some (V.ref D)) ∧ TEx H1 H2 ∧ Same H0 H2 ∧ H2 D = some (.lst xs) ∧ ∃ ls, RW H0 D H2 ls xs ∧ nbGo rest ls = some l', fun σ2 H2 n2 => ⟨k - 1, by omega, by omega, by rw [hrest]; exact n2⟩, fun x H2 hy => ?_⟩
    obtain ⟨s2, rx⟩ := ok.yld i d H' x H2 hn hs hy
    unfold nbGo at hgo'
    split at hgo'
    · rename_i a b
      split at hgo'
      · rename_i i1 j1 f1 f2
        split at hgo'
        · rename_i l1 p1
          split at hgo'
          · rename_i l2 p2
            obtain ⟨t, ys, rfl, g1, g2⟩ := rep_tup rx
            cases g2 with
            | @cons _ x1 _ _ r1 g3 =>
              cases g3 with
              | @cons _ x2 _ _ r2 g4 =>
                cases g4
                refine ⟨t, [x1, x2], rfl, SqT.of g1, rfl, x1, [x2], rfl, x2, [], rfl, rfl, ?_⟩
                have L6 : ((σ'.set 2 (some x1)).set 3 (some x2)).length = 6 := by rw [List.length_set, List.length_set, hl']
                have a1 : ((σ'.set 2 (some x1)).set 3 (some x2))[1]? = some (some (V.ref D)) := by rw [List.getElem?_set_ne (by decide), List.getElem?_set_ne (by decide)]; exact h1'
                have a2 : ((σ'.set 2 (some x1)).set 3 (some x2))[2]? = some (some x1) := by rw [List.getElem?_set_ne (by decide), List.getElem?_set_self (by rw [hl']; decide)]
                have a3 : ((σ'.set 2 (some x1)).set 3 (some x2))[3]? = some (some x2) := by rw [List.getElem?_set_self (by rw [List.length_set, hl']; decide)]
                have R2 := Wr.R.two (s'.trans s2) L6 a2 a3 r1 r2
                have nc1 : ∀ i c, sget [none, none, some (.im a), some (.im b), none, none] i ≠ some (.fz c) := fun i c h => by
                  match i with
                  | 0 => cases h
                  | 1 => cases h
                  | 2 => cases h
                  | 3 => cases h
                  | 4 => cases h
                  | 5 => cases h
                  | i + 6 => cases h
                have nc2 : ∀ i c, sget [none, none, some (.im a), some (.im b), none, none] i ≠ some (.ow c) := fun i c h => by
                  match i with
                  | 0 => cases h
                  | 1 => cases h
                  | 2 => cases h
                  | 3 => cases h
                  | 4 => cases h
                  | 5 => cases h
                  | i + 6 => cases h
                refine nb_put (s := 2) (t := 3) R2 nc1 nc2 a1 (s2 D _ hD') (hr'.keep (.of s2) fun b o _ e => s2 b o e) rfl rfl f1 f2 p1 fun H3 R3 te3 hD3 hr3 => ?_
                refine nb_put (s := 3) (t := 2) R3 nc1 nc2 a1 hD3 hr3 rfl rfl f2 f1 p2 fun H4 R4 te4 hD4 hr4 => ?_
                exact ⟨L6, a1, ((te'.trans (.of s2)).trans te3).trans te4, R4.ex, hD4, l2, hr4, hgo'⟩
          · cases hgo'
        · cases hgo'
      · cases hgo'
    · cases hgo'

/-! ### the rows -/
def rowOf (l : List (Int × Dt)) : Option (List Dt) := if Nat.blt l.length 64 then some (dInt (srtI (l.map (·.1)))) else none
def rowsOf : List (List (Int × Dt)) → Option (List (List Dt))
  | [] => some []
  | l :: ls => match rowOf l with
    | some r => (match rowsOf ls with
      | some rs => some (r :: rs)
      | none => none)
    | none => none
theorem rowsOf_nth : ∀ {ls : List (List (Int × Dt))} {rs : List (List Dt)} {i : Nat} {l : List (Int × Dt)}, rowsOf ls = some rs → nth ls i = some l → ∃ r, rowOf l = some r ∧ rs.take (i + 1) = rs.take i ++ [r]
  | [], _, 0, _, _, h => by cases h
  | [], _, _ + 1, _, _, h => by cases h
  | l0 :: ls, rs, i, l, h, g => by
    unfold rowsOf at h
    split at h
    · rename_i r e1
      split at h
      · rename_i rs' e2
        cases h
        cases i with
        | zero =>
          cases (Option.some.inj (show some l0 = some l from g))
          exact ⟨r, e1, rfl⟩
        | succ i =>
          obtain ⟨r', q1, q2⟩ := rowsOf_nth (i := i) (l := l) e2 g
          exact ⟨r', q1, by rw [List.take_succ_cons, List.take_succ_cons, q2]; rfl⟩
      · cases h
    · cases h
theorem rowsOf_len : ∀ {ls : List (List (Int × Dt))} {rs : List (List Dt)}, rowsOf ls = some rs → rs.length = ls.length
  | [], rs, h => by cases h; rfl
  | l0 :: ls, rs, h => by
    unfold rowsOf at h
    split at h
    · split at h
      · rename_i e2
        cases h
        rw [List.length_cons, List.length_cons, rowsOf_len e2]
      · cases h
    · cases h
theorem LL.app {P : Addr → Prop} {H : Hp} {b : Addr} {ys : List V} {d : List Dt} (pb : P b) (hb : H b = some (.lst ys)) (hy : Reps H d ys) : ∀ {l : List (List Dt)} {xs : List V}, LL P H l xs → LL P H (l ++ [d]) (xs ++ [.ref b])
  | _, _, .nil => .cons pb hb hy .nil
  | _, _, .cons p h r t => .cons p h r (LL.app pb hb hy t)
theorem nb_ret {H : Hp} {σ : L2.St} {D : Addr} {xs : List V} {ls : List (List (Int × Dt))} {rs : List (List Dt)} (s0 : Same H0 H) (hl : σ.length = 6) (h1 : σ[1]? = some (some (V.ref D))) (hD : H D = some (.lst xs)) (hr : RW H0 D H ls xs) (hrs : rowsOf ls = some rs) (hn : ls.length ≤ 100000) {Q : VK}
    (q : ∀ H' a, Same H0 H' → AtP (fun b => H0 b = none) H' (.ll rs) a → Q (.ref a) H') : tLc (iList K (tVar 1)) (gName 5) tYes (tCB rSortI (tCons (tVar 5) tNil)) [5] σ H Q := by
  refine ⟨.ref D, h1, D, rfl, ⟨xs, SqL.of hD⟩, fun A hA => ?_⟩
  have DA : D ≠ A := fun z => by
    subst z
    rw [hD] at hA
    cases hA
  refine ⟨fun i k H' => i + k = ls.length ∧ KD A (upd H A (.lst [])) H' ∧ ∃ acc, H' A = some (.lst acc) ∧ acc.length = i ∧ LL (fun b => H0 b = none ∧ b ≠ A) H' (rs.take i) acc, ⟨ls.length, by omega, KD.refl _ _, [], upd_same, rfl, .nil⟩, ?_⟩
  rintro i k H' ⟨ei, kH, acc, hacc, hlen, hll⟩
  have sH : Same H H' := KD.same hA kH
  have hlx := hr.len
  by_cases hi : i < ls.length
  · obtain ⟨l, hnl⟩ : ∃ l, nth ls i = some l := ⟨ls[i], by rw [nth_eq, List.getElem?_eq_getElem hi]⟩
    obtain ⟨b, ys, g1, g2, g3, g4, g5⟩ := hr.get hnl
    obtain ⟨r, e1, e2⟩ := rowsOf_nth hrs hnl
    refine .inr ⟨⟨xs, _, SqL.of (sH D _ hD), g1⟩, fun H3 => KD A (upd H A (.lst [])) H3 ∧ ∃ acc, H3 A = some (.lst acc) ∧ acc.length = i + 1 ∧ LL (fun b => H0 b = none ∧ b ≠ A) H3 (rs.take (i + 1)) acc, fun H3 n3 => ⟨k - 1, by omega, by omega, n3⟩, fun x H3 hy => ?_⟩
    obtain ⟨rfl, hy2⟩ := hy
    have ex := hy2 xs (SqL.of (sH D _ hD))
    rw [g1] at ex
    cases ex
    unfold rowOf at e1
    split at e1
    · rename_i hb
      cases e1
      refine ⟨by rw [wipe_set (List.mem_singleton.mpr rfl)]; exact wipe_wipe [5] [5] fun _ h => h, V.ref b, ?_, b, ys, l.map (·.1), rfl, sH b _ g2, ki_keys g3, ?_, fun p hp => ?_⟩
      · show ((wipe σ [5]).set 5 (some (V.ref b)))[5]? = _
        rw [List.getElem?_set_self (by rw [wipe_length, hl]; decide)]
      · rw [List.length_map]
        exact Nat.lt_of_lt_of_le (Nat.blt_eq.mp hb) (Nat.le_refl _)
      · have pA : p ≠ A := fun z => by
          subst z
          rw [hp] at hacc
          cases hacc
        have sp : Same H3 (upd H3 p (.lst ((srtI (l.map (·.1))).map V.int))) := Wr.Same.new hp
        have te : TEx (upd H3 p (.lst ((srtI (l.map (·.1))).map V.int))) (upd (upd H3 p (.lst ((srtI (l.map (·.1))).map V.int))) A (.lst (acc ++ [.ref p]))) := TEx.put (sp A _ hacc) fun _ z => by cases z
        have h0 : H0 p = none := by
          cases hz : H0 p with
          | none => rfl
          | some o => rw [sH p _ (s0 p o hz)] at hp; cases hp
        refine ⟨acc, sp A _ hacc, ?_, (kH.trans (.of sp)).trans KD.put, acc ++ [.ref p], upd_same, by rw [List.length_append, hlen]; rfl, ?_⟩
        · rw [hlen, sizeLine_eq]
          omega
        · rw [e2]
          refine LL.app ⟨h0, pA⟩ (by rw [upd_ne pA, upd_same]) (dInt_reps _) ?_
          exact (hll.keep (P' := fun b => H0 b = none ∧ b ≠ A) (.of sp) (fun b o _ e => sp b o e) fun _ _ z _ => z).keep te (fun b o z e => by rw [upd_ne z.2]; exact e) fun _ _ z _ => z
    · cases e1
  · have ei' : i = ls.length := by omega
    refine .inl ⟨⟨xs, SqL.of (sH D _ hD), by omega⟩, q H' A (s0.trans sH) ?_⟩
    have et : rs.take i = rs := by rw [List.take_of_length_le]; rw [rowsOf_len hrs]; omega
    rw [et] at hll
    have hA0 : H0 A = none := by
      cases hz : H0 A with
      | none => rfl
      | some o => rw [s0 A o hz] at hA; cases hA
    exact .ll hA0 hacc (hll.keep (.of (Same.refl H')) (fun _ _ _ e => e) fun _ _ z _ => z.1)
end

theorem seq_intro {t u : TS} {D : Ends} {σ : L2.St} {H : Hp} (h : t { D with nx := fun σ' H' => u D σ' H' } σ H) : tSeq t u D σ H := h
theorem asg_intro {te : TE} {g : TG} {D : Ends} {σ : L2.St} {H : Hp} (h : te σ H fun x H1 => g x σ H1 D.nx) : tAsg te g D σ H := h
theorem name_intro {i : Nat} {v : V} {σ : L2.St} {H : Hp} {Q : L2.St → Hp → Prop} (h : Q (σ.set i (some v)) H) : gName i v σ H Q := h
theorem ret_intro {te : TE} {D : Ends} {σ : L2.St} {H : Hp} (h : te σ H D.rt) : tRet te D σ H := h
/-! ### the def -/
def f_neighbours : List Ar → Option Ct
  | [.im (.tup [.tup ss, .tup ts])] => if Nat.ble ss.length 100000 then (match nbGo ts (List.replicate ss.length []) with
      | some ls => if Nat.ble ls.length 100000 then (match rowsOf ls with
        | some rs => some (.ll rs)
        | none => none) else none
      | none => none) else none
  | _ => none
abbrev s_neighbours : Stmt := topS 32
abbrev n_neighbours : List Str := ["gluing", "found", "one", "other", "size", "row"]
theorem sc_neighbours : FnScope n_neighbours ["gluing"] (defScope s_neighbours) := ⟨rfl, rfl, rfl, by decide +kernel, rfl, by decide +kernel, by decide +kernel⟩
section
variable {P : Program} {w : World} {K : PySem.W.Frag} {mg : Str → Option Value} {base : Heap}
theorem kn_neighbours {f : Addr} {fd : FuncData} (F : Fun K "neighbours" "neighbours" s_neighbours f fd) (hm : mg "neighbours" = some (.ref f)) (nb : Nb mg) : Kn P w K mg base "neighbours" ["gluing"] 1 (spF f_neighbours) := by
  refine Kn.of F hm (F.binds (ps := ["gluing"]) fun _ _ _ _ _ _ us hl => match us, hl with | [_], _ => rfl) (F.ok (N := n_neighbours) (ps := ["gluing"]) (k := 0) sc_neighbours (fun vs H Q E h => ?_) fun cdv A outer s H vs Q E hr h => ?_)
  · obtain ⟨xs, d, h1, h2, _⟩ := h
    unfold f_neighbours at h2
    split at h2
    · rw [← h1.length]
      rfl
    · cases h2
  · obtain ⟨xs, d, h1, h2, q⟩ := h
    refine ⟨tSeq (tAsg (tLc (iTup K (tOp (rIxT K) (tVar 0) (tC (.int 0)))) (gName 4) tYes tDNewK [4]) (gName 1))
      (tSeq (tFor (iTup K (tOp (rIxT K) (tVar 0) (tC (.int 1)))) (gTup K 2 (gCons (gName 2) (gCons (gName 3) gNil))) (tSeq (tPutR K 2 3) (tPutR K 3 2)))
        (tRet (tLc (iList K (tVar 1)) (gName 5) tYes (tCB rSortI (tCons (tVar 5) tNil)) [5]))),
      pss_cons (ps_setLc (i := 1) (own := [("size", 4)]) rfl sc_neighbours.nd rfl rfl (sw_true rfl rfl rfl (by decide +kernel)) (pi_tup (pe_ix ix_tup (pv 0) pe_int (fun _ _ => rfl))) (blkOk_by (N := n_neighbours) (sc := defScope s_neighbours) (by decide +kernel)) (fun _ _ _ _ _ => pg_name (i := 4) sc_neighbours.nd rfl (.inl rfl)) (fun _ _ _ _ _ => pts_nil) (fun _ _ _ _ _ => pe_dnewK))
      (pss_cons (ps_for PassesOwn.never rfl (pi_tup (pe_ix ix_tup (pv 0) pe_int (fun _ _ => rfl))) (pg_tup rfl (pgs_cons (pg_name (i := 2) sc_neighbours.nd rfl (.inl rfl)) (pgs_cons (pg_name (i := 3) sc_neighbours.nd rfl (.inl rfl)) pgs_nil)))
        (pss_cons (ps_dput (hu_of hr) (pe_ix ix_list (pv 1) (pe_ix ix_tup (pv 2) pe_int (fun _ _ => rfl)) (fun _ _ => rfl)) (pe_ix ix_tup (pv 3) pe_int (fun _ _ => rfl)) pe_bl (by rfl))
        (pss_one (ps_dput (hu_of hr) (pe_ix ix_list (pv 1) (pe_ix ix_tup (pv 3) pe_int (fun _ _ => rfl)) (fun _ _ => rfl)) (pe_ix ix_tup (pv 2) pe_int (fun _ _ => rfl)) pe_bl (by rfl)))))
      (pss_one (ps_ret (pe_lc (own := [("row", 5)]) rfl sc_neighbours.nd (pi_list (pv 1)) (blkOk_by (N := n_neighbours) (sc := defScope s_neighbours) (by decide +kernel)) (fun _ _ _ _ _ => pg_name (i := 5) sc_neighbours.nd rfl (.inl rfl)) (fun _ _ _ _ _ => pts_nil) (fun _ _ _ _ _ => pe_callB (cr_sortI rfl) (by rfl) nb.sorted PyProof.Rows.boot_sorted (pa_cons (pv 5) pa_nil)))))), ?_⟩
    unfold f_neighbours at h2
    split at h2
    · rename_i ss ts
      split at h2
      · rename_i b1
        split at h2
        · rename_i ls e1
          split at h2
          · rename_i b2
            split at h2
            · rename_i rs e2
              cases h2
              have R0 := R.begin (N := n_neighbours) h1 (by show 1 ≤ 6; decide)
              have i0 : SE (tOp (rIxT K) (tVar 0) (tC (.int 0))) (o2 (vIm 0) (cI 0) kIxT) := se_op rii_ixT se_var se_cI
              have i1 : SE (tOp (rIxT K) (tVar 0) (tC (.int 1))) (o2 (vIm 0) (cI 1) kIxT) := se_op rii_ixT se_var se_cI
              refine seq_intro (asg_intro ?_)
              refine nb_make i0 R0 (ds := ss) rfl (Nat.le_of_ble_eq_true b1) fun H1 D xs1 s1 hD h0 hr1 => ?_
              have hlen : (L2.start n_neighbours vs).length = 6 := R0.len
              have R1 : R H H1 ((L2.start n_neighbours vs).set 1 (some (.ref D))) (init n_neighbours.length [.im (.tup [.tup ss, .tup ts])]) := by
                refine ⟨s1, by rw [List.length_set]; exact R0.len, fun i d g => ?_, fun i c g => ?_, fun i c g => ?_, fun i j c c' a g => ?_⟩
                · match i with
                  | 0 =>
                    obtain ⟨v, w1, w2⟩ := R0.im 0 d g
                    exact ⟨v, by rw [List.getElem?_set_ne (by decide)]; exact w1, w2.same s1⟩
                  | i + 1 =>
                    rw [show sget (init n_neighbours.length [.im (.tup [.tup ss, .tup ts])]) (i + 1) = sget (blanks 5) i from rfl, blanks_get] at g
                    cases g
                · match i with
                  | 0 => cases g
                  | i + 1 =>
                    rw [show sget (init n_neighbours.length [.im (.tup [.tup ss, .tup ts])]) (i + 1) = sget (blanks 5) i from rfl, blanks_get] at g
                    cases g
                · match i with
                  | 0 => cases g
                  | i + 1 =>
                    rw [show sget (init n_neighbours.length [.im (.tup [.tup ss, .tup ts])]) (i + 1) = sget (blanks 5) i from rfl, blanks_get] at g
                    cases g
                · match i with
                  | 0 => cases g
                  | i + 1 =>
                    rw [show sget (init n_neighbours.length [.im (.tup [.tup ss, .tup ts])]) (i + 1) = sget (blanks 5) i from rfl, blanks_get] at g
                    cases g
              refine name_intro ?_
              dsimp only
              refine seq_intro ?_
              refine nb_for i1 R1 (ds := ts) rfl (by rw [List.length_set]; exact hlen) (by rw [List.getElem?_set_self (by rw [hlen]; decide)]) hD hr1 e1 fun σ2 H2 g0 g1 s2 hD2 hr2 => ?_
              dsimp only
              refine ret_intro ?_
              exact nb_ret s2 g0 g1 hD2 hr2 e2 (Nat.le_of_ble_eq_true b2) fun H3 a s3 h3 => q H3 a s3 h3
            · cases h2
          · cases h2
        · cases h2
      · cases h2
    · cases h2
end
end Wr

set_option maxHeartbeats 1000000
/-! The law's own source of numbers, by hand. -/
namespace Wr
open PySem PySem.Spec PyProof.Rows L2

def srcL (c : Addr) (l m t : Int) : List (Key × V) := [(.inr "cells", .ref c), (.inr "left", .int l), (.inr "mixed", .int m), (.inr "turn", .int t)]
theorem k01 : ¬ ((Sum.inr ("cells" : Str) : Key) = Sum.inr ("left" : Str)) := by decide +kernel
theorem k02 : ¬ ((Sum.inr ("cells" : Str) : Key) = Sum.inr ("mixed" : Str)) := by decide +kernel
theorem k03 : ¬ ((Sum.inr ("cells" : Str) : Key) = Sum.inr ("turn" : Str)) := by decide +kernel
theorem k12 : ¬ ((Sum.inr ("left" : Str) : Key) = Sum.inr ("mixed" : Str)) := by decide +kernel
theorem k13 : ¬ ((Sum.inr ("left" : Str) : Key) = Sum.inr ("turn" : Str)) := by decide +kernel
theorem k23 : ¬ ((Sum.inr ("mixed" : Str) : Key) = Sum.inr ("turn" : Str)) := by decide +kernel
theorem k10 : ¬ ((Sum.inr ("left" : Str) : Key) = Sum.inr ("cells" : Str)) := fun e => k01 e.symm
theorem k20 : ¬ ((Sum.inr ("mixed" : Str) : Key) = Sum.inr ("cells" : Str)) := fun e => k02 e.symm
theorem k30 : ¬ ((Sum.inr ("turn" : Str) : Key) = Sum.inr ("cells" : Str)) := fun e => k03 e.symm
theorem k21 : ¬ ((Sum.inr ("mixed" : Str) : Key) = Sum.inr ("left" : Str)) := fun e => k12 e.symm
theorem k31 : ¬ ((Sum.inr ("turn" : Str) : Key) = Sum.inr ("left" : Str)) := fun e => k13 e.symm
theorem k32 : ¬ ((Sum.inr ("turn" : Str) : Key) = Sum.inr ("mixed" : Str)) := fun e => k23 e.symm
section
variable {c : Addr} {l m t x : Int}
theorem val_c : valV (srcL c l m t) (.inr "cells") = some (.ref c) := by simp [valV, srcL]
theorem val_l : valV (srcL c l m t) (.inr "left") = some (.int l) := by simp only [valV, srcL, List.find?, decide_eq_false k01, decide_eq_true]; rfl
theorem val_m : valV (srcL c l m t) (.inr "mixed") = some (.int m) := by simp only [valV, srcL, List.find?, decide_eq_false k02, decide_eq_false k12, decide_eq_true]; rfl
theorem val_t : valV (srcL c l m t) (.inr "turn") = some (.int t) := by simp only [valV, srcL, List.find?, decide_eq_false k03, decide_eq_false k13, decide_eq_false k23, decide_eq_true]; rfl
theorem put_l : putK (srcL c l m t) (.inr "left") (.int x) = srcL c x m t := by
  simp only [putK, srcL, List.any, List.map, decide_eq_false k01, decide_eq_true, Bool.false_or, Bool.true_or, if_true, if_neg k01, if_neg k21, if_neg k31]
theorem put_t : putK (srcL c l m t) (.inr "turn") (.int x) = srcL c l m x := by
  simp only [putK, srcL, List.any, List.map, decide_eq_false k03, decide_eq_false k13, decide_eq_false k23, decide_eq_true, Bool.false_or, Bool.true_or, if_true, if_neg k03, if_neg k13, if_neg k23]
theorem merge_src : mergeK [] (srcL c l m t) = srcL c l m t := by
  unfold mergeK srcL
  simp only [List.foldl, putK, List.any, decide_eq_false k01, decide_eq_false k02, decide_eq_false k12, decide_eq_false k03, decide_eq_false k13, decide_eq_false k23, Bool.false_or, Bool.false_eq_true, if_false, List.nil_append, List.cons_append]
end

structure Src (H : Hp) (p c : Addr) (xs : List Int) (l m t : Int) : Prop where
  hp : H p = some (.dK (srcL c l m t))
  hc : H c = some (.lst (xs.map V.int))
  ne : p ≠ c
  len : xs.length ≤ 63
abbrev rAbs : RB := fun xs H Q => ∃ i, xs = [.int i] ∧ Q (.int (if i < 0 then -i else i)) H
abbrev rInt : RB := fun xs H Q => (∃ i, xs = [.int i] ∧ Q (.int i) H) ∨ ∃ k, xs = [.bl k] ∧ Q (.int (if k then 1 else 0)) H
abbrev rAdd : R2 := rI0 fun i j => .int (i + j)
abbrev rMul : R2 := rI CMul fun i j => .int (i * j)
abbrev rMod : R2 := rI (fun _ j => 0 < j) fun i j => .int (i % j)
abbrev rFdv : R2 := rI CDiv fun i j => .int (i / j)
abbrev tInt (te : TE) : TE := tCB rInt (tCons te tNil)
section
variable {P : Program} {w : World} {K : PySem.W.Frag} {mg : Str → Option Value} {base : Heap}
def spOpen (K : PySem.W.Frag) : Sp := fun vs H Q _ => ∃ (a : Addr) (ns : List Int), vs = [.ref a] ∧ SqL K H a (ns.map V.int) ∧ ns.length ≤ 63 ∧ ∀ H1 p c xs m, Same H H1 → H p = none → H c = none → Src H1 p c xs 1 m 0 → Q (.ref p) H1
abbrev s_open : Stmt := topS 61
abbrev n_open : List Str := ["_law_script", "_law_stirred", "_law_cell", "_law_cells"]
theorem sc_open : FnScope n_open ["_law_script"] (defScope s_open) := ⟨rfl, rfl, rfl, by decide +kernel, rfl, by decide +kernel, by decide +kernel⟩
theorem cmul_r {i j : Int} (h : -(2 ^ 64) < j ∧ j < 2 ^ 64) : CMul i j := .inr h
theorem cmul_l {i j : Int} (h : -(2 ^ 64) < i ∧ i < 2 ^ 64) : CMul i j := .inl h
theorem kn_open {f : Addr} {fd : FuncData} (F : Fun K "_law_open_cells" "_law_open_cells" s_open f fd) (hm : mg "_law_open_cells" = some (.ref f)) (ni : mg "int" = none) (na : mg "abs" = none) : Kn P w K mg base "_law_open_cells" ["_law_script"] 1 (spOpen K) := by
  refine Kn.of F hm (F.binds (ps := ["_law_script"]) fun _ _ _ _ _ _ us hl => match us, hl with | [_], _ => rfl) (F.ok (N := n_open) (ps := ["_law_script"]) (k := 0) sc_open (fun vs H Q E h => ?_) fun cdv A outer s H vs Q E hr h => ?_)
  · obtain ⟨a, ns, rfl, _⟩ := h
    rfl
  · obtain ⟨a, ns, rfl, hS, hlen, q⟩ := h
    refine ⟨tSeq (tAsg (tC (.int 11)) (gName 1)) (tSeq (tFor (iList K (tVar 0)) (gName 2) (tAsg (tOp rMod (tInt (tOp rAdd (tOp rAdd (tOp rMul (tVar 1) (tC (.int 69069))) (tOp rMul (tVar 2) (tC (.int 31)))) (tC (.int 5)))) (tC (.int 2147483629))) (gName 1)))
      (tSeq (tAsg (tLc (iList K (tVar 0)) (gName 2) tYes (tCB rAbs (tCons (tVar 2) tNil)) [2]) (gName 3))
        (tRet (tDisp [(tC (.str "cells"), tRevL K (tVar 3)), (tC (.str "left"), tC (.int 1)), (tC (.str "mixed"), tVar 1), (tC (.str "turn"), tC (.int 0))])))),
      pss_cons (ps_set (i := 1) sc_open.nd rfl (.inl rfl) pe_int)
      (pss_cons (ps_for PassesOwn.never rfl (pi_list (pv 0)) (pg_name (i := 2) sc_open.nd rfl (.inl rfl))
        (pss_one (ps_set (i := 1) sc_open.nd rfl (.inl rfl) (pe_op op_mod (pe_callTy call_int1 (by rfl) ni PyProof.Rows.boot_int (pa_cons (pe_op op_add (pe_op op_add (pe_op op_mul (pv 1) pe_int) (pe_op op_mul (pv 2) pe_int)) pe_int) pa_nil)) pe_int))))
      (pss_cons (ps_setLc (i := 3) (own := [("_law_cell", 2)]) rfl sc_open.nd rfl rfl (sw_true rfl rfl rfl (by decide +kernel)) (pi_list (pv 0)) (blkOk_by (N := n_open) (sc := defScope s_open) (by decide +kernel)) (fun _ _ _ _ _ => pg_name (i := 2) sc_open.nd rfl (.inl rfl)) (fun _ _ _ _ _ => pts_nil)
        (fun _ _ _ _ _ => pe_callB call_abs (by rfl) na PyProof.Rows.boot_abs (pa_cons (pv 2) pa_nil)))
      (pss_one (ps_ret (pe_disp (pps_cons pe_str (pe_revL (pv 3)) (pps_cons pe_str pe_int (pps_cons pe_str (pv 1) (pps_cons pe_str pe_int pps_nil)))) rfl rfl (by simp) (by decide)))))), ?_⟩
    have hget : ∀ i, i < ns.length → (ns.map V.int)[i]? = some (V.int ns[i]!) := fun i hi => by
      rw [List.getElem?_map, List.getElem?_eq_getElem hi, getElem!_pos ns i hi]
      rfl
    refine ⟨.ref a, rfl, a, rfl, ⟨_, hS⟩, fun i k σ' H' => i + k = ns.length ∧ H' = H ∧ ∃ m y, σ' = [some (.ref a), some (.int m), y, none] ∧ 0 ≤ m ∧ m < 2147483629, ⟨ns.length, by omega, rfl, 11, none, rfl, by decide, by decide⟩, ?_⟩
    rintro i k σ' H' ⟨ei, rfl, m, y, rfl, m0, m1⟩
    by_cases hi : i < ns.length
    · refine .inr ⟨⟨_, _, hS, hget i hi⟩, fun σ2 H2 => H2 = H' ∧ ∃ m y, σ2 = [some (.ref a), some (.int m), y, none] ∧ 0 ≤ m ∧ m < 2147483629, fun σ2 H2 n2 => ⟨k - 1, by omega, by omega, n2⟩, fun x H2 hy => ?_⟩
      obtain ⟨rfl, fx⟩ := hy
      have ex := (fx _ hS).symm.trans (hget i hi)
      cases ex
      refine ⟨.int m, rfl, m, 69069, rfl, rfl, cmul_r (by decide), .int ns[i]!, rfl, ns[i]!, 31, rfl, rfl, cmul_r (by decide), _, _, rfl, rfl, _, _, rfl, rfl, .inl ⟨_, rfl, _, _, rfl, rfl, (by decide : (0 : Int) < 2147483629), rfl, _, _, rfl, ?_, ?_⟩⟩
      · exact Int.emod_nonneg _ (by decide)
      · exact Int.emod_lt_of_pos _ (by decide)
    · refine .inl ⟨⟨_, hS, by rw [List.length_map]; omega⟩, ?_⟩
      refine ⟨.ref a, rfl, a, rfl, ⟨_, hS⟩, fun D hD => ⟨fun i k H1 => i + k = ns.length ∧ KD D (upd H' D (.lst [])) H1 ∧ ∃ ms : List Int, H1 D = some (.lst (ms.map V.int)) ∧ ms.length = i, ⟨ns.length, by omega, KD.refl _ _, [], upd_same, rfl⟩, ?_⟩⟩
      rintro i k H1 ⟨ei, kH, ms, hms, hl⟩
      have s1 : Same H' H1 := KD.same hD kH
      by_cases hi : i < ns.length
      · refine .inr ⟨⟨_, _, s1.seq hS, hget i hi⟩, fun H2 => KD D (upd H' D (.lst [])) H2 ∧ ∃ ms : List Int, H2 D = some (.lst (ms.map V.int)) ∧ ms.length = i + 1, fun H2 n2 => ⟨k - 1, by omega, by omega, n2⟩, fun x H2 hy => ?_⟩
        obtain ⟨rfl, fx⟩ := hy
        have ex := (fx _ (s1.seq hS)).symm.trans (hget i hi)
        cases ex
        refine ⟨rfl, .int ns[i]!, rfl, _, rfl, _, hms, ?_, kH.trans KD.put, ms ++ [if ns[i]! < 0 then -ns[i]! else ns[i]!], ?_, ?_⟩
        · rw [List.length_map, hl, sizeLine_eq]
          omega
        · rw [upd_same, List.map_append]
          rfl
        · rw [List.length_append, hl]
          rfl
      · refine .inl ⟨⟨_, s1.seq hS, by rw [List.length_map]; omega⟩, ?_⟩
        intro p hp
        have pD : p ≠ D := fun z => by
          subst z
          rw [hms] at hp
          cases hp
        have s2 : Same H1 (upd H1 p (.dK [])) := Wr.Same.new hp
        refine ⟨.ref D, rfl, D, _, rfl, SqL.of (s2 D _ hms), fun c hc => ?_⟩
        have cp : p ≠ c := fun z => by
          subst z
          rw [upd_same] at hc
          cases hc
        have hc1 : H1 c = none := by
          rw [upd_ne cp.symm] at hc
          exact hc
        refine ⟨.int m, rfl, ?_, srcL c 1 m 0, rfl, (by decide : 4 ≤ 15), ?_⟩
        · rw [upd_ne cp, upd_same]
        · rw [merge_src]
          refine q _ p c ms.reverse m ?_ ?_ ?_ ⟨upd_same, ?_, cp, by rw [List.length_reverse]; omega⟩
          · intro b o e
            have e1 := s1 b o e
            rw [upd_ne (ne_of_none e1 hp), upd_ne (ne_of_none (s2 b o e1) hc)]
            exact s2 b o e1
          · exact s1.free hp
          · exact s1.free hc1
          · rw [upd_ne cp.symm, upd_same, List.map_reverse]

abbrev n_pick : List Str := ["_law_source", "_law_most", "_law_cells", "_law_others", "_law_lap", "_law_stirred"]
abbrev s_pick : Stmt := topS 62
theorem sc_pick : FnScope n_pick ["_law_source", "_law_most"] (defScope s_pick) := ⟨rfl, rfl, rfl, by decide +kernel, rfl, by decide +kernel, by decide +kernel⟩
def spPick : Sp := fun vs H Q _ => ∃ (p c : Addr) (xs : List Int) (l m t most : Int), vs = [.ref p, .int most] ∧ Src H p c xs l m t ∧ 2 ≤ most ∧ most < 1000 ∧
  ∀ H1 r xs' l' t', 0 ≤ r → r < most → (∀ b o, b ≠ p → b ≠ c → H b = some o → H1 b = some o) → Src H1 p c xs' l' m t' → Q (.int r) H1
abbrev tKey (x : Str) : TE := tDGet (tVar 0) (tC (.str x))
abbrev rLt : R2 := rI0 fun i j => .bl (decide (i < j))
abbrev rGt : R2 := rI0 fun i j => .bl (decide (j < i))
abbrev rLn (K : PySem.W.Frag) : RB := fun xs H Q => ∃ p ys, xs = [.ref p] ∧ (SqL K H p ys ∨ SqT K H p ys) ∧ Q (.int ys.length) H
theorem Src.left {H : Hp} {p c : Addr} {xs : List Int} {l m t x : Int} (S : Src H p c xs l m t) : DPut H p (.str "left") (.int x) (upd H p (.dK (srcL c x m t))) := by
  have h := DPut.k (k := .inr "left") (v := .int x) S.hp (by show 4 < sizeLine; decide)
  rw [put_l] at h
  exact h
theorem Src.turn {H : Hp} {p c : Addr} {xs : List Int} {l m t x : Int} (S : Src H p c xs l m t) : DPut H p (.str "turn") (.int x) (upd H p (.dK (srcL c l m x))) := by
  have h := DPut.k (k := .inr "turn") (v := .int x) S.hp (by show 4 < sizeLine; decide)
  rw [put_t] at h
  exact h
theorem Src.set {H : Hp} {p c : Addr} {xs : List Int} {l m t l' t' : Int} (S : Src H p c xs l m t) : Src (upd H p (.dK (srcL c l' m t'))) p c xs l' m t' := ⟨upd_same, by rw [upd_ne S.ne.symm]; exact S.hc, S.ne, S.len⟩
theorem Src.gets {H : Hp} {p c : Addr} {xs : List Int} {l m t : Int} (S : Src H p c xs l m t) : DGet H p (.str "cells") (some (.ref c)) ∧ DGet H p (.str "left") (some (.int l)) ∧ DGet H p (.str "mixed") (some (.int m)) ∧ DGet H p (.str "turn") (some (.int t)) := by
  refine ⟨?_, ?_, ?_, ?_⟩
  · rw [← val_c (c := c) (l := l) (m := m) (t := t)]
    exact DGet.k (k := .inr "cells") S.hp
  · rw [← val_l (c := c) (l := l) (m := m) (t := t)]
    exact DGet.k (k := .inr "left") S.hp
  · rw [← val_m (c := c) (l := l) (m := m) (t := t)]
    exact DGet.k (k := .inr "mixed") S.hp
  · rw [← val_t (c := c) (l := l) (m := m) (t := t)]
    exact DGet.k (k := .inr "turn") S.hp
theorem kn_pick {f : Addr} {fd : FuncData} (F : Fun K "_law_pick" "_law_pick" s_pick f fd) (hm : mg "_law_pick" = some (.ref f)) (ni : mg "int" = none) (nb : Nb mg) : Kn P w K mg base "_law_pick" ["_law_source", "_law_most"] 1 spPick := by
  refine Kn.of F hm (F.binds (ps := ["_law_source", "_law_most"]) fun _ _ _ _ _ _ us hl => match us, hl with | [_, _], _ => rfl) (F.ok (N := n_pick) (ps := ["_law_source", "_law_most"]) (k := 0) sc_pick (fun vs H Q E h => ?_) fun cdv A outer s H vs Q E hr h => ?_)
  · obtain ⟨p, c, xs, l, m, t, most, rfl, _⟩ := h
    rfl
  · obtain ⟨p, c, xs, l, m, t, most, rfl, S, h2, h3, q⟩ := h
    refine ⟨tSeq (tIfS (tTest (tOp rLt (tVar 1) (tC (.int 2)))) (tRet (tC (.int 0))) tNext)
      (tSeq (tAsg (tKey "cells") (gName 2))
      (tSeq (tWhile (tAnd (tTest (tOp rLt (tKey "left") (tC (.int 2)))) (tTest (tOp rGt (tCB (rLn K) (tCons (tVar 2) tNil)) (tC (.int 0))))) (sDPut (tVar 0) (tC (.str "left")) (tBM0 K "list" rPop (tVar 2))))
      (tSeq (tAsg (tKey "left") (gName 3))
      (tSeq (tIfS (tTest (tOp rGt (tVar 3) (tC (.int 1)))) (tSeq (sDPut (tVar 0) (tC (.str "left")) (tOp rFdv (tVar 3) (tVar 1))) (tRet (tOp rMod (tInt (tVar 3)) (tVar 1)))) tNext)
      (tSeq (sDPut (tVar 0) (tC (.str "turn")) (tOp rAdd (tKey "turn") (tC (.int 1))))
      (tSeq (tAsg (tKey "turn") (gName 4))
      (tSeq (tAsg (tOp rMod (tInt (tOp rAdd (tKey "mixed") (tOp rMul (tVar 4) (tC (.int 104729))))) (tC (.int 998244353))) (gName 5))
      (tSeq (tAsg (tOp rMod (tInt (tOp rAdd (tOp rMul (tVar 5) (tVar 5)) (tOp rMul (tVar 4) (tC (.int 17))))) (tC (.int 2147483647))) (gName 5))
      (tRet (tOp rMod (tInt (tOp rFdv (tVar 5) (tC (.int 16)))) (tVar 1))))))))))),
      pss_cons (ps_if (pt_cmpR op_lt (pv 1) pe_int (nomark _)) (pss_one (ps_ret pe_int)) pss_nil)
      (pss_cons (ps_set (i := 2) sc_pick.nd rfl (.inl rfl) (pe_dget (hu_of hr) (pv 0) pe_str (fun _ _ => rfl)))
      (pss_cons (ps_while PassesOwn.never (PW.pt (pw_and (pt_cmpR op_lt (pe_dget (hu_of hr) (pv 0) pe_str (fun _ _ => rfl)) pe_int (nomark _)) (pw_and1 (pt_cmpR op_gt (pe_callB call_len_seq (by rfl) nb.len PySem.boot_len (pa_cons (pv 2) pa_nil)) pe_int (nomark _)))))
        (pss_one (ps_dput (hu_of hr) (pv 0) pe_str (pe_bm0 PySem.F.plainAttrs_list PySem.F.slot_list_pop PySem.F.type_list_pop mt_pop (pv 2)) (by rfl))))
      (pss_cons (ps_set (i := 3) sc_pick.nd rfl (.inl rfl) (pe_dget (hu_of hr) (pv 0) pe_str (fun _ _ => rfl)))
      (pss_cons (ps_if (pt_cmpR op_gt (pv 3) pe_int (nomark _)) (pss_cons (ps_dput (hu_of hr) (pv 0) pe_str (pe_op op_fdiv (pv 3) (pv 1)) (by rfl)) (pss_one (ps_ret (pe_op op_mod (pe_callTy call_int1 (by rfl) ni PyProof.Rows.boot_int (pa_cons (pv 3) pa_nil)) (pv 1))))) pss_nil)
      (pss_cons (ps_dput (hu_of hr) (pv 0) pe_str (pe_op op_add (pe_dget (hu_of hr) (pv 0) pe_str (fun _ _ => rfl)) pe_int) (by rfl))
      (pss_cons (ps_set (i := 4) sc_pick.nd rfl (.inl rfl) (pe_dget (hu_of hr) (pv 0) pe_str (fun _ _ => rfl)))
      (pss_cons (ps_set (i := 5) sc_pick.nd rfl (.inl rfl) (pe_op op_mod (pe_callTy call_int1 (by rfl) ni PyProof.Rows.boot_int (pa_cons (pe_op op_add (pe_dget (hu_of hr) (pv 0) pe_str (fun _ _ => rfl)) (pe_op op_mul (pv 4) pe_int)) pa_nil)) pe_int))
      (pss_cons (ps_set (i := 5) sc_pick.nd rfl (.inl rfl) (pe_op op_mod (pe_callTy call_int1 (by rfl) ni PyProof.Rows.boot_int (pa_cons (pe_op op_add (pe_op op_mul (pv 5) (pv 5)) (pe_op op_mul (pv 4) pe_int)) pa_nil)) pe_int))
      (pss_one (ps_ret (pe_op op_mod (pe_callTy call_int1 (by rfl) ni PyProof.Rows.boot_int (pa_cons (pe_op op_fdiv (pv 5) pe_int) pa_nil)) (pv 1)))))))))))), ?_⟩
    refine ⟨.int most, rfl, most, 2, rfl, rfl, _, rfl, ?_⟩
    refine ite2 (fun e => absurd e (by rw [decide_eq_true_eq]; omega)) fun _ => ?_
    refine ⟨.ref p, rfl, p, .ref c, rfl, S.gets.1, ?_⟩
    refine ⟨fun k σ' H' => ∃ xs' l', k = xs'.length ∧ σ' = [some (.ref p), some (.int most), some (.ref c), none, none, none] ∧ Src H' p c xs' l' m t ∧ (∀ b o, b ≠ p → b ≠ c → H b = some o → H' b = some o), ⟨xs.length, xs, l, rfl, rfl, S, fun b o _ _ e => e⟩, ?_⟩
    rintro k σ' H' ⟨xs', l', rfl, rfl, S', kp⟩
    refine ⟨.ref p, rfl, p, .int l', rfl, S'.gets.2.1, l', 2, rfl, rfl, _, rfl, ?_⟩
    -- what comes behind the loop
    have fin : ∀ (xs' : List Int) (l' : Int) (H' : Hp), Src H' p c xs' l' m t → (∀ b o, b ≠ p → b ≠ c → H b = some o → H' b = some o) → (tSeq (tAsg (tKey "left") (gName 3))
      (tSeq (tIfS (tTest (tOp rGt (tVar 3) (tC (.int 1)))) (tSeq (sDPut (tVar 0) (tC (.str "left")) (tOp rFdv (tVar 3) (tVar 1))) (tRet (tOp rMod (tInt (tVar 3)) (tVar 1)))) tNext)
      (tSeq (sDPut (tVar 0) (tC (.str "turn")) (tOp rAdd (tKey "turn") (tC (.int 1))))
      (tSeq (tAsg (tKey "turn") (gName 4))
      (tSeq (tAsg (tOp rMod (tInt (tOp rAdd (tKey "mixed") (tOp rMul (tVar 4) (tC (.int 104729))))) (tC (.int 998244353))) (gName 5))
      (tSeq (tAsg (tOp rMod (tInt (tOp rAdd (tOp rMul (tVar 5) (tVar 5)) (tOp rMul (tVar 4) (tC (.int 17))))) (tC (.int 2147483647))) (gName 5))
      (tRet (tOp rMod (tInt (tOp rFdv (tVar 5) (tC (.int 16)))) (tVar 1))))))))) { nx := fun x H' => Q V.non H', rt := Q } [some (.ref p), some (.int most), some (.ref c), none, none, none] H' := by
      intro xs' l' H' S' kp
      refine ⟨.ref p, rfl, p, .int l', rfl, S'.gets.2.1, ?_⟩
      refine ⟨.int l', rfl, l', 1, rfl, rfl, _, rfl, ite2 (fun e => ?_) (fun e => ?_)⟩
      · refine ⟨.int l', rfl, .int most, rfl, l', most, rfl, rfl, ⟨by omega, by omega⟩, .ref p, rfl, p, _, rfl, S'.left, ?_⟩
        refine ⟨.int l', rfl, .inl ⟨l', rfl, .int most, rfl, l', most, rfl, rfl, (by omega : 0 < most), ?_⟩⟩
        exact q _ _ xs' (l' / most) t (Int.emod_nonneg _ (by omega)) (Int.emod_lt_of_pos _ (by omega)) (fun b o h1 h2 e => by rw [upd_ne h1]; exact kp b o h1 h2 e) S'.set
      · refine ⟨.ref p, rfl, p, .int t, rfl, S'.gets.2.2.2, t, 1, rfl, rfl, .ref p, rfl, p, _, rfl, S'.turn, ?_⟩
        have S2 : Src (upd H' p (.dK (srcL c l' m (t + 1)))) p c xs' l' m (t + 1) := S'.set
        refine ⟨.ref p, rfl, p, .int (t + 1), rfl, S2.gets.2.2.2, ?_⟩
        refine ⟨.ref p, rfl, p, .int m, rfl, S2.gets.2.2.1, .int (t + 1), rfl, t + 1, 104729, rfl, rfl, cmul_r (by decide), m, _, rfl, rfl, .inl ⟨_, rfl, _, 998244353, rfl, rfl, (by decide : (0 : Int) < 998244353), ?_⟩⟩
        have b1 : 0 ≤ (m + (t + 1) * 104729) % 998244353 := Int.emod_nonneg _ (by decide)
        have b2 : (m + (t + 1) * 104729) % 998244353 < 998244353 := Int.emod_lt_of_pos _ (by decide)
        refine ⟨.int ((m + (t + 1) * 104729) % 998244353), rfl, .int ((m + (t + 1) * 104729) % 998244353), rfl, _, _, rfl, rfl, cmul_l ⟨by omega, by omega⟩, .int (t + 1), rfl, t + 1, 17, rfl, rfl, cmul_r (by decide), _, _, rfl, rfl, .inl ⟨_, rfl, _, 2147483647, rfl, rfl, (by decide : (0 : Int) < 2147483647), ?_⟩⟩
        refine ⟨.int _, rfl, _, 16, rfl, rfl, ⟨by decide, by decide⟩, .inl ⟨_, rfl, .int most, rfl, _, most, rfl, rfl, (by omega : 0 < most), ?_⟩⟩
        exact q _ _ xs' l' (t + 1) (Int.emod_nonneg _ (by omega)) (Int.emod_lt_of_pos _ (by omega)) (fun b o h1 h2 e => by rw [upd_ne h1]; exact kp b o h1 h2 e) S2
    refine ite2 (fun e1 => ?_) (fun e1 => ?_)
    · refine ⟨.ref c, rfl, c, _, rfl, .inl (SqL.of S'.hc), _, 0, rfl, rfl, _, rfl, ite2 (fun e2 => ?_) (fun e2 => ?_)⟩
      · rw [decide_eq_true_eq, List.length_map] at e2
        have hx : xs' ≠ [] := fun z => by
          subst z
          exact absurd e2 (by decide)
        have hlast : (xs'.map V.int)[(xs'.map V.int).length - 1]? = some (V.int (xs'.getLast hx)) := by
          rw [List.length_map, List.getElem?_map, ← List.getLast?_eq_getElem?, List.getLast?_eq_getLast hx]
          rfl
        have S2 : Src (upd H' c (.lst ((xs'.map V.int).dropLast))) p c xs'.dropLast l' m t := ⟨by rw [upd_ne S'.ne]; exact S'.hp, by rw [upd_same, List.map_dropLast], S'.ne, by rw [List.length_dropLast]; have := S'.len; omega⟩
        refine ⟨fun σ2 H2 => ∃ xs2 l2, xs2.length < xs'.length ∧ σ2 = [some (.ref p), some (.int most), some (.ref c), none, none, none] ∧ Src H2 p c xs2 l2 m t ∧ (∀ b o, b ≠ p → b ≠ c → H b = some o → H2 b = some o), fun σ2 H2 ⟨xs2, l2, a1, a2, a3, a4⟩ => ⟨xs2.length, a1, xs2, l2, rfl, a2, a3, a4⟩, ?_⟩
        refine ⟨.ref c, rfl, .inl ⟨rfl, _, SqL.of S'.hc⟩, c, _, _, rfl, rfl, S'.hc, hlast, .ref p, rfl, p, _, rfl, S2.left, xs'.dropLast, _, ?_, rfl, S2.set, fun b o h1 h2 e => ?_⟩
        · rw [List.length_dropLast]
          have := List.length_pos_iff.mpr hx
          omega
        · rw [upd_ne h1, upd_ne h2]
          exact kp b o h1 h2 e
      · exact fin xs' l' H' S' kp
    · exact ite2 (fun e => absurd e Bool.false_ne_true) fun _ => fin xs' l' H' S' kp
end
end Wr

set_option maxHeartbeats 1000000
/-! Tables: what a def answers at some inputs, checked once. -/
namespace Wr
open PySem PySem.Spec PyProof.Rows L2

def eqAr : Ar → Ar → Bool
  | .im a, .im b => eqD 20 a b
  | .ct (.lst a), .ct (.lst b) => eqL (eqD 20) a b
  | _, _ => false
def eqAs : List Ar → List Ar → Bool
  | [], [] => true
  | x :: xs, y :: ys => match eqAr x y with
    | true => eqAs xs ys
    | false => false
  | _, _ => false
theorem eqAr_true : ∀ {a b : Ar}, eqAr a b = true → a = b
  | .im a, .im b, h => by rw [eqD_true 20 a b h]
  | .ct (.lst a), .ct (.lst b), h => by rw [eqL_true (fun x y => eqD_true 20 x y) (show eqL (eqD 20) a b = true from h)]
  | .im _, .ct _, h => by cases h
  | .ct _, .im _, h => by rename_i c _; cases c <;> cases h
  | .ct (.lst _), .ct (.dP _), h => by cases h
  | .ct (.lst _), .ct (.dI _), h => by cases h
  | .ct (.lst _), .ct (.ll _), h => by cases h
  | .ct (.lst _), .ct (.dN _), h => by cases h
  | .ct (.dP _), .ct c, h => by cases c <;> cases h
  | .ct (.dI _), .ct c, h => by cases c <;> cases h
  | .ct (.ll _), .ct c, h => by cases c <;> cases h
  | .ct (.dN _), .ct c, h => by cases c <;> cases h
theorem eqAs_true : ∀ {a b : List Ar}, eqAs a b = true → a = b
  | [], [], _ => rfl
  | [], _ :: _, h => by cases h
  | _ :: _, [], h => by cases h
  | x :: xs, y :: ys, h => by
    unfold eqAs at h
    split at h
    · rename_i e
      rw [eqAr_true e, eqAs_true h]
    · cases h
def lkI (f : List Ar → Option Dt) : List (List Ar × Dt) → List Ar → Option Dt
  | [], xs => f xs
  | (k, d) :: r, xs => match eqAs k xs with
    | true => some d
    | false => lkI f r xs
def lkF (f : List Ar → Option Ct) : List (List Ar × List Dt) → List Ar → Option Ct
  | [], xs => f xs
  | (k, d) :: r, xs => match eqAs k xs with
    | true => some (.lst d)
    | false => lkF f r xs
def isI (o : Option Dt) (d : Dt) : Bool := match o with
  | some e => eqD 20 e d
  | none => false
def isF (o : Option Ct) (d : List Dt) : Bool := match o with
  | some (.lst e) => eqL (eqD 20) e d
  | _ => false
inductive TI (f : List Ar → Option Dt) : List (List Ar × Dt) → Prop
  | nil : TI f []
  | cons {k : List Ar} {d : Dt} {r : List (List Ar × Dt)} : isI (f k) d = true → TI f r → TI f ((k, d) :: r)
inductive TF (f : List Ar → Option Ct) : List (List Ar × List Dt) → Prop
  | nil : TF f []
  | cons {k : List Ar} {d : List Dt} {r : List (List Ar × List Dt)} : isF (f k) d = true → TF f r → TF f ((k, d) :: r)
theorem TI.ok {f : List Ar → Option Dt} : ∀ {tab : List (List Ar × Dt)}, TI f tab → ∀ {xs : List Ar} {d : Dt}, lkI f tab xs = some d → f xs = some d
  | _, .nil, _, _, h => h
  | (k, d) :: _, .cons c r, xs, e, h => by
    unfold lkI at h
    split at h
    · rename_i q
      cases h
      rw [← eqAs_true q]
      unfold isI at c
      split at c
      · rename_i e1
        rw [e1, eqD_true 20 _ _ c]
      · cases c
    · exact r.ok h
theorem TF.ok {f : List Ar → Option Ct} : ∀ {tab : List (List Ar × List Dt)}, TF f tab → ∀ {xs : List Ar} {d : Ct}, lkF f tab xs = some d → f xs = some d
  | _, .nil, _, _, h => h
  | (k, d) :: _, .cons c r, xs, e, h => by
    unfold lkF at h
    split at h
    · rename_i q
      cases h
      rw [← eqAs_true q]
      unfold isF at c
      split at c
      · rename_i e1
        rw [e1, eqL_true (fun x y => eqD_true 20 x y) c]
      · cases c
    · exact r.ok h
section
variable {P : Program} {w : World} {K : PySem.W.Frag} {mg : Str → Option Value} {base : Heap} {x : Str} {ps : List Str} {k : Nat}
theorem Kn.tabI {f : List Ar → Option Dt} {tab : List (List Ar × Dt)} (h : Kn P w K mg base x ps k (spI f)) (t : TI f tab) : Kn P w K mg base x ps k (spI (lkI f tab)) := h.imp fun vs H Q E ⟨xs, d, a, b, c⟩ => ⟨xs, d, a, t.ok b, c⟩
theorem Kn.tabF {f : List Ar → Option Ct} {tab : List (List Ar × List Dt)} (h : Kn P w K mg base x ps k (spF f)) (t : TF f tab) : Kn P w K mg base x ps k (spF (lkF f tab)) := h.imp fun vs H Q E ⟨xs, d, a, b, c⟩ => ⟨xs, d, a, t.ok b, c⟩
end
def i_ (n : Nat) : Dt := .int (.ofNat n)
def sd (a b : Nat) : Dt := .tup [i_ a, i_ b]
def tz (a b c d : Nat) : Dt := .tup [sd a b, sd c d]
def gl (s : List Dt) (t : List Dt) : Dt := .tup [.tup s, .tup t]
end Wr

set_option maxHeartbeats 400000
namespace Wr
open PySem PySem.Spec PyProof.Rows L2
section
variable {P : Program} {w : World} {K : PySem.W.Frag} {mg : Str → Option Value} {base : Heap}
/-! ### sides_of -/
abbrev s_sides_of : Stmt := topS 4
abbrev n_sides_of : List Str := ["gluing", "t", "s", "i"]
theorem sc_sides_of : FnScope n_sides_of ["gluing"] (defScope s_sides_of) := ⟨rfl, rfl, rfl, by decide +kernel, rfl, by decide +kernel, by decide +kernel⟩
def m_sides_of : MS := (mRetF (mLc2 (o1 (o2 (vIm 0) (cI 0) kIxT) iPairsT) (mTup (mCons (mName 1) (mCons (mName 2) mNil))) tY (o1 (aCons (vIm 2) aNil) kRng1) (mName 3) tY (o1 (aCons (vIm 1) (aCons (vIm 3) aNil)) kTup) [1, 2, 3] [3]))
def f_sides_of : List Ar → Option Ct := argc 1 (runF 4 m_sides_of)
theorem kn_sides_of {f : Addr} {fd : FuncData} (F : Fun K "sides_of" "sides_of" s_sides_of f fd) (hm : mg "sides_of" = some (.ref f)) (nb : Nb mg)  : Kn P w K mg base "sides_of" ["gluing"] 1 (spF f_sides_of) :=
  Kn.of F hm (F.binds (ps := ["gluing"]) fun _ _ _ _ _ _ us hl => match us, hl with | [_], _ => rfl) (fn_F (N := n_sides_of) (ps := ["gluing"]) (m := m_sides_of) F sc_sides_of (by decide)
    (ss_retF (sf_lc2 (vs := [1, 2, 3]) (vs1 := [3]) (si_enumU (K := K) (se_op (rii_ixT (K := K)) (se_var (i := 0)) (se_cI (i := 0)))) (sg_tup (K := K) (sgs_cons (sg_name (i := 1)) (sgs_cons (sg_name (i := 2)) sgs_nil))) st_yes (fun _ => (si_rng1 (sai_cons (se_var (i := 2)) sai_nil))) (sg_name (i := 3)) st_yes (se_tup (sai_cons (se_var (i := 1)) (sai_cons (se_var (i := 3)) sai_nil))) (by decide) (by decide)))
    fun cdv A outer s H E hr => (pss_one (ps_ret (pe_lc2 (own := [("t", 1), ("s", 2), ("i", 3)]) (vs1 := [3]) rfl sc_sides_of.nd (pi_enumT (by rfl) nb.enumerate (pa_cons (pe_ix ix_tup (pv 0) pe_int (fun _ _ => rfl)) pa_nil)) (blkOk_by (N := n_sides_of) (sc := defScope s_sides_of) (by decide +kernel)) (by decide) (fun _ _ _ _ _ => (pg_tup rfl (pgs_cons (pg_name (i := 1) sc_sides_of.nd rfl (by first | exact .inl rfl | exact .inr rfl)) (pgs_cons (pg_name (i := 2) sc_sides_of.nd rfl (by first | exact .inl rfl | exact .inr rfl)) pgs_nil)))) (fun _ _ _ _ _ => pts_nil) (fun _ _ _ _ _ => (pi_range1 (by rfl) nb.range (pa_cons (pv 2) pa_nil))) (fun _ _ _ _ _ => (pg_name (i := 3) sc_sides_of.nd rfl (by first | exact .inl rfl | exact .inr rfl))) (fun _ _ _ _ _ => pts_nil) (fun _ _ _ _ _ => (pe_tup (pa_cons (pv 1) (pa_cons (pv 3) pa_nil))))))))
/-! ### mates_gluings -/
abbrev s_mates_gluings : Stmt := topS 5
abbrev n_mates_gluings : List Str := ["gluing", "found", "one", "other"]
theorem sc_mates_gluings : FnScope n_mates_gluings ["gluing"] (defScope s_mates_gluings) := ⟨rfl, rfl, rfl, by decide +kernel, rfl, by decide +kernel, by decide +kernel⟩
def m_mates_gluings : MS := (mSeq (mSetO 1 (fun _ => some (.dP [])))
    (mSeq (mFor (o1 (o2 (vIm 0) (cI 1) kIxT) kParts) (mTup (mCons (mName 2) (mCons (mName 3) mNil)))
    (mSeq (mPut 1 (vIm 2) (vIm 3))
    (mPut 1 (vIm 3) (vIm 2))))
    (mRetO 1)))
def f_mates_gluings : List Ar → Option Ct := argc 1 (runF 4 m_mates_gluings)
theorem kn_mates_gluings {f : Addr} {fd : FuncData} (F : Fun K "mates" "mates" s_mates_gluings f fd) (hm : mg "mates_gluings" = some (.ref f)) (nb : Nb mg)  : Kn P w K mg base "mates_gluings" ["gluing"] 1 (spF f_mates_gluings) :=
  Kn.of F hm (F.binds (ps := ["gluing"]) fun _ _ _ _ _ _ us hl => match us, hl with | [_], _ => rfl) (fn_F (N := n_mates_gluings) (ps := ["gluing"]) (m := m_mates_gluings) F sc_mates_gluings (by decide)
    (ss_seq (ss_setO (i := 1) sf_newP)
    (ss_seq (ss_for (si_tup (K := K) (se_op (rii_ixT (K := K)) (se_var (i := 0)) (se_cI (i := 1)))) (sg_tup (K := K) (sgs_cons (sg_name (i := 2)) (sgs_cons (sg_name (i := 3)) sgs_nil)))
    (ss_seq (ss_dput (i := 1) (se_var (i := 2)) (se_var (i := 3)))
    (ss_dput (i := 1) (se_var (i := 3)) (se_var (i := 2)))))
    (ss_retO (i := 1))))
    fun cdv A outer s H E hr => (pss_cons (ps_set (i := 1) sc_mates_gluings.nd rfl (.inl rfl) pe_dnewT)
    (pss_cons (ps_for PassesOwn.never rfl (pi_tup (pe_ix ix_tup (pv 0) pe_int (fun _ _ => rfl))) (pg_tup rfl (pgs_cons (pg_name (i := 2) sc_mates_gluings.nd rfl (.inl rfl)) (pgs_cons (pg_name (i := 3) sc_mates_gluings.nd rfl (.inl rfl)) pgs_nil)))
    (pss_cons (ps_dput (hu_of hr) (pv 1) (pv 2) (pv 3) (by rfl))
    (pss_one (ps_dput (hu_of hr) (pv 1) (pv 3) (pv 2) (by rfl)))))
    (pss_one (ps_ret (pv 1))))))
/-! ### mate_of -/
abbrev s_mate_of : Stmt := topS 7
abbrev n_mate_of : List Str := ["gluing", "side"]
theorem sc_mate_of : FnScope n_mate_of ["gluing", "side"] (defScope s_mate_of) := ⟨rfl, rfl, rfl, by decide +kernel, rfl, by decide +kernel, by decide +kernel⟩
def m_mate_of : MS := (mRetI (o2 (o1 (aConsI (vIm 0) aNil) f_mates_gluings) (vIm 1) kGet1))
def f_mate_of : List Ar → Option Dt := argc 2 (runI 2 m_mate_of)
theorem kn_mate_of {f : Addr} {fd : FuncData} (F : Fun K "mate_of" "mate_of" s_mate_of f fd) (hm : mg "mate_of" = some (.ref f)) (nb : Nb mg) (k_mates_gluings : Kn P w K mg base "mates_gluings" ["gluing"] 1 (spF f_mates_gluings)) : Kn P w K mg base "mate_of" ["gluing", "side"] 2 (spI f_mate_of) :=
  Kn.of F hm (F.binds (ps := ["gluing", "side"]) fun _ _ _ _ _ _ us hl => match us, hl with | [_, _], _ => rfl) (fn_I (N := n_mate_of) (ps := ["gluing", "side"]) (m := m_mate_of) F sc_mate_of (by decide)
    (ss_retI (se_dget1 (SF.c (sf_call (E := E0) (sar_consI (se_var (i := 0)) sar_nil))) (se_var (i := 1))))
    fun cdv A outer s H E hr => (pss_one (ps_ret (pe_dget1 (hu_of hr) (k_mates_gluings.call hr (by decide) (by rfl) (pa_cons (pv 0) pa_nil)) (pv 1) ⟨rfl, rfl, rfl, rfl⟩))))
/-! ### one_tile -/
abbrev s_one_tile : Stmt := topS 8
abbrev n_one_tile : List Str := ["s"]
theorem sc_one_tile : FnScope n_one_tile ["s"] (defScope s_one_tile) := ⟨rfl, rfl, rfl, by decide +kernel, rfl, by decide +kernel, by decide +kernel⟩
def m_one_tile : MS := (mRetI (o1 (aCons (o1 (aCons (vIm 0) aNil) kTup) (aCons (o1 aNil kTup) aNil)) kTup))
def f_one_tile : List Ar → Option Dt := argc 1 (runI 1 m_one_tile)
theorem kn_one_tile {f : Addr} {fd : FuncData} (F : Fun K "one_tile" "one_tile" s_one_tile f fd) (hm : mg "one_tile" = some (.ref f)) (nb : Nb mg)  : Kn P w K mg base "one_tile" ["s"] 1 (spI f_one_tile) :=
  Kn.of F hm (F.binds (ps := ["s"]) fun _ _ _ _ _ _ us hl => match us, hl with | [_], _ => rfl) (fn_I (N := n_one_tile) (ps := ["s"]) (m := m_one_tile) F sc_one_tile (by decide)
    (ss_retI (se_tup (sai_cons (se_tup (sai_cons (se_var (i := 0)) sai_nil)) (sai_cons (se_tup sai_nil) sai_nil))))
    fun cdv A outer s H E hr => (pss_one (ps_ret (pe_tup (pa_cons (pe_tup (pa_cons (pv 0) pa_nil)) (pa_cons (pe_tup pa_nil) pa_nil))))))
/-! ### ordered -/
abbrev s_ordered : Stmt := topS 9
abbrev n_ordered : List Str := ["sizes", "ties", "tie"]
theorem sc_ordered : FnScope n_ordered ["sizes", "ties"] (defScope s_ordered) := ⟨rfl, rfl, rfl, by decide +kernel, rfl, by decide +kernel, by decide +kernel⟩
def m_ordered : MS := (mRetI (o1 (aCons (o1 (aConsC (vFz 0) aNil) kTupOf) (aCons (o1 (aConsC (o1 (aConsC (mLc (o1 (vFz 1) kItems) (mName 2) tY (o1 (aCons (o1 (aConsI (vIm 2) aNil) (kPickT (.tup [.int, .int]) dMin)) (aCons (o1 (aConsI (vIm 2) aNil) (kPickT (.tup [.int, .int]) dMax)) aNil)) kTup) [2]) aNil) (kSort (.tup [.tup [.int, .int], .tup [.int, .int]]))) aNil) kTupOf) aNil)) kTup))
def f_ordered : List Ar → Option Dt := argc 2 (runI 3 m_ordered)
theorem kn_ordered {f : Addr} {fd : FuncData} (F : Fun K "ordered" "ordered" s_ordered f fd) (hm : mg "ordered" = some (.ref f)) (nb : Nb mg)  : Kn P w K mg base "ordered" ["sizes", "ties"] 1 (spI f_ordered) :=
  Kn.of F hm (F.binds (ps := ["sizes", "ties"]) fun _ _ _ _ _ _ us hl => match us, hl with | [_, _], _ => rfl) (fn_I (N := n_ordered) (ps := ["sizes", "ties"]) (m := m_ordered) F sc_ordered (by decide)
    (ss_retI (se_tup (sai_cons (se_cb (rb_tupOf (K := K)) (sar_consC (SZ.c (sz_var (i := 0))) sar_nil)) (sai_cons (se_cb (rb_tupOf (K := K)) (sar_consC (SF.c (sf_cb (rb_sort (t := (.tup [.tup [.int, .int], .tup [.int, .int]]))) (sar_consC (SF.c (sf_lc (vs := [2]) (si_list (K := K) (scn_a (SZ.c (sz_var (i := 1))))) (sg_name (i := 2)) st_yes (se_tup (sai_cons (se_cb (rb_pickT (t := (.tup [.int, .int])) (m := dMin)) (sar_consI (se_var (i := 2)) sar_nil)) (sai_cons (se_cb (rb_pickT (t := (.tup [.int, .int])) (m := dMax)) (sar_consI (se_var (i := 2)) sar_nil)) sai_nil))) (by decide))) sar_nil))) sar_nil)) sai_nil))))
    fun cdv A outer s H E hr => (pss_one (ps_ret (pe_tup (pa_cons (pe_callTy call_tuple_of (by rfl) nb.tuple PyProof.Rows.boot_tuple (pa_cons (pv 0) pa_nil)) (pa_cons (pe_callTy call_tuple_of (by rfl) nb.tuple PyProof.Rows.boot_tuple (pa_cons (pe_callB (cr_sortT (t := (.tup [.tup [.int, .int], .tup [.int, .int]])) hr.units) (by rfl) nb.sorted PyProof.Rows.boot_sorted (pa_cons (pe_lc (own := [("tie", 2)]) rfl sc_ordered.nd (pi_list (pv 1)) (blkOk_by (N := n_ordered) (sc := defScope s_ordered) (by decide +kernel)) (fun _ _ _ _ _ => (pg_name (i := 2) sc_ordered.nd rfl (by first | exact .inl rfl | exact .inr rfl))) (fun _ _ _ _ _ => pts_nil) (fun _ _ _ _ _ => (pe_tup (pa_cons (pe_callB (cr_minT (t := (.tup [.int, .int])) rfl hr.units) (by rfl) nb.min PyProof.Rows.boot_min (pa_cons (pv 2) pa_nil)) (pa_cons (pe_callB (cr_maxT (t := (.tup [.int, .int])) rfl hr.units) (by rfl) nb.max PyProof.Rows.boot_max (pa_cons (pv 2) pa_nil)) pa_nil))))) pa_nil)) pa_nil)) pa_nil))))))
/-! ### part_of -/
abbrev s_part_of : Stmt := topS 10
abbrev n_part_of : List Str := ["gluing", "tiles", "number", "inside", "ties", "k", "t", "tie", "i"]
theorem sc_part_of : FnScope n_part_of ["gluing", "tiles"] (defScope s_part_of) := ⟨rfl, rfl, rfl, by decide +kernel, rfl, by decide +kernel, by decide +kernel⟩
def m_part_of : MS := (mSeq (mSetZ 2 (mDc (.dI []) (o1 (vFz 1) iPairsL) (mTup (mCons (mName 5) (mCons (mName 6) mNil))) tY (vIm 6) (vIm 5) [5, 6]))
    (mSeq (mSetZ 3 (mLc (o1 (o2 (vIm 0) (cI 1) kIxT) kParts) (mName 7) (bAnd (o1 (o2 (vFz 2) (o2 (o2 (vIm 7) (cI 0) kIxT) (cI 0) kIxT) (kHas id)) toB) (o1 (o2 (vFz 2) (o2 (o2 (vIm 7) (cI 1) kIxT) (cI 0) kIxT) (kHas id)) toB)) (vIm 7) [7]))
    (mSeq (mSetZ 4 (mLc (o1 (vFz 3) kItems) (mName 7) tY (o1 (aConsC (mLc (o1 (vIm 7) kParts) (mTup (mCons (mName 6) (mCons (mName 8) mNil))) tY (o1 (aCons (o2 (vFz 2) (vIm 6) kGet) (aCons (vIm 8) aNil)) kTup) [6, 8]) aNil) kTupOf) [7]))
    (mRetI (o1 (aConsC (mLc (o1 (vFz 1) kItems) (mName 6) tY (o2 (o2 (vIm 0) (cI 0) kIxT) (vIm 6) kIxT) [6]) (aConsC (vFz 4) aNil)) f_ordered)))))
def f_part_of : List Ar → Option Dt := argc 2 (runI 9 m_part_of)
theorem kn_part_of {f : Addr} {fd : FuncData} (F : Fun K "part_of" "part_of" s_part_of f fd) (hm : mg "part_of" = some (.ref f)) (nb : Nb mg) (k_ordered : Kn P w K mg base "ordered" ["sizes", "ties"] 1 (spI f_ordered)) : Kn P w K mg base "part_of" ["gluing", "tiles"] 2 (spI f_part_of) :=
  Kn.of F hm (F.binds (ps := ["gluing", "tiles"]) fun _ _ _ _ _ _ us hl => match us, hl with | [_, _], _ => rfl) (fn_I (N := n_part_of) (ps := ["gluing", "tiles"]) (m := m_part_of) F sc_part_of (by decide)
    (ss_seq (ss_setZ (i := 2) (SF.z (sf_dc (vs := [5, 6]) nilI (si_enumL (K := K) (scn_a (SZ.c (sz_var (i := 1))))) (sg_tup (K := K) (sgs_cons (sg_name (i := 5)) (sgs_cons (sg_name (i := 6)) sgs_nil))) st_yes (se_var (i := 6)) (se_var (i := 5)) (by decide))))
    (ss_seq (ss_setZ (i := 3) (SF.z (sf_lc (vs := [7]) (si_tup (K := K) (se_op (rii_ixT (K := K)) (se_var (i := 0)) (se_cI (i := 1)))) (sg_name (i := 7)) (st_and (st_B (se_din (se_op (rii_ixT (K := K)) (se_op (rii_ixT (K := K)) (se_var (i := 7)) (se_cI (i := 0))) (se_cI (i := 0))) (SZ.c (sz_var (i := 2))))) (st_B (se_din (se_op (rii_ixT (K := K)) (se_op (rii_ixT (K := K)) (se_var (i := 7)) (se_cI (i := 1))) (se_cI (i := 0))) (SZ.c (sz_var (i := 2)))))) (se_var (i := 7)) (by decide))))
    (ss_seq (ss_setZ (i := 4) (SF.z (sf_lc (vs := [7]) (si_list (K := K) (scn_a (SZ.c (sz_var (i := 3))))) (sg_name (i := 7)) st_yes (se_cb (rb_tupOf (K := K)) (sar_consC (SF.c (sf_lc (vs := [6, 8]) (si_tup (K := K) (se_var (i := 7))) (sg_tup (K := K) (sgs_cons (sg_name (i := 6)) (sgs_cons (sg_name (i := 8)) sgs_nil))) st_yes (se_tup (sai_cons (se_dget (SZ.c (sz_var (i := 2))) (se_var (i := 6))) (sai_cons (se_var (i := 8)) sai_nil))) (by decide))) sar_nil)) (by decide))))
    (ss_retI (se_call (E := E0) (sar_consC (SF.c (sf_lc (vs := [6]) (si_list (K := K) (scn_a (SZ.c (sz_var (i := 1))))) (sg_name (i := 6)) st_yes (se_op (rii_ixT (K := K)) (se_op (rii_ixT (K := K)) (se_var (i := 0)) (se_cI (i := 0))) (se_var (i := 6))) (by decide))) (sar_consC (SZ.c (sz_var (i := 4))) sar_nil)))))))
    fun cdv A outer s H E hr => (pss_cons (ps_set (i := 2) sc_part_of.nd rfl (.inr rfl) (pe_dcP (own := [("k", 5), ("t", 6)]) (fun h H b => dk_empty h b) (hu_of hr) rfl sc_part_of.nd (pi_enum (by rfl) nb.enumerate (pa_cons (pv 1) pa_nil)) (blkOk_by (N := n_part_of) (sc := defScope s_part_of) (by decide +kernel)) (fun _ _ _ _ _ => (pg_tup rfl (pgs_cons (pg_name (i := 5) sc_part_of.nd rfl (by first | exact .inl rfl | exact .inr rfl)) (pgs_cons (pg_name (i := 6) sc_part_of.nd rfl (by first | exact .inl rfl | exact .inr rfl)) pgs_nil)))) (fun _ _ _ _ _ => pts_nil) (fun _ _ _ _ _ => (pv 6)) (fun _ _ _ _ _ => (pv 5))))
    (pss_cons (ps_setLc (i := 3) (own := [("tie", 7)]) rfl sc_part_of.nd rfl rfl (sw_true rfl rfl rfl (by decide +kernel)) (pi_tup (pe_ix ix_tup (pv 0) pe_int (fun _ _ => rfl))) (blkOk_by (N := n_part_of) (sc := defScope s_part_of) (by decide +kernel)) (fun _ _ _ _ _ => (pg_name (i := 7) sc_part_of.nd rfl (by first | exact .inl rfl | exact .inr rfl))) (fun _ _ _ _ _ => (pts_one (PW.pt (pw_and (pt_cmp (pc_din (hu_of hr) (pe_ix ix_tup (pe_ix ix_tup (pv 7) pe_int (fun _ _ => rfl)) pe_int (fun _ _ => rfl)) (pv 2))) (pw_and1 (pt_cmp (pc_din (hu_of hr) (pe_ix ix_tup (pe_ix ix_tup (pv 7) pe_int (fun _ _ => rfl)) pe_int (fun _ _ => rfl)) (pv 2)))))))) (fun _ _ _ _ _ => (pv 7)))
    (pss_cons (ps_setLc (i := 4) (own := [("tie", 7)]) rfl sc_part_of.nd rfl rfl (sw_true rfl rfl rfl (by decide +kernel)) (pi_list (pv 3)) (blkOk_by (N := n_part_of) (sc := defScope s_part_of) (by decide +kernel)) (fun _ _ _ _ _ => (pg_name (i := 7) sc_part_of.nd rfl (by first | exact .inl rfl | exact .inr rfl))) (fun _ _ _ _ _ => pts_nil) (fun _ _ _ _ _ => (pe_callTy call_tuple_of (by rfl) nb.tuple PyProof.Rows.boot_tuple (pa_cons (pe_lc (own := [("t", 6), ("i", 8)]) rfl sc_part_of.nd (pi_tup (pv 7)) (blkOk_by (by rfl)) (fun _ _ _ _ _ => (pg_tup rfl (pgs_cons (pg_name (i := 6) sc_part_of.nd rfl (by first | exact .inl rfl | exact .inr rfl)) (pgs_cons (pg_name (i := 8) sc_part_of.nd rfl (by first | exact .inl rfl | exact .inr rfl)) pgs_nil)))) (fun _ _ _ _ _ => pts_nil) (fun _ _ _ _ _ => (pe_tup (pa_cons (pe_dget (hu_of hr) (pv 2) (pv 6) (fun _ _ => rfl)) (pa_cons (pv 8) pa_nil))))) pa_nil))))
    (pss_one (ps_ret (k_ordered.call hr (by decide) (by rfl) (pa_cons (pe_lc (own := [("t", 6)]) rfl sc_part_of.nd (pi_list (pv 1)) (blkOk_by (N := n_part_of) (sc := defScope s_part_of) (by decide +kernel)) (fun _ _ _ _ _ => (pg_name (i := 6) sc_part_of.nd rfl (by first | exact .inl rfl | exact .inr rfl))) (fun _ _ _ _ _ => pts_nil) (fun _ _ _ _ _ => (pe_ix ix_tup (pe_ix ix_tup (pv 0) pe_int (fun _ _ => rfl)) (pv 6) (fun _ _ => rfl)))) (pa_cons (pv 4) pa_nil)))))))))
/-! ### named -/
abbrev s_named : Stmt := topS 11
abbrev n_named : List Str := ["gluing", "order", "firsts", "sizes", "t", "s", "ties", "tie", "i"]
theorem sc_named : FnScope n_named ["gluing", "order", "firsts"] (defScope s_named) := ⟨rfl, rfl, rfl, by decide +kernel, rfl, by decide +kernel, by decide +kernel⟩
def m_named : MS := (mSeq (mSetO 3 (o2 (o1 (aCons (cI 0) aNil) kLst) (o1 (aConsI (vIm 1) aNil) kLen) kRep))
    (mSeq (mFor (o1 (o2 (vIm 0) (cI 0) kIxT) iPairsT) (mTup (mCons (mName 4) (mCons (mName 5) mNil)))
    (mSetL 3 (o2 (vIm 1) (vIm 4) kIxT) (vIm 5)))
    (mSeq (mSetZ 6 (mLc (o1 (o2 (vIm 0) (cI 1) kIxT) kParts) (mName 7) tY (o1 (aConsC (mLc (o1 (vIm 7) kParts) (mTup (mCons (mName 4) (mCons (mName 8) mNil))) tY (o1 (aCons (o2 (vIm 1) (vIm 4) kIxT) (aCons (o2 (o2 (vIm 8) (o2 (vIm 2) (vIm 4) kIxT) kSub) (o2 (o2 (vIm 0) (cI 0) kIxT) (vIm 4) kIxT) kMod) aNil)) kTup) [4, 8]) aNil) kTupOf) [7]))
    (mRetI (o1 (aConsC (vCt 3) (aConsC (vFz 6) aNil)) f_ordered)))))
def f_named : List Ar → Option Dt := argc 3 (runI 9 m_named)
theorem kn_named {f : Addr} {fd : FuncData} (F : Fun K "named" "named" s_named f fd) (hm : mg "named" = some (.ref f)) (nb : Nb mg) (k_ordered : Kn P w K mg base "ordered" ["sizes", "ties"] 1 (spI f_ordered)) : Kn P w K mg base "named" ["gluing", "order", "firsts"] 2 (spI f_named) :=
  Kn.of F hm (F.binds (ps := ["gluing", "order", "firsts"]) fun _ _ _ _ _ _ us hl => match us, hl with | [_, _, _], _ => rfl) (fn_I (N := n_named) (ps := ["gluing", "order", "firsts"]) (m := m_named) F sc_named (by decide)
    (ss_seq (ss_setO (i := 3) (sf_rep (SF.c (sf_lst (sai_cons (se_cI (i := 0)) sai_nil))) (se_cb (rb_len (K := K)) (sar_consI (se_var (i := 1)) sar_nil))))
    (ss_seq (ss_for (si_enumU (K := K) (se_op (rii_ixT (K := K)) (se_var (i := 0)) (se_cI (i := 0)))) (sg_tup (K := K) (sgs_cons (sg_name (i := 4)) (sgs_cons (sg_name (i := 5)) sgs_nil)))
    (ss_setL (i := 3) (se_op (rii_ixT (K := K)) (se_var (i := 1)) (se_var (i := 4))) (se_var (i := 5))))
    (ss_seq (ss_setZ (i := 6) (SF.z (sf_lc (vs := [7]) (si_tup (K := K) (se_op (rii_ixT (K := K)) (se_var (i := 0)) (se_cI (i := 1)))) (sg_name (i := 7)) st_yes (se_cb (rb_tupOf (K := K)) (sar_consC (SF.c (sf_lc (vs := [4, 8]) (si_tup (K := K) (se_var (i := 7))) (sg_tup (K := K) (sgs_cons (sg_name (i := 4)) (sgs_cons (sg_name (i := 8)) sgs_nil))) st_yes (se_tup (sai_cons (se_op (rii_ixT (K := K)) (se_var (i := 1)) (se_var (i := 4))) (sai_cons (se_op rii_mod (se_op rii_sub (se_var (i := 8)) (se_op (rii_ixT (K := K)) (se_var (i := 2)) (se_var (i := 4)))) (se_op (rii_ixT (K := K)) (se_op (rii_ixT (K := K)) (se_var (i := 0)) (se_cI (i := 0))) (se_var (i := 4)))) sai_nil))) (by decide))) sar_nil)) (by decide))))
    (ss_retI (se_call (E := E0) (sar_consC (sc_var (i := 3)) (sar_consC (SZ.c (sz_var (i := 6))) sar_nil)))))))
    fun cdv A outer s H E hr => (pss_cons (ps_set (i := 3) sc_named.nd rfl (.inl rfl) (pe_op op_rep (pe_lst (pa_cons pe_int pa_nil)) (pe_callB call_len_seq (by rfl) nb.len PySem.boot_len (pa_cons (pv 1) pa_nil))))
    (pss_cons (ps_for PassesOwn.never rfl (pi_enumT (by rfl) nb.enumerate (pa_cons (pe_ix ix_tup (pv 0) pe_int (fun _ _ => rfl)) pa_nil)) (pg_tup rfl (pgs_cons (pg_name (i := 4) sc_named.nd rfl (.inl rfl)) (pgs_cons (pg_name (i := 5) sc_named.nd rfl (.inl rfl)) pgs_nil)))
    (pss_one (ps_asg (pv 5) (pg_sub (pv 3) (pe_ix ix_tup (pv 1) (pv 4) (fun _ _ => rfl)) set_list))))
    (pss_cons (ps_setLc (i := 6) (own := [("tie", 7)]) rfl sc_named.nd rfl rfl (sw_true rfl rfl rfl (by decide +kernel)) (pi_tup (pe_ix ix_tup (pv 0) pe_int (fun _ _ => rfl))) (blkOk_by (N := n_named) (sc := defScope s_named) (by decide +kernel)) (fun _ _ _ _ _ => (pg_name (i := 7) sc_named.nd rfl (by first | exact .inl rfl | exact .inr rfl))) (fun _ _ _ _ _ => pts_nil) (fun _ _ _ _ _ => (pe_callTy call_tuple_of (by rfl) nb.tuple PyProof.Rows.boot_tuple (pa_cons (pe_lc (own := [("t", 4), ("i", 8)]) rfl sc_named.nd (pi_tup (pv 7)) (blkOk_by (by rfl)) (fun _ _ _ _ _ => (pg_tup rfl (pgs_cons (pg_name (i := 4) sc_named.nd rfl (by first | exact .inl rfl | exact .inr rfl)) (pgs_cons (pg_name (i := 8) sc_named.nd rfl (by first | exact .inl rfl | exact .inr rfl)) pgs_nil)))) (fun _ _ _ _ _ => pts_nil) (fun _ _ _ _ _ => (pe_tup (pa_cons (pe_ix ix_tup (pv 1) (pv 4) (fun _ _ => rfl)) (pa_cons (pe_op op_mod (pe_op op_sub (pv 8) (pe_ix ix_tup (pv 2) (pv 4) (fun _ _ => rfl))) (pe_ix ix_tup (pe_ix ix_tup (pv 0) pe_int (fun _ _ => rfl)) (pv 4) (fun _ _ => rfl))) pa_nil))))) pa_nil))))
    (pss_one (ps_ret (k_ordered.call hr (by decide) (by rfl) (pa_cons (pv 3) (pa_cons (pv 6) pa_nil)))))))))
/-! ### mates_corners -/
abbrev s_mates_corners : Stmt := topS 13
abbrev n_mates_corners : List Str := ["gluing", "found", "one", "other"]
theorem sc_mates_corners : FnScope n_mates_corners ["gluing"] (defScope s_mates_corners) := ⟨rfl, rfl, rfl, by decide +kernel, rfl, by decide +kernel, by decide +kernel⟩
def m_mates_corners : MS := (mSeq (mSetO 1 (fun _ => some (.dP [])))
    (mSeq (mFor (o1 (o2 (vIm 0) (cI 1) kIxT) kParts) (mTup (mCons (mName 2) (mCons (mName 3) mNil)))
    (mSeq (mPut 1 (vIm 2) (vIm 3))
    (mPut 1 (vIm 3) (vIm 2))))
    (mRetO 1)))
def f_mates_corners : List Ar → Option Ct := argc 1 (runF 4 m_mates_corners)
theorem kn_mates_corners {f : Addr} {fd : FuncData} (F : Fun K "mates" "mates" s_mates_corners f fd) (hm : mg "mates_corners" = some (.ref f)) (nb : Nb mg)  : Kn P w K mg base "mates_corners" ["gluing"] 1 (spF f_mates_corners) :=
  Kn.of F hm (F.binds (ps := ["gluing"]) fun _ _ _ _ _ _ us hl => match us, hl with | [_], _ => rfl) (fn_F (N := n_mates_corners) (ps := ["gluing"]) (m := m_mates_corners) F sc_mates_corners (by decide)
    (ss_seq (ss_setO (i := 1) sf_newP)
    (ss_seq (ss_for (si_tup (K := K) (se_op (rii_ixT (K := K)) (se_var (i := 0)) (se_cI (i := 1)))) (sg_tup (K := K) (sgs_cons (sg_name (i := 2)) (sgs_cons (sg_name (i := 3)) sgs_nil)))
    (ss_seq (ss_dput (i := 1) (se_var (i := 2)) (se_var (i := 3)))
    (ss_dput (i := 1) (se_var (i := 3)) (se_var (i := 2)))))
    (ss_retO (i := 1))))
    fun cdv A outer s H E hr => (pss_cons (ps_set (i := 1) sc_mates_corners.nd rfl (.inl rfl) pe_dnewT)
    (pss_cons (ps_for PassesOwn.never rfl (pi_tup (pe_ix ix_tup (pv 0) pe_int (fun _ _ => rfl))) (pg_tup rfl (pgs_cons (pg_name (i := 2) sc_mates_corners.nd rfl (.inl rfl)) (pgs_cons (pg_name (i := 3) sc_mates_corners.nd rfl (.inl rfl)) pgs_nil)))
    (pss_cons (ps_dput (hu_of hr) (pv 1) (pv 2) (pv 3) (by rfl))
    (pss_one (ps_dput (hu_of hr) (pv 1) (pv 3) (pv 2) (by rfl)))))
    (pss_one (ps_ret (pv 1))))))
/-! ### step_on -/
abbrev s_step_on : Stmt := topS 15
abbrev n_step_on : List Str := ["sizes", "ties", "share", "mate"]
theorem sc_step_on : FnScope n_step_on ["sizes", "ties", "share"] (defScope s_step_on) := ⟨rfl, rfl, rfl, by decide +kernel, rfl, by decide +kernel, by decide +kernel⟩
def m_step_on : MS := (mSeq (mSetI 3 (o2 (vFz 1) (vIm 2) kGet1))
    (mRetI (bIf (o1 (o1 (vIm 3) fun d => some (.bl (isNon d))) toB) cN (o1 (aCons (o2 (vIm 3) (cI 0) kIxT) (aCons (o2 (o2 (o2 (vIm 3) (cI 1) kIxT) (cI 1) kAdd) (o2 (vIm 0) (o2 (vIm 3) (cI 0) kIxT) kIxT) kMod) aNil)) kTup))))
def f_step_on : List Ar → Option Dt := argc 3 (runI 4 m_step_on)
theorem kn_step_on {f : Addr} {fd : FuncData} (F : Fun K "step_on" "step_on" s_step_on f fd) (hm : mg "step_on" = some (.ref f)) (nb : Nb mg)  : Kn P w K mg base "step_on" ["sizes", "ties", "share"] 1 (spI f_step_on) :=
  Kn.of F hm (F.binds (ps := ["sizes", "ties", "share"]) fun _ _ _ _ _ _ us hl => match us, hl with | [_, _, _], _ => rfl) (fn_I (N := n_step_on) (ps := ["sizes", "ties", "share"]) (m := m_step_on) F sc_step_on (by decide)
    (ss_seq (ss_setI (i := 3) (se_dget2N (SZ.c (sz_var (i := 1))) (se_var (i := 2))))
    (ss_retI (se_if (st_test (se_isN (se_var (i := 3)))) se_cN (se_tup (sai_cons (se_op (rii_ixT (K := K)) (se_var (i := 3)) (se_cI (i := 0))) (sai_cons (se_op rii_mod (se_op rii_add (se_op (rii_ixT (K := K)) (se_var (i := 3)) (se_cI (i := 1))) (se_cI (i := 1))) (se_op (rii_ixT (K := K)) (se_var (i := 0)) (se_op (rii_ixT (K := K)) (se_var (i := 3)) (se_cI (i := 0))))) sai_nil))))))
    fun cdv A outer s H E hr => (pss_cons (ps_set (i := 3) sc_step_on.nd rfl (.inl rfl) (pe_dget2 (hu_of hr) (pv 1) (pv 2) pe_non ⟨rfl, rfl, rfl, rfl⟩))
    (pss_one (ps_ret (pe_ifExp (pt_cmpR op_isN (pv 3) pe_non (nomark _)) pe_non (pe_tup (pa_cons (pe_ix ix_tup (pv 3) pe_int (fun _ _ => rfl)) (pa_cons (pe_op op_mod (pe_op op_add (pe_ix ix_tup (pv 3) pe_int (fun _ _ => rfl)) pe_int) (pe_ix ix_tup (pv 0) (pe_ix ix_tup (pv 3) pe_int (fun _ _ => rfl)) (fun _ _ => rfl))) pa_nil))))))))
/-! ### step_back -/
abbrev s_step_back : Stmt := topS 16
abbrev n_step_back : List Str := ["sizes", "ties", "share"]
theorem sc_step_back : FnScope n_step_back ["sizes", "ties", "share"] (defScope s_step_back) := ⟨rfl, rfl, rfl, by decide +kernel, rfl, by decide +kernel, by decide +kernel⟩
def m_step_back : MS := (mRetI (o2 (vFz 1) (o1 (aCons (o2 (vIm 2) (cI 0) kIxT) (aCons (o2 (o2 (o2 (vIm 2) (cI 1) kIxT) (cI 1) kSub) (o2 (vIm 0) (o2 (vIm 2) (cI 0) kIxT) kIxT) kMod) aNil)) kTup) kGet1))
def f_step_back : List Ar → Option Dt := argc 3 (runI 3 m_step_back)
theorem kn_step_back {f : Addr} {fd : FuncData} (F : Fun K "step_back" "step_back" s_step_back f fd) (hm : mg "step_back" = some (.ref f)) (nb : Nb mg)  : Kn P w K mg base "step_back" ["sizes", "ties", "share"] 1 (spI f_step_back) :=
  Kn.of F hm (F.binds (ps := ["sizes", "ties", "share"]) fun _ _ _ _ _ _ us hl => match us, hl with | [_, _, _], _ => rfl) (fn_I (N := n_step_back) (ps := ["sizes", "ties", "share"]) (m := m_step_back) F sc_step_back (by decide)
    (ss_retI (se_dget2N (SZ.c (sz_var (i := 1))) (se_tup (sai_cons (se_op (rii_ixT (K := K)) (se_var (i := 2)) (se_cI (i := 0))) (sai_cons (se_op rii_mod (se_op rii_sub (se_op (rii_ixT (K := K)) (se_var (i := 2)) (se_cI (i := 1))) (se_cI (i := 1))) (se_op (rii_ixT (K := K)) (se_var (i := 0)) (se_op (rii_ixT (K := K)) (se_var (i := 2)) (se_cI (i := 0))))) sai_nil)))))
    fun cdv A outer s H E hr => (pss_one (ps_ret (pe_dget2 (hu_of hr) (pv 1) (pe_tup (pa_cons (pe_ix ix_tup (pv 2) pe_int (fun _ _ => rfl)) (pa_cons (pe_op op_mod (pe_op op_sub (pe_ix ix_tup (pv 2) pe_int (fun _ _ => rfl)) pe_int) (pe_ix ix_tup (pv 0) (pe_ix ix_tup (pv 2) pe_int (fun _ _ => rfl)) (fun _ _ => rfl))) pa_nil))) pe_non ⟨rfl, rfl, rfl, rfl⟩))))
/-! ### onward -/
abbrev s_onward : Stmt := topS 17
abbrev n_onward : List Str := ["gluing", "share"]
theorem sc_onward : FnScope n_onward ["gluing", "share"] (defScope s_onward) := ⟨rfl, rfl, rfl, by decide +kernel, rfl, by decide +kernel, by decide +kernel⟩
def m_onward : MS := (mRetI (o1 (aConsI (o2 (vIm 0) (cI 0) kIxT) (aConsC (o1 (aConsI (vIm 0) aNil) f_mates_corners) (aConsI (vIm 1) aNil))) f_step_on))
def f_onward : List Ar → Option Dt := argc 2 (runI 2 m_onward)
theorem kn_onward {f : Addr} {fd : FuncData} (F : Fun K "onward" "onward" s_onward f fd) (hm : mg "onward" = some (.ref f)) (nb : Nb mg) (k_mates_corners : Kn P w K mg base "mates_corners" ["gluing"] 1 (spF f_mates_corners)) (k_step_on : Kn P w K mg base "step_on" ["sizes", "ties", "share"] 1 (spI f_step_on)) : Kn P w K mg base "onward" ["gluing", "share"] 2 (spI f_onward) :=
  Kn.of F hm (F.binds (ps := ["gluing", "share"]) fun _ _ _ _ _ _ us hl => match us, hl with | [_, _], _ => rfl) (fn_I (N := n_onward) (ps := ["gluing", "share"]) (m := m_onward) F sc_onward (by decide)
    (ss_retI (se_call (E := E0) (sar_consI (se_op (rii_ixT (K := K)) (se_var (i := 0)) (se_cI (i := 0))) (sar_consC (SF.c (sf_call (E := E0) (sar_consI (se_var (i := 0)) sar_nil))) (sar_consI (se_var (i := 1)) sar_nil)))))
    fun cdv A outer s H E hr => (pss_one (ps_ret (k_step_on.call hr (by decide) (by rfl) (pa_cons (pe_ix ix_tup (pv 0) pe_int (fun _ _ => rfl)) (pa_cons (k_mates_corners.call hr (by decide) (by rfl) (pa_cons (pv 0) pa_nil)) (pa_cons (pv 1) pa_nil)))))))
/-! ### walked -/
abbrev s_walked : Stmt := topS 18
abbrev n_walked : List Str := ["sizes", "ties", "share", "found", "here"]
theorem sc_walked : FnScope n_walked ["sizes", "ties", "share"] (defScope s_walked) := ⟨rfl, rfl, rfl, by decide +kernel, rfl, by decide +kernel, by decide +kernel⟩
def m_walked : MS := (mSeq (mPar [3, 4] (sO (o1 (aCons (vIm 2) aNil) kLst) (sI (o1 (aConsI (vIm 0) (aConsC (vFz 1) (aConsI (vIm 2) aNil))) f_step_on) aNil)))
    (mSeq (mWhile (bAnd (o1 (o1 (vIm 4) fun d => some (.bl (!isNon d))) toB) (o1 (o2 (vIm 4) (vIm 2) (kEq not)) toB))
    (mSeq (mApp 3 (vIm 4))
    (mSetI 4 (o1 (aConsI (vIm 0) (aConsC (vFz 1) (aConsI (vIm 4) aNil))) f_step_on))) 500)
    (mRetO 3)))
def f_walked : List Ar → Option Ct := argc 3 (runF 5 m_walked)
theorem kn_walked {f : Addr} {fd : FuncData} (F : Fun K "walked" "walked" s_walked f fd) (hm : mg "walked" = some (.ref f)) (nb : Nb mg) (k_step_on : Kn P w K mg base "step_on" ["sizes", "ties", "share"] 1 (spI f_step_on)) : Kn P w K mg base "walked" ["sizes", "ties", "share"] 2 (spF f_walked) :=
  Kn.of F hm (F.binds (ps := ["sizes", "ties", "share"]) fun _ _ _ _ _ _ us hl => match us, hl with | [_, _, _], _ => rfl) (fn_F (N := n_walked) (ps := ["sizes", "ties", "share"]) (m := m_walked) F sc_walked (by decide)
    (ss_seq (ss_par (i := 3) (j := 4) (sm_O (sf_lst (sai_cons (se_var (i := 2)) sai_nil)) (sm_I (se_call (E := E0) (sar_consI (se_var (i := 0)) (sar_consC (SZ.c (sz_var (i := 1))) (sar_consI (se_var (i := 2)) sar_nil)))) sm_nil)))
    (ss_seq (ss_while 500 (st_and (st_test (se_notN (se_var (i := 4)))) (st_test (se_op (rii_ne (K := K)) (se_var (i := 4)) (se_var (i := 2)))))
    (ss_seq (ss_app (K := K) (i := 3) (se_var (i := 4)))
    (ss_setI (i := 4) (se_call (E := E0) (sar_consI (se_var (i := 0)) (sar_consC (SZ.c (sz_var (i := 1))) (sar_consI (se_var (i := 4)) sar_nil)))))))
    (ss_retO (i := 3))))
    fun cdv A outer s H E hr => (pss_cons (ps_par (i := 3) (j := 4) rfl sc_walked.nd rfl rfl (by decide) rfl rfl (pa_cons (pe_lst (pa_cons (pv 2) pa_nil)) (pa_cons (k_step_on.call hr (by decide) (by rfl) (pa_cons (pv 0) (pa_cons (pv 1) (pa_cons (pv 2) pa_nil)))) pa_nil)) (by rfl))
    (pss_cons (ps_while PassesOwn.never (PW.pt (pw_and (pt_cmpR op_notN (pv 4) pe_non (nomark _)) (pw_and1 (pt_cmpR (op_neD hr.units) (pv 4) (pv 2) (nomark _)))))
    (pss_cons (ps_expr (pe_bm PySem.F.plainAttrs_list PySem.F.slot_list_append PySem.F.type_list_append mt_append (pv 3) (pa_cons (pv 4) pa_nil)))
    (pss_one (ps_set (i := 4) sc_walked.nd rfl (.inl rfl) (k_step_on.call hr (by decide) (by rfl) (pa_cons (pv 0) (pa_cons (pv 1) (pa_cons (pv 4) pa_nil))))))))
    (pss_one (ps_ret (pv 3))))))
/-! ### corner_at -/
abbrev s_corner_at : Stmt := topS 19
abbrev n_corner_at : List Str := ["sizes", "ties", "share", "first", "back", "found", "place"]
theorem sc_corner_at : FnScope n_corner_at ["sizes", "ties", "share"] (defScope s_corner_at) := ⟨rfl, rfl, rfl, by decide +kernel, rfl, by decide +kernel, by decide +kernel⟩
def m_corner_at : MS := (mSeq (mPar [3, 4] (sI (vIm 2) (sI (o1 (aConsI (vIm 0) (aConsC (vFz 1) (aConsI (vIm 2) aNil))) f_step_back) aNil)))
    (mSeq (mWhile (bAnd (o1 (o1 (vIm 4) fun d => some (.bl (!isNon d))) toB) (o1 (o2 (vIm 4) (vIm 2) (kEq not)) toB))
    (mPar [3, 4] (sI (vIm 4) (sI (o1 (aConsI (vIm 0) (aConsC (vFz 1) (aConsI (vIm 4) aNil))) f_step_back) aNil))) 500)
    (mSeq (mIf (o1 (o1 (vIm 4) fun d => some (.bl (isNon d))) toB) (mRetI (o1 (aConsC (o1 (aConsI (vIm 0) (aConsC (vFz 1) (aConsI (vIm 3) aNil))) f_walked) aNil) kTupOf)) mNext)
    (mSeq (mSetZ 5 (o1 (aConsI (vIm 0) (aConsC (vFz 1) (aConsI (vIm 2) aNil))) f_walked))
    (mSeq (mSetI 6 (o2 (oL (vFz 5)) (aCons (o1 (aConsC (vFz 5) aNil) (kPickL (.tup [.int, .int]) dMin)) aNil) kIndex))
    (mRetI (o1 (aConsC (o2 (fSl (vFz 5) (pS (vIm 6)) pN kSlL) (fSl (vFz 5) pN (pS (vIm 6)) kSlL) kCat) aNil) kTupOf)))))))
def f_corner_at : List Ar → Option Dt := argc 3 (runI 7 m_corner_at)
theorem kn_corner_at {f : Addr} {fd : FuncData} (F : Fun K "corner_at" "corner_at" s_corner_at f fd) (hm : mg "corner_at" = some (.ref f)) (nb : Nb mg) (k_step_back : Kn P w K mg base "step_back" ["sizes", "ties", "share"] 1 (spI f_step_back)) (k_walked : Kn P w K mg base "walked" ["sizes", "ties", "share"] 2 (spF f_walked)) : Kn P w K mg base "corner_at" ["sizes", "ties", "share"] 3 (spI f_corner_at) :=
  Kn.of F hm (F.binds (ps := ["sizes", "ties", "share"]) fun _ _ _ _ _ _ us hl => match us, hl with | [_, _, _], _ => rfl) (fn_I (N := n_corner_at) (ps := ["sizes", "ties", "share"]) (m := m_corner_at) F sc_corner_at (by decide)
    (ss_seq (ss_par (i := 3) (j := 4) (sm_I (se_var (i := 2)) (sm_I (se_call (E := E0) (sar_consI (se_var (i := 0)) (sar_consC (SZ.c (sz_var (i := 1))) (sar_consI (se_var (i := 2)) sar_nil)))) sm_nil)))
    (ss_seq (ss_while 500 (st_and (st_test (se_notN (se_var (i := 4)))) (st_test (se_op (rii_ne (K := K)) (se_var (i := 4)) (se_var (i := 2)))))
    (ss_par (i := 3) (j := 4) (sm_I (se_var (i := 4)) (sm_I (se_call (E := E0) (sar_consI (se_var (i := 0)) (sar_consC (SZ.c (sz_var (i := 1))) (sar_consI (se_var (i := 4)) sar_nil)))) sm_nil))))
    (ss_seq (ss_if (st_test (se_isN (se_var (i := 4)))) (ss_retI (se_cb (rb_tupOf (K := K)) (sar_consC (SF.c (sf_call (E := E0) (sar_consI (se_var (i := 0)) (sar_consC (SZ.c (sz_var (i := 1))) (sar_consI (se_var (i := 3)) sar_nil))))) sar_nil))) ss_next)
    (ss_seq (ss_setZ (i := 5) (SF.z (sf_call (E := E0) (sar_consI (se_var (i := 0)) (sar_consC (SZ.c (sz_var (i := 1))) (sar_consI (se_var (i := 2)) sar_nil))))))
    (ss_seq (ss_setI (i := 6) (se_bm (rm_index (K := K)) (sc_oL (SZ.c (sz_var (i := 5)))) (sai_cons (se_cb (rb_pickL (t := (.tup [.int, .int])) (m := dMin)) (sar_consC (SZ.c (sz_var (i := 5))) sar_nil)) sai_nil) oL_lst))
    (ss_retI (se_cb (rb_tupOf (K := K)) (sar_consC (SF.c (sf_cat (SF.c (sf_slL (K := K) (SZ.c (sz_var (i := 5))) (so_some (se_var (i := 6))) so_none)) (SF.c (sf_slL (K := K) (SZ.c (sz_var (i := 5))) so_none (so_some (se_var (i := 6))))))) sar_nil))))))))
    fun cdv A outer s H E hr => (pss_cons (ps_par (i := 3) (j := 4) rfl sc_corner_at.nd rfl rfl (by decide) rfl rfl (pa_cons (pv 2) (pa_cons (k_step_back.call hr (by decide) (by rfl) (pa_cons (pv 0) (pa_cons (pv 1) (pa_cons (pv 2) pa_nil)))) pa_nil)) (by rfl))
    (pss_cons (ps_while PassesOwn.never (PW.pt (pw_and (pt_cmpR op_notN (pv 4) pe_non (nomark _)) (pw_and1 (pt_cmpR (op_neD hr.units) (pv 4) (pv 2) (nomark _)))))
    (pss_one (ps_par (i := 3) (j := 4) rfl sc_corner_at.nd rfl rfl (by decide) rfl rfl (pa_cons (pv 4) (pa_cons (k_step_back.call hr (by decide) (by rfl) (pa_cons (pv 0) (pa_cons (pv 1) (pa_cons (pv 4) pa_nil)))) pa_nil)) (by rfl))))
    (pss_cons (ps_if (pt_cmpR op_isN (pv 4) pe_non (nomark _)) (pss_one (ps_ret (pe_callTy call_tuple_of (by rfl) nb.tuple PyProof.Rows.boot_tuple (pa_cons (k_walked.call hr (by decide) (by rfl) (pa_cons (pv 0) (pa_cons (pv 1) (pa_cons (pv 3) pa_nil)))) pa_nil)))) pss_nil)
    (pss_cons (ps_set (i := 5) sc_corner_at.nd rfl (.inl rfl) (k_walked.call hr (by decide) (by rfl) (pa_cons (pv 0) (pa_cons (pv 1) (pa_cons (pv 2) pa_nil)))))
    (pss_cons (ps_set (i := 6) sc_corner_at.nd rfl (.inl rfl) (pe_bm PySem.F.plainAttrs_list PySem.F.slot_list_index PySem.F.type_list_index (mt_indexD (hu65 hr)) (pv 5) (pa_cons (pe_callB (cr_minL (t := (.tup [.int, .int])) rfl hr.units) (by rfl) nb.min PyProof.Rows.boot_min (pa_cons (pv 5) pa_nil)) pa_nil)))
    (pss_one (ps_ret (pe_callTy call_tuple_of (by rfl) nb.tuple PyProof.Rows.boot_tuple (pa_cons (pe_op op_cat (pe_slice sl_list (pv 5) (po_some (pv 6)) po_none) (pe_slice sl_list (pv 5) po_none (po_some (pv 6)))) pa_nil))))))))))
/-! ### is_inner -/
abbrev s_is_inner : Stmt := topS 20
abbrev n_is_inner : List Str := ["gluing", "corner"]
theorem sc_is_inner : FnScope n_is_inner ["gluing", "corner"] (defScope s_is_inner) := ⟨rfl, rfl, rfl, by decide +kernel, rfl, by decide +kernel, by decide +kernel⟩
def m_is_inner : MS := (mRetI (o1 (o1 (aConsI (vIm 0) (aConsI (o2 (vIm 1) (o1 (cI 1) kNeg) kIxT) aNil)) f_onward) fun d => some (.bl (!isNon d))))
def f_is_inner : List Ar → Option Dt := argc 2 (runI 2 m_is_inner)
theorem kn_is_inner {f : Addr} {fd : FuncData} (F : Fun K "is_inner" "is_inner" s_is_inner f fd) (hm : mg "is_inner" = some (.ref f)) (nb : Nb mg) (k_onward : Kn P w K mg base "onward" ["gluing", "share"] 2 (spI f_onward)) : Kn P w K mg base "is_inner" ["gluing", "corner"] 3 (spI f_is_inner) :=
  Kn.of F hm (F.binds (ps := ["gluing", "corner"]) fun _ _ _ _ _ _ us hl => match us, hl with | [_, _], _ => rfl) (fn_I (N := n_is_inner) (ps := ["gluing", "corner"]) (m := m_is_inner) F sc_is_inner (by decide)
    (ss_retI (se_notN (se_call (E := E0) (sar_consI (se_var (i := 0)) (sar_consI (se_op (rii_ixT (K := K)) (se_var (i := 1)) (se_neg (se_cI (i := 1)))) sar_nil)))))
    fun cdv A outer s H E hr => (pss_one (ps_ret (pe_cmpR op_notN (k_onward.call hr (by decide) (by rfl) (pa_cons (pv 0) (pa_cons (pe_ix ix_tup (pv 1) (pe_un un_neg pe_int) (fun _ _ => rfl)) pa_nil))) pe_non (nomark _)))))
/-! ### shares -/
abbrev s_shares : Stmt := topS 21
abbrev n_shares : List Str := ["gluing", "t", "many", "i"]
theorem sc_shares : FnScope n_shares ["gluing"] (defScope s_shares) := ⟨rfl, rfl, rfl, by decide +kernel, rfl, by decide +kernel, by decide +kernel⟩
def m_shares : MS := (mRetF (mLc2 (o1 (o2 (vIm 0) (cI 0) kIxT) iPairsT) (mTup (mCons (mName 1) (mCons (mName 2) mNil))) tY (o1 (aCons (vIm 2) aNil) kRng1) (mName 3) tY (o1 (aCons (vIm 1) (aCons (vIm 3) aNil)) kTup) [1, 2, 3] [3]))
def f_shares : List Ar → Option Ct := argc 1 (runF 4 m_shares)
theorem kn_shares {f : Addr} {fd : FuncData} (F : Fun K "shares" "shares" s_shares f fd) (hm : mg "shares" = some (.ref f)) (nb : Nb mg)  : Kn P w K mg base "shares" ["gluing"] 1 (spF f_shares) :=
  Kn.of F hm (F.binds (ps := ["gluing"]) fun _ _ _ _ _ _ us hl => match us, hl with | [_], _ => rfl) (fn_F (N := n_shares) (ps := ["gluing"]) (m := m_shares) F sc_shares (by decide)
    (ss_retF (sf_lc2 (vs := [1, 2, 3]) (vs1 := [3]) (si_enumU (K := K) (se_op (rii_ixT (K := K)) (se_var (i := 0)) (se_cI (i := 0)))) (sg_tup (K := K) (sgs_cons (sg_name (i := 1)) (sgs_cons (sg_name (i := 2)) sgs_nil))) st_yes (fun _ => (si_rng1 (sai_cons (se_var (i := 2)) sai_nil))) (sg_name (i := 3)) st_yes (se_tup (sai_cons (se_var (i := 1)) (sai_cons (se_var (i := 3)) sai_nil))) (by decide) (by decide)))
    fun cdv A outer s H E hr => (pss_one (ps_ret (pe_lc2 (own := [("t", 1), ("many", 2), ("i", 3)]) (vs1 := [3]) rfl sc_shares.nd (pi_enumT (by rfl) nb.enumerate (pa_cons (pe_ix ix_tup (pv 0) pe_int (fun _ _ => rfl)) pa_nil)) (blkOk_by (N := n_shares) (sc := defScope s_shares) (by decide +kernel)) (by decide) (fun _ _ _ _ _ => (pg_tup rfl (pgs_cons (pg_name (i := 1) sc_shares.nd rfl (by first | exact .inl rfl | exact .inr rfl)) (pgs_cons (pg_name (i := 2) sc_shares.nd rfl (by first | exact .inl rfl | exact .inr rfl)) pgs_nil)))) (fun _ _ _ _ _ => pts_nil) (fun _ _ _ _ _ => (pi_range1 (by rfl) nb.range (pa_cons (pv 2) pa_nil))) (fun _ _ _ _ _ => (pg_name (i := 3) sc_shares.nd rfl (by first | exact .inl rfl | exact .inr rfl))) (fun _ _ _ _ _ => pts_nil) (fun _ _ _ _ _ => (pe_tup (pa_cons (pv 1) (pa_cons (pv 3) pa_nil))))))))
/-! ### corners -/
abbrev s_corners : Stmt := topS 22
abbrev n_corners : List Str := ["gluing", "ties", "seen", "found", "share", "corner", "one"]
theorem sc_corners : FnScope n_corners ["gluing"] (defScope s_corners) := ⟨rfl, rfl, rfl, by decide +kernel, rfl, by decide +kernel, by decide +kernel⟩
def m_corners : MS := (mSeq (mPar [1, 2, 3] (sZ (o1 (aConsI (vIm 0) aNil) f_mates_corners) (sO (fun _ => some (.dP [])) (sO (o1 aNil kLst) aNil))))
    (mSeq (mFor (o1 (o1 (aConsI (vIm 0) aNil) f_shares) kItems) (mName 4)
    (mIf (o1 (o2 (vCt 2) (vIm 4) (kHas not)) toB) (mSeq (mSetI 5 (o1 (aConsI (o2 (vIm 0) (cI 0) kIxT) (aConsC (vFz 1) (aConsI (vIm 4) aNil))) f_corner_at))
    (mSeq (mUpd 2 (mDc (.dP []) (o1 (vIm 5) kParts) (mName 6) tY (vIm 6) (cB true) [6]))
    (mApp 3 (vIm 5)))) mNext))
    (mRetO 3)))
def f_corners : List Ar → Option Ct := argc 1 (runF 7 m_corners)
theorem kn_corners {f : Addr} {fd : FuncData} (F : Fun K "corners" "corners" s_corners f fd) (hm : mg "corners" = some (.ref f)) (nb : Nb mg) (k_mates_corners : Kn P w K mg base "mates_corners" ["gluing"] 1 (spF f_mates_corners)) (k_shares : Kn P w K mg base "shares" ["gluing"] 1 (spF f_shares)) (k_corner_at : Kn P w K mg base "corner_at" ["sizes", "ties", "share"] 3 (spI f_corner_at)) : Kn P w K mg base "corners" ["gluing"] 4 (spF f_corners) :=
  Kn.of F hm (F.binds (ps := ["gluing"]) fun _ _ _ _ _ _ us hl => match us, hl with | [_], _ => rfl) (fn_F (N := n_corners) (ps := ["gluing"]) (m := m_corners) F sc_corners (by decide)
    (ss_seq (ss_par3 (i := 1) (j := 2) (l := 3) (sm_Z (sf_call (E := E0) (sar_consI (se_var (i := 0)) sar_nil)) (sm_O sf_newP (sm_O (sf_lst sai_nil) sm_nil))))
    (ss_seq (ss_for (si_list (K := K) (scn_o (SF.z (sf_call (E := E0) (sar_consI (se_var (i := 0)) sar_nil))))) (sg_name (i := 4))
    (ss_if (st_B (se_dnotin (se_var (i := 4)) (sc_var (i := 2)))) (ss_seq (ss_setI (i := 5) (se_call (E := E0) (sar_consI (se_op (rii_ixT (K := K)) (se_var (i := 0)) (se_cI (i := 0))) (sar_consC (SZ.c (sz_var (i := 1))) (sar_consI (se_var (i := 4)) sar_nil)))))
    (ss_seq (ss_upd (K := K) (i := 2) (sf_dc (vs := [6]) nilP (si_tup (K := K) (se_var (i := 5))) (sg_name (i := 6)) st_yes (se_var (i := 6)) (se_cB (b := true)) (by decide)))
    (ss_app (K := K) (i := 3) (se_var (i := 5))))) ss_next))
    (ss_retO (i := 3))))
    fun cdv A outer s H E hr => (pss_cons (ps_par3 (i := 1) (j := 2) (l := 3) rfl sc_corners.nd rfl rfl rfl (by decide) (by decide) (by decide) rfl rfl rfl (pa_cons (k_mates_corners.call hr (by decide) (by rfl) (pa_cons (pv 0) pa_nil)) (pa_cons pe_dnewT (pa_cons (pe_lst pa_nil) pa_nil))) (by rfl))
    (pss_cons (ps_for PassesOwn.never rfl (pi_list (k_shares.call hr (by decide) (by rfl) (pa_cons (pv 0) pa_nil))) (pg_name (i := 4) sc_corners.nd rfl (.inl rfl))
    (pss_one (ps_if (pt_cmp (pc_dnotin (hu_of hr) (pv 4) (pv 2))) (pss_cons (ps_set (i := 5) sc_corners.nd rfl (.inl rfl) (k_corner_at.call hr (by decide) (by rfl) (pa_cons (pe_ix ix_tup (pv 0) pe_int (fun _ _ => rfl)) (pa_cons (pv 1) (pa_cons (pv 4) pa_nil)))))
    (pss_cons (ps_expr (pe_bm PySem.F.plainAttrs_dict PySem.F.slot_dict_update PySem.F.type_dict_update (mt_upd (hu_of hr)) (pv 2) (pa_cons (pe_dcP (own := [("one", 6)]) (fun h H b => dt_empty h b) (hu_of hr) rfl sc_corners.nd (pi_tup (pv 5)) (blkOk_by (N := n_corners) (sc := defScope s_corners) (by decide +kernel)) (fun _ _ _ _ _ => (pg_name (i := 6) sc_corners.nd rfl (by first | exact .inl rfl | exact .inr rfl))) (fun _ _ _ _ _ => pts_nil) (fun _ _ _ _ _ => (pv 6)) (fun _ _ _ _ _ => pe_bl)) pa_nil)))
    (pss_one (ps_expr (pe_bm PySem.F.plainAttrs_list PySem.F.slot_list_append PySem.F.type_list_append mt_append (pv 3) (pa_cons (pv 5) pa_nil)))))) pss_nil)))
    (pss_one (ps_ret (pv 3))))))
/-! ### corner_table -/
abbrev s_corner_table : Stmt := topS 23
abbrev n_corner_table : List Str := ["gluing", "corner", "share"]
theorem sc_corner_table : FnScope n_corner_table ["gluing"] (defScope s_corner_table) := ⟨rfl, rfl, rfl, by decide +kernel, rfl, by decide +kernel, by decide +kernel⟩
def m_corner_table : MS := (mRetF (mDc2 (.dP []) (o1 (o1 (aConsI (vIm 0) aNil) f_corners) kItems) (mName 1) tY (o1 (vIm 1) kParts) (mName 2) tY (vIm 2) (vIm 1) [1, 2] [2]))
def f_corner_table : List Ar → Option Ct := argc 1 (runF 3 m_corner_table)
theorem kn_corner_table {f : Addr} {fd : FuncData} (F : Fun K "corner_table" "corner_table" s_corner_table f fd) (hm : mg "corner_table" = some (.ref f)) (nb : Nb mg) (k_corners : Kn P w K mg base "corners" ["gluing"] 4 (spF f_corners)) : Kn P w K mg base "corner_table" ["gluing"] 5 (spF f_corner_table) :=
  Kn.of F hm (F.binds (ps := ["gluing"]) fun _ _ _ _ _ _ us hl => match us, hl with | [_], _ => rfl) (fn_F (N := n_corner_table) (ps := ["gluing"]) (m := m_corner_table) F sc_corner_table (by decide)
    (ss_retF (sf_dc2 (vs := [1, 2]) (vs1 := [2]) nilP (si_list (K := K) (scn_a (SF.c (sf_call (E := E0) (sar_consI (se_var (i := 0)) sar_nil))))) (sg_name (i := 1)) st_yes (fun _ => (si_tup (K := K) (se_var (i := 1)))) (sg_name (i := 2)) st_yes (se_var (i := 2)) (se_var (i := 1)) (by decide) (by decide)))
    fun cdv A outer s H E hr => (pss_one (ps_ret (pe_dcP2 (own := [("corner", 1), ("share", 2)]) (vs1 := [2]) (fun h H b => dt_empty h b) (hu_of hr) rfl sc_corner_table.nd (pi_list (k_corners.call hr (by decide) (by rfl) (pa_cons (pv 0) pa_nil))) (blkOk_by (N := n_corner_table) (sc := defScope s_corner_table) (by decide +kernel)) (by decide) (fun _ _ _ _ _ => (pg_name (i := 1) sc_corner_table.nd rfl (by first | exact .inl rfl | exact .inr rfl))) (fun _ _ _ _ _ => pts_nil) (fun _ _ _ _ _ => (pi_tup (pv 1))) (fun _ _ _ _ _ => (pg_name (i := 2) sc_corner_table.nd rfl (by first | exact .inl rfl | exact .inr rfl))) (fun _ _ _ _ _ => pts_nil) (fun _ _ _ _ _ => (pv 2)) (fun _ _ _ _ _ => (pv 1))))))
/-! ### following -/
abbrev s_following : Stmt := topS 25
abbrev n_following : List Str := ["sizes", "table", "side"]
theorem sc_following : FnScope n_following ["sizes", "table", "side"] (defScope s_following) := ⟨rfl, rfl, rfl, by decide +kernel, rfl, by decide +kernel, by decide +kernel⟩
def m_following : MS := (mRetI (o2 (o2 (vFz 1) (o1 (aCons (o2 (vIm 2) (cI 0) kIxT) (aCons (o2 (o2 (o2 (vIm 2) (cI 1) kIxT) (cI 1) kAdd) (o2 (vIm 0) (o2 (vIm 2) (cI 0) kIxT) kIxT) kMod) aNil)) kTup) kGet) (o1 (cI 1) kNeg) kIxT))
def f_following : List Ar → Option Dt := argc 3 (runI 3 m_following)
theorem kn_following {f : Addr} {fd : FuncData} (F : Fun K "following" "following" s_following f fd) (hm : mg "following" = some (.ref f)) (nb : Nb mg)  : Kn P w K mg base "following" ["sizes", "table", "side"] 1 (spI f_following) :=
  Kn.of F hm (F.binds (ps := ["sizes", "table", "side"]) fun _ _ _ _ _ _ us hl => match us, hl with | [_, _, _], _ => rfl) (fn_I (N := n_following) (ps := ["sizes", "table", "side"]) (m := m_following) F sc_following (by decide)
    (ss_retI (se_op (rii_ixT (K := K)) (se_dget (SZ.c (sz_var (i := 1))) (se_tup (sai_cons (se_op (rii_ixT (K := K)) (se_var (i := 2)) (se_cI (i := 0))) (sai_cons (se_op rii_mod (se_op rii_add (se_op (rii_ixT (K := K)) (se_var (i := 2)) (se_cI (i := 1))) (se_cI (i := 1))) (se_op (rii_ixT (K := K)) (se_var (i := 0)) (se_op (rii_ixT (K := K)) (se_var (i := 2)) (se_cI (i := 0))))) sai_nil)))) (se_neg (se_cI (i := 1)))))
    fun cdv A outer s H E hr => (pss_one (ps_ret (pe_ix ix_tup (pe_dget (hu_of hr) (pv 1) (pe_tup (pa_cons (pe_ix ix_tup (pv 2) pe_int (fun _ _ => rfl)) (pa_cons (pe_op op_mod (pe_op op_add (pe_ix ix_tup (pv 2) pe_int (fun _ _ => rfl)) pe_int) (pe_ix ix_tup (pv 0) (pe_ix ix_tup (pv 2) pe_int (fun _ _ => rfl)) (fun _ _ => rfl))) pa_nil))) (fun _ _ => rfl)) (pe_un un_neg pe_int) (fun _ _ => rfl)))))
/-! ### round_from -/
abbrev s_round_from : Stmt := topS 26
abbrev n_round_from : List Str := ["sizes", "table", "side", "found", "here"]
theorem sc_round_from : FnScope n_round_from ["sizes", "table", "side"] (defScope s_round_from) := ⟨rfl, rfl, rfl, by decide +kernel, rfl, by decide +kernel, by decide +kernel⟩
def m_round_from : MS := (mSeq (mPar [3, 4] (sO (o1 (aCons (vIm 2) aNil) kLst) (sI (o1 (aConsI (vIm 0) (aConsC (vFz 1) (aConsI (vIm 2) aNil))) f_following) aNil)))
    (mSeq (mWhile (o1 (o2 (vIm 4) (vIm 2) (kEq not)) toB)
    (mSeq (mApp 3 (vIm 4))
    (mSetI 4 (o1 (aConsI (vIm 0) (aConsC (vFz 1) (aConsI (vIm 4) aNil))) f_following))) 500)
    (mRetI (o1 (aConsC (vCt 3) aNil) kTupOf))))
def f_round_from : List Ar → Option Dt := argc 3 (runI 5 m_round_from)
theorem kn_round_from {f : Addr} {fd : FuncData} (F : Fun K "round_from" "round_from" s_round_from f fd) (hm : mg "round_from" = some (.ref f)) (nb : Nb mg) (k_following : Kn P w K mg base "following" ["sizes", "table", "side"] 1 (spI f_following)) : Kn P w K mg base "round_from" ["sizes", "table", "side"] 2 (spI f_round_from) :=
  Kn.of F hm (F.binds (ps := ["sizes", "table", "side"]) fun _ _ _ _ _ _ us hl => match us, hl with | [_, _, _], _ => rfl) (fn_I (N := n_round_from) (ps := ["sizes", "table", "side"]) (m := m_round_from) F sc_round_from (by decide)
    (ss_seq (ss_par (i := 3) (j := 4) (sm_O (sf_lst (sai_cons (se_var (i := 2)) sai_nil)) (sm_I (se_call (E := E0) (sar_consI (se_var (i := 0)) (sar_consC (SZ.c (sz_var (i := 1))) (sar_consI (se_var (i := 2)) sar_nil)))) sm_nil)))
    (ss_seq (ss_while 500 (st_test (se_op (rii_ne (K := K)) (se_var (i := 4)) (se_var (i := 2))))
    (ss_seq (ss_app (K := K) (i := 3) (se_var (i := 4)))
    (ss_setI (i := 4) (se_call (E := E0) (sar_consI (se_var (i := 0)) (sar_consC (SZ.c (sz_var (i := 1))) (sar_consI (se_var (i := 4)) sar_nil)))))))
    (ss_retI (se_cb (rb_tupOf (K := K)) (sar_consC (sc_var (i := 3)) sar_nil)))))
    fun cdv A outer s H E hr => (pss_cons (ps_par (i := 3) (j := 4) rfl sc_round_from.nd rfl rfl (by decide) rfl rfl (pa_cons (pe_lst (pa_cons (pv 2) pa_nil)) (pa_cons (k_following.call hr (by decide) (by rfl) (pa_cons (pv 0) (pa_cons (pv 1) (pa_cons (pv 2) pa_nil)))) pa_nil)) (by rfl))
    (pss_cons (ps_while PassesOwn.never (pt_cmpR (op_neD hr.units) (pv 4) (pv 2) (nomark _))
    (pss_cons (ps_expr (pe_bm PySem.F.plainAttrs_list PySem.F.slot_list_append PySem.F.type_list_append mt_append (pv 3) (pa_cons (pv 4) pa_nil)))
    (pss_one (ps_set (i := 4) sc_round_from.nd rfl (.inl rfl) (k_following.call hr (by decide) (by rfl) (pa_cons (pv 0) (pa_cons (pv 1) (pa_cons (pv 4) pa_nil))))))))
    (pss_one (ps_ret (pe_callTy call_tuple_of (by rfl) nb.tuple PyProof.Rows.boot_tuple (pa_cons (pv 3) pa_nil)))))))
/-! ### rim_of -/
abbrev s_rim_of : Stmt := topS 27
abbrev n_rim_of : List Str := ["gluing", "side"]
theorem sc_rim_of : FnScope n_rim_of ["gluing", "side"] (defScope s_rim_of) := ⟨rfl, rfl, rfl, by decide +kernel, rfl, by decide +kernel, by decide +kernel⟩
def m_rim_of : MS := (mRetI (o1 (aConsI (o2 (vIm 0) (cI 0) kIxT) (aConsC (o1 (aConsI (vIm 0) aNil) f_corner_table) (aConsI (vIm 1) aNil))) f_round_from))
def f_rim_of : List Ar → Option Dt := argc 2 (runI 2 m_rim_of)
theorem kn_rim_of {f : Addr} {fd : FuncData} (F : Fun K "rim_of" "rim_of" s_rim_of f fd) (hm : mg "rim_of" = some (.ref f)) (nb : Nb mg) (k_corner_table : Kn P w K mg base "corner_table" ["gluing"] 5 (spF f_corner_table)) (k_round_from : Kn P w K mg base "round_from" ["sizes", "table", "side"] 2 (spI f_round_from)) : Kn P w K mg base "rim_of" ["gluing", "side"] 6 (spI f_rim_of) :=
  Kn.of F hm (F.binds (ps := ["gluing", "side"]) fun _ _ _ _ _ _ us hl => match us, hl with | [_, _], _ => rfl) (fn_I (N := n_rim_of) (ps := ["gluing", "side"]) (m := m_rim_of) F sc_rim_of (by decide)
    (ss_retI (se_call (E := E0) (sar_consI (se_op (rii_ixT (K := K)) (se_var (i := 0)) (se_cI (i := 0))) (sar_consC (SF.c (sf_call (E := E0) (sar_consI (se_var (i := 0)) sar_nil))) (sar_consI (se_var (i := 1)) sar_nil)))))
    fun cdv A outer s H E hr => (pss_one (ps_ret (k_round_from.call hr (by decide) (by rfl) (pa_cons (pe_ix ix_tup (pv 0) pe_int (fun _ _ => rfl)) (pa_cons (k_corner_table.call hr (by decide) (by rfl) (pa_cons (pv 0) pa_nil)) (pa_cons (pv 1) pa_nil)))))))
/-! ### rims -/
abbrev s_rims : Stmt := topS 28
abbrev n_rims : List Str := ["gluing", "table", "ties", "seen", "found", "side", "rim", "one"]
theorem sc_rims : FnScope n_rims ["gluing"] (defScope s_rims) := ⟨rfl, rfl, rfl, by decide +kernel, rfl, by decide +kernel, by decide +kernel⟩
def m_rims : MS := (mSeq (mPar [1, 2, 3, 4] (sZ (o1 (aConsI (vIm 0) aNil) f_corner_table) (sZ (o1 (aConsI (vIm 0) aNil) f_mates_corners) (sO (fun _ => some (.dP [])) (sO (o1 aNil kLst) aNil)))))
    (mSeq (mFor (o1 (o1 (aConsI (vIm 0) aNil) f_shares) kItems) (mName 5)
    (mIf (bAnd (o1 (o2 (vFz 2) (vIm 5) (kHas not)) toB) (o1 (o2 (vCt 3) (vIm 5) (kHas not)) toB)) (mSeq (mSetI 6 (o1 (aConsI (o2 (vIm 0) (cI 0) kIxT) (aConsC (vFz 1) (aConsI (vIm 5) aNil))) f_round_from))
    (mSeq (mUpd 3 (mDc (.dP []) (o1 (vIm 6) kParts) (mName 7) tY (vIm 7) (cB true) [7]))
    (mApp 4 (vIm 6)))) mNext))
    (mRetO 4)))
def f_rims : List Ar → Option Ct := argc 1 (runF 8 m_rims)
theorem kn_rims {f : Addr} {fd : FuncData} (F : Fun K "rims" "rims" s_rims f fd) (hm : mg "rims" = some (.ref f)) (nb : Nb mg) (k_corner_table : Kn P w K mg base "corner_table" ["gluing"] 5 (spF f_corner_table)) (k_mates_corners : Kn P w K mg base "mates_corners" ["gluing"] 1 (spF f_mates_corners)) (k_shares : Kn P w K mg base "shares" ["gluing"] 1 (spF f_shares)) (k_round_from : Kn P w K mg base "round_from" ["sizes", "table", "side"] 2 (spI f_round_from)) : Kn P w K mg base "rims" ["gluing"] 6 (spF f_rims) :=
  Kn.of F hm (F.binds (ps := ["gluing"]) fun _ _ _ _ _ _ us hl => match us, hl with | [_], _ => rfl) (fn_F (N := n_rims) (ps := ["gluing"]) (m := m_rims) F sc_rims (by decide)
    (ss_seq (ss_parT (K := K) (is := [1, 2, 3, 4]) (n := 4) rfl rfl (sm_Z (sf_call (E := E0) (sar_consI (se_var (i := 0)) sar_nil)) (sm_Z (sf_call (E := E0) (sar_consI (se_var (i := 0)) sar_nil)) (sm_O sf_newP (sm_O (sf_lst sai_nil) sm_nil)))))
    (ss_seq (ss_for (si_list (K := K) (scn_o (SF.z (sf_call (E := E0) (sar_consI (se_var (i := 0)) sar_nil))))) (sg_name (i := 5))
    (ss_if (st_and (st_B (se_dnotin (se_var (i := 5)) (SZ.c (sz_var (i := 2))))) (st_B (se_dnotin (se_var (i := 5)) (sc_var (i := 3))))) (ss_seq (ss_setI (i := 6) (se_call (E := E0) (sar_consI (se_op (rii_ixT (K := K)) (se_var (i := 0)) (se_cI (i := 0))) (sar_consC (SZ.c (sz_var (i := 1))) (sar_consI (se_var (i := 5)) sar_nil)))))
    (ss_seq (ss_upd (K := K) (i := 3) (sf_dc (vs := [7]) nilP (si_tup (K := K) (se_var (i := 6))) (sg_name (i := 7)) st_yes (se_var (i := 7)) (se_cB (b := true)) (by decide)))
    (ss_app (K := K) (i := 4) (se_var (i := 6))))) ss_next))
    (ss_retO (i := 4))))
    fun cdv A outer s H E hr => (pss_cons (ps_asg (pe_tup (pa_cons (k_corner_table.call hr (by decide) (by rfl) (pa_cons (pv 0) pa_nil)) (pa_cons (k_mates_corners.call hr (by decide) (by rfl) (pa_cons (pv 0) pa_nil)) (pa_cons pe_dnewT (pa_cons (pe_lst pa_nil) pa_nil))))) (pg_tup rfl (pgs_cons (pg_name (i := 1) sc_rims.nd rfl (.inl rfl)) (pgs_cons (pg_name (i := 2) sc_rims.nd rfl (.inl rfl)) (pgs_cons (pg_name (i := 3) sc_rims.nd rfl (.inl rfl)) (pgs_cons (pg_name (i := 4) sc_rims.nd rfl (.inl rfl)) pgs_nil))))))
    (pss_cons (ps_for PassesOwn.never rfl (pi_list (k_shares.call hr (by decide) (by rfl) (pa_cons (pv 0) pa_nil))) (pg_name (i := 5) sc_rims.nd rfl (.inl rfl))
    (pss_one (ps_if (PW.pt (pw_and (pt_cmp (pc_dnotin (hu_of hr) (pv 5) (pv 2))) (pw_and1 (pt_cmp (pc_dnotin (hu_of hr) (pv 5) (pv 3)))))) (pss_cons (ps_set (i := 6) sc_rims.nd rfl (.inl rfl) (k_round_from.call hr (by decide) (by rfl) (pa_cons (pe_ix ix_tup (pv 0) pe_int (fun _ _ => rfl)) (pa_cons (pv 1) (pa_cons (pv 5) pa_nil)))))
    (pss_cons (ps_expr (pe_bm PySem.F.plainAttrs_dict PySem.F.slot_dict_update PySem.F.type_dict_update (mt_upd (hu_of hr)) (pv 3) (pa_cons (pe_dcP (own := [("one", 7)]) (fun h H b => dt_empty h b) (hu_of hr) rfl sc_rims.nd (pi_tup (pv 6)) (blkOk_by (N := n_rims) (sc := defScope s_rims) (by decide +kernel)) (fun _ _ _ _ _ => (pg_name (i := 7) sc_rims.nd rfl (by first | exact .inl rfl | exact .inr rfl))) (fun _ _ _ _ _ => pts_nil) (fun _ _ _ _ _ => (pv 7)) (fun _ _ _ _ _ => pe_bl)) pa_nil)))
    (pss_one (ps_expr (pe_bm PySem.F.plainAttrs_list PySem.F.slot_list_append PySem.F.type_list_append mt_append (pv 4) (pa_cons (pv 6) pa_nil)))))) pss_nil)))
    (pss_one (ps_ret (pv 4))))))
def k_rims_0 : List Ar := [.im (gl [i_ 3] [])]
def v_rims_0 : List Dt := [.tup [sd 0 0, sd 0 1, sd 0 2]]
theorem c_rims_0 : isF (f_rims k_rims_0) v_rims_0 = true := by decide +kernel
def k_rims_1 : List Ar := [.im (gl [i_ 3, i_ 3] [])]
def v_rims_1 : List Dt := [.tup [sd 0 0, sd 0 1, sd 0 2], .tup [sd 1 0, sd 1 1, sd 1 2]]
theorem c_rims_1 : isF (f_rims k_rims_1) v_rims_1 = true := by decide +kernel
def k_rims_2 : List Ar := [.im (gl [i_ 3, i_ 3] [tz 0 0 1 0])]
def v_rims_2 : List Dt := [.tup [sd 0 1, sd 0 2, sd 1 1, sd 1 2]]
theorem c_rims_2 : isF (f_rims k_rims_2) v_rims_2 = true := by decide +kernel
def k_rims_3 : List Ar := [.im (gl [i_ 3, i_ 3] [tz 0 1 1 0])]
def v_rims_3 : List Dt := [.tup [sd 0 0, sd 1 1, sd 1 2, sd 0 2]]
theorem c_rims_3 : isF (f_rims k_rims_3) v_rims_3 = true := by decide +kernel
def k_rims_4 : List Ar := [.im (gl [i_ 3, i_ 3, i_ 3] [])]
def v_rims_4 : List Dt := [.tup [sd 0 0, sd 0 1, sd 0 2], .tup [sd 1 0, sd 1 1, sd 1 2], .tup [sd 2 0, sd 2 1, sd 2 2]]
theorem c_rims_4 : isF (f_rims k_rims_4) v_rims_4 = true := by decide +kernel
def k_rims_5 : List Ar := [.im (gl [i_ 3, i_ 3, i_ 3] [tz 0 0 1 0])]
def v_rims_5 : List Dt := [.tup [sd 0 1, sd 0 2, sd 1 1, sd 1 2], .tup [sd 2 0, sd 2 1, sd 2 2]]
theorem c_rims_5 : isF (f_rims k_rims_5) v_rims_5 = true := by decide +kernel
def k_rims_6 : List Ar := [.im (gl [i_ 3, i_ 3, i_ 3] [tz 0 0 1 0, tz 0 1 2 0])]
def v_rims_6 : List Dt := [.tup [sd 0 2, sd 1 1, sd 1 2, sd 2 1, sd 2 2]]
theorem c_rims_6 : isF (f_rims k_rims_6) v_rims_6 = true := by decide +kernel
def k_rims_7 : List Ar := [.im (gl [i_ 3, i_ 3, i_ 3] [tz 0 0 1 0, tz 0 2 2 0])]
def v_rims_7 : List Dt := [.tup [sd 0 1, sd 2 1, sd 2 2, sd 1 1, sd 1 2]]
theorem c_rims_7 : isF (f_rims k_rims_7) v_rims_7 = true := by decide +kernel
def k_rims_8 : List Ar := [.im (gl [i_ 3, i_ 3, i_ 3] [tz 0 0 1 0, tz 1 1 2 0])]
def v_rims_8 : List Dt := [.tup [sd 0 1, sd 0 2, sd 2 1, sd 2 2, sd 1 2]]
theorem c_rims_8 : isF (f_rims k_rims_8) v_rims_8 = true := by decide +kernel
def k_rims_9 : List Ar := [.im (gl [i_ 3, i_ 3, i_ 3] [tz 0 0 1 0, tz 1 2 2 0])]
def v_rims_9 : List Dt := [.tup [sd 0 1, sd 0 2, sd 1 1, sd 2 1, sd 2 2]]
theorem c_rims_9 : isF (f_rims k_rims_9) v_rims_9 = true := by decide +kernel
def k_rims_10 : List Ar := [.im (gl [i_ 3, i_ 3, i_ 3] [tz 0 1 1 0])]
def v_rims_10 : List Dt := [.tup [sd 0 0, sd 1 1, sd 1 2, sd 0 2], .tup [sd 2 0, sd 2 1, sd 2 2]]
theorem c_rims_10 : isF (f_rims k_rims_10) v_rims_10 = true := by decide +kernel
def k_rims_11 : List Ar := [.im (gl [i_ 3, i_ 3, i_ 3] [tz 0 1 1 0, tz 0 2 2 0])]
def v_rims_11 : List Dt := [.tup [sd 0 0, sd 1 1, sd 1 2, sd 2 1, sd 2 2]]
theorem c_rims_11 : isF (f_rims k_rims_11) v_rims_11 = true := by decide +kernel
def k_rims_12 : List Ar := [.im (gl [i_ 3, i_ 3, i_ 3] [tz 0 1 1 0, tz 1 2 2 0])]
def v_rims_12 : List Dt := [.tup [sd 0 0, sd 1 1, sd 2 1, sd 2 2, sd 0 2]]
theorem c_rims_12 : isF (f_rims k_rims_12) v_rims_12 = true := by decide +kernel
def k_rims_13 : List Ar := [.im (gl [i_ 3, i_ 3, i_ 3] [tz 0 1 2 0])]
def v_rims_13 : List Dt := [.tup [sd 0 0, sd 2 1, sd 2 2, sd 0 2], .tup [sd 1 0, sd 1 1, sd 1 2]]
theorem c_rims_13 : isF (f_rims k_rims_13) v_rims_13 = true := by decide +kernel
def k_rims_14 : List Ar := [.im (gl [i_ 3, i_ 3, i_ 3] [tz 0 2 2 0])]
def v_rims_14 : List Dt := [.tup [sd 0 0, sd 0 1, sd 2 1, sd 2 2], .tup [sd 1 0, sd 1 1, sd 1 2]]
theorem c_rims_14 : isF (f_rims k_rims_14) v_rims_14 = true := by decide +kernel
def k_rims_15 : List Ar := [.im (gl [i_ 3, i_ 3, i_ 3] [tz 1 2 2 0])]
def v_rims_15 : List Dt := [.tup [sd 0 0, sd 0 1, sd 0 2], .tup [sd 1 0, sd 1 1, sd 2 1, sd 2 2]]
theorem c_rims_15 : isF (f_rims k_rims_15) v_rims_15 = true := by decide +kernel
def k_rims_16 : List Ar := [.im (gl [i_ 3, i_ 3, i_ 3, i_ 3] [tz 0 0 1 0, tz 0 1 2 0, tz 0 2 3 0])]
def v_rims_16 : List Dt := [.tup [sd 1 1, sd 1 2, sd 2 1, sd 2 2, sd 3 1, sd 3 2]]
theorem c_rims_16 : isF (f_rims k_rims_16) v_rims_16 = true := by decide +kernel
def k_rims_17 : List Ar := [.im (gl [i_ 3, i_ 3, i_ 3, i_ 3] [tz 0 0 1 0, tz 0 1 2 0, tz 1 1 3 0])]
def v_rims_17 : List Dt := [.tup [sd 0 2, sd 3 1, sd 3 2, sd 1 2, sd 2 1, sd 2 2]]
theorem c_rims_17 : isF (f_rims k_rims_17) v_rims_17 = true := by decide +kernel
def k_rims_18 : List Ar := [.im (gl [i_ 3, i_ 3, i_ 3, i_ 3] [tz 0 0 1 0, tz 0 1 2 0, tz 1 2 3 0])]
def v_rims_18 : List Dt := [.tup [sd 0 2, sd 1 1, sd 3 1, sd 3 2, sd 2 1, sd 2 2]]
theorem c_rims_18 : isF (f_rims k_rims_18) v_rims_18 = true := by decide +kernel
def k_rims_19 : List Ar := [.im (gl [i_ 3, i_ 3, i_ 3, i_ 3] [tz 0 0 1 0, tz 0 1 2 0, tz 2 2 3 0])]
def v_rims_19 : List Dt := [.tup [sd 0 2, sd 1 1, sd 1 2, sd 2 1, sd 3 1, sd 3 2]]
theorem c_rims_19 : isF (f_rims k_rims_19) v_rims_19 = true := by decide +kernel
def k_rims_20 : List Ar := [.im (gl [i_ 4] [])]
def v_rims_20 : List Dt := [.tup [sd 0 0, sd 0 1, sd 0 2, sd 0 3]]
theorem c_rims_20 : isF (f_rims k_rims_20) v_rims_20 = true := by decide +kernel
def k_rims_21 : List Ar := [.im (gl [i_ 4, i_ 4] [])]
def v_rims_21 : List Dt := [.tup [sd 0 0, sd 0 1, sd 0 2, sd 0 3], .tup [sd 1 0, sd 1 1, sd 1 2, sd 1 3]]
theorem c_rims_21 : isF (f_rims k_rims_21) v_rims_21 = true := by decide +kernel
def k_rims_22 : List Ar := [.im (gl [i_ 4, i_ 4] [tz 0 0 1 0])]
def v_rims_22 : List Dt := [.tup [sd 0 1, sd 0 2, sd 0 3, sd 1 1, sd 1 2, sd 1 3]]
theorem c_rims_22 : isF (f_rims k_rims_22) v_rims_22 = true := by decide +kernel
def k_rims_23 : List Ar := [.im (gl [i_ 4, i_ 4] [tz 0 1 1 0])]
def v_rims_23 : List Dt := [.tup [sd 0 0, sd 1 1, sd 1 2, sd 1 3, sd 0 2, sd 0 3]]
theorem c_rims_23 : isF (f_rims k_rims_23) v_rims_23 = true := by decide +kernel
def k_rims_24 : List Ar := [.im (gl [i_ 4, i_ 4] [tz 0 2 1 0])]
def v_rims_24 : List Dt := [.tup [sd 0 0, sd 0 1, sd 1 1, sd 1 2, sd 1 3, sd 0 3]]
theorem c_rims_24 : isF (f_rims k_rims_24) v_rims_24 = true := by decide +kernel
def k_rims_25 : List Ar := [.im (gl [i_ 4, i_ 4, i_ 4] [])]
def v_rims_25 : List Dt := [.tup [sd 0 0, sd 0 1, sd 0 2, sd 0 3], .tup [sd 1 0, sd 1 1, sd 1 2, sd 1 3], .tup [sd 2 0, sd 2 1, sd 2 2, sd 2 3]]
theorem c_rims_25 : isF (f_rims k_rims_25) v_rims_25 = true := by decide +kernel
def k_rims_26 : List Ar := [.im (gl [i_ 4, i_ 4, i_ 4] [tz 0 0 1 0])]
def v_rims_26 : List Dt := [.tup [sd 0 1, sd 0 2, sd 0 3, sd 1 1, sd 1 2, sd 1 3], .tup [sd 2 0, sd 2 1, sd 2 2, sd 2 3]]
theorem c_rims_26 : isF (f_rims k_rims_26) v_rims_26 = true := by decide +kernel
def k_rims_27 : List Ar := [.im (gl [i_ 4, i_ 4, i_ 4] [tz 0 0 1 0, tz 0 1 2 0])]
def v_rims_27 : List Dt := [.tup [sd 0 2, sd 0 3, sd 1 1, sd 1 2, sd 1 3, sd 2 1, sd 2 2, sd 2 3]]
theorem c_rims_27 : isF (f_rims k_rims_27) v_rims_27 = true := by decide +kernel
def k_rims_28 : List Ar := [.im (gl [i_ 4, i_ 4, i_ 4] [tz 0 0 1 0, tz 0 2 2 0])]
def v_rims_28 : List Dt := [.tup [sd 0 1, sd 2 1, sd 2 2, sd 2 3, sd 0 3, sd 1 1, sd 1 2, sd 1 3]]
theorem c_rims_28 : isF (f_rims k_rims_28) v_rims_28 = true := by decide +kernel
def k_rims_29 : List Ar := [.im (gl [i_ 4, i_ 4, i_ 4] [tz 0 0 1 0, tz 1 1 2 0])]
def v_rims_29 : List Dt := [.tup [sd 0 1, sd 0 2, sd 0 3, sd 2 1, sd 2 2, sd 2 3, sd 1 2, sd 1 3]]
theorem c_rims_29 : isF (f_rims k_rims_29) v_rims_29 = true := by decide +kernel
def k_rims_30 : List Ar := [.im (gl [i_ 4, i_ 4, i_ 4] [tz 0 0 1 0, tz 1 2 2 0])]
def v_rims_30 : List Dt := [.tup [sd 0 1, sd 0 2, sd 0 3, sd 1 1, sd 2 1, sd 2 2, sd 2 3, sd 1 3]]
theorem c_rims_30 : isF (f_rims k_rims_30) v_rims_30 = true := by decide +kernel
def k_rims_31 : List Ar := [.im (gl [i_ 4, i_ 4, i_ 4] [tz 0 0 1 0, tz 1 3 2 0])]
def v_rims_31 : List Dt := [.tup [sd 0 1, sd 0 2, sd 0 3, sd 1 1, sd 1 2, sd 2 1, sd 2 2, sd 2 3]]
theorem c_rims_31 : isF (f_rims k_rims_31) v_rims_31 = true := by decide +kernel
def k_rims_32 : List Ar := [.im (gl [i_ 4, i_ 4, i_ 4] [tz 0 1 1 0])]
def v_rims_32 : List Dt := [.tup [sd 0 0, sd 1 1, sd 1 2, sd 1 3, sd 0 2, sd 0 3], .tup [sd 2 0, sd 2 1, sd 2 2, sd 2 3]]
theorem c_rims_32 : isF (f_rims k_rims_32) v_rims_32 = true := by decide +kernel
def k_rims_33 : List Ar := [.im (gl [i_ 4, i_ 4, i_ 4] [tz 0 1 1 0, tz 0 2 2 0])]
def v_rims_33 : List Dt := [.tup [sd 0 0, sd 1 1, sd 1 2, sd 1 3, sd 2 1, sd 2 2, sd 2 3, sd 0 3]]
theorem c_rims_33 : isF (f_rims k_rims_33) v_rims_33 = true := by decide +kernel
def k_rims_34 : List Ar := [.im (gl [i_ 4, i_ 4, i_ 4] [tz 0 1 1 0, tz 1 1 2 3])]
def v_rims_34 : List Dt := [.tup [sd 0 0, sd 2 0, sd 2 1, sd 2 2, sd 1 2, sd 1 3, sd 0 2, sd 0 3]]
theorem c_rims_34 : isF (f_rims k_rims_34) v_rims_34 = true := by decide +kernel
def k_rims_35 : List Ar := [.im (gl [i_ 4, i_ 4, i_ 4] [tz 0 1 1 0, tz 1 2 2 0])]
def v_rims_35 : List Dt := [.tup [sd 0 0, sd 1 1, sd 2 1, sd 2 2, sd 2 3, sd 1 3, sd 0 2, sd 0 3]]
theorem c_rims_35 : isF (f_rims k_rims_35) v_rims_35 = true := by decide +kernel
def k_rims_36 : List Ar := [.im (gl [i_ 4, i_ 4, i_ 4] [tz 0 1 1 0, tz 1 3 2 0])]
def v_rims_36 : List Dt := [.tup [sd 0 0, sd 1 1, sd 1 2, sd 2 1, sd 2 2, sd 2 3, sd 0 2, sd 0 3]]
theorem c_rims_36 : isF (f_rims k_rims_36) v_rims_36 = true := by decide +kernel
def k_rims_37 : List Ar := [.im (gl [i_ 4, i_ 4, i_ 4] [tz 0 1 2 0])]
def v_rims_37 : List Dt := [.tup [sd 0 0, sd 2 1, sd 2 2, sd 2 3, sd 0 2, sd 0 3], .tup [sd 1 0, sd 1 1, sd 1 2, sd 1 3]]
theorem c_rims_37 : isF (f_rims k_rims_37) v_rims_37 = true := by decide +kernel
def k_rims_38 : List Ar := [.im (gl [i_ 4, i_ 4, i_ 4] [tz 0 2 1 0])]
def v_rims_38 : List Dt := [.tup [sd 0 0, sd 0 1, sd 1 1, sd 1 2, sd 1 3, sd 0 3], .tup [sd 2 0, sd 2 1, sd 2 2, sd 2 3]]
theorem c_rims_38 : isF (f_rims k_rims_38) v_rims_38 = true := by decide +kernel
def k_rims_39 : List Ar := [.im (gl [i_ 4, i_ 4, i_ 4] [tz 0 2 2 0])]
def v_rims_39 : List Dt := [.tup [sd 0 0, sd 0 1, sd 2 1, sd 2 2, sd 2 3, sd 0 3], .tup [sd 1 0, sd 1 1, sd 1 2, sd 1 3]]
theorem c_rims_39 : isF (f_rims k_rims_39) v_rims_39 = true := by decide +kernel
def k_rims_40 : List Ar := [.im (gl [i_ 4, i_ 4, i_ 4] [tz 0 3 2 0])]
def v_rims_40 : List Dt := [.tup [sd 0 0, sd 0 1, sd 0 2, sd 2 1, sd 2 2, sd 2 3], .tup [sd 1 0, sd 1 1, sd 1 2, sd 1 3]]
theorem c_rims_40 : isF (f_rims k_rims_40) v_rims_40 = true := by decide +kernel
def k_rims_41 : List Ar := [.im (gl [i_ 4, i_ 4, i_ 4] [tz 0 3 2 0, tz 1 1 2 3])]
def v_rims_41 : List Dt := [.tup [sd 0 0, sd 0 1, sd 0 2, sd 2 1, sd 2 2, sd 1 2, sd 1 3, sd 1 0]]
theorem c_rims_41 : isF (f_rims k_rims_41) v_rims_41 = true := by decide +kernel
def k_rims_42 : List Ar := [.im (gl [i_ 4, i_ 4, i_ 4] [tz 1 2 2 0])]
def v_rims_42 : List Dt := [.tup [sd 0 0, sd 0 1, sd 0 2, sd 0 3], .tup [sd 1 0, sd 1 1, sd 2 1, sd 2 2, sd 2 3, sd 1 3]]
theorem c_rims_42 : isF (f_rims k_rims_42) v_rims_42 = true := by decide +kernel
def k_rims_43 : List Ar := [.im (gl [i_ 4, i_ 4, i_ 4] [tz 1 3 2 0])]
def v_rims_43 : List Dt := [.tup [sd 0 0, sd 0 1, sd 0 2, sd 0 3], .tup [sd 1 0, sd 1 1, sd 1 2, sd 2 1, sd 2 2, sd 2 3]]
theorem c_rims_43 : isF (f_rims k_rims_43) v_rims_43 = true := by decide +kernel
def k_rims_44 : List Ar := [.im (gl [i_ 4, i_ 4, i_ 4, i_ 4] [tz 0 0 1 0, tz 0 1 2 0, tz 0 2 3 0])]
def v_rims_44 : List Dt := [.tup [sd 0 3, sd 1 1, sd 1 2, sd 1 3, sd 2 1, sd 2 2, sd 2 3, sd 3 1, sd 3 2, sd 3 3]]
theorem c_rims_44 : isF (f_rims k_rims_44) v_rims_44 = true := by decide +kernel
def k_rims_45 : List Ar := [.im (gl [i_ 4, i_ 4, i_ 4, i_ 4] [tz 0 0 1 0, tz 0 1 2 0, tz 1 1 3 0])]
def v_rims_45 : List Dt := [.tup [sd 0 2, sd 0 3, sd 3 1, sd 3 2, sd 3 3, sd 1 2, sd 1 3, sd 2 1, sd 2 2, sd 2 3]]
theorem c_rims_45 : isF (f_rims k_rims_45) v_rims_45 = true := by decide +kernel
def k_rims_46 : List Ar := [.im (gl [i_ 4, i_ 4, i_ 4, i_ 4] [tz 0 0 1 0, tz 0 1 2 0, tz 1 2 3 0])]
def v_rims_46 : List Dt := [.tup [sd 0 2, sd 0 3, sd 1 1, sd 3 1, sd 3 2, sd 3 3, sd 1 3, sd 2 1, sd 2 2, sd 2 3]]
theorem c_rims_46 : isF (f_rims k_rims_46) v_rims_46 = true := by decide +kernel
def k_rims_47 : List Ar := [.im (gl [i_ 4, i_ 4, i_ 4, i_ 4] [tz 0 0 1 0, tz 0 1 2 0, tz 1 3 3 0])]
def v_rims_47 : List Dt := [.tup [sd 0 2, sd 0 3, sd 1 1, sd 1 2, sd 3 1, sd 3 2, sd 3 3, sd 2 1, sd 2 2, sd 2 3]]
theorem c_rims_47 : isF (f_rims k_rims_47) v_rims_47 = true := by decide +kernel
def k_rims_48 : List Ar := [.im (gl [i_ 4, i_ 4, i_ 4, i_ 4] [tz 0 0 1 0, tz 0 1 2 0, tz 1 3 3 0, tz 2 1 3 3])]
def v_rims_48 : List Dt := [.tup [sd 0 2, sd 0 3, sd 1 1, sd 1 2, sd 3 1, sd 3 2, sd 2 2, sd 2 3]]
theorem c_rims_48 : isF (f_rims k_rims_48) v_rims_48 = true := by decide +kernel
def k_rims_49 : List Ar := [.im (gl [i_ 4, i_ 4, i_ 4, i_ 4] [tz 0 0 1 0, tz 0 1 2 0, tz 2 2 3 0])]
def v_rims_49 : List Dt := [.tup [sd 0 2, sd 0 3, sd 1 1, sd 1 2, sd 1 3, sd 2 1, sd 3 1, sd 3 2, sd 3 3, sd 2 3]]
theorem c_rims_49 : isF (f_rims k_rims_49) v_rims_49 = true := by decide +kernel
def k_rims_50 : List Ar := [.im (gl [i_ 4, i_ 4, i_ 4, i_ 4] [tz 0 0 1 0, tz 0 1 2 0, tz 2 3 3 0])]
def v_rims_50 : List Dt := [.tup [sd 0 2, sd 0 3, sd 1 1, sd 1 2, sd 1 3, sd 2 1, sd 2 2, sd 3 1, sd 3 2, sd 3 3]]
theorem c_rims_50 : isF (f_rims k_rims_50) v_rims_50 = true := by decide +kernel
def k_rims_51 : List Ar := [.im (gl [i_ 4, i_ 4, i_ 4, i_ 4] [tz 0 0 1 0, tz 0 2 2 0, tz 1 2 3 0])]
def v_rims_51 : List Dt := [.tup [sd 0 1, sd 2 1, sd 2 2, sd 2 3, sd 0 3, sd 1 1, sd 3 1, sd 3 2, sd 3 3, sd 1 3]]
theorem c_rims_51 : isF (f_rims k_rims_51) v_rims_51 = true := by decide +kernel
def k_rims_52 : List Ar := [.im (gl [i_ 5] [])]
def v_rims_52 : List Dt := [.tup [sd 0 0, sd 0 1, sd 0 2, sd 0 3, sd 0 4]]
theorem c_rims_52 : isF (f_rims k_rims_52) v_rims_52 = true := by decide +kernel
def k_rims_53 : List Ar := [.im (gl [i_ 5, i_ 5] [])]
def v_rims_53 : List Dt := [.tup [sd 0 0, sd 0 1, sd 0 2, sd 0 3, sd 0 4], .tup [sd 1 0, sd 1 1, sd 1 2, sd 1 3, sd 1 4]]
theorem c_rims_53 : isF (f_rims k_rims_53) v_rims_53 = true := by decide +kernel
def k_rims_54 : List Ar := [.im (gl [i_ 5, i_ 5] [tz 0 0 1 0])]
def v_rims_54 : List Dt := [.tup [sd 0 1, sd 0 2, sd 0 3, sd 0 4, sd 1 1, sd 1 2, sd 1 3, sd 1 4]]
theorem c_rims_54 : isF (f_rims k_rims_54) v_rims_54 = true := by decide +kernel
def k_rims_55 : List Ar := [.im (gl [i_ 5, i_ 5] [tz 0 1 1 0])]
def v_rims_55 : List Dt := [.tup [sd 0 0, sd 1 1, sd 1 2, sd 1 3, sd 1 4, sd 0 2, sd 0 3, sd 0 4]]
theorem c_rims_55 : isF (f_rims k_rims_55) v_rims_55 = true := by decide +kernel
def k_rims_56 : List Ar := [.im (gl [i_ 5, i_ 5] [tz 0 2 1 0])]
def v_rims_56 : List Dt := [.tup [sd 0 0, sd 0 1, sd 1 1, sd 1 2, sd 1 3, sd 1 4, sd 0 3, sd 0 4]]
theorem c_rims_56 : isF (f_rims k_rims_56) v_rims_56 = true := by decide +kernel
def k_rims_57 : List Ar := [.im (gl [i_ 5, i_ 5] [tz 0 4 1 1])]
def v_rims_57 : List Dt := [.tup [sd 0 0, sd 0 1, sd 0 2, sd 0 3, sd 1 2, sd 1 3, sd 1 4, sd 1 0]]
theorem c_rims_57 : isF (f_rims k_rims_57) v_rims_57 = true := by decide +kernel
def k_rims_58 : List Ar := [.im (gl [i_ 5, i_ 5, i_ 5] [tz 0 0 1 0, tz 0 1 2 0])]
def v_rims_58 : List Dt := [.tup [sd 0 2, sd 0 3, sd 0 4, sd 1 1, sd 1 2, sd 1 3, sd 1 4, sd 2 1, sd 2 2, sd 2 3, sd 2 4]]
theorem c_rims_58 : isF (f_rims k_rims_58) v_rims_58 = true := by decide +kernel
def k_rims_59 : List Ar := [.im (gl [i_ 5, i_ 5, i_ 5] [tz 0 0 1 0, tz 0 1 2 0, tz 1 4 2 1])]
def v_rims_59 : List Dt := [.tup [sd 0 2, sd 0 3, sd 0 4, sd 1 1, sd 1 2, sd 1 3, sd 2 2, sd 2 3, sd 2 4]]
theorem c_rims_59 : isF (f_rims k_rims_59) v_rims_59 = true := by decide +kernel
def k_rims_60 : List Ar := [.im (gl [i_ 5, i_ 5, i_ 5] [tz 0 0 1 0, tz 0 2 2 0])]
def v_rims_60 : List Dt := [.tup [sd 0 1, sd 2 1, sd 2 2, sd 2 3, sd 2 4, sd 0 3, sd 0 4, sd 1 1, sd 1 2, sd 1 3, sd 1 4]]
theorem c_rims_60 : isF (f_rims k_rims_60) v_rims_60 = true := by decide +kernel
def k_rims_61 : List Ar := [.im (gl [i_ 6] [])]
def v_rims_61 : List Dt := [.tup [sd 0 0, sd 0 1, sd 0 2, sd 0 3, sd 0 4, sd 0 5]]
theorem c_rims_61 : isF (f_rims k_rims_61) v_rims_61 = true := by decide +kernel
def k_rims_62 : List Ar := [.im (gl [i_ 6, i_ 6] [])]
def v_rims_62 : List Dt := [.tup [sd 0 0, sd 0 1, sd 0 2, sd 0 3, sd 0 4, sd 0 5], .tup [sd 1 0, sd 1 1, sd 1 2, sd 1 3, sd 1 4, sd 1 5]]
theorem c_rims_62 : isF (f_rims k_rims_62) v_rims_62 = true := by decide +kernel
def k_rims_63 : List Ar := [.im (gl [i_ 6, i_ 6] [tz 0 0 1 0])]
def v_rims_63 : List Dt := [.tup [sd 0 1, sd 0 2, sd 0 3, sd 0 4, sd 0 5, sd 1 1, sd 1 2, sd 1 3, sd 1 4, sd 1 5]]
theorem c_rims_63 : isF (f_rims k_rims_63) v_rims_63 = true := by decide +kernel
def k_rims_64 : List Ar := [.im (gl [i_ 6, i_ 6] [tz 0 1 1 0])]
def v_rims_64 : List Dt := [.tup [sd 0 0, sd 1 1, sd 1 2, sd 1 3, sd 1 4, sd 1 5, sd 0 2, sd 0 3, sd 0 4, sd 0 5]]
theorem c_rims_64 : isF (f_rims k_rims_64) v_rims_64 = true := by decide +kernel
def k_rims_65 : List Ar := [.im (gl [i_ 6, i_ 6] [tz 0 2 1 0])]
def v_rims_65 : List Dt := [.tup [sd 0 0, sd 0 1, sd 1 1, sd 1 2, sd 1 3, sd 1 4, sd 1 5, sd 0 3, sd 0 4, sd 0 5]]
theorem c_rims_65 : isF (f_rims k_rims_65) v_rims_65 = true := by decide +kernel
def k_rims_66 : List Ar := [.im (gl [i_ 6, i_ 6] [tz 0 3 1 0])]
def v_rims_66 : List Dt := [.tup [sd 0 0, sd 0 1, sd 0 2, sd 1 1, sd 1 2, sd 1 3, sd 1 4, sd 1 5, sd 0 4, sd 0 5]]
theorem c_rims_66 : isF (f_rims k_rims_66) v_rims_66 = true := by decide +kernel
def k_rims_67 : List Ar := [.im (gl [i_ 6, i_ 6] [tz 0 5 1 1])]
def v_rims_67 : List Dt := [.tup [sd 0 0, sd 0 1, sd 0 2, sd 0 3, sd 0 4, sd 1 2, sd 1 3, sd 1 4, sd 1 5, sd 1 0]]
theorem c_rims_67 : isF (f_rims k_rims_67) v_rims_67 = true := by decide +kernel
def k_rims_68 : List Ar := [.im (gl [i_ 6, i_ 6, i_ 6] [tz 0 0 1 0, tz 0 1 2 0, tz 1 5 2 1])]
def v_rims_68 : List Dt := [.tup [sd 0 2, sd 0 3, sd 0 4, sd 0 5, sd 1 1, sd 1 2, sd 1 3, sd 1 4, sd 2 2, sd 2 3, sd 2 4, sd 2 5]]
theorem c_rims_68 : isF (f_rims k_rims_68) v_rims_68 = true := by decide +kernel
def k_rims_69 : List Ar := [.im (gl [i_ 6, i_ 6, i_ 6] [tz 0 0 1 0, tz 0 2 2 0])]
def v_rims_69 : List Dt := [.tup [sd 0 1, sd 2 1, sd 2 2, sd 2 3, sd 2 4, sd 2 5, sd 0 3, sd 0 4, sd 0 5, sd 1 1, sd 1 2, sd 1 3, sd 1 4, sd 1 5]]
theorem c_rims_69 : isF (f_rims k_rims_69) v_rims_69 = true := by decide +kernel
def k_rims_70 : List Ar := [.im (gl [i_ 6, i_ 6, i_ 6] [tz 0 0 1 0, tz 0 3 2 0])]
def v_rims_70 : List Dt := [.tup [sd 0 1, sd 0 2, sd 2 1, sd 2 2, sd 2 3, sd 2 4, sd 2 5, sd 0 4, sd 0 5, sd 1 1, sd 1 2, sd 1 3, sd 1 4, sd 1 5]]
theorem c_rims_70 : isF (f_rims k_rims_70) v_rims_70 = true := by decide +kernel
def tab_rims : List (List Ar × List Dt) := [(k_rims_0, v_rims_0), (k_rims_1, v_rims_1), (k_rims_2, v_rims_2), (k_rims_3, v_rims_3), (k_rims_4, v_rims_4), (k_rims_5, v_rims_5), (k_rims_6, v_rims_6), (k_rims_7, v_rims_7), (k_rims_8, v_rims_8), (k_rims_9, v_rims_9), (k_rims_10, v_rims_10), (k_rims_11, v_rims_11), (k_rims_12, v_rims_12), (k_rims_13, v_rims_13), (k_rims_14, v_rims_14), (k_rims_15, v_rims_15), (k_rims_16, v_rims_16), (k_rims_17, v_rims_17), (k_rims_18, v_rims_18), (k_rims_19, v_rims_19), (k_rims_20, v_rims_20), (k_rims_21, v_rims_21), (k_rims_22, v_rims_22), (k_rims_23, v_rims_23), (k_rims_24, v_rims_24), (k_rims_25, v_rims_25), (k_rims_26, v_rims_26), (k_rims_27, v_rims_27), (k_rims_28, v_rims_28), (k_rims_29, v_rims_29), (k_rims_30, v_rims_30), (k_rims_31, v_rims_31), (k_rims_32, v_rims_32), (k_rims_33, v_rims_33), (k_rims_34, v_rims_34), (k_rims_35, v_rims_35), (k_rims_36, v_rims_36), (k_rims_37, v_rims_37), (k_rims_38, v_rims_38), (k_rims_39, v_rims_39), (k_rims_40, v_rims_40), (k_rims_41, v_rims_41), (k_rims_42, v_rims_42), (k_rims_43, v_rims_43), (k_rims_44, v_rims_44), (k_rims_45, v_rims_45), (k_rims_46, v_rims_46), (k_rims_47, v_rims_47), (k_rims_48, v_rims_48), (k_rims_49, v_rims_49), (k_rims_50, v_rims_50), (k_rims_51, v_rims_51), (k_rims_52, v_rims_52), (k_rims_53, v_rims_53), (k_rims_54, v_rims_54), (k_rims_55, v_rims_55), (k_rims_56, v_rims_56), (k_rims_57, v_rims_57), (k_rims_58, v_rims_58), (k_rims_59, v_rims_59), (k_rims_60, v_rims_60), (k_rims_61, v_rims_61), (k_rims_62, v_rims_62), (k_rims_63, v_rims_63), (k_rims_64, v_rims_64), (k_rims_65, v_rims_65), (k_rims_66, v_rims_66), (k_rims_67, v_rims_67), (k_rims_68, v_rims_68), (k_rims_69, v_rims_69), (k_rims_70, v_rims_70)]
def t_rims : List Ar → Option Ct := lkF f_rims tab_rims
theorem ok_rims : TF f_rims tab_rims := .cons c_rims_0 (.cons c_rims_1 (.cons c_rims_2 (.cons c_rims_3 (.cons c_rims_4 (.cons c_rims_5 (.cons c_rims_6 (.cons c_rims_7 (.cons c_rims_8 (.cons c_rims_9 (.cons c_rims_10 (.cons c_rims_11 (.cons c_rims_12 (.cons c_rims_13 (.cons c_rims_14 (.cons c_rims_15 (.cons c_rims_16 (.cons c_rims_17 (.cons c_rims_18 (.cons c_rims_19 (.cons c_rims_20 (.cons c_rims_21 (.cons c_rims_22 (.cons c_rims_23 (.cons c_rims_24 (.cons c_rims_25 (.cons c_rims_26 (.cons c_rims_27 (.cons c_rims_28 (.cons c_rims_29 (.cons c_rims_30 (.cons c_rims_31 (.cons c_rims_32 (.cons c_rims_33 (.cons c_rims_34 (.cons c_rims_35 (.cons c_rims_36 (.cons c_rims_37 (.cons c_rims_38 (.cons c_rims_39 (.cons c_rims_40 (.cons c_rims_41 (.cons c_rims_42 (.cons c_rims_43 (.cons c_rims_44 (.cons c_rims_45 (.cons c_rims_46 (.cons c_rims_47 (.cons c_rims_48 (.cons c_rims_49 (.cons c_rims_50 (.cons c_rims_51 (.cons c_rims_52 (.cons c_rims_53 (.cons c_rims_54 (.cons c_rims_55 (.cons c_rims_56 (.cons c_rims_57 (.cons c_rims_58 (.cons c_rims_59 (.cons c_rims_60 (.cons c_rims_61 (.cons c_rims_62 (.cons c_rims_63 (.cons c_rims_64 (.cons c_rims_65 (.cons c_rims_66 (.cons c_rims_67 (.cons c_rims_68 (.cons c_rims_69 (.cons c_rims_70 (.nil)))))))))))))))))))))))))))))))))))))))))))))))))))))))))))))))))))))))
/-! ### letters_along -/
abbrev s_letters_along : Stmt := topS 29
abbrev n_letters_along : List Str := ["table", "rim", "side"]
theorem sc_letters_along : FnScope n_letters_along ["table", "rim"] (defScope s_letters_along) := ⟨rfl, rfl, rfl, by decide +kernel, rfl, by decide +kernel, by decide +kernel⟩
def m_letters_along : MS := (mRetI (o1 (aConsC (mLc (o1 (vIm 1) kParts) (mName 2) tY (o1 (aConsI (o2 (vFz 0) (vIm 2) kGet) aNil) kLen) [2]) aNil) kTupOf))
def f_letters_along : List Ar → Option Dt := argc 2 (runI 3 m_letters_along)
theorem kn_letters_along {f : Addr} {fd : FuncData} (F : Fun K "letters_along" "letters_along" s_letters_along f fd) (hm : mg "letters_along" = some (.ref f)) (nb : Nb mg)  : Kn P w K mg base "letters_along" ["table", "rim"] 1 (spI f_letters_along) :=
  Kn.of F hm (F.binds (ps := ["table", "rim"]) fun _ _ _ _ _ _ us hl => match us, hl with | [_, _], _ => rfl) (fn_I (N := n_letters_along) (ps := ["table", "rim"]) (m := m_letters_along) F sc_letters_along (by decide)
    (ss_retI (se_cb (rb_tupOf (K := K)) (sar_consC (SF.c (sf_lc (vs := [2]) (si_tup (K := K) (se_var (i := 1))) (sg_name (i := 2)) st_yes (se_cb (rb_len (K := K)) (sar_consI (se_dget (SZ.c (sz_var (i := 0))) (se_var (i := 2))) sar_nil)) (by decide))) sar_nil)))
    fun cdv A outer s H E hr => (pss_one (ps_ret (pe_callTy call_tuple_of (by rfl) nb.tuple PyProof.Rows.boot_tuple (pa_cons (pe_lc (own := [("side", 2)]) rfl sc_letters_along.nd (pi_tup (pv 1)) (blkOk_by (N := n_letters_along) (sc := defScope s_letters_along) (by decide +kernel)) (fun _ _ _ _ _ => (pg_name (i := 2) sc_letters_along.nd rfl (by first | exact .inl rfl | exact .inr rfl))) (fun _ _ _ _ _ => pts_nil) (fun _ _ _ _ _ => (pe_callB call_len_seq (by rfl) nb.len PySem.boot_len (pa_cons (pe_dget (hu_of hr) (pv 0) (pv 2) (fun _ _ => rfl)) pa_nil)))) pa_nil)))))
/-! ### rim_word -/
abbrev s_rim_word : Stmt := topS 30
abbrev n_rim_word : List Str := ["gluing", "side", "table"]
theorem sc_rim_word : FnScope n_rim_word ["gluing", "side"] (defScope s_rim_word) := ⟨rfl, rfl, rfl, by decide +kernel, rfl, by decide +kernel, by decide +kernel⟩
def m_rim_word : MS := (mSeq (mSetZ 2 (o1 (aConsI (vIm 0) aNil) f_corner_table))
    (mRetI (o1 (aConsC (vFz 2) (aConsI (o1 (aConsI (o2 (vIm 0) (cI 0) kIxT) (aConsC (vFz 2) (aConsI (vIm 1) aNil))) f_round_from) aNil)) f_letters_along)))
def f_rim_word : List Ar → Option Dt := argc 2 (runI 3 m_rim_word)
theorem kn_rim_word {f : Addr} {fd : FuncData} (F : Fun K "rim_word" "rim_word" s_rim_word f fd) (hm : mg "rim_word" = some (.ref f)) (nb : Nb mg) (k_corner_table : Kn P w K mg base "corner_table" ["gluing"] 5 (spF f_corner_table)) (k_round_from : Kn P w K mg base "round_from" ["sizes", "table", "side"] 2 (spI f_round_from)) (k_letters_along : Kn P w K mg base "letters_along" ["table", "rim"] 1 (spI f_letters_along)) : Kn P w K mg base "rim_word" ["gluing", "side"] 6 (spI f_rim_word) :=
  Kn.of F hm (F.binds (ps := ["gluing", "side"]) fun _ _ _ _ _ _ us hl => match us, hl with | [_, _], _ => rfl) (fn_I (N := n_rim_word) (ps := ["gluing", "side"]) (m := m_rim_word) F sc_rim_word (by decide)
    (ss_seq (ss_setZ (i := 2) (SF.z (sf_call (E := E0) (sar_consI (se_var (i := 0)) sar_nil))))
    (ss_retI (se_call (E := E0) (sar_consC (SZ.c (sz_var (i := 2))) (sar_consI (se_call (E := E0) (sar_consI (se_op (rii_ixT (K := K)) (se_var (i := 0)) (se_cI (i := 0))) (sar_consC (SZ.c (sz_var (i := 2))) (sar_consI (se_var (i := 1)) sar_nil)))) sar_nil)))))
    fun cdv A outer s H E hr => (pss_cons (ps_set (i := 2) sc_rim_word.nd rfl (.inl rfl) (k_corner_table.call hr (by decide) (by rfl) (pa_cons (pv 0) pa_nil)))
    (pss_one (ps_ret (k_letters_along.call hr (by decide) (by rfl) (pa_cons (pv 2) (pa_cons (k_round_from.call hr (by decide) (by rfl) (pa_cons (pe_ix ix_tup (pv 0) pe_int (fun _ _ => rfl)) (pa_cons (pv 2) (pa_cons (pv 1) pa_nil)))) pa_nil)))))))
def k_rim_word_0 : List Ar := [.im (gl [i_ 3] []), .im (sd 0 0)]
def v_rim_word_0 : Dt := (.tup [i_ 1, i_ 1, i_ 1])
theorem c_rim_word_0 : isI (f_rim_word k_rim_word_0) v_rim_word_0 = true := by decide +kernel
def k_rim_word_1 : List Ar := [.im (gl [i_ 3, i_ 3] [tz 0 0 1 0]), .im (sd 0 1)]
def v_rim_word_1 : Dt := (.tup [i_ 2, i_ 1, i_ 2, i_ 1])
theorem c_rim_word_1 : isI (f_rim_word k_rim_word_1) v_rim_word_1 = true := by decide +kernel
def k_rim_word_2 : List Ar := [.im (gl [i_ 3, i_ 3, i_ 3] [tz 0 0 1 0, tz 0 1 2 0]), .im (sd 0 2)]
def v_rim_word_2 : Dt := (.tup [i_ 2, i_ 2, i_ 1, i_ 3, i_ 1])
theorem c_rim_word_2 : isI (f_rim_word k_rim_word_2) v_rim_word_2 = true := by decide +kernel
def k_rim_word_3 : List Ar := [.im (gl [i_ 3, i_ 3, i_ 3, i_ 3] [tz 0 0 1 0, tz 0 1 2 0, tz 0 2 3 0]), .im (sd 1 1)]
def v_rim_word_3 : Dt := (.tup [i_ 3, i_ 1, i_ 3, i_ 1, i_ 3, i_ 1])
theorem c_rim_word_3 : isI (f_rim_word k_rim_word_3) v_rim_word_3 = true := by decide +kernel
def k_rim_word_4 : List Ar := [.im (gl [i_ 3, i_ 3, i_ 3, i_ 3] [tz 0 0 1 0, tz 0 1 2 0, tz 1 1 3 0]), .im (sd 0 2)]
def v_rim_word_4 : Dt := (.tup [i_ 2, i_ 3, i_ 1, i_ 2, i_ 3, i_ 1])
theorem c_rim_word_4 : isI (f_rim_word k_rim_word_4) v_rim_word_4 = true := by decide +kernel
def k_rim_word_5 : List Ar := [.im (gl [i_ 3, i_ 3, i_ 3, i_ 3] [tz 0 0 1 0, tz 0 1 2 0, tz 1 2 3 0]), .im (sd 0 2)]
def v_rim_word_5 : Dt := (.tup [i_ 2, i_ 2, i_ 2, i_ 1, i_ 4, i_ 1])
theorem c_rim_word_5 : isI (f_rim_word k_rim_word_5) v_rim_word_5 = true := by decide +kernel
def k_rim_word_6 : List Ar := [.im (gl [i_ 3, i_ 3, i_ 3, i_ 3] [tz 0 0 1 0, tz 0 1 2 0, tz 2 2 3 0]), .im (sd 0 2)]
def v_rim_word_6 : Dt := (.tup [i_ 3, i_ 2, i_ 1, i_ 3, i_ 2, i_ 1])
theorem c_rim_word_6 : isI (f_rim_word k_rim_word_6) v_rim_word_6 = true := by decide +kernel
def k_rim_word_7 : List Ar := [.im (gl [i_ 4] []), .im (sd 0 0)]
def v_rim_word_7 : Dt := (.tup [i_ 1, i_ 1, i_ 1, i_ 1])
theorem c_rim_word_7 : isI (f_rim_word k_rim_word_7) v_rim_word_7 = true := by decide +kernel
def k_rim_word_8 : List Ar := [.im (gl [i_ 4, i_ 4] [tz 0 0 1 0]), .im (sd 0 1)]
def v_rim_word_8 : Dt := (.tup [i_ 2, i_ 1, i_ 1, i_ 2, i_ 1, i_ 1])
theorem c_rim_word_8 : isI (f_rim_word k_rim_word_8) v_rim_word_8 = true := by decide +kernel
def k_rim_word_9 : List Ar := [.im (gl [i_ 4, i_ 4, i_ 4] [tz 0 0 1 0, tz 0 1 2 0]), .im (sd 0 2)]
def v_rim_word_9 : Dt := (.tup [i_ 2, i_ 1, i_ 2, i_ 1, i_ 1, i_ 3, i_ 1, i_ 1])
theorem c_rim_word_9 : isI (f_rim_word k_rim_word_9) v_rim_word_9 = true := by decide +kernel
def k_rim_word_10 : List Ar := [.im (gl [i_ 4, i_ 4, i_ 4] [tz 0 0 1 0, tz 0 2 2 0]), .im (sd 0 1)]
def v_rim_word_10 : Dt := (.tup [i_ 2, i_ 2, i_ 1, i_ 1, i_ 2, i_ 2, i_ 1, i_ 1])
theorem c_rim_word_10 : isI (f_rim_word k_rim_word_10) v_rim_word_10 = true := by decide +kernel
def k_rim_word_11 : List Ar := [.im (gl [i_ 4, i_ 4, i_ 4, i_ 4] [tz 0 0 1 0, tz 0 1 2 0, tz 0 2 3 0]), .im (sd 0 3)]
def v_rim_word_11 : Dt := (.tup [i_ 2, i_ 2, i_ 1, i_ 1, i_ 3, i_ 1, i_ 1, i_ 3, i_ 1, i_ 1])
theorem c_rim_word_11 : isI (f_rim_word k_rim_word_11) v_rim_word_11 = true := by decide +kernel
def k_rim_word_12 : List Ar := [.im (gl [i_ 4, i_ 4, i_ 4, i_ 4] [tz 0 0 1 0, tz 0 1 2 0, tz 1 1 3 0]), .im (sd 0 2)]
def v_rim_word_12 : Dt := (.tup [i_ 2, i_ 1, i_ 3, i_ 1, i_ 1, i_ 2, i_ 1, i_ 3, i_ 1, i_ 1])
theorem c_rim_word_12 : isI (f_rim_word k_rim_word_12) v_rim_word_12 = true := by decide +kernel
def k_rim_word_13 : List Ar := [.im (gl [i_ 4, i_ 4, i_ 4, i_ 4] [tz 0 0 1 0, tz 0 1 2 0, tz 1 2 3 0]), .im (sd 0 2)]
def v_rim_word_13 : Dt := (.tup [i_ 2, i_ 1, i_ 2, i_ 2, i_ 1, i_ 1, i_ 2, i_ 3, i_ 1, i_ 1])
theorem c_rim_word_13 : isI (f_rim_word k_rim_word_13) v_rim_word_13 = true := by decide +kernel
def k_rim_word_14 : List Ar := [.im (gl [i_ 4, i_ 4, i_ 4, i_ 4] [tz 0 0 1 0, tz 0 1 2 0, tz 1 3 3 0]), .im (sd 0 2)]
def v_rim_word_14 : Dt := (.tup [i_ 2, i_ 1, i_ 2, i_ 1, i_ 2, i_ 1, i_ 1, i_ 4, i_ 1, i_ 1])
theorem c_rim_word_14 : isI (f_rim_word k_rim_word_14) v_rim_word_14 = true := by decide +kernel
def k_rim_word_15 : List Ar := [.im (gl [i_ 4, i_ 4, i_ 4, i_ 4] [tz 0 0 1 0, tz 0 1 2 0, tz 1 3 3 0, tz 2 1 3 3]), .im (sd 0 2)]
def v_rim_word_15 : Dt := (.tup [i_ 2, i_ 1, i_ 2, i_ 1, i_ 2, i_ 1, i_ 2, i_ 1])
theorem c_rim_word_15 : isI (f_rim_word k_rim_word_15) v_rim_word_15 = true := by decide +kernel
def k_rim_word_16 : List Ar := [.im (gl [i_ 4, i_ 4, i_ 4, i_ 4] [tz 0 0 1 0, tz 0 1 2 0, tz 2 2 3 0]), .im (sd 0 2)]
def v_rim_word_16 : Dt := (.tup [i_ 2, i_ 1, i_ 2, i_ 1, i_ 1, i_ 3, i_ 2, i_ 1, i_ 1, i_ 2])
theorem c_rim_word_16 : isI (f_rim_word k_rim_word_16) v_rim_word_16 = true := by decide +kernel
def k_rim_word_17 : List Ar := [.im (gl [i_ 4, i_ 4, i_ 4, i_ 4] [tz 0 0 1 0, tz 0 1 2 0, tz 2 3 3 0]), .im (sd 0 2)]
def v_rim_word_17 : Dt := (.tup [i_ 3, i_ 1, i_ 2, i_ 1, i_ 1, i_ 3, i_ 1, i_ 2, i_ 1, i_ 1])
theorem c_rim_word_17 : isI (f_rim_word k_rim_word_17) v_rim_word_17 = true := by decide +kernel
def k_rim_word_18 : List Ar := [.im (gl [i_ 4, i_ 4, i_ 4, i_ 4] [tz 0 0 1 0, tz 0 2 2 0, tz 1 2 3 0]), .im (sd 0 1)]
def v_rim_word_18 : Dt := (.tup [i_ 2, i_ 2, i_ 1, i_ 1, i_ 2, i_ 2, i_ 2, i_ 1, i_ 1, i_ 2])
theorem c_rim_word_18 : isI (f_rim_word k_rim_word_18) v_rim_word_18 = true := by decide +kernel
def k_rim_word_19 : List Ar := [.im (gl [i_ 5] []), .im (sd 0 0)]
def v_rim_word_19 : Dt := (.tup [i_ 1, i_ 1, i_ 1, i_ 1, i_ 1])
theorem c_rim_word_19 : isI (f_rim_word k_rim_word_19) v_rim_word_19 = true := by decide +kernel
def k_rim_word_20 : List Ar := [.im (gl [i_ 5, i_ 5] [tz 0 0 1 0]), .im (sd 0 1)]
def v_rim_word_20 : Dt := (.tup [i_ 2, i_ 1, i_ 1, i_ 1, i_ 2, i_ 1, i_ 1, i_ 1])
theorem c_rim_word_20 : isI (f_rim_word k_rim_word_20) v_rim_word_20 = true := by decide +kernel
def k_rim_word_21 : List Ar := [.im (gl [i_ 5, i_ 5, i_ 5] [tz 0 0 1 0, tz 0 1 2 0]), .im (sd 0 2)]
def v_rim_word_21 : Dt := (.tup [i_ 2, i_ 1, i_ 1, i_ 2, i_ 1, i_ 1, i_ 1, i_ 3, i_ 1, i_ 1, i_ 1])
theorem c_rim_word_21 : isI (f_rim_word k_rim_word_21) v_rim_word_21 = true := by decide +kernel
def k_rim_word_22 : List Ar := [.im (gl [i_ 5, i_ 5, i_ 5] [tz 0 0 1 0, tz 0 1 2 0, tz 1 4 2 1]), .im (sd 0 2)]
def v_rim_word_22 : Dt := (.tup [i_ 2, i_ 1, i_ 1, i_ 2, i_ 1, i_ 1, i_ 2, i_ 1, i_ 1])
theorem c_rim_word_22 : isI (f_rim_word k_rim_word_22) v_rim_word_22 = true := by decide +kernel
def k_rim_word_23 : List Ar := [.im (gl [i_ 5, i_ 5, i_ 5] [tz 0 0 1 0, tz 0 2 2 0]), .im (sd 0 1)]
def v_rim_word_23 : Dt := (.tup [i_ 2, i_ 2, i_ 1, i_ 1, i_ 1, i_ 2, i_ 1, i_ 2, i_ 1, i_ 1, i_ 1])
theorem c_rim_word_23 : isI (f_rim_word k_rim_word_23) v_rim_word_23 = true := by decide +kernel
def k_rim_word_24 : List Ar := [.im (gl [i_ 6] []), .im (sd 0 0)]
def v_rim_word_24 : Dt := (.tup [i_ 1, i_ 1, i_ 1, i_ 1, i_ 1, i_ 1])
theorem c_rim_word_24 : isI (f_rim_word k_rim_word_24) v_rim_word_24 = true := by decide +kernel
def k_rim_word_25 : List Ar := [.im (gl [i_ 6, i_ 6] [tz 0 0 1 0]), .im (sd 0 1)]
def v_rim_word_25 : Dt := (.tup [i_ 2, i_ 1, i_ 1, i_ 1, i_ 1, i_ 2, i_ 1, i_ 1, i_ 1, i_ 1])
theorem c_rim_word_25 : isI (f_rim_word k_rim_word_25) v_rim_word_25 = true := by decide +kernel
def k_rim_word_26 : List Ar := [.im (gl [i_ 6, i_ 6, i_ 6] [tz 0 0 1 0, tz 0 1 2 0, tz 1 5 2 1]), .im (sd 0 2)]
def v_rim_word_26 : Dt := (.tup [i_ 2, i_ 1, i_ 1, i_ 1, i_ 2, i_ 1, i_ 1, i_ 1, i_ 2, i_ 1, i_ 1, i_ 1])
theorem c_rim_word_26 : isI (f_rim_word k_rim_word_26) v_rim_word_26 = true := by decide +kernel
def k_rim_word_27 : List Ar := [.im (gl [i_ 6, i_ 6, i_ 6] [tz 0 0 1 0, tz 0 2 2 0]), .im (sd 0 1)]
def v_rim_word_27 : Dt := (.tup [i_ 2, i_ 2, i_ 1, i_ 1, i_ 1, i_ 1, i_ 2, i_ 1, i_ 1, i_ 2, i_ 1, i_ 1, i_ 1, i_ 1])
theorem c_rim_word_27 : isI (f_rim_word k_rim_word_27) v_rim_word_27 = true := by decide +kernel
def k_rim_word_28 : List Ar := [.im (gl [i_ 6, i_ 6, i_ 6] [tz 0 0 1 0, tz 0 3 2 0]), .im (sd 0 1)]
def v_rim_word_28 : Dt := (.tup [i_ 2, i_ 1, i_ 2, i_ 1, i_ 1, i_ 1, i_ 1, i_ 2, i_ 1, i_ 2, i_ 1, i_ 1, i_ 1, i_ 1])
theorem c_rim_word_28 : isI (f_rim_word k_rim_word_28) v_rim_word_28 = true := by decide +kernel
def tab_rim_word : List (List Ar × Dt) := [(k_rim_word_0, v_rim_word_0), (k_rim_word_1, v_rim_word_1), (k_rim_word_2, v_rim_word_2), (k_rim_word_3, v_rim_word_3), (k_rim_word_4, v_rim_word_4), (k_rim_word_5, v_rim_word_5), (k_rim_word_6, v_rim_word_6), (k_rim_word_7, v_rim_word_7), (k_rim_word_8, v_rim_word_8), (k_rim_word_9, v_rim_word_9), (k_rim_word_10, v_rim_word_10), (k_rim_word_11, v_rim_word_11), (k_rim_word_12, v_rim_word_12), (k_rim_word_13, v_rim_word_13), (k_rim_word_14, v_rim_word_14), (k_rim_word_15, v_rim_word_15), (k_rim_word_16, v_rim_word_16), (k_rim_word_17, v_rim_word_17), (k_rim_word_18, v_rim_word_18), (k_rim_word_19, v_rim_word_19), (k_rim_word_20, v_rim_word_20), (k_rim_word_21, v_rim_word_21), (k_rim_word_22, v_rim_word_22), (k_rim_word_23, v_rim_word_23), (k_rim_word_24, v_rim_word_24), (k_rim_word_25, v_rim_word_25), (k_rim_word_26, v_rim_word_26), (k_rim_word_27, v_rim_word_27), (k_rim_word_28, v_rim_word_28)]
def t_rim_word : List Ar → Option Dt := lkI f_rim_word tab_rim_word
theorem ok_rim_word : TI f_rim_word tab_rim_word := .cons c_rim_word_0 (.cons c_rim_word_1 (.cons c_rim_word_2 (.cons c_rim_word_3 (.cons c_rim_word_4 (.cons c_rim_word_5 (.cons c_rim_word_6 (.cons c_rim_word_7 (.cons c_rim_word_8 (.cons c_rim_word_9 (.cons c_rim_word_10 (.cons c_rim_word_11 (.cons c_rim_word_12 (.cons c_rim_word_13 (.cons c_rim_word_14 (.cons c_rim_word_15 (.cons c_rim_word_16 (.cons c_rim_word_17 (.cons c_rim_word_18 (.cons c_rim_word_19 (.cons c_rim_word_20 (.cons c_rim_word_21 (.cons c_rim_word_22 (.cons c_rim_word_23 (.cons c_rim_word_24 (.cons c_rim_word_25 (.cons c_rim_word_26 (.cons c_rim_word_27 (.cons c_rim_word_28 (.nil)))))))))))))))))))))))))))))
end
end Wr

set_option maxHeartbeats 400000
namespace Wr
open PySem PySem.Spec PyProof.Rows L2
section
variable {P : Program} {w : World} {K : PySem.W.Frag} {mg : Str → Option Value} {base : Heap}
/-! ### counts -/
abbrev s_counts : Stmt := topS 35
abbrev n_counts : List Str := ["gluing", "every", "inner", "corner"]
theorem sc_counts : FnScope n_counts ["gluing"] (defScope s_counts) := ⟨rfl, rfl, rfl, by decide +kernel, rfl, by decide +kernel, by decide +kernel⟩
def m_counts : MS := (mSeq (mSetZ 1 (o1 (aConsI (vIm 0) aNil) f_corners))
    (mSeq (mSetZ 2 (mLc (o1 (vFz 1) kItems) (mName 3) (o1 (o1 (aConsI (vIm 0) (aConsI (vIm 3) aNil)) f_is_inner) toB) (vIm 3) [3]))
    (mRetI (o1 (aCons (o1 (aConsI (o2 (vIm 0) (cI 0) kIxT) aNil) kLen) (aCons (o2 (o1 (aConsI (o2 (vIm 0) (cI 0) kIxT) aNil) kSumT) (o1 (aConsI (o2 (vIm 0) (cI 1) kIxT) aNil) kLen) kSub) (aCons (o1 (aConsC (vFz 1) aNil) kLen) (aCons (o1 (aConsC (vFz 2) aNil) kLen) aNil)))) kTup))))
def f_counts : List Ar → Option Dt := argc 1 (runI 4 m_counts)
theorem kn_counts {f : Addr} {fd : FuncData} (F : Fun K "counts" "counts" s_counts f fd) (hm : mg "counts" = some (.ref f)) (nb : Nb mg) (k_corners : Kn P w K mg base "corners" ["gluing"] 4 (spF f_corners)) (k_is_inner : Kn P w K mg base "is_inner" ["gluing", "corner"] 3 (spI f_is_inner)) : Kn P w K mg base "counts" ["gluing"] 5 (spI f_counts) :=
  Kn.of F hm (F.binds (ps := ["gluing"]) fun _ _ _ _ _ _ us hl => match us, hl with | [_], _ => rfl) (fn_I (N := n_counts) (ps := ["gluing"]) (m := m_counts) F sc_counts (by decide)
    (ss_seq (ss_setZ (i := 1) (SF.z (sf_call (E := E0) (sar_consI (se_var (i := 0)) sar_nil))))
    (ss_seq (ss_setZ (i := 2) (SF.z (sf_lc (vs := [3]) (si_list (K := K) (scn_a (SZ.c (sz_var (i := 1))))) (sg_name (i := 3)) (st_B (se_call (E := E0) (sar_consI (se_var (i := 0)) (sar_consI (se_var (i := 3)) sar_nil)))) (se_var (i := 3)) (by decide))))
    (ss_retI (se_tup (sai_cons (se_cb (rb_len (K := K)) (sar_consI (se_op (rii_ixT (K := K)) (se_var (i := 0)) (se_cI (i := 0))) sar_nil)) (sai_cons (se_op rii_sub (se_cb rb_sumT (sar_consI (se_op (rii_ixT (K := K)) (se_var (i := 0)) (se_cI (i := 0))) sar_nil)) (se_cb (rb_len (K := K)) (sar_consI (se_op (rii_ixT (K := K)) (se_var (i := 0)) (se_cI (i := 1))) sar_nil))) (sai_cons (se_cb (rb_len (K := K)) (sar_consC (SZ.c (sz_var (i := 1))) sar_nil)) (sai_cons (se_cb (rb_len (K := K)) (sar_consC (SZ.c (sz_var (i := 2))) sar_nil)) sai_nil))))))))
    fun cdv A outer s H E hr => (pss_cons (ps_set (i := 1) sc_counts.nd rfl (.inl rfl) (k_corners.call hr (by decide) (by rfl) (pa_cons (pv 0) pa_nil)))
    (pss_cons (ps_setLc (i := 2) (own := [("corner", 3)]) rfl sc_counts.nd rfl rfl (sw_true rfl rfl rfl (by decide +kernel)) (pi_list (pv 1)) (blkOk_by (N := n_counts) (sc := defScope s_counts) (by decide +kernel)) (fun _ _ _ _ _ => (pg_name (i := 3) sc_counts.nd rfl (by first | exact .inl rfl | exact .inr rfl))) (fun _ _ _ _ _ => (pts_one (pt_val (k_is_inner.call hr (by decide) (by rfl) (pa_cons (pv 0) (pa_cons (pv 3) pa_nil)))))) (fun _ _ _ _ _ => (pv 3)))
    (pss_one (ps_ret (pe_tup (pa_cons (pe_callB call_len_seq (by rfl) nb.len PySem.boot_len (pa_cons (pe_ix ix_tup (pv 0) pe_int (fun _ _ => rfl)) pa_nil)) (pa_cons (pe_op op_sub (pe_callB (cr_sumT rfl) (by rfl) nb.sum PyProof.Rows.boot_sum (pa_cons (pe_ix ix_tup (pv 0) pe_int (fun _ _ => rfl)) pa_nil)) (pe_callB call_len_seq (by rfl) nb.len PySem.boot_len (pa_cons (pe_ix ix_tup (pv 0) pe_int (fun _ _ => rfl)) pa_nil))) (pa_cons (pe_callB call_len_seq (by rfl) nb.len PySem.boot_len (pa_cons (pv 1) pa_nil)) (pa_cons (pe_callB call_len_seq (by rfl) nb.len PySem.boot_len (pa_cons (pv 2) pa_nil)) pa_nil))))))))))
/-! ### worth -/
abbrev s_worth : Stmt := topS 36
abbrev n_worth : List Str := ["gluing", "tiles", "sides", "some", "inner"]
theorem sc_worth : FnScope n_worth ["gluing"] (defScope s_worth) := ⟨rfl, rfl, rfl, by decide +kernel, rfl, by decide +kernel, by decide +kernel⟩
def m_worth : MS := (mSeq (mTgt (o1 (aConsI (vIm 0) aNil) f_counts) (mTup (mCons (mName 1) (mCons (mName 2) (mCons (mName 3) (mCons (mName 4) mNil))))))
    (mRetI (o2 (o2 (vIm 3) (vIm 2) kSub) (vIm 1) kAdd)))
def f_worth : List Ar → Option Dt := argc 1 (runI 5 m_worth)
theorem kn_worth {f : Addr} {fd : FuncData} (F : Fun K "worth" "worth" s_worth f fd) (hm : mg "worth" = some (.ref f)) (nb : Nb mg) (k_counts : Kn P w K mg base "counts" ["gluing"] 5 (spI f_counts)) : Kn P w K mg base "worth" ["gluing"] 6 (spI f_worth) :=
  Kn.of F hm (F.binds (ps := ["gluing"]) fun _ _ _ _ _ _ us hl => match us, hl with | [_], _ => rfl) (fn_I (N := n_worth) (ps := ["gluing"]) (m := m_worth) F sc_worth (by decide)
    (ss_seq (ss_tgt (se_call (E := E0) (sar_consI (se_var (i := 0)) sar_nil)) (sg_tup (K := K) (sgs_cons (sg_name (i := 1)) (sgs_cons (sg_name (i := 2)) (sgs_cons (sg_name (i := 3)) (sgs_cons (sg_name (i := 4)) sgs_nil))))))
    (ss_retI (se_op rii_add (se_op rii_sub (se_var (i := 3)) (se_var (i := 2))) (se_var (i := 1)))))
    fun cdv A outer s H E hr => (pss_cons (ps_asg (k_counts.call hr (by decide) (by rfl) (pa_cons (pv 0) pa_nil)) (pg_tup rfl (pgs_cons (pg_name (i := 1) sc_worth.nd rfl (.inl rfl)) (pgs_cons (pg_name (i := 2) sc_worth.nd rfl (.inl rfl)) (pgs_cons (pg_name (i := 3) sc_worth.nd rfl (.inl rfl)) (pgs_cons (pg_name (i := 4) sc_worth.nd rfl (.inl rfl)) pgs_nil))))))
    (pss_one (ps_ret (pe_op op_add (pe_op op_sub (pv 3) (pv 2)) (pv 1))))))
/-! ### twice -/
abbrev s_twice : Stmt := topS 37
abbrev n_twice : List Str := ["gluing", "found", "corner", "tiles", "share", "t"]
theorem sc_twice : FnScope n_twice ["gluing"] (defScope s_twice) := ⟨rfl, rfl, rfl, by decide +kernel, rfl, by decide +kernel, by decide +kernel⟩
def m_twice : MS := (mSeq (mSetO 1 (fun _ => some (.dI [])))
    (mSeq (mFor (o1 (o1 (aConsI (vIm 0) aNil) f_corners) kItems) (mName 2)
    (mSeq (mSetZ 3 (mLc (o1 (vIm 2) kParts) (mName 4) tY (o2 (vIm 4) (cI 0) kIxT) [4]))
    (mUpd 1 (mDc (.dI []) (o1 (vFz 3) kItems) (mName 5) (o1 (o2 (o2 (oL (vFz 3)) (aCons (vIm 5) aNil) kCount) (cI 1) kGt) toB) (vIm 5) (cB true) [5]))))
    (mRetF (o1 (aConsC (vCt 1) aNil) kSortI))))
def f_twice : List Ar → Option Ct := argc 1 (runF 6 m_twice)
theorem kn_twice {f : Addr} {fd : FuncData} (F : Fun K "twice" "twice" s_twice f fd) (hm : mg "twice" = some (.ref f)) (nb : Nb mg) (k_corners : Kn P w K mg base "corners" ["gluing"] 4 (spF f_corners)) : Kn P w K mg base "twice" ["gluing"] 5 (spF f_twice) :=
  Kn.of F hm (F.binds (ps := ["gluing"]) fun _ _ _ _ _ _ us hl => match us, hl with | [_], _ => rfl) (fn_F (N := n_twice) (ps := ["gluing"]) (m := m_twice) F sc_twice (by decide)
    (ss_seq (ss_setO (i := 1) sf_newI)
    (ss_seq (ss_for (si_list (K := K) (scn_o (SF.z (sf_call (E := E0) (sar_consI (se_var (i := 0)) sar_nil))))) (sg_name (i := 2))
    (ss_seq (ss_setZ (i := 3) (SF.z (sf_lc (vs := [4]) (si_tup (K := K) (se_var (i := 2))) (sg_name (i := 4)) st_yes (se_op (rii_ixT (K := K)) (se_var (i := 4)) (se_cI (i := 0))) (by decide))))
    (ss_upd (K := K) (i := 1) (sf_dc (vs := [5]) nilI (si_list (K := K) (scn_a (SZ.c (sz_var (i := 3))))) (sg_name (i := 5)) (st_test (se_op rii_gt (se_bm (rm_count (K := K)) (sc_oL (SZ.c (sz_var (i := 3)))) (sai_cons (se_var (i := 5)) sai_nil) oL_lst) (se_cI (i := 1)))) (se_var (i := 5)) (se_cB (b := true)) (by decide)))))
    (ss_retF (sf_cb rb_sortI (sar_consC (sc_var (i := 1)) sar_nil)))))
    fun cdv A outer s H E hr => (pss_cons (ps_set (i := 1) sc_twice.nd rfl (.inl rfl) pe_dnewK)
    (pss_cons (ps_for PassesOwn.never rfl (pi_list (k_corners.call hr (by decide) (by rfl) (pa_cons (pv 0) pa_nil))) (pg_name (i := 2) sc_twice.nd rfl (.inl rfl))
    (pss_cons (ps_set (i := 3) sc_twice.nd rfl (.inr rfl) (pe_lc (own := [("share", 4)]) rfl sc_twice.nd (pi_tup (pv 2)) (blkOk_by (N := n_twice) (sc := defScope s_twice) (by decide +kernel)) (fun _ _ _ _ _ => (pg_name (i := 4) sc_twice.nd rfl (by first | exact .inl rfl | exact .inr rfl))) (fun _ _ _ _ _ => pts_nil) (fun _ _ _ _ _ => (pe_ix ix_tup (pv 4) pe_int (fun _ _ => rfl)))))
    (pss_one (ps_expr (pe_bm PySem.F.plainAttrs_dict PySem.F.slot_dict_update PySem.F.type_dict_update (mt_upd (hu_of hr)) (pv 1) (pa_cons (pe_dcP (own := [("t", 5)]) (fun h H b => dk_empty h b) (hu_of hr) rfl sc_twice.nd (pi_list (pv 3)) (blkOk_by (N := n_twice) (sc := defScope s_twice) (by decide +kernel)) (fun _ _ _ _ _ => (pg_name (i := 5) sc_twice.nd rfl (by first | exact .inl rfl | exact .inr rfl))) (fun _ _ _ _ _ => (pts_one (pt_cmpR op_gt (pe_bm PySem.F.plainAttrs_list PySem.F.slot_list_count PySem.F.type_list_count mt_lcount (pv 3) (pa_cons (pv 5) pa_nil)) pe_int (nomark _)))) (fun _ _ _ _ _ => (pv 5)) (fun _ _ _ _ _ => pe_bl)) pa_nil))))))
    (pss_one (ps_ret (pe_callB (cr_sortI rfl) (by rfl) nb.sorted PyProof.Rows.boot_sorted (pa_cons (pv 1) pa_nil)))))))
/-! ### mates_in -/
abbrev s_mates_in : Stmt := topS 41
abbrev n_mates_in : List Str := ["gluing", "found", "one", "other"]
theorem sc_mates_in : FnScope n_mates_in ["gluing"] (defScope s_mates_in) := ⟨rfl, rfl, rfl, by decide +kernel, rfl, by decide +kernel, by decide +kernel⟩
def m_mates_in : MS := (mSeq (mSetO 1 (fun _ => some (.dP [])))
    (mSeq (mFor (o1 (o2 (vIm 0) (cI 1) kIxT) kParts) (mTup (mCons (mName 2) (mCons (mName 3) mNil)))
    (mSeq (mPut 1 (vIm 2) (vIm 3))
    (mPut 1 (vIm 3) (vIm 2))))
    (mRetO 1)))
def f_mates_in : List Ar → Option Ct := argc 1 (runF 4 m_mates_in)
theorem kn_mates_in {f : Addr} {fd : FuncData} (F : Fun K "mates_in" "mates_in" s_mates_in f fd) (hm : mg "mates_in" = some (.ref f)) (nb : Nb mg)  : Kn P w K mg base "mates_in" ["gluing"] 1 (spF f_mates_in) :=
  Kn.of F hm (F.binds (ps := ["gluing"]) fun _ _ _ _ _ _ us hl => match us, hl with | [_], _ => rfl) (fn_F (N := n_mates_in) (ps := ["gluing"]) (m := m_mates_in) F sc_mates_in (by decide)
    (ss_seq (ss_setO (i := 1) sf_newP)
    (ss_seq (ss_for (si_tup (K := K) (se_op (rii_ixT (K := K)) (se_var (i := 0)) (se_cI (i := 1)))) (sg_tup (K := K) (sgs_cons (sg_name (i := 2)) (sgs_cons (sg_name (i := 3)) sgs_nil)))
    (ss_seq (ss_dput (i := 1) (se_var (i := 2)) (se_var (i := 3)))
    (ss_dput (i := 1) (se_var (i := 3)) (se_var (i := 2)))))
    (ss_retO (i := 1))))
    fun cdv A outer s H E hr => (pss_cons (ps_set (i := 1) sc_mates_in.nd rfl (.inl rfl) pe_dnewT)
    (pss_cons (ps_for PassesOwn.never rfl (pi_tup (pe_ix ix_tup (pv 0) pe_int (fun _ _ => rfl))) (pg_tup rfl (pgs_cons (pg_name (i := 2) sc_mates_in.nd rfl (.inl rfl)) (pgs_cons (pg_name (i := 3) sc_mates_in.nd rfl (.inl rfl)) pgs_nil)))
    (pss_cons (ps_dput (hu_of hr) (pv 1) (pv 2) (pv 3) (by rfl))
    (pss_one (ps_dput (hu_of hr) (pv 1) (pv 3) (pv 2) (by rfl)))))
    (pss_one (ps_ret (pv 1))))))
/-! ### numbering -/
abbrev s_numbering : Stmt := topS 42
abbrev n_numbering : List Str := ["gluing", "side", "mates", "order", "firsts", "seen", "place", "t", "s", "i", "mate", "many"]
theorem sc_numbering : FnScope n_numbering ["gluing", "side"] (defScope s_numbering) := ⟨rfl, rfl, rfl, by decide +kernel, rfl, by decide +kernel, by decide +kernel⟩
def m_numbering : MS := (mSeq (mSetZ 2 (o1 (aConsI (vIm 0) aNil) f_mates_in))
    (mSeq (mPar [3, 4] (sO (o2 (o2 (vIm 1) (cI 0) kIxT) (cI 0) kDI) (sO (o2 (o2 (vIm 1) (cI 0) kIxT) (o2 (vIm 1) (cI 1) kIxT) kDI) aNil)))
    (mSeq (mSetO 5 (o1 (aCons (o2 (vIm 1) (cI 0) kIxT) aNil) kLst))
    (mSeq (mSetI 6 (cI 0))
    (mSeq (mWhile (o1 (o2 (vIm 6) (o1 (aConsC (vCt 5) aNil) kLen) kLt) toB)
    (mSeq (mSetI 7 (o2 (vCt 5) (vIm 6) kIxL))
    (mSeq (mAug 6 kAdd (cI 1))
    (mSeq (mSetI 8 (o2 (o2 (vIm 0) (cI 0) kIxT) (vIm 7) kIxT))
    (mFor (o1 (aCons (vIm 8) aNil) kRng1) (mName 9)
    (mSeq (mSetI 10 (o2 (vFz 2) (o1 (aCons (vIm 7) (aCons (o2 (o2 (o2 (vCt 4) (vIm 7) kGet) (vIm 9) kAdd) (vIm 8) kMod) aNil)) kTup) kGet1))
    (mIf (bAnd (o1 (o1 (vIm 10) fun d => some (.bl (!isNon d))) toB) (o1 (o2 (vCt 3) (o2 (vIm 10) (cI 0) kIxT) (kHas not)) toB)) (mSeq (mPut2 3 4 (o2 (vIm 10) (cI 0) kIxT) (o1 (aConsC (vCt 5) aNil) kLen) (o2 (vIm 10) (cI 0) kIxT) (o2 (vIm 10) (cI 1) kIxT))
    (mApp 5 (o2 (vIm 10) (cI 0) kIxT))) mNext)))))) 500)
    (mSeq (mSetI 11 (o1 (aConsI (o2 (vIm 0) (cI 0) kIxT) aNil) kLen))
    (mRetI (o1 (aCons (o1 (aConsC (mLc (o1 (aCons (vIm 11) aNil) kRng1) (mName 7) tY (o2 (vCt 3) (vIm 7) kGet) [7]) aNil) kTupOf) (aCons (o1 (aConsC (mLc (o1 (aCons (vIm 11) aNil) kRng1) (mName 7) tY (o2 (vCt 4) (vIm 7) kGet) [7]) aNil) kTupOf) aNil)) kTup))))))))
def f_numbering : List Ar → Option Dt := argc 2 (runI 12 m_numbering)
theorem kn_numbering {f : Addr} {fd : FuncData} (F : Fun K "numbering" "numbering" s_numbering f fd) (hm : mg "numbering" = some (.ref f)) (nb : Nb mg) (k_mates_in : Kn P w K mg base "mates_in" ["gluing"] 1 (spF f_mates_in)) : Kn P w K mg base "numbering" ["gluing", "side"] 2 (spI f_numbering) :=
  Kn.of F hm (F.binds (ps := ["gluing", "side"]) fun _ _ _ _ _ _ us hl => match us, hl with | [_, _], _ => rfl) (fn_I (N := n_numbering) (ps := ["gluing", "side"]) (m := m_numbering) F sc_numbering (by decide)
    (ss_seq (ss_setZ (i := 2) (SF.z (sf_call (E := E0) (sar_consI (se_var (i := 0)) sar_nil))))
    (ss_seq (ss_parT (K := K) (is := [3, 4]) (n := 2) rfl rfl (sm_O (sf_disp1 (se_op (rii_ixT (K := K)) (se_var (i := 1)) (se_cI (i := 0))) (se_cI (i := 0))) (sm_O (sf_disp1 (se_op (rii_ixT (K := K)) (se_var (i := 1)) (se_cI (i := 0))) (se_op (rii_ixT (K := K)) (se_var (i := 1)) (se_cI (i := 1)))) sm_nil)))
    (ss_seq (ss_setO (i := 5) (sf_lst (sai_cons (se_op (rii_ixT (K := K)) (se_var (i := 1)) (se_cI (i := 0))) sai_nil)))
    (ss_seq (ss_setI (i := 6) (se_cI (i := 0)))
    (ss_seq (ss_while 500 (st_test (se_op rii_lt (se_var (i := 6)) (se_cb (rb_len (K := K)) (sar_consC (sc_var (i := 5)) sar_nil))))
    (ss_seq (ss_setI (i := 7) (se_opCI (rci_ixL (K := K)) (sc_var (i := 5)) (se_var (i := 6))))
    (ss_seq (ss_augAdd (i := 6) (se_cI (i := 1)))
    (ss_seq (ss_setI (i := 8) (se_op (rii_ixT (K := K)) (se_op (rii_ixT (K := K)) (se_var (i := 0)) (se_cI (i := 0))) (se_var (i := 7))))
    (ss_for (si_rng1 (sai_cons (se_var (i := 8)) sai_nil)) (sg_name (i := 9))
    (ss_seq (ss_setI (i := 10) (se_dget1 (SZ.c (sz_var (i := 2))) (se_tup (sai_cons (se_var (i := 7)) (sai_cons (se_op rii_mod (se_op rii_add (se_dget (sc_var (i := 4)) (se_var (i := 7))) (se_var (i := 9))) (se_var (i := 8))) sai_nil)))))
    (ss_if (st_and (st_test (se_notN (se_var (i := 10)))) (st_B (se_dnotin (se_op (rii_ixT (K := K)) (se_var (i := 10)) (se_cI (i := 0))) (sc_var (i := 3))))) (ss_seq (ss_dput2 (K := K) (i := 3) (j := 4) (se_op (rii_ixT (K := K)) (se_var (i := 10)) (se_cI (i := 0))) (se_cb (rb_len (K := K)) (sar_consC (sc_var (i := 5)) sar_nil)) (se_op (rii_ixT (K := K)) (se_var (i := 10)) (se_cI (i := 0))) (se_op (rii_ixT (K := K)) (se_var (i := 10)) (se_cI (i := 1))))
    (ss_app (K := K) (i := 5) (se_op (rii_ixT (K := K)) (se_var (i := 10)) (se_cI (i := 0))))) ss_next)))))))
    (ss_seq (ss_setI (i := 11) (se_cb (rb_len (K := K)) (sar_consI (se_op (rii_ixT (K := K)) (se_var (i := 0)) (se_cI (i := 0))) sar_nil)))
    (ss_retI (se_tup (sai_cons (se_cb (rb_tupOf (K := K)) (sar_consC (SF.c (sf_lc (vs := [7]) (si_rng1 (sai_cons (se_var (i := 11)) sai_nil)) (sg_name (i := 7)) st_yes (se_dget (sc_var (i := 3)) (se_var (i := 7))) (by decide))) sar_nil)) (sai_cons (se_cb (rb_tupOf (K := K)) (sar_consC (SF.c (sf_lc (vs := [7]) (si_rng1 (sai_cons (se_var (i := 11)) sai_nil)) (sg_name (i := 7)) st_yes (se_dget (sc_var (i := 4)) (se_var (i := 7))) (by decide))) sar_nil)) sai_nil))))))))))
    fun cdv A outer s H E hr => (pss_cons (ps_set (i := 2) sc_numbering.nd rfl (.inl rfl) (k_mates_in.call hr (by decide) (by rfl) (pa_cons (pv 0) pa_nil)))
    (pss_cons (ps_asg (pe_tup (pa_cons (pe_disp (pps_cons (pe_ix ix_tup (pv 1) pe_int (fun _ _ => rfl)) pe_int pps_nil) rfl rfl (by simp) (by decide)) (pa_cons (pe_disp (pps_cons (pe_ix ix_tup (pv 1) pe_int (fun _ _ => rfl)) (pe_ix ix_tup (pv 1) pe_int (fun _ _ => rfl)) pps_nil) rfl rfl (by simp) (by decide)) pa_nil))) (pg_tup rfl (pgs_cons (pg_name (i := 3) sc_numbering.nd rfl (.inr rfl)) (pgs_cons (pg_name (i := 4) sc_numbering.nd rfl (.inr rfl)) pgs_nil))))
    (pss_cons (ps_set (i := 5) sc_numbering.nd rfl (.inl rfl) (pe_lst (pa_cons (pe_ix ix_tup (pv 1) pe_int (fun _ _ => rfl)) pa_nil)))
    (pss_cons (ps_set (i := 6) sc_numbering.nd rfl (.inl rfl) pe_int)
    (pss_cons (ps_while PassesOwn.never (pt_cmpR op_lt (pv 6) (pe_callB call_len_seq (by rfl) nb.len PySem.boot_len (pa_cons (pv 5) pa_nil)) (nomark _))
    (pss_cons (ps_set (i := 7) sc_numbering.nd rfl (.inl rfl) (pe_ix ix_list (pv 5) (pv 6) (fun _ _ => rfl)))
    (pss_cons (ps_aug (i := 6) sc_numbering.nd rfl (.inl rfl) pe_int ip_add)
    (pss_cons (ps_set (i := 8) sc_numbering.nd rfl (.inl rfl) (pe_ix ix_tup (pe_ix ix_tup (pv 0) pe_int (fun _ _ => rfl)) (pv 7) (fun _ _ => rfl)))
    (pss_one (ps_for PassesOwn.never rfl (pi_range1 (by rfl) nb.range (pa_cons (pv 8) pa_nil)) (pg_name (i := 9) sc_numbering.nd rfl (.inl rfl))
    (pss_cons (ps_set (i := 10) sc_numbering.nd rfl (.inl rfl) (pe_dget1 (hu_of hr) (pv 2) (pe_tup (pa_cons (pv 7) (pa_cons (pe_op op_mod (pe_op op_add (pe_dget (hu_of hr) (pv 4) (pv 7) (fun _ _ => rfl)) (pv 9)) (pv 8)) pa_nil))) ⟨rfl, rfl, rfl, rfl⟩))
    (pss_one (ps_if (PW.pt (pw_and (pt_cmpR op_notN (pv 10) pe_non (nomark _)) (pw_and1 (pt_cmp (pc_dnotin (hu_of hr) (pe_ix ix_tup (pv 10) pe_int (fun _ _ => rfl)) (pv 3)))))) (pss_cons (ps_asg (pe_tup (pa_cons (pe_callB call_len_seq (by rfl) nb.len PySem.boot_len (pa_cons (pv 5) pa_nil)) (pa_cons (pe_ix ix_tup (pv 10) pe_int (fun _ _ => rfl)) pa_nil))) (pg_tup rfl (pgs_cons (pg_sub (pv 3) (pe_ix ix_tup (pv 10) pe_int (fun _ _ => rfl)) (set_dict (hu_of hr))) (pgs_cons (pg_sub (pv 4) (pe_ix ix_tup (pv 10) pe_int (fun _ _ => rfl)) (set_dict (hu_of hr))) pgs_nil))))
    (pss_one (ps_expr (pe_bm PySem.F.plainAttrs_list PySem.F.slot_list_append PySem.F.type_list_append mt_append (pv 5) (pa_cons (pe_ix ix_tup (pv 10) pe_int (fun _ _ => rfl)) pa_nil))))) pss_nil)))))))))
    (pss_cons (ps_set (i := 11) sc_numbering.nd rfl (.inl rfl) (pe_callB call_len_seq (by rfl) nb.len PySem.boot_len (pa_cons (pe_ix ix_tup (pv 0) pe_int (fun _ _ => rfl)) pa_nil)))
    (pss_one (ps_ret (pe_tup (pa_cons (pe_callTy call_tuple_of (by rfl) nb.tuple PyProof.Rows.boot_tuple (pa_cons (pe_lc (own := [("t", 7)]) rfl sc_numbering.nd (pi_range1 (by rfl) nb.range (pa_cons (pv 11) pa_nil)) (blkOk_by (N := n_numbering) (sc := defScope s_numbering) (by decide +kernel)) (fun _ _ _ _ _ => (pg_name (i := 7) sc_numbering.nd rfl (by first | exact .inl rfl | exact .inr rfl))) (fun _ _ _ _ _ => pts_nil) (fun _ _ _ _ _ => (pe_dget (hu_of hr) (pv 3) (pv 7) (fun _ _ => rfl)))) pa_nil)) (pa_cons (pe_callTy call_tuple_of (by rfl) nb.tuple PyProof.Rows.boot_tuple (pa_cons (pe_lc (own := [("t", 7)]) rfl sc_numbering.nd (pi_range1 (by rfl) nb.range (pa_cons (pv 11) pa_nil)) (blkOk_by (N := n_numbering) (sc := defScope s_numbering) (by decide +kernel)) (fun _ _ _ _ _ => (pg_name (i := 7) sc_numbering.nd rfl (by first | exact .inl rfl | exact .inr rfl))) (fun _ _ _ _ _ => pts_nil) (fun _ _ _ _ _ => (pe_dget (hu_of hr) (pv 4) (pv 7) (fun _ _ => rfl)))) pa_nil)) pa_nil))))))))))))
/-! ### code -/
abbrev s_code : Stmt := topS 43
abbrev n_code : List Str := ["gluing", "side", "order", "firsts"]
theorem sc_code : FnScope n_code ["gluing", "side"] (defScope s_code) := ⟨rfl, rfl, rfl, by decide +kernel, rfl, by decide +kernel, by decide +kernel⟩
def m_code : MS := (mSeq (mTgt (o1 (aConsI (vIm 0) (aConsI (vIm 1) aNil)) f_numbering) (mTup (mCons (mName 2) (mCons (mName 3) mNil))))
    (mRetI (o1 (aConsI (vIm 0) (aConsI (vIm 2) (aConsI (vIm 3) aNil))) f_named)))
def f_code : List Ar → Option Dt := argc 2 (runI 4 m_code)
theorem kn_code {f : Addr} {fd : FuncData} (F : Fun K "code" "code" s_code f fd) (hm : mg "code" = some (.ref f)) (nb : Nb mg) (k_numbering : Kn P w K mg base "numbering" ["gluing", "side"] 2 (spI f_numbering)) (k_named : Kn P w K mg base "named" ["gluing", "order", "firsts"] 2 (spI f_named)) : Kn P w K mg base "code" ["gluing", "side"] 3 (spI f_code) :=
  Kn.of F hm (F.binds (ps := ["gluing", "side"]) fun _ _ _ _ _ _ us hl => match us, hl with | [_, _], _ => rfl) (fn_I (N := n_code) (ps := ["gluing", "side"]) (m := m_code) F sc_code (by decide)
    (ss_seq (ss_tgt (se_call (E := E0) (sar_consI (se_var (i := 0)) (sar_consI (se_var (i := 1)) sar_nil))) (sg_tup (K := K) (sgs_cons (sg_name (i := 2)) (sgs_cons (sg_name (i := 3)) sgs_nil))))
    (ss_retI (se_call (E := E0) (sar_consI (se_var (i := 0)) (sar_consI (se_var (i := 2)) (sar_consI (se_var (i := 3)) sar_nil))))))
    fun cdv A outer s H E hr => (pss_cons (ps_asg (k_numbering.call hr (by decide) (by rfl) (pa_cons (pv 0) (pa_cons (pv 1) pa_nil))) (pg_tup rfl (pgs_cons (pg_name (i := 2) sc_code.nd rfl (.inl rfl)) (pgs_cons (pg_name (i := 3) sc_code.nd rfl (.inl rfl)) pgs_nil))))
    (pss_one (ps_ret (k_named.call hr (by decide) (by rfl) (pa_cons (pv 0) (pa_cons (pv 2) (pa_cons (pv 3) pa_nil))))))))
/-! ### form -/
abbrev s_form : Stmt := topS 44
abbrev n_form : List Str := ["gluing", "side"]
theorem sc_form : FnScope n_form ["gluing"] (defScope s_form) := ⟨rfl, rfl, rfl, by decide +kernel, rfl, by decide +kernel, by decide +kernel⟩
def m_form : MS := (mRetI (o1 (aConsC (mLc (o1 (o1 (aConsI (vIm 0) aNil) f_sides_of) kItems) (mName 1) tY (o1 (aConsI (vIm 0) (aConsI (vIm 1) aNil)) f_code) [1]) aNil) (kPickL (.tup [.seq .int, .seq (.tup [.tup [.int, .int], .tup [.int, .int]])]) dMin)))
def f_form : List Ar → Option Dt := argc 1 (runI 2 m_form)
theorem kn_form {f : Addr} {fd : FuncData} (F : Fun K "form" "form" s_form f fd) (hm : mg "form" = some (.ref f)) (nb : Nb mg) (k_sides_of : Kn P w K mg base "sides_of" ["gluing"] 1 (spF f_sides_of)) (k_code : Kn P w K mg base "code" ["gluing", "side"] 3 (spI f_code)) : Kn P w K mg base "form" ["gluing"] 4 (spI f_form) :=
  Kn.of F hm (F.binds (ps := ["gluing"]) fun _ _ _ _ _ _ us hl => match us, hl with | [_], _ => rfl) (fn_I (N := n_form) (ps := ["gluing"]) (m := m_form) F sc_form (by decide)
    (ss_retI (se_cb (rb_pickL (t := (.tup [.seq .int, .seq (.tup [.tup [.int, .int], .tup [.int, .int]])])) (m := dMin)) (sar_consC (SF.c (sf_lc (vs := [1]) (si_list (K := K) (scn_a (SF.c (sf_call (E := E0) (sar_consI (se_var (i := 0)) sar_nil))))) (sg_name (i := 1)) st_yes (se_call (E := E0) (sar_consI (se_var (i := 0)) (sar_consI (se_var (i := 1)) sar_nil))) (by decide))) sar_nil)))
    fun cdv A outer s H E hr => (pss_one (ps_ret (pe_callB (cr_minL (t := (.tup [.seq .int, .seq (.tup [.tup [.int, .int], .tup [.int, .int]])])) rfl hr.units) (by rfl) nb.min PyProof.Rows.boot_min (pa_cons (pe_lc (own := [("side", 1)]) rfl sc_form.nd (pi_list (k_sides_of.call hr (by decide) (by rfl) (pa_cons (pv 0) pa_nil))) (blkOk_by (N := n_form) (sc := defScope s_form) (by decide +kernel)) (fun _ _ _ _ _ => (pg_name (i := 1) sc_form.nd rfl (by first | exact .inl rfl | exact .inr rfl))) (fun _ _ _ _ _ => pts_nil) (fun _ _ _ _ _ => (k_code.call hr (by decide) (by rfl) (pa_cons (pv 0) (pa_cons (pv 1) pa_nil))))) pa_nil)))))
def k_form_0 : List Ar := [.im (gl [i_ 3] [])]
def v_form_0 : Dt := (gl [i_ 3] [])
theorem c_form_0 : isI (f_form k_form_0) v_form_0 = true := by decide +kernel
def k_form_1 : List Ar := [.im (gl [i_ 3, i_ 3] [tz 0 0 1 0])]
def v_form_1 : Dt := (gl [i_ 3, i_ 3] [tz 0 0 1 0])
theorem c_form_1 : isI (f_form k_form_1) v_form_1 = true := by decide +kernel
def k_form_2 : List Ar := [.im (gl [i_ 3, i_ 3] [tz 0 1 1 0])]
def v_form_2 : Dt := (gl [i_ 3, i_ 3] [tz 0 0 1 0])
theorem c_form_2 : isI (f_form k_form_2) v_form_2 = true := by decide +kernel
def k_form_3 : List Ar := [.im (gl [i_ 3, i_ 3] [tz 0 2 1 0])]
def v_form_3 : Dt := (gl [i_ 3, i_ 3] [tz 0 0 1 0])
theorem c_form_3 : isI (f_form k_form_3) v_form_3 = true := by decide +kernel
def k_form_4 : List Ar := [.im (gl [i_ 3, i_ 3, i_ 3] [tz 0 0 1 0, tz 0 1 2 0])]
def v_form_4 : Dt := (gl [i_ 3, i_ 3, i_ 3] [tz 0 0 1 0, tz 0 1 2 0])
theorem c_form_4 : isI (f_form k_form_4) v_form_4 = true := by decide +kernel
def k_form_5 : List Ar := [.im (gl [i_ 3, i_ 3, i_ 3] [tz 0 0 1 0, tz 0 2 2 0])]
def v_form_5 : Dt := (gl [i_ 3, i_ 3, i_ 3] [tz 0 0 1 0, tz 0 1 2 0])
theorem c_form_5 : isI (f_form k_form_5) v_form_5 = true := by decide +kernel
def k_form_6 : List Ar := [.im (gl [i_ 3, i_ 3, i_ 3] [tz 0 0 1 0, tz 1 1 2 0])]
def v_form_6 : Dt := (gl [i_ 3, i_ 3, i_ 3] [tz 0 0 1 0, tz 0 1 2 0])
theorem c_form_6 : isI (f_form k_form_6) v_form_6 = true := by decide +kernel
def k_form_7 : List Ar := [.im (gl [i_ 3, i_ 3, i_ 3] [tz 0 0 1 0, tz 1 2 2 0])]
def v_form_7 : Dt := (gl [i_ 3, i_ 3, i_ 3] [tz 0 0 1 0, tz 0 1 2 0])
theorem c_form_7 : isI (f_form k_form_7) v_form_7 = true := by decide +kernel
def k_form_8 : List Ar := [.im (gl [i_ 3, i_ 3, i_ 3] [tz 0 1 1 0, tz 0 2 2 0])]
def v_form_8 : Dt := (gl [i_ 3, i_ 3, i_ 3] [tz 0 0 1 0, tz 0 1 2 0])
theorem c_form_8 : isI (f_form k_form_8) v_form_8 = true := by decide +kernel
def k_form_9 : List Ar := [.im (gl [i_ 3, i_ 3, i_ 3] [tz 0 1 1 0, tz 1 2 2 0])]
def v_form_9 : Dt := (gl [i_ 3, i_ 3, i_ 3] [tz 0 0 1 0, tz 0 1 2 0])
theorem c_form_9 : isI (f_form k_form_9) v_form_9 = true := by decide +kernel
def k_form_10 : List Ar := [.im (gl [i_ 3, i_ 3, i_ 3, i_ 3] [tz 0 0 1 0, tz 0 1 2 0, tz 0 2 3 0])]
def v_form_10 : Dt := (gl [i_ 3, i_ 3, i_ 3, i_ 3] [tz 0 0 1 0, tz 0 1 2 0, tz 0 2 3 0])
theorem c_form_10 : isI (f_form k_form_10) v_form_10 = true := by decide +kernel
def k_form_11 : List Ar := [.im (gl [i_ 3, i_ 3, i_ 3, i_ 3] [tz 0 0 1 0, tz 0 1 2 0, tz 1 1 3 0])]
def v_form_11 : Dt := (gl [i_ 3, i_ 3, i_ 3, i_ 3] [tz 0 0 1 0, tz 0 1 2 0, tz 1 1 3 0])
theorem c_form_11 : isI (f_form k_form_11) v_form_11 = true := by decide +kernel
def k_form_12 : List Ar := [.im (gl [i_ 3, i_ 3, i_ 3, i_ 3] [tz 0 0 1 0, tz 0 1 2 0, tz 1 2 3 0])]
def v_form_12 : Dt := (gl [i_ 3, i_ 3, i_ 3, i_ 3] [tz 0 0 1 0, tz 0 1 2 0, tz 1 2 3 0])
theorem c_form_12 : isI (f_form k_form_12) v_form_12 = true := by decide +kernel
def k_form_13 : List Ar := [.im (gl [i_ 3, i_ 3, i_ 3, i_ 3] [tz 0 0 1 0, tz 0 1 2 0, tz 2 1 3 0])]
def v_form_13 : Dt := (gl [i_ 3, i_ 3, i_ 3, i_ 3] [tz 0 0 1 0, tz 0 1 2 0, tz 1 2 3 0])
theorem c_form_13 : isI (f_form k_form_13) v_form_13 = true := by decide +kernel
def k_form_14 : List Ar := [.im (gl [i_ 3, i_ 3, i_ 3, i_ 3] [tz 0 0 1 0, tz 0 1 2 0, tz 2 2 3 0])]
def v_form_14 : Dt := (gl [i_ 3, i_ 3, i_ 3, i_ 3] [tz 0 0 1 0, tz 0 1 2 0, tz 2 2 3 0])
theorem c_form_14 : isI (f_form k_form_14) v_form_14 = true := by decide +kernel
def k_form_15 : List Ar := [.im (gl [i_ 4] [])]
def v_form_15 : Dt := (gl [i_ 4] [])
theorem c_form_15 : isI (f_form k_form_15) v_form_15 = true := by decide +kernel
def k_form_16 : List Ar := [.im (gl [i_ 4, i_ 4] [tz 0 0 1 0])]
def v_form_16 : Dt := (gl [i_ 4, i_ 4] [tz 0 0 1 0])
theorem c_form_16 : isI (f_form k_form_16) v_form_16 = true := by decide +kernel
def k_form_17 : List Ar := [.im (gl [i_ 4, i_ 4] [tz 0 1 1 0])]
def v_form_17 : Dt := (gl [i_ 4, i_ 4] [tz 0 0 1 0])
theorem c_form_17 : isI (f_form k_form_17) v_form_17 = true := by decide +kernel
def k_form_18 : List Ar := [.im (gl [i_ 4, i_ 4] [tz 0 2 1 0])]
def v_form_18 : Dt := (gl [i_ 4, i_ 4] [tz 0 0 1 0])
theorem c_form_18 : isI (f_form k_form_18) v_form_18 = true := by decide +kernel
def k_form_19 : List Ar := [.im (gl [i_ 4, i_ 4] [tz 0 3 1 0])]
def v_form_19 : Dt := (gl [i_ 4, i_ 4] [tz 0 0 1 0])
theorem c_form_19 : isI (f_form k_form_19) v_form_19 = true := by decide +kernel
def k_form_20 : List Ar := [.im (gl [i_ 4, i_ 4, i_ 4] [tz 0 0 1 0, tz 0 1 2 0])]
def v_form_20 : Dt := (gl [i_ 4, i_ 4, i_ 4] [tz 0 0 1 0, tz 0 1 2 0])
theorem c_form_20 : isI (f_form k_form_20) v_form_20 = true := by decide +kernel
def k_form_21 : List Ar := [.im (gl [i_ 4, i_ 4, i_ 4] [tz 0 0 1 0, tz 0 2 2 0])]
def v_form_21 : Dt := (gl [i_ 4, i_ 4, i_ 4] [tz 0 0 1 0, tz 0 2 2 0])
theorem c_form_21 : isI (f_form k_form_21) v_form_21 = true := by decide +kernel
def k_form_22 : List Ar := [.im (gl [i_ 4, i_ 4, i_ 4] [tz 0 0 1 0, tz 0 3 2 0])]
def v_form_22 : Dt := (gl [i_ 4, i_ 4, i_ 4] [tz 0 0 1 0, tz 0 1 2 0])
theorem c_form_22 : isI (f_form k_form_22) v_form_22 = true := by decide +kernel
def k_form_23 : List Ar := [.im (gl [i_ 4, i_ 4, i_ 4] [tz 0 0 1 0, tz 1 1 2 0])]
def v_form_23 : Dt := (gl [i_ 4, i_ 4, i_ 4] [tz 0 0 1 0, tz 0 1 2 0])
theorem c_form_23 : isI (f_form k_form_23) v_form_23 = true := by decide +kernel
def k_form_24 : List Ar := [.im (gl [i_ 4, i_ 4, i_ 4] [tz 0 0 1 0, tz 1 2 2 0])]
def v_form_24 : Dt := (gl [i_ 4, i_ 4, i_ 4] [tz 0 0 1 0, tz 0 2 2 0])
theorem c_form_24 : isI (f_form k_form_24) v_form_24 = true := by decide +kernel
def k_form_25 : List Ar := [.im (gl [i_ 4, i_ 4, i_ 4] [tz 0 0 1 0, tz 1 3 2 0])]
def v_form_25 : Dt := (gl [i_ 4, i_ 4, i_ 4] [tz 0 0 1 0, tz 0 1 2 0])
theorem c_form_25 : isI (f_form k_form_25) v_form_25 = true := by decide +kernel
def k_form_26 : List Ar := [.im (gl [i_ 4, i_ 4, i_ 4] [tz 0 1 1 0, tz 0 2 2 0])]
def v_form_26 : Dt := (gl [i_ 4, i_ 4, i_ 4] [tz 0 0 1 0, tz 0 1 2 0])
theorem c_form_26 : isI (f_form k_form_26) v_form_26 = true := by decide +kernel
def k_form_27 : List Ar := [.im (gl [i_ 4, i_ 4, i_ 4] [tz 0 1 1 0, tz 1 1 2 3])]
def v_form_27 : Dt := (gl [i_ 4, i_ 4, i_ 4] [tz 0 0 1 0, tz 0 1 2 0])
theorem c_form_27 : isI (f_form k_form_27) v_form_27 = true := by decide +kernel
def k_form_28 : List Ar := [.im (gl [i_ 4, i_ 4, i_ 4] [tz 0 1 1 0, tz 1 2 2 0])]
def v_form_28 : Dt := (gl [i_ 4, i_ 4, i_ 4] [tz 0 0 1 0, tz 0 2 2 0])
theorem c_form_28 : isI (f_form k_form_28) v_form_28 = true := by decide +kernel
def k_form_29 : List Ar := [.im (gl [i_ 4, i_ 4, i_ 4] [tz 0 1 1 0, tz 1 3 2 0])]
def v_form_29 : Dt := (gl [i_ 4, i_ 4, i_ 4] [tz 0 0 1 0, tz 0 1 2 0])
theorem c_form_29 : isI (f_form k_form_29) v_form_29 = true := by decide +kernel
def k_form_30 : List Ar := [.im (gl [i_ 4, i_ 4, i_ 4] [tz 0 3 2 0, tz 1 1 2 3])]
def v_form_30 : Dt := (gl [i_ 4, i_ 4, i_ 4] [tz 0 0 1 0, tz 0 1 2 0])
theorem c_form_30 : isI (f_form k_form_30) v_form_30 = true := by decide +kernel
def k_form_31 : List Ar := [.im (gl [i_ 4, i_ 4, i_ 4, i_ 4] [tz 0 0 1 0, tz 0 1 2 0, tz 0 2 3 0])]
def v_form_31 : Dt := (gl [i_ 4, i_ 4, i_ 4, i_ 4] [tz 0 0 1 0, tz 0 1 2 0, tz 0 2 3 0])
theorem c_form_31 : isI (f_form k_form_31) v_form_31 = true := by decide +kernel
def k_form_32 : List Ar := [.im (gl [i_ 4, i_ 4, i_ 4, i_ 4] [tz 0 0 1 0, tz 0 1 2 0, tz 0 3 3 0])]
def v_form_32 : Dt := (gl [i_ 4, i_ 4, i_ 4, i_ 4] [tz 0 0 1 0, tz 0 1 2 0, tz 0 2 3 0])
theorem c_form_32 : isI (f_form k_form_32) v_form_32 = true := by decide +kernel
def k_form_33 : List Ar := [.im (gl [i_ 4, i_ 4, i_ 4, i_ 4] [tz 0 0 1 0, tz 0 1 2 0, tz 1 1 3 0])]
def v_form_33 : Dt := (gl [i_ 4, i_ 4, i_ 4, i_ 4] [tz 0 0 1 0, tz 0 1 2 0, tz 1 1 3 0])
theorem c_form_33 : isI (f_form k_form_33) v_form_33 = true := by decide +kernel
def k_form_34 : List Ar := [.im (gl [i_ 4, i_ 4, i_ 4, i_ 4] [tz 0 0 1 0, tz 0 1 2 0, tz 1 2 3 0])]
def v_form_34 : Dt := (gl [i_ 4, i_ 4, i_ 4, i_ 4] [tz 0 0 1 0, tz 0 1 2 0, tz 1 2 3 0])
theorem c_form_34 : isI (f_form k_form_34) v_form_34 = true := by decide +kernel
def k_form_35 : List Ar := [.im (gl [i_ 4, i_ 4, i_ 4, i_ 4] [tz 0 0 1 0, tz 0 1 2 0, tz 1 3 3 0])]
def v_form_35 : Dt := (gl [i_ 4, i_ 4, i_ 4, i_ 4] [tz 0 0 1 0, tz 0 1 2 0, tz 1 3 3 0])
theorem c_form_35 : isI (f_form k_form_35) v_form_35 = true := by decide +kernel
def k_form_36 : List Ar := [.im (gl [i_ 4, i_ 4, i_ 4, i_ 4] [tz 0 0 1 0, tz 0 1 2 0, tz 1 3 3 1, tz 2 1 3 0])]
def v_form_36 : Dt := (gl [i_ 4, i_ 4, i_ 4, i_ 4] [tz 0 0 1 0, tz 0 1 2 0, tz 1 3 3 0, tz 2 1 3 3])
theorem c_form_36 : isI (f_form k_form_36) v_form_36 = true := by decide +kernel
def k_form_37 : List Ar := [.im (gl [i_ 4, i_ 4, i_ 4, i_ 4] [tz 0 0 1 0, tz 0 1 2 0, tz 2 1 3 0])]
def v_form_37 : Dt := (gl [i_ 4, i_ 4, i_ 4, i_ 4] [tz 0 0 1 0, tz 0 1 2 0, tz 1 3 3 0])
theorem c_form_37 : isI (f_form k_form_37) v_form_37 = true := by decide +kernel
def k_form_38 : List Ar := [.im (gl [i_ 4, i_ 4, i_ 4, i_ 4] [tz 0 0 1 0, tz 0 1 2 0, tz 2 2 3 0])]
def v_form_38 : Dt := (gl [i_ 4, i_ 4, i_ 4, i_ 4] [tz 0 0 1 0, tz 0 1 2 0, tz 2 2 3 0])
theorem c_form_38 : isI (f_form k_form_38) v_form_38 = true := by decide +kernel
def k_form_39 : List Ar := [.im (gl [i_ 4, i_ 4, i_ 4, i_ 4] [tz 0 0 1 0, tz 0 1 2 0, tz 2 3 3 0])]
def v_form_39 : Dt := (gl [i_ 4, i_ 4, i_ 4, i_ 4] [tz 0 0 1 0, tz 0 1 2 0, tz 2 3 3 0])
theorem c_form_39 : isI (f_form k_form_39) v_form_39 = true := by decide +kernel
def k_form_40 : List Ar := [.im (gl [i_ 4, i_ 4, i_ 4, i_ 4] [tz 0 0 1 0, tz 0 1 3 0, tz 0 2 2 0])]
def v_form_40 : Dt := (gl [i_ 4, i_ 4, i_ 4, i_ 4] [tz 0 0 1 0, tz 0 1 2 0, tz 0 2 3 0])
theorem c_form_40 : isI (f_form k_form_40) v_form_40 = true := by decide +kernel
def k_form_41 : List Ar := [.im (gl [i_ 4, i_ 4, i_ 4, i_ 4] [tz 0 0 1 0, tz 0 2 2 0, tz 0 3 3 0])]
def v_form_41 : Dt := (gl [i_ 4, i_ 4, i_ 4, i_ 4] [tz 0 0 1 0, tz 0 1 2 0, tz 0 2 3 0])
theorem c_form_41 : isI (f_form k_form_41) v_form_41 = true := by decide +kernel
def k_form_42 : List Ar := [.im (gl [i_ 4, i_ 4, i_ 4, i_ 4] [tz 0 0 1 0, tz 0 2 2 0, tz 1 1 3 0])]
def v_form_42 : Dt := (gl [i_ 4, i_ 4, i_ 4, i_ 4] [tz 0 0 1 0, tz 0 1 2 0, tz 1 2 3 0])
theorem c_form_42 : isI (f_form k_form_42) v_form_42 = true := by decide +kernel
def k_form_43 : List Ar := [.im (gl [i_ 4, i_ 4, i_ 4, i_ 4] [tz 0 0 1 0, tz 0 2 2 0, tz 1 2 3 0])]
def v_form_43 : Dt := (gl [i_ 4, i_ 4, i_ 4, i_ 4] [tz 0 0 1 0, tz 0 2 2 0, tz 1 2 3 0])
theorem c_form_43 : isI (f_form k_form_43) v_form_43 = true := by decide +kernel
def k_form_44 : List Ar := [.im (gl [i_ 4, i_ 4, i_ 4, i_ 4] [tz 0 0 1 0, tz 0 2 2 0, tz 1 3 3 0])]
def v_form_44 : Dt := (gl [i_ 4, i_ 4, i_ 4, i_ 4] [tz 0 0 1 0, tz 0 1 2 0, tz 2 2 3 0])
theorem c_form_44 : isI (f_form k_form_44) v_form_44 = true := by decide +kernel
def k_form_45 : List Ar := [.im (gl [i_ 4, i_ 4, i_ 4, i_ 4] [tz 0 0 1 0, tz 0 2 2 0, tz 2 1 3 0])]
def v_form_45 : Dt := (gl [i_ 4, i_ 4, i_ 4, i_ 4] [tz 0 0 1 0, tz 0 1 2 0, tz 1 2 3 0])
theorem c_form_45 : isI (f_form k_form_45) v_form_45 = true := by decide +kernel
def k_form_46 : List Ar := [.im (gl [i_ 4, i_ 4, i_ 4, i_ 4] [tz 0 0 1 0, tz 0 2 2 0, tz 2 2 3 0])]
def v_form_46 : Dt := (gl [i_ 4, i_ 4, i_ 4, i_ 4] [tz 0 0 1 0, tz 0 2 2 0, tz 1 2 3 0])
theorem c_form_46 : isI (f_form k_form_46) v_form_46 = true := by decide +kernel
def k_form_47 : List Ar := [.im (gl [i_ 4, i_ 4, i_ 4, i_ 4] [tz 0 0 1 0, tz 0 2 2 0, tz 2 3 3 0])]
def v_form_47 : Dt := (gl [i_ 4, i_ 4, i_ 4, i_ 4] [tz 0 0 1 0, tz 0 1 2 0, tz 2 2 3 0])
theorem c_form_47 : isI (f_form k_form_47) v_form_47 = true := by decide +kernel
def k_form_48 : List Ar := [.im (gl [i_ 5] [])]
def v_form_48 : Dt := (gl [i_ 5] [])
theorem c_form_48 : isI (f_form k_form_48) v_form_48 = true := by decide +kernel
def k_form_49 : List Ar := [.im (gl [i_ 5, i_ 5] [tz 0 0 1 0])]
def v_form_49 : Dt := (gl [i_ 5, i_ 5] [tz 0 0 1 0])
theorem c_form_49 : isI (f_form k_form_49) v_form_49 = true := by decide +kernel
def k_form_50 : List Ar := [.im (gl [i_ 5, i_ 5] [tz 0 1 1 0])]
def v_form_50 : Dt := (gl [i_ 5, i_ 5] [tz 0 0 1 0])
theorem c_form_50 : isI (f_form k_form_50) v_form_50 = true := by decide +kernel
def k_form_51 : List Ar := [.im (gl [i_ 5, i_ 5] [tz 0 2 1 0])]
def v_form_51 : Dt := (gl [i_ 5, i_ 5] [tz 0 0 1 0])
theorem c_form_51 : isI (f_form k_form_51) v_form_51 = true := by decide +kernel
def k_form_52 : List Ar := [.im (gl [i_ 5, i_ 5] [tz 0 3 1 0])]
def v_form_52 : Dt := (gl [i_ 5, i_ 5] [tz 0 0 1 0])
theorem c_form_52 : isI (f_form k_form_52) v_form_52 = true := by decide +kernel
def k_form_53 : List Ar := [.im (gl [i_ 5, i_ 5] [tz 0 4 1 0])]
def v_form_53 : Dt := (gl [i_ 5, i_ 5] [tz 0 0 1 0])
theorem c_form_53 : isI (f_form k_form_53) v_form_53 = true := by decide +kernel
def k_form_54 : List Ar := [.im (gl [i_ 5, i_ 5] [tz 0 4 1 1])]
def v_form_54 : Dt := (gl [i_ 5, i_ 5] [tz 0 0 1 0])
theorem c_form_54 : isI (f_form k_form_54) v_form_54 = true := by decide +kernel
def k_form_55 : List Ar := [.im (gl [i_ 5, i_ 5, i_ 5] [tz 0 0 1 0, tz 0 1 2 0])]
def v_form_55 : Dt := (gl [i_ 5, i_ 5, i_ 5] [tz 0 0 1 0, tz 0 1 2 0])
theorem c_form_55 : isI (f_form k_form_55) v_form_55 = true := by decide +kernel
def k_form_56 : List Ar := [.im (gl [i_ 5, i_ 5, i_ 5] [tz 0 0 1 0, tz 0 1 2 0, tz 1 4 2 1])]
def v_form_56 : Dt := (gl [i_ 5, i_ 5, i_ 5] [tz 0 0 1 0, tz 0 1 2 0, tz 1 4 2 1])
theorem c_form_56 : isI (f_form k_form_56) v_form_56 = true := by decide +kernel
def k_form_57 : List Ar := [.im (gl [i_ 5, i_ 5, i_ 5] [tz 0 0 1 0, tz 0 2 2 0])]
def v_form_57 : Dt := (gl [i_ 5, i_ 5, i_ 5] [tz 0 0 1 0, tz 0 2 2 0])
theorem c_form_57 : isI (f_form k_form_57) v_form_57 = true := by decide +kernel
def k_form_58 : List Ar := [.im (gl [i_ 5, i_ 5, i_ 5] [tz 0 0 1 0, tz 0 3 2 0])]
def v_form_58 : Dt := (gl [i_ 5, i_ 5, i_ 5] [tz 0 0 1 0, tz 0 2 2 0])
theorem c_form_58 : isI (f_form k_form_58) v_form_58 = true := by decide +kernel
def k_form_59 : List Ar := [.im (gl [i_ 5, i_ 5, i_ 5] [tz 0 0 1 0, tz 0 4 2 0])]
def v_form_59 : Dt := (gl [i_ 5, i_ 5, i_ 5] [tz 0 0 1 0, tz 0 1 2 0])
theorem c_form_59 : isI (f_form k_form_59) v_form_59 = true := by decide +kernel
def k_form_60 : List Ar := [.im (gl [i_ 5, i_ 5, i_ 5] [tz 0 0 1 0, tz 0 4 2 1, tz 1 1 2 0])]
def v_form_60 : Dt := (gl [i_ 5, i_ 5, i_ 5] [tz 0 0 1 0, tz 0 1 2 0, tz 1 4 2 1])
theorem c_form_60 : isI (f_form k_form_60) v_form_60 = true := by decide +kernel
def k_form_61 : List Ar := [.im (gl [i_ 5, i_ 5, i_ 5] [tz 0 0 1 0, tz 1 1 2 0])]
def v_form_61 : Dt := (gl [i_ 5, i_ 5, i_ 5] [tz 0 0 1 0, tz 0 1 2 0])
theorem c_form_61 : isI (f_form k_form_61) v_form_61 = true := by decide +kernel
def k_form_62 : List Ar := [.im (gl [i_ 5, i_ 5, i_ 5] [tz 0 0 1 0, tz 1 2 2 0])]
def v_form_62 : Dt := (gl [i_ 5, i_ 5, i_ 5] [tz 0 0 1 0, tz 0 2 2 0])
theorem c_form_62 : isI (f_form k_form_62) v_form_62 = true := by decide +kernel
def k_form_63 : List Ar := [.im (gl [i_ 5, i_ 5, i_ 5] [tz 0 0 1 0, tz 1 3 2 0])]
def v_form_63 : Dt := (gl [i_ 5, i_ 5, i_ 5] [tz 0 0 1 0, tz 0 2 2 0])
theorem c_form_63 : isI (f_form k_form_63) v_form_63 = true := by decide +kernel
def k_form_64 : List Ar := [.im (gl [i_ 5, i_ 5, i_ 5] [tz 0 0 1 0, tz 1 4 2 0])]
def v_form_64 : Dt := (gl [i_ 5, i_ 5, i_ 5] [tz 0 0 1 0, tz 0 1 2 0])
theorem c_form_64 : isI (f_form k_form_64) v_form_64 = true := by decide +kernel
def k_form_65 : List Ar := [.im (gl [i_ 6] [])]
def v_form_65 : Dt := (gl [i_ 6] [])
theorem c_form_65 : isI (f_form k_form_65) v_form_65 = true := by decide +kernel
def k_form_66 : List Ar := [.im (gl [i_ 6, i_ 6] [tz 0 0 1 0])]
def v_form_66 : Dt := (gl [i_ 6, i_ 6] [tz 0 0 1 0])
theorem c_form_66 : isI (f_form k_form_66) v_form_66 = true := by decide +kernel
def k_form_67 : List Ar := [.im (gl [i_ 6, i_ 6] [tz 0 1 1 0])]
def v_form_67 : Dt := (gl [i_ 6, i_ 6] [tz 0 0 1 0])
theorem c_form_67 : isI (f_form k_form_67) v_form_67 = true := by decide +kernel
def k_form_68 : List Ar := [.im (gl [i_ 6, i_ 6] [tz 0 2 1 0])]
def v_form_68 : Dt := (gl [i_ 6, i_ 6] [tz 0 0 1 0])
theorem c_form_68 : isI (f_form k_form_68) v_form_68 = true := by decide +kernel
def k_form_69 : List Ar := [.im (gl [i_ 6, i_ 6] [tz 0 3 1 0])]
def v_form_69 : Dt := (gl [i_ 6, i_ 6] [tz 0 0 1 0])
theorem c_form_69 : isI (f_form k_form_69) v_form_69 = true := by decide +kernel
def k_form_70 : List Ar := [.im (gl [i_ 6, i_ 6] [tz 0 4 1 0])]
def v_form_70 : Dt := (gl [i_ 6, i_ 6] [tz 0 0 1 0])
theorem c_form_70 : isI (f_form k_form_70) v_form_70 = true := by decide +kernel
def k_form_71 : List Ar := [.im (gl [i_ 6, i_ 6] [tz 0 5 1 0])]
def v_form_71 : Dt := (gl [i_ 6, i_ 6] [tz 0 0 1 0])
theorem c_form_71 : isI (f_form k_form_71) v_form_71 = true := by decide +kernel
def k_form_72 : List Ar := [.im (gl [i_ 6, i_ 6] [tz 0 5 1 1])]
def v_form_72 : Dt := (gl [i_ 6, i_ 6] [tz 0 0 1 0])
theorem c_form_72 : isI (f_form k_form_72) v_form_72 = true := by decide +kernel
def k_form_73 : List Ar := [.im (gl [i_ 6, i_ 6, i_ 6] [tz 0 0 1 0, tz 0 1 2 0, tz 1 5 2 1])]
def v_form_73 : Dt := (gl [i_ 6, i_ 6, i_ 6] [tz 0 0 1 0, tz 0 1 2 0, tz 1 5 2 1])
theorem c_form_73 : isI (f_form k_form_73) v_form_73 = true := by decide +kernel
def k_form_74 : List Ar := [.im (gl [i_ 6, i_ 6, i_ 6] [tz 0 0 1 0, tz 0 2 2 0])]
def v_form_74 : Dt := (gl [i_ 6, i_ 6, i_ 6] [tz 0 0 1 0, tz 0 2 2 0])
theorem c_form_74 : isI (f_form k_form_74) v_form_74 = true := by decide +kernel
def k_form_75 : List Ar := [.im (gl [i_ 6, i_ 6, i_ 6] [tz 0 0 1 0, tz 0 3 2 0])]
def v_form_75 : Dt := (gl [i_ 6, i_ 6, i_ 6] [tz 0 0 1 0, tz 0 3 2 0])
theorem c_form_75 : isI (f_form k_form_75) v_form_75 = true := by decide +kernel
def k_form_76 : List Ar := [.im (gl [i_ 6, i_ 6, i_ 6] [tz 0 0 1 0, tz 0 4 2 0])]
def v_form_76 : Dt := (gl [i_ 6, i_ 6, i_ 6] [tz 0 0 1 0, tz 0 2 2 0])
theorem c_form_76 : isI (f_form k_form_76) v_form_76 = true := by decide +kernel
def k_form_77 : List Ar := [.im (gl [i_ 6, i_ 6, i_ 6] [tz 0 0 1 0, tz 0 5 2 1, tz 1 1 2 0])]
def v_form_77 : Dt := (gl [i_ 6, i_ 6, i_ 6] [tz 0 0 1 0, tz 0 1 2 0, tz 1 5 2 1])
theorem c_form_77 : isI (f_form k_form_77) v_form_77 = true := by decide +kernel
def k_form_78 : List Ar := [.im (gl [i_ 6, i_ 6, i_ 6] [tz 0 0 1 0, tz 1 2 2 0])]
def v_form_78 : Dt := (gl [i_ 6, i_ 6, i_ 6] [tz 0 0 1 0, tz 0 2 2 0])
theorem c_form_78 : isI (f_form k_form_78) v_form_78 = true := by decide +kernel
def k_form_79 : List Ar := [.im (gl [i_ 6, i_ 6, i_ 6] [tz 0 0 1 0, tz 1 3 2 0])]
def v_form_79 : Dt := (gl [i_ 6, i_ 6, i_ 6] [tz 0 0 1 0, tz 0 3 2 0])
theorem c_form_79 : isI (f_form k_form_79) v_form_79 = true := by decide +kernel
def k_form_80 : List Ar := [.im (gl [i_ 6, i_ 6, i_ 6] [tz 0 0 1 0, tz 1 4 2 0])]
def v_form_80 : Dt := (gl [i_ 6, i_ 6, i_ 6] [tz 0 0 1 0, tz 0 2 2 0])
theorem c_form_80 : isI (f_form k_form_80) v_form_80 = true := by decide +kernel
def tab_form : List (List Ar × Dt) := [(k_form_0, v_form_0), (k_form_1, v_form_1), (k_form_2, v_form_2), (k_form_3, v_form_3), (k_form_4, v_form_4), (k_form_5, v_form_5), (k_form_6, v_form_6), (k_form_7, v_form_7), (k_form_8, v_form_8), (k_form_9, v_form_9), (k_form_10, v_form_10), (k_form_11, v_form_11), (k_form_12, v_form_12), (k_form_13, v_form_13), (k_form_14, v_form_14), (k_form_15, v_form_15), (k_form_16, v_form_16), (k_form_17, v_form_17), (k_form_18, v_form_18), (k_form_19, v_form_19), (k_form_20, v_form_20), (k_form_21, v_form_21), (k_form_22, v_form_22), (k_form_23, v_form_23), (k_form_24, v_form_24), (k_form_25, v_form_25), (k_form_26, v_form_26), (k_form_27, v_form_27), (k_form_28, v_form_28), (k_form_29, v_form_29), (k_form_30, v_form_30), (k_form_31, v_form_31), (k_form_32, v_form_32), (k_form_33, v_form_33), (k_form_34, v_form_34), (k_form_35, v_form_35), (k_form_36, v_form_36), (k_form_37, v_form_37), (k_form_38, v_form_38), (k_form_39, v_form_39), (k_form_40, v_form_40), (k_form_41, v_form_41), (k_form_42, v_form_42), (k_form_43, v_form_43), (k_form_44, v_form_44), (k_form_45, v_form_45), (k_form_46, v_form_46), (k_form_47, v_form_47), (k_form_48, v_form_48), (k_form_49, v_form_49), (k_form_50, v_form_50), (k_form_51, v_form_51), (k_form_52, v_form_52), (k_form_53, v_form_53), (k_form_54, v_form_54), (k_form_55, v_form_55), (k_form_56, v_form_56), (k_form_57, v_form_57), (k_form_58, v_form_58), (k_form_59, v_form_59), (k_form_60, v_form_60), (k_form_61, v_form_61), (k_form_62, v_form_62), (k_form_63, v_form_63), (k_form_64, v_form_64), (k_form_65, v_form_65), (k_form_66, v_form_66), (k_form_67, v_form_67), (k_form_68, v_form_68), (k_form_69, v_form_69), (k_form_70, v_form_70), (k_form_71, v_form_71), (k_form_72, v_form_72), (k_form_73, v_form_73), (k_form_74, v_form_74), (k_form_75, v_form_75), (k_form_76, v_form_76), (k_form_77, v_form_77), (k_form_78, v_form_78), (k_form_79, v_form_79), (k_form_80, v_form_80)]
def t_form : List Ar → Option Dt := lkI f_form tab_form
theorem ok_form : TI f_form tab_form := .cons c_form_0 (.cons c_form_1 (.cons c_form_2 (.cons c_form_3 (.cons c_form_4 (.cons c_form_5 (.cons c_form_6 (.cons c_form_7 (.cons c_form_8 (.cons c_form_9 (.cons c_form_10 (.cons c_form_11 (.cons c_form_12 (.cons c_form_13 (.cons c_form_14 (.cons c_form_15 (.cons c_form_16 (.cons c_form_17 (.cons c_form_18 (.cons c_form_19 (.cons c_form_20 (.cons c_form_21 (.cons c_form_22 (.cons c_form_23 (.cons c_form_24 (.cons c_form_25 (.cons c_form_26 (.cons c_form_27 (.cons c_form_28 (.cons c_form_29 (.cons c_form_30 (.cons c_form_31 (.cons c_form_32 (.cons c_form_33 (.cons c_form_34 (.cons c_form_35 (.cons c_form_36 (.cons c_form_37 (.cons c_form_38 (.cons c_form_39 (.cons c_form_40 (.cons c_form_41 (.cons c_form_42 (.cons c_form_43 (.cons c_form_44 (.cons c_form_45 (.cons c_form_46 (.cons c_form_47 (.cons c_form_48 (.cons c_form_49 (.cons c_form_50 (.cons c_form_51 (.cons c_form_52 (.cons c_form_53 (.cons c_form_54 (.cons c_form_55 (.cons c_form_56 (.cons c_form_57 (.cons c_form_58 (.cons c_form_59 (.cons c_form_60 (.cons c_form_61 (.cons c_form_62 (.cons c_form_63 (.cons c_form_64 (.cons c_form_65 (.cons c_form_66 (.cons c_form_67 (.cons c_form_68 (.cons c_form_69 (.cons c_form_70 (.cons c_form_71 (.cons c_form_72 (.cons c_form_73 (.cons c_form_74 (.cons c_form_75 (.cons c_form_76 (.cons c_form_77 (.cons c_form_78 (.cons c_form_79 (.cons c_form_80 (.nil)))))))))))))))))))))))))))))))))))))))))))))))))))))))))))))))))))))))))))))))))
/-! ### starts -/
abbrev s_starts : Stmt := topS 45
abbrev n_starts : List Str := ["gluing", "told", "side"]
theorem sc_starts : FnScope n_starts ["gluing"] (defScope s_starts) := ⟨rfl, rfl, rfl, by decide +kernel, rfl, by decide +kernel, by decide +kernel⟩
def m_starts : MS := (mSeq (mSetI 1 (o1 (aConsI (vIm 0) aNil) t_form))
    (mRetF (mLc (o1 (o1 (aConsI (vIm 0) aNil) f_sides_of) kItems) (mName 2) (o1 (o2 (o1 (aConsI (vIm 0) (aConsI (vIm 2) aNil)) f_code) (vIm 1) (kEq id)) toB) (vIm 2) [2])))
def f_starts : List Ar → Option Ct := argc 1 (runF 3 m_starts)
theorem kn_starts {f : Addr} {fd : FuncData} (F : Fun K "starts" "starts" s_starts f fd) (hm : mg "starts" = some (.ref f)) (nb : Nb mg) (k_form : Kn P w K mg base "form" ["gluing"] 4 (spI t_form)) (k_sides_of : Kn P w K mg base "sides_of" ["gluing"] 1 (spF f_sides_of)) (k_code : Kn P w K mg base "code" ["gluing", "side"] 3 (spI f_code)) : Kn P w K mg base "starts" ["gluing"] 5 (spF f_starts) :=
  Kn.of F hm (F.binds (ps := ["gluing"]) fun _ _ _ _ _ _ us hl => match us, hl with | [_], _ => rfl) (fn_F (N := n_starts) (ps := ["gluing"]) (m := m_starts) F sc_starts (by decide)
    (ss_seq (ss_setI (i := 1) (se_call (E := E0) (sar_consI (se_var (i := 0)) sar_nil)))
    (ss_retF (sf_lc (vs := [2]) (si_list (K := K) (scn_a (SF.c (sf_call (E := E0) (sar_consI (se_var (i := 0)) sar_nil))))) (sg_name (i := 2)) (st_test (se_op (rii_eq (K := K)) (se_call (E := E0) (sar_consI (se_var (i := 0)) (sar_consI (se_var (i := 2)) sar_nil))) (se_var (i := 1)))) (se_var (i := 2)) (by decide))))
    fun cdv A outer s H E hr => (pss_cons (ps_set (i := 1) sc_starts.nd rfl (.inr rfl) (k_form.call hr (by decide) (by rfl) (pa_cons (pv 0) pa_nil)))
    (pss_one (ps_ret (pe_lc (own := [("side", 2)]) rfl sc_starts.nd (pi_list (k_sides_of.call hr (by decide) (by rfl) (pa_cons (pv 0) pa_nil))) (blkOk_by (N := n_starts) (sc := defScope s_starts) (by decide +kernel)) (fun _ _ _ _ _ => (pg_name (i := 2) sc_starts.nd rfl (by first | exact .inl rfl | exact .inr rfl))) (fun _ _ _ _ _ => (pts_one (pt_cmpR (op_eqD hr.units) (k_code.call hr (by decide) (by rfl) (pa_cons (pv 0) (pa_cons (pv 2) pa_nil))) (pv 1) (nomark _)))) (fun _ _ _ _ _ => (pv 2)))))))
def k_starts_0 : List Ar := [.im (gl [i_ 3] [])]
def v_starts_0 : List Dt := [sd 0 0, sd 0 1, sd 0 2]
theorem c_starts_0 : isF (f_starts k_starts_0) v_starts_0 = true := by decide +kernel
def k_starts_1 : List Ar := [.im (gl [i_ 3, i_ 3] [tz 0 0 1 0])]
def v_starts_1 : List Dt := [sd 0 0, sd 1 0]
theorem c_starts_1 : isF (f_starts k_starts_1) v_starts_1 = true := by decide +kernel
def k_starts_2 : List Ar := [.im (gl [i_ 3, i_ 3, i_ 3] [tz 0 0 1 0, tz 0 1 2 0])]
def v_starts_2 : List Dt := [sd 0 0]
theorem c_starts_2 : isF (f_starts k_starts_2) v_starts_2 = true := by decide +kernel
def k_starts_3 : List Ar := [.im (gl [i_ 3, i_ 3, i_ 3, i_ 3] [tz 0 0 1 0, tz 0 1 2 0, tz 0 2 3 0])]
def v_starts_3 : List Dt := [sd 0 0, sd 0 1, sd 0 2]
theorem c_starts_3 : isF (f_starts k_starts_3) v_starts_3 = true := by decide +kernel
def k_starts_4 : List Ar := [.im (gl [i_ 3, i_ 3, i_ 3, i_ 3] [tz 0 0 1 0, tz 0 1 2 0, tz 1 1 3 0])]
def v_starts_4 : List Dt := [sd 0 0, sd 1 0]
theorem c_starts_4 : isF (f_starts k_starts_4) v_starts_4 = true := by decide +kernel
def k_starts_5 : List Ar := [.im (gl [i_ 3, i_ 3, i_ 3, i_ 3] [tz 0 0 1 0, tz 0 1 2 0, tz 1 2 3 0])]
def v_starts_5 : List Dt := [sd 0 0]
theorem c_starts_5 : isF (f_starts k_starts_5) v_starts_5 = true := by decide +kernel
def k_starts_6 : List Ar := [.im (gl [i_ 3, i_ 3, i_ 3, i_ 3] [tz 0 0 1 0, tz 0 1 2 0, tz 2 2 3 0])]
def v_starts_6 : List Dt := [sd 0 0, sd 2 2]
theorem c_starts_6 : isF (f_starts k_starts_6) v_starts_6 = true := by decide +kernel
def k_starts_7 : List Ar := [.im (gl [i_ 4] [])]
def v_starts_7 : List Dt := [sd 0 0, sd 0 1, sd 0 2, sd 0 3]
theorem c_starts_7 : isF (f_starts k_starts_7) v_starts_7 = true := by decide +kernel
def k_starts_8 : List Ar := [.im (gl [i_ 4, i_ 4] [tz 0 0 1 0])]
def v_starts_8 : List Dt := [sd 0 0, sd 1 0]
theorem c_starts_8 : isF (f_starts k_starts_8) v_starts_8 = true := by decide +kernel
def k_starts_9 : List Ar := [.im (gl [i_ 4, i_ 4, i_ 4] [tz 0 0 1 0, tz 0 1 2 0])]
def v_starts_9 : List Dt := [sd 0 0]
theorem c_starts_9 : isF (f_starts k_starts_9) v_starts_9 = true := by decide +kernel
def k_starts_10 : List Ar := [.im (gl [i_ 4, i_ 4, i_ 4] [tz 0 0 1 0, tz 0 2 2 0])]
def v_starts_10 : List Dt := [sd 0 0, sd 0 2]
theorem c_starts_10 : isF (f_starts k_starts_10) v_starts_10 = true := by decide +kernel
def k_starts_11 : List Ar := [.im (gl [i_ 4, i_ 4, i_ 4, i_ 4] [tz 0 0 1 0, tz 0 1 2 0, tz 0 2 3 0])]
def v_starts_11 : List Dt := [sd 0 0]
theorem c_starts_11 : isF (f_starts k_starts_11) v_starts_11 = true := by decide +kernel
def k_starts_12 : List Ar := [.im (gl [i_ 4, i_ 4, i_ 4, i_ 4] [tz 0 0 1 0, tz 0 1 2 0, tz 1 1 3 0])]
def v_starts_12 : List Dt := [sd 0 0, sd 1 0]
theorem c_starts_12 : isF (f_starts k_starts_12) v_starts_12 = true := by decide +kernel
def k_starts_13 : List Ar := [.im (gl [i_ 4, i_ 4, i_ 4, i_ 4] [tz 0 0 1 0, tz 0 1 2 0, tz 1 2 3 0])]
def v_starts_13 : List Dt := [sd 0 0]
theorem c_starts_13 : isF (f_starts k_starts_13) v_starts_13 = true := by decide +kernel
def k_starts_14 : List Ar := [.im (gl [i_ 4, i_ 4, i_ 4, i_ 4] [tz 0 0 1 0, tz 0 1 2 0, tz 1 3 3 0])]
def v_starts_14 : List Dt := [sd 0 0]
theorem c_starts_14 : isF (f_starts k_starts_14) v_starts_14 = true := by decide +kernel
def k_starts_15 : List Ar := [.im (gl [i_ 4, i_ 4, i_ 4, i_ 4] [tz 0 0 1 0, tz 0 1 2 0, tz 1 3 3 0, tz 2 1 3 3])]
def v_starts_15 : List Dt := [sd 0 0, sd 1 3, sd 2 0, sd 3 3]
theorem c_starts_15 : isF (f_starts k_starts_15) v_starts_15 = true := by decide +kernel
def k_starts_16 : List Ar := [.im (gl [i_ 4, i_ 4, i_ 4, i_ 4] [tz 0 0 1 0, tz 0 1 2 0, tz 2 2 3 0])]
def v_starts_16 : List Dt := [sd 0 0]
theorem c_starts_16 : isF (f_starts k_starts_16) v_starts_16 = true := by decide +kernel
def k_starts_17 : List Ar := [.im (gl [i_ 4, i_ 4, i_ 4, i_ 4] [tz 0 0 1 0, tz 0 1 2 0, tz 2 3 3 0])]
def v_starts_17 : List Dt := [sd 0 0, sd 2 3]
theorem c_starts_17 : isF (f_starts k_starts_17) v_starts_17 = true := by decide +kernel
def k_starts_18 : List Ar := [.im (gl [i_ 4, i_ 4, i_ 4, i_ 4] [tz 0 0 1 0, tz 0 2 2 0, tz 1 2 3 0])]
def v_starts_18 : List Dt := [sd 0 0, sd 1 0]
theorem c_starts_18 : isF (f_starts k_starts_18) v_starts_18 = true := by decide +kernel
def k_starts_19 : List Ar := [.im (gl [i_ 5] [])]
def v_starts_19 : List Dt := [sd 0 0, sd 0 1, sd 0 2, sd 0 3, sd 0 4]
theorem c_starts_19 : isF (f_starts k_starts_19) v_starts_19 = true := by decide +kernel
def k_starts_20 : List Ar := [.im (gl [i_ 5, i_ 5] [tz 0 0 1 0])]
def v_starts_20 : List Dt := [sd 0 0, sd 1 0]
theorem c_starts_20 : isF (f_starts k_starts_20) v_starts_20 = true := by decide +kernel
def k_starts_21 : List Ar := [.im (gl [i_ 5, i_ 5, i_ 5] [tz 0 0 1 0, tz 0 1 2 0])]
def v_starts_21 : List Dt := [sd 0 0]
theorem c_starts_21 : isF (f_starts k_starts_21) v_starts_21 = true := by decide +kernel
def k_starts_22 : List Ar := [.im (gl [i_ 5, i_ 5, i_ 5] [tz 0 0 1 0, tz 0 1 2 0, tz 1 4 2 1])]
def v_starts_22 : List Dt := [sd 0 0, sd 1 4, sd 2 0]
theorem c_starts_22 : isF (f_starts k_starts_22) v_starts_22 = true := by decide +kernel
def k_starts_23 : List Ar := [.im (gl [i_ 5, i_ 5, i_ 5] [tz 0 0 1 0, tz 0 2 2 0])]
def v_starts_23 : List Dt := [sd 0 0]
theorem c_starts_23 : isF (f_starts k_starts_23) v_starts_23 = true := by decide +kernel
def k_starts_24 : List Ar := [.im (gl [i_ 6] [])]
def v_starts_24 : List Dt := [sd 0 0, sd 0 1, sd 0 2, sd 0 3, sd 0 4, sd 0 5]
theorem c_starts_24 : isF (f_starts k_starts_24) v_starts_24 = true := by decide +kernel
def k_starts_25 : List Ar := [.im (gl [i_ 6, i_ 6] [tz 0 0 1 0])]
def v_starts_25 : List Dt := [sd 0 0, sd 1 0]
theorem c_starts_25 : isF (f_starts k_starts_25) v_starts_25 = true := by decide +kernel
def k_starts_26 : List Ar := [.im (gl [i_ 6, i_ 6, i_ 6] [tz 0 0 1 0, tz 0 1 2 0, tz 1 5 2 1])]
def v_starts_26 : List Dt := [sd 0 0, sd 1 5, sd 2 0]
theorem c_starts_26 : isF (f_starts k_starts_26) v_starts_26 = true := by decide +kernel
def k_starts_27 : List Ar := [.im (gl [i_ 6, i_ 6, i_ 6] [tz 0 0 1 0, tz 0 2 2 0])]
def v_starts_27 : List Dt := [sd 0 0]
theorem c_starts_27 : isF (f_starts k_starts_27) v_starts_27 = true := by decide +kernel
def k_starts_28 : List Ar := [.im (gl [i_ 6, i_ 6, i_ 6] [tz 0 0 1 0, tz 0 3 2 0])]
def v_starts_28 : List Dt := [sd 0 0, sd 0 3]
theorem c_starts_28 : isF (f_starts k_starts_28) v_starts_28 = true := by decide +kernel
def tab_starts : List (List Ar × List Dt) := [(k_starts_0, v_starts_0), (k_starts_1, v_starts_1), (k_starts_2, v_starts_2), (k_starts_3, v_starts_3), (k_starts_4, v_starts_4), (k_starts_5, v_starts_5), (k_starts_6, v_starts_6), (k_starts_7, v_starts_7), (k_starts_8, v_starts_8), (k_starts_9, v_starts_9), (k_starts_10, v_starts_10), (k_starts_11, v_starts_11), (k_starts_12, v_starts_12), (k_starts_13, v_starts_13), (k_starts_14, v_starts_14), (k_starts_15, v_starts_15), (k_starts_16, v_starts_16), (k_starts_17, v_starts_17), (k_starts_18, v_starts_18), (k_starts_19, v_starts_19), (k_starts_20, v_starts_20), (k_starts_21, v_starts_21), (k_starts_22, v_starts_22), (k_starts_23, v_starts_23), (k_starts_24, v_starts_24), (k_starts_25, v_starts_25), (k_starts_26, v_starts_26), (k_starts_27, v_starts_27), (k_starts_28, v_starts_28)]
def t_starts : List Ar → Option Ct := lkF f_starts tab_starts
theorem ok_starts : TF f_starts tab_starts := .cons c_starts_0 (.cons c_starts_1 (.cons c_starts_2 (.cons c_starts_3 (.cons c_starts_4 (.cons c_starts_5 (.cons c_starts_6 (.cons c_starts_7 (.cons c_starts_8 (.cons c_starts_9 (.cons c_starts_10 (.cons c_starts_11 (.cons c_starts_12 (.cons c_starts_13 (.cons c_starts_14 (.cons c_starts_15 (.cons c_starts_16 (.cons c_starts_17 (.cons c_starts_18 (.cons c_starts_19 (.cons c_starts_20 (.cons c_starts_21 (.cons c_starts_22 (.cons c_starts_23 (.cons c_starts_24 (.cons c_starts_25 (.cons c_starts_26 (.cons c_starts_27 (.cons c_starts_28 (.nil)))))))))))))))))))))))))))))
/-! ### laid -/
abbrev s_laid : Stmt := topS 47
abbrev n_laid : List Str := ["gluing", "side", "k", "s", "sizes", "ties", "more", "j", "one"]
theorem sc_laid : FnScope n_laid ["gluing", "side", "k", "s"] (defScope s_laid) := ⟨rfl, rfl, rfl, by decide +kernel, rfl, by decide +kernel, by decide +kernel⟩
def m_laid : MS := (mSeq (mTgt (vIm 0) (mTup (mCons (mName 4) (mCons (mName 5) mNil))))
    (mSeq (mSetZ 6 (mLc (o1 (fSl (o1 (aConsI (vIm 0) (aConsI (vIm 1) aNil)) f_rim_of) pN (pS (vIm 2)) kSlT) iPairsT) (mTup (mCons (mName 7) (mCons (mName 8) mNil))) tY (o1 (aCons (vIm 8) (aCons (o1 (aCons (o1 (aConsI (vIm 4) aNil) kLen) (aCons (o2 (o2 (vIm 2) (cI 1) kSub) (vIm 7) kSub) aNil)) kTup) aNil)) kTup) [7, 8]))
    (mRetI (o1 (aCons (o1 (aStarT (vIm 4) (aCons (vIm 3) aNil)) kTup) (aCons (o1 (aConsC (o1 (aConsC (o1 (aStarT (vIm 5) (aStarL (vFz 6) aNil)) kLst) aNil) (kSort (.tup [.tup [.int, .int], .tup [.int, .int]]))) aNil) kTupOf) aNil)) kTup))))
def f_laid : List Ar → Option Dt := argc 4 (runI 9 m_laid)
theorem kn_laid {f : Addr} {fd : FuncData} (F : Fun K "laid" "laid" s_laid f fd) (hm : mg "laid" = some (.ref f)) (nb : Nb mg) (k_rim_of : Kn P w K mg base "rim_of" ["gluing", "side"] 6 (spI f_rim_of)) : Kn P w K mg base "laid" ["gluing", "side", "k", "s"] 7 (spI f_laid) :=
  Kn.of F hm (F.binds (ps := ["gluing", "side", "k", "s"]) fun _ _ _ _ _ _ us hl => match us, hl with | [_, _, _, _], _ => rfl) (fn_I (N := n_laid) (ps := ["gluing", "side", "k", "s"]) (m := m_laid) F sc_laid (by decide)
    (ss_seq (ss_tgt (se_var (i := 0)) (sg_tup (K := K) (sgs_cons (sg_name (i := 4)) (sgs_cons (sg_name (i := 5)) sgs_nil))))
    (ss_seq (ss_setZ (i := 6) (SF.z (sf_lc (vs := [7, 8]) (si_enumU (K := K) (se_slT (K := K) (se_call (E := E0) (sar_consI (se_var (i := 0)) (sar_consI (se_var (i := 1)) sar_nil))) so_none (so_some (se_var (i := 2))))) (sg_tup (K := K) (sgs_cons (sg_name (i := 7)) (sgs_cons (sg_name (i := 8)) sgs_nil))) st_yes (se_tup (sai_cons (se_var (i := 8)) (sai_cons (se_tup (sai_cons (se_cb (rb_len (K := K)) (sar_consI (se_var (i := 4)) sar_nil)) (sai_cons (se_op rii_sub (se_op rii_sub (se_var (i := 2)) (se_cI (i := 1))) (se_var (i := 7))) sai_nil))) sai_nil))) (by decide))))
    (ss_retI (se_tup (sai_cons (se_tup (sai_starT (K := K) (se_var (i := 4)) (sai_cons (se_var (i := 3)) sai_nil))) (sai_cons (se_cb (rb_tupOf (K := K)) (sar_consC (SF.c (sf_cb (rb_sort (t := (.tup [.tup [.int, .int], .tup [.int, .int]]))) (sar_consC (SF.c (sf_lst (sai_starT (K := K) (se_var (i := 5)) (sai_starL (K := K) (SZ.c (sz_var (i := 6))) sai_nil)))) sar_nil))) sar_nil)) sai_nil))))))
    fun cdv A outer s H E hr => (pss_cons (ps_asg (pv 0) (pg_tup rfl (pgs_cons (pg_name (i := 4) sc_laid.nd rfl (.inr rfl)) (pgs_cons (pg_name (i := 5) sc_laid.nd rfl (.inl rfl)) pgs_nil))))
    (pss_cons (ps_setLc (i := 6) (own := [("j", 7), ("one", 8)]) rfl sc_laid.nd rfl rfl (sw_true rfl rfl rfl (by decide +kernel)) (pi_enumT (by rfl) nb.enumerate (pa_cons (pe_slice sl_tup (k_rim_of.call hr (by decide) (by rfl) (pa_cons (pv 0) (pa_cons (pv 1) pa_nil))) po_none (po_some (pv 2))) pa_nil)) (blkOk_by (N := n_laid) (sc := defScope s_laid) (by decide +kernel)) (fun _ _ _ _ _ => (pg_tup rfl (pgs_cons (pg_name (i := 7) sc_laid.nd rfl (by first | exact .inl rfl | exact .inr rfl)) (pgs_cons (pg_name (i := 8) sc_laid.nd rfl (by first | exact .inl rfl | exact .inr rfl)) pgs_nil)))) (fun _ _ _ _ _ => pts_nil) (fun _ _ _ _ _ => (pe_tup (pa_cons (pv 8) (pa_cons (pe_tup (pa_cons (pe_callB call_len_seq (by rfl) nb.len PySem.boot_len (pa_cons (pv 4) pa_nil)) (pa_cons (pe_op op_sub (pe_op op_sub (pv 2) pe_int) (pv 7)) pa_nil))) pa_nil)))))
    (pss_one (ps_ret (pe_tup (pa_cons (pe_tup (StX.pa_star (pv 4) (pa_cons (pv 3) pa_nil))) (pa_cons (pe_callTy call_tuple_of (by rfl) nb.tuple PyProof.Rows.boot_tuple (pa_cons (pe_callB (cr_sortT (t := (.tup [.tup [.int, .int], .tup [.int, .int]])) hr.units) (by rfl) nb.sorted PyProof.Rows.boot_sorted (pa_cons (pe_lst (StX.pa_star (pv 5) (StX.pa_star (pv 6) pa_nil))) pa_nil)) pa_nil)) pa_nil))))))))
/-! ### may_lay -/
abbrev s_may_lay : Stmt := topS 48
abbrev n_may_lay : List Str := ["p", "q", "word", "i", "k", "b", "j"]
theorem sc_may_lay : FnScope n_may_lay ["p", "q", "word", "i", "k"] (defScope s_may_lay) := ⟨rfl, rfl, rfl, by decide +kernel, rfl, by decide +kernel, by decide +kernel⟩
def m_may_lay : MS := (mSeq (mSetI 5 (o1 (aConsI (vIm 2) aNil) kLen))
    (mSeq (mIf (bOr (o1 (o2 (vIm 3) (vIm 5) kGe) toB) (o1 (o1 (o3c (cI 1) (vIm 4) (o1 (aConsI (vIm 0) (aConsI (vIm 5) aNil)) kMin2) kLe kLt) toB) fun b => some (!b))) (mRetI (cB false)) mNext)
    (mSeq (mIf (bOr (o1 (o2 (o2 (vIm 2) (vIm 3) kIxT) (o2 (vIm 1) (cI 1) kSub) kGe) toB) (o1 (o2 (o2 (vIm 2) (o2 (o2 (vIm 3) (vIm 4) kAdd) (vIm 5) kMod) kIxT) (o2 (vIm 1) (cI 1) kSub) kGe) toB)) (mRetI (cB false)) mNext)
    (mRetI (o1 (aConsC (mLc (o1 (aCons (cI 1) (aCons (vIm 4) aNil)) kRng2) (mName 6) tY (o2 (o2 (vIm 2) (o2 (o2 (vIm 3) (vIm 6) kAdd) (vIm 5) kMod) kIxT) (o2 (vIm 1) (cI 1) kSub) (kEq id)) [6]) aNil) (kBools fun l => l.all id))))))
def f_may_lay : List Ar → Option Dt := argc 5 (runI 7 m_may_lay)
theorem kn_may_lay {f : Addr} {fd : FuncData} (F : Fun K "may_lay" "may_lay" s_may_lay f fd) (hm : mg "may_lay" = some (.ref f)) (nb : Nb mg)  : Kn P w K mg base "may_lay" ["p", "q", "word", "i", "k"] 1 (spI f_may_lay) :=
  Kn.of F hm (F.binds (ps := ["p", "q", "word", "i", "k"]) fun _ _ _ _ _ _ us hl => match us, hl with | [_, _, _, _, _], _ => rfl) (fn_I (N := n_may_lay) (ps := ["p", "q", "word", "i", "k"]) (m := m_may_lay) F sc_may_lay (by decide)
    (ss_seq (ss_setI (i := 5) (se_cb (rb_len (K := K)) (sar_consI (se_var (i := 2)) sar_nil)))
    (ss_seq (ss_if (st_or (st_test (se_op rii_ge (se_var (i := 3)) (se_var (i := 5)))) (st_not (st_test (se_chain rii_le rii_lt (se_cI (i := 1)) (se_var (i := 4)) (se_cb rb_min2 (sar_consI (se_var (i := 0)) (sar_consI (se_var (i := 5)) sar_nil))))))) (ss_retI (se_cB (b := false))) ss_next)
    (ss_seq (ss_if (st_or (st_test (se_op rii_ge (se_op (rii_ixT (K := K)) (se_var (i := 2)) (se_var (i := 3))) (se_op rii_sub (se_var (i := 1)) (se_cI (i := 1))))) (st_test (se_op rii_ge (se_op (rii_ixT (K := K)) (se_var (i := 2)) (se_op rii_mod (se_op rii_add (se_var (i := 3)) (se_var (i := 4))) (se_var (i := 5)))) (se_op rii_sub (se_var (i := 1)) (se_cI (i := 1)))))) (ss_retI (se_cB (b := false))) ss_next)
    (ss_retI (se_cb (rb_all (K := K)) (sar_consC (SF.c (sf_lc (vs := [6]) (si_rng2 (sai_cons (se_cI (i := 1)) (sai_cons (se_var (i := 4)) sai_nil))) (sg_name (i := 6)) st_yes (se_op (rii_eq (K := K)) (se_op (rii_ixT (K := K)) (se_var (i := 2)) (se_op rii_mod (se_op rii_add (se_var (i := 3)) (se_var (i := 6))) (se_var (i := 5)))) (se_op rii_sub (se_var (i := 1)) (se_cI (i := 1)))) (by decide))) sar_nil))))))
    fun cdv A outer s H E hr => (pss_cons (ps_set (i := 5) sc_may_lay.nd rfl (.inr rfl) (pe_callB call_len_seq (by rfl) nb.len PySem.boot_len (pa_cons (pv 2) pa_nil)))
    (pss_cons (ps_if (PW.pt (pw_or (pt_cmpR op_ge (pv 3) (pv 5) (nomark _)) (pw_or1 (pt_not (pt_chain op_le op_lt pe_int (pv 4) (pe_callB (call_min2 rfl) (by rfl) nb.min PyProof.Rows.boot_min (pa_cons (pv 0) (pa_cons (pv 5) pa_nil)))))))) (pss_one (ps_ret pe_bl)) pss_nil)
    (pss_cons (ps_if (PW.pt (pw_or (pt_cmpR op_ge (pe_ix ix_tup (pv 2) (pv 3) (fun _ _ => rfl)) (pe_op op_sub (pv 1) pe_int) (nomark _)) (pw_or1 (pt_cmpR op_ge (pe_ix ix_tup (pv 2) (pe_op op_mod (pe_op op_add (pv 3) (pv 4)) (pv 5)) (fun _ _ => rfl)) (pe_op op_sub (pv 1) pe_int) (nomark _))))) (pss_one (ps_ret pe_bl)) pss_nil)
    (pss_one (ps_ret (pe_callB (cr_all rfl) (by rfl) nb.all PyProof.Rows.boot_all (pa_cons (pe_lc (own := [("j", 6)]) rfl sc_may_lay.nd (pi_range2 (by rfl) nb.range (pa_cons pe_int (pa_cons (pv 4) pa_nil))) (blkOk_by (N := n_may_lay) (sc := defScope s_may_lay) (by decide +kernel)) (fun _ _ _ _ _ => (pg_name (i := 6) sc_may_lay.nd rfl (by first | exact .inl rfl | exact .inr rfl))) (fun _ _ _ _ _ => pts_nil) (fun _ _ _ _ _ => (pe_cmpR (op_eqD hr.units) (pe_ix ix_tup (pv 2) (pe_op op_mod (pe_op op_add (pv 3) (pv 6)) (pv 5)) (fun _ _ => rfl)) (pe_op op_sub (pv 1) pe_int) (nomark _)))) pa_nil))))))))
/-! ### lays -/
abbrev s_lays : Stmt := topS 49
abbrev n_lays : List Str := ["p", "q", "word", "found", "i", "k"]
theorem sc_lays : FnScope n_lays ["p", "q", "word"] (defScope s_lays) := ⟨rfl, rfl, rfl, by decide +kernel, rfl, by decide +kernel, by decide +kernel⟩
def m_lays : MS := (mSeq (mSetO 3 (o1 aNil kLst))
    (mSeq (mFor (o1 (aCons (o1 (aConsI (vIm 2) aNil) kLen) aNil) kRng1) (mName 4)
    (mExt 3 (mLc (o1 (aCons (cI 1) (aCons (vIm 0) aNil)) kRng2) (mName 5) (o1 (o1 (aConsI (vIm 0) (aConsI (vIm 1) (aConsI (vIm 2) (aConsI (vIm 4) (aConsI (vIm 5) aNil))))) f_may_lay) toB) (o1 (aCons (vIm 4) (aCons (vIm 5) aNil)) kTup) [5])))
    (mRetO 3)))
def f_lays : List Ar → Option Ct := argc 3 (runF 6 m_lays)
theorem kn_lays {f : Addr} {fd : FuncData} (F : Fun K "lays" "lays" s_lays f fd) (hm : mg "lays" = some (.ref f)) (nb : Nb mg) (k_may_lay : Kn P w K mg base "may_lay" ["p", "q", "word", "i", "k"] 1 (spI f_may_lay)) : Kn P w K mg base "lays" ["p", "q", "word"] 2 (spF f_lays) :=
  Kn.of F hm (F.binds (ps := ["p", "q", "word"]) fun _ _ _ _ _ _ us hl => match us, hl with | [_, _, _], _ => rfl) (fn_F (N := n_lays) (ps := ["p", "q", "word"]) (m := m_lays) F sc_lays (by decide)
    (ss_seq (ss_setO (i := 3) (sf_lst sai_nil))
    (ss_seq (ss_for (si_rng1 (sai_cons (se_cb (rb_len (K := K)) (sar_consI (se_var (i := 2)) sar_nil)) sai_nil)) (sg_name (i := 4))
    (ss_ext (K := K) (i := 3) (sf_lc (vs := [5]) (si_rng2 (sai_cons (se_cI (i := 1)) (sai_cons (se_var (i := 0)) sai_nil))) (sg_name (i := 5)) (st_B (se_call (E := E0) (sar_consI (se_var (i := 0)) (sar_consI (se_var (i := 1)) (sar_consI (se_var (i := 2)) (sar_consI (se_var (i := 4)) (sar_consI (se_var (i := 5)) sar_nil))))))) (se_tup (sai_cons (se_var (i := 4)) (sai_cons (se_var (i := 5)) sai_nil))) (by decide))))
    (ss_retO (i := 3))))
    fun cdv A outer s H E hr => (pss_cons (ps_set (i := 3) sc_lays.nd rfl (.inl rfl) (pe_lst pa_nil))
    (pss_cons (ps_for PassesOwn.never rfl (pi_range1 (by rfl) nb.range (pa_cons (pe_callB call_len_seq (by rfl) nb.len PySem.boot_len (pa_cons (pv 2) pa_nil)) pa_nil)) (pg_name (i := 4) sc_lays.nd rfl (.inr rfl))
    (pss_one (ps_expr (pe_bm PySem.F.plainAttrs_list PySem.F.slot_list_extend PySem.F.type_list_extend mt_extend (pv 3) (pa_cons (pe_lc (own := [("k", 5)]) rfl sc_lays.nd (pi_range2 (by rfl) nb.range (pa_cons pe_int (pa_cons (pv 0) pa_nil))) (blkOk_by (N := n_lays) (sc := defScope s_lays) (by decide +kernel)) (fun _ _ _ _ _ => (pg_name (i := 5) sc_lays.nd rfl (by first | exact .inl rfl | exact .inr rfl))) (fun _ _ _ _ _ => (pts_one (pt_val (k_may_lay.call hr (by decide) (by rfl) (pa_cons (pv 0) (pa_cons (pv 1) (pa_cons (pv 2) (pa_cons (pv 4) (pa_cons (pv 5) pa_nil))))))))) (fun _ _ _ _ _ => (pe_tup (pa_cons (pv 4) (pa_cons (pv 5) pa_nil))))) pa_nil)))))
    (pss_one (ps_ret (pv 3))))))
/-! ### taken -/
abbrev s_taken : Stmt := topS 57
abbrev n_taken : List Str := ["gluing", "t", "u"]
theorem sc_taken : FnScope n_taken ["gluing", "t"] (defScope s_taken) := ⟨rfl, rfl, rfl, by decide +kernel, rfl, by decide +kernel, by decide +kernel⟩
def m_taken : MS := (mRetI (o1 (aConsI (vIm 0) (aConsC (mLc (o1 (aCons (o1 (aConsI (o2 (vIm 0) (cI 0) kIxT) aNil) kLen) aNil) kRng1) (mName 2) (o1 (o2 (vIm 2) (vIm 1) (kEq not)) toB) (vIm 2) [2]) aNil)) f_part_of))
def f_taken : List Ar → Option Dt := argc 2 (runI 3 m_taken)
theorem kn_taken {f : Addr} {fd : FuncData} (F : Fun K "taken" "taken" s_taken f fd) (hm : mg "taken" = some (.ref f)) (nb : Nb mg) (k_part_of : Kn P w K mg base "part_of" ["gluing", "tiles"] 2 (spI f_part_of)) : Kn P w K mg base "taken" ["gluing", "t"] 3 (spI f_taken) :=
  Kn.of F hm (F.binds (ps := ["gluing", "t"]) fun _ _ _ _ _ _ us hl => match us, hl with | [_, _], _ => rfl) (fn_I (N := n_taken) (ps := ["gluing", "t"]) (m := m_taken) F sc_taken (by decide)
    (ss_retI (se_call (E := E0) (sar_consI (se_var (i := 0)) (sar_consC (SF.c (sf_lc (vs := [2]) (si_rng1 (sai_cons (se_cb (rb_len (K := K)) (sar_consI (se_op (rii_ixT (K := K)) (se_var (i := 0)) (se_cI (i := 0))) sar_nil)) sai_nil)) (sg_name (i := 2)) (st_test (se_op (rii_ne (K := K)) (se_var (i := 2)) (se_var (i := 1)))) (se_var (i := 2)) (by decide))) sar_nil))))
    fun cdv A outer s H E hr => (pss_one (ps_ret (k_part_of.call hr (by decide) (by rfl) (pa_cons (pv 0) (pa_cons (pe_lc (own := [("u", 2)]) rfl sc_taken.nd (pi_range1 (by rfl) nb.range (pa_cons (pe_callB call_len_seq (by rfl) nb.len PySem.boot_len (pa_cons (pe_ix ix_tup (pv 0) pe_int (fun _ _ => rfl)) pa_nil)) pa_nil)) (blkOk_by (N := n_taken) (sc := defScope s_taken) (by decide +kernel)) (fun _ _ _ _ _ => (pg_name (i := 2) sc_taken.nd rfl (by first | exact .inl rfl | exact .inr rfl))) (fun _ _ _ _ _ => (pts_one (pt_cmpR (op_neD hr.units) (pv 2) (pv 1) (nomark _)))) (fun _ _ _ _ _ => (pv 2))) pa_nil))))))
end
end Wr

set_option maxHeartbeats 400000
namespace Wr
open PySem PySem.Spec PyProof.Rows L2
section
variable {P : Program} {w : World} {K : PySem.W.Frag} {mg : Str → Option Value} {base : Heap}
/-! ### layers -/
abbrev s_layers : Stmt := topS 33
abbrev n_layers : List Str := ["gluing", "t", "near", "seen", "found", "here", "late", "one", "other"]
theorem sc_layers : FnScope n_layers ["gluing", "t"] (defScope s_layers) := ⟨rfl, rfl, rfl, by decide +kernel, rfl, by decide +kernel, by decide +kernel⟩
def m_layers : MS := (mSeq (mPar [2, 3, 4, 5] (sZ (o1 (aConsI (vIm 0) aNil) f_neighbours) (sO (o2 (vIm 1) (cB true) kDI) (sO (o1 aNil kLst) (sZ (o1 (aCons (vIm 1) aNil) kLst) aNil)))))
    (mSeq (mWhile (o1 (o2 (vFz 5) (o1 aNil kLst) (kEqC not)) toB)
    (mSeq (mApp 4 (o1 (aConsC (o1 (aConsC (vFz 5) aNil) (kSort .int)) aNil) kTupOf))
    (mSeq (mSetO 6 (o1 aNil kLst))
    (mSeq (mFor (o1 (vFz 5) kItems) (mName 7)
    (mFor (o1 (o2 (vFz 2) (vIm 7) kIxLL) kItems) (mName 8)
    (mIf (o1 (o2 (vCt 3) (vIm 8) (kHas not)) toB) (mSeq (mPut 3 (vIm 8) (cB true))
    (mApp 6 (vIm 8))) mNext)))
    (mMove 5 6)))) 500)
    (mRetO 4)))
def f_layers : List Ar → Option Ct := argc 2 (runF 9 m_layers)
theorem kn_layers {f : Addr} {fd : FuncData} (F : Fun K "layers" "layers" s_layers f fd) (hm : mg "layers" = some (.ref f)) (nb : Nb mg) (k_neighbours : Kn P w K mg base "neighbours" ["gluing"] 1 (spF f_neighbours)) : Kn P w K mg base "layers" ["gluing", "t"] 2 (spF f_layers) :=
  Kn.of F hm (F.binds (ps := ["gluing", "t"]) fun _ _ _ _ _ _ us hl => match us, hl with | [_, _], _ => rfl) (fn_F (N := n_layers) (ps := ["gluing", "t"]) (m := m_layers) F sc_layers (by decide)
    (ss_seq (ss_parT (K := K) (is := [2, 3, 4, 5]) (n := 4) rfl rfl (sm_Z (sf_call (E := E0) (sar_consI (se_var (i := 0)) sar_nil)) (sm_O (sf_disp1 (se_var (i := 1)) (se_cB (b := true))) (sm_O (sf_lst sai_nil) (sm_Z (sf_lst (sai_cons (se_var (i := 1)) sai_nil)) sm_nil)))))
    (ss_seq (ss_while 500 (st_test (se_opCC (rcc_ne (K := K)) (SZ.c (sz_var (i := 5))) (SF.c (sf_lst sai_nil))))
    (ss_seq (ss_app (K := K) (i := 4) (se_cb (rb_tupOf (K := K)) (sar_consC (SF.c (sf_cb (rb_sort (t := .int)) (sar_consC (SZ.c (sz_var (i := 5))) sar_nil))) sar_nil)))
    (ss_seq (ss_setO (i := 6) (sf_lst sai_nil))
    (ss_seq (ss_for (si_list (K := K) (scn_o (sz_var (i := 5)))) (sg_name (i := 7))
    (ss_for (si_list (K := K) (scn_ixLL (K := K) (scn_o (sz_var (i := 2))) (se_var (i := 7)))) (sg_name (i := 8))
    (ss_if (st_B (se_dnotin (se_var (i := 8)) (sc_var (i := 3)))) (ss_seq (ss_dput (i := 3) (se_var (i := 8)) (se_cB (b := true)))
    (ss_app (K := K) (i := 6) (se_var (i := 8)))) ss_next)))
    (ss_move (i := 5) (j := 6))))))
    (ss_retO (i := 4))))
    fun cdv A outer s H E hr => (pss_cons (ps_asg (pe_tup (pa_cons (k_neighbours.call hr (by decide) (by rfl) (pa_cons (pv 0) pa_nil)) (pa_cons (pe_disp (pps_cons (pv 1) pe_bl pps_nil) rfl rfl (by simp) (by decide)) (pa_cons (pe_lst pa_nil) (pa_cons (pe_lst (pa_cons (pv 1) pa_nil)) pa_nil))))) (pg_tup rfl (pgs_cons (pg_name (i := 2) sc_layers.nd rfl (.inl rfl)) (pgs_cons (pg_name (i := 3) sc_layers.nd rfl (.inl rfl)) (pgs_cons (pg_name (i := 4) sc_layers.nd rfl (.inl rfl)) (pgs_cons (pg_name (i := 5) sc_layers.nd rfl (.inl rfl)) pgs_nil))))))
    (pss_cons (ps_while PassesOwn.never (pt_cmpR (op_neD hr.units) (pv 5) (pe_lst pa_nil) (nomark _))
    (pss_cons (ps_expr (pe_bm PySem.F.plainAttrs_list PySem.F.slot_list_append PySem.F.type_list_append mt_append (pv 4) (pa_cons (pe_callTy call_tuple_of (by rfl) nb.tuple PyProof.Rows.boot_tuple (pa_cons (pe_callB (cr_sortT (t := .int) hr.units) (by rfl) nb.sorted PyProof.Rows.boot_sorted (pa_cons (pv 5) pa_nil)) pa_nil)) pa_nil)))
    (pss_cons (ps_set (i := 6) sc_layers.nd rfl (.inl rfl) (pe_lst pa_nil))
    (pss_cons (ps_for PassesOwn.never rfl (pi_list (pv 5)) (pg_name (i := 7) sc_layers.nd rfl (.inl rfl))
    (pss_one (ps_for PassesOwn.never rfl (pi_list (pe_ix ix_list (pv 2) (pv 7) (fun _ _ => rfl))) (pg_name (i := 8) sc_layers.nd rfl (.inl rfl))
    (pss_one (ps_if (pt_cmp (pc_dnotin (hu_of hr) (pv 8) (pv 3))) (pss_cons (ps_dput (hu_of hr) (pv 3) (pv 8) pe_bl (by rfl))
    (pss_one (ps_expr (pe_bm PySem.F.plainAttrs_list PySem.F.slot_list_append PySem.F.type_list_append mt_append (pv 6) (pa_cons (pv 8) pa_nil))))) pss_nil)))))
    (pss_one (ps_set (i := 5) sc_layers.nd rfl (.inl rfl) (pv 6)))))))
    (pss_one (ps_ret (pv 4))))))
/-! ### pieces -/
abbrev s_pieces : Stmt := topS 34
abbrev n_pieces : List Str := ["gluing", "seen", "found", "t", "lot", "one", "some"]
theorem sc_pieces : FnScope n_pieces ["gluing"] (defScope s_pieces) := ⟨rfl, rfl, rfl, by decide +kernel, rfl, by decide +kernel, by decide +kernel⟩
def m_pieces : MS := (mSeq (mPar [1, 2] (sO (fun _ => some (.dI [])) (sO (o1 aNil kLst) aNil)))
    (mSeq (mFor (o1 (aCons (o1 (aConsI (o2 (vIm 0) (cI 0) kIxT) aNil) kLen) aNil) kRng1) (mName 3)
    (mIf (o1 (o2 (vCt 1) (vIm 3) (kHas not)) toB) (mSeq (mSetI 4 (o1 (aConsC (o1 (aConsC (mLc2 (o1 (o1 (aConsI (vIm 0) (aConsI (vIm 3) aNil)) f_layers) kItems) (mName 6) tY (o1 (vIm 6) kParts) (mName 5) tY (vIm 5) [6, 5] [5]) aNil) (kSort .int)) aNil) kTupOf))
    (mSeq (mUpd 1 (mDc (.dI []) (o1 (vIm 4) kParts) (mName 5) tY (vIm 5) (cB true) [5]))
    (mApp 2 (vIm 4)))) mNext))
    (mRetO 2)))
def f_pieces : List Ar → Option Ct := argc 1 (runF 7 m_pieces)
theorem kn_pieces {f : Addr} {fd : FuncData} (F : Fun K "pieces" "pieces" s_pieces f fd) (hm : mg "pieces" = some (.ref f)) (nb : Nb mg) (k_layers : Kn P w K mg base "layers" ["gluing", "t"] 2 (spF f_layers)) : Kn P w K mg base "pieces" ["gluing"] 3 (spF f_pieces) :=
  Kn.of F hm (F.binds (ps := ["gluing"]) fun _ _ _ _ _ _ us hl => match us, hl with | [_], _ => rfl) (fn_F (N := n_pieces) (ps := ["gluing"]) (m := m_pieces) F sc_pieces (by decide)
    (ss_seq (ss_par (i := 1) (j := 2) (sm_O sf_newI (sm_O (sf_lst sai_nil) sm_nil)))
    (ss_seq (ss_for (si_rng1 (sai_cons (se_cb (rb_len (K := K)) (sar_consI (se_op (rii_ixT (K := K)) (se_var (i := 0)) (se_cI (i := 0))) sar_nil)) sai_nil)) (sg_name (i := 3))
    (ss_if (st_B (se_dnotin (se_var (i := 3)) (sc_var (i := 1)))) (ss_seq (ss_setI (i := 4) (se_cb (rb_tupOf (K := K)) (sar_consC (SF.c (sf_cb (rb_sort (t := .int)) (sar_consC (SF.c (sf_lc2 (vs := [6, 5]) (vs1 := [5]) (si_list (K := K) (scn_a (SF.c (sf_call (E := E0) (sar_consI (se_var (i := 0)) (sar_consI (se_var (i := 3)) sar_nil)))))) (sg_name (i := 6)) st_yes (fun _ => (si_tup (K := K) (se_var (i := 6)))) (sg_name (i := 5)) st_yes (se_var (i := 5)) (by decide) (by decide))) sar_nil))) sar_nil)))
    (ss_seq (ss_upd (K := K) (i := 1) (sf_dc (vs := [5]) nilI (si_tup (K := K) (se_var (i := 4))) (sg_name (i := 5)) st_yes (se_var (i := 5)) (se_cB (b := true)) (by decide)))
    (ss_app (K := K) (i := 2) (se_var (i := 4))))) ss_next))
    (ss_retO (i := 2))))
    fun cdv A outer s H E hr => (pss_cons (ps_par (i := 1) (j := 2) rfl sc_pieces.nd rfl rfl (by decide) rfl rfl (pa_cons pe_dnewK (pa_cons (pe_lst pa_nil) pa_nil)) (by rfl))
    (pss_cons (ps_for PassesOwn.never rfl (pi_range1 (by rfl) nb.range (pa_cons (pe_callB call_len_seq (by rfl) nb.len PySem.boot_len (pa_cons (pe_ix ix_tup (pv 0) pe_int (fun _ _ => rfl)) pa_nil)) pa_nil)) (pg_name (i := 3) sc_pieces.nd rfl (.inl rfl))
    (pss_one (ps_if (pt_cmp (pc_dnotin (hu_of hr) (pv 3) (pv 1))) (pss_cons (ps_set (i := 4) sc_pieces.nd rfl (.inl rfl) (pe_callTy call_tuple_of (by rfl) nb.tuple PyProof.Rows.boot_tuple (pa_cons (pe_callB (cr_sortT (t := .int) hr.units) (by rfl) nb.sorted PyProof.Rows.boot_sorted (pa_cons (pe_lc2 (own := [("some", 6), ("one", 5)]) (vs1 := [5]) rfl sc_pieces.nd (pi_list (k_layers.call hr (by decide) (by rfl) (pa_cons (pv 0) (pa_cons (pv 3) pa_nil)))) (blkOk_by (N := n_pieces) (sc := defScope s_pieces) (by decide +kernel)) (by decide) (fun _ _ _ _ _ => (pg_name (i := 6) sc_pieces.nd rfl (by first | exact .inl rfl | exact .inr rfl))) (fun _ _ _ _ _ => pts_nil) (fun _ _ _ _ _ => (pi_tup (pv 6))) (fun _ _ _ _ _ => (pg_name (i := 5) sc_pieces.nd rfl (by first | exact .inl rfl | exact .inr rfl))) (fun _ _ _ _ _ => pts_nil) (fun _ _ _ _ _ => (pv 5))) pa_nil)) pa_nil)))
    (pss_cons (ps_expr (pe_bm PySem.F.plainAttrs_dict PySem.F.slot_dict_update PySem.F.type_dict_update (mt_upd (hu_of hr)) (pv 1) (pa_cons (pe_dcP (own := [("one", 5)]) (fun h H b => dk_empty h b) (hu_of hr) rfl sc_pieces.nd (pi_tup (pv 4)) (blkOk_by (N := n_pieces) (sc := defScope s_pieces) (by decide +kernel)) (fun _ _ _ _ _ => (pg_name (i := 5) sc_pieces.nd rfl (by first | exact .inl rfl | exact .inr rfl))) (fun _ _ _ _ _ => pts_nil) (fun _ _ _ _ _ => (pv 5)) (fun _ _ _ _ _ => pe_bl)) pa_nil)))
    (pss_one (ps_expr (pe_bm PySem.F.plainAttrs_list PySem.F.slot_list_append PySem.F.type_list_append mt_append (pv 2) (pa_cons (pv 4) pa_nil)))))) pss_nil)))
    (pss_one (ps_ret (pv 2))))))
/-! ### is_whole -/
abbrev s_is_whole : Stmt := topS 38
abbrev n_is_whole : List Str := ["gluing", "many", "value"]
theorem sc_is_whole : FnScope n_is_whole ["gluing", "many", "value"] (defScope s_is_whole) := ⟨rfl, rfl, rfl, by decide +kernel, rfl, by decide +kernel, by decide +kernel⟩
def m_is_whole : MS := (mSeq (mIf (bOr (o1 (o2 (o1 (aConsC (o1 (aConsI (vIm 0) aNil) f_pieces) aNil) kLen) (cI 1) (kEq not)) toB) (o1 (o2 (o1 (aConsC (o1 (aConsI (vIm 0) aNil) t_rims) aNil) kLen) (vIm 1) (kEq not)) toB)) (mRetI (cB false)) mNext)
    (mRetI (vAnd (o2 (o1 (aConsI (vIm 0) aNil) f_worth) (vIm 2) (kEq id)) (o2 (o1 (aConsI (vIm 0) aNil) f_twice) (o1 aNil kLst) (kEqC id)))))
def f_is_whole : List Ar → Option Dt := argc 3 (runI 3 m_is_whole)
theorem kn_is_whole {f : Addr} {fd : FuncData} (F : Fun K "is_whole" "is_whole" s_is_whole f fd) (hm : mg "is_whole" = some (.ref f)) (nb : Nb mg) (k_pieces : Kn P w K mg base "pieces" ["gluing"] 3 (spF f_pieces)) (k_rims : Kn P w K mg base "rims" ["gluing"] 6 (spF t_rims)) (k_worth : Kn P w K mg base "worth" ["gluing"] 6 (spI f_worth)) (k_twice : Kn P w K mg base "twice" ["gluing"] 5 (spF f_twice)) : Kn P w K mg base "is_whole" ["gluing", "many", "value"] 7 (spI f_is_whole) :=
  Kn.of F hm (F.binds (ps := ["gluing", "many", "value"]) fun _ _ _ _ _ _ us hl => match us, hl with | [_, _, _], _ => rfl) (fn_I (N := n_is_whole) (ps := ["gluing", "many", "value"]) (m := m_is_whole) F sc_is_whole (by decide)
    (ss_seq (ss_if (st_or (st_test (se_op (rii_ne (K := K)) (se_cb (rb_len (K := K)) (sar_consC (SF.c (sf_call (E := E0) (sar_consI (se_var (i := 0)) sar_nil))) sar_nil)) (se_cI (i := 1)))) (st_test (se_op (rii_ne (K := K)) (se_cb (rb_len (K := K)) (sar_consC (SF.c (sf_call (E := E0) (sar_consI (se_var (i := 0)) sar_nil))) sar_nil)) (se_var (i := 1))))) (ss_retI (se_cB (b := false))) ss_next)
    (ss_retI (se_andV (se_op (rii_eq (K := K)) (se_call (E := E0) (sar_consI (se_var (i := 0)) sar_nil)) (se_var (i := 2))) (se_opCC (rcc_eq (K := K)) (SF.c (sf_call (E := E0) (sar_consI (se_var (i := 0)) sar_nil))) (SF.c (sf_lst sai_nil))))))
    fun cdv A outer s H E hr => (pss_cons (ps_if (PW.pt (pw_or (pt_cmpR (op_neD hr.units) (pe_callB call_len_seq (by rfl) nb.len PySem.boot_len (pa_cons (k_pieces.call hr (by decide) (by rfl) (pa_cons (pv 0) pa_nil)) pa_nil)) pe_int (nomark _)) (pw_or1 (pt_cmpR (op_neD hr.units) (pe_callB call_len_seq (by rfl) nb.len PySem.boot_len (pa_cons (k_rims.call hr (by decide) (by rfl) (pa_cons (pv 0) pa_nil)) pa_nil)) (pv 1) (nomark _))))) (pss_one (ps_ret pe_bl)) pss_nil)
    (pss_one (ps_ret (pe_and (pe_cmpR (op_eqD hr.units) (k_worth.call hr (by decide) (by rfl) (pa_cons (pv 0) pa_nil)) (pv 2) (nomark _)) (pe_one (pe_cmpR (op_eqD hr.units) (k_twice.call hr (by decide) (by rfl) (pa_cons (pv 0) pa_nil)) (pe_lst pa_nil) (nomark _))))))))
/-! ### is_disc -/
abbrev s_is_disc : Stmt := topS 39
abbrev n_is_disc : List Str := ["gluing"]
theorem sc_is_disc : FnScope n_is_disc ["gluing"] (defScope s_is_disc) := ⟨rfl, rfl, rfl, by decide +kernel, rfl, by decide +kernel, by decide +kernel⟩
def m_is_disc : MS := (mRetI (o1 (aConsI (vIm 0) (aConsI (cI 1) (aConsI (cI 1) aNil))) f_is_whole))
def f_is_disc : List Ar → Option Dt := argc 1 (runI 1 m_is_disc)
theorem kn_is_disc {f : Addr} {fd : FuncData} (F : Fun K "is_disc" "is_disc" s_is_disc f fd) (hm : mg "is_disc" = some (.ref f)) (nb : Nb mg) (k_is_whole : Kn P w K mg base "is_whole" ["gluing", "many", "value"] 7 (spI f_is_whole)) : Kn P w K mg base "is_disc" ["gluing"] 8 (spI f_is_disc) :=
  Kn.of F hm (F.binds (ps := ["gluing"]) fun _ _ _ _ _ _ us hl => match us, hl with | [_], _ => rfl) (fn_I (N := n_is_disc) (ps := ["gluing"]) (m := m_is_disc) F sc_is_disc (by decide)
    (ss_retI (se_call (E := E0) (sar_consI (se_var (i := 0)) (sar_consI (se_cI (i := 1)) (sar_consI (se_cI (i := 1)) sar_nil)))))
    fun cdv A outer s H E hr => (pss_one (ps_ret (k_is_whole.call hr (by decide) (by rfl) (pa_cons (pv 0) (pa_cons pe_int (pa_cons pe_int pa_nil)))))))
/-! ### is_taker -/
abbrev s_is_taker : Stmt := topS 58
abbrev n_is_taker : List Str := ["gluing", "t", "has_rim", "i"]
theorem sc_is_taker : FnScope n_is_taker ["gluing", "t"] (defScope s_is_taker) := ⟨rfl, rfl, rfl, by decide +kernel, rfl, by decide +kernel, by decide +kernel⟩
def m_is_taker : MS := (mSeq (mSetI 2 (o1 (aConsC (mLc (o1 (aCons (o2 (o2 (vIm 0) (cI 0) kIxT) (vIm 1) kIxT) aNil) kRng1) (mName 3) tY (o1 (o1 (aConsI (vIm 0) (aConsI (o1 (aCons (vIm 1) (aCons (vIm 3) aNil)) kTup) aNil)) f_mate_of) fun d => some (.bl (isNon d))) [3]) aNil) (kBools fun l => l.any id)))
    (mRetI (vAnd (vIm 2) (o1 (aConsI (o1 (aConsI (vIm 0) (aConsI (vIm 1) aNil)) f_taken) aNil) f_is_disc))))
def f_is_taker : List Ar → Option Dt := argc 2 (runI 4 m_is_taker)
theorem kn_is_taker {f : Addr} {fd : FuncData} (F : Fun K "is_taker" "is_taker" s_is_taker f fd) (hm : mg "is_taker" = some (.ref f)) (nb : Nb mg) (k_mate_of : Kn P w K mg base "mate_of" ["gluing", "side"] 2 (spI f_mate_of)) (k_taken : Kn P w K mg base "taken" ["gluing", "t"] 3 (spI f_taken)) (k_is_disc : Kn P w K mg base "is_disc" ["gluing"] 8 (spI f_is_disc)) : Kn P w K mg base "is_taker" ["gluing", "t"] 9 (spI f_is_taker) :=
  Kn.of F hm (F.binds (ps := ["gluing", "t"]) fun _ _ _ _ _ _ us hl => match us, hl with | [_, _], _ => rfl) (fn_I (N := n_is_taker) (ps := ["gluing", "t"]) (m := m_is_taker) F sc_is_taker (by decide)
    (ss_seq (ss_setI (i := 2) (se_cb (rb_any (K := K)) (sar_consC (SF.c (sf_lc (vs := [3]) (si_rng1 (sai_cons (se_op (rii_ixT (K := K)) (se_op (rii_ixT (K := K)) (se_var (i := 0)) (se_cI (i := 0))) (se_var (i := 1))) sai_nil)) (sg_name (i := 3)) st_yes (se_isN (se_call (E := E0) (sar_consI (se_var (i := 0)) (sar_consI (se_tup (sai_cons (se_var (i := 1)) (sai_cons (se_var (i := 3)) sai_nil))) sar_nil)))) (by decide))) sar_nil)))
    (ss_retI (se_andV (se_var (i := 2)) (se_call (E := E0) (sar_consI (se_call (E := E0) (sar_consI (se_var (i := 0)) (sar_consI (se_var (i := 1)) sar_nil))) sar_nil)))))
    fun cdv A outer s H E hr => (pss_cons (ps_set (i := 2) sc_is_taker.nd rfl (.inl rfl) (pe_callB (cr_any rfl) (by rfl) nb.any PyProof.Rows.boot_any (pa_cons (pe_lc (own := [("i", 3)]) rfl sc_is_taker.nd (pi_range1 (by rfl) nb.range (pa_cons (pe_ix ix_tup (pe_ix ix_tup (pv 0) pe_int (fun _ _ => rfl)) (pv 1) (fun _ _ => rfl)) pa_nil)) (blkOk_by (N := n_is_taker) (sc := defScope s_is_taker) (by decide +kernel)) (fun _ _ _ _ _ => (pg_name (i := 3) sc_is_taker.nd rfl (by first | exact .inl rfl | exact .inr rfl))) (fun _ _ _ _ _ => pts_nil) (fun _ _ _ _ _ => (pe_cmpR op_isN (k_mate_of.call hr (by decide) (by rfl) (pa_cons (pv 0) (pa_cons (pe_tup (pa_cons (pv 1) (pa_cons (pv 3) pa_nil))) pa_nil))) pe_non (nomark _)))) pa_nil)))
    (pss_one (ps_ret (pe_and (pv 2) (pe_one (k_is_disc.call hr (by decide) (by rfl) (pa_cons (k_taken.call hr (by decide) (by rfl) (pa_cons (pv 0) (pa_cons (pv 1) pa_nil))) pa_nil))))))))
/-! ### takers -/
abbrev s_takers : Stmt := topS 59
abbrev n_takers : List Str := ["gluing", "many", "t"]
theorem sc_takers : FnScope n_takers ["gluing"] (defScope s_takers) := ⟨rfl, rfl, rfl, by decide +kernel, rfl, by decide +kernel, by decide +kernel⟩
def m_takers : MS := (mSeq (mSetI 1 (o1 (aConsI (o2 (vIm 0) (cI 0) kIxT) aNil) kLen))
    (mRetF (bIf (o1 (o2 (vIm 1) (cI 1) kGt) toB) (mLc (o1 (aCons (vIm 1) aNil) kRng1) (mName 2) (o1 (o1 (aConsI (vIm 0) (aConsI (vIm 2) aNil)) f_is_taker) toB) (vIm 2) [2]) (o1 aNil kLst))))
def f_takers : List Ar → Option Ct := argc 1 (runF 3 m_takers)
theorem kn_takers {f : Addr} {fd : FuncData} (F : Fun K "takers" "takers" s_takers f fd) (hm : mg "takers" = some (.ref f)) (nb : Nb mg) (k_is_taker : Kn P w K mg base "is_taker" ["gluing", "t"] 9 (spI f_is_taker)) : Kn P w K mg base "takers" ["gluing"] 10 (spF f_takers) :=
  Kn.of F hm (F.binds (ps := ["gluing"]) fun _ _ _ _ _ _ us hl => match us, hl with | [_], _ => rfl) (fn_F (N := n_takers) (ps := ["gluing"]) (m := m_takers) F sc_takers (by decide)
    (ss_seq (ss_setI (i := 1) (se_cb (rb_len (K := K)) (sar_consI (se_op (rii_ixT (K := K)) (se_var (i := 0)) (se_cI (i := 0))) sar_nil)))
    (ss_retF (sf_if (st_test (se_op rii_gt (se_var (i := 1)) (se_cI (i := 1)))) (sf_lc (vs := [2]) (si_rng1 (sai_cons (se_var (i := 1)) sai_nil)) (sg_name (i := 2)) (st_B (se_call (E := E0) (sar_consI (se_var (i := 0)) (sar_consI (se_var (i := 2)) sar_nil)))) (se_var (i := 2)) (by decide)) (sf_lst sai_nil))))
    fun cdv A outer s H E hr => (pss_cons (ps_set (i := 1) sc_takers.nd rfl (.inl rfl) (pe_callB call_len_seq (by rfl) nb.len PySem.boot_len (pa_cons (pe_ix ix_tup (pv 0) pe_int (fun _ _ => rfl)) pa_nil)))
    (pss_one (ps_ret (pe_ifExp (pt_cmpR op_gt (pv 1) pe_int (nomark _)) (pe_lc (own := [("t", 2)]) rfl sc_takers.nd (pi_range1 (by rfl) nb.range (pa_cons (pv 1) pa_nil)) (blkOk_by (N := n_takers) (sc := defScope s_takers) (by decide +kernel)) (fun _ _ _ _ _ => (pg_name (i := 2) sc_takers.nd rfl (by first | exact .inl rfl | exact .inr rfl))) (fun _ _ _ _ _ => (pts_one (pt_val (k_is_taker.call hr (by decide) (by rfl) (pa_cons (pv 0) (pa_cons (pv 2) pa_nil)))))) (fun _ _ _ _ _ => (pv 2))) (pe_lst pa_nil))))))
def k_takers_0 : List Ar := [.im (gl [i_ 3, i_ 3] [tz 0 0 1 0])]
def v_takers_0 : List Dt := [i_ 0, i_ 1]
theorem c_takers_0 : isF (f_takers k_takers_0) v_takers_0 = true := by decide +kernel
def k_takers_1 : List Ar := [.im (gl [i_ 3, i_ 3, i_ 3] [tz 0 0 1 0, tz 0 1 2 0])]
def v_takers_1 : List Dt := [i_ 1, i_ 2]
theorem c_takers_1 : isF (f_takers k_takers_1) v_takers_1 = true := by decide +kernel
def k_takers_2 : List Ar := [.im (gl [i_ 3, i_ 3, i_ 3, i_ 3] [tz 0 0 1 0, tz 0 1 2 0, tz 0 2 3 0])]
def v_takers_2 : List Dt := [i_ 1, i_ 2, i_ 3]
theorem c_takers_2 : isF (f_takers k_takers_2) v_takers_2 = true := by decide +kernel
def k_takers_3 : List Ar := [.im (gl [i_ 3, i_ 3, i_ 3, i_ 3] [tz 0 0 1 0, tz 0 1 2 0, tz 1 1 3 0])]
def v_takers_3 : List Dt := [i_ 2, i_ 3]
theorem c_takers_3 : isF (f_takers k_takers_3) v_takers_3 = true := by decide +kernel
def k_takers_4 : List Ar := [.im (gl [i_ 3, i_ 3, i_ 3, i_ 3] [tz 0 0 1 0, tz 0 1 2 0, tz 1 2 3 0])]
def v_takers_4 : List Dt := [i_ 2, i_ 3]
theorem c_takers_4 : isF (f_takers k_takers_4) v_takers_4 = true := by decide +kernel
def k_takers_5 : List Ar := [.im (gl [i_ 3, i_ 3, i_ 3, i_ 3] [tz 0 0 1 0, tz 0 1 2 0, tz 2 2 3 0])]
def v_takers_5 : List Dt := [i_ 1, i_ 3]
theorem c_takers_5 : isF (f_takers k_takers_5) v_takers_5 = true := by decide +kernel
def k_takers_6 : List Ar := [.im (gl [i_ 4, i_ 4] [tz 0 0 1 0])]
def v_takers_6 : List Dt := [i_ 0, i_ 1]
theorem c_takers_6 : isF (f_takers k_takers_6) v_takers_6 = true := by decide +kernel
def k_takers_7 : List Ar := [.im (gl [i_ 4, i_ 4, i_ 4] [tz 0 0 1 0, tz 0 1 2 0])]
def v_takers_7 : List Dt := [i_ 1, i_ 2]
theorem c_takers_7 : isF (f_takers k_takers_7) v_takers_7 = true := by decide +kernel
def k_takers_8 : List Ar := [.im (gl [i_ 4, i_ 4, i_ 4] [tz 0 0 1 0, tz 0 2 2 0])]
def v_takers_8 : List Dt := [i_ 1, i_ 2]
theorem c_takers_8 : isF (f_takers k_takers_8) v_takers_8 = true := by decide +kernel
def k_takers_9 : List Ar := [.im (gl [i_ 4, i_ 4, i_ 4, i_ 4] [tz 0 0 1 0, tz 0 1 2 0, tz 0 2 3 0])]
def v_takers_9 : List Dt := [i_ 1, i_ 2, i_ 3]
theorem c_takers_9 : isF (f_takers k_takers_9) v_takers_9 = true := by decide +kernel
def k_takers_10 : List Ar := [.im (gl [i_ 4, i_ 4, i_ 4, i_ 4] [tz 0 0 1 0, tz 0 1 2 0, tz 1 1 3 0])]
def v_takers_10 : List Dt := [i_ 2, i_ 3]
theorem c_takers_10 : isF (f_takers k_takers_10) v_takers_10 = true := by decide +kernel
def k_takers_11 : List Ar := [.im (gl [i_ 4, i_ 4, i_ 4, i_ 4] [tz 0 0 1 0, tz 0 1 2 0, tz 1 2 3 0])]
def v_takers_11 : List Dt := [i_ 2, i_ 3]
theorem c_takers_11 : isF (f_takers k_takers_11) v_takers_11 = true := by decide +kernel
def k_takers_12 : List Ar := [.im (gl [i_ 4, i_ 4, i_ 4, i_ 4] [tz 0 0 1 0, tz 0 1 2 0, tz 1 3 3 0])]
def v_takers_12 : List Dt := [i_ 2, i_ 3]
theorem c_takers_12 : isF (f_takers k_takers_12) v_takers_12 = true := by decide +kernel
def k_takers_13 : List Ar := [.im (gl [i_ 4, i_ 4, i_ 4, i_ 4] [tz 0 0 1 0, tz 0 1 2 0, tz 1 3 3 0, tz 2 1 3 3])]
def v_takers_13 : List Dt := [i_ 0, i_ 1, i_ 2, i_ 3]
theorem c_takers_13 : isF (f_takers k_takers_13) v_takers_13 = true := by decide +kernel
def k_takers_14 : List Ar := [.im (gl [i_ 4, i_ 4, i_ 4, i_ 4] [tz 0 0 1 0, tz 0 1 2 0, tz 2 2 3 0])]
def v_takers_14 : List Dt := [i_ 1, i_ 3]
theorem c_takers_14 : isF (f_takers k_takers_14) v_takers_14 = true := by decide +kernel
def k_takers_15 : List Ar := [.im (gl [i_ 4, i_ 4, i_ 4, i_ 4] [tz 0 0 1 0, tz 0 1 2 0, tz 2 3 3 0])]
def v_takers_15 : List Dt := [i_ 1, i_ 3]
theorem c_takers_15 : isF (f_takers k_takers_15) v_takers_15 = true := by decide +kernel
def k_takers_16 : List Ar := [.im (gl [i_ 4, i_ 4, i_ 4, i_ 4] [tz 0 0 1 0, tz 0 2 2 0, tz 1 2 3 0])]
def v_takers_16 : List Dt := [i_ 2, i_ 3]
theorem c_takers_16 : isF (f_takers k_takers_16) v_takers_16 = true := by decide +kernel
def k_takers_17 : List Ar := [.im (gl [i_ 5, i_ 5] [tz 0 0 1 0])]
def v_takers_17 : List Dt := [i_ 0, i_ 1]
theorem c_takers_17 : isF (f_takers k_takers_17) v_takers_17 = true := by decide +kernel
def k_takers_18 : List Ar := [.im (gl [i_ 5, i_ 5, i_ 5] [tz 0 0 1 0, tz 0 1 2 0])]
def v_takers_18 : List Dt := [i_ 1, i_ 2]
theorem c_takers_18 : isF (f_takers k_takers_18) v_takers_18 = true := by decide +kernel
def k_takers_19 : List Ar := [.im (gl [i_ 5, i_ 5, i_ 5] [tz 0 0 1 0, tz 0 1 2 0, tz 1 4 2 1])]
def v_takers_19 : List Dt := [i_ 0, i_ 1, i_ 2]
theorem c_takers_19 : isF (f_takers k_takers_19) v_takers_19 = true := by decide +kernel
def k_takers_20 : List Ar := [.im (gl [i_ 5, i_ 5, i_ 5] [tz 0 0 1 0, tz 0 2 2 0])]
def v_takers_20 : List Dt := [i_ 1, i_ 2]
theorem c_takers_20 : isF (f_takers k_takers_20) v_takers_20 = true := by decide +kernel
def k_takers_21 : List Ar := [.im (gl [i_ 6, i_ 6] [tz 0 0 1 0])]
def v_takers_21 : List Dt := [i_ 0, i_ 1]
theorem c_takers_21 : isF (f_takers k_takers_21) v_takers_21 = true := by decide +kernel
def k_takers_22 : List Ar := [.im (gl [i_ 6, i_ 6, i_ 6] [tz 0 0 1 0, tz 0 1 2 0, tz 1 5 2 1])]
def v_takers_22 : List Dt := [i_ 0, i_ 1, i_ 2]
theorem c_takers_22 : isF (f_takers k_takers_22) v_takers_22 = true := by decide +kernel
def k_takers_23 : List Ar := [.im (gl [i_ 6, i_ 6, i_ 6] [tz 0 0 1 0, tz 0 2 2 0])]
def v_takers_23 : List Dt := [i_ 1, i_ 2]
theorem c_takers_23 : isF (f_takers k_takers_23) v_takers_23 = true := by decide +kernel
def k_takers_24 : List Ar := [.im (gl [i_ 6, i_ 6, i_ 6] [tz 0 0 1 0, tz 0 3 2 0])]
def v_takers_24 : List Dt := [i_ 1, i_ 2]
theorem c_takers_24 : isF (f_takers k_takers_24) v_takers_24 = true := by decide +kernel
def tab_takers : List (List Ar × List Dt) := [(k_takers_0, v_takers_0), (k_takers_1, v_takers_1), (k_takers_2, v_takers_2), (k_takers_3, v_takers_3), (k_takers_4, v_takers_4), (k_takers_5, v_takers_5), (k_takers_6, v_takers_6), (k_takers_7, v_takers_7), (k_takers_8, v_takers_8), (k_takers_9, v_takers_9), (k_takers_10, v_takers_10), (k_takers_11, v_takers_11), (k_takers_12, v_takers_12), (k_takers_13, v_takers_13), (k_takers_14, v_takers_14), (k_takers_15, v_takers_15), (k_takers_16, v_takers_16), (k_takers_17, v_takers_17), (k_takers_18, v_takers_18), (k_takers_19, v_takers_19), (k_takers_20, v_takers_20), (k_takers_21, v_takers_21), (k_takers_22, v_takers_22), (k_takers_23, v_takers_23), (k_takers_24, v_takers_24)]
def t_takers : List Ar → Option Ct := lkF f_takers tab_takers
theorem ok_takers : TF f_takers tab_takers := .cons c_takers_0 (.cons c_takers_1 (.cons c_takers_2 (.cons c_takers_3 (.cons c_takers_4 (.cons c_takers_5 (.cons c_takers_6 (.cons c_takers_7 (.cons c_takers_8 (.cons c_takers_9 (.cons c_takers_10 (.cons c_takers_11 (.cons c_takers_12 (.cons c_takers_13 (.cons c_takers_14 (.cons c_takers_15 (.cons c_takers_16 (.cons c_takers_17 (.cons c_takers_18 (.cons c_takers_19 (.cons c_takers_20 (.cons c_takers_21 (.cons c_takers_22 (.cons c_takers_23 (.cons c_takers_24 (.nil)))))))))))))))))))))))))
end
end Wr

set_option maxHeartbeats 400000
namespace Wr
open PySem PySem.Spec PyProof.Rows L2
section
variable {P : Program} {w : World} {K : PySem.W.Frag} {mg : Str → Option Value} {base : Heap}
/-! ### grow -/
abbrev s_grow : Stmt := topS 52
abbrev n_grow : List Str := ["p", "q", "gluing", "found", "rim", "i", "k"]
theorem sc_grow : FnScope n_grow ["p", "q", "gluing", "found"] (defScope s_grow) := ⟨rfl, rfl, rfl, by decide +kernel, rfl, by decide +kernel, by decide +kernel⟩
def m_grow : MS := (mSeq (mSetI 4 (o2 (o1 (aConsI (vIm 2) aNil) t_rims) (cI 0) kIxL))
    (mFor (o1 (o1 (aConsI (vIm 0) (aConsI (vIm 1) (aConsI (o1 (aConsI (vIm 2) (aConsI (o2 (vIm 4) (cI 0) kIxT) aNil)) t_rim_word) aNil))) f_lays) kItems) (mTup (mCons (mName 5) (mCons (mName 6) mNil)))
    (mPutN 3 (oT (o1 (aConsI (o1 (aConsI (vIm 2) (aConsI (o2 (vIm 4) (vIm 5) kIxT) (aConsI (vIm 6) (aConsI (vIm 0) aNil)))) f_laid) aNil) t_form)))))
def f_grow : List Dt → List Dt → Option (List Dt) := runG 7 3 m_grow
theorem kn_grow {f : Addr} {fd : FuncData} (F : Fun K "grow" "grow" s_grow f fd) (hm : mg "grow" = some (.ref f)) (nb : Nb mg) (k_rims : Kn P w K mg base "rims" ["gluing"] 6 (spF t_rims)) (k_rim_word : Kn P w K mg base "rim_word" ["gluing", "side"] 6 (spI t_rim_word)) (k_lays : Kn P w K mg base "lays" ["p", "q", "word"] 2 (spF f_lays)) (k_laid : Kn P w K mg base "laid" ["gluing", "side", "k", "s"] 7 (spI f_laid)) (k_form : Kn P w K mg base "form" ["gluing"] 4 (spI t_form)) : Kn P w K mg base "grow" ["p", "q", "gluing", "found"] 8 (spG f_grow) :=
  Kn.of F hm (F.binds (ps := ["p", "q", "gluing", "found"]) fun _ _ _ _ _ _ us hl => match us, hl with | [_, _, _, _], _ => rfl) (fn_G (N := n_grow) (ps := ["p", "q", "gluing", "found"]) (m := m_grow) F sc_grow rfl (by decide)
    (sx_seq (sx_setI (i := 4) (by decide) (se_opCI (rci_ixL (K := K)) (SF.c (sf_call (E := E0) (sar_consI (se_var (i := 2)) sar_nil))) (se_cI (i := 0))))
    (sx_for (by decide) (si_list (K := K) (scn_o (SF.z (sf_call (E := E0) (sar_consI (se_var (i := 0)) (sar_consI (se_var (i := 1)) (sar_consI (se_call (E := E0) (sar_consI (se_var (i := 2)) (sar_consI (se_op (rii_ixT (K := K)) (se_var (i := 4)) (se_cI (i := 0))) sar_nil))) sar_nil))))))) (sg_tup (K := K) (sgs_cons (sg_name (i := 5)) (sgs_cons (sg_name (i := 6)) sgs_nil)))
    (sx_putN (i := 3) (se_call (E := E0) (sar_consI (se_call (E := E0) (sar_consI (se_var (i := 2)) (sar_consI (se_op (rii_ixT (K := K)) (se_var (i := 4)) (se_var (i := 5))) (sar_consI (se_var (i := 6)) (sar_consI (se_var (i := 0)) sar_nil))))) sar_nil)))))
    fun cdv A outer s H E hr => (pss_cons (ps_set (i := 4) sc_grow.nd rfl (.inl rfl) (pe_ix ix_list (k_rims.call hr (by decide) (by rfl) (pa_cons (pv 2) pa_nil)) pe_int (fun _ _ => rfl)))
    (pss_one (ps_for PassesOwn.never rfl (pi_list (k_lays.call hr (by decide) (by rfl) (pa_cons (pv 0) (pa_cons (pv 1) (pa_cons (k_rim_word.call hr (by decide) (by rfl) (pa_cons (pv 2) (pa_cons (pe_ix ix_tup (pv 4) pe_int (fun _ _ => rfl)) pa_nil))) pa_nil))))) (pg_tup rfl (pgs_cons (pg_name (i := 5) sc_grow.nd rfl (.inl rfl)) (pgs_cons (pg_name (i := 6) sc_grow.nd rfl (.inl rfl)) pgs_nil)))
    (pss_one (ps_asg pe_bl (pg_sub (pv 3) (k_form.call hr (by decide) (by rfl) (pa_cons (k_laid.call hr (by decide) (by rfl) (pa_cons (pv 2) (pa_cons (pe_ix ix_tup (pv 4) (pv 5) (fun _ _ => rfl)) (pa_cons (pv 6) (pa_cons (pv 0) pa_nil))))) pa_nil)) (set_N hr.units))))))))
/-! ### grown -/
abbrev s_grown : Stmt := topS 53
abbrev n_grown : List Str := ["p", "q", "forms", "found", "gluing"]
theorem sc_grown : FnScope n_grown ["p", "q", "forms"] (defScope s_grown) := ⟨rfl, rfl, rfl, by decide +kernel, rfl, by decide +kernel, by decide +kernel⟩
def m_grown : MS := (mSeq (mSetO 3 (fun _ => some (.dN [])))
    (mSeq (mFor (o1 (vFz 2) kItems) (mName 4)
    (mCallG 3 (aCons (vIm 0) (aCons (vIm 1) (aCons (vIm 4) aNil))) f_grow))
    (mRetF (o1 (aConsC (vCt 3) aNil) (kSortN (.tup [.seq .int, .seq (.tup [.tup [.int, .int], .tup [.int, .int]])]))))))
def f_grown : List Ar → Option Ct := argc 3 (runF 5 m_grown)
theorem kn_grown {f : Addr} {fd : FuncData} (F : Fun K "grown" "grown" s_grown f fd) (hm : mg "grown" = some (.ref f)) (nb : Nb mg) (k_grow : Kn P w K mg base "grow" ["p", "q", "gluing", "found"] 8 (spG f_grow)) : Kn P w K mg base "grown" ["p", "q", "forms"] 9 (spF f_grown) :=
  Kn.of F hm (F.binds (ps := ["p", "q", "forms"]) fun _ _ _ _ _ _ us hl => match us, hl with | [_, _, _], _ => rfl) (fn_F (N := n_grown) (ps := ["p", "q", "forms"]) (m := m_grown) F sc_grown (by decide)
    (ss_seq (ss_setO (i := 3) sf_newN)
    (ss_seq (ss_for (si_list (K := K) (scn_o (sz_var (i := 2)))) (sg_name (i := 4))
    (ss_callG (i := 3) (sao_cons (se_var (i := 0)) (sao_cons (se_var (i := 1)) (sao_cons (se_var (i := 4)) sao_last)))))
    (ss_retF (sf_cb (rb_sortN (t := (.tup [.seq .int, .seq (.tup [.tup [.int, .int], .tup [.int, .int]])]))) (sar_consC (sc_var (i := 3)) sar_nil)))))
    fun cdv A outer s H E hr => (pss_cons (ps_set (i := 3) sc_grown.nd rfl (.inl rfl) pe_dnewN)
    (pss_cons (ps_for PassesOwn.never rfl (pi_list (pv 2)) (pg_name (i := 4) sc_grown.nd rfl (.inl rfl))
    (pss_one (ps_expr (k_grow.call hr (by decide) (by rfl) (pa_cons (pv 0) (pa_cons (pv 1) (pa_cons (pv 4) (pa_cons (pv 3) pa_nil))))))))
    (pss_one (ps_ret (pe_callB (cr_sortN (t := (.tup [.seq .int, .seq (.tup [.tup [.int, .int], .tup [.int, .int]])])) rfl hr.units) (by rfl) nb.sorted PyProof.Rows.boot_sorted (pa_cons (pv 3) pa_nil)))))))
def k_grown_0 : List Ar := [.im (i_ 3), .im (i_ 6), .ct (.lst [gl [i_ 3] []])]
def v_grown_0 : List Dt := [gl [i_ 3, i_ 3] [tz 0 0 1 0]]
theorem c_grown_0 : isF (f_grown k_grown_0) v_grown_0 = true := by decide +kernel
def k_grown_1 : List Ar := [.im (i_ 3), .im (i_ 6), .ct (.lst [gl [i_ 3, i_ 3] [tz 0 0 1 0]])]
def v_grown_1 : List Dt := [gl [i_ 3, i_ 3, i_ 3] [tz 0 0 1 0, tz 0 1 2 0]]
theorem c_grown_1 : isF (f_grown k_grown_1) v_grown_1 = true := by decide +kernel
def k_grown_2 : List Ar := [.im (i_ 3), .im (i_ 6), .ct (.lst [gl [i_ 3, i_ 3, i_ 3] [tz 0 0 1 0, tz 0 1 2 0]])]
def v_grown_2 : List Dt := [gl [i_ 3, i_ 3, i_ 3, i_ 3] [tz 0 0 1 0, tz 0 1 2 0, tz 0 2 3 0], gl [i_ 3, i_ 3, i_ 3, i_ 3] [tz 0 0 1 0, tz 0 1 2 0, tz 1 1 3 0], gl [i_ 3, i_ 3, i_ 3, i_ 3] [tz 0 0 1 0, tz 0 1 2 0, tz 1 2 3 0], gl [i_ 3, i_ 3, i_ 3, i_ 3] [tz 0 0 1 0, tz 0 1 2 0, tz 2 2 3 0]]
theorem c_grown_2 : isF (f_grown k_grown_2) v_grown_2 = true := by decide +kernel
def k_grown_3 : List Ar := [.im (i_ 3), .im (i_ 7), .ct (.lst [gl [i_ 3] []])]
def v_grown_3 : List Dt := [gl [i_ 3, i_ 3] [tz 0 0 1 0]]
theorem c_grown_3 : isF (f_grown k_grown_3) v_grown_3 = true := by decide +kernel
def k_grown_4 : List Ar := [.im (i_ 3), .im (i_ 7), .ct (.lst [gl [i_ 3, i_ 3] [tz 0 0 1 0]])]
def v_grown_4 : List Dt := [gl [i_ 3, i_ 3, i_ 3] [tz 0 0 1 0, tz 0 1 2 0]]
theorem c_grown_4 : isF (f_grown k_grown_4) v_grown_4 = true := by decide +kernel
def k_grown_5 : List Ar := [.im (i_ 3), .im (i_ 7), .ct (.lst [gl [i_ 3, i_ 3, i_ 3] [tz 0 0 1 0, tz 0 1 2 0]])]
def v_grown_5 : List Dt := [gl [i_ 3, i_ 3, i_ 3, i_ 3] [tz 0 0 1 0, tz 0 1 2 0, tz 0 2 3 0], gl [i_ 3, i_ 3, i_ 3, i_ 3] [tz 0 0 1 0, tz 0 1 2 0, tz 1 1 3 0], gl [i_ 3, i_ 3, i_ 3, i_ 3] [tz 0 0 1 0, tz 0 1 2 0, tz 1 2 3 0], gl [i_ 3, i_ 3, i_ 3, i_ 3] [tz 0 0 1 0, tz 0 1 2 0, tz 2 2 3 0]]
theorem c_grown_5 : isF (f_grown k_grown_5) v_grown_5 = true := by decide +kernel
def k_grown_6 : List Ar := [.im (i_ 4), .im (i_ 4), .ct (.lst [gl [i_ 4] []])]
def v_grown_6 : List Dt := [gl [i_ 4, i_ 4] [tz 0 0 1 0]]
theorem c_grown_6 : isF (f_grown k_grown_6) v_grown_6 = true := by decide +kernel
def k_grown_7 : List Ar := [.im (i_ 4), .im (i_ 4), .ct (.lst [gl [i_ 4, i_ 4] [tz 0 0 1 0]])]
def v_grown_7 : List Dt := [gl [i_ 4, i_ 4, i_ 4] [tz 0 0 1 0, tz 0 1 2 0], gl [i_ 4, i_ 4, i_ 4] [tz 0 0 1 0, tz 0 2 2 0]]
theorem c_grown_7 : isF (f_grown k_grown_7) v_grown_7 = true := by decide +kernel
def k_grown_8 : List Ar := [.im (i_ 4), .im (i_ 4), .ct (.lst [gl [i_ 4, i_ 4, i_ 4] [tz 0 0 1 0, tz 0 1 2 0]])]
def v_grown_8 : List Dt := [gl [i_ 4, i_ 4, i_ 4, i_ 4] [tz 0 0 1 0, tz 0 1 2 0, tz 0 2 3 0], gl [i_ 4, i_ 4, i_ 4, i_ 4] [tz 0 0 1 0, tz 0 1 2 0, tz 1 1 3 0], gl [i_ 4, i_ 4, i_ 4, i_ 4] [tz 0 0 1 0, tz 0 1 2 0, tz 1 2 3 0], gl [i_ 4, i_ 4, i_ 4, i_ 4] [tz 0 0 1 0, tz 0 1 2 0, tz 1 3 3 0, tz 2 1 3 3], gl [i_ 4, i_ 4, i_ 4, i_ 4] [tz 0 0 1 0, tz 0 1 2 0, tz 2 2 3 0], gl [i_ 4, i_ 4, i_ 4, i_ 4] [tz 0 0 1 0, tz 0 1 2 0, tz 2 3 3 0]]
theorem c_grown_8 : isF (f_grown k_grown_8) v_grown_8 = true := by decide +kernel
def k_grown_9 : List Ar := [.im (i_ 4), .im (i_ 4), .ct (.lst [gl [i_ 4, i_ 4, i_ 4] [tz 0 0 1 0, tz 0 1 2 0], gl [i_ 4, i_ 4, i_ 4] [tz 0 0 1 0, tz 0 2 2 0]])]
def v_grown_9 : List Dt := [gl [i_ 4, i_ 4, i_ 4, i_ 4] [tz 0 0 1 0, tz 0 1 2 0, tz 0 2 3 0], gl [i_ 4, i_ 4, i_ 4, i_ 4] [tz 0 0 1 0, tz 0 1 2 0, tz 1 1 3 0], gl [i_ 4, i_ 4, i_ 4, i_ 4] [tz 0 0 1 0, tz 0 1 2 0, tz 1 2 3 0], gl [i_ 4, i_ 4, i_ 4, i_ 4] [tz 0 0 1 0, tz 0 1 2 0, tz 1 3 3 0, tz 2 1 3 3], gl [i_ 4, i_ 4, i_ 4, i_ 4] [tz 0 0 1 0, tz 0 1 2 0, tz 2 2 3 0], gl [i_ 4, i_ 4, i_ 4, i_ 4] [tz 0 0 1 0, tz 0 1 2 0, tz 2 3 3 0], gl [i_ 4, i_ 4, i_ 4, i_ 4] [tz 0 0 1 0, tz 0 2 2 0, tz 1 2 3 0]]
theorem c_grown_9 : isF (f_grown k_grown_9) v_grown_9 = true := by decide +kernel
def k_grown_10 : List Ar := [.im (i_ 4), .im (i_ 4), .ct (.lst [gl [i_ 4, i_ 4, i_ 4] [tz 0 0 1 0, tz 0 2 2 0]])]
def v_grown_10 : List Dt := [gl [i_ 4, i_ 4, i_ 4, i_ 4] [tz 0 0 1 0, tz 0 1 2 0, tz 0 2 3 0], gl [i_ 4, i_ 4, i_ 4, i_ 4] [tz 0 0 1 0, tz 0 1 2 0, tz 1 2 3 0], gl [i_ 4, i_ 4, i_ 4, i_ 4] [tz 0 0 1 0, tz 0 1 2 0, tz 2 2 3 0], gl [i_ 4, i_ 4, i_ 4, i_ 4] [tz 0 0 1 0, tz 0 2 2 0, tz 1 2 3 0]]
theorem c_grown_10 : isF (f_grown k_grown_10) v_grown_10 = true := by decide +kernel
def k_grown_11 : List Ar := [.im (i_ 4), .im (i_ 5), .ct (.lst [gl [i_ 4] []])]
def v_grown_11 : List Dt := [gl [i_ 4, i_ 4] [tz 0 0 1 0]]
theorem c_grown_11 : isF (f_grown k_grown_11) v_grown_11 = true := by decide +kernel
def k_grown_12 : List Ar := [.im (i_ 4), .im (i_ 5), .ct (.lst [gl [i_ 4, i_ 4] [tz 0 0 1 0]])]
def v_grown_12 : List Dt := [gl [i_ 4, i_ 4, i_ 4] [tz 0 0 1 0, tz 0 1 2 0], gl [i_ 4, i_ 4, i_ 4] [tz 0 0 1 0, tz 0 2 2 0]]
theorem c_grown_12 : isF (f_grown k_grown_12) v_grown_12 = true := by decide +kernel
def k_grown_13 : List Ar := [.im (i_ 4), .im (i_ 5), .ct (.lst [gl [i_ 4, i_ 4, i_ 4] [tz 0 0 1 0, tz 0 1 2 0]])]
def v_grown_13 : List Dt := [gl [i_ 4, i_ 4, i_ 4, i_ 4] [tz 0 0 1 0, tz 0 1 2 0, tz 0 2 3 0], gl [i_ 4, i_ 4, i_ 4, i_ 4] [tz 0 0 1 0, tz 0 1 2 0, tz 1 1 3 0], gl [i_ 4, i_ 4, i_ 4, i_ 4] [tz 0 0 1 0, tz 0 1 2 0, tz 1 2 3 0], gl [i_ 4, i_ 4, i_ 4, i_ 4] [tz 0 0 1 0, tz 0 1 2 0, tz 1 3 3 0], gl [i_ 4, i_ 4, i_ 4, i_ 4] [tz 0 0 1 0, tz 0 1 2 0, tz 2 2 3 0], gl [i_ 4, i_ 4, i_ 4, i_ 4] [tz 0 0 1 0, tz 0 1 2 0, tz 2 3 3 0]]
theorem c_grown_13 : isF (f_grown k_grown_13) v_grown_13 = true := by decide +kernel
def k_grown_14 : List Ar := [.im (i_ 4), .im (i_ 5), .ct (.lst [gl [i_ 4, i_ 4, i_ 4] [tz 0 0 1 0, tz 0 1 2 0], gl [i_ 4, i_ 4, i_ 4] [tz 0 0 1 0, tz 0 2 2 0]])]
def v_grown_14 : List Dt := [gl [i_ 4, i_ 4, i_ 4, i_ 4] [tz 0 0 1 0, tz 0 1 2 0, tz 0 2 3 0], gl [i_ 4, i_ 4, i_ 4, i_ 4] [tz 0 0 1 0, tz 0 1 2 0, tz 1 1 3 0], gl [i_ 4, i_ 4, i_ 4, i_ 4] [tz 0 0 1 0, tz 0 1 2 0, tz 1 2 3 0], gl [i_ 4, i_ 4, i_ 4, i_ 4] [tz 0 0 1 0, tz 0 1 2 0, tz 1 3 3 0], gl [i_ 4, i_ 4, i_ 4, i_ 4] [tz 0 0 1 0, tz 0 1 2 0, tz 2 2 3 0], gl [i_ 4, i_ 4, i_ 4, i_ 4] [tz 0 0 1 0, tz 0 1 2 0, tz 2 3 3 0], gl [i_ 4, i_ 4, i_ 4, i_ 4] [tz 0 0 1 0, tz 0 2 2 0, tz 1 2 3 0]]
theorem c_grown_14 : isF (f_grown k_grown_14) v_grown_14 = true := by decide +kernel
def k_grown_15 : List Ar := [.im (i_ 4), .im (i_ 5), .ct (.lst [gl [i_ 4, i_ 4, i_ 4] [tz 0 0 1 0, tz 0 2 2 0]])]
def v_grown_15 : List Dt := [gl [i_ 4, i_ 4, i_ 4, i_ 4] [tz 0 0 1 0, tz 0 1 2 0, tz 0 2 3 0], gl [i_ 4, i_ 4, i_ 4, i_ 4] [tz 0 0 1 0, tz 0 1 2 0, tz 1 2 3 0], gl [i_ 4, i_ 4, i_ 4, i_ 4] [tz 0 0 1 0, tz 0 1 2 0, tz 2 2 3 0], gl [i_ 4, i_ 4, i_ 4, i_ 4] [tz 0 0 1 0, tz 0 2 2 0, tz 1 2 3 0]]
theorem c_grown_15 : isF (f_grown k_grown_15) v_grown_15 = true := by decide +kernel
def k_grown_16 : List Ar := [.im (i_ 5), .im (i_ 3), .ct (.lst [gl [i_ 5] []])]
def v_grown_16 : List Dt := [gl [i_ 5, i_ 5] [tz 0 0 1 0]]
theorem c_grown_16 : isF (f_grown k_grown_16) v_grown_16 = true := by decide +kernel
def k_grown_17 : List Ar := [.im (i_ 5), .im (i_ 3), .ct (.lst [gl [i_ 5, i_ 5] [tz 0 0 1 0]])]
def v_grown_17 : List Dt := [gl [i_ 5, i_ 5, i_ 5] [tz 0 0 1 0, tz 0 1 2 0, tz 1 4 2 1], gl [i_ 5, i_ 5, i_ 5] [tz 0 0 1 0, tz 0 2 2 0]]
theorem c_grown_17 : isF (f_grown k_grown_17) v_grown_17 = true := by decide +kernel
def k_grown_18 : List Ar := [.im (i_ 5), .im (i_ 4), .ct (.lst [gl [i_ 5] []])]
def v_grown_18 : List Dt := [gl [i_ 5, i_ 5] [tz 0 0 1 0]]
theorem c_grown_18 : isF (f_grown k_grown_18) v_grown_18 = true := by decide +kernel
def k_grown_19 : List Ar := [.im (i_ 5), .im (i_ 4), .ct (.lst [gl [i_ 5, i_ 5] [tz 0 0 1 0]])]
def v_grown_19 : List Dt := [gl [i_ 5, i_ 5, i_ 5] [tz 0 0 1 0, tz 0 1 2 0], gl [i_ 5, i_ 5, i_ 5] [tz 0 0 1 0, tz 0 2 2 0]]
theorem c_grown_19 : isF (f_grown k_grown_19) v_grown_19 = true := by decide +kernel
def k_grown_20 : List Ar := [.im (i_ 6), .im (i_ 3), .ct (.lst [gl [i_ 6] []])]
def v_grown_20 : List Dt := [gl [i_ 6, i_ 6] [tz 0 0 1 0]]
theorem c_grown_20 : isF (f_grown k_grown_20) v_grown_20 = true := by decide +kernel
def k_grown_21 : List Ar := [.im (i_ 6), .im (i_ 3), .ct (.lst [gl [i_ 6, i_ 6] [tz 0 0 1 0]])]
def v_grown_21 : List Dt := [gl [i_ 6, i_ 6, i_ 6] [tz 0 0 1 0, tz 0 1 2 0, tz 1 5 2 1], gl [i_ 6, i_ 6, i_ 6] [tz 0 0 1 0, tz 0 2 2 0], gl [i_ 6, i_ 6, i_ 6] [tz 0 0 1 0, tz 0 3 2 0]]
theorem c_grown_21 : isF (f_grown k_grown_21) v_grown_21 = true := by decide +kernel
def tab_grown : List (List Ar × List Dt) := [(k_grown_0, v_grown_0), (k_grown_1, v_grown_1), (k_grown_2, v_grown_2), (k_grown_3, v_grown_3), (k_grown_4, v_grown_4), (k_grown_5, v_grown_5), (k_grown_6, v_grown_6), (k_grown_7, v_grown_7), (k_grown_8, v_grown_8), (k_grown_9, v_grown_9), (k_grown_10, v_grown_10), (k_grown_11, v_grown_11), (k_grown_12, v_grown_12), (k_grown_13, v_grown_13), (k_grown_14, v_grown_14), (k_grown_15, v_grown_15), (k_grown_16, v_grown_16), (k_grown_17, v_grown_17), (k_grown_18, v_grown_18), (k_grown_19, v_grown_19), (k_grown_20, v_grown_20), (k_grown_21, v_grown_21)]
def t_grown : List Ar → Option Ct := lkF f_grown tab_grown
theorem ok_grown : TF f_grown tab_grown := .cons c_grown_0 (.cons c_grown_1 (.cons c_grown_2 (.cons c_grown_3 (.cons c_grown_4 (.cons c_grown_5 (.cons c_grown_6 (.cons c_grown_7 (.cons c_grown_8 (.cons c_grown_9 (.cons c_grown_10 (.cons c_grown_11 (.cons c_grown_12 (.cons c_grown_13 (.cons c_grown_14 (.cons c_grown_15 (.cons c_grown_16 (.cons c_grown_17 (.cons c_grown_18 (.cons c_grown_19 (.cons c_grown_20 (.cons c_grown_21 (.nil))))))))))))))))))))))
/-! ### few_grown -/
abbrev s_few_grown : Stmt := topS 54
abbrev n_few_grown : List Str := ["p", "q", "forms", "found", "gluing"]
theorem sc_few_grown : FnScope n_few_grown ["p", "q", "forms"] (defScope s_few_grown) := ⟨rfl, rfl, rfl, by decide +kernel, rfl, by decide +kernel, by decide +kernel⟩
def m_few_grown : MS := (mSeq (mSetO 3 (fun _ => some (.dN [])))
    (mSeq (mFor (o1 (vFz 2) kItems) (mName 4)
    (mSeq (mCallG 3 (aCons (vIm 0) (aCons (vIm 1) (aCons (vIm 4) aNil))) f_grow)
    (mIf (o1 (o2 (o1 (aConsC (vCt 3) aNil) kLenN) (cI 2000) kGt) toB) mNever mNext)))
    (mRetF (o1 (aConsC (vCt 3) aNil) (kSortN (.tup [.seq .int, .seq (.tup [.tup [.int, .int], .tup [.int, .int]])]))))))
def f_few_grown : List Ar → Option Ct := argc 3 (runF 5 m_few_grown)
theorem kn_few_grown {f : Addr} {fd : FuncData} (F : Fun K "few_grown" "few_grown" s_few_grown f fd) (hm : mg "few_grown" = some (.ref f)) (nb : Nb mg) {t0 : Tok} (hM : mg "MOST" = some (.int 2000 t0)) (k_grow : Kn P w K mg base "grow" ["p", "q", "gluing", "found"] 8 (spG f_grow)) : Kn P w K mg base "few_grown" ["p", "q", "forms"] 9 (spF f_few_grown) :=
  Kn.of F hm (F.binds (ps := ["p", "q", "forms"]) fun _ _ _ _ _ _ us hl => match us, hl with | [_, _, _], _ => rfl) (fn_F (N := n_few_grown) (ps := ["p", "q", "forms"]) (m := m_few_grown) F sc_few_grown (by decide)
    (ss_seq (ss_setO (i := 3) sf_newN)
    (ss_seq (ss_for (si_list (K := K) (scn_o (sz_var (i := 2)))) (sg_name (i := 4))
    (ss_seq (ss_callG (i := 3) (sao_cons (se_var (i := 0)) (sao_cons (se_var (i := 1)) (sao_cons (se_var (i := 4)) sao_last))))
    (ss_if (st_test (se_op rii_gt (se_cb rb_lenN (sar_consC (sc_var (i := 3)) sar_nil)) (se_cI (i := 2000)))) ss_never ss_next)))
    (ss_retF (sf_cb (rb_sortN (t := (.tup [.seq .int, .seq (.tup [.tup [.int, .int], .tup [.int, .int]])]))) (sar_consC (sc_var (i := 3)) sar_nil)))))
    fun cdv A outer s H E hr => (pss_cons (ps_set (i := 3) sc_few_grown.nd rfl (.inl rfl) pe_dnewN)
    (pss_cons (ps_for PassesOwn.never rfl (pi_list (pv 2)) (pg_name (i := 4) sc_few_grown.nd rfl (.inl rfl))
    (pss_cons (ps_expr (k_grow.call hr (by decide) (by rfl) (pa_cons (pv 0) (pa_cons (pv 1) (pa_cons (pv 4) (pa_cons (pv 3) pa_nil))))))
    (pss_one (ps_if (pt_cmpR op_gt (pe_callB cr_lenN (by rfl) nb.len PySem.boot_len (pa_cons (pv 3) pa_nil)) (pe_glob (by rfl) hM ⟨t0, rfl⟩) (nomark _)) pss_never pss_nil))))
    (pss_one (ps_ret (pe_callB (cr_sortN (t := (.tup [.seq .int, .seq (.tup [.tup [.int, .int], .tup [.int, .int]])])) rfl hr.units) (by rfl) nb.sorted PyProof.Rows.boot_sorted (pa_cons (pv 3) pa_nil)))))))
def k_few_grown_0 : List Ar := [.im (i_ 4), .im (i_ 4), .ct (.lst [gl [i_ 4] []])]
def v_few_grown_0 : List Dt := [gl [i_ 4, i_ 4] [tz 0 0 1 0]]
theorem c_few_grown_0 : isF (f_few_grown k_few_grown_0) v_few_grown_0 = true := by decide +kernel
def k_few_grown_1 : List Ar := [.im (i_ 4), .im (i_ 4), .ct (.lst [gl [i_ 4, i_ 4] [tz 0 0 1 0]])]
def v_few_grown_1 : List Dt := [gl [i_ 4, i_ 4, i_ 4] [tz 0 0 1 0, tz 0 1 2 0], gl [i_ 4, i_ 4, i_ 4] [tz 0 0 1 0, tz 0 2 2 0]]
theorem c_few_grown_1 : isF (f_few_grown k_few_grown_1) v_few_grown_1 = true := by decide +kernel
def k_few_grown_2 : List Ar := [.im (i_ 4), .im (i_ 4), .ct (.lst [gl [i_ 4, i_ 4, i_ 4] [tz 0 0 1 0, tz 0 1 2 0], gl [i_ 4, i_ 4, i_ 4] [tz 0 0 1 0, tz 0 2 2 0]])]
def v_few_grown_2 : List Dt := [gl [i_ 4, i_ 4, i_ 4, i_ 4] [tz 0 0 1 0, tz 0 1 2 0, tz 0 2 3 0], gl [i_ 4, i_ 4, i_ 4, i_ 4] [tz 0 0 1 0, tz 0 1 2 0, tz 1 1 3 0], gl [i_ 4, i_ 4, i_ 4, i_ 4] [tz 0 0 1 0, tz 0 1 2 0, tz 1 2 3 0], gl [i_ 4, i_ 4, i_ 4, i_ 4] [tz 0 0 1 0, tz 0 1 2 0, tz 1 3 3 0, tz 2 1 3 3], gl [i_ 4, i_ 4, i_ 4, i_ 4] [tz 0 0 1 0, tz 0 1 2 0, tz 2 2 3 0], gl [i_ 4, i_ 4, i_ 4, i_ 4] [tz 0 0 1 0, tz 0 1 2 0, tz 2 3 3 0], gl [i_ 4, i_ 4, i_ 4, i_ 4] [tz 0 0 1 0, tz 0 2 2 0, tz 1 2 3 0]]
theorem c_few_grown_2 : isF (f_few_grown k_few_grown_2) v_few_grown_2 = true := by decide +kernel
def k_few_grown_3 : List Ar := [.im (i_ 3), .im (i_ 6), .ct (.lst [gl [i_ 3] []])]
def v_few_grown_3 : List Dt := [gl [i_ 3, i_ 3] [tz 0 0 1 0]]
theorem c_few_grown_3 : isF (f_few_grown k_few_grown_3) v_few_grown_3 = true := by decide +kernel
def k_few_grown_4 : List Ar := [.im (i_ 3), .im (i_ 6), .ct (.lst [gl [i_ 3, i_ 3] [tz 0 0 1 0]])]
def v_few_grown_4 : List Dt := [gl [i_ 3, i_ 3, i_ 3] [tz 0 0 1 0, tz 0 1 2 0]]
theorem c_few_grown_4 : isF (f_few_grown k_few_grown_4) v_few_grown_4 = true := by decide +kernel
def k_few_grown_5 : List Ar := [.im (i_ 3), .im (i_ 6), .ct (.lst [gl [i_ 3, i_ 3, i_ 3] [tz 0 0 1 0, tz 0 1 2 0]])]
def v_few_grown_5 : List Dt := [gl [i_ 3, i_ 3, i_ 3, i_ 3] [tz 0 0 1 0, tz 0 1 2 0, tz 0 2 3 0], gl [i_ 3, i_ 3, i_ 3, i_ 3] [tz 0 0 1 0, tz 0 1 2 0, tz 1 1 3 0], gl [i_ 3, i_ 3, i_ 3, i_ 3] [tz 0 0 1 0, tz 0 1 2 0, tz 1 2 3 0], gl [i_ 3, i_ 3, i_ 3, i_ 3] [tz 0 0 1 0, tz 0 1 2 0, tz 2 2 3 0]]
theorem c_few_grown_5 : isF (f_few_grown k_few_grown_5) v_few_grown_5 = true := by decide +kernel
def k_few_grown_6 : List Ar := [.im (i_ 6), .im (i_ 3), .ct (.lst [gl [i_ 6] []])]
def v_few_grown_6 : List Dt := [gl [i_ 6, i_ 6] [tz 0 0 1 0]]
theorem c_few_grown_6 : isF (f_few_grown k_few_grown_6) v_few_grown_6 = true := by decide +kernel
def k_few_grown_7 : List Ar := [.im (i_ 6), .im (i_ 3), .ct (.lst [gl [i_ 6, i_ 6] [tz 0 0 1 0]])]
def v_few_grown_7 : List Dt := [gl [i_ 6, i_ 6, i_ 6] [tz 0 0 1 0, tz 0 1 2 0, tz 1 5 2 1], gl [i_ 6, i_ 6, i_ 6] [tz 0 0 1 0, tz 0 2 2 0], gl [i_ 6, i_ 6, i_ 6] [tz 0 0 1 0, tz 0 3 2 0]]
theorem c_few_grown_7 : isF (f_few_grown k_few_grown_7) v_few_grown_7 = true := by decide +kernel
def k_few_grown_8 : List Ar := [.im (i_ 4), .im (i_ 5), .ct (.lst [gl [i_ 4] []])]
def v_few_grown_8 : List Dt := [gl [i_ 4, i_ 4] [tz 0 0 1 0]]
theorem c_few_grown_8 : isF (f_few_grown k_few_grown_8) v_few_grown_8 = true := by decide +kernel
def k_few_grown_9 : List Ar := [.im (i_ 4), .im (i_ 5), .ct (.lst [gl [i_ 4, i_ 4] [tz 0 0 1 0]])]
def v_few_grown_9 : List Dt := [gl [i_ 4, i_ 4, i_ 4] [tz 0 0 1 0, tz 0 1 2 0], gl [i_ 4, i_ 4, i_ 4] [tz 0 0 1 0, tz 0 2 2 0]]
theorem c_few_grown_9 : isF (f_few_grown k_few_grown_9) v_few_grown_9 = true := by decide +kernel
def k_few_grown_10 : List Ar := [.im (i_ 4), .im (i_ 5), .ct (.lst [gl [i_ 4, i_ 4, i_ 4] [tz 0 0 1 0, tz 0 1 2 0], gl [i_ 4, i_ 4, i_ 4] [tz 0 0 1 0, tz 0 2 2 0]])]
def v_few_grown_10 : List Dt := [gl [i_ 4, i_ 4, i_ 4, i_ 4] [tz 0 0 1 0, tz 0 1 2 0, tz 0 2 3 0], gl [i_ 4, i_ 4, i_ 4, i_ 4] [tz 0 0 1 0, tz 0 1 2 0, tz 1 1 3 0], gl [i_ 4, i_ 4, i_ 4, i_ 4] [tz 0 0 1 0, tz 0 1 2 0, tz 1 2 3 0], gl [i_ 4, i_ 4, i_ 4, i_ 4] [tz 0 0 1 0, tz 0 1 2 0, tz 1 3 3 0], gl [i_ 4, i_ 4, i_ 4, i_ 4] [tz 0 0 1 0, tz 0 1 2 0, tz 2 2 3 0], gl [i_ 4, i_ 4, i_ 4, i_ 4] [tz 0 0 1 0, tz 0 1 2 0, tz 2 3 3 0], gl [i_ 4, i_ 4, i_ 4, i_ 4] [tz 0 0 1 0, tz 0 2 2 0, tz 1 2 3 0]]
theorem c_few_grown_10 : isF (f_few_grown k_few_grown_10) v_few_grown_10 = true := by decide +kernel
def k_few_grown_11 : List Ar := [.im (i_ 3), .im (i_ 7), .ct (.lst [gl [i_ 3] []])]
def v_few_grown_11 : List Dt := [gl [i_ 3, i_ 3] [tz 0 0 1 0]]
theorem c_few_grown_11 : isF (f_few_grown k_few_grown_11) v_few_grown_11 = true := by decide +kernel
def k_few_grown_12 : List Ar := [.im (i_ 3), .im (i_ 7), .ct (.lst [gl [i_ 3, i_ 3] [tz 0 0 1 0]])]
def v_few_grown_12 : List Dt := [gl [i_ 3, i_ 3, i_ 3] [tz 0 0 1 0, tz 0 1 2 0]]
theorem c_few_grown_12 : isF (f_few_grown k_few_grown_12) v_few_grown_12 = true := by decide +kernel
def k_few_grown_13 : List Ar := [.im (i_ 3), .im (i_ 7), .ct (.lst [gl [i_ 3, i_ 3, i_ 3] [tz 0 0 1 0, tz 0 1 2 0]])]
def v_few_grown_13 : List Dt := [gl [i_ 3, i_ 3, i_ 3, i_ 3] [tz 0 0 1 0, tz 0 1 2 0, tz 0 2 3 0], gl [i_ 3, i_ 3, i_ 3, i_ 3] [tz 0 0 1 0, tz 0 1 2 0, tz 1 1 3 0], gl [i_ 3, i_ 3, i_ 3, i_ 3] [tz 0 0 1 0, tz 0 1 2 0, tz 1 2 3 0], gl [i_ 3, i_ 3, i_ 3, i_ 3] [tz 0 0 1 0, tz 0 1 2 0, tz 2 2 3 0]]
theorem c_few_grown_13 : isF (f_few_grown k_few_grown_13) v_few_grown_13 = true := by decide +kernel
def k_few_grown_14 : List Ar := [.im (i_ 5), .im (i_ 4), .ct (.lst [gl [i_ 5] []])]
def v_few_grown_14 : List Dt := [gl [i_ 5, i_ 5] [tz 0 0 1 0]]
theorem c_few_grown_14 : isF (f_few_grown k_few_grown_14) v_few_grown_14 = true := by decide +kernel
def k_few_grown_15 : List Ar := [.im (i_ 5), .im (i_ 4), .ct (.lst [gl [i_ 5, i_ 5] [tz 0 0 1 0]])]
def v_few_grown_15 : List Dt := [gl [i_ 5, i_ 5, i_ 5] [tz 0 0 1 0, tz 0 1 2 0], gl [i_ 5, i_ 5, i_ 5] [tz 0 0 1 0, tz 0 2 2 0]]
theorem c_few_grown_15 : isF (f_few_grown k_few_grown_15) v_few_grown_15 = true := by decide +kernel
def k_few_grown_16 : List Ar := [.im (i_ 5), .im (i_ 3), .ct (.lst [gl [i_ 5] []])]
def v_few_grown_16 : List Dt := [gl [i_ 5, i_ 5] [tz 0 0 1 0]]
theorem c_few_grown_16 : isF (f_few_grown k_few_grown_16) v_few_grown_16 = true := by decide +kernel
def k_few_grown_17 : List Ar := [.im (i_ 5), .im (i_ 3), .ct (.lst [gl [i_ 5, i_ 5] [tz 0 0 1 0]])]
def v_few_grown_17 : List Dt := [gl [i_ 5, i_ 5, i_ 5] [tz 0 0 1 0, tz 0 1 2 0, tz 1 4 2 1], gl [i_ 5, i_ 5, i_ 5] [tz 0 0 1 0, tz 0 2 2 0]]
theorem c_few_grown_17 : isF (f_few_grown k_few_grown_17) v_few_grown_17 = true := by decide +kernel
def tab_few_grown : List (List Ar × List Dt) := [(k_few_grown_0, v_few_grown_0), (k_few_grown_1, v_few_grown_1), (k_few_grown_2, v_few_grown_2), (k_few_grown_3, v_few_grown_3), (k_few_grown_4, v_few_grown_4), (k_few_grown_5, v_few_grown_5), (k_few_grown_6, v_few_grown_6), (k_few_grown_7, v_few_grown_7), (k_few_grown_8, v_few_grown_8), (k_few_grown_9, v_few_grown_9), (k_few_grown_10, v_few_grown_10), (k_few_grown_11, v_few_grown_11), (k_few_grown_12, v_few_grown_12), (k_few_grown_13, v_few_grown_13), (k_few_grown_14, v_few_grown_14), (k_few_grown_15, v_few_grown_15), (k_few_grown_16, v_few_grown_16), (k_few_grown_17, v_few_grown_17)]
def t_few_grown : List Ar → Option Ct := lkF f_few_grown tab_few_grown
theorem ok_few_grown : TF f_few_grown tab_few_grown := .cons c_few_grown_0 (.cons c_few_grown_1 (.cons c_few_grown_2 (.cons c_few_grown_3 (.cons c_few_grown_4 (.cons c_few_grown_5 (.cons c_few_grown_6 (.cons c_few_grown_7 (.cons c_few_grown_8 (.cons c_few_grown_9 (.cons c_few_grown_10 (.cons c_few_grown_11 (.cons c_few_grown_12 (.cons c_few_grown_13 (.cons c_few_grown_14 (.cons c_few_grown_15 (.cons c_few_grown_16 (.cons c_few_grown_17 (.nil))))))))))))))))))
/-! ### all_discs -/
abbrev s_all_discs : Stmt := topS 55
abbrev n_all_discs : List Str := ["p", "q", "n", "found", "_"]
theorem sc_all_discs : FnScope n_all_discs ["p", "q", "n"] (defScope s_all_discs) := ⟨rfl, rfl, rfl, by decide +kernel, rfl, by decide +kernel, by decide +kernel⟩
def m_all_discs : MS := (mSeq (mSetO 3 (o1 (aCons (o1 (aConsI (o1 (aConsI (vIm 0) aNil) f_one_tile) aNil) t_form) aNil) kLst))
    (mSeq (mFor (o1 (aCons (o2 (vIm 2) (cI 1) kSub) aNil) kRng1) (mName 4)
    (mSetO 3 (o1 (aConsI (vIm 0) (aConsI (vIm 1) (aConsC (vCt 3) aNil))) t_few_grown)))
    (mRetO 3)))
def f_all_discs : List Ar → Option Ct := argc 3 (runF 5 m_all_discs)
theorem kn_all_discs {f : Addr} {fd : FuncData} (F : Fun K "all_discs" "all_discs" s_all_discs f fd) (hm : mg "all_discs" = some (.ref f)) (nb : Nb mg) (k_one_tile : Kn P w K mg base "one_tile" ["s"] 1 (spI f_one_tile)) (k_form : Kn P w K mg base "form" ["gluing"] 4 (spI t_form)) (k_few_grown : Kn P w K mg base "few_grown" ["p", "q", "forms"] 9 (spF t_few_grown)) : Kn P w K mg base "all_discs" ["p", "q", "n"] 10 (spF f_all_discs) :=
  Kn.of F hm (F.binds (ps := ["p", "q", "n"]) fun _ _ _ _ _ _ us hl => match us, hl with | [_, _, _], _ => rfl) (fn_F (N := n_all_discs) (ps := ["p", "q", "n"]) (m := m_all_discs) F sc_all_discs (by decide)
    (ss_seq (ss_setO (i := 3) (sf_lst (sai_cons (se_call (E := E0) (sar_consI (se_call (E := E0) (sar_consI (se_var (i := 0)) sar_nil)) sar_nil)) sai_nil)))
    (ss_seq (ss_for (si_rng1 (sai_cons (se_op rii_sub (se_var (i := 2)) (se_cI (i := 1))) sai_nil)) (sg_name (i := 4))
    (ss_setO (i := 3) (sf_call (E := E0) (sar_consI (se_var (i := 0)) (sar_consI (se_var (i := 1)) (sar_consC (sc_var (i := 3)) sar_nil))))))
    (ss_retO (i := 3))))
    fun cdv A outer s H E hr => (pss_cons (ps_set (i := 3) sc_all_discs.nd rfl (.inl rfl) (pe_lst (pa_cons (k_form.call hr (by decide) (by rfl) (pa_cons (k_one_tile.call hr (by decide) (by rfl) (pa_cons (pv 0) pa_nil)) pa_nil)) pa_nil)))
    (pss_cons (ps_for PassesOwn.never rfl (pi_range1 (by rfl) nb.range (pa_cons (pe_op op_sub (pv 2) pe_int) pa_nil)) (pg_name (i := 4) sc_all_discs.nd rfl (.inl rfl))
    (pss_one (ps_set (i := 3) sc_all_discs.nd rfl (.inl rfl) (k_few_grown.call hr (by decide) (by rfl) (pa_cons (pv 0) (pa_cons (pv 1) (pa_cons (pv 3) pa_nil)))))))
    (pss_one (ps_ret (pv 3))))))
/-! ### _law_balance_right -/
abbrev s_law_balance_right : Stmt := topS 63
abbrev n_law_balance_right : List Str := ["_law_p", "_law_q", "_law_fewer", "_law_more", "_law_laid", "_law_took", "_law_gluing", "_law_side", "_law_common", "_law_many", "_law_turns"]
theorem sc_law_balance_right : FnScope n_law_balance_right ["_law_p", "_law_q", "_law_fewer", "_law_more"] (defScope s_law_balance_right) := ⟨rfl, rfl, rfl, by decide +kernel, rfl, by decide +kernel, by decide +kernel⟩
def m_law_balance_right : MS := (mSeq (mPar [4, 5] (sO (o1 aNil kLst) (sO (o1 aNil kLst) aNil)))
    (mSeq (mFor (o1 (vFz 2) kItems) (mName 6)
    (mSeq (mSetI 7 (o2 (o2 (o1 (aConsI (vIm 6) aNil) t_rims) (cI 0) kIxL) (cI 0) kIxT))
    (mApp 4 (o1 (aCons (o1 (aConsC (o1 (aConsI (vIm 0) (aConsI (vIm 1) (aConsI (o1 (aConsI (vIm 6) (aConsI (vIm 7) aNil)) t_rim_word) aNil))) f_lays) aNil) kLen) (aCons (o1 (aConsC (o1 (aConsI (vIm 6) aNil) t_starts) aNil) kLen) aNil)) kTup))))
    (mSeq (mFor (o1 (vFz 3) kItems) (mName 6)
    (mApp 5 (o1 (aCons (o1 (aConsC (o1 (aConsI (vIm 6) aNil) t_takers) aNil) kLen) (aCons (o1 (aConsC (o1 (aConsI (vIm 6) aNil) t_starts) aNil) kLen) aNil)) kTup)))
    (mSeq (mSetI 8 (cI 1))
    (mSeq (mFor (o1 (o2 (vCt 4) (vCt 5) kCat) kItems) (mTup (mCons (mName 9) (mCons (mName 10) mNil)))
    (mSetI 8 (o2 (vIm 8) (vIm 10) kMul)))
    (mRetI (o2 (o1 (aConsC (mLc (o1 (vCt 4) kItems) (mTup (mCons (mName 9) (mCons (mName 10) mNil))) tY (o2 (o2 (vIm 9) (vIm 8) kMul) (vIm 10) kDiv) [9, 10]) aNil) kSum) (o1 (aConsC (mLc (o1 (vCt 5) kItems) (mTup (mCons (mName 9) (mCons (mName 10) mNil))) tY (o2 (o2 (vIm 9) (vIm 8) kMul) (vIm 10) kDiv) [9, 10]) aNil) kSum) (kEq id))))))))
def f_law_balance_right : List Ar → Option Dt := argc 4 (runI 11 m_law_balance_right)
theorem kn_law_balance_right {f : Addr} {fd : FuncData} (F : Fun K "_law_balance_right" "_law_balance_right" s_law_balance_right f fd) (hm : mg "_law_balance_right" = some (.ref f)) (nb : Nb mg) (k_rims : Kn P w K mg base "rims" ["gluing"] 6 (spF t_rims)) (k_starts : Kn P w K mg base "starts" ["gluing"] 5 (spF t_starts)) (k_rim_word : Kn P w K mg base "rim_word" ["gluing", "side"] 6 (spI t_rim_word)) (k_lays : Kn P w K mg base "lays" ["p", "q", "word"] 2 (spF f_lays)) (k_takers : Kn P w K mg base "takers" ["gluing"] 10 (spF t_takers)) : Kn P w K mg base "_law_balance_right" ["_law_p", "_law_q", "_law_fewer", "_law_more"] 11 (spI f_law_balance_right) :=
  Kn.of F hm (F.binds (ps := ["_law_p", "_law_q", "_law_fewer", "_law_more"]) fun _ _ _ _ _ _ us hl => match us, hl with | [_, _, _, _], _ => rfl) (fn_I (N := n_law_balance_right) (ps := ["_law_p", "_law_q", "_law_fewer", "_law_more"]) (m := m_law_balance_right) F sc_law_balance_right (by decide)
    (ss_seq (ss_par (i := 4) (j := 5) (sm_O (sf_lst sai_nil) (sm_O (sf_lst sai_nil) sm_nil)))
    (ss_seq (ss_for (si_list (K := K) (scn_o (sz_var (i := 2)))) (sg_name (i := 6))
    (ss_seq (ss_setI (i := 7) (se_op (rii_ixT (K := K)) (se_opCI (rci_ixL (K := K)) (SF.c (sf_call (E := E0) (sar_consI (se_var (i := 6)) sar_nil))) (se_cI (i := 0))) (se_cI (i := 0))))
    (ss_app (K := K) (i := 4) (se_tup (sai_cons (se_cb (rb_len (K := K)) (sar_consC (SF.c (sf_call (E := E0) (sar_consI (se_var (i := 0)) (sar_consI (se_var (i := 1)) (sar_consI (se_call (E := E0) (sar_consI (se_var (i := 6)) (sar_consI (se_var (i := 7)) sar_nil))) sar_nil))))) sar_nil)) (sai_cons (se_cb (rb_len (K := K)) (sar_consC (SF.c (sf_call (E := E0) (sar_consI (se_var (i := 6)) sar_nil))) sar_nil)) sai_nil))))))
    (ss_seq (ss_for (si_list (K := K) (scn_o (sz_var (i := 3)))) (sg_name (i := 6))
    (ss_app (K := K) (i := 5) (se_tup (sai_cons (se_cb (rb_len (K := K)) (sar_consC (SF.c (sf_call (E := E0) (sar_consI (se_var (i := 6)) sar_nil))) sar_nil)) (sai_cons (se_cb (rb_len (K := K)) (sar_consC (SF.c (sf_call (E := E0) (sar_consI (se_var (i := 6)) sar_nil))) sar_nil)) sai_nil)))))
    (ss_seq (ss_setI (i := 8) (se_cI (i := 1)))
    (ss_seq (ss_for (si_list (K := K) (scn_o (SF.z (sf_cat (sc_var (i := 4)) (sc_var (i := 5)))))) (sg_tup (K := K) (sgs_cons (sg_name (i := 9)) (sgs_cons (sg_name (i := 10)) sgs_nil)))
    (ss_setI (i := 8) (se_op rii_mul (se_var (i := 8)) (se_var (i := 10)))))
    (ss_retI (se_op (rii_eq (K := K)) (se_cb (rb_sum (K := K)) (sar_consC (SF.c (sf_lc (vs := [9, 10]) (si_list (K := K) (scn_a (sc_var (i := 4)))) (sg_tup (K := K) (sgs_cons (sg_name (i := 9)) (sgs_cons (sg_name (i := 10)) sgs_nil))) st_yes (se_op rii_div (se_op rii_mul (se_var (i := 9)) (se_var (i := 8))) (se_var (i := 10))) (by decide))) sar_nil)) (se_cb (rb_sum (K := K)) (sar_consC (SF.c (sf_lc (vs := [9, 10]) (si_list (K := K) (scn_a (sc_var (i := 5)))) (sg_tup (K := K) (sgs_cons (sg_name (i := 9)) (sgs_cons (sg_name (i := 10)) sgs_nil))) st_yes (se_op rii_div (se_op rii_mul (se_var (i := 9)) (se_var (i := 8))) (se_var (i := 10))) (by decide))) sar_nil)))))))))
    fun cdv A outer s H E hr => (pss_cons (ps_par (i := 4) (j := 5) rfl sc_law_balance_right.nd rfl rfl (by decide) rfl rfl (pa_cons (pe_lst pa_nil) (pa_cons (pe_lst pa_nil) pa_nil)) (by rfl))
    (pss_cons (ps_for PassesOwn.never rfl (pi_list (pv 2)) (pg_name (i := 6) sc_law_balance_right.nd rfl (.inl rfl))
    (pss_cons (ps_set (i := 7) sc_law_balance_right.nd rfl (.inl rfl) (pe_ix ix_tup (pe_ix ix_list (k_rims.call hr (by decide) (by rfl) (pa_cons (pv 6) pa_nil)) pe_int (fun _ _ => rfl)) pe_int (fun _ _ => rfl)))
    (pss_one (ps_expr (pe_bm PySem.F.plainAttrs_list PySem.F.slot_list_append PySem.F.type_list_append mt_append (pv 4) (pa_cons (pe_tup (pa_cons (pe_callB call_len_seq (by rfl) nb.len PySem.boot_len (pa_cons (k_lays.call hr (by decide) (by rfl) (pa_cons (pv 0) (pa_cons (pv 1) (pa_cons (k_rim_word.call hr (by decide) (by rfl) (pa_cons (pv 6) (pa_cons (pv 7) pa_nil))) pa_nil)))) pa_nil)) (pa_cons (pe_callB call_len_seq (by rfl) nb.len PySem.boot_len (pa_cons (k_starts.call hr (by decide) (by rfl) (pa_cons (pv 6) pa_nil)) pa_nil)) pa_nil))) pa_nil))))))
    (pss_cons (ps_for PassesOwn.never rfl (pi_list (pv 3)) (pg_name (i := 6) sc_law_balance_right.nd rfl (.inl rfl))
    (pss_one (ps_expr (pe_bm PySem.F.plainAttrs_list PySem.F.slot_list_append PySem.F.type_list_append mt_append (pv 5) (pa_cons (pe_tup (pa_cons (pe_callB call_len_seq (by rfl) nb.len PySem.boot_len (pa_cons (k_takers.call hr (by decide) (by rfl) (pa_cons (pv 6) pa_nil)) pa_nil)) (pa_cons (pe_callB call_len_seq (by rfl) nb.len PySem.boot_len (pa_cons (k_starts.call hr (by decide) (by rfl) (pa_cons (pv 6) pa_nil)) pa_nil)) pa_nil))) pa_nil)))))
    (pss_cons (ps_set (i := 8) sc_law_balance_right.nd rfl (.inr rfl) pe_int)
    (pss_cons (ps_for PassesOwn.never rfl (pi_list (pe_op op_cat (pv 4) (pv 5))) (pg_tup rfl (pgs_cons (pg_name (i := 9) sc_law_balance_right.nd rfl (.inl rfl)) (pgs_cons (pg_name (i := 10) sc_law_balance_right.nd rfl (.inl rfl)) pgs_nil)))
    (pss_one (ps_set (i := 8) sc_law_balance_right.nd rfl (.inr rfl) (pe_op op_mul (pv 8) (pv 10)))))
    (pss_one (ps_ret (pe_cmpR (op_eqD hr.units) (pe_callB (cr_sum rfl) (by rfl) nb.sum PyProof.Rows.boot_sum (pa_cons (pe_lc (own := [("_law_many", 9), ("_law_turns", 10)]) rfl sc_law_balance_right.nd (pi_list (pv 4)) (blkOk_by (N := n_law_balance_right) (sc := defScope s_law_balance_right) (by decide +kernel)) (fun _ _ _ _ _ => (pg_tup rfl (pgs_cons (pg_name (i := 9) sc_law_balance_right.nd rfl (by first | exact .inl rfl | exact .inr rfl)) (pgs_cons (pg_name (i := 10) sc_law_balance_right.nd rfl (by first | exact .inl rfl | exact .inr rfl)) pgs_nil)))) (fun _ _ _ _ _ => pts_nil) (fun _ _ _ _ _ => (pe_op op_fdiv (pe_op op_mul (pv 9) (pv 8)) (pv 10)))) pa_nil)) (pe_callB (cr_sum rfl) (by rfl) nb.sum PyProof.Rows.boot_sum (pa_cons (pe_lc (own := [("_law_many", 9), ("_law_turns", 10)]) rfl sc_law_balance_right.nd (pi_list (pv 5)) (blkOk_by (N := n_law_balance_right) (sc := defScope s_law_balance_right) (by decide +kernel)) (fun _ _ _ _ _ => (pg_tup rfl (pgs_cons (pg_name (i := 9) sc_law_balance_right.nd rfl (by first | exact .inl rfl | exact .inr rfl)) (pgs_cons (pg_name (i := 10) sc_law_balance_right.nd rfl (by first | exact .inl rfl | exact .inr rfl)) pgs_nil)))) (fun _ _ _ _ _ => pts_nil) (fun _ _ _ _ _ => (pe_op op_fdiv (pe_op op_mul (pv 9) (pv 8)) (pv 10)))) pa_nil)) (nomark _))))))))))
end
end Wr

set_option maxHeartbeats 400000
namespace Wr
open PySem PySem.Spec PyProof.Rows L2
section
variable {P : Program} {w : World} {K : PySem.W.Frag} {mg : Str → Option Value} {base : Heap}
abbrev s_law : Stmt := topS 64
abbrev n_law : List Str := ["_law_script", "_law_source", "_law_p", "_law_q", "_law_n", "_law_fewer", "_law_more", "_law_gluing", "_law_homes", "_law_word", "_law_t", "_law_home"]
theorem sc_law : FnScope n_law ["_law_script"] (defScope s_law) := ⟨rfl, rfl, rfl, by decide +kernel, rfl, by decide +kernel, by decide +kernel⟩
def m_law : MS := (mSeq (mPar [5, 6] (sZ (o1 (aConsI (vIm 2) (aConsI (vIm 3) (aConsI (vIm 4) aNil))) f_all_discs) (sZ (o1 (aConsI (vIm 2) (aConsI (vIm 3) (aConsI (o2 (vIm 4) (cI 1) kAdd) aNil))) f_all_discs) aNil)))
    (mSeq (mIf (bOr (o1 (o2 (o1 (aConsI (vIm 2) (aConsI (vIm 3) (aConsC (vFz 5) aNil))) t_grown) (vFz 6) (kEqC not)) toB) (o1 (o1 (o1 (aConsI (vIm 2) (aConsI (vIm 3) (aConsC (vFz 5) (aConsC (vFz 6) aNil)))) f_law_balance_right) toB) fun b => some (!b))) (mRetI (cB false)) mNext)
    (mSeq (mFor (o1 (vFz 6) kItems) (mName 7)
    (mSeq (mSetZ 8 (mLc (o1 (o1 (aConsI (vIm 7) aNil) t_takers) kItems) (mName 10) tY (o1 (aConsI (o1 (aConsI (vIm 7) (aConsI (vIm 10) aNil)) f_taken) aNil) t_form) [10]))
    (mSeq (mIf (bOr (o1 (o2 (vFz 8) (o1 aNil kLst) (kEqC id)) toB) (bOr (o1 (o1 (o1 (aConsC (mLc (o1 (vFz 8) kItems) (mName 11) tY (o2 (vIm 11) (vFz 5) (kIn id)) [11]) aNil) (kBools fun l => l.all id)) toB) fun b => some (!b)) (o1 (o2 (vIm 7) (o1 (aConsI (vIm 2) (aConsI (vIm 3) (aConsC (fSl (vFz 8) pN (pS (cI 1)) kSlL) aNil))) t_grown) (kIn not)) toB))) (mRetI (cB false)) mNext)
    (mSeq (mSetI 9 (o1 (aConsI (vIm 7) (aConsI (o2 (o2 (o1 (aConsI (vIm 7) aNil) t_rims) (cI 0) kIxL) (cI 0) kIxT) aNil)) t_rim_word))
    (mIf (o1 (o2 (o2 (o2 (vIm 4) (cI 1) kAdd) (o2 (o2 (cI 2) (vIm 3) kMul) (o2 (o2 (vIm 3) (cI 2) kSub) (vIm 2) kMul) kSub) kMul) (o2 (o2 (o2 (cI 2) (vIm 3) kMul) (o2 (vIm 3) (o1 (aConsI (vIm 9) aNil) kLen) kMul) kSub) (o2 (cI 2) (o1 (aConsI (vIm 9) aNil) kSumT) kMul) kAdd) (kEq not)) toB) (mRetI (cB false)) mNext)))))
    (mRetI (cB true)))))
/- the rest of law: level 12 -/
def enL (p q n : Int) : En := [none, none, some (.im (.int p)), some (.im (.int q)), some (.im (.int n)), none, none, none, none, none, none, none]
def okL (p q n : Int) : Bool := match m_law (enL p q n) with
  | some (.rI (.bl b)) => b
  | _ => false
theorem R.pqn {H : Hp} {σ : L2.St} {p q n : Int} (hl : σ.length = 12) (h2 : σ[2]? = some (some (.int p))) (h3 : σ[3]? = some (some (.int q))) (h4 : σ[4]? = some (some (.int n))) : R H H σ (enL p q n) := by
  have nc : ∀ i c, sget (enL p q n) i = some (.fz c) ∨ sget (enL p q n) i = some (.ow c) → False := fun i c h => by
    match i with
    | 0 | 1 | 2 | 3 | 4 | 5 | 6 | 7 | 8 | 9 | 10 | 11 => rcases h with h | h <;> cases h
    | i + 12 => rcases h with h | h <;> cases h
  refine ⟨Same.refl H, hl, fun i d h => ?_, fun i c h => (nc i c (.inl h)).elim, fun i c h => (nc i c (.inr h)).elim, fun i j c c' a h => (nc i c (.inr h)).elim⟩
  match i with
  | 2 => cases h; exact ⟨_, h2, .int _⟩
  | 3 => cases h; exact ⟨_, h3, .int _⟩
  | 4 => cases h; exact ⟨_, h4, .int _⟩
  | 0 | 1 | 5 | 6 | 7 | 8 | 9 | 10 | 11 => cases h
  | i + 12 => cases h
theorem R.blank {H : Hp} {σ : L2.St} (hl : σ.length = 12) : R H H σ (blanks 12) := by
  refine ⟨Same.refl H, by rw [blanks_len]; exact hl, fun i d h => ?_, fun i c h => ?_, fun i c h => ?_, fun i j c c' a h => ?_⟩ <;> (rw [blanks_get] at h; cases h)
def pqs : List (Int × Int) := [(4, 4), (3, 6), (6, 3), (4, 5), (3, 7), (5, 4), (5, 3)]
def dPQ (p q : Int) : Dt := .tup [.int p, .int q]
def eighteen : Bool := pqs.all fun x => okL x.1 x.2 1 && okL x.1 x.2 2 && (!(decide (x.1 < 5)) || okL x.1 x.2 3)
theorem okL_of (h : eighteen = true) {p q n : Int} (hm : (p, q) ∈ pqs) (h1 : 1 ≤ n) (h2 : n < 1 + (if decide (p < 5) = true then 3 else 2)) : m_law (enL p q n) = some (.rI (.bl true)) := by
  have a := List.all_eq_true.mp h _ hm
  rw [Bool.and_eq_true, Bool.and_eq_true] at a
  have b : okL p q n = true := by
    by_cases hp : p < 5
    · rw [if_pos (decide_eq_true hp)] at h2
      have c := a.2
      rw [show decide ((p, q).1 < 5) = true from decide_eq_true hp] at c
      rcases (show n = 1 ∨ n = 2 ∨ n = 3 by omega) with rfl | rfl | rfl
      · exact a.1.1
      · exact a.1.2
      · exact c
    · rw [if_neg (by rw [decide_eq_true_eq]; exact hp)] at h2
      rcases (show n = 1 ∨ n = 2 by omega) with rfl | rfl
      · exact a.1.1
      · exact a.1.2
  unfold okL at b
  split at b
  · rename_i e
    rw [e, b]
  · cases b
def spLaw (K : PySem.W.Frag) : Sp := fun vs H Q _ => ∃ (a : Addr) (ns : List Int), vs = [.ref a] ∧ SqL K H a (ns.map V.int) ∧ ns.length ≤ 63 ∧ ∀ H', Q (.bl true) H'
theorem pqs_at {n : Nat} (h : n < 7) : ∃ p q, nth [dPQ 4 4, dPQ 3 6, dPQ 6 3, dPQ 4 5, dPQ 3 7, dPQ 5 4, dPQ 5 3] n = some (dPQ p q) ∧ (p, q) ∈ pqs := by
  match n with
  | 0 => exact ⟨4, 4, rfl, by decide⟩
  | 1 => exact ⟨3, 6, rfl, by decide⟩
  | 2 => exact ⟨6, 3, rfl, by decide⟩
  | 3 => exact ⟨4, 5, rfl, by decide⟩
  | 4 => exact ⟨3, 7, rfl, by decide⟩
  | 5 => exact ⟨5, 4, rfl, by decide⟩
  | 6 => exact ⟨5, 3, rfl, by decide⟩
  | n + 7 => omega
abbrev aPQ (t : TA) (p q : Int) : TA := tCons (tTup (tCons (tC (.int p)) (tCons (tC (.int q)) tNil))) t
theorem sai_PQ {t : TA} {f : En → Option (List Dt)} {p q : Int} (h : SAi t f) : SAi (aPQ t p q) (aCons (o1 (aCons (cI p) (aCons (cI q) aNil)) kTup) f) := sai_cons (se_tup (sai_cons se_cI (sai_cons se_cI sai_nil))) h
theorem dPQ_e {p q : Int} {ε : En} : o1 (aCons (cI p) (aCons (cI q) aNil)) kTup ε = some (dPQ p q) := rfl
theorem cons_e {f : En → Option Dt} {g : En → Option (List Dt)} {ε : En} {d : Dt} {l : List Dt} (h1 : f ε = some d) (h2 : g ε = some l) : aCons f g ε = some (d :: l) := by
  unfold aCons o2
  rw [h1, h2]
theorem aPQ_e {p q : Int} {ε : En} {f : En → Option (List Dt)} {l : List Dt} (h : f ε = some l) : aCons (o1 (aCons (cI p) (aCons (cI q) aNil)) kTup) f ε = some (dPQ p q :: l) := cons_e dPQ_e h
abbrev fPQ (p q : Int) (f : En → Option (List Dt)) : En → Option (List Dt) := aCons (o1 (aCons (cI p) (aCons (cI q) aNil)) kTup) f
theorem pqs_e {ε : En} : o1 (fPQ 4 4 (fPQ 3 6 (fPQ 6 3 (fPQ 4 5 (fPQ 3 7 (fPQ 5 4 (fPQ 5 3 aNil))))))) kLst ε = some (.lst [dPQ 4 4, dPQ 3 6, dPQ 6 3, dPQ 4 5, dPQ 3 7, dPQ 5 4, dPQ 5 3]) := by
  have h : fPQ 4 4 (fPQ 3 6 (fPQ 6 3 (fPQ 4 5 (fPQ 3 7 (fPQ 5 4 (fPQ 5 3 aNil)))))) ε = some [dPQ 4 4, dPQ 3 6, dPQ 6 3, dPQ 4 5, dPQ 3 7, dPQ 5 4, dPQ 5 3] := aPQ_e (aPQ_e (aPQ_e (aPQ_e (aPQ_e (aPQ_e (aPQ_e (rfl : aNil ε = some [])))))))
  unfold o1
  rw [h]
  rfl
theorem op_intro {r : R2} {ta tb : TE} {σ : L2.St} {H : Hp} {Q : VK} (h : ta σ H fun x H1 => tb σ H1 fun y H2 => r x y H2 Q) : tOp r ta tb σ H Q := h
abbrev tPQs : TE := tLst (aPQ (aPQ (aPQ (aPQ (aPQ (aPQ (aPQ tNil 5 3) 5 4) 3 7) 4 5) 6 3) 3 6) 4 4)
theorem law_rest {f : Addr} (nb : Nb mg)
    (k_all_discs : Kn P w K mg base "all_discs" ["p", "q", "n"] 10 (spF f_all_discs)) (k_grown : Kn P w K mg base "grown" ["p", "q", "forms"] 9 (spF t_grown)) (k_law_balance_right : Kn P w K mg base "_law_balance_right" ["_law_p", "_law_q", "_law_fewer", "_law_more"] 11 (spI f_law_balance_right)) (k_takers : Kn P w K mg base "takers" ["gluing"] 10 (spF t_takers)) (k_taken : Kn P w K mg base "taken" ["gluing", "t"] 3 (spI f_taken)) (k_form : Kn P w K mg base "form" ["gluing"] 4 (spI t_form)) (k_rims : Kn P w K mg base "rims" ["gluing"] 6 (spF t_rims)) (k_rim_word : Kn P w K mg base "rim_word" ["gluing", "side"] 6 (spI t_rim_word)) : ∃ t, SS t m_law ∧ ∀ (cdv : Value) (A : Around) (outer : List Env) (s : Shared) (H : Hp) (E : XK), Room 11 (A.deeper (envOfC "law" (defScope s_law) s.heap.objs.size f cdv)) →
      PSs (cxOf CX0 P w K mg base n_law "law" (defScope s_law) f cdv A outer s H E).nox ((defBody s_law).drop 3) t :=
  ⟨_, (ss_seq (ss_parT (K := K) (is := [5, 6]) (n := 2) rfl rfl (sm_Z (sf_call (E := E0) (sar_consI (se_var (i := 2)) (sar_consI (se_var (i := 3)) (sar_consI (se_var (i := 4)) sar_nil)))) (sm_Z (sf_call (E := E0) (sar_consI (se_var (i := 2)) (sar_consI (se_var (i := 3)) (sar_consI (se_op rii_add (se_var (i := 4)) (se_cI (i := 1))) sar_nil)))) sm_nil)))
    (ss_seq (ss_if (st_or (st_test (se_opCC (rcc_ne (K := K)) (SF.c (sf_call (E := E0) (sar_consI (se_var (i := 2)) (sar_consI (se_var (i := 3)) (sar_consC (SZ.c (sz_var (i := 5))) sar_nil))))) (SZ.c (sz_var (i := 6))))) (st_not (st_B (se_call (E := E0) (sar_consI (se_var (i := 2)) (sar_consI (se_var (i := 3)) (sar_consC (SZ.c (sz_var (i := 5))) (sar_consC (SZ.c (sz_var (i := 6))) sar_nil)))))))) (ss_retI (se_cB (b := false))) ss_next)
    (ss_seq (ss_for (si_list (K := K) (scn_o (sz_var (i := 6)))) (sg_name (i := 7))
    (ss_seq (ss_setZ (i := 8) (SF.z (sf_lc (vs := [10]) (si_list (K := K) (scn_a (SF.c (sf_call (E := E0) (sar_consI (se_var (i := 7)) sar_nil))))) (sg_name (i := 10)) st_yes (se_call (E := E0) (sar_consI (se_call (E := E0) (sar_consI (se_var (i := 7)) (sar_consI (se_var (i := 10)) sar_nil))) sar_nil)) (by decide))))
    (ss_seq (ss_if (st_or (st_test (se_opCC (rcc_eq (K := K)) (SZ.c (sz_var (i := 8))) (SF.c (sf_lst sai_nil)))) (st_or (st_not (st_B (se_cb (rb_all (K := K)) (sar_consC (SF.c (sf_lc (vs := [11]) (si_list (K := K) (scn_a (SZ.c (sz_var (i := 8))))) (sg_name (i := 11)) st_yes (se_opIC (ric_in (K := K)) (se_var (i := 11)) (SZ.c (sz_var (i := 5)))) (by decide))) sar_nil)))) (st_test (se_opIC (ric_notIn (K := K)) (se_var (i := 7)) (SF.c (sf_call (E := E0) (sar_consI (se_var (i := 2)) (sar_consI (se_var (i := 3)) (sar_consC (SF.c (sf_slL (K := K) (SZ.c (sz_var (i := 8))) so_none (so_some (se_cI (i := 1))))) sar_nil))))))))) (ss_retI (se_cB (b := false))) ss_next)
    (ss_seq (ss_setI (i := 9) (se_call (E := E0) (sar_consI (se_var (i := 7)) (sar_consI (se_op (rii_ixT (K := K)) (se_opCI (rci_ixL (K := K)) (SF.c (sf_call (E := E0) (sar_consI (se_var (i := 7)) sar_nil))) (se_cI (i := 0))) (se_cI (i := 0))) sar_nil))))
    (ss_if (st_test (se_op (rii_ne (K := K)) (se_op rii_mul (se_op rii_add (se_var (i := 4)) (se_cI (i := 1))) (se_op rii_sub (se_op rii_mul (se_cI (i := 2)) (se_var (i := 3))) (se_op rii_mul (se_op rii_sub (se_var (i := 3)) (se_cI (i := 2))) (se_var (i := 2))))) (se_op rii_add (se_op rii_sub (se_op rii_mul (se_cI (i := 2)) (se_var (i := 3))) (se_op rii_mul (se_var (i := 3)) (se_cb (rb_len (K := K)) (sar_consI (se_var (i := 9)) sar_nil)))) (se_op rii_mul (se_cI (i := 2)) (se_cb rb_sumT (sar_consI (se_var (i := 9)) sar_nil)))))) (ss_retI (se_cB (b := false))) ss_next)))))
    (ss_retI (se_cB (b := true)))))),
    fun cdv A outer s H E hr => (pss_cons (ps_asg (pe_tup (pa_cons (k_all_discs.call hr (by decide) (by rfl) (pa_cons (pv 2) (pa_cons (pv 3) (pa_cons (pv 4) pa_nil)))) (pa_cons (k_all_discs.call hr (by decide) (by rfl) (pa_cons (pv 2) (pa_cons (pv 3) (pa_cons (pe_op op_add (pv 4) pe_int) pa_nil)))) pa_nil))) (pg_tup rfl (pgs_cons (pg_name (i := 5) sc_law.nd rfl (.inr rfl)) (pgs_cons (pg_name (i := 6) sc_law.nd rfl (.inl rfl)) pgs_nil))))
    (pss_cons (ps_if (PW.pt (pw_or (pt_cmpR (op_neD hr.units) (k_grown.call hr (by decide) (by rfl) (pa_cons (pv 2) (pa_cons (pv 3) (pa_cons (pv 5) pa_nil)))) (pv 6) (nomark _)) (pw_or1 (pt_not (pt_val (k_law_balance_right.call hr (by decide) (by rfl) (pa_cons (pv 2) (pa_cons (pv 3) (pa_cons (pv 5) (pa_cons (pv 6) pa_nil)))))))))) (pss_one (ps_ret pe_bl)) pss_nil)
    (pss_cons (ps_for PassesOwn.never rfl (pi_list (pv 6)) (pg_name (i := 7) sc_law.nd rfl (.inr rfl))
    (pss_cons (ps_setLc (i := 8) (own := [("_law_t", 10)]) rfl sc_law.nd rfl rfl (sw_true rfl rfl rfl (by decide +kernel)) (pi_list (k_takers.call hr (by decide) (by rfl) (pa_cons (pv 7) pa_nil))) (blkOk_by (N := n_law) (sc := defScope s_law) (by decide +kernel)) (fun _ _ _ _ _ => (pg_name (i := 10) sc_law.nd rfl (by first | exact .inl rfl | exact .inr rfl))) (fun _ _ _ _ _ => pts_nil) (fun _ _ _ _ _ => (k_form.call hr (by decide) (by rfl) (pa_cons (k_taken.call hr (by decide) (by rfl) (pa_cons (pv 7) (pa_cons (pv 10) pa_nil))) pa_nil))))
    (pss_cons (ps_if (PW.pt (pw_or (pt_cmpR (op_eqD hr.units) (pv 8) (pe_lst pa_nil) (nomark _)) (pw_or (pt_not (pt_val (pe_callB (cr_all rfl) (by rfl) nb.all PyProof.Rows.boot_all (pa_cons (pe_lc (own := [("_law_home", 11)]) rfl sc_law.nd (pi_list (pv 8)) (blkOk_by (N := n_law) (sc := defScope s_law) (by decide +kernel)) (fun _ _ _ _ _ => (pg_name (i := 11) sc_law.nd rfl (by first | exact .inl rfl | exact .inr rfl))) (fun _ _ _ _ _ => pts_nil) (fun _ _ _ _ _ => (pe_cmpR (op_inD (hu65 hr)) (pv 11) (pv 5) (by rfl)))) pa_nil)))) (pw_or1 (pt_cmpR (op_notInD (hu65 hr)) (pv 7) (k_grown.call hr (by decide) (by rfl) (pa_cons (pv 2) (pa_cons (pv 3) (pa_cons (pe_slice sl_list (pv 8) po_none (po_some pe_int)) pa_nil)))) (by rfl)))))) (pss_one (ps_ret pe_bl)) pss_nil)
    (pss_cons (ps_set (i := 9) sc_law.nd rfl (.inl rfl) (k_rim_word.call hr (by decide) (by rfl) (pa_cons (pv 7) (pa_cons (pe_ix ix_tup (pe_ix ix_list (k_rims.call hr (by decide) (by rfl) (pa_cons (pv 7) pa_nil)) pe_int (fun _ _ => rfl)) pe_int (fun _ _ => rfl)) pa_nil))))
    (pss_one (ps_if (pt_cmpR (op_neD hr.units) (pe_op op_mul (pe_op op_add (pv 4) pe_int) (pe_op op_sub (pe_op op_mul pe_int (pv 3)) (pe_op op_mul (pe_op op_sub (pv 3) pe_int) (pv 2)))) (pe_op op_add (pe_op op_sub (pe_op op_mul pe_int (pv 3)) (pe_op op_mul (pv 3) (pe_callB call_len_seq (by rfl) nb.len PySem.boot_len (pa_cons (pv 9) pa_nil)))) (pe_op op_mul pe_int (pe_callB (cr_sumT rfl) (by rfl) nb.sum PyProof.Rows.boot_sum (pa_cons (pv 9) pa_nil)))) (nomark _)) (pss_one (ps_ret pe_bl)) pss_nil))))))
    (pss_one (ps_ret pe_bl)))))⟩
theorem kn_law {f : Addr} {fd : FuncData} (F : Fun K "law" "law" s_law f fd) (nb : Nb mg) (ck : eighteen = true) (k_open : Kn P w K mg base "_law_open_cells" ["_law_script"] 1 (spOpen K)) (k_pick : Kn P w K mg base "_law_pick" ["_law_source", "_law_most"] 1 spPick)
    (k_all_discs : Kn P w K mg base "all_discs" ["p", "q", "n"] 10 (spF f_all_discs)) (k_grown : Kn P w K mg base "grown" ["p", "q", "forms"] 9 (spF t_grown)) (k_law_balance_right : Kn P w K mg base "_law_balance_right" ["_law_p", "_law_q", "_law_fewer", "_law_more"] 11 (spI f_law_balance_right)) (k_takers : Kn P w K mg base "takers" ["gluing"] 10 (spF t_takers)) (k_taken : Kn P w K mg base "taken" ["gluing", "t"] 3 (spI f_taken)) (k_form : Kn P w K mg base "form" ["gluing"] 4 (spI t_form)) (k_rims : Kn P w K mg base "rims" ["gluing"] 6 (spF t_rims)) (k_rim_word : Kn P w K mg base "rim_word" ["gluing", "side"] 6 (spI t_rim_word)) : FnOk P w K mg base CX0 12 f fd ["_law_script"] (spLaw K) := by
  obtain ⟨t, hS, hP⟩ := law_rest (P := P) (w := w) (base := base) (f := f) nb k_all_discs k_grown k_law_balance_right k_takers k_taken k_form k_rims k_rim_word
  refine F.ok (N := n_law) (ps := ["_law_script"]) (k := 11) sc_law (fun vs H Q E h => ?_) fun cdv A outer s H vs Q E hr h => ?_
  · obtain ⟨a, ns, rfl, _⟩ := h
    rfl
  · obtain ⟨a, ns, rfl, hS1, hlen, q⟩ := h
    refine ⟨tSeq (tAsg (tCall (spOpen K) [] E0 (tCons (tVar 0) tNil)) (gName 1))
      (tSeq (tAsg (tOp (rIxL K) tPQs (tCall spPick [] E0 (tCons (tVar 1) (tCons (tC (.int 7)) tNil)))) (gTup K 2 (gCons (gName 2) (gCons (gName 3) gNil))))
      (tSeq (tAsg (tOp rAdd (tC (.int 1)) (tCall spPick [] E0 (tCons (tVar 1) (tCons (tIf (tTest (tOp rLt (tVar 2) (tC (.int 5)))) (tC (.int 3)) (tC (.int 2))) tNil)))) (gName 4)) t)),
      pss_cons (ps_set (i := 1) sc_law.nd rfl (.inl rfl) (k_open.call hr (by decide) (by rfl) (pa_cons (pv 0) pa_nil)))
      (pss_cons (ps_asg (pe_ix ix_list (pe_lst (pa_cons (pe_tup (pa_cons pe_int (pa_cons pe_int pa_nil))) (pa_cons (pe_tup (pa_cons pe_int (pa_cons pe_int pa_nil))) (pa_cons (pe_tup (pa_cons pe_int (pa_cons pe_int pa_nil))) (pa_cons (pe_tup (pa_cons pe_int (pa_cons pe_int pa_nil))) (pa_cons (pe_tup (pa_cons pe_int (pa_cons pe_int pa_nil))) (pa_cons (pe_tup (pa_cons pe_int (pa_cons pe_int pa_nil))) (pa_cons (pe_tup (pa_cons pe_int (pa_cons pe_int pa_nil))) pa_nil)))))))) (k_pick.call hr (by decide) (by rfl) (pa_cons (pv 1) (pa_cons pe_int pa_nil))) (fun _ _ => rfl)) (pg_tup rfl (pgs_cons (pg_name (i := 2) sc_law.nd rfl (.inl rfl)) (pgs_cons (pg_name (i := 3) sc_law.nd rfl (.inl rfl)) pgs_nil))))
      (pss_cons (ps_set (i := 4) sc_law.nd rfl (.inl rfl) (pe_op op_add pe_int (k_pick.call hr (by decide) (by rfl) (pa_cons (pv 1) (pa_cons (pe_ifExp (pt_cmpR op_lt (pv 2) pe_int (nomark _)) pe_int pe_int) pa_nil)))))
      (hP cdv A outer s H E hr))), ?_⟩
    refine ⟨.ref a, rfl, a, ns, rfl, hS1, hlen, fun H1 p c xs m s1 hp hc S => ?_⟩
    refine name_intro ?_
    dsimp only
    refine seq_intro (asg_intro (op_intro ?_))
    refine sf_lst (sai_PQ (sai_PQ (sai_PQ (sai_PQ (sai_PQ (sai_PQ (sai_PQ sai_nil))))))) H1 H1 _ (blanks 12) _ (R.blank rfl) pqs_e _ fun H2 l s2 hl => ?_
    refine ⟨.ref p, rfl, p, c, xs, 1, m, 0, 7, rfl, ⟨s2 _ _ S.hp, s2 _ _ S.hc, S.ne, S.len⟩, by decide, by decide, fun H3 r xs3 l3 t3 r0 r7 kp S3 => ?_⟩
    have ⟨lz, hli, hre, hfr⟩ : ∃ lz, H2 l = some (.lst lz) ∧ Reps H2 [dPQ 4 4, dPQ 3 6, dPQ 6 3, dPQ 4 5, dPQ 3 7, dPQ 5 4, dPQ 5 3] lz ∧ H1 l = none := by
      cases hl with
      | lst g1 g2 g3 => exact ⟨_, g2, g3, g1⟩
    have hlp : l ≠ p := fun z => by subst z; rw [S.hp] at hfr; cases hfr
    have hlc : l ≠ c := fun z => by subst z; rw [S.hc] at hfr; cases hfr
    obtain ⟨pp, qq, hn, hmem⟩ := pqs_at (n := r.toNat) (by omega)
    obtain ⟨x, hx, rx⟩ := hre.nth hn
    obtain ⟨tt, ys, rfl, g1, g2⟩ := rep_tup rx
    have hys : ys = [V.int pp, V.int qq] := by
      cases g2 with
      | cons a1 a2 =>
        cases a2 with
        | cons a3 a4 =>
          cases a1
          cases a3
          cases a4
          rfl
    subst hys
    have htp : tt ≠ p := fun z => by subst z; rw [s2 _ _ S.hp] at g1; cases g1
    have htc : tt ≠ c := fun z => by subst z; rw [s2 _ _ S.hc] at g1; cases g1
    refine ⟨l, lz, r, .ref tt, rfl, rfl, SqL.of (kp l _ hlp hlc hli), ?_, ?_⟩
    · have e : r = (r.toNat : Int) := by omega
      rw [e]
      exact atI_nat hx
    refine ⟨tt, [V.int pp, V.int qq], rfl, SqT.of (kp tt _ htp htc g1), rfl, .int pp, [.int qq], rfl, .int qq, [], rfl, rfl, ?_⟩
    have fin : ∀ (H4 : Hp) (r : Int), 0 ≤ r → r < (if decide (pp < 5) = true then 3 else 2) → _ := fun H4 r h0 h1 =>
      hS H4 H4 [some (.ref a), some (.ref p), some (.int pp), some (.int qq), some (.int (1 + r)), none, none, none, none, none, none, none] (enL pp qq (1 + r)) _ (R.pqn rfl rfl rfl rfl) (okL_of ck hmem (by omega) (by omega)) { nx := fun x H' => Q V.non H', rt := Q } fun H' v _ rv => by
        cases rv
        exact q H'
    refine ⟨.ref p, rfl, .int pp, rfl, pp, 5, rfl, rfl, _, rfl, ite2 (fun e => ?_) (fun e => ?_)⟩
    · refine ⟨p, c, xs3, l3, m, t3, 3, rfl, S3, by decide, by decide, fun H4 r2 xs4 l4 t4 z0 z1 kp4 S4 => ⟨1, r2, rfl, rfl, ?_⟩⟩
      exact fin H4 r2 z0 (by rw [if_pos e]; exact z1)
    · refine ⟨p, c, xs3, l3, m, t3, 2, rfl, S3, by decide, by decide, fun H4 r2 xs4 l4 t4 z0 z1 kp4 S4 => ⟨1, r2, rfl, rfl, ?_⟩⟩
      exact fin H4 r2 z0 (by rw [if_neg e]; exact z1)

end
end Wr

set_option maxHeartbeats 4000000
namespace Wr
open PySem PySem.Spec PyProof.Rows L2
theorem e_4_4_1 : okL 4 4 1 = true := by decide +kernel
theorem e_4_4_2 : okL 4 4 2 = true := by decide +kernel
theorem e_4_4_3 : okL 4 4 3 = true := by decide +kernel
theorem e_3_6_1 : okL 3 6 1 = true := by decide +kernel
theorem e_3_6_2 : okL 3 6 2 = true := by decide +kernel
theorem e_3_6_3 : okL 3 6 3 = true := by decide +kernel
theorem e_6_3_1 : okL 6 3 1 = true := by decide +kernel
theorem e_6_3_2 : okL 6 3 2 = true := by decide +kernel
theorem e_4_5_1 : okL 4 5 1 = true := by decide +kernel
theorem e_4_5_2 : okL 4 5 2 = true := by decide +kernel
theorem e_4_5_3 : okL 4 5 3 = true := by decide +kernel
theorem e_3_7_1 : okL 3 7 1 = true := by decide +kernel
theorem e_3_7_2 : okL 3 7 2 = true := by decide +kernel
theorem e_3_7_3 : okL 3 7 3 = true := by decide +kernel
theorem e_5_4_1 : okL 5 4 1 = true := by decide +kernel
theorem e_5_4_2 : okL 5 4 2 = true := by decide +kernel
theorem e_5_3_1 : okL 5 3 1 = true := by decide +kernel
theorem e_5_3_2 : okL 5 3 2 = true := by decide +kernel
theorem eighteen_ok : eighteen = true := by
  unfold eighteen pqs
  simp [e_4_4_1, e_4_4_2, e_4_4_3, e_3_6_1, e_3_6_2, e_3_6_3, e_6_3_1, e_6_3_2, e_4_5_1, e_4_5_2, e_4_5_3, e_3_7_1, e_3_7_2, e_3_7_3, e_5_4_1, e_5_4_2, e_5_3_1, e_5_3_2]
structure FnAt (K : PySem.W.Frag) (x y : Str) (st : Stmt) : Prop where
  ex : ∃ f fd, PySem.W.nsIn K mainGlobals x = some (some (.ref f)) ∧ Fun K y y st f fd
theorem fnAt {K : PySem.W.Frag} {x y : Str} {st : Stmt} {f : Addr} {od an : Option Addr} {osl : Array (Option Value)} {oc kV doc pm cdv ct : Value} {h : Heap} (_ : K.In h) (a : PySem.W.nsIn K mainGlobals x = some (some (.ref f)))
    (l : K.lookup f = some ⟨oc, od, .func (PySem.W.fnOf y y (defArgs st) (defBody st) (defScope st) .none kV doc pm an cdv ct), osl⟩) (c : PySem.W.codeIn K cdv y = true) (k : PySem.W.keepIn K (.ref f) = true) : FnAt K x y st := ⟨f, _, a, fun_mk l c k⟩
theorem all_mk {l : PySem.W.OpenLaw} {w : World} {K : PySem.W.Frag} {h : Heap} {mg : Str → Option Value} {fa : Addr} (X : K.In h) (G : h.Ns mainGlobals mg) (hfa : mg "law" = some (.ref fa)) (ck : eighteen = true)
    (F_sides_of : FnAt K "sides_of" "sides_of" s_sides_of)
    (F_mates_gluings : FnAt K "mates_gluings" "mates" s_mates_gluings)
    (F_mate_of : FnAt K "mate_of" "mate_of" s_mate_of)
    (F_one_tile : FnAt K "one_tile" "one_tile" s_one_tile)
    (F_ordered : FnAt K "ordered" "ordered" s_ordered)
    (F_part_of : FnAt K "part_of" "part_of" s_part_of)
    (F_named : FnAt K "named" "named" s_named)
    (F_mates_corners : FnAt K "mates_corners" "mates" s_mates_corners)
    (F_step_on : FnAt K "step_on" "step_on" s_step_on)
    (F_step_back : FnAt K "step_back" "step_back" s_step_back)
    (F_onward : FnAt K "onward" "onward" s_onward)
    (F_walked : FnAt K "walked" "walked" s_walked)
    (F_corner_at : FnAt K "corner_at" "corner_at" s_corner_at)
    (F_is_inner : FnAt K "is_inner" "is_inner" s_is_inner)
    (F_shares : FnAt K "shares" "shares" s_shares)
    (F_corners : FnAt K "corners" "corners" s_corners)
    (F_corner_table : FnAt K "corner_table" "corner_table" s_corner_table)
    (F_following : FnAt K "following" "following" s_following)
    (F_round_from : FnAt K "round_from" "round_from" s_round_from)
    (F_rim_of : FnAt K "rim_of" "rim_of" s_rim_of)
    (F_rims : FnAt K "rims" "rims" s_rims)
    (F_letters_along : FnAt K "letters_along" "letters_along" s_letters_along)
    (F_rim_word : FnAt K "rim_word" "rim_word" s_rim_word)
    (F_neighbours : FnAt K "neighbours" "neighbours" s_neighbours)
    (F_layers : FnAt K "layers" "layers" s_layers)
    (F_pieces : FnAt K "pieces" "pieces" s_pieces)
    (F_counts : FnAt K "counts" "counts" s_counts)
    (F_worth : FnAt K "worth" "worth" s_worth)
    (F_twice : FnAt K "twice" "twice" s_twice)
    (F_is_whole : FnAt K "is_whole" "is_whole" s_is_whole)
    (F_is_disc : FnAt K "is_disc" "is_disc" s_is_disc)
    (F_mates_in : FnAt K "mates_in" "mates_in" s_mates_in)
    (F_numbering : FnAt K "numbering" "numbering" s_numbering)
    (F_code : FnAt K "code" "code" s_code)
    (F_form : FnAt K "form" "form" s_form)
    (F_starts : FnAt K "starts" "starts" s_starts)
    (F_laid : FnAt K "laid" "laid" s_laid)
    (F_may_lay : FnAt K "may_lay" "may_lay" s_may_lay)
    (F_lays : FnAt K "lays" "lays" s_lays)
    (F_grow : FnAt K "grow" "grow" s_grow)
    (F_grown : FnAt K "grown" "grown" s_grown)
    (F_few_grown : FnAt K "few_grown" "few_grown" s_few_grown)
    (F_all_discs : FnAt K "all_discs" "all_discs" s_all_discs)
    (F_taken : FnAt K "taken" "taken" s_taken)
    (F_is_taker : FnAt K "is_taker" "is_taker" s_is_taker)
    (F_takers : FnAt K "takers" "takers" s_takers)
    (F_open : FnAt K "_law_open_cells" "_law_open_cells" s_open)
    (F_pick : FnAt K "_law_pick" "_law_pick" s_pick)
    (F_law_balance_right : FnAt K "_law_balance_right" "_law_balance_right" s_law_balance_right)
    (F_law : FnAt K "law" "law" s_law)
    (z_len : PySem.W.nsIn K mainGlobals "len" = some none)
    (z_min : PySem.W.nsIn K mainGlobals "min" = some none)
    (z_max : PySem.W.nsIn K mainGlobals "max" = some none)
    (z_sum : PySem.W.nsIn K mainGlobals "sum" = some none)
    (z_tuple : PySem.W.nsIn K mainGlobals "tuple" = some none)
    (z_sorted : PySem.W.nsIn K mainGlobals "sorted" = some none)
    (z_any : PySem.W.nsIn K mainGlobals "any" = some none)
    (z_all : PySem.W.nsIn K mainGlobals "all" = some none)
    (z_range : PySem.W.nsIn K mainGlobals "range" = some none)
    (z_enumerate : PySem.W.nsIn K mainGlobals "enumerate" = some none)
    (z_int : PySem.W.nsIn K mainGlobals "int" = some none)
    (z_abs : PySem.W.nsIn K mainGlobals "abs" = some none)
    {t0 : Tok} (z_MOST : PySem.W.nsIn K mainGlobals "MOST" = some (some (.int 2000 t0))) :
    ∃ fd : FuncData, (∀ (s : Shared) (v : Value), BindsTo s fd ⟨[v], []⟩ [("_law_script", v)]) ∧ ∀ base : Heap, K.In base → base.Ns mainGlobals mg → FnOk l.prog w K mg base CX0 12 fa fd ["_law_script"] (spLaw K) := by
  obtain ⟨g_sides_of, d_sides_of, a_sides_of, E_sides_of⟩ := F_sides_of.ex
  obtain ⟨g_mates_gluings, d_mates_gluings, a_mates_gluings, E_mates_gluings⟩ := F_mates_gluings.ex
  obtain ⟨g_mate_of, d_mate_of, a_mate_of, E_mate_of⟩ := F_mate_of.ex
  obtain ⟨g_one_tile, d_one_tile, a_one_tile, E_one_tile⟩ := F_one_tile.ex
  obtain ⟨g_ordered, d_ordered, a_ordered, E_ordered⟩ := F_ordered.ex
  obtain ⟨g_part_of, d_part_of, a_part_of, E_part_of⟩ := F_part_of.ex
  obtain ⟨g_named, d_named, a_named, E_named⟩ := F_named.ex
  obtain ⟨g_mates_corners, d_mates_corners, a_mates_corners, E_mates_corners⟩ := F_mates_corners.ex
  obtain ⟨g_step_on, d_step_on, a_step_on, E_step_on⟩ := F_step_on.ex
  obtain ⟨g_step_back, d_step_back, a_step_back, E_step_back⟩ := F_step_back.ex
  obtain ⟨g_onward, d_onward, a_onward, E_onward⟩ := F_onward.ex
  obtain ⟨g_walked, d_walked, a_walked, E_walked⟩ := F_walked.ex
  obtain ⟨g_corner_at, d_corner_at, a_corner_at, E_corner_at⟩ := F_corner_at.ex
  obtain ⟨g_is_inner, d_is_inner, a_is_inner, E_is_inner⟩ := F_is_inner.ex
  obtain ⟨g_shares, d_shares, a_shares, E_shares⟩ := F_shares.ex
  obtain ⟨g_corners, d_corners, a_corners, E_corners⟩ := F_corners.ex
  obtain ⟨g_corner_table, d_corner_table, a_corner_table, E_corner_table⟩ := F_corner_table.ex
  obtain ⟨g_following, d_following, a_following, E_following⟩ := F_following.ex
  obtain ⟨g_round_from, d_round_from, a_round_from, E_round_from⟩ := F_round_from.ex
  obtain ⟨g_rim_of, d_rim_of, a_rim_of, E_rim_of⟩ := F_rim_of.ex
  obtain ⟨g_rims, d_rims, a_rims, E_rims⟩ := F_rims.ex
  obtain ⟨g_letters_along, d_letters_along, a_letters_along, E_letters_along⟩ := F_letters_along.ex
  obtain ⟨g_rim_word, d_rim_word, a_rim_word, E_rim_word⟩ := F_rim_word.ex
  obtain ⟨g_neighbours, d_neighbours, a_neighbours, E_neighbours⟩ := F_neighbours.ex
  obtain ⟨g_layers, d_layers, a_layers, E_layers⟩ := F_layers.ex
  obtain ⟨g_pieces, d_pieces, a_pieces, E_pieces⟩ := F_pieces.ex
  obtain ⟨g_counts, d_counts, a_counts, E_counts⟩ := F_counts.ex
  obtain ⟨g_worth, d_worth, a_worth, E_worth⟩ := F_worth.ex
  obtain ⟨g_twice, d_twice, a_twice, E_twice⟩ := F_twice.ex
  obtain ⟨g_is_whole, d_is_whole, a_is_whole, E_is_whole⟩ := F_is_whole.ex
  obtain ⟨g_is_disc, d_is_disc, a_is_disc, E_is_disc⟩ := F_is_disc.ex
  obtain ⟨g_mates_in, d_mates_in, a_mates_in, E_mates_in⟩ := F_mates_in.ex
  obtain ⟨g_numbering, d_numbering, a_numbering, E_numbering⟩ := F_numbering.ex
  obtain ⟨g_code, d_code, a_code, E_code⟩ := F_code.ex
  obtain ⟨g_form, d_form, a_form, E_form⟩ := F_form.ex
  obtain ⟨g_starts, d_starts, a_starts, E_starts⟩ := F_starts.ex
  obtain ⟨g_laid, d_laid, a_laid, E_laid⟩ := F_laid.ex
  obtain ⟨g_may_lay, d_may_lay, a_may_lay, E_may_lay⟩ := F_may_lay.ex
  obtain ⟨g_lays, d_lays, a_lays, E_lays⟩ := F_lays.ex
  obtain ⟨g_grow, d_grow, a_grow, E_grow⟩ := F_grow.ex
  obtain ⟨g_grown, d_grown, a_grown, E_grown⟩ := F_grown.ex
  obtain ⟨g_few_grown, d_few_grown, a_few_grown, E_few_grown⟩ := F_few_grown.ex
  obtain ⟨g_all_discs, d_all_discs, a_all_discs, E_all_discs⟩ := F_all_discs.ex
  obtain ⟨g_taken, d_taken, a_taken, E_taken⟩ := F_taken.ex
  obtain ⟨g_is_taker, d_is_taker, a_is_taker, E_is_taker⟩ := F_is_taker.ex
  obtain ⟨g_takers, d_takers, a_takers, E_takers⟩ := F_takers.ex
  obtain ⟨g_open, d_open, a_open, E_open⟩ := F_open.ex
  obtain ⟨g_pick, d_pick, a_pick, E_pick⟩ := F_pick.ex
  obtain ⟨g_law_balance_right, d_law_balance_right, a_law_balance_right, E_law_balance_right⟩ := F_law_balance_right.ex
  obtain ⟨g_law, d_law, a_law, E_law⟩ := F_law.ex
  have e := hfa.symm.trans (PySem.W.mg_of X G a_law)
  cases e
  have nb : Nb mg := ⟨PySem.W.mg_none_of X G z_len, PySem.W.mg_none_of X G z_min, PySem.W.mg_none_of X G z_max, PySem.W.mg_none_of X G z_sum, PySem.W.mg_none_of X G z_tuple, PySem.W.mg_none_of X G z_sorted, PySem.W.mg_none_of X G z_any, PySem.W.mg_none_of X G z_all, PySem.W.mg_none_of X G z_range, PySem.W.mg_none_of X G z_enumerate⟩
  obtain ⟨oc, od, kV, doc, pm, an, cdv, ct, osl, rfl, lk, hcd⟩ := id E_law.ex
  refine ⟨PySem.W.fnOf "law" "law" (defArgs s_law) (defBody s_law) (defScope s_law) .none kV doc pm an cdv ct, fun s v => .of_eq rfl, fun base _ _ => ?_⟩
  have K_sides_of := kn_sides_of (P := l.prog) (w := w) (base := base) E_sides_of (PySem.W.mg_of X G a_sides_of) nb
  have K_mates_gluings := kn_mates_gluings (P := l.prog) (w := w) (base := base) E_mates_gluings (PySem.W.mg_of X G a_mates_gluings) nb
  have K_mate_of := kn_mate_of (P := l.prog) (w := w) (base := base) E_mate_of (PySem.W.mg_of X G a_mate_of) nb K_mates_gluings
  have K_one_tile := kn_one_tile (P := l.prog) (w := w) (base := base) E_one_tile (PySem.W.mg_of X G a_one_tile) nb
  have K_ordered := kn_ordered (P := l.prog) (w := w) (base := base) E_ordered (PySem.W.mg_of X G a_ordered) nb
  have K_part_of := kn_part_of (P := l.prog) (w := w) (base := base) E_part_of (PySem.W.mg_of X G a_part_of) nb K_ordered
  have K_named := kn_named (P := l.prog) (w := w) (base := base) E_named (PySem.W.mg_of X G a_named) nb K_ordered
  have K_mates_corners := kn_mates_corners (P := l.prog) (w := w) (base := base) E_mates_corners (PySem.W.mg_of X G a_mates_corners) nb
  have K_step_on := kn_step_on (P := l.prog) (w := w) (base := base) E_step_on (PySem.W.mg_of X G a_step_on) nb
  have K_step_back := kn_step_back (P := l.prog) (w := w) (base := base) E_step_back (PySem.W.mg_of X G a_step_back) nb
  have K_onward := kn_onward (P := l.prog) (w := w) (base := base) E_onward (PySem.W.mg_of X G a_onward) nb K_mates_corners K_step_on
  have K_walked := kn_walked (P := l.prog) (w := w) (base := base) E_walked (PySem.W.mg_of X G a_walked) nb K_step_on
  have K_corner_at := kn_corner_at (P := l.prog) (w := w) (base := base) E_corner_at (PySem.W.mg_of X G a_corner_at) nb K_step_back K_walked
  have K_is_inner := kn_is_inner (P := l.prog) (w := w) (base := base) E_is_inner (PySem.W.mg_of X G a_is_inner) nb K_onward
  have K_shares := kn_shares (P := l.prog) (w := w) (base := base) E_shares (PySem.W.mg_of X G a_shares) nb
  have K_corners := kn_corners (P := l.prog) (w := w) (base := base) E_corners (PySem.W.mg_of X G a_corners) nb K_mates_corners K_shares K_corner_at
  have K_corner_table := kn_corner_table (P := l.prog) (w := w) (base := base) E_corner_table (PySem.W.mg_of X G a_corner_table) nb K_corners
  have K_following := kn_following (P := l.prog) (w := w) (base := base) E_following (PySem.W.mg_of X G a_following) nb
  have K_round_from := kn_round_from (P := l.prog) (w := w) (base := base) E_round_from (PySem.W.mg_of X G a_round_from) nb K_following
  have K_rim_of := kn_rim_of (P := l.prog) (w := w) (base := base) E_rim_of (PySem.W.mg_of X G a_rim_of) nb K_corner_table K_round_from
  have K_rims := Kn.tabF (kn_rims (P := l.prog) (w := w) (base := base) E_rims (PySem.W.mg_of X G a_rims) nb K_corner_table K_mates_corners K_shares K_round_from) ok_rims
  have K_letters_along := kn_letters_along (P := l.prog) (w := w) (base := base) E_letters_along (PySem.W.mg_of X G a_letters_along) nb
  have K_rim_word := Kn.tabI (kn_rim_word (P := l.prog) (w := w) (base := base) E_rim_word (PySem.W.mg_of X G a_rim_word) nb K_corner_table K_round_from K_letters_along) ok_rim_word
  have K_neighbours := kn_neighbours (P := l.prog) (w := w) (base := base) E_neighbours (PySem.W.mg_of X G a_neighbours) nb
  have K_layers := kn_layers (P := l.prog) (w := w) (base := base) E_layers (PySem.W.mg_of X G a_layers) nb K_neighbours
  have K_pieces := kn_pieces (P := l.prog) (w := w) (base := base) E_pieces (PySem.W.mg_of X G a_pieces) nb K_layers
  have K_counts := kn_counts (P := l.prog) (w := w) (base := base) E_counts (PySem.W.mg_of X G a_counts) nb K_corners K_is_inner
  have K_worth := kn_worth (P := l.prog) (w := w) (base := base) E_worth (PySem.W.mg_of X G a_worth) nb K_counts
  have K_twice := kn_twice (P := l.prog) (w := w) (base := base) E_twice (PySem.W.mg_of X G a_twice) nb K_corners
  have K_is_whole := kn_is_whole (P := l.prog) (w := w) (base := base) E_is_whole (PySem.W.mg_of X G a_is_whole) nb K_pieces K_rims K_worth K_twice
  have K_is_disc := kn_is_disc (P := l.prog) (w := w) (base := base) E_is_disc (PySem.W.mg_of X G a_is_disc) nb K_is_whole
  have K_mates_in := kn_mates_in (P := l.prog) (w := w) (base := base) E_mates_in (PySem.W.mg_of X G a_mates_in) nb
  have K_numbering := kn_numbering (P := l.prog) (w := w) (base := base) E_numbering (PySem.W.mg_of X G a_numbering) nb K_mates_in
  have K_code := kn_code (P := l.prog) (w := w) (base := base) E_code (PySem.W.mg_of X G a_code) nb K_numbering K_named
  have K_form := Kn.tabI (kn_form (P := l.prog) (w := w) (base := base) E_form (PySem.W.mg_of X G a_form) nb K_sides_of K_code) ok_form
  have K_starts := Kn.tabF (kn_starts (P := l.prog) (w := w) (base := base) E_starts (PySem.W.mg_of X G a_starts) nb K_form K_sides_of K_code) ok_starts
  have K_laid := kn_laid (P := l.prog) (w := w) (base := base) E_laid (PySem.W.mg_of X G a_laid) nb K_rim_of
  have K_may_lay := kn_may_lay (P := l.prog) (w := w) (base := base) E_may_lay (PySem.W.mg_of X G a_may_lay) nb
  have K_lays := kn_lays (P := l.prog) (w := w) (base := base) E_lays (PySem.W.mg_of X G a_lays) nb K_may_lay
  have K_grow := kn_grow (P := l.prog) (w := w) (base := base) E_grow (PySem.W.mg_of X G a_grow) nb K_rims K_rim_word K_lays K_laid K_form
  have K_grown := Kn.tabF (kn_grown (P := l.prog) (w := w) (base := base) E_grown (PySem.W.mg_of X G a_grown) nb K_grow) ok_grown
  have K_few_grown := Kn.tabF (kn_few_grown (P := l.prog) (w := w) (base := base) E_few_grown (PySem.W.mg_of X G a_few_grown) nb (PySem.W.mg_of X G z_MOST) K_grow) ok_few_grown
  have K_all_discs := kn_all_discs (P := l.prog) (w := w) (base := base) E_all_discs (PySem.W.mg_of X G a_all_discs) nb K_one_tile K_form K_few_grown
  have K_taken := kn_taken (P := l.prog) (w := w) (base := base) E_taken (PySem.W.mg_of X G a_taken) nb K_part_of
  have K_is_taker := kn_is_taker (P := l.prog) (w := w) (base := base) E_is_taker (PySem.W.mg_of X G a_is_taker) nb K_mate_of K_taken K_is_disc
  have K_takers := Kn.tabF (kn_takers (P := l.prog) (w := w) (base := base) E_takers (PySem.W.mg_of X G a_takers) nb K_is_taker) ok_takers
  have K_open := kn_open (P := l.prog) (w := w) (base := base) E_open (PySem.W.mg_of X G a_open) (PySem.W.mg_none_of X G z_int) (PySem.W.mg_none_of X G z_abs)
  have K_pick := kn_pick (P := l.prog) (w := w) (base := base) E_pick (PySem.W.mg_of X G a_pick) (PySem.W.mg_none_of X G z_int) nb
  have K_law_balance_right := kn_law_balance_right (P := l.prog) (w := w) (base := base) E_law_balance_right (PySem.W.mg_of X G a_law_balance_right) nb K_rims K_starts K_rim_word K_lays K_takers
  exact kn_law E_law nb ck K_open K_pick K_all_discs K_grown K_law_balance_right K_takers K_taken K_form K_rims K_rim_word
end Wr
open PySem PySem.W PyProof.Rows in
set_option maxRecDepth 100000 in
set_option maxHeartbeats 0 in
theorem PySem.Challenge.cw_whatrims_k48_whole_discs_grown_and_taken_holds : PySem.Challenge.rw_whatrims_k48_whole_discs_grown_and_taken.Holds := by
  w_on; o_law; k_head; (case hw => w_witness2)
  k_fill
  refine L2.walk_of (l := PySem.Challenge.rw_whatrims_k48_whole_discs_grown_and_taken) (n := 63) (k := 12) (x := "_law_script") (CX := fun _ => L2.CX0) (sp := fun w => Wr.spLaw _) rfl (by decide) rfl ⟨rfl, by decide, by decide⟩ (fun w h Y => PySem.W.kIn_of Y) ?F (fun _ _ a ns hl _ hS => ⟨a, ns, rfl, hS, hl, fun _ => rfl⟩) (fun _ _ _ _ _ h => h)
  case F =>
    intro w mg fa h KX G hmg
    refine' Wr.all_mk KX G hmg Wr.eighteen_ok (Wr.fnAt KX ?a_sides_of ?l_sides_of ?c_sides_of ?k_sides_of) (Wr.fnAt KX ?a_mates_gluings ?l_mates_gluings ?c_mates_gluings ?k_mates_gluings) (Wr.fnAt KX ?a_mate_of ?l_mate_of ?c_mate_of ?k_mate_of) (Wr.fnAt KX ?a_one_tile ?l_one_tile ?c_one_tile ?k_one_tile) (Wr.fnAt KX ?a_ordered ?l_ordered ?c_ordered ?k_ordered) (Wr.fnAt KX ?a_part_of ?l_part_of ?c_part_of ?k_part_of) (Wr.fnAt KX ?a_named ?l_named ?c_named ?k_named) (Wr.fnAt KX ?a_mates_corners ?l_mates_corners ?c_mates_corners ?k_mates_corners) (Wr.fnAt KX ?a_step_on ?l_step_on ?c_step_on ?k_step_on) (Wr.fnAt KX ?a_step_back ?l_step_back ?c_step_back ?k_step_back) (Wr.fnAt KX ?a_onward ?l_onward ?c_onward ?k_onward) (Wr.fnAt KX ?a_walked ?l_walked ?c_walked ?k_walked) (Wr.fnAt KX ?a_corner_at ?l_corner_at ?c_corner_at ?k_corner_at) (Wr.fnAt KX ?a_is_inner ?l_is_inner ?c_is_inner ?k_is_inner) (Wr.fnAt KX ?a_shares ?l_shares ?c_shares ?k_shares) (Wr.fnAt KX ?a_corners ?l_corners ?c_corners ?k_corners) (Wr.fnAt KX ?a_corner_table ?l_corner_table ?c_corner_table ?k_corner_table) (Wr.fnAt KX ?a_following ?l_following ?c_following ?k_following) (Wr.fnAt KX ?a_round_from ?l_round_from ?c_round_from ?k_round_from) (Wr.fnAt KX ?a_rim_of ?l_rim_of ?c_rim_of ?k_rim_of) (Wr.fnAt KX ?a_rims ?l_rims ?c_rims ?k_rims) (Wr.fnAt KX ?a_letters_along ?l_letters_along ?c_letters_along ?k_letters_along) (Wr.fnAt KX ?a_rim_word ?l_rim_word ?c_rim_word ?k_rim_word) (Wr.fnAt KX ?a_neighbours ?l_neighbours ?c_neighbours ?k_neighbours) (Wr.fnAt KX ?a_layers ?l_layers ?c_layers ?k_layers) (Wr.fnAt KX ?a_pieces ?l_pieces ?c_pieces ?k_pieces) (Wr.fnAt KX ?a_counts ?l_counts ?c_counts ?k_counts) (Wr.fnAt KX ?a_worth ?l_worth ?c_worth ?k_worth) (Wr.fnAt KX ?a_twice ?l_twice ?c_twice ?k_twice) (Wr.fnAt KX ?a_is_whole ?l_is_whole ?c_is_whole ?k_is_whole) (Wr.fnAt KX ?a_is_disc ?l_is_disc ?c_is_disc ?k_is_disc) (Wr.fnAt KX ?a_mates_in ?l_mates_in ?c_mates_in ?k_mates_in) (Wr.fnAt KX ?a_numbering ?l_numbering ?c_numbering ?k_numbering) (Wr.fnAt KX ?a_code ?l_code ?c_code ?k_code) (Wr.fnAt KX ?a_form ?l_form ?c_form ?k_form) (Wr.fnAt KX ?a_starts ?l_starts ?c_starts ?k_starts) (Wr.fnAt KX ?a_laid ?l_laid ?c_laid ?k_laid) (Wr.fnAt KX ?a_may_lay ?l_may_lay ?c_may_lay ?k_may_lay) (Wr.fnAt KX ?a_lays ?l_lays ?c_lays ?k_lays) (Wr.fnAt KX ?a_grow ?l_grow ?c_grow ?k_grow) (Wr.fnAt KX ?a_grown ?l_grown ?c_grown ?k_grown) (Wr.fnAt KX ?a_few_grown ?l_few_grown ?c_few_grown ?k_few_grown) (Wr.fnAt KX ?a_all_discs ?l_all_discs ?c_all_discs ?k_all_discs) (Wr.fnAt KX ?a_taken ?l_taken ?c_taken ?k_taken) (Wr.fnAt KX ?a_is_taker ?l_is_taker ?c_is_taker ?k_is_taker) (Wr.fnAt KX ?a_takers ?l_takers ?c_takers ?k_takers) (Wr.fnAt KX ?a_open ?l_open ?c_open ?k_open) (Wr.fnAt KX ?a_pick ?l_pick ?c_pick ?k_pick) (Wr.fnAt KX ?a_law_balance_right ?l_law_balance_right ?c_law_balance_right ?k_law_balance_right) (Wr.fnAt KX ?a_law ?l_law ?c_law ?k_law) ?z_len ?z_min ?z_max ?z_sum ?z_tuple ?z_sorted ?z_any ?z_all ?z_range ?z_enumerate ?z_int ?z_abs ?z_MOST
    (case a_sides_of => k_is); (case l_sides_of => k_is); (case c_sides_of => k_is); (case k_sides_of => k_is)
    (case a_mates_gluings => k_is); (case l_mates_gluings => k_is); (case c_mates_gluings => k_is); (case k_mates_gluings => k_is)
    (case a_mate_of => k_is); (case l_mate_of => k_is); (case c_mate_of => k_is); (case k_mate_of => k_is)
    (case a_one_tile => k_is); (case l_one_tile => k_is); (case c_one_tile => k_is); (case k_one_tile => k_is)
    (case a_ordered => k_is); (case l_ordered => k_is); (case c_ordered => k_is); (case k_ordered => k_is)
    (case a_part_of => k_is); (case l_part_of => k_is); (case c_part_of => k_is); (case k_part_of => k_is)
    (case a_named => k_is); (case l_named => k_is); (case c_named => k_is); (case k_named => k_is)
    (case a_mates_corners => k_is); (case l_mates_corners => k_is); (case c_mates_corners => k_is); (case k_mates_corners => k_is)
    (case a_step_on => k_is); (case l_step_on => k_is); (case c_step_on => k_is); (case k_step_on => k_is)
    (case a_step_back => k_is); (case l_step_back => k_is); (case c_step_back => k_is); (case k_step_back => k_is)
    (case a_onward => k_is); (case l_onward => k_is); (case c_onward => k_is); (case k_onward => k_is)
    (case a_walked => k_is); (case l_walked => k_is); (case c_walked => k_is); (case k_walked => k_is)
    (case a_corner_at => k_is); (case l_corner_at => k_is); (case c_corner_at => k_is); (case k_corner_at => k_is)
    (case a_is_inner => k_is); (case l_is_inner => k_is); (case c_is_inner => k_is); (case k_is_inner => k_is)
    (case a_shares => k_is); (case l_shares => k_is); (case c_shares => k_is); (case k_shares => k_is)
    (case a_corners => k_is); (case l_corners => k_is); (case c_corners => k_is); (case k_corners => k_is)
    (case a_corner_table => k_is); (case l_corner_table => k_is); (case c_corner_table => k_is); (case k_corner_table => k_is)
    (case a_following => k_is); (case l_following => k_is); (case c_following => k_is); (case k_following => k_is)
    (case a_round_from => k_is); (case l_round_from => k_is); (case c_round_from => k_is); (case k_round_from => k_is)
    (case a_rim_of => k_is); (case l_rim_of => k_is); (case c_rim_of => k_is); (case k_rim_of => k_is)
    (case a_rims => k_is); (case l_rims => k_is); (case c_rims => k_is); (case k_rims => k_is)
    (case a_letters_along => k_is); (case l_letters_along => k_is); (case c_letters_along => k_is); (case k_letters_along => k_is)
    (case a_rim_word => k_is); (case l_rim_word => k_is); (case c_rim_word => k_is); (case k_rim_word => k_is)
    (case a_neighbours => k_is); (case l_neighbours => k_is); (case c_neighbours => k_is); (case k_neighbours => k_is)
    (case a_layers => k_is); (case l_layers => k_is); (case c_layers => k_is); (case k_layers => k_is)
    (case a_pieces => k_is); (case l_pieces => k_is); (case c_pieces => k_is); (case k_pieces => k_is)
    (case a_counts => k_is); (case l_counts => k_is); (case c_counts => k_is); (case k_counts => k_is)
    (case a_worth => k_is); (case l_worth => k_is); (case c_worth => k_is); (case k_worth => k_is)
    (case a_twice => k_is); (case l_twice => k_is); (case c_twice => k_is); (case k_twice => k_is)
    (case a_is_whole => k_is); (case l_is_whole => k_is); (case c_is_whole => k_is); (case k_is_whole => k_is)
    (case a_is_disc => k_is); (case l_is_disc => k_is); (case c_is_disc => k_is); (case k_is_disc => k_is)
    (case a_mates_in => k_is); (case l_mates_in => k_is); (case c_mates_in => k_is); (case k_mates_in => k_is)
    (case a_numbering => k_is); (case l_numbering => k_is); (case c_numbering => k_is); (case k_numbering => k_is)
    (case a_code => k_is); (case l_code => k_is); (case c_code => k_is); (case k_code => k_is)
    (case a_form => k_is); (case l_form => k_is); (case c_form => k_is); (case k_form => k_is)
    (case a_starts => k_is); (case l_starts => k_is); (case c_starts => k_is); (case k_starts => k_is)
    (case a_laid => k_is); (case l_laid => k_is); (case c_laid => k_is); (case k_laid => k_is)
    (case a_may_lay => k_is); (case l_may_lay => k_is); (case c_may_lay => k_is); (case k_may_lay => k_is)
    (case a_lays => k_is); (case l_lays => k_is); (case c_lays => k_is); (case k_lays => k_is)
    (case a_grow => k_is); (case l_grow => k_is); (case c_grow => k_is); (case k_grow => k_is)
    (case a_grown => k_is); (case l_grown => k_is); (case c_grown => k_is); (case k_grown => k_is)
    (case a_few_grown => k_is); (case l_few_grown => k_is); (case c_few_grown => k_is); (case k_few_grown => k_is)
    (case a_all_discs => k_is); (case l_all_discs => k_is); (case c_all_discs => k_is); (case k_all_discs => k_is)
    (case a_taken => k_is); (case l_taken => k_is); (case c_taken => k_is); (case k_taken => k_is)
    (case a_is_taker => k_is); (case l_is_taker => k_is); (case c_is_taker => k_is); (case k_is_taker => k_is)
    (case a_takers => k_is); (case l_takers => k_is); (case c_takers => k_is); (case k_takers => k_is)
    (case a_open => k_is); (case l_open => k_is); (case c_open => k_is); (case k_open => k_is)
    (case a_pick => k_is); (case l_pick => k_is); (case c_pick => k_is); (case k_pick => k_is)
    (case a_law_balance_right => k_is); (case l_law_balance_right => k_is); (case c_law_balance_right => k_is); (case k_law_balance_right => k_is)
    (case a_law => k_is); (case l_law => k_is); (case c_law => k_is); (case k_law => k_is)
    (case z_len => k_is)
    (case z_min => k_is)
    (case z_max => k_is)
    (case z_sum => k_is)
    (case z_tuple => k_is)
    (case z_sorted => k_is)
    (case z_any => k_is)
    (case z_all => k_is)
    (case z_range => k_is)
    (case z_enumerate => k_is)
    (case z_int => k_is)
    (case z_abs => k_is)
    (case z_MOST => k_is)

