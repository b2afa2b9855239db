import PyProof.Rows.All
import Wide.All
import OpenK.AllK
import Wide.FinOn
import KE.KStateDown
import KE.KExcSuper
import KE.KSuper
import HandS.ForMost
import HandS.Exc
import HandS.TryOnly
import HandS.TryMany
import HandS.ExcOwn
import HandS.ExcInit
import HandS.ExcField
import HandS.ExcIs
import HandS.Flow
import HandS.Style
import HandS.Star
import HandS.MethStar
import HandS.Defaults
import HandS.Property
import HandS.ClsMeth
import HandS.IsInst
import HandS.Conv
import HandS.CallSlots
import HandS.Codes
import HandS.RaiseOp
import HandS.FStr
import HandS.Zip
import HandS.Deep
import HandS.Small
import HandS.Wide
import HandS.WideMore
import HandS.SlotsOwn
import HandS.WordsExc
import HandS.Head2
import HandS.HeadHook2
import KE.KExcIs
import KE.GoesMore
import KE.GoesZip
import KE.KExcPX
import HandS.Head0
import HandS.Head1
import HandS.HeadEnd
import PySem.Challenge.RW_kindsfill_k80_whole_trimmed
set_option Elab.async false
set_option linter.all false
section
set_option maxRecDepth 100000
set_option maxHeartbeats 4000000
/-! KfA: data by value, worlds, environments, expressions. -/
namespace Kf
open PySem L2

/-! ### data -/
inductive D where
  | non | bl (b : Bool) | int (i : Int) | str (s : Str)
  | lst (l : List D) | tup (l : List D)
  | dK (l : List (Key × D)) | dT (l : List (List Key × D))
  | obj (C : Str) (fs : List (Str × D))
  | glo (x : Str) | ty (n : String)
  | ids (v : V) (d : D)
  | lstK (l : List D)

abbrev Fg := PySem.W.Frag

mutual
/-- the value v is the datum d, by what stands in S -/
inductive Rp (K : Fg) (S : Hp) : V → D → Prop
  | non : Rp K S .non .non
  | bl (b : Bool) : Rp K S (.bl b) (.bl b)
  | int (i : Int) : Rp K S (.int i) (.int i)
  | str (x : Str) : Rp K S (.str x) (.str x)
  | lst {a : Addr} {xs : List V} {ds : List D} : Rd S a (.lst xs) → RpL K S xs ds → Rp K S (.ref a) (.lst ds)
  | tup {a : Addr} {xs : List V} {ds : List D} : SqT K S a xs → RpL K S xs ds → Rp K S (.ref a) (.tup ds)
  | dK {a : Addr} {kvs : List (Key × V)} {ds : List (Key × D)} : Rd S a (.dK kvs) → RpK K S kvs ds → Rp K S (.ref a) (.dK ds)
  | dT {a : Addr} {kvs : List (List Key × V)} {ds : List (List Key × D)} : Rd S a (.dT kvs) → RpT K S kvs ds → Rp K S (.ref a) (.dT ds)
  | obj {a dx : Addr} {C : Str} {fs : List (Str × V)} {ds : List (Str × D)} : S a = some (.ins (He.ga K C) dx fs) → RpF K S fs ds → Rp K S (.ref a) (.obj C ds)
  | glo (x : Str) : Rp K S (.ref (He.ga K x)) (.glo x)
  | ty (n : String) : Rp K S (.ty n) (.ty n)
  | ids {v : V} {d : D} : Rp K S v d → Rp K S v (.ids v d)
  | lstK {a : Addr} {xs : List V} {ds : List D} : SqL K S a xs → RpL K S xs ds → Rp K S (.ref a) (.lstK ds)
inductive RpL (K : Fg) (S : Hp) : List V → List D → Prop
  | nil : RpL K S [] []
  | cons {v : V} {d : D} {vs : List V} {ds : List D} : Rp K S v d → RpL K S vs ds → RpL K S (v :: vs) (d :: ds)
inductive RpK (K : Fg) (S : Hp) : List (Key × V) → List (Key × D) → Prop
  | nil : RpK K S [] []
  | cons {k : Key} {v : V} {d : D} {vs : List (Key × V)} {ds : List (Key × D)} : Rp K S v d → RpK K S vs ds → RpK K S ((k, v) :: vs) ((k, d) :: ds)
inductive RpT (K : Fg) (S : Hp) : List (List Key × V) → List (List Key × D) → Prop
  | nil : RpT K S [] []
  | cons {k : List Key} {v : V} {d : D} {vs : List (List Key × V)} {ds : List (List Key × D)} : Rp K S v d → RpT K S vs ds → RpT K S ((k, v) :: vs) ((k, d) :: ds)
inductive RpF (K : Fg) (S : Hp) : List (Str × V) → List (Str × D) → Prop
  | nil : RpF K S [] []
  | cons {k : Str} {v : V} {d : D} {vs : List (Str × V)} {ds : List (Str × D)} : Rp K S v d → RpF K S vs ds → RpF K S ((k, v) :: vs) ((k, d) :: ds)
end

theorem same_rd {S S' : Hp} {a : Addr} {u : HO} (e : Same S S') (h : Rd S a u) : Rd S' a u := by
  rcases h with h | ⟨o, h⟩
  · exact .inl (e _ _ h)
  · exact .inr ⟨o, e _ _ h⟩
theorem same_sqT {K : Fg} {S S' : Hp} {a : Addr} {xs : List V} (e : Same S S') (h : SqT K S a xs) : SqT K S' a xs := by
  rcases h with h | h
  · exact .inl (same_rd e h)
  · exact .inr h

theorem rdq {K : Fg} {S : Hp} {a : Addr} {xs : List V} (h : Rd S a (.lst xs)) : SqL K S a xs := .inl h
mutual
theorem Rp.mono {K : Fg} {S S' : Hp} (e : Same S S') {v : V} {d : D} : Rp K S v d → Rp K S' v d
  | .non => .non
  | .bl b => .bl b
  | .int i => .int i
  | .str x => .str x
  | .lst h t => .lst (same_rd e h) (RpL.mono e t)
  | .tup h t => .tup (same_sqT e h) (RpL.mono e t)
  | .dK h t => .dK (same_rd e h) (RpK.mono e t)
  | .dT h t => .dT (same_rd e h) (RpT.mono e t)
  | .obj h t => .obj (e _ _ h) (RpF.mono e t)
  | .glo x => .glo x
  | .ty n => .ty n
  | .ids h => .ids (Rp.mono e h)
  | .lstK h t => .lstK (e.seq h) (RpL.mono e t)
theorem RpL.mono {K : Fg} {S S' : Hp} (e : Same S S') {v : List V} {d : List D} : RpL K S v d → RpL K S' v d
  | .nil => .nil
  | .cons h t => .cons (Rp.mono e h) (RpL.mono e t)
theorem RpK.mono {K : Fg} {S S' : Hp} (e : Same S S') {v : List (Key × V)} {d : List (Key × D)} : RpK K S v d → RpK K S' v d
  | .nil => .nil
  | .cons h t => .cons (Rp.mono e h) (RpK.mono e t)
theorem RpT.mono {K : Fg} {S S' : Hp} (e : Same S S') {v : List (List Key × V)} {d : List (List Key × D)} : RpT K S v d → RpT K S' v d
  | .nil => .nil
  | .cons h t => .cons (Rp.mono e h) (RpT.mono e t)
theorem RpF.mono {K : Fg} {S S' : Hp} (e : Same S S') {v : List (Str × V)} {d : List (Str × D)} : RpF K S v d → RpF K S' v d
  | .nil => .nil
  | .cons h t => .cons (Rp.mono e h) (RpF.mono e t)
end

section lists
variable {K : Fg} {S : Hp}
theorem RpL.length : ∀ {xs : List V} {ds : List D}, RpL K S xs ds → xs.length = ds.length
  | _, _, .nil => rfl
  | _, _, .cons _ t => congrArg Nat.succ t.length
theorem RpL.get : ∀ {xs : List V} {ds : List D} {i : Nat} {d : D}, RpL K S xs ds → ds[i]? = some d → ∃ v, xs[i]? = some v ∧ Rp K S v d
  | _, _, i, _, .nil, e => by simp at e
  | _, _, 0, _, .cons h _, e => by
    simp at e
    subst e
    exact ⟨_, rfl, h⟩
  | _, _, i + 1, d, .cons _ t, e => by
    obtain ⟨v, a, b⟩ := t.get (i := i) (d := d) (by simpa using e)
    exact ⟨v, by simpa using a, b⟩
theorem RpL.get' : ∀ {xs : List V} {ds : List D} {i : Nat} {v : V}, RpL K S xs ds → xs[i]? = some v → ∃ d, ds[i]? = some d ∧ Rp K S v d
  | _, _, i, _, .nil, e => by simp at e
  | _, _, 0, _, .cons h _, e => by
    simp at e
    subst e
    exact ⟨_, rfl, h⟩
  | _, _, i + 1, v, .cons _ t, e => by
    obtain ⟨d, a, b⟩ := t.get' (i := i) (v := v) (by simpa using e)
    exact ⟨d, by simpa using a, b⟩
theorem RpL.append : ∀ {xs ys : List V} {ds es : List D}, RpL K S xs ds → RpL K S ys es → RpL K S (xs ++ ys) (ds ++ es)
  | _, _, _, _, .nil, s => s
  | _, _, _, _, .cons h t, s => .cons h (t.append s)
theorem RpL.take : ∀ {xs : List V} {ds : List D} (n : Nat), RpL K S xs ds → RpL K S (xs.take n) (ds.take n)
  | _, _, 0, _ => .nil
  | _, _, _ + 1, .nil => .nil
  | _, _, n + 1, .cons h t => .cons h (t.take n)
theorem RpL.drop : ∀ {xs : List V} {ds : List D} (n : Nat), RpL K S xs ds → RpL K S (xs.drop n) (ds.drop n)
  | _, _, 0, h => h
  | _, _, _ + 1, .nil => .nil
  | _, _, n + 1, .cons _ t => t.drop n
theorem RpL.set {v : V} {d : D} (h : Rp K S v d) : ∀ {xs : List V} {ds : List D} (i : Nat), RpL K S xs ds → RpL K S (xs.set i v) (ds.set i d)
  | _, _, _, .nil => .nil
  | _, _, 0, .cons _ t => .cons h t
  | _, _, i + 1, .cons q t => .cons q (RpL.set h i t)
theorem RpF.lookup : ∀ {fs : List (Str × V)} {ds : List (Str × D)} {f : Str} {d : D}, RpF K S fs ds → ds.lookup f = some d → ∃ v, fs.lookup f = some v ∧ Rp K S v d
  | _, _, f, d, .nil, e => by cases e
  | _, _, f, d, .cons (k := k) h t, e => by
    rw [List.lookup_cons] at e ⊢
    cases q : (f == k) with
    | true =>
      rw [q] at e
      cases e
      exact ⟨_, rfl, h⟩
    | false =>
      rw [q] at e
      exact t.lookup e
theorem RpF.none : ∀ {fs : List (Str × V)} {ds : List (Str × D)} {f : Str}, RpF K S fs ds → ds.lookup f = none → fs.lookup f = none
  | _, _, f, .nil, e => rfl
  | _, _, f, .cons (k := k) h t, e => by
    rw [List.lookup_cons] at e ⊢
    cases q : (f == k) with
    | true =>
      rw [q] at e
      cases e
    | false =>
      rw [q] at e
      exact t.none e
theorem RpF.length : ∀ {xs : List (Str × V)} {ds : List (Str × D)}, RpF K S xs ds → xs.length = ds.length
  | _, _, .nil => rfl
  | _, _, .cons _ t => congrArg Nat.succ t.length
theorem RpK.length : ∀ {xs : List (Key × V)} {ds : List (Key × D)}, RpK K S xs ds → xs.length = ds.length
  | _, _, .nil => rfl
  | _, _, .cons _ t => congrArg Nat.succ t.length
theorem RpT.length : ∀ {xs : List (List Key × V)} {ds : List (List Key × D)}, RpT K S xs ds → xs.length = ds.length
  | _, _, .nil => rfl
  | _, _, .cons _ t => congrArg Nat.succ t.length
end lists

/-- a datum with the very value that stands for it -/
def D.tg : Option V → D → D
  | none, d => d
  | some v, d => .ids v d
theorem Rp.untag {K : Fg} {S : Hp} {v : V} {d : D} : ∀ {o : Option V}, Rp K S v (d.tg o) → Rp K S v d
  | none, h => h
  | some _, .ids h => h

/-! ### what is one's own: objects that change -/
inductive O where
  | lst (l : List D) | dK (l : List (Key × D)) | dT (l : List (List Key × D)) | obj (C : Str) (fs : List (Str × D))
def O.d : O → D
  | .lst l => .lst l
  | .dK l => .dK l
  | .dT l => .dT l
  | .obj C fs => .obj C fs
def Own (K : Fg) (S H : Hp) (a : Addr) : O → Prop
  | .lst l => ∃ xs, H a = some (.lst xs) ∧ RpL K S xs l
  | .dK l => ∃ xs, H a = some (.dK xs) ∧ RpK K S xs l
  | .dT l => ∃ xs, H a = some (.dT xs) ∧ RpT K S xs l
  | .obj C l => ∃ dx fs, H a = some (.ins (He.ga K C) dx fs) ∧ RpF K S fs l
theorem Own.some {K : Fg} {S H : Hp} {a : Addr} {o : O} (h : Own K S H a o) : H a ≠ none := by
  intro e
  cases o with
  | lst l => obtain ⟨xs, h, _⟩ := h; rw [e] at h; cases h
  | dK l => obtain ⟨xs, h, _⟩ := h; rw [e] at h; cases h
  | dT l => obtain ⟨xs, h, _⟩ := h; rw [e] at h; cases h
  | obj C l => obtain ⟨dx, fs, h, _⟩ := h; rw [e] at h; cases h
theorem Own.to {K : Fg} {S S' H H' : Hp} {a : Addr} {o : O} (e : Same S S') (q : H' a = H a) (h : Own K S H a o) : Own K S' H' a o := by
  cases o with
  | lst l => obtain ⟨xs, h, t⟩ := h; exact ⟨xs, q.trans h, t.mono e⟩
  | dK l => obtain ⟨xs, h, t⟩ := h; exact ⟨xs, q.trans h, t.mono e⟩
  | dT l => obtain ⟨xs, h, t⟩ := h; exact ⟨xs, q.trans h, t.mono e⟩
  | obj C l => obtain ⟨dx, fs, h, t⟩ := h; exact ⟨dx, fs, q.trans h, t.mono e⟩

/-! ### the world: S what stands for good, H all; what a call changes -/
structure Ent where
  S0 : Hp
  H0 : Hp
  own : Option Addr
structure Nx (e : Ent) (S H : Hp) : Prop where
  ss : Same e.S0 S
  sh : Same S H
  hh : ∀ a o, e.H0 a = some o → e.own ≠ some a → H a = some o
  al : ∀ a, e.H0 a ≠ none → H a ≠ none
  old : ∀ a, e.H0 a ≠ none → S a = e.S0 a

inductive B where
  | st (d : D) | ow (o : O) | xc (a : Addr) (d : Option Addr) (fl : List (Str × D)) | nw (d : D) (l : List D)
abbrev Gam := List (Option B)

/-- a caught error's fields -/
def XcS (K : Fg) (S : Hp) (d : Option Addr) (fl : List (Str × D)) : Prop := (d = none ∧ fl = []) ∨ ∃ dd fs, d = some dd ∧ S dd = some (.xd fs) ∧ RpF K S fs fl
theorem XcS.mono {K : Fg} {S S' : Hp} {d : Option Addr} {fl : List (Str × D)} (s : Same S S') (h : XcS K S d fl) : XcS K S' d fl := by
  rcases h with h | ⟨dd, fs, h1, h2, h3⟩
  · exact .inl h
  · exact .inr ⟨dd, fs, h1, s _ _ h2, h3.mono s⟩
/-- a slot's value -/
def BOk (K : Fg) (e : Ent) (S H : Hp) (v : V) : B → Prop
  | .st d => Rp K S v d
  | .ow o => ∃ a, v = .ref a ∧ S a = none ∧ Own K S H a o ∧ (e.H0 a = none ∨ e.own = some a)
  | .xc a d fl => v = .ref a ∧ XcS K S d fl
  | .nw _ _ => False
structure Sl (K : Fg) (e : Ent) (S H : Hp) (σ : L2.St) (Γ : Gam) : Prop where
  len : σ.length = Γ.length
  at_ : ∀ (i : Nat) (b : B), Γ[i]? = some (some b) → ∃ v, σ[i]? = some (some v) ∧ BOk K e S H v b
  dj : ∀ (i j : Nat) (o o' : O) (a : Addr), Γ[i]? = some (some (.ow o)) → Γ[j]? = some (some (.ow o')) → σ[i]? = some (some (.ref a)) → σ[j]? = some (some (.ref a)) → i = j
  z : ∀ (a : Addr), e.own = some a → σ[0]? = some (some (.ref a)) ∧ ∃ o, Γ[0]? = some (some (.ow o))
structure Wd (K : Fg) (e : Ent) (S H : Hp) (σ : L2.St) (Γ : Gam) : Prop where
  nx : Nx e S H
  sl : Sl K e S H σ Γ

section worlds
variable {K : Fg} {e : Ent} {S S' H H' : Hp} {σ : L2.St} {Γ : Gam}
/-- a new object for good -/
theorem Nx.new {p : Addr} {o : HO} (n : Nx e S H) (hp : H p = none) : Nx e (upd S p o) (upd H p o) ∧ Same S (upd S p o) ∧ Same H (upd H p o) := by
  have sp : S p = none := n.sh.free hp
  have e0 : e.H0 p = none := by
    cases q : e.H0 p with
    | none => rfl
    | some u => exact absurd hp (n.al p (by rw [q]; exact fun z => nomatch z))
  have s1 : Same S (upd S p o) := fun b u z => by
    rw [upd_ne (ne_of_none z sp)]
    exact z
  have s2 : Same H (upd H p o) := fun b u z => by
    rw [upd_ne (ne_of_none z hp)]
    exact z
  refine ⟨⟨n.ss.trans s1, fun b u z => ?_, fun b u z w => s2 _ _ (n.hh b u z w), fun b z w => ?_, fun b z => ?_⟩, s1, s2⟩
  · by_cases hb : b = p
    · subst hb
      rw [upd_same] at z ⊢
      exact z
    · rw [upd_ne hb] at z ⊢
      exact n.sh _ _ z
  · by_cases hb : b = p
    · subst hb
      exact z e0
    · rw [upd_ne hb] at w
      exact n.al b z w
  · have hb : b ≠ p := fun q => z (by rw [q]; exact e0)
    rw [upd_ne hb]
    exact n.old b z
/-- a new object that is one's own -/
theorem Nx.own {p : Addr} {o : HO} (n : Nx e S H) (hp : H p = none) : Nx e S (upd H p o) := by
  have s2 : Same H (upd H p o) := fun b u z => by
    rw [upd_ne (ne_of_none z hp)]
    exact z
  exact ⟨n.ss, n.sh.trans s2, fun b u z w => s2 _ _ (n.hh b u z w), fun b z w => by
    by_cases hb : b = p
    · subst hb
      rw [upd_same] at w
      cases w
    · rw [upd_ne hb] at w
      exact n.al b z w, n.old⟩
/-- one's own object changed -/
theorem Nx.put {p : Addr} {o : HO} (n : Nx e S H) (sp : S p = none) (h : e.H0 p = none ∨ e.own = some p) : Nx e S (upd H p o) :=
  ⟨n.ss, fun b u z => by
    rw [upd_ne (ne_of_none z sp)]
    exact n.sh _ _ z, fun b u z w => by
    have hb : b ≠ p := fun q => by
      subst q
      rcases h with h | h
      · rw [h] at z
        cases z
      · exact w h
    rw [upd_ne hb]
    exact n.hh b u z w, fun b z w => by
    by_cases hb : b = p
    · subst hb
      rw [upd_same] at w
      cases w
    · rw [upd_ne hb] at w
      exact n.al b z w, n.old⟩
theorem Nx.fresh {p : Addr} (n : Nx e S H) (hp : H p = none) : e.H0 p = none := by
  cases q : e.H0 p with
  | none => rfl
  | some u => exact absurd hp (n.al p (by rw [q]; exact fun z => nomatch z))
theorem BOk.xcm {v : V} {a : Addr} {d : Option Addr} {fl : List (Str × D)} (s : Same S S') (h : BOk K e S H v (.xc a d fl)) : BOk K e S' H' v (.xc a d fl) := ⟨h.1, h.2.mono s⟩
theorem BOk.to {v : V} {b : B} (s : Same S S') (k : ∀ a, S a = none → H a ≠ none → H' a = H a ∧ S' a = none) (h : BOk K e S H v b) : BOk K e S' H' v b := by
  cases b with
  | st d => exact Rp.mono s h
  | ow o =>
    obtain ⟨a, q, sa, w, z⟩ := h
    obtain ⟨k1, k2⟩ := k a sa w.some
    exact ⟨a, q, k2, w.to s k1, z⟩
  | xc a d fl => exact h.xcm s
  | nw d l => exact h.elim
theorem Sl.to (s : Same S S') (k : ∀ a, S a = none → H a ≠ none → H' a = H a ∧ S' a = none) (h : Sl K e S H σ Γ) : Sl K e S' H' σ Γ :=
  ⟨h.len, fun i b q => let ⟨v, a, c⟩ := h.at_ i b q; ⟨v, a, c.to s k⟩, h.dj, h.z⟩
/-- a new object beside -/
theorem Wd.new {p : Addr} {o : HO} (w : Wd K e S H σ Γ) (hp : H p = none) : Wd K e (upd S p o) (upd H p o) σ Γ ∧ Same S (upd S p o) := by
  obtain ⟨n, s1, s2⟩ := w.nx.new (o := o) hp
  refine ⟨⟨n, w.sl.to s1 fun a sa ha => ?_⟩, s1⟩
  have ne : a ≠ p := fun q => ha (by rw [q]; exact hp)
  rw [upd_ne ne, upd_ne ne]
  exact ⟨rfl, sa⟩
theorem Wd.own {p : Addr} {o : HO} (w : Wd K e S H σ Γ) (hp : H p = none) : Wd K e S (upd H p o) σ Γ :=
  ⟨w.nx.own hp, w.sl.to (Same.refl _) fun a sa ha => by
    have ne : a ≠ p := fun q => ha (by rw [q]; exact hp)
    rw [upd_ne ne]
    exact ⟨rfl, sa⟩⟩
end worlds

/-- what an evaluation does to the world: nothing old changes but what is one's own in a slot -/
structure Stp (σ : L2.St) (Γ : Gam) (S H : Hp) (Γ' : Gam) (S' H' : Hp) : Prop where
  ss : Same S S'
  hh : ∀ p u, H p = some u → (∀ (i : Nat) (o : O), Γ[i]? = some (some (.ow o)) → σ[i]? ≠ some (some (.ref p))) → H' p = some u
  al : ∀ p, H p ≠ none → H' p ≠ none
  old : ∀ p, H p ≠ none → S' p = S p
  sl : ∀ (i : Nat) (o : O), Γ'[i]? = some (some (.ow o)) → ∃ o', Γ[i]? = some (some (.ow o'))
/-- a pure one: nothing old changes -/
structure Pur (S H S' H' : Hp) : Prop where
  ss : Same S S'
  hh : Same H H'
  old : ∀ p, H p ≠ none → S' p = S p
section
variable {σ : L2.St} {Γ Γ1 Γ2 : Gam} {S S1 S2 H H1 H2 : Hp}
theorem Pur.refl (S H : Hp) : Pur S H S H := ⟨Same.refl _, Same.refl _, fun _ _ => rfl⟩
theorem Pur.al (a : Pur S H S1 H1) : ∀ p, H p ≠ none → H1 p ≠ none := fun p h q => h (a.hh.free q)
theorem Pur.trans (a : Pur S H S1 H1) (b : Pur S1 H1 S2 H2) : Pur S H S2 H2 := ⟨a.ss.trans b.ss, a.hh.trans b.hh, fun p h => (b.old p (a.al p h)).trans (a.old p h)⟩
theorem Stp.refl (σ : L2.St) (Γ : Gam) (S H : Hp) : Stp σ Γ S H Γ S H := ⟨Same.refl _, fun _ _ h _ => h, fun _ h => h, fun _ _ => rfl, fun _ o h => ⟨o, h⟩⟩
theorem Stp.trans (a : Stp σ Γ S H Γ1 S1 H1) (b : Stp σ Γ1 S1 H1 Γ2 S2 H2) : Stp σ Γ S H Γ2 S2 H2 :=
  ⟨a.ss.trans b.ss, fun p u h n => b.hh p u (a.hh p u h n) fun i o q => let ⟨o', q'⟩ := a.sl i o q; n i o' q', fun p h => b.al p (a.al p h), fun p h => (b.old p (a.al p h)).trans (a.old p h),
    fun i o q => let ⟨o', q'⟩ := b.sl i o q; a.sl i o' q'⟩
theorem Pur.stp (a : Pur S H S1 H1) : Stp σ Γ S H Γ S1 H1 := ⟨a.ss, fun p u h _ => a.hh p u h, a.al, a.old, fun _ o h => ⟨o, h⟩⟩
theorem pur_new {p : Addr} {o : HO} (hS : S p = none) (hp : H p = none) : Pur S H (upd S p o) (upd H p o) :=
  ⟨fun b u z => by rw [upd_ne (ne_of_none z hS)]; exact z, fun b u z => by rw [upd_ne (ne_of_none z hp)]; exact z, fun b z => by rw [upd_ne fun q => z (by rw [q]; exact hp)]⟩
theorem pur_own {p : Addr} {o : HO} (hp : H p = none) : Pur S H S (upd H p o) := ⟨Same.refl _, fun b u z => by rw [upd_ne (ne_of_none z hp)]; exact z, fun _ _ => rfl⟩
end

/-! ### expressions: the reading by data -/
def tE (K : Fg) (e : Ent) (Γ : Gam) (Φ : D → Gam → Prop) : TE := fun σ H Q => ∃ S, Wd K e S H σ Γ ∧
  ∀ S' H' v d Γ', Φ d Γ' → Stp σ Γ S H Γ' S' H' → Wd K e S' H' σ Γ' → Rp K S' v d → Q v H'
/-- the value is a new object of one's own -/
def tO (K : Fg) (e : Ent) (Γ : Gam) (Φ : O → Gam → Prop) : TE := fun σ H Q => ∃ S, Wd K e S H σ Γ ∧
  ∀ S' H' a o Γ', Φ o Γ' → Stp σ Γ S H Γ' S' H' → Wd K e S' H' σ Γ' → S' a = none → Own K S' H' a o → H a = none → Q (.ref a) H'
def tX (K : Fg) (e : Ent) (Γ : Gam) (Φ : Bool → Gam → Prop) : TT := fun σ H Q => ∃ S, Wd K e S H σ Γ ∧
  ∀ S' H' b Γ', Φ b Γ' → Stp σ Γ S H Γ' S' H' → Wd K e S' H' σ Γ' → Q b H'
def tA (K : Fg) (e : Ent) (Γ : Gam) (Φ : List D → Gam → Prop) : TA := fun σ H Q => ∃ S, Wd K e S H σ Γ ∧
  ∀ S' H' vs ds Γ', Φ ds Γ' → Stp σ Γ S H Γ' S' H' → Wd K e S' H' σ Γ' → RpL K S' vs ds → Q vs H'
abbrev EV (X : Cx) (e : Ent) (x : Expr) (Γ : Gam) (Φ : D → Gam → Prop) : Prop := PE X x (tE X.K e Γ Φ)
abbrev EO (X : Cx) (e : Ent) (x : Expr) (Γ : Gam) (Φ : O → Gam → Prop) : Prop := PE X x (tO X.K e Γ Φ)
abbrev TV (X : Cx) (e : Ent) (x : Expr) (Γ : Gam) (Φ : Bool → Gam → Prop) : Prop := PT X x (tX X.K e Γ Φ)
abbrev AV (X : Cx) (e : Ent) (xs : List Expr) (Γ : Gam) (Φ : List D → Gam → Prop) : Prop := PA X xs (tA X.K e Γ Φ)
/-- no choice, nothing changed -/
abbrev Is {α : Type} (d : α) (Γ : Gam) : α → Gam → Prop := fun d' Γ' => d' = d ∧ Γ' = Γ
theorem PE.imp {X : Cx} {x : Expr} {t t' : TE} (h : PE X x t) (k : ∀ σ H Q, t' σ H Q → t σ H Q) : PE X x t' := ⟨fun pins s σ H Q I q => h.run pins s σ H Q I (k σ H Q q)⟩
theorem PT.imp {X : Cx} {x : Expr} {t t' : TT} (h : PT X x t) (k : ∀ σ H Q, t' σ H Q → t σ H Q) : PT X x t' := ⟨fun pins s σ H Q I q => h.run pins s σ H Q I (k σ H Q q)⟩
theorem PW.imp {X : Cx} {x : Expr} {t t' : TT} (h : PW X x t) (k : ∀ σ H Q, t' σ H Q → t σ H Q) : PW X x t' := ⟨fun wh pins s σ H Q I q => h.run wh pins s σ H Q I (k σ H Q q)⟩
theorem PA.imp {X : Cx} {xs : List Expr} {t t' : TA} (h : PA X xs t) (k : ∀ σ H Q, t' σ H Q → t σ H Q) : PA X xs t' := ⟨fun pos pins s σ H Q I q => h.run pos pins s σ H Q I (k σ H Q q)⟩

/-- freeze -/
theorem own_st {K : Fg} {e : Ent} {Γ : Gam} {S H : Hp} {σ : L2.St} {p : Addr} {o : O} (w : Wd K e S H σ Γ) (sp : S p = none) (ow : Own K S H p o) (h0 : e.H0 p = none) (hn : ∀ (i : Nat) (o' : O), Γ[i]? = some (some (.ow o')) → σ[i]? ≠ some (some (.ref p))) :
    ∃ S', Same S S' ∧ (∀ b, b ≠ p → S' b = S b) ∧ Wd K e S' H σ Γ ∧ Rp K S' (.ref p) o.d := by
  have key : ∀ u, H p = some u → Same S (upd S p u) ∧ Wd K e (upd S p u) H σ Γ := fun u hu => by
    have s1 : Same S (upd S p u) := fun b z q => by
      rw [upd_ne (ne_of_none q sp)]
      exact q
    refine ⟨s1, ⟨w.nx.ss.trans s1, fun b z q => ?_, w.nx.hh, w.nx.al, fun b z => ?_⟩, w.sl.len, fun i bb q => ?_, w.sl.dj, w.sl.z⟩
    · by_cases hb : b = p
      · subst hb
        rw [upd_same] at q
        rw [hu]
        exact q
      · rw [upd_ne hb] at q
        exact w.nx.sh _ _ q
    · have hb : b ≠ p := fun q => z (by rw [q]; exact h0)
      rw [upd_ne hb]
      exact w.nx.old b z
    · obtain ⟨v, q1, q2⟩ := w.sl.at_ i bb q
      refine ⟨v, q1, ?_⟩
      cases bb with
      | st d => exact Rp.mono s1 q2
      | ow o' =>
        obtain ⟨c, ec, sc, oc, zc⟩ := q2
        have nc : c ≠ p := fun z => hn i o' q (by rw [q1, ec, z])
        exact ⟨c, ec, by rw [upd_ne nc]; exact sc, oc.to s1 rfl, zc⟩
      | xc a d fl => exact q2.xcm s1
      | nw d l => exact q2.elim
  cases o with
  | lst l =>
    obtain ⟨xs, h, t⟩ := ow
    obtain ⟨s1, w1⟩ := key _ h
    exact ⟨_, s1, fun b hb => upd_ne hb, w1, .lst (.inl upd_same) (t.mono s1)⟩
  | dK l =>
    obtain ⟨xs, h, t⟩ := ow
    obtain ⟨s1, w1⟩ := key _ h
    exact ⟨_, s1, fun b hb => upd_ne hb, w1, .dK (.inl upd_same) (t.mono s1)⟩
  | dT l =>
    obtain ⟨xs, h, t⟩ := ow
    obtain ⟨s1, w1⟩ := key _ h
    exact ⟨_, s1, fun b hb => upd_ne hb, w1, .dT (.inl upd_same) (t.mono s1)⟩
  | obj C l =>
    obtain ⟨dx, fs, h, t⟩ := ow
    obtain ⟨s1, w1⟩ := key _ h
    exact ⟨_, s1, fun b hb => upd_ne hb, w1, .obj upd_same (t.mono s1)⟩

/-! ### the operators on data -/
/-- r takes data d1, d2 to d and makes nothing -/
def Sc (K : Fg) (r : R2) (d1 d2 d : D) : Prop := ∀ S H v1 v2 (Q : VK), Same S H → Rp K S v1 d1 → Rp K S v2 d2 → (∀ v, Rp K S v d → Q v H) → r v1 v2 H Q
section scs
variable {K : Fg}
theorem sc_int {g : Int → Int → V} {f : Int → Int → D} (h : ∀ i j S, Rp K S (g i j) (f i j)) {i j : Int} : Sc K (rI0 g) (.int i) (.int j) (f i j) := fun S H v1 v2 Q s r1 r2 q => by
  cases r1
  cases r2
  exact ⟨i, j, rfl, rfl, q _ (h i j S)⟩
theorem sc_intC {C : Int → Int → Prop} {g : Int → Int → V} {f : Int → Int → D} (h : ∀ i j S, Rp K S (g i j) (f i j)) {i j : Int} (c : C i j) : Sc K (rI C g) (.int i) (.int j) (f i j) := fun S H v1 v2 Q s r1 r2 q => by
  cases r1
  cases r2
  exact ⟨i, j, rfl, rfl, c, q _ (h i j S)⟩
theorem sc_add {i j : Int} : Sc K (rI0 fun i j => .int (i + j)) (.int i) (.int j) (.int (i + j)) := sc_int fun _ _ _ => .int _
theorem sc_sub {i j : Int} : Sc K (rI0 fun i j => .int (i - j)) (.int i) (.int j) (.int (i - j)) := sc_int fun _ _ _ => .int _
theorem sc_lt {i j : Int} : Sc K (rI0 fun i j => .bl (decide (i < j))) (.int i) (.int j) (.bl (decide (i < j))) := sc_int fun _ _ _ => .bl _
theorem sc_le {i j : Int} : Sc K (rI0 fun i j => .bl (decide (i ≤ j))) (.int i) (.int j) (.bl (decide (i ≤ j))) := sc_int fun _ _ _ => .bl _
theorem sc_gt {i j : Int} : Sc K (rI0 fun i j => .bl (decide (j < i))) (.int i) (.int j) (.bl (decide (j < i))) := sc_int fun _ _ _ => .bl _
theorem sc_ge {i j : Int} : Sc K (rI0 fun i j => .bl (decide (j ≤ i))) (.int i) (.int j) (.bl (decide (j ≤ i))) := sc_int fun _ _ _ => .bl _
theorem sc_ixL {ds : List D} {i : Int} {d : D} (h : atI ds i = some d) : Sc K (rIxL K) (.lst ds) (.int i) d := fun S H v1 v2 Q s r1 r2 q => by
  cases r2
  cases r1 with
  | lst h1 h2 =>
    unfold atI at h
    rw [← h2.length] at h
    cases e : ixN (List.length _) i with
    | none => rw [e] at h; cases h
    | some j =>
      rw [e] at h
      obtain ⟨v, hv, rv⟩ := h2.get (show _[j]? = some d from h)
      exact ⟨_, _, i, v, rfl, rfl, rdq (same_rd s h1), by unfold atI; rw [e]; exact hv, q v rv⟩
theorem sc_ixT {ds : List D} {i : Int} {d : D} (h : atI ds i = some d) : Sc K (rIxT K) (.tup ds) (.int i) d := fun S H v1 v2 Q s r1 r2 q => by
  cases r2
  cases r1 with
  | tup h1 h2 =>
    unfold atI at h
    rw [← h2.length] at h
    cases e : ixN (List.length _) i with
    | none => rw [e] at h; cases h
    | some j =>
      rw [e] at h
      obtain ⟨v, hv, rv⟩ := h2.get (show _[j]? = some d from h)
      exact ⟨_, _, i, v, rfl, rfl, same_sqT s h1, by unfold atI; rw [e]; exact hv, q v rv⟩
end scs
end Kf
end
section
set_option maxRecDepth 100000
set_option maxHeartbeats 4000000
/-! KfB: expressions: pure ones (one value, nothing changed), others. -/
namespace Kf
open PySem L2

def tP (K : Fg) (e : Ent) (Γ : Gam) (d : D) : TE := fun σ H Q => ∃ S, Wd K e S H σ Γ ∧
  ∀ S' H' v, Pur S H S' H' → Wd K e S' H' σ Γ → Rp K S' v d → Q v H'
def tPX (K : Fg) (e : Ent) (Γ : Gam) (b : Bool) : TT := fun σ H Q => ∃ S, Wd K e S H σ Γ ∧
  ∀ S' H', Pur S H S' H' → Wd K e S' H' σ Γ → Q b H'
def tPA (K : Fg) (e : Ent) (Γ : Gam) (ds : List D) : TA := fun σ H Q => ∃ S, Wd K e S H σ Γ ∧
  ∀ S' H' vs, Pur S H S' H' → Wd K e S' H' σ Γ → RpL K S' vs ds → Q vs H'
abbrev PV (X : Cx) (e : Ent) (x : Expr) (Γ : Gam) (d : D) : Prop := PE X x (tP X.K e Γ d)
abbrev PX (X : Cx) (e : Ent) (x : Expr) (Γ : Gam) (b : Bool) : Prop := PT X x (tPX X.K e Γ b)
abbrev PVs (X : Cx) (e : Ent) (xs : List Expr) (Γ : Gam) (ds : List D) : Prop := PA X xs (tPA X.K e Γ ds)

section pure
variable {X : Cx} {e : Ent} {Γ : Gam} {x a b : Expr} {d d1 d2 : D} {pos : Pos}
theorem pv_ev (h : PV X e x Γ d) : EV X e x Γ (Is d Γ) := PE.imp h fun σ H Q ⟨S, w, q⟩ => ⟨S, w, fun S' H' v s w' r => q S' H' v d Γ ⟨rfl, rfl⟩ s.stp w' r⟩
theorem px_tv {k : Bool} (h : PX X e x Γ k) : TV X e x Γ (Is k Γ) := PT.imp h fun σ H Q ⟨S, w, q⟩ => ⟨S, w, fun S' H' s w' => q S' H' k Γ ⟨rfl, rfl⟩ s.stp w'⟩
theorem pvs_av {xs : List Expr} {ds : List D} (h : PVs X e xs Γ ds) : AV X e xs Γ (Is ds Γ) := PA.imp h fun σ H Q ⟨S, w, q⟩ => ⟨S, w, fun S' H' v s w' r => q S' H' v ds Γ ⟨rfl, rfl⟩ s.stp w' r⟩
theorem pv_var {n : Str} (i : Nat) (hd : Γ[i]? = some (some (.st d)) := by rfl) (hN : X.N[i]? = some n := by rfl) (hv : Vis X.env.scope n := by first | exact Or.inl rfl | exact Or.inr (Or.inl rfl) | exact Or.inr (Or.inr rfl))
    (h1 : (n == ("__debug__" : Str)) = false := by decide) (h2 : (n == ("__classdict__" : Str)) = false := by decide) : PV X e (.Name n pos) Γ d :=
  PE.imp (pe_var hN hv h1 h2) fun σ H Q ⟨S, w, q⟩ => by
    obtain ⟨v, hv, ok⟩ := w.sl.at_ i _ hd
    exact ⟨v, hv, q S H v (Pur.refl _ _) w ok⟩
theorem pv_const {v : V} (h : PE X x (tC v)) (r : ∀ S, Rp X.K S v d) : PV X e x Γ d :=
  PE.imp h fun σ H Q ⟨S, w, q⟩ => q S H v (Pur.refl _ _) w (r S)
theorem pv_int {i : Int} {j} : PV X e (.Constant (.int i) j pos) Γ (.int i) := pv_const pe_int fun _ => .int i
theorem pv_bl {i : Bool} {j} : PV X e (.Constant (.bool i) j pos) Γ (.bl i) := pv_const pe_bl fun _ => .bl i
theorem pv_non {j} : PV X e (.Constant .none j pos) Γ .non := pv_const pe_non fun _ => .non
theorem pv_str {i : Str} {j} : PV X e (.Constant (.str i) j pos) Γ (.str i) := pv_const pe_str fun _ => .str i
/-- a class or a def as a value -/
theorem pv_glo {n : Str} (hg : Gl X n) (hm : X.mg n = some (.ref (He.ga X.K n))) (hd : (n == ("__debug__" : Str)) = false := by decide) : PV X e (.Name n pos) Γ (.glo n) := pv_const (pe_glob (v := .ref (He.ga X.K n)) hg hm rfl hd) fun _ => .glo n
theorem pv_gstr {n z : Str} {t : Tok} (hg : Gl X n) (hm : X.mg n = some (.str z t)) (hd : (n == ("__debug__" : Str)) = false := by decide) : PV X e (.Name n pos) Γ (.str z) := pv_const (pe_glob (v := .str z) hg hm ⟨t, rfl⟩ hd) fun _ => .str z
theorem pv_gint {n : Str} {z : Int} {t : Tok} (hg : Gl X n) (hm : X.mg n = some (.int z t)) (hd : (n == ("__debug__" : Str)) = false := by decide) : PV X e (.Name n pos) Γ (.int z) := pv_const (pe_glob (v := .int z) hg hm ⟨t, rfl⟩ hd) fun _ => .int z
theorem pv_ty {n : Str} {T : String} (hg : Gl X n) (hm : X.mg n = none) (hv : bootBuiltins n = some (.type T)) (hn : n ≠ "__name__" := by decide) (hd : (n == ("__debug__" : Str)) = false := by decide) : PV X e (.Name n pos) Γ (.ty T) := pv_const (pe_bltn (v := .ty T) hg hm hv rfl hn hd) fun _ => .ty T
theorem pv_tg {o : Option V} (h : PV X e x Γ (d.tg o)) : PV X e x Γ d := PE.imp h fun σ H Q ⟨S, w, q⟩ => ⟨S, w, fun S' H' v s w' r => q S' H' v s w' r.untag⟩
theorem pvs_nil : PVs X e [] Γ [] := PA.imp pa_nil fun σ H Q ⟨S, w, q⟩ => q S H [] (Pur.refl _ _) w .nil
theorem pvs_cons {xs : List Expr} {ds : List D} (ha : PV X e a Γ d) (hb : PVs X e xs Γ ds) (hs : starEach (a :: xs) X.env = (false, eval a X.env) :: starEach xs X.env := by rfl) : PVs X e (a :: xs) Γ (d :: ds) :=
  PA.imp (pa_cons ha hb hs) fun σ H Q ⟨S, w, q⟩ => ⟨S, w, fun S1 H1 v1 s1 w1 r1 => ⟨S1, w1, fun S2 H2 vs s2 w2 r2 => q S2 H2 _ (s1.trans s2) w2 (.cons (r1.mono s2.ss) r2)⟩⟩
theorem pvs_star {xs : List Expr} {l ds : List D} {p : Pos} (ha : PV X e a Γ d) (hd : d = .lst l ∨ d = .tup l) (hb : PVs X e xs Γ ds) : PVs X e (.Starred a p :: xs) Γ (l ++ ds) :=
  PA.imp (StX.pa_star ha hb) fun σ H Q ⟨S, w, q⟩ => ⟨S, w, fun S1 H1 v1 s1 w1 r1 => by
    rcases hd with rfl | rfl
    · cases r1 with
      | lst h1 h2 => exact ⟨_, _, rfl, .inr (rdq (same_rd w1.nx.sh h1)), S1, w1, fun S2 H2 vs s2 w2 r2 => q S2 H2 _ (s1.trans s2) w2 ((h2.mono s2.ss).append r2)⟩
    · cases r1 with
      | tup h1 h2 => exact ⟨_, _, rfl, .inl (same_sqT w1.nx.sh h1), S1, w1, fun S2 H2 vs s2 w2 r2 => q S2 H2 _ (s1.trans s2) w2 ((h2.mono s2.ss).append r2)⟩⟩
theorem pv_b {op : Operator} {r : R2} (ho : OpR X (binaryOp op) r) (ha : PV X e a Γ d1) (hb : PV X e b Γ d2) (sc : Sc X.K r d1 d2 d) : PV X e (.BinOp a op b pos) Γ d :=
  PE.imp (pe_op ho ha hb) fun σ H Q ⟨S, w, q⟩ => ⟨S, w, fun S1 H1 v1 s1 w1 r1 => ⟨S1, w1, fun S2 H2 v2 s2 w2 r2 => sc S2 H2 v1 v2 Q w2.nx.sh (r1.mono s2.ss) r2 fun v rv => q S2 H2 v (s1.trans s2) w2 rv⟩⟩
theorem pv_c {op : CmpOp} {r : R2} (ho : OpR X (compareOp op) r) (ha : PV X e a Γ d1) (hb : PV X e b Γ d2) (sc : Sc X.K r d1 d2 d) (hm : behindInMarks op b = false := by first | exact nomark _ | rfl) : PV X e (.Compare a [op] [b] pos) Γ d :=
  PE.imp (pe_cmpR ho ha hb hm) fun σ H Q ⟨S, w, q⟩ => ⟨S, w, fun S1 H1 v1 s1 w1 r1 => ⟨S1, w1, fun S2 H2 v2 s2 w2 r2 => sc S2 H2 v1 v2 Q w2.nx.sh (r1.mono s2.ss) r2 fun v rv => q S2 H2 v (s1.trans s2) w2 rv⟩⟩
theorem pv_s {r : R2} (ho : IxR X r) (ha : PV X e a Γ d1) (hb : PV X e b Γ d2) (sc : Sc X.K r d1 d2 d) (hx : PlainIx b := by exact fun _ _ => rfl) : PV X e (.Subscript a b pos) Γ d :=
  PE.imp (pe_ix ho ha hb hx) fun σ H Q ⟨S, w, q⟩ => ⟨S, w, fun S1 H1 v1 s1 w1 r1 => ⟨S1, w1, fun S2 H2 v2 s2 w2 r2 => sc S2 H2 v1 v2 Q w2.nx.sh (r1.mono s2.ss) r2 fun v rv => q S2 H2 v (s1.trans s2) w2 rv⟩⟩
/-- a chain of two comparisons -/
theorem pv_ch {op op' : CmpOp} {r r' : R2} {c : Expr} {d3 : D} {k l : Bool} (ho : OpR X (compareOp op) r) (ho' : OpR X (compareOp op') r') (ha : PV X e a Γ d1) (hb : PV X e b Γ d2) (hc : PV X e c Γ d3) (sc : Sc X.K r d1 d2 (.bl k)) (sc' : k = true → Sc X.K r' d2 d3 (.bl l))
    (hpe : ∀ {ta tb tc : TE}, PE X a ta → PE X b tb → PE X c tc → PE X (.Compare a [op, op'] [b, c] pos) (tChain r r' ta tb tc) := by exact fun h1 h2 h3 => pe_chain (by assumption) (by assumption) h1 h2 h3) : PV X e (.Compare a [op, op'] [b, c] pos) Γ (.bl (k && l)) :=
  PE.imp (hpe ha hb hc) fun σ H Q ⟨S, w, q⟩ => ⟨S, w, fun S1 H1 v1 s1 w1 r1 => ⟨S1, w1, fun S2 H2 v2 s2 w2 r2 => sc S2 H2 v1 v2 _ w2.nx.sh (r1.mono s2.ss) r2 fun v rv => by
    cases rv
    refine ⟨k, rfl, ?_⟩
    cases k with
    | false => exact iteF (q S2 H2 _ (s1.trans s2) w2 (.bl _))
    | true => exact iteT ⟨S2, w2, fun S3 H3 v3 s3 w3 r3 => sc' rfl S3 H3 v2 v3 Q w3.nx.sh (r2.mono s3.ss) r3 fun v rv => q S3 H3 v ((s1.trans s2).trans s3) w3 rv⟩⟩⟩
/-- a built-in function by data: r takes ds to d and makes nothing -/
def ScL (K : Fg) (r : List V → Hp → VK → Prop) (ds : List D) (d : D) : Prop := ∀ S H vs (Q : VK), Same S H → RpL K S vs ds → (∀ v, Rp K S v d → Q v H) → r vs H Q
theorem pv_cb {n : Str} {id : String} {r : List V → Hp → VK → Prop} {x0 : Expr} {es : List Expr} {p : Pos} {ds : List D} (hc : CallR X (.builtin id) r) (hm : X.mg n = none) (hv : bootBuiltins n = some (.builtin id)) (ha : PVs X e (x0 :: es) Γ ds) (sc : ScL X.K r ds d)
    (hg : Gl X n := by rfl) (hn : n ≠ "__name__" := by decide) (hdb : (n == ("__debug__" : Str)) = false := by decide)
    (he : starEach (x0 :: es) X.env = (false, eval x0 X.env) :: starEach es X.env := by rfl) (hpl : (backTo pos (starEach es X.env)).any (·.1) = false := by rfl) : PV X e (.Call (.Name n p) (x0 :: es) [] pos) Γ d :=
  PE.imp (pe_callB hc hg hm hv ha hn hdb he hpl) fun σ H Q ⟨S, w, q⟩ => ⟨S, w, fun S1 H1 vs s1 w1 r1 => sc S1 H1 vs Q w1.nx.sh r1 fun v rv => q S1 H1 v s1 w1 rv⟩
theorem pv_ct {n : Str} {T : String} {r : List V → Hp → VK → Prop} {x0 : Expr} {es : List Expr} {p : Pos} {ds : List D} (hc : CallR X (.type T) r) (hm : X.mg n = none) (hv : bootBuiltins n = some (.type T)) (ha : PVs X e (x0 :: es) Γ ds) (sc : ScL X.K r ds d)
    (hg : Gl X n := by rfl) (hn : n ≠ "__name__" := by decide) (hdb : (n == ("__debug__" : Str)) = false := by decide)
    (he : starEach (x0 :: es) X.env = (false, eval x0 X.env) :: starEach es X.env := by rfl) (hpl : (backTo pos (starEach es X.env)).any (·.1) = false := by rfl) : PV X e (.Call (.Name n p) (x0 :: es) [] pos) Γ d :=
  PE.imp (pe_callTy hc hg hm hv ha hn hdb he hpl) fun σ H Q ⟨S, w, q⟩ => ⟨S, w, fun S1 H1 vs s1 w1 r1 => sc S1 H1 vs Q w1.nx.sh r1 fun v rv => q S1 H1 v s1 w1 rv⟩
/-! tests -/
theorem px_val {k : Bool} (h : PV X e x Γ (.bl k)) (he : ∀ whole, isTrue x X.env whole = (do let v ← whole; standAt x.pos; holding [v] (truthy v)) := by intro _; rfl) : PX X e x Γ k :=
  PT.imp (pt_val h he) fun σ H Q ⟨S, w, q⟩ => ⟨S, w, fun S1 H1 v s1 w1 r1 => by
    cases r1
    exact ⟨k, rfl, q S1 H1 s1 w1⟩⟩
theorem px_cmp {op : CmpOp} {r : R2} {k : Bool} (ho : OpR X (compareOp op) r) (ha : PV X e a Γ d1) (hb : PV X e b Γ d2) (sc : Sc X.K r d1 d2 (.bl k)) (hm : behindInMarks op b = false := by first | exact nomark _ | rfl) : PX X e (.Compare a [op] [b] pos) Γ k :=
  PT.imp (pt_cmpR ho ha hb hm) fun σ H Q ⟨S, w, q⟩ => ⟨S, w, fun S1 H1 v1 s1 w1 r1 => ⟨S1, w1, fun S2 H2 v2 s2 w2 r2 => sc S2 H2 v1 v2 _ w2.nx.sh (r1.mono s2.ss) r2 fun v rv => by
    cases rv
    exact ⟨k, rfl, q S2 H2 (s1.trans s2) w2⟩⟩⟩
theorem px_not {k : Bool} (h : PX X e x Γ k) : PX X e (.UnaryOp .Not x pos) Γ (!k) :=
  PT.imp (pt_not h) fun σ H Q ⟨S, w, q⟩ => ⟨S, w, fun S1 H1 s1 w1 => q S1 H1 s1 w1⟩
abbrev PW' (X : Cx) (e : Ent) (x : Expr) (Γ : Gam) (b : Bool) : Prop := PW X x (tPX X.K e Γ b)
theorem pw_a1 {k : Bool} (h : PX X e x Γ k) : PW' X e (.BoolOp .And [x] pos) Γ k := pw_and1 h
theorem pw_o1 {k : Bool} (h : PX X e x Γ k) : PW' X e (.BoolOp .Or [x] pos) Γ k := pw_or1 h
theorem pw_a {rest : List Expr} {k l : Bool} (h : PX X e x Γ k) (h2 : k = true → PW' X e (.BoolOp .And (b :: rest) pos) Γ l) : PW' X e (.BoolOp .And (x :: b :: rest) pos) Γ (k && l) := by
  cases k with
  | true => exact PW.imp (pw_and h (h2 rfl)) fun σ H Q ⟨S, w, q⟩ => ⟨S, w, fun S1 H1 s1 w1 => iteT ⟨S1, w1, fun S2 H2 s2 w2 => q S2 H2 (s1.trans s2) w2⟩⟩
  | false =>
    have nev : PW X (.BoolOp .And (b :: rest) pos) (fun _ _ _ => False) := ⟨fun _ _ _ _ _ _ _ z => z.elim⟩
    exact PW.imp (pw_and h nev) fun σ H Q ⟨S, w, q⟩ => ⟨S, w, fun S1 H1 s1 w1 => iteF (q S1 H1 s1 w1)⟩
theorem pw_o {rest : List Expr} {k l : Bool} (h : PX X e x Γ k) (h2 : k = false → PW' X e (.BoolOp .Or (b :: rest) pos) Γ l) : PW' X e (.BoolOp .Or (x :: b :: rest) pos) Γ (k || l) := by
  cases k with
  | false => exact PW.imp (pw_or h (h2 rfl)) fun σ H Q ⟨S, w, q⟩ => ⟨S, w, fun S1 H1 s1 w1 => iteF ⟨S1, w1, fun S2 H2 s2 w2 => q S2 H2 (s1.trans s2) w2⟩⟩
  | true =>
    have nev : PW X (.BoolOp .Or (b :: rest) pos) (fun _ _ _ => False) := ⟨fun _ _ _ _ _ _ _ z => z.elim⟩
    exact PW.imp (pw_or h nev) fun σ H Q ⟨S, w, q⟩ => ⟨S, w, fun S1 H1 s1 w1 => iteT (q S1 H1 s1 w1)⟩
theorem px_w {k : Bool} (h : PW' X e x Γ k) : PX X e x Γ k := h.pt
theorem px_is {k l : Bool} (h : PX X e x Γ k) (q : k = l) : PX X e x Γ l := by rw [← q]; exact h
theorem pv_is (h : PV X e x Γ d1) (q : d1 = d) : PV X e x Γ d := by rw [← q]; exact h
/-- and, or, not as values -/
theorem pv_one {op : BoolOp} (h : PV X e x Γ d) : PV X e (.BoolOp op [x] pos) Γ d := pe_one h
theorem pv_and {rest : List Expr} {k l : Bool} (h : PV X e x Γ (.bl k)) (h2 : k = true → PV X e (.BoolOp .And (b :: rest) pos) Γ (.bl l)) : PV X e (.BoolOp .And (x :: b :: rest) pos) Γ (.bl (k && l)) := by
  cases k with
  | true => exact PE.imp (pe_and h (h2 rfl)) fun σ H Q ⟨S, w, q⟩ => ⟨S, w, fun S1 H1 v s1 w1 r1 => by
      cases r1
      exact ⟨true, rfl, iteT ⟨S1, w1, fun S2 H2 v s2 w2 r2 => q S2 H2 v (s1.trans s2) w2 r2⟩⟩⟩
  | false =>
    have nev : PE X (.BoolOp .And (b :: rest) pos) (fun _ _ _ => False) := ⟨fun _ _ _ _ _ _ z => z.elim⟩
    exact PE.imp (pe_and h nev) fun σ H Q ⟨S, w, q⟩ => ⟨S, w, fun S1 H1 v s1 w1 r1 => by
      cases r1
      exact ⟨false, rfl, iteF (q S1 H1 _ s1 w1 (.bl false))⟩⟩
theorem pv_or {rest : List Expr} {k l : Bool} (h : PV X e x Γ (.bl k)) (h2 : k = false → PV X e (.BoolOp .Or (b :: rest) pos) Γ (.bl l)) : PV X e (.BoolOp .Or (x :: b :: rest) pos) Γ (.bl (k || l)) := by
  cases k with
  | false => exact PE.imp (pe_or h (h2 rfl)) fun σ H Q ⟨S, w, q⟩ => ⟨S, w, fun S1 H1 v s1 w1 r1 => by
      cases r1
      exact ⟨false, rfl, iteF ⟨S1, w1, fun S2 H2 v s2 w2 r2 => q S2 H2 v (s1.trans s2) w2 r2⟩⟩⟩
  | true =>
    have nev : PE X (.BoolOp .Or (b :: rest) pos) (fun _ _ _ => False) := ⟨fun _ _ _ _ _ _ z => z.elim⟩
    exact PE.imp (pe_or h nev) fun σ H Q ⟨S, w, q⟩ => ⟨S, w, fun S1 H1 v s1 w1 r1 => by
      cases r1
      exact ⟨true, rfl, iteT (q S1 H1 _ s1 w1 (.bl true))⟩⟩
theorem pv_not {k : Bool} (h : PV X e x Γ (.bl k)) : PV X e (.UnaryOp .Not x pos) Γ (.bl (!k)) :=
  PE.imp (pe_not h) fun σ H Q ⟨S, w, q⟩ => ⟨S, w, fun S1 H1 v s1 w1 r1 => by
    cases r1
    exact ⟨k, rfl, q S1 H1 _ s1 w1 (.bl _)⟩⟩
theorem pv_if {c : Expr} {k : Bool} (hc : PX X e c Γ k) (h1 : k = true → PV X e a Γ d) (h2 : k = false → PV X e b Γ d) : PV X e (.IfExp c a b pos) Γ d := by
  have nev : ∀ y, PE X y (fun _ _ _ => False) := fun _ => ⟨fun _ _ _ _ _ _ z => z.elim⟩
  cases k with
  | true => exact PE.imp (pe_ifExp hc (h1 rfl) (nev b)) fun σ H Q ⟨S, w, q⟩ => ⟨S, w, fun S1 H1 s1 w1 => iteT ⟨S1, w1, fun S2 H2 v s2 w2 r2 => q S2 H2 v (s1.trans s2) w2 r2⟩⟩
  | false => exact PE.imp (pe_ifExp hc (nev a) (h2 rfl)) fun σ H Q ⟨S, w, q⟩ => ⟨S, w, fun S1 H1 s1 w1 => iteF ⟨S1, w1, fun S2 H2 v s2 w2 r2 => q S2 H2 v (s1.trans s2) w2 r2⟩⟩
/-! displays -/
theorem tP_new {K : Fg} {σ : L2.St} {Q : VK} {S H S1 H1 : Hp} {p : Addr} {o : HO} (q : ∀ S' H' v, Pur S H S' H' → Wd K e S' H' σ Γ → Rp K S' v d → Q v H') (s1 : Pur S H S1 H1) (w1 : Wd K e S1 H1 σ Γ) (hp : H1 p = none)
    (r : Same S1 (upd S1 p o) → Rp K (upd S1 p o) (.ref p) d) : Q (.ref p) (upd H1 p o) := by
  obtain ⟨w2, s2⟩ := w1.new (o := o) hp
  exact q _ _ _ (s1.trans (pur_new (w1.nx.sh.free hp) hp)) w2 (r s2)
theorem pv_tup {es : List Expr} {ds : List D} {c} (h : PVs X e es Γ ds) (hl : ds.length ≤ sizeLine := by first | exact Nat.le_trans (by decide : _ ≤ 1000) (by decide) | exact Nat.le_trans (m := 1000) (by simp only [List.length_cons, List.length_nil]; decide) (by decide)) : PV X e (.Tuple es c pos) Γ (.tup ds) :=
  PE.imp (pe_tup h) fun σ H Q ⟨S, w, q⟩ => ⟨S, w, fun S1 H1 vs s1 w1 r1 => ⟨by rw [r1.length]; exact hl, fun p hp => tP_new q s1 w1 hp fun s2 => .tup (SqT.of upd_same) (r1.mono s2)⟩⟩
theorem pv_lst {es : List Expr} {ds : List D} (h : PVs X e es Γ ds) (hl : ds.length ≤ sizeLine := by first | exact Nat.le_trans (by decide : _ ≤ 1000) (by decide) | exact Nat.le_trans (m := 1000) (by simp only [List.length_cons, List.length_nil]; decide) (by decide)) : PV X e (.List es pos) Γ (.lst ds) :=
  PE.imp (pe_lst h) fun σ H Q ⟨S, w, q⟩ => ⟨S, w, fun S1 H1 vs s1 w1 r1 => ⟨by rw [r1.length]; exact hl, fun p hp => tP_new q s1 w1 hp fun s2 => .lst (.inl upd_same) (r1.mono s2)⟩⟩
/-- a new object of one's own -/
theorem tO_new {K : Fg} {σ : L2.St} {Q : VK} {S H S1 H1 : Hp} {p : Addr} {u : HO} {o : O} {Γ1 : Gam} {Φ : O → Gam → Prop} (q : ∀ S' H' a o Γ', Φ o Γ' → Stp σ Γ S H Γ' S' H' → Wd K e S' H' σ Γ' → S' a = none → Own K S' H' a o → H a = none → Q (.ref a) H')
    (s1 : Stp σ Γ S H Γ1 S1 H1) (w1 : Wd K e S1 H1 σ Γ1) (hΦ : Φ o Γ1) (hp : H1 p = none) (r : Own K S1 (upd H1 p u) p o) : Q (.ref p) (upd H1 p u) :=
  q S1 (upd H1 p u) p o Γ1 hΦ (s1.trans (pur_own hp).stp) (w1.own hp) (w1.nx.sh.free hp) r (by
    cases z : H p with
    | none => rfl
    | some y => exact absurd hp (s1.al p (by rw [z]; exact fun t => nomatch t)))
theorem eo_lst {es : List Expr} {ds : List D} (h : PVs X e es Γ ds) (hl : ds.length ≤ sizeLine := by first | exact Nat.le_trans (by decide : _ ≤ 1000) (by decide) | exact Nat.le_trans (m := 1000) (by simp only [List.length_cons, List.length_nil]; decide) (by decide)) : EO X e (.List es pos) Γ (Is (.lst ds) Γ) :=
  PE.imp (pe_lst h) fun σ H Q ⟨S, w, q⟩ => ⟨S, w, fun S1 H1 vs s1 w1 r1 => ⟨by rw [r1.length]; exact hl, fun p hp => tO_new q s1.stp w1 ⟨rfl, rfl⟩ hp ⟨vs, upd_same, r1⟩⟩⟩
theorem eo_dK : EO X e (.Dict [] [] pos) Γ (Is (.dK []) Γ) := PE.imp pe_dnewK fun σ H Q ⟨S, w, q⟩ p hp => tO_new q (Stp.refl _ _ _ _) w ⟨rfl, rfl⟩ hp ⟨[], upd_same, .nil⟩
theorem eo_dT : EO X e (.Dict [] [] pos) Γ (Is (.dT []) Γ) := PE.imp pe_dnewT fun σ H Q ⟨S, w, q⟩ p hp => tO_new q (Stp.refl _ _ _ _) w ⟨rfl, rfl⟩ hp ⟨[], upd_same, .nil⟩
theorem eo_weak {Φ Φ' : O → Gam → Prop} (h : EO X e x Γ Φ') (k : ∀ d Γ', Φ' d Γ' → Φ d Γ') : EO X e x Γ Φ :=
  PE.imp h fun σ H Q ⟨S, w, q⟩ => ⟨S, w, fun S' H' a o Γ' hd => q S' H' a o Γ' (k o Γ' hd)⟩
theorem ev_weak {Φ Φ' : D → Gam → Prop} (h : EV X e x Γ Φ') (k : ∀ d Γ', Φ' d Γ' → Φ d Γ') : EV X e x Γ Φ :=
  PE.imp h fun σ H Q ⟨S, w, q⟩ => ⟨S, w, fun S' H' v d Γ' hd => q S' H' v d Γ' (k d Γ' hd)⟩
end pure

/-! ### impure ones -/
section impure
variable {X : Cx} {e : Ent} {Γ : Gam} {x a b : Expr} {Φ Φa : D → Gam → Prop} {pos : Pos}
theorem tO_frz {K : Fg} {σ : L2.St} {S H S' H' : Hp} {Γ' : Gam} {p : Addr} {o : O} (s : Stp σ Γ S H Γ' S' H') (w : Wd K e S H σ Γ) (w' : Wd K e S' H' σ Γ') (sp : S' p = none) (ow : Own K S' H' p o) (hp : H p = none) :
    ∃ S2, Stp σ Γ S H Γ' S2 H' ∧ Wd K e S2 H' σ Γ' ∧ Rp K S2 (.ref p) o.d := by
  obtain ⟨S2, s2, k2, w2, r⟩ := own_st w' sp ow (w.nx.fresh hp) fun i o' h1 h2 => by
    obtain ⟨o2, h3⟩ := s.sl i o' h1
    obtain ⟨v, h4, c, h5, _, h6, _⟩ := w.sl.at_ i _ h3
    rw [h2] at h4
    cases h4
    cases h5
    exact h6.some hp
  exact ⟨S2, ⟨s.ss.trans s2, s.hh, s.al, fun b hb => (k2 b fun z => hb (by rw [z]; exact hp)).trans (s.old b hb), s.sl⟩, w2, r⟩
theorem ev_frz {Φo : O → Gam → Prop} (h : EO X e x Γ Φo) (k : ∀ o Γ', Φo o Γ' → Φ o.d Γ') : EV X e x Γ Φ :=
  PE.imp h fun σ H Q ⟨S, w, q⟩ => ⟨S, w, fun S' H' p o Γ' ho s w' sp ow hp => by
    obtain ⟨S2, s2, w2, r⟩ := tO_frz s w w' sp ow hp
    exact q S2 H' _ _ Γ' (k o Γ' ho) s2 w2 r⟩
theorem av_cons {xs : List Expr} {Φb : D → Gam → List D → Gam → Prop} {Ψ : List D → Gam → Prop} (ha : EV X e a Γ Φa) (hb : ∀ d1 Γ1, Φa d1 Γ1 → AV X e xs Γ1 (Φb d1 Γ1)) (k : ∀ d1 Γ1 ds Γ2, Φa d1 Γ1 → Φb d1 Γ1 ds Γ2 → Ψ (d1 :: ds) Γ2)
    (hs : starEach (a :: xs) X.env = (false, eval a X.env) :: starEach xs X.env := by rfl) : AV X e (a :: xs) Γ Ψ := by
  have hb' : PA X xs (fun σ H Q => ∃ d1 Γ1, Φa d1 Γ1 ∧ tA X.K e Γ1 (Φb d1 Γ1) σ H Q) := ⟨fun pos pins s σ H Q I ⟨d1, Γ1, h1, q⟩ => (hb d1 Γ1 h1).run pos pins s σ H Q I q⟩
  refine PA.imp (pa_cons ha hb' hs) fun σ H Q ⟨S, w, q⟩ => ⟨S, w, fun S1 H1 v1 d1 Γ1 h1 s1 w1 r1 => ?_⟩
  exact ⟨d1, Γ1, h1, S1, w1, fun S2 H2 vs ds Γ2 h2 s2 w2 r2 => q S2 H2 _ _ Γ2 (k _ _ _ _ h1 h2) (s1.trans s2) w2 (.cons (r1.mono s2.ss) r2)⟩
/-- the shape of all rules with two operands -/
theorem two {y : Expr} {r : R2} {t : TE} {Φb : D → Gam → D → Gam → Prop} (hpe : ∀ ta tb, PE X a ta → PE X b tb → PE X y (tOp r ta tb)) (ha : EV X e a Γ Φa) (hb : ∀ d1 Γ1, Φa d1 Γ1 → EV X e b Γ1 (Φb d1 Γ1))
    (k : ∀ d1 Γ1 d2 Γ2, Φa d1 Γ1 → Φb d1 Γ1 d2 Γ2 → ∃ d, Sc X.K r d1 d2 d ∧ Φ d Γ2) : EV X e y Γ Φ := by
  have hb' : PE X b (fun σ H Q => ∃ d1 Γ1, Φa d1 Γ1 ∧ tE X.K e Γ1 (Φb d1 Γ1) σ H Q) := ⟨fun pins s σ H Q I ⟨d1, Γ1, h1, q⟩ => (hb d1 Γ1 h1).run pins s σ H Q I q⟩
  refine PE.imp (hpe _ _ ha hb') fun σ H Q ⟨S, w, q⟩ => ⟨S, w, fun S1 H1 v1 d1 Γ1 h1 s1 w1 r1 => ?_⟩
  refine ⟨d1, Γ1, h1, S1, w1, fun S2 H2 v2 d2 Γ2 h2 s2 w2 r2 => ?_⟩
  obtain ⟨d, sc, hd⟩ := k d1 Γ1 d2 Γ2 h1 h2
  exact sc S2 H2 v1 v2 Q w2.nx.sh (r1.mono s2.ss) r2 fun v rv => q S2 H2 v d Γ2 hd (s1.trans s2) w2 rv
theorem ev_bin {op : Operator} {r : R2} {Φb : D → Gam → D → Gam → Prop} (ho : OpR X (binaryOp op) r) (ha : EV X e a Γ Φa) (hb : ∀ d1 Γ1, Φa d1 Γ1 → EV X e b Γ1 (Φb d1 Γ1))
    (k : ∀ d1 Γ1 d2 Γ2, Φa d1 Γ1 → Φb d1 Γ1 d2 Γ2 → ∃ d, Sc X.K r d1 d2 d ∧ Φ d Γ2) : EV X e (.BinOp a op b pos) Γ Φ := two (t := tC .non) (fun ta tb h1 h2 => pe_op ho h1 h2) ha hb k
theorem ev_cmp {op : CmpOp} {r : R2} {Φb : D → Gam → D → Gam → Prop} (ho : OpR X (compareOp op) r) (ha : EV X e a Γ Φa) (hb : ∀ d1 Γ1, Φa d1 Γ1 → EV X e b Γ1 (Φb d1 Γ1))
    (k : ∀ d1 Γ1 d2 Γ2, Φa d1 Γ1 → Φb d1 Γ1 d2 Γ2 → ∃ d, Sc X.K r d1 d2 d ∧ Φ d Γ2) (hm : behindInMarks op b = false := by first | exact nomark _ | rfl) : EV X e (.Compare a [op] [b] pos) Γ Φ := two (t := tC .non) (fun ta tb h1 h2 => pe_cmpR ho h1 h2 hm) ha hb k
theorem ev_sub {r : R2} {Φb : D → Gam → D → Gam → Prop} (ho : IxR X r) (ha : EV X e a Γ Φa) (hb : ∀ d1 Γ1, Φa d1 Γ1 → EV X e b Γ1 (Φb d1 Γ1))
    (k : ∀ d1 Γ1 d2 Γ2, Φa d1 Γ1 → Φb d1 Γ1 d2 Γ2 → ∃ d, Sc X.K r d1 d2 d ∧ Φ d Γ2) (hx : PlainIx b := by exact fun _ _ => rfl) : EV X e (.Subscript a b pos) Γ Φ := two (t := tC .non) (fun ta tb h1 h2 => pe_ix ho h1 h2 hx) ha hb k
theorem tv_val {Ψ : Bool → Gam → Prop} (h : EV X e x Γ Φ) (k : ∀ d Γ', Φ d Γ' → ∃ c, d = .bl c ∧ Ψ c Γ') (he : ∀ whole, isTrue x X.env whole = (do let v ← whole; standAt x.pos; holding [v] (truthy v)) := by intro _; rfl) : TV X e x Γ Ψ :=
  PT.imp (pt_val h he) fun σ H Q ⟨S, w, q⟩ => ⟨S, w, fun S1 H1 v d Γ' hd s1 w1 r1 => by
    obtain ⟨c, rfl, hc⟩ := k d Γ' hd
    cases r1
    exact ⟨c, rfl, q S1 H1 c Γ' hc s1 w1⟩⟩
theorem tv_cmp {op : CmpOp} {r : R2} {Ψ : Bool → Gam → Prop} {Φb : D → Gam → D → Gam → Prop} (ho : OpR X (compareOp op) r) (ha : EV X e a Γ Φa) (hb : ∀ d1 Γ1, Φa d1 Γ1 → EV X e b Γ1 (Φb d1 Γ1))
    (k : ∀ d1 Γ1 d2 Γ2, Φa d1 Γ1 → Φb d1 Γ1 d2 Γ2 → ∃ c, Sc X.K r d1 d2 (.bl c) ∧ Ψ c Γ2) (hm : behindInMarks op b = false := by first | exact nomark _ | rfl) : TV X e (.Compare a [op] [b] pos) Γ Ψ := by
  have hb' : PE X b (fun σ H Q => ∃ d1 Γ1, Φa d1 Γ1 ∧ tE X.K e Γ1 (Φb d1 Γ1) σ H Q) := ⟨fun pins s σ H Q I ⟨d1, Γ1, h1, q⟩ => (hb d1 Γ1 h1).run pins s σ H Q I q⟩
  refine PT.imp (pt_cmpR ho ha hb' hm) fun σ H Q ⟨S, w, q⟩ => ⟨S, w, fun S1 H1 v1 d1 Γ1 h1 s1 w1 r1 => ?_⟩
  refine ⟨d1, Γ1, h1, S1, w1, fun S2 H2 v2 d2 Γ2 h2 s2 w2 r2 => ?_⟩
  obtain ⟨c, sc, hc⟩ := k d1 Γ1 d2 Γ2 h1 h2
  exact sc S2 H2 v1 v2 _ w2.nx.sh (r1.mono s2.ss) r2 fun v rv => by
    cases rv
    exact ⟨c, rfl, q S2 H2 c Γ2 hc (s1.trans s2) w2⟩
end impure

/-! ### one's own objects looked at: all of them as if they stood for good -/
def B.fr : B → B
  | .ow o => .st o.d
  | b => b
def snap (Γ : Gam) : Gam := Γ.map (Option.map B.fr)
def flat : D → Bool
  | .non => true | .bl _ => true | .int _ => true | .str _ => true | _ => false
theorem Rp.flat {K : Fg} {S S' : Hp} {v : V} {d : D} (h : Rp K S v d) (f : flat d = true) : Rp K S' v d := by
  cases h with
  | non => exact .non
  | bl b => exact .bl b
  | int i => exact .int i
  | str s => exact .str s
  | _ => cases f
section snaps
variable {X : Cx} {e : Ent} {Γ : Gam} {x : Expr} {d : D}
theorem snap_get {i : Nat} {b : B} (q : (snap Γ)[i]? = some (some b)) : ∃ b', Γ[i]? = some (some b') ∧ b'.fr = b := by
  unfold snap at q
  rw [List.getElem?_map] at q
  cases h : Γ[i]? with
  | none => rw [h] at q; cases q
  | some b0 =>
    rw [h] at q
    cases b0 with
    | none => cases q
    | some b1 => exact ⟨b1, rfl, Option.some.inj (Option.some.inj q)⟩
theorem own_rp {K : Fg} {S H : Hp} {a : Addr} {o : O} (s : Same S H) (ow : Own K S H a o) : Rp K H (.ref a) o.d := by
  cases o with
  | lst l => obtain ⟨xs, z1, z2⟩ := ow; exact .lst (.inl z1) (z2.mono s)
  | dK l => obtain ⟨xs, z1, z2⟩ := ow; exact .dK (.inl z1) (z2.mono s)
  | dT l => obtain ⟨xs, z1, z2⟩ := ow; exact .dT (.inl z1) (z2.mono s)
  | obj C l => obtain ⟨dx, fs, z1, z2⟩ := ow; exact .obj z1 (z2.mono s)
theorem snap_wd {K : Fg} {S H : Hp} {σ : L2.St} (w : Wd K e S H σ Γ) : Wd K ⟨H, H, none⟩ H H σ (snap Γ) := by
  refine ⟨⟨Same.refl _, Same.refl _, fun _ _ z _ => z, fun _ z => z, fun _ _ => rfl⟩, by rw [w.sl.len]; simp [snap], fun i b q => ?_, fun i j o o' a q => ?_, fun a z => nomatch z⟩
  · obtain ⟨b1, h, eb⟩ := snap_get q
    obtain ⟨v, h1, h2⟩ := w.sl.at_ i b1 h
    refine ⟨v, h1, ?_⟩
    subst eb
    cases b1 with
    | st d => exact Rp.mono w.nx.sh h2
    | xc a d fl => exact ⟨h2.1, h2.2.mono w.nx.sh⟩
    | nw d l => exact h2.elim
    | ow o =>
      obtain ⟨a, rfl, _, ow, _⟩ := h2
      exact own_rp w.nx.sh ow
  · exfalso
    obtain ⟨b1, h, eb⟩ := snap_get q
    cases b1 <;> cases eb
theorem Wd.same {K : Fg} {S H H' : Hp} {σ : L2.St} (w : Wd K e S H σ Γ) (g : Same H H') : Wd K e S H' σ Γ :=
  ⟨⟨w.nx.ss, w.nx.sh.trans g, fun a o z y => g _ _ (w.nx.hh a o z y), fun a z y => w.nx.al a z (g.free y), w.nx.old⟩, w.sl.to (Same.refl _) fun a sa ha => by
    cases q : H a with
    | none => exact absurd q ha
    | some u => exact ⟨g _ _ q, sa⟩⟩
/-- a flat value of a pure expression, all that is one's own read as data -/
theorem pv_snap (h : ∀ e', PV X e' x (snap Γ) d) (f : flat d = true := by rfl) : PV X e x Γ d := by
  refine ⟨fun pins s σ H Q I ⟨S, w, q⟩ => (h ⟨H, H, none⟩).run pins s σ H Q I ⟨H, snap_wd w, fun S' H' v s1 w1 r1 => ?_⟩⟩
  exact q S H' v ⟨Same.refl _, s1.hh, fun _ _ => rfl⟩ (w.same s1.hh) (r1.flat f)
theorem px_snap {k : Bool} (h : ∀ e', PX X e' x (snap Γ) k) : PX X e x Γ k := by
  refine ⟨fun pins s σ H Q I ⟨S, w, q⟩ => (h ⟨H, H, none⟩).run pins s σ H Q I ⟨H, snap_wd w, fun S' H' s1 w1 => ?_⟩⟩
  exact q S H' ⟨Same.refl _, s1.hh, fun _ _ => rfl⟩ (w.same s1.hh)
end snaps
end Kf
end
section
set_option maxRecDepth 100000
set_option maxHeartbeats 4000000
/-! KfC: statements, loops. -/
namespace Kf
open PySem L2

/-! ### what is wanted behind a statement -/
structure Kn where
  nx : Gam → Prop
  rt : B → Gam → Prop
  bk : Gam → Prop := fun _ => False
  ct : Gam → Prop := fun _ => False
def ROk (K : Fg) (e : Ent) (S H : Hp) (v : V) : B → Prop
  | .st d => Rp K S v d
  | .ow o => ∃ a, v = .ref a ∧ S a = none ∧ Own K S H a o ∧ e.H0 a = none
  | .xc _ _ _ => False
  | .nw d l => ∃ p q u xs, v = .ref p ∧ S p = none ∧ S q = none ∧ p ≠ q ∧ H p = some (.lst [u, .ref q]) ∧ H q = some (.lst xs) ∧ Rp K S u d ∧ RpL K S xs l ∧ e.H0 p = none ∧ e.H0 q = none
structure tS (K : Fg) (e : Ent) (Γ : Gam) (k : Kn) (D : Ends) (σ : L2.St) (H : Hp) : Prop where
  ex : ∃ S, Wd K e S H σ Γ ∧
    (∀ S' σ' H' Γ', k.nx Γ' → Same S S' → Wd K e S' H' σ' Γ' → D.nx σ' H') ∧ (∀ S' σ' H' Γ', k.bk Γ' → Same S S' → Wd K e S' H' σ' Γ' → D.bk σ' H') ∧
    (∀ S' σ' H' Γ', k.ct Γ' → Same S S' → Wd K e S' H' σ' Γ' → D.ct σ' H') ∧ (∀ S' σ' H' v b Γ', k.rt b Γ' → Same S S' → Wd K e S' H' σ' Γ' → ROk K e S' H' v b → D.rt v H')
abbrev BL (X : Cx) (e : Ent) (st : List Stmt) (Γ : Gam) (k : Kn) : Prop := PSs X st (tS X.K e Γ k)
abbrev ST (X : Cx) (e : Ent) (st : Stmt) (Γ : Gam) (k : Kn) : Prop := PS X st (tS X.K e Γ k)

section slots
variable {K : Fg} {e : Ent} {S H : Hp} {σ : L2.St} {Γ : Gam} {i : Nat} {v : V} {d : D}
theorem get_set {α : Type} {l : List α} {i j : Nat} {x y : α} (h : (l.set i x)[j]? = some y) : (i = j ∧ x = y) ∨ (i ≠ j ∧ l[j]? = some y) := by
  rw [List.getElem?_set] at h
  by_cases q : i = j
  · rw [if_pos q] at h
    split at h
    · exact .inl ⟨q, Option.some.inj h⟩
    · cases h
  · rw [if_neg q] at h
    exact .inr ⟨q, h⟩
theorem set_at {α : Type} {l : List α} {i : Nat} {x : α} (h : i < l.length) : (l.set i x)[i]? = some x := by
  rw [List.getElem?_set_self h]
theorem Wd.set (w : Wd K e S H σ Γ) (r : Rp K S v d) (hz : e.own = none ∨ i ≠ 0) : Wd K e S H (σ.set i (some v)) (Γ.set i (some (.st d))) := by
  refine ⟨w.nx, by rw [List.length_set, List.length_set]; exact w.sl.len, fun j b q => ?_, fun j k o o' a q1 q2 q3 q4 => ?_, fun a z => ?_⟩
  · rcases get_set q with ⟨rfl, h⟩ | ⟨n, h⟩
    · have h' := Option.some.inj h
      subst h'
      have hl : i < (Γ.set i (some (.st d))).length := (List.getElem?_eq_some_iff.mp q).1
      rw [List.length_set] at hl
      exact ⟨v, set_at (by rw [w.sl.len]; exact hl), r⟩
    · obtain ⟨u, h1, h2⟩ := w.sl.at_ j b h
      exact ⟨u, by rw [List.getElem?_set_ne n]; exact h1, h2⟩
  · rcases get_set q1 with ⟨_, h⟩ | ⟨n1, h1⟩
    · cases h
    rcases get_set q2 with ⟨_, h⟩ | ⟨n2, h2⟩
    · cases h
    rw [List.getElem?_set_ne n1] at q3
    rw [List.getElem?_set_ne n2] at q4
    exact w.sl.dj j k o o' a h1 h2 q3 q4
  · have n : i ≠ 0 := by
      rcases hz with h | h
      · rw [h] at z; cases z
      · exact h
    obtain ⟨h1, o, h2⟩ := w.sl.z a z
    exact ⟨by rw [List.getElem?_set_ne n]; exact h1, o, by rw [List.getElem?_set_ne n]; exact h2⟩
theorem Wd.setO {a : Addr} {o : O} (w : Wd K e S H σ Γ) (sa : S a = none) (ow : Own K S H a o) (h0 : e.H0 a = none) (hn : ∀ (j : Nat) (o' : O), Γ[j]? = some (some (.ow o')) → σ[j]? ≠ some (some (.ref a))) (hz : e.own = none ∨ i ≠ 0) :
    Wd K e S H (σ.set i (some (.ref a))) (Γ.set i (some (.ow o))) := by
  refine ⟨w.nx, by rw [List.length_set, List.length_set]; exact w.sl.len, fun j b q => ?_, fun j k o1 o2 c q1 q2 q3 q4 => ?_, fun c z => ?_⟩
  · rcases get_set q with ⟨rfl, h⟩ | ⟨n, h⟩
    · have h' := Option.some.inj h
      subst h'
      have hl : i < (Γ.set i (some (.ow o))).length := (List.getElem?_eq_some_iff.mp q).1
      rw [List.length_set] at hl
      exact ⟨_, set_at (by rw [w.sl.len]; exact hl), a, rfl, sa, ow, .inl h0⟩
    · obtain ⟨u, h1, h2⟩ := w.sl.at_ j b h
      exact ⟨u, by rw [List.getElem?_set_ne n]; exact h1, h2⟩
  · rcases get_set q1 with ⟨e1, h⟩ | ⟨n1, h1⟩
    · rcases get_set q2 with ⟨e2, h⟩ | ⟨n2, h2⟩
      · exact e1.symm.trans e2
      · exfalso
        rw [List.getElem?_set_ne n2] at q4
        rcases get_set q3 with ⟨_, h3⟩ | ⟨n3, _⟩
        · cases h3
          exact hn k o2 h2 q4
        · exact n3 e1
    · rw [List.getElem?_set_ne n1] at q3
      rcases get_set q2 with ⟨e2, h⟩ | ⟨n2, h2⟩
      · exfalso
        rcases get_set q4 with ⟨_, h3⟩ | ⟨n3, _⟩
        · cases h3
          exact hn j o1 h1 q3
        · exact n3 e2
      · rw [List.getElem?_set_ne n2] at q4
        exact w.sl.dj j k o1 o2 c h1 h2 q3 q4
  · have n : i ≠ 0 := by
      rcases hz with h | h
      · rw [h] at z; cases z
      · exact h
    obtain ⟨h1, o', h2⟩ := w.sl.z c z
    exact ⟨by rw [List.getElem?_set_ne n]; exact h1, o', by rw [List.getElem?_set_ne n]; exact h2⟩
/-- one's own object in slot i is changed -/
theorem Wd.put {a : Addr} {o o' : O} {u : HO} (w : Wd K e S H σ Γ) (hi : Γ[i]? = some (some (.ow o))) (ha : σ[i]? = some (some (.ref a))) (ow : Own K S (upd H a u) a o') : Wd K e S (upd H a u) σ (Γ.set i (some (.ow o'))) := by
  obtain ⟨v, h1, c, h2, sa, _, hc⟩ := w.sl.at_ i _ hi
  rw [ha] at h1
  cases h1
  cases h2
  refine ⟨w.nx.put sa hc, by rw [List.length_set]; exact w.sl.len, fun j b q => ?_, fun j k o1 o2 x q1 q2 q3 q4 => ?_, fun x z => ?_⟩
  · rcases get_set q with ⟨rfl, h⟩ | ⟨n, h⟩
    · have h' := Option.some.inj h
      subst h'
      exact ⟨_, ha, a, rfl, sa, ow, hc⟩
    · obtain ⟨y, h1, h2⟩ := w.sl.at_ j b h
      refine ⟨y, h1, ?_⟩
      cases b with
      | st d => exact h2
      | xc a d fl => exact h2.xcm (Same.refl _)
      | nw d l => exact h2.elim
      | ow o1 =>
        obtain ⟨x, h3, h4, h5, h6⟩ := h2
        subst h3
        have nx : x ≠ a := fun z => n (w.sl.dj i j o o1 a hi h ha (by rw [h1, z]))
        exact ⟨x, rfl, h4, h5.to (Same.refl _) (upd_ne nx), h6⟩
  · have g : ∀ {j : Nat} {o1 : O}, (Γ.set i (some (.ow o')))[j]? = some (some (.ow o1)) → ∃ o2, Γ[j]? = some (some (.ow o2)) := fun {j o1} q => by
      rcases get_set q with ⟨rfl, _⟩ | ⟨_, h⟩
      · exact ⟨o, hi⟩
      · exact ⟨o1, h⟩
    obtain ⟨p1, g1⟩ := g q1
    obtain ⟨p2, g2⟩ := g q2
    exact w.sl.dj j k p1 p2 x g1 g2 q3 q4
  · obtain ⟨h1, o1, h2⟩ := w.sl.z x z
    refine ⟨h1, ?_⟩
    by_cases n : i = 0
    · subst n
      exact ⟨o', set_at (List.getElem?_eq_some_iff.mp h2).1⟩
    · exact ⟨o1, by rw [List.getElem?_set_ne n]; exact h2⟩
/-- forget slots -/
theorem Wd.weak {Γ' : Gam} (w : Wd K e S H σ Γ) (hl : Γ'.length = Γ.length) (h : ∀ (i : Nat) (b : B), Γ'[i]? = some (some b) → Γ[i]? = some (some b)) (hz : e.own = none ∨ Γ'[0]? = Γ[0]?) : Wd K e S H σ Γ' :=
  ⟨w.nx, w.sl.len.trans hl.symm, fun j b q => w.sl.at_ j b (h j b q), fun j k o o' a q1 q2 => w.sl.dj j k o o' a (h _ _ q1) (h _ _ q2), fun a z => by
    obtain ⟨h1, o, h2⟩ := w.sl.z a z
    rcases hz with y | y
    · rw [y] at z; cases z
    · exact ⟨h1, o, y.trans h2⟩⟩
theorem Wd.fresh_ne {a : Addr} (w : Wd K e S H σ Γ) (ha : H a = none) : ∀ (j : Nat) (o' : O), Γ[j]? = some (some (.ow o')) → σ[j]? ≠ some (some (.ref a)) := fun j o' h1 h2 => by
  obtain ⟨v, h3, c, h4, _, h5, _⟩ := w.sl.at_ j _ h1
  rw [h2] at h3
  cases h3
  cases h4
  exact h5.some ha
theorem Stp.fresh_ne {a : Addr} {Γ' : Gam} {S' H' : Hp} (s : Stp σ Γ S H Γ' S' H') (w : Wd K e S H σ Γ) (ha : H a = none) : ∀ (j : Nat) (o' : O), Γ'[j]? = some (some (.ow o')) → σ[j]? ≠ some (some (.ref a)) := fun j o' h1 => by
  obtain ⟨o2, h3⟩ := s.sl j o' h1
  exact w.fresh_ne ha j o2 h3
end slots

section rules
variable {X : Cx} {e : Ent} {Γ : Gam} {x a b : Expr} {pos : Pos} {k : Kn} {rest : List Stmt}
theorem PSs.imp {st : List Stmt} {t t' : TS} (h : PSs X st t) (q : ∀ D σ H, t' D σ H → t D σ H) : PSs X st t' := ⟨fun pins s σ H D I z => h.run pins s σ H D I (q D σ H z)⟩
theorem PS.imp {st : Stmt} {t t' : TS} (h : PS X st t) (q : ∀ D σ H, t' D σ H → t D σ H) : PS X st t' := ⟨fun pins s σ H D I z => h.run pins s σ H D I (q D σ H z)⟩
theorem bl_nil (h : k.nx Γ) : BL X e [] Γ k := PSs.imp pss_nil fun D σ H ⟨S, w, n, _⟩ => n S σ H Γ h (Same.refl _) w
theorem bl_cons {st : Stmt} (Ψ : Gam → Prop) (h : ST X e st Γ { k with nx := Ψ }) (hr : ∀ Γ', Ψ Γ' → BL X e rest Γ' k) : BL X e (st :: rest) Γ k := by
  have hr' : PSs X rest (fun D σ H => ∃ Γ', Ψ Γ' ∧ tS X.K e Γ' k D σ H) := ⟨fun pins s σ H D I ⟨Γ', h1, q⟩ => (hr Γ' h1).run pins s σ H D I q⟩
  refine PSs.imp (pss_cons h hr') fun D σ H ⟨S, w, n, bk, ct, rt⟩ => ⟨S, w, fun S' σ' H' Γ' q s w' => ⟨Γ', q, S', w', fun S2 σ2 H2 Γ2 q2 s2 w2 => n S2 σ2 H2 Γ2 q2 (s.trans s2) w2,
    fun S2 σ2 H2 Γ2 q2 s2 w2 => bk S2 σ2 H2 Γ2 q2 (s.trans s2) w2, fun S2 σ2 H2 Γ2 q2 s2 w2 => ct S2 σ2 H2 Γ2 q2 (s.trans s2) w2, fun S2 σ2 H2 v b Γ2 q2 s2 w2 => rt S2 σ2 H2 v b Γ2 q2 (s.trans s2) w2⟩, bk, ct, rt⟩
theorem bl_weak {k' : Kn} {st : List Stmt} (h : BL X e st Γ k') (h1 : ∀ Γ', k'.nx Γ' → k.nx Γ') (h2 : ∀ b Γ', k'.rt b Γ' → k.rt b Γ') (h3 : ∀ Γ', k'.bk Γ' → k.bk Γ') (h4 : ∀ Γ', k'.ct Γ' → k.ct Γ') : BL X e st Γ k :=
  PSs.imp h fun D σ H ⟨S, w, n, bk, ct, rt⟩ => ⟨S, w, fun S2 σ2 H2 Γ2 q => n S2 σ2 H2 Γ2 (h1 _ q), fun S2 σ2 H2 Γ2 q => bk S2 σ2 H2 Γ2 (h3 _ q), fun S2 σ2 H2 Γ2 q => ct S2 σ2 H2 Γ2 (h4 _ q), fun S2 σ2 H2 v b Γ2 q => rt S2 σ2 H2 v b Γ2 (h2 _ _ q)⟩
/-- a slot's own object is looked at as standing for good, from here on -/
theorem bl_frz {st : List Stmt} (i : Nat) {o : O} (hi : Γ[i]? = some (some (.ow o))) (hz : e.own = none ∨ i ≠ 0) (h : BL X e st (Γ.set i (some (.st o.d))) k) : BL X e st Γ k := by
  refine PSs.imp h fun D σ H ⟨S, w, n, bk, ct, rt⟩ => ?_
  obtain ⟨v, h1, p, h2, sp, ow, hp⟩ := w.sl.at_ i _ hi
  subst h2
  have h0 : e.H0 p = none := by
    rcases hp with z | z
    · exact z
    · rcases hz with y | y
      · rw [y] at z; cases z
      · obtain ⟨h3, o', h4⟩ := w.sl.z p z
        exact absurd (w.sl.dj i 0 o o' p hi h4 h1 h3) y
  have wf : Wd X.K e S H σ (Γ.set i none) := w.weak (by rw [List.length_set]) (fun j b q => by
    rcases get_set q with ⟨_, z⟩ | ⟨_, z⟩
    · cases z
    · exact z) (by
    rcases hz with y | y
    · exact .inl y
    · exact .inr (by rw [List.getElem?_set_ne y]))
  obtain ⟨S', s, _, w', r⟩ := own_st wf sp ow h0 fun j o' q1 q2 => by
    rcases get_set q1 with ⟨_, z⟩ | ⟨n1, z⟩
    · cases z
    · exact n1 (w.sl.dj i j o o' p hi z h1 q2)
  have w2 := w'.set (i := i) r hz
  have e1 : σ.set i (some (V.ref p)) = σ := by
    apply List.ext_getElem?
    intro j
    by_cases q : i = j
    · subst q
      rw [set_at (List.getElem?_eq_some_iff.mp h1).1, h1]
    · rw [List.getElem?_set_ne q]
  rw [e1, List.set_set] at w2
  exact ⟨S', w2, fun S2 σ2 H2 Γ2 q2 s2 w2 => n S2 σ2 H2 Γ2 q2 (s.trans s2) w2, fun S2 σ2 H2 Γ2 q2 s2 w2 => bk S2 σ2 H2 Γ2 q2 (s.trans s2) w2, fun S2 σ2 H2 Γ2 q2 s2 w2 => ct S2 σ2 H2 Γ2 q2 (s.trans s2) w2, fun S2 σ2 H2 v b Γ2 q2 s2 w2 => rt S2 σ2 H2 v b Γ2 q2 (s.trans s2) w2⟩
/-! assignments to a name -/
theorem bl_set {n : Str} {p : Pos} {Φ : D → Gam → Prop} (i : Nat) (he : EV X e x Γ Φ) (hr : ∀ d Γ', Φ d Γ' → BL X e rest (Γ'.set i (some (.st d))) k) (hN : X.N.Nodup := by assumption) (hi : X.N[i]? = some n := by rfl) (hx : Loc X.env.scope n := by first | exact .inl rfl | exact .inr rfl)
    (hz : e.own = none ∨ i ≠ 0 := by first | exact .inl rfl | exact .inr (by decide)) (hs : swapsWith x (some (.Name n p)) pos.line X.env = pure false := by rfl) (hf : X.fn n = true ∨ X.env.scope.names.lookup n = some .local := by first | exact .inl rfl | exact .inr rfl) :
    BL X e (.Assign [.Name n p] x pos :: rest) Γ k := by
  refine bl_cons (fun Γ2 => ∃ d Γ', Φ d Γ' ∧ Γ2 = Γ'.set i (some (.st d))) (PS.imp (ps_set hN hi hx he hs hf) fun D σ H ⟨S, w, nx, _⟩ => ⟨S, w, fun S' H' v d Γ' hd s w' r => ?_⟩) fun Γ2 ⟨d, Γ', hd, q⟩ => by subst q; exact hr d Γ' hd
  exact nx S' _ H' _ ⟨d, Γ', hd, rfl⟩ s.ss (w'.set r hz)
theorem bl_setO {n : Str} {p : Pos} {Φ : O → Gam → Prop} (i : Nat) (he : EO X e x Γ Φ) (hr : ∀ o Γ', Φ o Γ' → BL X e rest (Γ'.set i (some (.ow o))) k) (hN : X.N.Nodup := by assumption) (hi : X.N[i]? = some n := by rfl) (hx : Loc X.env.scope n := by first | exact .inl rfl | exact .inr rfl)
    (hz : e.own = none ∨ i ≠ 0 := by first | exact .inl rfl | exact .inr (by decide)) (hs : swapsWith x (some (.Name n p)) pos.line X.env = pure false := by rfl) (hf : X.fn n = true ∨ X.env.scope.names.lookup n = some .local := by first | exact .inl rfl | exact .inr rfl) :
    BL X e (.Assign [.Name n p] x pos :: rest) Γ k := by
  refine bl_cons (fun Γ2 => ∃ o Γ', Φ o Γ' ∧ Γ2 = Γ'.set i (some (.ow o))) (PS.imp (ps_set hN hi hx he hs hf) fun D σ H ⟨S, w, nx, _⟩ => ⟨S, w, fun S' H' a o Γ' ho s w' sa ow ha => ?_⟩) fun Γ2 ⟨d, Γ', hd, q⟩ => by subst q; exact hr d Γ' hd
  exact nx S' _ H' _ ⟨o, Γ', ho, rfl⟩ s.ss (w'.setO sa ow (w.nx.fresh ha) (s.fresh_ne w ha) hz)
/-- by a pure expression -/
theorem bl_let {n : Str} {p : Pos} {d : D} (i : Nat) (he : PV X e x Γ d) (hr : BL X e rest (Γ.set i (some (.st d))) k) (hN : X.N.Nodup := by assumption) (hi : X.N[i]? = some n := by rfl) (hx : Loc X.env.scope n := by first | exact .inl rfl | exact .inr rfl)
    (hz : e.own = none ∨ i ≠ 0 := by first | exact .inl rfl | exact .inr (by decide)) (hs : swapsWith x (some (.Name n p)) pos.line X.env = pure false := by rfl) (hf : X.fn n = true ∨ X.env.scope.names.lookup n = some .local := by first | exact .inl rfl | exact .inr rfl) :
    BL X e (.Assign [.Name n p] x pos :: rest) Γ k := bl_set i (pv_ev he) (fun d' Γ' ⟨h1, h2⟩ => by subst h1 h2; exact hr) hN hi hx hz hs hf
theorem bl_letO {n : Str} {p : Pos} {o : O} (i : Nat) (he : EO X e x Γ (Is o Γ)) (hr : BL X e rest (Γ.set i (some (.ow o))) k) (hN : X.N.Nodup := by assumption) (hi : X.N[i]? = some n := by rfl) (hx : Loc X.env.scope n := by first | exact .inl rfl | exact .inr rfl)
    (hz : e.own = none ∨ i ≠ 0 := by first | exact .inl rfl | exact .inr (by decide)) (hs : swapsWith x (some (.Name n p)) pos.line X.env = pure false := by rfl) (hf : X.fn n = true ∨ X.env.scope.names.lookup n = some .local := by first | exact .inl rfl | exact .inr rfl) :
    BL X e (.Assign [.Name n p] x pos :: rest) Γ k := bl_setO i he (fun d' Γ' ⟨h1, h2⟩ => by subst h1 h2; exact hr) hN hi hx hz hs hf
/-- n += m -/
theorem bl_aug {n : Str} {p : Pos} {op : Operator} {f : Int → Int → Int} {u v : Int} (i : Nat) (ho : PIp X op (ipI f)) (h1 : Γ[i]? = some (some (.st (.int u)))) (he : PV X e x Γ (.int v)) (hr : BL X e rest (Γ.set i (some (.st (.int (f u v))))) k) (hN : X.N.Nodup := by assumption) (hi : X.N[i]? = some n := by rfl)
    (hx : Loc X.env.scope n := by first | exact .inl rfl | exact .inr rfl) (hz : e.own = none ∨ i ≠ 0 := by first | exact .inl rfl | exact .inr (by decide)) (hf : X.fn n = true ∨ X.env.scope.names.lookup n = some .local := by first | exact .inl rfl | exact .inr rfl) :
    BL X e (.AugAssign (.Name n p) op x pos :: rest) Γ k := by
  refine bl_cons (fun Γ2 => Γ2 = Γ.set i (some (.st (.int (f u v))))) (PS.imp (ps_aug hN hi hx he ho hf) fun D σ H ⟨S, w, nx, _⟩ => ?_) fun Γ2 q => by subst q; exact hr
  obtain ⟨y, h2, h3⟩ := w.sl.at_ i _ h1
  cases h3
  exact ⟨_, h2, S, w, fun S' H' z s w' r => by
    cases r
    exact ⟨u, v, rfl, rfl, nx S' _ H' _ rfl s.ss (w'.set (.int _) hz)⟩⟩
/-! expressions dropped, return -/
theorem bl_do {Φ : D → Gam → Prop} (he : EV X e x Γ Φ) (hr : ∀ d Γ', Φ d Γ' → BL X e rest Γ' k) (hs : swapsWith x none pos.line X.env = pure false := by rfl) : BL X e (.Expr x pos :: rest) Γ k :=
  bl_cons (fun Γ2 => ∃ d, Φ d Γ2) (PS.imp (ps_expr he hs) fun D σ H ⟨S, w, nx, _⟩ => ⟨S, w, fun S' H' v d Γ' hd s w' r => nx S' σ H' Γ' ⟨d, hd⟩ s.ss w'⟩) fun Γ2 ⟨d, hd⟩ => hr d Γ2 hd
theorem bl_ret {Φ : D → Gam → Prop} (he : EV X e x Γ Φ) (hr : ∀ d Γ', Φ d Γ' → k.rt (.st d) Γ') : BL X e (.Return (some x) pos :: rest) Γ k :=
  bl_cons (fun _ => False) (PS.imp (ps_ret he) fun D σ H ⟨S, w, nx, _, _, rt⟩ => ⟨S, w, fun S' H' v d Γ' hd s w' r => rt S' σ H' v (.st d) Γ' (hr d Γ' hd) s.ss w' r⟩) fun _ q => q.elim
theorem bl_retP {d : D} (he : PV X e x Γ d) (hr : k.rt (.st d) Γ) : BL X e (.Return (some x) pos :: rest) Γ k := bl_ret (pv_ev he) fun d' Γ' ⟨h1, h2⟩ => by subst h1 h2; exact hr
theorem bl_retO {Φ : O → Gam → Prop} (he : EO X e x Γ Φ) (hr : ∀ o Γ', Φ o Γ' → k.rt (.ow o) Γ') : BL X e (.Return (some x) pos :: rest) Γ k :=
  bl_cons (fun _ => False) (PS.imp (ps_ret he) fun D σ H ⟨S, w, nx, _, _, rt⟩ => ⟨S, w, fun S' H' a o Γ' ho s w' sa ow ha => rt S' σ H' (.ref a) (.ow o) Γ' (hr o Γ' ho) s.ss w' ⟨a, rfl, sa, ow, w.nx.fresh ha⟩⟩) fun _ q => q.elim
/-- return x, x one's own -/
theorem bl_retV {n : Str} {p : Pos} {o : O} (i : Nat) (hi : Γ[i]? = some (some (.ow o))) (hr : k.rt (.ow o) Γ) (hz : e.own = none ∨ i ≠ 0 := by first | exact .inl rfl | exact .inr (by decide)) (hN : X.N[i]? = some n := by rfl) (hv : Vis X.env.scope n := by first | exact Or.inl rfl | exact Or.inr (Or.inl rfl) | exact Or.inr (Or.inr rfl))
    (h1 : (n == ("__debug__" : Str)) = false := by decide) (h2 : (n == ("__classdict__" : Str)) = false := by decide) : BL X e (.Return (some (.Name n p)) pos :: rest) Γ k := by
  refine bl_cons (fun _ => False) (PS.imp (ps_ret (pe_var hN hv h1 h2)) fun D σ H ⟨S, w, nx, _, _, rt⟩ => ?_) fun _ q => q.elim
  obtain ⟨v, h3, q, h4, sp, ow, hp⟩ := w.sl.at_ i _ hi
  subst h4
  refine ⟨_, h3, rt S σ H _ (.ow o) Γ hr (Same.refl _) w ⟨q, rfl, sp, ow, ?_⟩⟩
  rcases hp with z | z
  · exact z
  · rcases hz with y | y
    · rw [y] at z; cases z
    · obtain ⟨h5, o', h6⟩ := w.sl.z q z
      exact absurd (w.sl.dj i 0 o o' q hi h6 h3 h5) y
theorem bl_pass (hr : BL X e rest Γ k) : BL X e (.Pass pos :: rest) Γ k := bl_cons (fun Γ2 => Γ2 = Γ) (PS.imp ps_pass fun D σ H ⟨S, w, nx, _⟩ => nx S σ H Γ rfl (Same.refl _) w) fun Γ2 q => by subst q; exact hr
/-! if -/
theorem bl_if {c : Expr} {t f : List Stmt} {Φ : Bool → Gam → Prop} (Ψ : Gam → Prop) (hc : TV X e c Γ Φ) (ht : ∀ Γ', Φ true Γ' → BL X e t Γ' { k with nx := Ψ }) (hf : ∀ Γ', Φ false Γ' → BL X e f Γ' { k with nx := Ψ }) (hr : ∀ Γ', Ψ Γ' → BL X e rest Γ' k) : BL X e (.If c t f pos :: rest) Γ k := by
  have ht' : PSs X t (fun D σ H => ∃ Γ', Φ true Γ' ∧ tS X.K e Γ' { k with nx := Ψ } D σ H) := ⟨fun pins s σ H D I ⟨Γ', h1, q⟩ => (ht Γ' h1).run pins s σ H D I q⟩
  have hf' : PSs X f (fun D σ H => ∃ Γ', Φ false Γ' ∧ tS X.K e Γ' { k with nx := Ψ } D σ H) := ⟨fun pins s σ H D I ⟨Γ', h1, q⟩ => (hf Γ' h1).run pins s σ H D I q⟩
  refine bl_cons Ψ (PS.imp (ps_if hc ht' hf') fun D σ H ⟨S, w, nx, bk, ct, rt⟩ => ⟨S, w, fun S' H' b Γ' hb s w' => ?_⟩) hr
  have fin : tS X.K e Γ' { k with nx := Ψ } D σ H' := ⟨S', w', fun S2 σ2 H2 Γ2 q2 s2 w2 => nx S2 σ2 H2 Γ2 q2 (s.ss.trans s2) w2, fun S2 σ2 H2 Γ2 q2 s2 w2 => bk S2 σ2 H2 Γ2 q2 (s.ss.trans s2) w2, fun S2 σ2 H2 Γ2 q2 s2 w2 => ct S2 σ2 H2 Γ2 q2 (s.ss.trans s2) w2, fun S2 σ2 H2 v b Γ2 q2 s2 w2 => rt S2 σ2 H2 v b Γ2 q2 (s.ss.trans s2) w2⟩
  cases b with
  | true => exact iteT ⟨Γ', hb, fin⟩
  | false => exact iteF ⟨Γ', hb, fin⟩
/-- by a pure test -/
theorem bl_ifP {c : Expr} {t f : List Stmt} {q : Bool} (Ψ : Gam → Prop) (hc : PX X e c Γ q) (ht : q = true → BL X e t Γ { k with nx := Ψ }) (hf : q = false → BL X e f Γ { k with nx := Ψ }) (hr : ∀ Γ', Ψ Γ' → BL X e rest Γ' k) : BL X e (.If c t f pos :: rest) Γ k :=
  bl_if Ψ (px_tv hc) (fun Γ' ⟨h1, h2⟩ => by subst h2; exact ht h1.symm) (fun Γ' ⟨h1, h2⟩ => by subst h2; exact hf h1.symm) hr
/-- if c: .. that leaves -/
theorem bl_ifR {c : Expr} {t : List Stmt} {q : Bool} (hc : PX X e c Γ q) (ht : q = true → BL X e t Γ { k with nx := fun _ => False }) (hr : q = false → BL X e rest Γ k) : BL X e (.If c t [] pos :: rest) Γ k :=
  bl_ifP (fun Γ' => Γ' = Γ ∧ q = false) hc (fun h => bl_weak (ht h) (fun _ z => z.elim) (fun _ _ z => z) (fun _ z => z) (fun _ z => z)) (fun h => bl_nil ⟨rfl, h⟩) fun Γ' ⟨h1, h2⟩ => by subst h1; exact hr h2
theorem bl_ifRT {c : Expr} {t : List Stmt} {Φ : Bool → Gam → Prop} (hc : TV X e c Γ Φ) (ht : ∀ Γ', Φ true Γ' → BL X e t Γ' { k with nx := fun _ => False }) (hr : ∀ Γ', Φ false Γ' → BL X e rest Γ' k) : BL X e (.If c t [] pos :: rest) Γ k :=
  bl_if (fun Γ' => Φ false Γ') hc (fun Γ' h => bl_weak (ht Γ' h) (fun _ z => z.elim) (fun _ _ z => z) (fun _ z => z) (fun _ z => z)) (fun Γ' h => bl_nil h) hr
/-! lists and dicts of one's own -/
theorem bl_append {n : Str} {p q r : Pos} {Φ : D → Gam → Prop} (i : Nat) {l0 : List D} (h0 : Γ[i]? = some (some (.ow (.lst l0)))) (he : EV X e x Γ Φ) (hr : ∀ d Γ', Φ d Γ' → ∃ l, Γ'[i]? = some (some (.ow (.lst l))) ∧ l.length < 100000 ∧ BL X e rest (Γ'.set i (some (.ow (.lst (l ++ [d]))))) k)
    (hN : X.N[i]? = some n := by rfl) (hv : Vis X.env.scope n := by first | exact Or.inl rfl | exact Or.inr (Or.inl rfl) | exact Or.inr (Or.inr rfl)) (h1 : (n == ("__debug__" : Str)) = false := by decide) (h2 : (n == ("__classdict__" : Str)) = false := by decide)
    (hb : attributeBase (.Name n p) "append" X.env (eval (.Name n p) X.env) = eval (.Name n p) X.env := by rfl) (hl : (q.endLine == r.line) = true := by rfl) (hs : swapsWith (.Call (.Attribute (.Name n p) "append" q) [x] [] r) none pos.line X.env = pure false := by rfl)
    (hst : starEach [x] X.env = (false, eval x X.env) :: starEach [] X.env := by rfl) (hbm : ∀ {t}, PA X [x] t → PE X (.Call (.Attribute (.Name n p) "append" q) [x] [] r) (tBM X.K "list" rAppend (tVar i) t) := by exact fun h => pe_bm PySem.F.plainAttrs_list PySem.F.slot_list_append PySem.F.type_list_append mt_append (pv _) h) :
    BL X e (.Expr (.Call (.Attribute (.Name n p) "append" q) [x] [] r) pos :: rest) Γ k := by
  refine bl_cons (fun Γ2 => ∃ d Γ' l, Φ d Γ' ∧ Γ'[i]? = some (some (.ow (.lst l))) ∧ Γ2 = Γ'.set i (some (.ow (.lst (l ++ [d]))))) (PS.imp (ps_expr (hbm (pa_cons he pa_nil hst)) hs) fun D σ H ⟨S, w, nx, _⟩ => ?_) ?_
  · obtain ⟨v, h3, c, h4, sc, ow, hc⟩ := w.sl.at_ i _ h0
    subst h4
    obtain ⟨xs, h5, h6⟩ := ow
    refine ⟨_, h3, .inl ⟨rfl, xs, SqL.of h5⟩, S, w, fun S' H' y d Γ' hd s w' ry => ?_⟩
    obtain ⟨l, hl, hz, _⟩ := hr d Γ' hd
    obtain ⟨v', g1, c', g2, gs, gw, gc⟩ := w'.sl.at_ i _ hl
    rw [h3] at g1
    cases g1
    cases g2
    obtain ⟨ys, g3, g4⟩ := gw
    refine ⟨c, ys, y, rfl, rfl, g3, ?_, nx S' σ _ _ ⟨d, Γ', l, hd, hl, rfl⟩ s.ss (w'.put hl h3 ⟨ys ++ [y], upd_same, g4.append (.cons ry .nil)⟩)⟩
    rw [g4.length]
    exact Nat.lt_of_lt_of_le hz (by decide)
  · rintro Γ2 ⟨d, Γ', l, hd, hl, rfl⟩
    obtain ⟨l', hl', _, z⟩ := hr d Γ' hd
    rw [hl] at hl'
    cases hl'
    exact z
end rules
end Kf
end
section
set_option maxRecDepth 100000
set_option maxHeartbeats 4000000
/-! KfD: what is walked, targets, loops, comprehensions. -/
namespace Kf
open PySem L2

/-! ### what is walked -/
structure ItOk (K : Fg) (e : Ent) (J : It) (items : List D) (S1 : Hp) : Prop where
  go : ∀ i S H, i < items.length → Same S1 S → Same S H → J.go i H
  yld : ∀ i d S H v H', items[i]? = some d → Same S1 S → Same S H → J.yld i H v H' → ∃ S', Pur S H S' H' ∧ (∀ σ Γ, Wd K e S H σ Γ → Wd K e S' H' σ Γ) ∧ Rp K S' v d
  stop : ∀ i S H, items.length ≤ i → Same S1 S → Same S H → J.stop i H
def tI (K : Fg) (e : Ent) (Γ : Gam) (Φ : List D → Gam → Prop) : TI := fun σ H R => ∃ S, Wd K e S H σ Γ ∧
  ∀ S' H' J items Γ', Φ items Γ' → Stp σ Γ S H Γ' S' H' → Wd K e S' H' σ Γ' → ItOk K e J items S' → R J H'
abbrev WV (X : Cx) (e : Ent) (tg it : Expr) (Γ : Gam) (Φ : List D → Gam → Prop) : Prop := PI X tg it (tI X.K e Γ Φ)
def tIP (K : Fg) (e : Ent) (Γ : Gam) (ds : List D) : TI := fun σ H R => ∃ S, Wd K e S H σ Γ ∧
  ∀ S' H' J, Pur S H S' H' → Wd K e S' H' σ Γ → ItOk K e J ds S' → R J H'
abbrev WP (X : Cx) (e : Ent) (tg it : Expr) (Γ : Gam) (ds : List D) : Prop := PI X tg it (tIP X.K e Γ ds)
/-- lo, lo + 1, .., n of them -/
def rng (lo : Int) (n : Nat) : List D := (List.range n).map fun (i : Nat) => D.int (lo + (i : Int))
theorem rng_len (lo : Int) (n : Nat) : (rng lo n).length = n := by simp [rng]
theorem rng_at {lo : Int} {n i : Nat} {d : D} (h : (rng lo n)[i]? = some d) : i < n ∧ d = .int (lo + (i : Int)) := by
  unfold rng at h
  rw [List.getElem?_map] at h
  cases q : (List.range n)[i]? with
  | none => rw [q] at h; cases h
  | some j =>
    rw [q] at h
    have z := List.getElem?_eq_some_iff.mp q
    obtain ⟨hl, hj⟩ := z
    rw [List.getElem_range] at hj
    rw [List.length_range] at hl
    subst hj
    exact ⟨hl, (Option.some.inj h).symm⟩
section walks
variable {X : Cx} {e : Ent} {Γ : Gam} {x tg : Expr} {pos p : Pos}
theorem PI.imp {t t' : TI} (h : PI X tg x t) (k : ∀ σ H R, t' σ H R → t σ H R) : PI X tg x t' := ⟨fun pins s σ H R I q => h.run pins s σ H R I (k σ H R q)⟩
theorem wv {ds : List D} (h : WP X e tg x Γ ds) : WV X e tg x Γ (Is ds Γ) := PI.imp h fun σ H R ⟨S, w, q⟩ => ⟨S, w, fun S1 H1 J s1 w1 it => q S1 H1 J ds Γ ⟨rfl, rfl⟩ s1.stp w1 it⟩
theorem itok_list {K : Fg} {a : Addr} {xs : List V} {ds : List D} {S1 : Hp} (h : SqL K S1 a xs) (r : RpL K S1 xs ds) : ItOk K e (Itl K a) ds S1 where
  go := fun i S H hi s1 s2 => by
    obtain ⟨v, hv, _⟩ := r.get (List.getElem?_eq_getElem hi)
    exact ⟨xs, v, s2.seq (s1.seq h), hv⟩
  yld := fun i d S H v H' hi s1 s2 y => by
    obtain ⟨rfl, hy⟩ := y
    obtain ⟨v', hv, rv⟩ := r.get hi
    rw [hy xs (s2.seq (s1.seq h))] at hv
    cases hv
    exact ⟨S, Pur.refl _ _, fun _ _ w => w, rv.mono s1⟩
  stop := fun i S H hi s1 s2 => ⟨xs, s2.seq (s1.seq h), by rw [r.length]; exact hi⟩
theorem itok_tup {K : Fg} {a : Addr} {xs : List V} {ds : List D} {S1 : Hp} (h : SqT K S1 a xs) (r : RpL K S1 xs ds) : ItOk K e (Itt K a) ds S1 where
  go := fun i S H hi s1 s2 => by
    obtain ⟨v, hv, _⟩ := r.get (List.getElem?_eq_getElem hi)
    exact ⟨xs, v, same_sqT s2 (same_sqT s1 h), hv⟩
  yld := fun i d S H v H' hi s1 s2 y => by
    obtain ⟨rfl, hy⟩ := y
    obtain ⟨v', hv, rv⟩ := r.get hi
    rw [hy xs (same_sqT s2 (same_sqT s1 h))] at hv
    cases hv
    exact ⟨S, Pur.refl _ _, fun _ _ w => w, rv.mono s1⟩
  stop := fun i S H hi s1 s2 => ⟨xs, same_sqT s2 (same_sqT s1 h), by rw [r.length]; exact hi⟩
theorem itok_rng {K : Fg} {lo : Int} {n : Nat} {S1 : Hp} : ItOk K e (Itr lo n) (rng lo n) S1 where
  go := fun i S H hi _ _ => by rw [rng_len] at hi; exact hi
  yld := fun i d S H v H' hi s1 s2 y => by
    obtain ⟨rfl, rfl⟩ := y
    obtain ⟨_, rfl⟩ := rng_at hi
    exact ⟨S, Pur.refl _ _, fun _ _ w => w, .int _⟩
  stop := fun i S H hi _ _ => by rw [rng_len] at hi; exact hi
theorem wp_list {ds : List D} (h : PV X e x Γ (.lst ds)) : WP X e tg x Γ ds :=
  PI.imp (pi_list h) fun σ H R ⟨S, w, q⟩ => ⟨S, w, fun S1 H1 v s1 w1 r1 => by
    cases r1 with
    | lst h1 h2 => exact ⟨_, rfl, ⟨_, rdq (same_rd w1.nx.sh h1)⟩, q S1 H1 _ s1 w1 (itok_list (rdq h1) h2)⟩⟩
theorem wp_tup {ds : List D} (h : PV X e x Γ (.tup ds)) : WP X e tg x Γ ds :=
  PI.imp (pi_tup h) fun σ H R ⟨S, w, q⟩ => ⟨S, w, fun S1 H1 v s1 w1 r1 => by
    cases r1 with
    | tup h1 h2 => exact ⟨_, rfl, ⟨_, same_sqT w1.nx.sh h1⟩, q S1 H1 _ s1 w1 (itok_tup h1 h2)⟩⟩
theorem wv_listE {Φ : D → Gam → Prop} {Ψ : List D → Gam → Prop} (h : EV X e x Γ Φ) (k : ∀ d Γ', Φ d Γ' → ∃ ds, d = .lst ds ∧ Ψ ds Γ') : WV X e tg x Γ Ψ :=
  PI.imp (pi_list h) fun σ H R ⟨S, w, q⟩ => ⟨S, w, fun S1 H1 v d Γ' hd s1 w1 r1 => by
    obtain ⟨ds, rfl, hds⟩ := k d Γ' hd
    cases r1 with
    | lst h1 h2 => exact ⟨_, rfl, ⟨_, rdq (same_rd w1.nx.sh h1)⟩, q S1 H1 _ ds Γ' hds s1 w1 (itok_list (rdq h1) h2)⟩⟩
/-- range(n) -/
theorem wp_rng {n : Nat} (h : PV X e x Γ (.int (n : Int))) (hn : n < 2 ^ 62) (hm : X.mg "range" = none) (hg : Gl X "range" := by rfl) (hs : starEach [x] X.env = [(false, eval x X.env)] := by rfl)
    (hst : starEach [x] X.env = (false, eval x X.env) :: starEach [] X.env := by rfl) : WP X e tg (.Call (.Name "range" p) [x] [] pos) Γ (rng 0 n) :=
  PI.imp (pi_range1 hg hm (pvs_cons h pvs_nil hst) hs) fun σ H R ⟨S, w, q⟩ => ⟨S, w, fun S1 H1 vs s1 w1 r1 => by
    cases r1 with
    | cons r2 r3 =>
      cases r3
      cases r2
      exact ⟨_, rfl, by omega, by omega, q S1 H1 _ s1 w1 (by show ItOk X.K e (Itr 0 ((n : Int)).toNat) (rng 0 n) S1; rw [Int.toNat_natCast]; exact itok_rng)⟩⟩
/-- range(a, b) -/
theorem wp_rng2 {a b : Expr} {lo hi : Int} (ha : PV X e a Γ (.int lo)) (hb : PV X e b Γ (.int hi)) (h1 : -(2 ^ 62) ≤ lo ∧ lo < 2 ^ 62 ∧ -(2 ^ 62) ≤ hi ∧ hi < 2 ^ 62) (hm : X.mg "range" = none) (hg : Gl X "range" := by rfl)
    (hs : starEach [a, b] X.env = [(false, eval a X.env), (false, eval b X.env)] := by rfl) (hs2 : starEach [b] X.env = [(false, eval b X.env)] := by rfl)
    (hst : starEach [a, b] X.env = (false, eval a X.env) :: starEach [b] X.env := by rfl) (hst2 : starEach [b] X.env = (false, eval b X.env) :: starEach [] X.env := by rfl) : WP X e tg (.Call (.Name "range" p) [a, b] [] pos) Γ (rng lo (hi - lo).toNat) :=
  PI.imp (pi_range2 hg hm (pvs_cons ha (pvs_cons hb pvs_nil hst2) hst) hs hs2) fun σ H R ⟨S, w, q⟩ => ⟨S, w, fun S1 H1 vs s1 w1 r1 => by
    cases r1 with
    | cons r2 r3 =>
      cases r3 with
      | cons r4 r5 =>
        cases r5
        cases r2
        cases r4
        exact ⟨_, _, rfl, h1, q S1 H1 _ s1 w1 itok_rng⟩⟩
/-- the signs of a text -/
def signs (z : Str) : List D := z.cps.toList.map fun c => .str ⟨#[c]⟩
theorem wp_str {z : Str} (h : PV X e x Γ (.str z)) : WP X e tg x Γ (signs z) :=
  PI.imp (pi_str h) fun σ H R ⟨S, w, q⟩ => ⟨S, w, fun S1 H1 v s1 w1 r1 => by
    cases r1
    refine ⟨z, rfl, q S1 H1 _ s1 w1 ⟨fun i S H hi _ _ => ?_, fun i d S H v H' hi s1 s2 y => ?_, fun i S H hi _ _ => ?_⟩⟩
    · show i < z.cps.size
      simpa [signs] using hi
    · obtain ⟨rfl, c, hc, rfl⟩ := y
      unfold signs at hi
      rw [List.getElem?_map, Array.getElem?_toList, hc] at hi
      cases hi
      exact ⟨S, Pur.refl _ _, fun _ _ w => w, .str _⟩
    · show z.cps.size ≤ i
      simpa [signs] using hi⟩
/-- i, x of enumerate -/
def enumD (ds : List D) : List D := ds.zipIdx.map fun q => .tup [.int (q.2 : Int), q.1]
theorem enum_at {ds : List D} {i : Nat} {d : D} (h : (enumD ds)[i]? = some d) : ∃ d', ds[i]? = some d' ∧ d = .tup [.int (i : Int), d'] := by
  unfold enumD at h
  rw [List.getElem?_map, List.getElem?_zipIdx] at h
  cases q : ds[i]? with
  | none => rw [q] at h; cases h
  | some d' =>
    rw [q] at h
    refine ⟨d', rfl, ?_⟩
    have z := Option.some.inj h
    rw [← z]
    simp
theorem enum_len (ds : List D) : (enumD ds).length = ds.length := by simp [enumD]
theorem new_tup {K : Fg} {S H : Hp} {T : Addr} {xs : List V} {ds : List D} (hT : H T = none) (s : Same S H) (r : RpL K S xs ds) :
    ∃ S', Pur S H S' (upd H T (.tup xs)) ∧ (∀ σ Γ, Wd K e S H σ Γ → Wd K e S' (upd H T (.tup xs)) σ Γ) ∧ Rp K S' (.ref T) (.tup ds) :=
  ⟨upd S T (.tup xs), pur_new (s.free hT) hT, fun σ Γ w => (w.new hT).1, .tup (SqT.of upd_same) (r.mono (pur_new (s.free hT) hT).ss)⟩
theorem wp_enum {es : List Expr} {c : Nat} {tp : Pos} {ds : List D} (h : PV X e x Γ (.lst ds)) (hm : X.mg "enumerate" = none) (hg : Gl X "enumerate" := by rfl) (hs : starEach [x] X.env = [(false, eval x X.env)] := by rfl)
    (hst : starEach [x] X.env = (false, eval x X.env) :: starEach [] X.env := by rfl) : WP X e (.Tuple es c tp) (.Call (.Name "enumerate" p) [x] [] pos) Γ (enumD ds) :=
  PI.imp (pi_enum hg hm (pvs_cons h pvs_nil hst) hs) fun σ H R ⟨S, w, q⟩ => ⟨S, w, fun S1 H1 vs s1 w1 r1 => by
    cases r1 with
    | cons r2 r3 =>
      cases r3
      cases r2 with
      | lst h1 h2 =>
        refine ⟨_, _, rfl, rdq (same_rd w1.nx.sh h1), q S1 H1 _ s1 w1 ⟨fun i S H hi s1 s2 => ?_, fun i d S H v H' hi s1 s2 y => ?_, fun i S H hi s1 s2 => ?_⟩⟩
        · rw [enum_len] at hi
          obtain ⟨v, hv, _⟩ := h2.get (List.getElem?_eq_getElem hi)
          exact ⟨_, v, rdq (same_rd s2 (same_rd s1 h1)), hv⟩
        · obtain ⟨T, y0, rfl, hT, rfl, hy⟩ := y
          obtain ⟨d', hd, rfl⟩ := enum_at hi
          obtain ⟨v', hv, rv⟩ := h2.get hd
          rw [hy _ (rdq (same_rd s2 (same_rd s1 h1)))] at hv
          cases hv
          exact new_tup hT s2 (.cons (.int _) (.cons (rv.mono s1) .nil))
        · rw [enum_len] at hi
          exact ⟨_, rdq (same_rd s2 (same_rd s1 h1)), by rw [h2.length]; exact hi⟩⟩
end walks

/-! ### targets -/
def tG (K : Fg) (e : Ent) (ix : List Nat) (bind : D → Gam → Gam → Prop) : TG := fun v σ H Q => ∃ S Γ d Γ', Wd K e S H σ Γ ∧ Rp K S v d ∧ bind d Γ Γ' ∧
  ∀ σ', (∀ j, j ∉ ix → σ'[j]? = σ[j]?) → σ'.length = σ.length → Wd K e S H σ' Γ' → Q σ' H
abbrev GV (X : Cx) (e : Ent) (tg : Expr) (ix : List Nat) (bind : D → Gam → Gam → Prop) : Prop := PG X tg (tG X.K e ix bind)
def bName (i : Nat) : D → Gam → Gam → Prop := fun d Γ Γ' => Γ' = Γ.set i (some (.st d))
def bTwo (b1 b2 : D → Gam → Gam → Prop) : D → Gam → Gam → Prop := fun d Γ Γ' => ∃ d1 d2 Γ1, d = .tup [d1, d2] ∧ b1 d1 Γ Γ1 ∧ b2 d2 Γ1 Γ'
def bThree (b1 b2 b3 : D → Gam → Gam → Prop) : D → Gam → Gam → Prop := fun d Γ Γ' => ∃ d1 d2 d3 Γ1 Γ2, d = .tup [d1, d2, d3] ∧ b1 d1 Γ Γ1 ∧ b2 d2 Γ1 Γ2 ∧ b3 d3 Γ2 Γ'
section targets
variable {X : Cx} {e : Ent} {pos : Pos}
theorem PG.imp {x : Expr} {t t' : TG} (h : PG X x t) (k : ∀ v σ H Q, t' v σ H Q → t v σ H Q) : PG X x t' := ⟨fun pins s σ H v u Q I r q => h.run pins s σ H v u Q I r (k v σ H Q q)⟩
theorem gv_name {n : Str} (i : Nat) (hN : X.N.Nodup) (hi : X.N[i]? = some n := by rfl) (hx : Loc X.env.scope n := by first | exact .inl rfl | exact .inr rfl) (hz : e.own = none ∨ i ≠ 0 := by first | exact .inl rfl | exact .inr (by decide))
    (hf : X.fn n = true ∨ X.env.scope.names.lookup n = some .local := by first | exact .inl rfl | exact .inr rfl) : GV X e (.Name n pos) [i] (bName i) :=
  PG.imp (pg_name hN hi hx hf) fun v σ H Q ⟨S, Γ, d, Γ', w, r, hb, q⟩ => by
    subst hb
    exact q _ (fun j hj => by rw [List.getElem?_set_ne (fun z => hj (by rw [z]; exact List.mem_singleton.mpr rfl))]) (by rw [List.length_set]) (w.set r hz)
theorem gv_two {t1 t2 : Expr} {c : Nat} {ix1 ix2 : List Nat} {b1 b2 : D → Gam → Gam → Prop} (hc : X.calm = true) (h1 : GV X e t1 ix1 b1) (h2 : GV X e t2 ix2 b2)
    (ht : ∀ {u1 u2 : TG}, PG X t1 u1 → PG X t2 u2 → PG X (.Tuple [t1, t2] c pos) (gTup X.K 2 (gCons u1 (gCons u2 gNil))) := by exact fun a b => pg_tup rfl (pgs_cons a (pgs_cons b pgs_nil))) : GV X e (.Tuple [t1, t2] c pos) (ix1 ++ ix2) (bTwo b1 b2) :=
  PG.imp (ht h1 h2) fun v σ H Q ⟨S, Γ, d, Γ', w, r, ⟨d1, d2, Γ1, hd, hb1, hb2⟩, q⟩ => by
    subst hd
    cases r with
    | tup g1 g2 =>
      cases g2 with
      | cons r1 g2 =>
        cases g2 with
        | cons r2 g2 =>
          cases g2
          refine ⟨_, _, rfl, same_sqT w.nx.sh g1, rfl, _, _, rfl, S, Γ, d1, Γ1, w, r1, hb1, fun σ1 k1 l1 w1 => ⟨_, _, rfl, S, Γ1, d2, Γ', w1, r2, hb2, fun σ2 k2 l2 w2 => ⟨rfl, ?_⟩⟩⟩
          exact q σ2 (fun j hj => (k2 j fun z => hj (List.mem_append_right _ z)).trans (k1 j fun z => hj (List.mem_append_left _ z))) (l2.trans l1) w2
theorem gv_three {t1 t2 t3 : Expr} {c : Nat} {ix1 ix2 ix3 : List Nat} {b1 b2 b3 : D → Gam → Gam → Prop} (hc : X.calm = true) (h1 : GV X e t1 ix1 b1) (h2 : GV X e t2 ix2 b2) (h3 : GV X e t3 ix3 b3)
    (ht : ∀ {u1 u2 u3 : TG}, PG X t1 u1 → PG X t2 u2 → PG X t3 u3 → PG X (.Tuple [t1, t2, t3] c pos) (gTup X.K 3 (gCons u1 (gCons u2 (gCons u3 gNil)))) := by exact fun a b d => pg_tup rfl (pgs_cons a (pgs_cons b (pgs_cons d pgs_nil)))) : GV X e (.Tuple [t1, t2, t3] c pos) (ix1 ++ (ix2 ++ ix3)) (bThree b1 b2 b3) :=
  PG.imp (ht h1 h2 h3) fun v σ H Q ⟨S, Γ, d, Γ', w, r, ⟨d1, d2, d3, Γ1, Γ2, hd, hb1, hb2, hb3⟩, q⟩ => by
    subst hd
    cases r with
    | tup g1 g2 =>
      cases g2 with
      | cons r1 g2 =>
        cases g2 with
        | cons r2 g2 =>
          cases g2 with
          | cons r3 g2 =>
            cases g2
            refine ⟨_, _, rfl, same_sqT w.nx.sh g1, rfl, _, _, rfl, S, Γ, d1, Γ1, w, r1, hb1, fun σ1 k1 l1 w1 => ⟨_, _, rfl, S, Γ1, d2, Γ2, w1, r2, hb2, fun σ2 k2 l2 w2 => ⟨_, _, rfl, S, Γ2, d3, Γ', w2, r3, hb3, fun σ3 k3 l3 w3 => ⟨rfl, ?_⟩⟩⟩⟩
            exact q σ3 (fun j hj => (k3 j fun z => hj (List.mem_append_right _ (List.mem_append_right _ z))).trans ((k2 j fun z => hj (List.mem_append_right _ (List.mem_append_left _ z))).trans (k1 j fun z => hj (List.mem_append_left _ z)))) (l3.trans (l2.trans l1)) w3
end targets

/-! ### loops -/
section loops
variable {X : Cx} {e : Ent} {Γ : Gam} {x tg : Expr} {pos : Pos} {k : Kn} {rest : List Stmt}
/-- for: an invariant of the turn and the environment -/
theorem bl_for {body : List Stmt} {ix : List Nat} {bind : D → Gam → Gam → Prop} {Φ : List D → Gam → Prop} (Inv : List D → Nat → Gam → Prop) (hw : WV X e tg x Γ Φ) (hg : GV X e tg ix bind) (h0 : ∀ ds Γ1, Φ ds Γ1 → Inv ds 0 Γ1)
    (hs : ∀ ds i d Γ1, ds[i]? = some d → Inv ds i Γ1 → ∃ Γ2, bind d Γ1 Γ2 ∧ BL X e body Γ2 { nx := Inv ds (i + 1), rt := k.rt, ct := Inv ds (i + 1) }) (hr : ∀ ds Γ1, Inv ds ds.length Γ1 → BL X e rest Γ1 k)
    (hp : PassesOwn (model X.prog X.w) X.A X.env X.xe) (hc : X.calm = true := by rfl) (hf : ∀ y, foldedSetIterable x X.env y = pure y := by intro _; rfl) : BL X e (.For tg x body [] pos :: rest) Γ k := by
  have hb : PSs X body (fun D σ H => ∃ ds i d Γ1 Γ2, ds[i]? = some d ∧ Inv ds i Γ1 ∧ bind d Γ1 Γ2 ∧ BL X e body Γ2 { nx := Inv ds (i + 1), rt := k.rt, ct := Inv ds (i + 1) } ∧ tS X.K e Γ2 { nx := Inv ds (i + 1), rt := k.rt, ct := Inv ds (i + 1) } D σ H) :=
    ⟨fun pins s σ H D I ⟨ds, i, d, Γ1, Γ2, _, _, _, hB, q⟩ => hB.run pins s σ H D I q⟩
  refine bl_cons (fun Γ1 => ∃ ds, Inv ds ds.length Γ1) (PS.imp (ps_for hp hc hw hg hb hf) fun D σ H ⟨S, w, nx, bk, ct, rt⟩ => ⟨S, w, fun S1 H1 J ds Γ1 hd s1 w1 it => ?_⟩) fun Γ1 ⟨ds, h⟩ => hr ds Γ1 h
  refine ⟨fun i m σ H => m = ds.length - i ∧ i ≤ ds.length ∧ ∃ S Γ', Inv ds i Γ' ∧ Same S1 S ∧ Wd X.K e S H σ Γ', ⟨ds.length, by simp, Nat.zero_le _, S1, Γ1, h0 ds Γ1 hd, Same.refl _, w1⟩, ?_⟩
  rintro i m σ2 H2 ⟨rfl, hi, S2, Γ2, hI, s2, w2⟩
  by_cases hlt : i < ds.length
  · refine .inr ⟨it.go i S2 H2 hlt s2 w2.nx.sh, fun σ' H' => i + 1 ≤ ds.length ∧ ∃ S' Γ', Inv ds (i + 1) Γ' ∧ Same S1 S' ∧ Wd X.K e S' H' σ' Γ', fun σ' H' ⟨h1, h2⟩ => ⟨ds.length - (i + 1), by omega, rfl, h1, h2⟩, fun v H' y => ?_⟩
    obtain ⟨S3, p3, k3, r3⟩ := it.yld i _ S2 H2 v H' (List.getElem?_eq_getElem hlt) s2 w2.nx.sh y
    obtain ⟨Γ3, hb3, hB⟩ := hs ds i _ Γ2 (List.getElem?_eq_getElem hlt) hI
    refine ⟨S3, Γ2, _, Γ3, k3 _ _ w2, r3, hb3, fun σ4 _ _ w4 => ⟨ds, i, _, Γ2, Γ3, List.getElem?_eq_getElem hlt, hI, hb3, hB, S3, w4, fun S5 σ5 H5 Γ5 q5 s5 w5 => ⟨hlt, S5, Γ5, q5, (s2.trans p3.ss).trans s5, w5⟩, fun _ _ _ _ z => z.elim,
      fun S5 σ5 H5 Γ5 q5 s5 w5 => ⟨hlt, S5, Γ5, q5, (s2.trans p3.ss).trans s5, w5⟩, fun S5 σ5 H5 v b Γ5 q5 s5 w5 => rt S5 σ5 H5 v b Γ5 q5 (((s1.ss.trans s2).trans p3.ss).trans s5) w5⟩⟩
  · have ei : i = ds.length := by omega
    subst ei
    exact .inl ⟨it.stop _ S2 H2 (Nat.le_refl _) s2 w2.nx.sh, nx S2 σ2 H2 Γ2 ⟨ds, hI⟩ (s1.ss.trans s2) w2⟩
/-- while: an invariant, a measure of the environment that falls -/
theorem bl_while {c : Expr} {body : List Stmt} (Inv : Nat → Gam → Prop) (m0 : Nat) (h0 : Inv m0 Γ) (hs : ∀ m Γ1, Inv m Γ1 → ∃ Φ, TV X e c Γ1 Φ ∧ (∀ Γ2, Φ true Γ2 → BL X e body Γ2 { nx := fun Γ3 => ∃ m', m' < m ∧ Inv m' Γ3, rt := k.rt, ct := fun Γ3 => ∃ m', m' < m ∧ Inv m' Γ3 }) ∧ (∀ Γ2, Φ false Γ2 → BL X e rest Γ2 k))
    (hp : PassesOwn (model X.prog X.w) X.A X.env X.xe) : BL X e (.While c body [] pos :: rest) Γ k := by
  have hcT : PT X c (fun σ H Q => ∃ m Γ1 Φ, Inv m Γ1 ∧ TV X e c Γ1 Φ ∧ tX X.K e Γ1 Φ σ H Q) := ⟨fun pins s σ H Q I ⟨m, Γ1, Φ, _, hT, q⟩ => hT.run pins s σ H Q I q⟩
  have hbT : PSs X body (fun D σ H => ∃ m Γ2, BL X e body Γ2 { nx := fun Γ3 => ∃ m', m' < m ∧ Inv m' Γ3, rt := k.rt, ct := fun Γ3 => ∃ m', m' < m ∧ Inv m' Γ3 } ∧ tS X.K e Γ2 { nx := fun Γ3 => ∃ m', m' < m ∧ Inv m' Γ3, rt := k.rt, ct := fun Γ3 => ∃ m', m' < m ∧ Inv m' Γ3 } D σ H) :=
    ⟨fun pins s σ H D I ⟨m, Γ2, hB, q⟩ => hB.run pins s σ H D I q⟩
  refine bl_cons (fun Γ2 => BL X e rest Γ2 k) (PS.imp (ps_while hp hcT hbT) fun D σ H ⟨S, w, nx, bk, ct, rt⟩ => ?_) fun Γ2 h => h
  refine ⟨fun m σ1 H1 => ∃ S1 Γ1, Inv m Γ1 ∧ Same S S1 ∧ Wd X.K e S1 H1 σ1 Γ1, ⟨m0, S, Γ, h0, Same.refl _, w⟩, ?_⟩
  rintro m σ1 H1 ⟨S1, Γ1, hI, s1, w1⟩
  obtain ⟨Φ, hT, ht, hf⟩ := hs m Γ1 hI
  refine ⟨m, Γ1, Φ, hI, hT, S1, w1, fun S2 H2 b Γ2 hb s2 w2 => ?_⟩
  cases b with
  | true =>
    refine iteT ⟨fun σ' H' => ∃ m', m' < m ∧ ∃ S3 Γ3, Inv m' Γ3 ∧ Same S S3 ∧ Wd X.K e S3 H' σ' Γ3, fun σ' H' ⟨m', h1, h2⟩ => ⟨m', h1, h2⟩, m, Γ2, ht Γ2 hb, S2, w2, ?_, fun _ _ _ _ z => z.elim, ?_, ?_⟩
    · intro S3 σ3 H3 Γ3 ⟨m', h1, h2⟩ s3 w3
      exact ⟨m', h1, S3, Γ3, h2, (s1.trans s2.ss).trans s3, w3⟩
    · intro S3 σ3 H3 Γ3 ⟨m', h1, h2⟩ s3 w3
      exact ⟨m', h1, S3, Γ3, h2, (s1.trans s2.ss).trans s3, w3⟩
    · intro S3 σ3 H3 v b Γ3 h s3 w3
      exact rt S3 σ3 H3 v b Γ3 h ((s1.trans s2.ss).trans s3) w3
  | false => exact iteF (nx S2 σ1 H2 Γ2 (hf Γ2 hb) (s1.trans s2.ss) w2)
end loops

/-! ### list comprehensions -/
def wipeG (Γ : Gam) : List Nat → Gam
  | [] => Γ
  | v :: vs => (wipeG Γ vs).set v none
theorem wipeG_len (Γ : Gam) : ∀ vs : List Nat, (wipeG Γ vs).length = Γ.length
  | [] => rfl
  | v :: vs => by unfold wipeG; rw [List.length_set, wipeG_len Γ vs]
theorem wipeG_get {Γ : Gam} {i : Nat} {b : B} : ∀ {vs : List Nat}, (wipeG Γ vs)[i]? = some (some b) → Γ[i]? = some (some b) ∧ i ∉ vs
  | [], h => ⟨h, by simp⟩
  | v :: vs, h => by
    unfold wipeG at h
    rcases get_set h with ⟨_, z⟩ | ⟨n, z⟩
    · cases z
    · obtain ⟨h1, h2⟩ := wipeG_get z
      exact ⟨h1, by simp only [List.mem_cons, not_or]; exact ⟨fun q => n q.symm, h2⟩⟩
theorem wipeG_ne {Γ : Gam} {i : Nat} : ∀ {vs : List Nat}, i ∉ vs → (wipeG Γ vs)[i]? = Γ[i]?
  | [], _ => rfl
  | v :: vs, h => by
    simp only [List.mem_cons, not_or] at h
    unfold wipeG
    rw [List.getElem?_set_ne (fun q => h.1 q.symm), wipeG_ne h.2]
theorem wipe_ne {σ : L2.St} {i : Nat} : ∀ {vs : List Nat}, i ∉ vs → (wipe σ vs)[i]? = σ[i]?
  | [], _ => rfl
  | v :: vs, h => by
    simp only [List.mem_cons, not_or] at h
    unfold wipe
    rw [List.getElem?_set_ne (fun q => h.1 q.symm), wipe_ne h.2]
theorem wipe_at {σ : L2.St} {i : Nat} : ∀ {vs : List Nat}, i ∈ vs → i < σ.length → (wipe σ vs)[i]? = some none
  | v :: vs, h, hl => by
    unfold wipe
    by_cases q : v = i
    · subst q
      exact set_at (by rw [wipe_length]; exact hl)
    · rw [List.getElem?_set_ne q]
      exact wipe_at ((List.mem_cons.mp h).resolve_left fun z => q z.symm) hl
theorem wipe_eq {σ σ2 : L2.St} {vs ix : List Nat} (hl : σ2.length = σ.length) (h : ∀ j, j ∉ ix → σ2[j]? = (wipe σ vs)[j]?) (hix : ∀ j ∈ ix, j ∈ vs) : wipe σ2 vs = wipe σ vs := by
  apply List.ext_getElem?
  intro j
  by_cases q : j ∈ vs
  · by_cases z : j < σ.length
    · rw [wipe_at q z, wipe_at q (by rw [hl]; exact z)]
    · rw [List.getElem?_eq_none (by rw [wipe_length, hl]; omega), List.getElem?_eq_none (by rw [wipe_length]; omega)]
  · rw [wipe_ne q]
    exact h j fun z => q (hix j z)
section comps
variable {K : Fg} {e : Ent} {S H : Hp} {σ : L2.St} {Γ : Gam}
/-- into the block: its own slots forgotten -/
theorem Wd.wipe {vs : List Nat} (w : Wd K e S H σ Γ) (hz : e.own = none ∨ 0 ∉ vs) : Wd K e S H (L2.wipe σ vs) (wipeG Γ vs) := by
  refine ⟨w.nx, by rw [wipe_length, wipeG_len]; exact w.sl.len, fun i b q => ?_, fun i j o o' a q1 q2 q3 q4 => ?_, fun a z => ?_⟩
  · obtain ⟨h1, h2⟩ := wipeG_get q
    obtain ⟨v, h3, h4⟩ := w.sl.at_ i b h1
    exact ⟨v, by rw [wipe_ne h2]; exact h3, h4⟩
  · obtain ⟨h1, h2⟩ := wipeG_get q1
    obtain ⟨h3, h4⟩ := wipeG_get q2
    rw [wipe_ne h2] at q3
    rw [wipe_ne h4] at q4
    exact w.sl.dj i j o o' a h1 h3 q3 q4
  · have n : 0 ∉ vs := by
      rcases hz with h | h
      · rw [h] at z; cases z
      · exact h
    obtain ⟨h1, o, h2⟩ := w.sl.z a z
    exact ⟨by rw [wipe_ne n]; exact h1, o, by rw [wipeG_ne n]; exact h2⟩
/-- out of the block -/
theorem Wd.back {σ2 : L2.St} {vs : List Nat} {Γ2 : Gam} (w : Wd K e S H σ2 Γ2) (he : L2.wipe σ2 vs = L2.wipe σ vs) (hl : σ2.length = σ.length) (hz : e.own = none ∨ 0 ∉ vs) : Wd K e S H σ (wipeG Γ2 vs) := by
  have g : ∀ i, i ∉ vs → σ2[i]? = σ[i]? := fun i n => by rw [← wipe_ne n, he, wipe_ne n]
  refine ⟨w.nx, by rw [wipeG_len, ← hl]; exact w.sl.len, fun i b q => ?_, fun i j o o' a q1 q2 q3 q4 => ?_, fun a z => ?_⟩
  · obtain ⟨h1, h2⟩ := wipeG_get q
    obtain ⟨v, h3, h4⟩ := w.sl.at_ i b h1
    exact ⟨v, by rw [← g i h2]; exact h3, h4⟩
  · obtain ⟨h1, h2⟩ := wipeG_get q1
    obtain ⟨h3, h4⟩ := wipeG_get q2
    rw [← g i h2] at q3
    rw [← g j h4] at q4
    exact w.sl.dj i j o o' a h1 h3 q3 q4
  · have n : 0 ∉ vs := by
      rcases hz with h | h
      · rw [h] at z; cases z
      · exact h
    obtain ⟨h1, o, h2⟩ := w.sl.z a z
    exact ⟨by rw [← g 0 n]; exact h1, o, by rw [wipeG_ne n]; exact h2⟩
end comps
/-- a binder gives slots values that stand for good, those of ix alone -/
def BindOk (ix : List Nat) (bind : D → Gam → Gam → Prop) : Prop := ∀ d Γ Γ', bind d Γ Γ' → ∀ (j : Nat) (o : O), Γ'[j]? = some (some (.ow o)) → Γ[j]? = some (some (.ow o)) ∧ j ∉ ix
theorem bindOk_name (i : Nat) : BindOk [i] (bName i) := fun d Γ Γ' h j o q => by
  subst h
  rcases get_set q with ⟨_, z⟩ | ⟨n, z⟩
  · cases z
  · exact ⟨z, fun y => n (List.mem_singleton.mp y).symm⟩
theorem bindOk_two {ix1 ix2 : List Nat} {b1 b2 : D → Gam → Gam → Prop} (h1 : BindOk ix1 b1) (h2 : BindOk ix2 b2) : BindOk (ix1 ++ ix2) (bTwo b1 b2) := fun d Γ Γ' ⟨d1, d2, Γ1, _, q1, q2⟩ j o q => by
  obtain ⟨z1, n1⟩ := h2 _ _ _ q2 j o q
  obtain ⟨z2, n2⟩ := h1 _ _ _ q1 j o z1
  exact ⟨z2, fun y => (List.mem_append.mp y).elim n2 n1⟩
theorem bindOk_three {ix1 ix2 ix3 : List Nat} {b1 b2 b3 : D → Gam → Gam → Prop} (h1 : BindOk ix1 b1) (h2 : BindOk ix2 b2) (h3 : BindOk ix3 b3) : BindOk (ix1 ++ (ix2 ++ ix3)) (bThree b1 b2 b3) := fun d Γ Γ' ⟨d1, d2, d3, Γ1, Γ2, _, q1, q2, q3⟩ j o q => by
  obtain ⟨z0, n0⟩ := h3 _ _ _ q3 j o q
  obtain ⟨z1, n1⟩ := h2 _ _ _ q2 j o z0
  obtain ⟨z2, n2⟩ := h1 _ _ _ q1 j o z1
  exact ⟨z2, fun y => (List.mem_append.mp y).elim n2 fun y => (List.mem_append.mp y).elim n1 n0⟩
section lc
variable {K : Fg} {e : Ent} {S S1 S' H H1 H' : Hp} {σ σ2 : L2.St} {Γ Γ' Γ2 Γ4 : Gam} {Dd : Addr} {o : HO}
theorem Stp.tmp (s : Stp σ Γ S H Γ' S' H') (hD : H Dd = none) : Stp σ Γ S H Γ' S' (upd H' Dd o) :=
  ⟨s.ss, fun p u h n => by rw [upd_ne (ne_of_none h hD)]; exact s.hh p u h n, fun p h => by
    by_cases q : p = Dd
    · rw [q, upd_same]; exact fun z => nomatch z
    · rw [upd_ne q]; exact s.al p h, s.old, s.sl⟩
theorem Wd.tmp (w : Wd K e S H σ Γ) (sD : S Dd = none) (h0 : e.H0 Dd = none) (hn : ∀ (j : Nat) (o' : O), Γ[j]? = some (some (.ow o')) → σ[j]? ≠ some (some (.ref Dd))) : Wd K e S (upd H Dd o) σ Γ :=
  ⟨w.nx.put sD (.inl h0), w.sl.len, fun i b q => by
    obtain ⟨v, h1, h2⟩ := w.sl.at_ i b q
    refine ⟨v, h1, ?_⟩
    cases b with
    | st d => exact h2
    | xc a d fl => exact h2.xcm (Same.refl _)
    | nw d l => exact h2.elim
    | ow o1 =>
      obtain ⟨a, h3, h4, h5, h6⟩ := h2
      have ne : a ≠ Dd := fun z => hn i o1 q (by rw [h1, h3, z])
      exact ⟨a, h3, h4, h5.to (Same.refl _) (upd_ne ne), h6⟩, w.sl.dj, w.sl.z⟩
/-- a step within the block, seen from outside -/
theorem Stp.out {vs ix : List Nat} {bind : D → Gam → Gam → Prop} {d : D} (s : Stp σ2 Γ2 S H Γ4 S' H') (hb : BindOk ix bind) (h : bind d (wipeG Γ vs) Γ2) (he : ∀ j, j ∉ ix → σ2[j]? = (L2.wipe σ vs)[j]?) : Stp σ Γ S H (wipeG Γ4 vs) S' H' :=
  ⟨s.ss, fun p u hp n => s.hh p u hp fun i o q z => by
    obtain ⟨q1, q2⟩ := hb d _ _ h i o q
    obtain ⟨q3, q4⟩ := wipeG_get q1
    rw [he i q2, wipe_ne q4] at z
    exact n i o q3 z, s.al, s.old, fun i o q => by
    obtain ⟨q1, _⟩ := wipeG_get q
    obtain ⟨o', q2⟩ := s.sl i o q1
    exact ⟨o', (wipeG_get (hb d _ _ h i o' q2).1).1⟩⟩
/-- the reading of a comprehension by an invariant of the turn, the list so far, the environment -/
theorem lc_imp {vs ix : List Nat} {bind : D → Gam → Gam → Prop} {Φi : List D → Gam → Prop} {Φ : O → Gam → Prop} {Bt Be : Gam → Prop} {Tt : Gam → Bool → Gam → Prop} {Te : Gam → D → Gam → Prop} (Inv : List D → Nat → List D → Gam → Prop)
    (hb : BindOk ix bind) (hix : ∀ j ∈ ix, j ∈ vs) (hz : e.own = none ∨ 0 ∉ vs) (h0 : ∀ ds Γ1, Φi ds Γ1 → ds.length ≤ 100000 ∧ Inv ds 0 [] Γ1)
    (hs : ∀ ds i d acc Γ1, ds[i]? = some d → Inv ds i acc Γ1 → ∃ Γ2, bind d (wipeG Γ1 vs) Γ2 ∧ Bt Γ2 ∧ (∀ Γ3, Tt Γ2 true Γ3 → Be Γ3 ∧ ∀ y Γ4, Te Γ3 y Γ4 → Inv ds (i + 1) (acc ++ [y]) (wipeG Γ4 vs)) ∧ ∀ Γ3, Tt Γ2 false Γ3 → Inv ds (i + 1) acc (wipeG Γ3 vs))
    (hd : ∀ ds acc Γ1, Inv ds ds.length acc Γ1 → Φ (.lst acc) Γ1) (σ : L2.St) (H : Hp) (Q : VK) (h : tO K e Γ Φ σ H Q) :
    tLc (tI K e Γ Φi) (tG K e ix bind) (fun σ H Q => ∃ Γ', Bt Γ' ∧ tX K e Γ' (Tt Γ') σ H Q) (fun σ H Q => ∃ Γ', Be Γ' ∧ tE K e Γ' (Te Γ') σ H Q) vs σ H Q := by
  obtain ⟨S, w, q⟩ := h
  refine ⟨S, w, fun S1 H1 J ds Γ1 hΦ s1 w1 it Dn hD => ?_⟩
  obtain ⟨hlen, hI0⟩ := h0 ds Γ1 hΦ
  have hDH : H Dn = none := by
    cases z : H Dn with
    | none => rfl
    | some y => exact absurd hD (s1.al Dn (by rw [z]; exact fun t => nomatch t))
  have hD0 : e.H0 Dn = none := w1.nx.fresh hD
  have big : ∀ {n : Nat}, n ≤ ds.length → n < sizeLine := fun {n} h => Nat.lt_of_le_of_lt (Nat.le_trans h hlen) (by decide)
  refine ⟨fun i m H2 => m = ds.length - i ∧ i ≤ ds.length ∧ ∃ S2 acc xs Γ2, Inv ds i acc Γ2 ∧ acc.length ≤ i ∧ Stp σ Γ1 S1 H1 Γ2 S2 H2 ∧ Wd K e S2 H2 σ Γ2 ∧ S2 Dn = none ∧ H2 Dn = some (.lst xs) ∧ RpL K S2 xs acc,
    ⟨ds.length, by simp, Nat.zero_le _, S1, [], [], Γ1, hI0, Nat.le_refl _, (Stp.refl σ Γ1 S1 H1).tmp hD, w1.own hD, w1.nx.sh.free hD, upd_same, .nil⟩, ?_⟩
  rintro i m H2 ⟨rfl, hi, S2, acc, xs, Γ2, hI, hacc, s2, w2, sD, hx, rx⟩
  by_cases hlt : i < ds.length
  · refine .inr ⟨it.go i S2 H2 hlt s2.ss w2.nx.sh, fun H' => i + 1 ≤ ds.length ∧ ∃ S3 acc xs Γ3, Inv ds (i + 1) acc Γ3 ∧ acc.length ≤ i + 1 ∧ Stp σ Γ1 S1 H1 Γ3 S3 H' ∧ Wd K e S3 H' σ Γ3 ∧ S3 Dn = none ∧ H' Dn = some (.lst xs) ∧ RpL K S3 xs acc,
      fun H' ⟨z1, z2⟩ => ⟨ds.length - (i + 1), by omega, rfl, z1, z2⟩, fun v H' y => ?_⟩
    obtain ⟨S3, p3, k3, r3⟩ := it.yld i _ S2 H2 v H' (List.getElem?_eq_getElem hlt) s2.ss w2.nx.sh y
    obtain ⟨Γ3, hb3, hbt, hT, hF⟩ := hs ds i _ acc Γ2 (List.getElem?_eq_getElem hlt) hI
    have w3 := (k3 _ _ w2).wipe (vs := vs) hz
    have s3 : Stp σ Γ1 S1 H1 Γ2 S3 H' := s2.trans p3.stp
    have sD3 : S3 Dn = none := (p3.old Dn (by rw [hx]; exact fun z => nomatch z)).trans sD
    have hx3 : H' Dn = some (.lst xs) := p3.hh _ _ hx
    refine ⟨S3, wipeG Γ2 vs, _, Γ3, w3, r3, hb3, fun σ4 k4 l4 w4 => ?_⟩
    have lw : σ4.length = σ.length := l4.trans (wipe_length σ vs)
    have ew : L2.wipe σ4 vs = L2.wipe σ vs := wipe_eq lw k4 hix
    refine ⟨ew, Γ3, hbt, S3, w4, fun S5 H5 b Γ5 hb5 s5 w5 => ?_⟩
    -- the new list is not a slot's
    have nD : ∀ {Γx : Gam} {Sx Hx : Hp}, Stp σ4 Γ3 S3 H' Γx Sx Hx → Hx Dn = some (.lst xs) ∧ Sx Dn = none := fun {Γx Sx Hx} s => by
      refine ⟨s.hh Dn _ hx3 fun j o' q1 q2 => ?_, (s.old Dn (by rw [hx3]; exact fun z => nomatch z)).trans sD3⟩
      obtain ⟨g1, g2⟩ := hb _ _ _ hb3 j o' q1
      obtain ⟨g3, g4⟩ := wipeG_get g1
      rw [k4 j g2, wipe_ne g4] at q2
      exact s2.fresh_ne w1 hD j o' g3 q2
    cases b with
    | true =>
      refine iteT ?_
      obtain ⟨hbe, hE⟩ := hT Γ5 hb5
      refine ⟨Γ5, hbe, S5, w5, fun S6 H6 yv d6 Γ6 h6 s6 w6 r6 => ?_⟩
      have st := s5.trans s6
      obtain ⟨hx6, sD6⟩ := nD st
      refine ⟨xs, hx6, ?_, hlt, S6, acc ++ [d6], xs ++ [yv], wipeG Γ6 vs, hE d6 Γ6 h6, by rw [List.length_append]; simp only [List.length_singleton]; omega, (s3.trans (st.out hb hb3 k4)).tmp hD, ?_, sD6, upd_same, ((rx.mono (p3.ss.trans st.ss)).append (.cons r6 .nil))⟩
      · rw [rx.length]
        exact big (Nat.le_trans hacc hi)
      · exact (w6.back ew lw hz).tmp sD6 hD0 ((s3.trans (st.out hb hb3 k4)).fresh_ne w1 hD)
    | false =>
      refine iteF ?_
      obtain ⟨hx6, sD6⟩ := nD s5
      exact ⟨hlt, S5, acc, xs, wipeG Γ5 vs, hF Γ5 hb5, by omega, s3.trans (s5.out hb hb3 k4), w5.back ew lw hz, sD6, hx6, rx.mono (p3.ss.trans s5.ss)⟩
  · have ei : i = ds.length := by omega
    subst ei
    exact .inl ⟨it.stop _ S2 H2 (Nat.le_refl _) s2.ss w2.nx.sh, q S2 H2 Dn (.lst acc) Γ2 (hd ds acc Γ2 hI) (s1.trans s2) w2 sD ⟨xs, hx, rx⟩ hDH⟩
end lc
end Kf
end
section
set_option maxRecDepth 100000
set_option maxHeartbeats 4000000
/-! KfE: new objects of pure expressions, comprehensions, what a def promises, calls. -/
namespace Kf
open PySem L2

/-! ### a pure expression that makes one new object -/
def tPN (K : Fg) (e : Ent) (Γ : Gam) (o : O) : TE := fun σ H Q => ∃ S, Wd K e S H σ Γ ∧
  ∀ S' H' a, Pur S H S' H' → Wd K e S' H' σ Γ → S' a = none → Own K S' H' a o → H a = none → Q (.ref a) H'
abbrev PN (X : Cx) (e : Ent) (x : Expr) (Γ : Gam) (o : O) : Prop := PE X x (tPN X.K e Γ o)
section po
variable {X : Cx} {e : Ent} {Γ : Gam} {x a b : Expr} {o : O} {pos p : Pos}
theorem pn_eo (h : PN X e x Γ o) : EO X e x Γ (Is o Γ) := PE.imp h fun σ H Q ⟨S, w, q⟩ => ⟨S, w, fun S' H' c s w' sa ow ha => q S' H' c o Γ ⟨rfl, rfl⟩ s.stp w' sa ow ha⟩
theorem pn_pv {d : D} (h : PN X e x Γ o) (hd : o.d = d := by rfl) : PV X e x Γ d := PE.imp h fun σ H Q ⟨S, w, q⟩ => ⟨S, w, fun S' H' c s w' sa ow ha => by
  obtain ⟨S2, s2, k2, w2, r⟩ := own_st w' sa ow (w.nx.fresh ha) (w.fresh_ne ha)
  exact q S2 H' _ ⟨s.ss.trans s2, s.hh, fun b hb => (k2 b fun z => hb (by rw [z]; exact ha)).trans (s.old b hb)⟩ w2 (by rw [← hd]; exact r)⟩
theorem pn_is {o' : O} (h : PN X e x Γ o) (q : o = o') : PN X e x Γ o' := by rw [← q]; exact h
theorem tPN_new {K : Fg} {σ : L2.St} {Q : VK} {S H S1 H1 : Hp} {c : Addr} {u : HO} (q : ∀ S' H' a, Pur S H S' H' → Wd K e S' H' σ Γ → S' a = none → Own K S' H' a o → H a = none → Q (.ref a) H') (s1 : Pur S H S1 H1) (w1 : Wd K e S1 H1 σ Γ) (hp : H1 c = none) (r : Own K S1 (upd H1 c u) c o) : Q (.ref c) (upd H1 c u) :=
  q S1 (upd H1 c u) c (s1.trans (pur_own hp)) (w1.own hp) (w1.nx.sh.free hp) r (s1.hh.free hp)
theorem pn_lst {es : List Expr} {ds : List D} (h : PVs X e es Γ ds) (hl : ds.length ≤ sizeLine := by first | exact Nat.le_trans (by decide : _ ≤ 1000) (by decide) | exact Nat.le_trans (m := 1000) (by simp only [List.length_cons, List.length_nil]; decide) (by decide)) : PN X e (.List es pos) Γ (.lst ds) :=
  PE.imp (pe_lst h) fun σ H Q ⟨S, w, q⟩ => ⟨S, w, fun S1 H1 vs s1 w1 r1 => ⟨by rw [r1.length]; exact hl, fun c hp => tPN_new q s1 w1 hp ⟨vs, upd_same, r1⟩⟩⟩
theorem pn_dK : PN X e (.Dict [] [] pos) Γ (.dK []) := PE.imp pe_dnewK fun σ H Q ⟨S, w, q⟩ c hp => tPN_new q (Pur.refl _ _) w hp ⟨[], upd_same, .nil⟩
theorem pn_dT : PN X e (.Dict [] [] pos) Γ (.dT []) := PE.imp pe_dnewT fun σ H Q ⟨S, w, q⟩ c hp => tPN_new q (Pur.refl _ _) w hp ⟨[], upd_same, .nil⟩
/-- list(x) -/
theorem pn_list {l : List D} (h : PV X e x Γ (.lst l) ∨ PV X e x Γ (.tup l)) (hm : X.mg "list" = none) (hg : Gl X "list" := by rfl) (he : starEach [x] X.env = (false, eval x X.env) :: starEach [] X.env := by rfl)
    (hpl : (backTo pos (starEach [] X.env)).any (·.1) = false := by rfl) : PN X e (.Call (.Name "list" p) [x] [] pos) Γ (.lst l) := by
  rcases h with h | h
  · exact PE.imp (pe_callTy call_list_of hg hm (by decide +kernel) (pvs_cons h pvs_nil he) (by decide) (by decide) he hpl) fun σ H Q ⟨S, w, q⟩ => ⟨S, w, fun S1 H1 vs s1 w1 r1 => by
      cases r1 with
      | cons r2 r3 =>
        cases r3
        cases r2 with
        | lst h1 h2 => exact ⟨_, _, rfl, .inl (rdq (same_rd w1.nx.sh h1)), fun c hp => tPN_new q s1 w1 hp ⟨_, upd_same, h2⟩⟩⟩
  · exact PE.imp (pe_callTy call_list_of hg hm (by decide +kernel) (pvs_cons h pvs_nil he) (by decide) (by decide) he hpl) fun σ H Q ⟨S, w, q⟩ => ⟨S, w, fun S1 H1 vs s1 w1 r1 => by
      cases r1 with
      | cons r2 r3 =>
        cases r3
        cases r2 with
        | tup h1 h2 => exact ⟨_, _, rfl, .inr (same_sqT w1.nx.sh h1), fun c hp => tPN_new q s1 w1 hp ⟨_, upd_same, h2⟩⟩⟩
/-- list(x), x a list that came from outside -/
theorem pn_listK {l : List D} (h : PV X e x Γ (.lstK l)) (hm : X.mg "list" = none) (hg : Gl X "list" := by rfl) (he : starEach [x] X.env = (false, eval x X.env) :: starEach [] X.env := by rfl)
    (hpl : (backTo pos (starEach [] X.env)).any (·.1) = false := by rfl) : PN X e (.Call (.Name "list" p) [x] [] pos) Γ (.lst l) :=
  PE.imp (pe_callTy call_list_of hg hm (by decide +kernel) (pvs_cons h pvs_nil he) (by decide) (by decide) he hpl) fun σ H Q ⟨S, w, q⟩ => ⟨S, w, fun S1 H1 vs s1 w1 r1 => by
      cases r1 with
      | cons r2 r3 =>
        cases r3
        cases r2 with
        | lstK h1 h2 => exact ⟨_, _, rfl, .inl (w1.nx.sh.seq h1), fun c hp => tPN_new q s1 w1 hp ⟨_, upd_same, h2⟩⟩⟩
/-- xs + ys, lists -/
def rCatQ : R2 := fun x y H Q => ∃ l b xs zs, x = .ref l ∧ y = .ref b ∧ Rd H l (.lst xs) ∧ Rd H b (.lst zs) ∧ xs.length + zs.length ≤ sizeLine ∧ ∀ p, H p = none → Q (.ref p) (upd H p (.lst (xs ++ zs)))
theorem op_catQ : OpR X (binaryOp .Add) rCatQ := by
  intro pins s σ H x y v u Q I rx ry h
  obtain ⟨l, b, xs, zs, rfl, rfl, hH, hB, hz, q⟩ := h
  cases rx
  cases ry
  obtain ⟨z1, its, n, r, g⟩ := hH.ok I.hok
  obtain ⟨z2, its2, n2, r2, g2⟩ := hB.ok I.hok
  have k1 := r.length
  have k2 := r2.length
  refine PySem.P.add_list g g2 ?_ (by rw [List.size_toArray, List.size_toArray]; omega)
  rw [show its.toArray ++ its2.toArray = (its ++ its2).toArray by simp]
  exact ⟨.ref _, _, I.lnew (t' := s.toks) (r.append r2) (by rw [List.length_append]; omega), rfl, q _ I.fresh⟩
theorem pn_cat {l m : List D} (ha : PV X e a Γ (.lst l)) (hb : PV X e b Γ (.lst m)) (hl : l.length + m.length ≤ sizeLine) : PN X e (.BinOp a .Add b pos) Γ (.lst (l ++ m)) :=
  PE.imp (pe_op op_catQ ha hb) fun σ H Q ⟨S, w, q⟩ => ⟨S, w, fun S1 H1 v1 s1 w1 r1 => ⟨S1, w1, fun S2 H2 v2 s2 w2 r2 => by
    cases r1 with
    | lst h1 t1 =>
      cases r2 with
      | lst h2 t2 =>
        have t1' := t1.mono s2.ss
        exact ⟨_, _, _, _, rfl, rfl, same_rd w2.nx.sh (same_rd s2.ss h1), same_rd w2.nx.sh h2, by rw [t1'.length, t2.length]; exact hl, fun c hc => tPN_new q (s1.trans s2) w2 hc ⟨_, upd_same, t1'.append t2⟩⟩⟩⟩
/-! slices -/
def cutD (l : List D) (lo hi : Option Int) : List D := (l.drop (HT.sIx l.length 0 lo)).take (HT.sIx l.length l.length hi - HT.sIx l.length 0 lo)
def tPart' (K : Fg) (e : Ent) (Γ : Gam) (o : Option Int) : TO := fun σ H Q => ∃ S, Wd K e S H σ Γ ∧ ∀ S' H', Pur S H S' H' → Wd K e S' H' σ Γ → Q o H'
abbrev PP (X : Cx) (e : Ent) (x : Option Expr) (Γ : Gam) (o : Option Int) : Prop := L2.PO X x (tPart' X.K e Γ o)
theorem pp_none : PP X e none Γ none := ⟨fun pins s σ H Q I ⟨S, w, q⟩ => L2.po_none.run pins s σ H Q I (q S H (Pur.refl _ _) w)⟩
theorem pp_some {i : Int} (h : PV X e x Γ (.int i)) : PP X e (some x) Γ (some i) := ⟨fun pins s σ H Q I ⟨S, w, q⟩ => (L2.po_some h).run pins s σ H Q I ⟨S, w, fun S1 H1 v s1 w1 r => by
  cases r
  exact ⟨i, rfl, q S1 H1 s1 w1⟩⟩⟩
theorem pn_cut {l : List D} {lo hi : Option Expr} {lo' hi' : Option Int} {p2 : Pos} (h : PV X e x Γ (.lst l)) (h1 : PP X e lo Γ lo') (h2 : PP X e hi Γ hi') : PN X e (.Subscript x (.Slice lo hi none p2) pos) Γ (.lst (cutD l lo' hi')) :=
  PE.imp (pe_slice sl_list h h1 h2) fun σ H Q ⟨S, w, q⟩ => ⟨S, w, fun S1 H1 v1 s1 w1 r1 => ⟨S1, w1, fun S2 H2 s2 w2 => ⟨S2, w2, fun S3 H3 s3 w3 => by
    cases r1 with
    | lst g1 t1 =>
      have t' := t1.mono (s2.ss.trans s3.ss)
      exact ⟨_, _, rfl, rdq (same_rd w3.nx.sh (same_rd (s2.ss.trans s3.ss) g1)), fun c hc => tPN_new q ((s1.trans s2).trans s3) w3 hc ⟨_, upd_same, by
        unfold cutV cutD
        rw [t'.length]
        exact (t'.drop _).take _⟩⟩⟩⟩⟩
theorem pv_cutS {z : Str} {lo hi : Option Expr} {lo' hi' : Option Int} {p2 : Pos} (h : PV X e x Γ (.str z)) (hz : z.length ≤ sizeLine) (h1 : PP X e lo Γ lo') (h2 : PP X e hi Γ hi') : PV X e (.Subscript x (.Slice lo hi none p2) pos) Γ (.str (cutS z lo' hi')) :=
  PE.imp (pe_slice sl_str h h1 h2) fun σ H Q ⟨S, w, q⟩ => ⟨S, w, fun S1 H1 v1 s1 w1 r1 => ⟨S1, w1, fun S2 H2 s2 w2 => ⟨S2, w2, fun S3 H3 s3 w3 => by
    cases r1
    exact ⟨z, rfl, hz, q S3 H3 _ ((s1.trans s2).trans s3) w3 (.str _)⟩⟩⟩⟩
/-- tuple(x) -/
theorem pv_tupL {l : List D} (h : PV X e x Γ (.lst l)) (hm : X.mg "tuple" = none) (hg : Gl X "tuple" := by rfl) (he : starEach [x] X.env = (false, eval x X.env) :: starEach [] X.env := by rfl)
    (hpl : (backTo pos (starEach [] X.env)).any (·.1) = false := by rfl) : PV X e (.Call (.Name "tuple" p) [x] [] pos) Γ (.tup l) :=
  PE.imp (pe_callTy call_tuple_of hg hm (by decide +kernel) (pvs_cons h pvs_nil he) (by decide) (by decide) he hpl) fun σ H Q ⟨S, w, q⟩ => ⟨S, w, fun S1 H1 vs s1 w1 r1 => by
    cases r1 with
    | cons r2 r3 =>
      cases r3
      cases r2 with
      | lst h1 h2 => exact ⟨_, _, rfl, .inl ⟨rdq (same_rd w1.nx.sh h1), fun c hp => tP_new q s1 w1 hp fun s2 => .tup (SqT.of upd_same) (h2.mono s2)⟩⟩⟩
theorem pv_tupT {l : List D} (h : PV X e x Γ (.tup l)) (hm : X.mg "tuple" = none) (hg : Gl X "tuple" := by rfl) (he : starEach [x] X.env = (false, eval x X.env) :: starEach [] X.env := by rfl)
    (hpl : (backTo pos (starEach [] X.env)).any (·.1) = false := by rfl) : PV X e (.Call (.Name "tuple" p) [x] [] pos) Γ (.tup l) :=
  PE.imp (pe_callTy call_tuple_of hg hm (by decide +kernel) (pvs_cons h pvs_nil he) (by decide) (by decide) he hpl) fun σ H Q ⟨S, w, q⟩ => ⟨S, w, fun S1 H1 vs s1 w1 r1 => by
    cases r1 with
    | cons r2 r3 =>
      cases r3
      cases r2 with
      | tup h1 h2 => exact ⟨_, _, rfl, .inr ⟨same_sqT w1.nx.sh h1, q S1 H1 _ s1 w1 (.tup h1 h2)⟩⟩⟩
end po

/-! ### the slices on data -/
/-! ### comprehensions -/
section comps
variable {X : Cx} {e : Ent} {Γ : Gam}
/-- the pure turns of a comprehension: p the test, g the element, by the item -/
theorem lcP_core {K : Fg} {vs ix : List Nat} {bind : D → Gam → Gam → Prop} {ds : List D} {f : D → Gam} {p : D → Bool} {g : D → D} {tg : TG} {tt : TT} {te : TE} {J : It} (hb : BindOk ix bind) (hix : ∀ j ∈ ix, j ∈ vs) (hz : e.own = none ∨ 0 ∉ vs) (hlen : ds.length ≤ 100000) (hs : ∀ d ∈ ds, bind d (wipeG Γ vs) (f d))
    (hgg : ∀ v σ H Q, tG K e ix bind v σ H Q → tg v σ H Q) (htt : ∀ d ∈ ds, ∀ σ H Q, tPX K e (f d) (p d) σ H Q → tt σ H Q) (hte : ∀ d ∈ ds, p d = true → ∀ σ H Q, tP K e (f d) (g d) σ H Q → te σ H Q)
    {σ : L2.St} {S1 H1 : Hp} {Q : VK} (w1 : Wd K e S1 H1 σ Γ) (it : ItOk K e J ds S1) {Dn : Addr} (hD : H1 Dn = none)
    (q : ∀ S' H' a, Pur S1 H1 S' H' → Wd K e S' H' σ Γ → S' a = none → Own K S' H' a (.lst ((ds.filter p).map g)) → H1 a = none → Q (.ref a) H') :
    ∃ W : Nat → Nat → Hp → Prop, (∃ m, W 0 m (upd H1 Dn (.lst []))) ∧ ∀ i m H, W i m H →
  (J.stop i H ∧ Q (.ref Dn) H) ∨ (J.go i H ∧ ∃ Nx : Hp → Prop, (∀ H', Nx H' → ∃ m', m' < m ∧ W (i + 1) m' H') ∧ ∀ x H', J.yld i H x H' → tg x (wipe σ vs) H' fun σ2 H2 => wipe σ2 vs = wipe σ vs ∧ tt σ2 H2 fun b H3 =>
    if b = true then te σ2 H3 fun y H4 => ∃ acc, H4 Dn = some (.lst acc) ∧ acc.length < sizeLine ∧ Nx (upd H4 Dn (.lst (acc ++ [y]))) else Nx H3) := by
  have s1 : Pur S1 H1 S1 H1 := Pur.refl _ _
  have hD0 : e.H0 Dn = none := w1.nx.fresh hD
  have nsl := w1.fresh_ne hD
  refine ⟨fun i m H2 => m = ds.length - i ∧ i ≤ ds.length ∧ ∃ S2 xs, Pur S1 (upd H1 Dn (.lst [])) S2 (upd H2 Dn (.lst [])) ∧ Wd K e S2 H2 σ Γ ∧ S2 Dn = none ∧ H2 Dn = some (.lst xs) ∧ RpL K S2 xs (((ds.take i).filter p).map g),
    ⟨ds.length, by simp, Nat.zero_le _, S1, [], ⟨Same.refl _, by rw [upd_upd]; exact Same.refl _, fun _ _ => rfl⟩, w1.own hD, w1.nx.sh.free hD, upd_same, .nil⟩, ?_⟩
  rintro i m H2 ⟨rfl, hi, S2, xs, s2, w2, sD, hx, rx⟩
  by_cases hlt : i < ds.length
  · have hmem : ds[i] ∈ ds := List.getElem_mem hlt
    refine .inr ⟨it.go i S2 H2 hlt s2.ss w2.nx.sh, fun H' => i + 1 ≤ ds.length ∧ ∃ S3 xs, Pur S1 (upd H1 Dn (.lst [])) S3 (upd H' Dn (.lst [])) ∧ Wd K e S3 H' σ Γ ∧ S3 Dn = none ∧ H' Dn = some (.lst xs) ∧ RpL K S3 xs (((ds.take (i + 1)).filter p).map g),
      fun H' ⟨z1, z2⟩ => ⟨ds.length - (i + 1), by omega, rfl, z1, z2⟩, fun v H' y => ?_⟩
    obtain ⟨S3, p3, k3, r3⟩ := it.yld i _ S2 H2 v H' (List.getElem?_eq_getElem hlt) s2.ss w2.nx.sh y
    have w3 := (k3 _ _ w2).wipe (vs := vs) hz
    have sD3 : S3 Dn = none := (p3.old Dn (by rw [hx]; exact fun z => nomatch z)).trans sD
    have hx3 : H' Dn = some (.lst xs) := p3.hh _ _ hx
    refine hgg _ _ _ _ ⟨S3, wipeG Γ vs, _, _, w3, r3, hs _ hmem, fun σ4 k4 l4 w4 => ?_⟩
    have lw : σ4.length = σ.length := l4.trans (wipe_length σ vs)
    have ew : L2.wipe σ4 vs = L2.wipe σ vs := wipe_eq lw k4 hix
    have bk : ∀ {Sx Hx : Hp}, Wd K e Sx Hx σ4 (f ds[i]) → Pur S3 H' Sx Hx → Wd K e Sx Hx σ Γ := fun {Sx Hx} wx px => by
      refine ⟨wx.nx, w1.sl.len, fun j b z => ?_, w1.sl.dj, w1.sl.z⟩
      obtain ⟨v1, g1, g2⟩ := (k3 _ _ w2).sl.at_ j b z
      refine ⟨v1, g1, ?_⟩
      cases b with
      | st d => exact Rp.mono px.ss g2
      | xc a d fl => exact g2.xcm px.ss
      | nw d l => exact g2.elim
      | ow o1 =>
        obtain ⟨a, e1, e2, e3, e4⟩ := g2
        cases hz2 : H' a with
        | none => exact absurd hz2 e3.some
        | some u => exact ⟨a, e1, (px.old a (by rw [hz2]; exact fun z => nomatch z)).trans e2, e3.to px.ss ((px.hh _ _ hz2).trans hz2.symm), e4⟩
    have pt : ∀ {Sx Hx : Hp} {u : HO}, Pur S3 H' Sx Hx → Pur S1 (upd H1 Dn (.lst [])) Sx (upd (upd Hx Dn u) Dn (.lst [])) ∧ Sx Dn = none ∧ Hx Dn = some (.lst xs) := fun {Sx Hx u} px => by
      have a1 := p3.trans px
      have a2 : Same (upd H2 Dn (.lst [])) (upd (upd Hx Dn u) Dn (.lst [])) := by
        rw [upd_upd]
        intro c o z
        by_cases hc : c = Dn
        · subst hc
          rw [upd_same] at z ⊢
          exact z
        · rw [upd_ne hc] at z ⊢
          exact a1.hh _ _ z
      exact ⟨⟨s2.ss.trans a1.ss, s2.hh.trans a2, fun c z => (a1.old c (by
        by_cases hc : c = Dn
        · rw [hc, hx]; exact fun z => nomatch z
        · have := s2.al c z
          rw [upd_ne hc] at this
          exact this)).trans (s2.old c z)⟩, (px.old Dn (by rw [hx3]; exact fun z => nomatch z)).trans sD3, px.hh _ _ hx3⟩
    have tk : ds.take (i + 1) = ds.take i ++ [ds[i]] := List.take_succ_eq_append_getElem hlt
    refine ⟨ew, htt _ hmem _ _ _ ⟨S3, w4, fun S5 H5 s5 w5 => ?_⟩⟩
    cases hp : p ds[i] with
    | true =>
      refine iteT (hte _ hmem hp _ _ _ ⟨S5, w5, fun S6 H6 yv s6 w6 r6 => ?_⟩)
      have st := s5.trans s6
      obtain ⟨z1, z2, z3⟩ := pt (u := .lst (xs ++ [yv])) st
      refine ⟨xs, z3, ?_, hlt, S6, xs ++ [yv], z1, (bk w6 st).tmp z2 hD0 nsl, z2, upd_same, ?_⟩
      · rw [rx.length, List.length_map]
        exact Nat.lt_of_le_of_lt (Nat.le_trans (List.length_filter_le _ _) (by rw [List.length_take]; omega)) (by decide : 100000 < sizeLine)
      · rw [tk, List.filter_append, List.filter_cons_of_pos hp, List.filter_nil, List.map_append]
        exact (rx.mono (p3.ss.trans st.ss)).append (.cons r6 .nil)
    | false =>
      refine iteF ?_
      obtain ⟨z1, z2, z3⟩ := pt (u := .lst xs) s5
      refine ⟨hlt, S5, xs, ?_, bk w5 s5, z2, z3, ?_⟩
      · rw [upd_upd] at z1
        exact z1
      · rw [tk, List.filter_append, List.filter_cons_of_neg (by rw [hp]; exact Bool.false_ne_true), List.filter_nil, List.append_nil]
        exact rx.mono (p3.ss.trans s5.ss)
  · have ei : i = ds.length := by omega
    subst ei
    refine .inl ⟨it.stop _ S2 H2 (Nat.le_refl _) s2.ss w2.nx.sh, q S2 H2 Dn ⟨s1.ss.trans s2.ss, fun c u z => ?_, fun c z => ?_⟩ w2 sD ⟨xs, hx, by rw [List.take_length] at rx; exact rx⟩ hD⟩
    · have h1 := s1.hh _ _ z
      have hc : c ≠ Dn := ne_of_none h1 hD
      have h2 := s2.hh c u (by rw [upd_ne hc]; exact h1)
      rw [upd_ne hc] at h2
      exact h2
    · have h1 := s1.al c z
      have hc : c ≠ Dn := fun y => h1 (by rw [y]; exact hD)
      exact (s2.old c (by rw [upd_ne hc]; exact h1)).trans (s1.old c z)
/-- a pure one: p the test, g the element, by the item -/
theorem lcP_imp {K : Fg} {vs ix : List Nat} {bind : D → Gam → Gam → Prop} {ds : List D} {f : D → Gam} {p : D → Bool} {g : D → D} (hb : BindOk ix bind) (hix : ∀ j ∈ ix, j ∈ vs) (hz : e.own = none ∨ 0 ∉ vs) (hlen : ds.length ≤ 100000) (hs : ∀ d ∈ ds, bind d (wipeG Γ vs) (f d))
    (σ : L2.St) (H : Hp) (Q : VK) (h : tPN K e Γ (.lst ((ds.filter p).map g)) σ H Q) :
    tLc (tIP K e Γ ds) (tG K e ix bind) (fun σ H Q => ∃ d ∈ ds, tPX K e (f d) (p d) σ H Q) (fun σ H Q => ∃ d ∈ ds, p d = true ∧ tP K e (f d) (g d) σ H Q) vs σ H Q :=
  let ⟨S, w, q⟩ := h
  ⟨S, w, fun S1 H1 J s1 w1 it Dn hD => lcP_core (tg := tG K e ix bind) (tt := fun σ H Q => ∃ d ∈ ds, tPX K e (f d) (p d) σ H Q) (te := fun σ H Q => ∃ d ∈ ds, p d = true ∧ tP K e (f d) (g d) σ H Q) hb hix hz hlen hs (fun _ _ _ _ h => h) (fun d hd σ H Q h => ⟨d, hd, h⟩) (fun d hd hp σ H Q h => ⟨d, hd, hp, h⟩) w1 it hD fun S' H' a p' w' sa ow ha => q S' H' a (s1.trans p') w' sa ow (s1.hh.free ha)⟩
/-- [elt for tg in it if ..], pure -/
theorem pn_lc {elt tg iter : Expr} {ifs : List Expr} {scope : Scope} {own : List (Str × Nat)} {pos : Pos} {ix : List Nat} {bind : D → Gam → Gam → Prop} {ds : List D} {f : D → Gam} (p : D → Bool) (g : D → D) (ok : BlkOk X.N X.env.scope scope own) (hN : X.N.Nodup) (hw : WP X e tg iter Γ ds)
    (hg : ∀ (s : Shared) (H : Hp) (C : Addr) (cl : List (Str × Addr)) (fp : List Addr), GV (X.blk s H scope (compEnvC scope cl C X.env) fp) e tg ix bind) (hb : BindOk ix bind) (hix : ∀ j ∈ ix, j ∈ own.map (·.2)) (hz : e.own = none ∨ 0 ∉ own.map (·.2)) (hlen : ds.length ≤ 100000)
    (hs : ∀ d ∈ ds, bind d (wipeG Γ (own.map (·.2))) (f d))
    (ht : ∀ d ∈ ds, ∀ (s : Shared) (H : Hp) (C : Addr) (cl : List (Str × Addr)) (fp : List Addr), PTs (X.blk s H scope (compEnvC scope cl C X.env) fp) ifs (tPX X.K e (f d) (p d)))
    (he : ∀ d ∈ ds, p d = true → ∀ (s : Shared) (H : Hp) (C : Addr) (cl : List (Str × Addr)) (fp : List Addr), PV (X.blk s H scope (compEnvC scope cl C X.env) fp) e elt (f d) (g d))
    (hc : X.calm = true := by rfl) (hfs : ∀ x, foldedSetIterable iter X.env x = pure x := by intro _; rfl) : PN X e (.ListComp elt [⟨tg, iter, ifs, 0⟩] scope pos) Γ (.lst ((ds.filter p).map g)) :=
  PE.imp (pe_lc hc hN hw ok hg (fun s H C cl fp => ⟨fun pins s2 σ H2 Q I ⟨d, hd, q⟩ => (ht d hd s H C cl fp).run pins s2 σ H2 Q I q⟩) (fun s H C cl fp => ⟨fun pins s2 σ H2 Q I ⟨d, hd, hp, q⟩ => (he d hd hp s H C cl fp).run pins s2 σ H2 Q I q⟩) hfs) fun σ H Q h => lcP_imp hb hix hz hlen hs σ H Q h
theorem pts_none {X : Cx} {e : Ent} {Γ : Gam} : PTs X [] (tPX X.K e Γ true) := ⟨fun pins s σ H Q I ⟨S, w, q⟩ => pts_nil.run pins s σ H Q I (q S H (Pur.refl _ _) w)⟩
theorem pts_if {X : Cx} {e : Ent} {Γ : Gam} {c : Expr} {b : Bool} (h : PX X e c Γ b) : PTs X [c] (tPX X.K e Γ b) := pts_one h
end comps
end Kf
end
section
set_option maxRecDepth 100000
set_option maxHeartbeats 4000000
/-! KfF: promises by data, calls, defs. -/
namespace Kf
open PySem L2

/-! ### promises -/
/-- a def of arguments that stand for good: what it asks, gives, raises -/
structure Fp where
  pre : List D → Prop
  post : List D → B → Prop
  exn : List D → Str → List (Str × D) → Prop := fun _ _ _ => False
/-- a raised error: its class by name, its fields -/
def EOk (K : Fg) (S H H' : Hp) (x : Str) (fl : List (Str × D)) (cls : Value) (d : Option Addr) : Prop :=
  cls = .ref (He.ga K x) ∧ ((d = none ∧ fl = []) ∨ ∃ dd fs, d = some dd ∧ H' dd = some (.xd fs) ∧ H dd = none ∧ RpF K S fs fl)
def spP (K : Fg) (c : Fp) : Sp := fun vs H Q E => ∃ S ds, Same S H ∧ RpL K S vs ds ∧ c.pre ds ∧
  (∀ S' H' v b, c.post ds b → Nx ⟨S, H, none⟩ S' H' → ROk K ⟨S, H, none⟩ S' H' v b → Q v H') ∧
  (∀ S' H' x fl cls d, c.exn ds x fl → Nx ⟨S, H, none⟩ S' H' → EOk K S' H H' x fl cls d → E cls d H')
/-- a def whose first argument is the caller's own object -/
structure Fo where
  pre : O → List D → Prop
  post : O → List D → B → O → Prop
  exn : O → List D → Str → List (Str × D) → O → Prop := fun _ _ _ _ _ => False
def spO (K : Fg) (c : Fo) : Sp := fun vs H Q E => ∃ S p vs' o ds, vs = .ref p :: vs' ∧ Same S H ∧ S p = none ∧ Own K S H p o ∧ RpL K S vs' ds ∧ c.pre o ds ∧
  (∀ S' H' v b o', c.post o ds b o' → Nx ⟨S, H, some p⟩ S' H' → Own K S' H' p o' → ROk K ⟨S, H, some p⟩ S' H' v b → Q v H') ∧
  (∀ S' H' x fl cls d o', c.exn o ds x fl o' → Nx ⟨S, H, some p⟩ S' H' → Own K S' H' p o' → EOk K S' H H' x fl cls d → E cls d H')
/-- a def of the text: its name, its room, its promise -/
structure Dn (P : Program) (w : World) (K : Fg) (mg : Str → Option Value) (base : Heap) (x : Str) (k : Nat) (sp : Sp) : Prop where
  at_ : mg x = some (.ref (He.ga K x))
  kp : PySem.W.keepIn K (.ref (He.ga K x)) = true
  fn : FnR P w K mg base (L2.CX P w) k (He.ga K x) sp
abbrev XDn (X : Cx) (x : Str) (k : Nat) (sp : Sp) : Prop := Dn X.prog X.w X.K X.mg X.base x k sp

/-! ### worlds put together -/
section worlds
variable {K : Fg} {e : Ent} {S H S' H' : Hp} {σ : L2.St} {Γ : Gam} {q : Option Addr}
theorem Nx.trans (n : Nx e S H) (m : Nx ⟨S, H, q⟩ S' H') (h : ∀ p, q = some p → e.H0 p = none ∨ e.own = some p) : Nx e S' H' where
  ss := n.ss.trans m.ss
  sh := m.sh
  hh := fun a o z y => m.hh a o (n.hh a o z y) fun x => by
    rcases h a x with r | r
    · rw [r] at z; cases z
    · exact y r
  al := fun a z => m.al a (n.al a z)
  old := fun a z => (m.old a (n.al a z)).trans (n.old a z)
/-- behind a call that changes nothing of one's own -/
theorem Wd.after (w : Wd K e S H σ Γ) (m : Nx ⟨S, H, none⟩ S' H') : Wd K e S' H' σ Γ ∧ Pur S H S' H' := by
  have p : Pur S H S' H' := ⟨m.ss, fun a o z => m.hh a o z (fun y => nomatch y), m.old⟩
  refine ⟨⟨w.nx.trans m fun p z => (nomatch z), w.sl.to m.ss fun a sa ha => ?_⟩, p⟩
  cases z : H a with
  | none => exact absurd z ha
  | some u => exact ⟨p.hh _ _ z, (m.old a ha).trans sa⟩
/-- behind a call that has changed the object in slot i -/
theorem Wd.afterO {i : Nat} {p : Addr} {o o' : O} (w : Wd K e S H σ Γ) (hi : Γ[i]? = some (some (.ow o))) (hp : σ[i]? = some (some (.ref p))) (m : Nx ⟨S, H, some p⟩ S' H') (ow : Own K S' H' p o') :
    Wd K e S' H' σ (Γ.set i (some (.ow o'))) ∧ Stp σ Γ S H (Γ.set i (some (.ow o'))) S' H' := by
  obtain ⟨v, h1, c, h2, sc, oc, hc⟩ := w.sl.at_ i _ hi
  rw [hp] at h1
  cases h1
  cases h2
  have sp' : S' p = none := (m.old p oc.some).trans sc
  have g : ∀ {j : Nat} {o1 : O}, (Γ.set i (some (.ow o')))[j]? = some (some (.ow o1)) → ∃ o2, Γ[j]? = some (some (.ow o2)) := fun {j o1} q => by
    rcases get_set q with ⟨rfl, _⟩ | ⟨_, h⟩
    · exact ⟨o, hi⟩
    · exact ⟨o1, h⟩
  refine ⟨⟨w.nx.trans m fun x z => by cases z; exact hc, by rw [List.length_set]; exact w.sl.len, fun j b y => ?_, fun j k o1 o2 x q1 q2 q3 q4 => ?_, fun x z => ?_⟩, ⟨m.ss, fun a u z n => m.hh a u z fun y => ?_, m.al, m.old, fun j o1 y => g y⟩⟩
  · rcases get_set y with ⟨rfl, h⟩ | ⟨n, h⟩
    · have h' := Option.some.inj h
      subst h'
      exact ⟨_, hp, p, rfl, sp', ow, hc⟩
    · obtain ⟨u, h1, h2⟩ := w.sl.at_ j b h
      refine ⟨u, h1, ?_⟩
      cases b with
      | st d => exact Rp.mono m.ss h2
      | xc a d fl => exact h2.xcm m.ss
      | nw d l => exact h2.elim
      | ow o1 =>
        obtain ⟨x, h3, h4, h5, h6⟩ := h2
        subst h3
        have nx : x ≠ p := fun z => n (w.sl.dj i j o o1 p hi h hp (by rw [h1, z]))
        cases z : H x with
        | none => exact absurd z h5.some
        | some u => exact ⟨x, rfl, (m.old x h5.some).trans h4, h5.to m.ss ((m.hh x u z fun y => nx (Option.some.inj y).symm).trans z.symm), h6⟩
  · obtain ⟨p1, g1⟩ := g q1
    obtain ⟨p2, g2⟩ := g q2
    exact w.sl.dj j k p1 p2 x g1 g2 q3 q4
  · obtain ⟨h1, o1, h2⟩ := w.sl.z x z
    refine ⟨h1, ?_⟩
    by_cases n : i = 0
    · subst n
      exact ⟨o', set_at (List.getElem?_eq_some_iff.mp h2).1⟩
    · exact ⟨o1, by rw [List.getElem?_set_ne n]; exact h2⟩
  · cases y
    exact n i o hi hp
end worlds

/-! ### errors that leave -/
/-- the wish of a body: errors by class name, fields, environment -/
abbrev Wx := Str → List (Str × D) → Gam → Prop
def wX (K : Fg) (e : Ent) (W : Wx) : WX := fun cls d σ H => ∃ S x fl Γ, W x fl Γ ∧ Wd K e S H σ Γ ∧ EOk K S e.H0 H x fl cls d
theorem eok_up {K : Fg} {e : Ent} {S H S' H' : Hp} {x : Str} {fl : List (Str × D)} {cls : Value} {d : Option Addr} (n : Nx e S H) (h : EOk K S' H H' x fl cls d) : EOk K S' e.H0 H' x fl cls d := by
  obtain ⟨h1, h⟩ := h
  rcases h with h | ⟨dd, fs, h2, h3, h4, h5⟩
  · exact ⟨h1, .inl h⟩
  · exact ⟨h1, .inr ⟨dd, fs, h2, h3, n.fresh h4, h5⟩⟩

/-! ### calls -/
section calls
variable {X : Cx} {e : Ent} {Γ : Gam} {f : Addr} {sp : Sp} {k j : Nat} {W : WX} {x : Str} {p pos apos : Pos} {a : Expr} {es : List Expr}
theorem run_fnW {pins : List (Addr × Obj)} {σ : L2.St} {H : Hp} {s : Shared} {Q : VK} {us : List Value} {vs : List V} (F : FnR X.prog X.w X.K X.mg X.base (L2.CX X.prog X.w) k f sp) (hr : Room k X.A) (tk : Takes X W) (I : Inv X pins σ H s) (r : Vals vs us)
    (h : sp vs H Q (fun c d H2 => W c d σ H2)) : wpAny (model X.prog X.w) X.A (call (.ref f) us) (EP X pins σ Q) X.xe s := by
  refine wpAny_call (codeAny_mono (F X.A X.stack s H us vs Q _ hr I.env0 r h) fun r s' hq => ?_)
  cases r with
  | error u => exact tk u s' (XE.of_call I (fun _ _ _ z => z) hq)
  | ok fl =>
    cases fl with
    | ret u => exact I.after hq
    | next => exact False.elim hq
    | brk => exact False.elim hq
    | cont => exact False.elim hq
theorem pe_callW {t : TA} (F : FnR X.prog X.w X.K X.mg X.base (L2.CX X.prog X.w) k f sp) (hr : Room k X.A) (tk : Takes X W) (hg : Gl X x) (hm : X.mg x = some (.ref f)) (hk : PySem.W.keepIn X.K (.ref f) = true) (ha : PA X (a :: es) t) (hdb : (x == ("__debug__" : Str)) = false := by decide)
    (he : starEach (a :: es) X.env = (false, eval a X.env) :: starEach es X.env := by rfl) (hpl : (backTo pos (starEach es X.env)).any (·.1) = false := by rfl) :
    PE X (.Call (.Name x p) (a :: es) [] pos) (fun σ H Q => t σ H fun vs H1 => sp vs H1 Q fun c d H2 => W c d σ H2) := by
  refine ⟨fun pins s σ H Q I h => ?_⟩
  refine wpAny_Call_Name_kw (ld_glob I hg hm ?_ hdb)
  refine PySem.W.callWith_K (h₀ := X.base) I.ok.mod.kin hk (thn (ha.run pos pins s σ H _ I h) fun us s1 ⟨vs, H1, I1, r, q⟩ => ⟨I1.kIn, ?_⟩) he hpl
  exact run_fnW F hr tk I1 r q
theorem pe_callW0 (F : FnR X.prog X.w X.K X.mg X.base (L2.CX X.prog X.w) k f sp) (hr : Room k X.A) (tk : Takes X W) (hg : Gl X x) (hm : X.mg x = some (.ref f)) (hk : PySem.W.keepIn X.K (.ref f) = true) (hdb : (x == ("__debug__" : Str)) = false := by decide) :
    PE X (.Call (.Name x p) [] [] pos) (fun σ H Q => sp [] H Q fun c d H2 => W c d σ H2) := by
  refine ⟨fun pins s σ H Q I h => ?_⟩
  refine wpAny_Call_Name_kw (ld_glob I hg hm ?_ hdb)
  exact PySem.W.callWith_K0 I.kIn hk (run_fnW (us := []) F hr tk I .nil h)
/-- a pure call: one value, nothing raised -/
theorem pv_call {c : Fp} {ds : List D} {d : D} (N : XDn X x k (spP X.K c)) (hr : Room j X.A) (hj : k ≤ j) (ha : PVs X e (a :: es) Γ ds) (hp : c.pre ds) (hq : ∀ b, c.post ds b → b = .st d) (hx : ∀ y fl, ¬ c.exn ds y fl) (hg : Gl X x := by rfl) (hdb : (x == ("__debug__" : Str)) = false := by decide)
    (he : starEach (a :: es) X.env = (false, eval a X.env) :: starEach es X.env := by rfl) (hpl : (backTo pos (starEach es X.env)).any (·.1) = false := by rfl) : PV X e (.Call (.Name x p) (a :: es) [] pos) Γ d :=
  PE.imp (pe_callW N.fn (hr.mono hj) takes0 hg N.at_ N.kp ha hdb he hpl) fun σ H Q ⟨S, w, q⟩ => ⟨S, w, fun S1 H1 vs s1 w1 r1 => ⟨S1, ds, w1.nx.sh, r1, hp, fun S2 H2 v b hb n2 r2 => by
    obtain ⟨w2, s2⟩ := w1.after n2
    rw [hq b hb] at r2
    exact q S2 H2 v (s1.trans s2) w2 r2, fun S2 H2 y fl cls dd hy => (hx y fl hy).elim⟩⟩
/-- .. that makes a new object -/
theorem pn_call {c : Fp} {ds : List D} {o : O} (N : XDn X x k (spP X.K c)) (hr : Room j X.A) (hj : k ≤ j) (ha : PVs X e (a :: es) Γ ds) (hp : c.pre ds) (hq : ∀ b, c.post ds b → b = .ow o) (hx : ∀ y fl, ¬ c.exn ds y fl) (hg : Gl X x := by rfl) (hdb : (x == ("__debug__" : Str)) = false := by decide)
    (he : starEach (a :: es) X.env = (false, eval a X.env) :: starEach es X.env := by rfl) (hpl : (backTo pos (starEach es X.env)).any (·.1) = false := by rfl) : PN X e (.Call (.Name x p) (a :: es) [] pos) Γ o :=
  PE.imp (pe_callW N.fn (hr.mono hj) takes0 hg N.at_ N.kp ha hdb he hpl) fun σ H Q ⟨S, w, q⟩ => ⟨S, w, fun S1 H1 vs s1 w1 r1 => ⟨S1, ds, w1.nx.sh, r1, hp, fun S2 H2 v b hb n2 r2 => by
    obtain ⟨w2, s2⟩ := w1.after n2
    rw [hq b hb] at r2
    obtain ⟨p2, rfl, sp2, ow2, h0⟩ := r2
    exact q S2 H2 p2 (s1.trans s2) w2 sp2 ow2 (s1.hh.free h0), fun S2 H2 y fl cls dd hy => (hx y fl hy).elim⟩⟩
/-- any call of arguments that stand for good; U: the errors taken here -/
theorem ev_call {c : Fp} {Φa : List D → Gam → Prop} {Φ : D → Gam → Prop} {U : Wx} (N : XDn X x k (spP X.K c)) (hr : Room j X.A) (hj : k ≤ j) (tk : Takes X (wX X.K e U)) (ha : AV X e (a :: es) Γ Φa)
    (h : ∀ ds Γ1, Φa ds Γ1 → c.pre ds ∧ (∀ b, c.post ds b → ∃ d, (b = .st d ∨ ∃ o, b = .ow o ∧ o.d = d) ∧ Φ d Γ1) ∧ ∀ y fl, c.exn ds y fl → U y fl Γ1) (hg : Gl X x := by rfl) (hdb : (x == ("__debug__" : Str)) = false := by decide)
    (he : starEach (a :: es) X.env = (false, eval a X.env) :: starEach es X.env := by rfl) (hpl : (backTo pos (starEach es X.env)).any (·.1) = false := by rfl) : EV X e (.Call (.Name x p) (a :: es) [] pos) Γ Φ :=
  PE.imp (pe_callW N.fn (hr.mono hj) tk hg N.at_ N.kp ha hdb he hpl) fun σ H Q ⟨S, w, q⟩ => ⟨S, w, fun S1 H1 vs ds Γ1 hds s1 w1 r1 => by
    obtain ⟨h1, h2, h3⟩ := h ds Γ1 hds
    refine ⟨S1, ds, w1.nx.sh, r1, h1, fun S2 H2 v b hb n2 r2 => ?_, fun S2 H2 y fl cls dd hy n2 r2 => ?_⟩
    · obtain ⟨w2, s2⟩ := w1.after n2
      obtain ⟨d, hd, hΦ⟩ := h2 b hb
      rcases hd with rfl | ⟨o, rfl, rfl⟩
      · exact q S2 H2 v d Γ1 hΦ (s1.trans s2.stp) w2 r2
      · obtain ⟨p2, rfl, sp2, ow2, h0⟩ := r2
        obtain ⟨S3, s3, w3, r3⟩ := tO_frz (s1.trans s2.stp) w w2 sp2 ow2 (by
          cases z : H p2 with
          | none => rfl
          | some u => exact absurd h0 (s1.al p2 (by rw [z]; exact fun t => nomatch t)))
        exact q S3 H2 _ _ Γ1 hΦ s3 w3 r3
    · obtain ⟨w2, _⟩ := w1.after n2
      exact ⟨S2, y, fl, Γ1, h3 y fl hy, w2, eok_up w1.nx r2⟩⟩
theorem eo_call {c : Fp} {Φa : List D → Gam → Prop} {Φ : O → Gam → Prop} {U : Wx} (N : XDn X x k (spP X.K c)) (hr : Room j X.A) (hj : k ≤ j) (tk : Takes X (wX X.K e U)) (ha : AV X e (a :: es) Γ Φa)
    (h : ∀ ds Γ1, Φa ds Γ1 → c.pre ds ∧ (∀ b, c.post ds b → ∃ o, b = .ow o ∧ Φ o Γ1) ∧ ∀ y fl, c.exn ds y fl → U y fl Γ1) (hg : Gl X x := by rfl) (hdb : (x == ("__debug__" : Str)) = false := by decide)
    (he : starEach (a :: es) X.env = (false, eval a X.env) :: starEach es X.env := by rfl) (hpl : (backTo pos (starEach es X.env)).any (·.1) = false := by rfl) : EO X e (.Call (.Name x p) (a :: es) [] pos) Γ Φ :=
  PE.imp (pe_callW N.fn (hr.mono hj) tk hg N.at_ N.kp ha hdb he hpl) fun σ H Q ⟨S, w, q⟩ => ⟨S, w, fun S1 H1 vs ds Γ1 hds s1 w1 r1 => by
    obtain ⟨h1, h2, h3⟩ := h ds Γ1 hds
    refine ⟨S1, ds, w1.nx.sh, r1, h1, fun S2 H2 v b hb n2 r2 => ?_, fun S2 H2 y fl cls dd hy n2 r2 => ?_⟩
    · obtain ⟨w2, s2⟩ := w1.after n2
      obtain ⟨o, rfl, hΦ⟩ := h2 b hb
      obtain ⟨p2, rfl, sp2, ow2, h0⟩ := r2
      exact q S2 H2 p2 o Γ1 hΦ (s1.trans s2.stp) w2 sp2 ow2 (by
          cases z : H p2 with
          | none => rfl
          | some u => exact absurd h0 (s1.al p2 (by rw [z]; exact fun t => nomatch t)))
    · obtain ⟨w2, _⟩ := w1.after n2
      exact ⟨S2, y, fl, Γ1, h3 y fl hy, w2, eok_up w1.nx r2⟩⟩
/-- f(own, ..): the first argument is the object in slot i, changed by the call -/
theorem tCallO {K : Fg} {c : Fo} {n : Str} {np : Pos} {Φa : List D → Gam → Prop} {U : Wx} {i : Nat} {o0 : O} {t : TE} (h0 : Γ[i]? = some (some (.ow o0)))
    {Ψ : O → List D → Gam → Prop} (h : ∀ ds Γ1, Φa ds Γ1 → ∃ o, Γ1[i]? = some (some (.ow o)) ∧ c.pre o ds ∧ (∀ y fl o', c.exn o ds y fl o' → U y fl (Γ1.set i (some (.ow o')))))
    {σ : L2.St} {H : Hp} {Q : VK} (hq : ∃ S, Wd K e S H σ Γ ∧ ∀ S1 H1 ds Γ1 o S2 H2 v b o', Φa ds Γ1 → Γ1[i]? = some (some (.ow o)) → c.post o ds b o' → Stp σ Γ S H (Γ1.set i (some (.ow o'))) S2 H2 → Wd K e S2 H2 σ (Γ1.set i (some (.ow o'))) → (∃ p, ROk K ⟨S1, H1, some p⟩ S2 H2 v b ∧ ∀ q, H1 q = none → H q = none) → Q v H2) :
    tCons (tVar i) (tA K e Γ Φa) σ H fun vs H1 => spO K c vs H1 Q fun cl d H2 => wX K e U cl d σ H2 := by
  obtain ⟨S, w, q⟩ := hq
  obtain ⟨v, h1, p, h2, sp, ow, hp⟩ := w.sl.at_ i _ h0
  subst h2
  refine ⟨_, h1, S, w, fun S1 H1 vs ds Γ1 hds s1 w1 r1 => ?_⟩
  obtain ⟨o, g0, g1, g2⟩ := h ds Γ1 hds
  obtain ⟨v', h3, p', h4, sp1, ow1, hp1⟩ := w1.sl.at_ i _ g0
  rw [h1] at h3
  cases h3
  cases h4
  refine ⟨S1, p, vs, o, ds, rfl, w1.nx.sh, sp1, ow1, r1, g1, fun S2 H2 v b o' hb n2 ow2 r2 => ?_, fun S2 H2 y fl cls dd o' hy n2 ow2 r2 => ?_⟩
  · obtain ⟨w2, s2⟩ := w1.afterO g0 h1 n2 ow2
    exact q S1 H1 ds Γ1 o S2 H2 v b o' hds g0 hb (s1.trans s2) w2 ⟨p, r2, fun c hc => by
      cases z : H c with
      | none => rfl
      | some u => exact absurd hc (s1.al c (by rw [z]; exact fun t => nomatch t))⟩
  · obtain ⟨w2, s2⟩ := w1.afterO g0 h1 n2 ow2
    exact ⟨S2, y, fl, _, g2 y fl o' hy, w2, eok_up w1.nx r2⟩
theorem ev_callO {c : Fo} {n : Str} {np : Pos} {Φa : List D → Gam → Prop} {Φ : D → Gam → Prop} {U : Wx} (i : Nat) {o0 : O} (N : XDn X x k (spO X.K c)) (hr : Room j X.A) (hj : k ≤ j) (tk : Takes X (wX X.K e U)) (h0 : Γ[i]? = some (some (.ow o0))) (ha : AV X e es Γ Φa)
    (h : ∀ ds Γ1, Φa ds Γ1 → ∃ o, Γ1[i]? = some (some (.ow o)) ∧ c.pre o ds ∧ (∀ b o', c.post o ds b o' → ∃ d, (b = .st d ∨ ∃ o, b = .ow o ∧ o.d = d) ∧ Φ d (Γ1.set i (some (.ow o')))) ∧ ∀ y fl o', c.exn o ds y fl o' → U y fl (Γ1.set i (some (.ow o'))))
    (hN : X.N[i]? = some n := by rfl) (hv : Vis X.env.scope n := by first | exact Or.inl rfl | exact Or.inr (Or.inl rfl) | exact Or.inr (Or.inr rfl)) (hg : Gl X x := by rfl) (hdb : (x == ("__debug__" : Str)) = false := by decide)
    (he : starEach (.Name n np :: es) X.env = (false, eval (.Name n np) X.env) :: starEach es X.env := by rfl) (hpl : (backTo pos (starEach es X.env)).any (·.1) = false := by rfl) (h1 : (n == ("__debug__" : Str)) = false := by decide) (h2 : (n == ("__classdict__" : Str)) = false := by decide) :
    EV X e (.Call (.Name x p) (.Name n np :: es) [] pos) Γ Φ :=
  PE.imp (pe_callW N.fn (hr.mono hj) tk hg N.at_ N.kp (pa_cons (pe_var hN hv h1 h2) ha he) hdb he hpl) fun σ H Q ⟨S, w, q⟩ => tCallO (n := n) (np := np) (t := tC .non) (Ψ := fun _ _ _ => True) h0 (fun ds Γ1 hds => let ⟨o, g1, g2, _, g4⟩ := h ds Γ1 hds; ⟨o, g1, g2, g4⟩) ⟨S, w, fun S1 H1 ds Γ1 o S2 H2 v b o' hds g0 hb s2 w2 ⟨pp, r2, fr⟩ => by
    obtain ⟨o2, g1, _, g3, _⟩ := h ds Γ1 hds
    rw [g0] at g1
    cases g1
    obtain ⟨d, hd, hΦ⟩ := g3 b o' hb
    rcases hd with rfl | ⟨o3, rfl, rfl⟩
    · exact q S2 H2 v d _ hΦ s2 w2 r2
    · obtain ⟨p2, rfl, sp2, ow2, z0⟩ := r2
      obtain ⟨S3, s3, w3, r3⟩ := tO_frz s2 w w2 sp2 ow2 (fr p2 z0)
      exact q S3 H2 _ _ _ hΦ s3 w3 r3⟩
theorem eo_callO {c : Fo} {n : Str} {np : Pos} {Φa : List D → Gam → Prop} {Φ : O → Gam → Prop} {U : Wx} (i : Nat) {o0 : O} (N : XDn X x k (spO X.K c)) (hr : Room j X.A) (hj : k ≤ j) (tk : Takes X (wX X.K e U)) (h0 : Γ[i]? = some (some (.ow o0))) (ha : AV X e es Γ Φa)
    (h : ∀ ds Γ1, Φa ds Γ1 → ∃ o, Γ1[i]? = some (some (.ow o)) ∧ c.pre o ds ∧ (∀ b o', c.post o ds b o' → ∃ o2, b = .ow o2 ∧ Φ o2 (Γ1.set i (some (.ow o')))) ∧ ∀ y fl o', c.exn o ds y fl o' → U y fl (Γ1.set i (some (.ow o'))))
    (hN : X.N[i]? = some n := by rfl) (hv : Vis X.env.scope n := by first | exact Or.inl rfl | exact Or.inr (Or.inl rfl) | exact Or.inr (Or.inr rfl)) (hg : Gl X x := by rfl) (hdb : (x == ("__debug__" : Str)) = false := by decide)
    (he : starEach (.Name n np :: es) X.env = (false, eval (.Name n np) X.env) :: starEach es X.env := by rfl) (hpl : (backTo pos (starEach es X.env)).any (·.1) = false := by rfl) (h1 : (n == ("__debug__" : Str)) = false := by decide) (h2 : (n == ("__classdict__" : Str)) = false := by decide) :
    EO X e (.Call (.Name x p) (.Name n np :: es) [] pos) Γ Φ :=
  PE.imp (pe_callW N.fn (hr.mono hj) tk hg N.at_ N.kp (pa_cons (pe_var hN hv h1 h2) ha he) hdb he hpl) fun σ H Q ⟨S, w, q⟩ => tCallO (n := n) (np := np) (t := tC .non) (Ψ := fun _ _ _ => True) h0 (fun ds Γ1 hds => let ⟨o, g1, g2, _, g4⟩ := h ds Γ1 hds; ⟨o, g1, g2, g4⟩) ⟨S, w, fun S1 H1 ds Γ1 o S2 H2 v b o' hds g0 hb s2 w2 ⟨pp, r2, fr⟩ => by
    obtain ⟨o2, g1, _, g3, _⟩ := h ds Γ1 hds
    rw [g0] at g1
    cases g1
    obtain ⟨o3, rfl, hΦ⟩ := g3 b o' hb
    obtain ⟨p2, rfl, sp2, ow2, z0⟩ := r2
    exact q S2 H2 p2 o3 _ hΦ s2 w2 sp2 ow2 (fr p2 z0)⟩
end calls

/-! ### defs -/
section defs
variable {P : Program} {w : World} {K : Fg} {mg : Str → Option Value} {base : Heap} {x qual : Str} {params : Arguments} {body : List Stmt} {scope : Scope} {dvs : List V} {f : Addr} {fd : FuncData}
def gam0 (N : List Str) (bs : List B) : Gam := bs.map some ++ List.replicate (N.length - bs.length) none
theorem start_sl {K : Fg} {S H : Hp} {N : List Str} {vs : List V} {ds : List D} (r : RpL K S vs ds) : Sl K ⟨S, H, none⟩ S H (L2.start N vs) (gam0 N (ds.map .st)) := by
  have hl := r.length
  refine ⟨by unfold L2.start gam0; simp [hl], fun i b q => ?_, fun i j o o' a q => ?_, fun a z => nomatch z⟩
  · unfold gam0 at q
    by_cases hi : i < ds.length
    · rw [List.getElem?_append_left (by simpa using hi), List.getElem?_map, List.getElem?_map] at q
      cases z : ds[i]? with
      | none => rw [z] at q; cases q
      | some d =>
        rw [z] at q
        cases q
        obtain ⟨v, h1, h2⟩ := r.get z
        exact ⟨v, by unfold L2.start; rw [List.getElem?_append_left (by rw [List.length_map, hl]; exact hi), List.getElem?_map, h1]; rfl, h2⟩
    · rw [List.getElem?_append_right (by simp; omega), List.getElem?_replicate] at q
      split at q <;> cases q
  · exfalso
    unfold gam0 at q
    by_cases hi : i < ds.length
    · rw [List.getElem?_append_left (by simpa using hi), List.getElem?_map, List.getElem?_map] at q
      cases z : ds[i]? with
      | none => rw [z] at q; cases q
      | some d => rw [z] at q; cases q
    · rw [List.getElem?_append_right (by simp; omega), List.getElem?_replicate] at q
      split at q <;> cases q
/-- THE RULE for a def of arguments that stand for good -/
theorem fp_ok {N ps : List Str} {k : Nat} {c : Fp} (F : FunD K x qual params body scope dvs [] f fd) (S : FnScope N ps scope) (hlen : ∀ ds, c.pre ds → ds.length = ps.length)
    (hb : ∀ (cdv : Value) (A : Around) (outer : List Env) (s : Shared) (e : Ent) (E : XK) (ds : List D), e.own = none → c.pre ds → Room k (A.deeper (PyProof.Rows.envOfC qual scope s.heap.objs.size f cdv)) →
      Takes (cxOf (L2.CX P w) P w K mg base N qual scope f cdv A outer s e.H0 E) (wX K e fun y fl _ => c.exn ds y fl) →
      BL (cxOf (L2.CX P w) P w K mg base N qual scope f cdv A outer s e.H0 E) e body (gam0 N (ds.map .st)) { nx := fun _ => c.post ds (.st .non), rt := fun b _ => c.post ds b }) :
    FnOk P w K mg base (L2.CX P w) (k + 1) f fd ps (spP K c) := by
  refine F.ok S (fun vs H Q E ⟨S0, ds, _, r, hp, _⟩ => by rw [r.length]; exact hlen ds hp) (fun cdv A outer s H vs Q E hr ⟨S0, ds, sh, r, hp, hq, hE⟩ => ?_)
  have tk : Takes (cxOf (L2.CX P w) P w K mg base N qual scope f cdv A outer s H E) (wX K ⟨S0, H, none⟩ fun y fl _ => c.exn ds y fl) :=
    (takes_of (X := cxOf (L2.CX P w) P w K mg base N qual scope f cdv A outer s H E) (E := E) rfl rfl rfl rfl).imp fun cl d σ H' ⟨S', y, fl, Γ, hy, wd, he⟩ => hE S' H' y fl cl d hy wd.nx he
  refine ⟨_, hb cdv A outer s ⟨S0, H, none⟩ E ds rfl hp hr tk, S0, ⟨⟨Same.refl _, sh, fun _ _ z _ => z, fun _ z => z, fun _ _ => rfl⟩, start_sl r⟩, fun S' σ' H' Γ' q s' w' => ?_, fun _ _ _ _ z => z.elim, fun _ _ _ _ z => z.elim, fun S' σ' H' v b Γ' q s' w' ok => hq S' H' v b q w'.nx ok⟩
  exact hq S' H' .non (.st .non) q w'.nx .non
theorem start_slO {K : Fg} {S H : Hp} {N : List Str} {p : Addr} {o : O} {vs : List V} {ds : List D} (sp : S p = none) (ow : Own K S H p o) (r : RpL K S vs ds) : Sl K ⟨S, H, some p⟩ S H (L2.start N (.ref p :: vs)) (gam0 N (.ow o :: ds.map .st)) := by
  have hl := r.length
  have key : ∀ (i : Nat) (b : B), (gam0 N (.ow o :: ds.map .st))[i]? = some (some b) → (i = 0 ∧ b = .ow o) ∨ ∃ d, ds[i - 1]? = some d ∧ b = .st d ∧ 0 < i := fun i b q => by
    unfold gam0 at q
    cases i with
    | zero =>
      have q' : some (some (B.ow o)) = some (some b) := q
      exact .inl ⟨rfl, (Option.some.inj (Option.some.inj q')).symm⟩
    | succ i =>
      refine .inr ?_
      rw [List.map_cons, List.cons_append, List.getElem?_cons_succ] at q
      by_cases hi : i < ds.length
      · rw [List.getElem?_append_left (by simpa using hi), List.getElem?_map, List.getElem?_map] at q
        cases z : ds[i]? with
        | none => rw [z] at q; cases q
        | some d => rw [z] at q; cases q; exact ⟨d, z, rfl, Nat.succ_pos _⟩
      · rw [List.getElem?_append_right (by simp; omega), List.getElem?_replicate] at q
        split at q <;> cases q
  refine ⟨by unfold L2.start gam0; simp [hl], fun i b q => ?_, fun i j o1 o2 a q1 q2 _ _ => ?_, fun a z => ?_⟩
  · rcases key i b q with ⟨rfl, rfl⟩ | ⟨d, hd, rfl, hi⟩
    · exact ⟨.ref p, rfl, p, rfl, sp, ow, .inr rfl⟩
    · obtain ⟨v, h1, h2⟩ := r.get hd
      refine ⟨v, ?_, h2⟩
      cases i with
      | zero => cases hi
      | succ i =>
        unfold L2.start
        rw [List.map_cons, List.cons_append, List.getElem?_cons_succ, List.getElem?_append_left (by rw [List.length_map]; exact (List.getElem?_eq_some_iff.mp h1).1), List.getElem?_map]
        have h1' : vs[i]? = some v := h1
        rw [h1']
        rfl
  · rcases key i _ q1 with ⟨rfl, _⟩ | ⟨d, _, h, _⟩
    · rcases key j _ q2 with ⟨rfl, _⟩ | ⟨d, _, h, _⟩
      · rfl
      · cases h
    · cases h
  · cases z
    exact ⟨rfl, o, rfl⟩
/-- .. for a def that changes its first argument -/
theorem fo_ok {N ps : List Str} {k : Nat} {c : Fo} (F : FunD K x qual params body scope dvs [] f fd) (S : FnScope N ps scope) (hlen : ∀ o ds, c.pre o ds → ds.length + 1 = ps.length)
    (hb : ∀ (cdv : Value) (A : Around) (outer : List Env) (s : Shared) (e : Ent) (E : XK) (o : O) (ds : List D), c.pre o ds → Room k (A.deeper (PyProof.Rows.envOfC qual scope s.heap.objs.size f cdv)) →
      Takes (cxOf (L2.CX P w) P w K mg base N qual scope f cdv A outer s e.H0 E) (wX K e fun y fl Γ => ∃ o', Γ[0]? = some (some (.ow o')) ∧ c.exn o ds y fl o') →
      BL (cxOf (L2.CX P w) P w K mg base N qual scope f cdv A outer s e.H0 E) e body (gam0 N (.ow o :: ds.map .st)) { nx := fun Γ => ∃ o', Γ[0]? = some (some (.ow o')) ∧ c.post o ds (.st .non) o', rt := fun b Γ => ∃ o', Γ[0]? = some (some (.ow o')) ∧ c.post o ds b o' }) :
    FnOk P w K mg base (L2.CX P w) (k + 1) f fd ps (spO K c) := by
  refine F.ok S (fun vs H Q E ⟨S0, p, vs', o, ds, ev, _, _, _, r, hp, _⟩ => by rw [ev, List.length_cons, r.length]; exact hlen o ds hp) (fun cdv A outer s H vs Q E hr ⟨S0, p, vs', o, ds, ev, sh, sp, ow, r, hp, hq, hE⟩ => ?_)
  subst ev
  have ownAt : ∀ {S' H' : Hp} {σ' : L2.St} {Γ : Gam} {o' : O}, Wd K ⟨S0, H, some p⟩ S' H' σ' Γ → Γ[0]? = some (some (.ow o')) → Own K S' H' p o' := fun {S' H' σ' Γ o'} wd h => by
    obtain ⟨h1, _⟩ := wd.sl.z p rfl
    obtain ⟨v, h2, a, h3, _, h4, _⟩ := wd.sl.at_ 0 _ h
    rw [h1] at h2
    cases h2
    cases h3
    exact h4
  have tk : Takes (cxOf (L2.CX P w) P w K mg base N qual scope f cdv A outer s H E) (wX K ⟨S0, H, some p⟩ fun y fl Γ => ∃ o', Γ[0]? = some (some (.ow o')) ∧ c.exn o ds y fl o') :=
    (takes_of (X := cxOf (L2.CX P w) P w K mg base N qual scope f cdv A outer s H E) (E := E) rfl rfl rfl rfl).imp fun cl d σ H' ⟨S', y, fl, Γ, ⟨o', h1, hy⟩, wd, he⟩ => hE S' H' y fl cl d o' hy wd.nx (ownAt wd h1) he
  refine ⟨_, hb cdv A outer s ⟨S0, H, some p⟩ E o ds hp hr tk, S0, ⟨⟨Same.refl _, sh, fun _ _ z _ => z, fun _ z => z, fun _ _ => rfl⟩, start_slO sp ow r⟩, fun S' σ' H' Γ' ⟨o', h1, q⟩ s' w' => ?_, fun _ _ _ _ z => z.elim, fun _ _ _ _ z => z.elim, fun S' σ' H' v b Γ' ⟨o', h1, q⟩ s' w' ok => ?_⟩
  · exact hq S' H' .non (.st .non) o' q w'.nx (ownAt w' h1) .non
  · exact hq S' H' v b o' q w'.nx (ownAt w' h1) ok
/-- by its name -/
theorem dn_of {k : Nat} {sp : Sp} {ps : List Str} (F : FunD K x qual params body scope [] [] (He.ga K x) fd) (h : FnOk P w K mg base (L2.CX P w) k (He.ga K x) fd ps sp) (hm : mg x = some (.ref (He.ga K x)))
    (hb : ∀ (kV doc pm : Value) (an : Option Addr) (cdv ct : Value) (us : List Value), us.length = ps.length → bindArgs (PySem.W.fnOf x qual params body scope .none kV doc pm an cdv ct) ⟨us, []⟩ = pure (ps.zip us)) : Dn P w K mg base x k sp :=
  ⟨hm, F.kp, (h.raw (F.bindsN hb) .nil).imp fun vs H Q E z => by rw [List.append_nil]; exact z⟩
end defs
end Kf
end
section
set_option maxRecDepth 100000
set_option maxHeartbeats 4000000
/-! KfG: stores, built-ins on data, dicts. -/
namespace Kf
open PySem L2

section stores
variable {X : Cx} {e : Ent} {Γ : Gam} {x y : Expr} {pos : Pos} {k : Kn} {rest : List Stmt}
/-- x[j] = v, x a list of one's own -/
theorem bl_sub {n : Str} {np sp : Pos} {Φ : D → Gam → Prop} (i : Nat) (he : EV X e x Γ Φ) (h : ∀ d Γ', Φ d Γ' → ∃ l j m, Γ'[i]? = some (some (.ow (.lst l))) ∧ PV X e y Γ' (.int j) ∧ ixN l.length j = some m ∧ BL X e rest (Γ'.set i (some (.ow (.lst (l.set m d))))) k)
    (hN : X.N[i]? = some n := by rfl) (hv : Vis X.env.scope n := by first | exact Or.inl rfl | exact Or.inr (Or.inl rfl) | exact Or.inr (Or.inr rfl)) (h1 : (n == ("__debug__" : Str)) = false := by decide) (h2 : (n == ("__classdict__" : Str)) = false := by decide)
    (hpe : ∀ {te ti : TE}, PE X x te → PE X y ti → PS X (.Assign [.Subscript (.Name n np) y sp] x pos) (tAsg te (gSub (tVar i) ti rSetL)) := by exact fun a b => ps_asg a (pg_sub (pv _) b set_list)) :
    BL X e (.Assign [.Subscript (.Name n np) y sp] x pos :: rest) Γ k := by
  have hy : PE X y (fun σ H Q => ∃ d Γ' j, Φ d Γ' ∧ PV X e y Γ' (.int j) ∧ tP X.K e Γ' (.int j) σ H Q) := ⟨fun pins s σ H Q I ⟨d, Γ', j, _, hp, q⟩ => hp.run pins s σ H Q I q⟩
  refine bl_cons (fun Γ2 => ∃ (d : D) (Γ' : Gam) (l : List D) (m : Nat), Φ d Γ' ∧ Γ2 = Γ'.set i (some (.ow (.lst (l.set m d)))) ∧ BL X e rest Γ2 k) (PS.imp (hpe he hy) fun D σ H ⟨S, w, nx, _⟩ => ⟨S, w, fun S1 H1 v d Γ1 hd s1 w1 r1 => ?_⟩) fun Γ2 ⟨_, _, _, _, _, _, z⟩ => z
  obtain ⟨l, j, m, g1, g2, g3, g4⟩ := h d Γ1 hd
  obtain ⟨v0, h3, p, h4, sp1, ow1, hp⟩ := w1.sl.at_ i _ g1
  subst h4
  obtain ⟨xs, h5, h6⟩ := ow1
  refine ⟨_, h3, d, Γ1, j, hd, g2, S1, w1, fun S2 H2 v2 s2 w2 r2 => ?_⟩
  cases r2
  have h5' := s2.hh _ _ h5
  have h6' := h6.mono s2.ss
  exact ⟨p, xs, j, m, rfl, rfl, h5', by rw [h6.length]; exact g3, nx S2 σ _ _ ⟨d, Γ1, l, m, hd, rfl, g4⟩ (s1.ss.trans s2.ss) (w2.put g1 h3 ⟨_, upd_same, RpL.set (r1.mono s2.ss) m h6'⟩)⟩
theorem bl_subP {n : Str} {np sp : Pos} {d : D} {l : List D} {j : Int} {m : Nat} (i : Nat) (he : PV X e x Γ d) (h0 : Γ[i]? = some (some (.ow (.lst l)))) (hi : PV X e y Γ (.int j)) (hm : ixN l.length j = some m) (hr : BL X e rest (Γ.set i (some (.ow (.lst (l.set m d))))) k)
    (hN : X.N[i]? = some n := by rfl) (hv : Vis X.env.scope n := by first | exact Or.inl rfl | exact Or.inr (Or.inl rfl) | exact Or.inr (Or.inr rfl)) (h1 : (n == ("__debug__" : Str)) = false := by decide) (h2 : (n == ("__classdict__" : Str)) = false := by decide)
    (hpe : ∀ {te ti : TE}, PE X x te → PE X y ti → PS X (.Assign [.Subscript (.Name n np) y sp] x pos) (tAsg te (gSub (tVar i) ti rSetL)) := by exact fun a b => ps_asg a (pg_sub (pv _) b set_list)) :
    BL X e (.Assign [.Subscript (.Name n np) y sp] x pos :: rest) Γ k :=
  bl_sub i (pv_ev he) (fun d' Γ' ⟨q1, q2⟩ => by subst q1 q2; exact ⟨l, j, m, h0, hi, hm, hr⟩) hN hv h1 h2 hpe
end stores

section mixed
variable {X : Cx} {e : Ent} {Γ : Gam} {a b : Expr} {d1 : D} {Φ : D → Gam → Prop} {Φb : D → Gam → Prop} {pos : Pos}
theorem ev_s1 {r : R2} (ho : IxR X r) (ha : PV X e a Γ d1) (hb : EV X e b Γ Φb) (k : ∀ d2 Γ2, Φb d2 Γ2 → ∃ d, Sc X.K r d1 d2 d ∧ Φ d Γ2) (hx : PlainIx b := by exact fun _ _ => rfl) : EV X e (.Subscript a b pos) Γ Φ :=
  ev_sub (Φb := fun _ _ => Φb) ho (pv_ev ha) (fun _ _ ⟨_, h⟩ => by subst h; exact hb) (fun _ _ d2 Γ2 ⟨h1, _⟩ h => by subst h1; exact k d2 Γ2 h) hx
theorem ev_b1 {op : Operator} {r : R2} (ho : OpR X (binaryOp op) r) (ha : PV X e a Γ d1) (hb : EV X e b Γ Φb) (k : ∀ d2 Γ2, Φb d2 Γ2 → ∃ d, Sc X.K r d1 d2 d ∧ Φ d Γ2) : EV X e (.BinOp a op b pos) Γ Φ :=
  ev_bin (Φb := fun _ _ => Φb) ho (pv_ev ha) (fun _ _ ⟨_, h⟩ => by subst h; exact hb) (fun _ _ d2 Γ2 ⟨h1, _⟩ h => by subst h1; exact k d2 Γ2 h)
/-- the left one impure, the right one pure -/
theorem tv_c1 {op : CmpOp} {r : R2} {Ψ : Bool → Gam → Prop} {g : D → Gam → D} (ho : OpR X (compareOp op) r) (ha : EV X e a Γ Φb) (hb : ∀ d Γ1, Φb d Γ1 → PV X e b Γ1 (g d Γ1)) (k : ∀ d Γ1, Φb d Γ1 → ∃ c, Sc X.K r d (g d Γ1) (.bl c) ∧ Ψ c Γ1)
    (hm : behindInMarks op b = false := by first | exact nomark _ | rfl) : TV X e (.Compare a [op] [b] pos) Γ Ψ :=
  tv_cmp (Φb := fun d Γ1 => Is (g d Γ1) Γ1) ho ha (fun d Γ1 h => pv_ev (hb d Γ1 h)) (fun d Γ1 d2 Γ2 h ⟨h1, h2⟩ => by subst h1 h2; exact k d _ h) hm
/-- one argument -/
theorem av_one {Φa : D → Gam → Prop} {Ψ : List D → Gam → Prop} (ha : EV X e a Γ Φa) (k : ∀ d Γ1, Φa d Γ1 → Ψ [d] Γ1) (hs : starEach [a] X.env = (false, eval a X.env) :: starEach [] X.env := by rfl) : AV X e [a] Γ Ψ :=
  av_cons (Φb := fun _ Γ1 => Is [] Γ1) ha (fun d Γ1 _ => pvs_av pvs_nil) (fun d Γ1 ds Γ2 h ⟨h1, h2⟩ => by subst h1 h2; exact k d _ h) hs
theorem pvs_one (ha : PV X e a Γ d1) (hs : starEach [a] X.env = (false, eval a X.env) :: starEach [] X.env := by rfl) : PVs X e [a] Γ [d1] := pvs_cons ha pvs_nil hs
end mixed

/-! ### built-ins on data -/
section scl
variable {X : Cx}
theorem scl_lenL {l : List D} : ScL X.K (fun xs H Q => ∃ p ys, xs = [.ref p] ∧ (SqL X.K H p ys ∨ SqT X.K H p ys) ∧ Q (.int ys.length) H) [.lst l] (.int (l.length : Int)) := fun S H vs Q s r q => by
  cases r with
  | cons r1 r2 =>
    cases r2
    cases r1 with
    | lst h1 h2 => exact ⟨_, _, rfl, .inl (rdq (same_rd s h1)), q _ (by rw [h2.length]; exact .int _)⟩
theorem scl_lenT {l : List D} : ScL X.K (fun xs H Q => ∃ p ys, xs = [.ref p] ∧ (SqL X.K H p ys ∨ SqT X.K H p ys) ∧ Q (.int ys.length) H) [.tup l] (.int (l.length : Int)) := fun S H vs Q s r q => by
  cases r with
  | cons r1 r2 =>
    cases r2
    cases r1 with
    | tup h1 h2 => exact ⟨_, _, rfl, .inr (same_sqT s h1), q _ (by rw [h2.length]; exact .int _)⟩
theorem scl_lenS {z : Str} (hz : z.length ≤ sizeLine) : ScL X.K (fun xs H Q => ∃ x n, xs = [x] ∧ LenV X.K x H n ∧ Q (.int n) H) [.str z] (.int (z.length : Int)) := fun S H vs Q s r q => by
  cases r with
  | cons r1 r2 =>
    cases r2
    cases r1
    exact ⟨_, z.length, rfl, ⟨hz, rfl⟩, q _ (.int _)⟩
theorem scl_int {i : Int} : ScL X.K (fun xs H Q => (∃ i, xs = [.int i] ∧ Q (.int i) H) ∨ ∃ k, xs = [.bl k] ∧ Q (.int (if k then 1 else 0)) H) [.int i] (.int i) := fun S H vs Q s r q => by
  cases r with
  | cons r1 r2 =>
    cases r2
    cases r1
    exact .inl ⟨_, rfl, q _ (.int _)⟩
theorem scl_abs {i : Int} : ScL X.K (fun xs H Q => ∃ i, xs = [.int i] ∧ Q (.int (if i < 0 then -i else i)) H) [.int i] (.int (if i < 0 then -i else i)) := fun S H vs Q s r q => by
  cases r with
  | cons r1 r2 =>
    cases r2
    cases r1
    exact ⟨_, rfl, q _ (.int _)⟩
theorem scl_str {i : Int} (h : i.natAbs.log2 < 1920) : ScL X.K (fun xs H Q => ∃ i, xs = [.int i] ∧ i.natAbs.log2 < 1920 ∧ Q (.str (toString i)) H) [.int i] (.str (toString i)) := fun S H vs Q s r q => by
  cases r with
  | cons r1 r2 =>
    cases r2
    cases r1
    exact ⟨_, rfl, h, q _ (.str _)⟩
variable {e : Ent} {Γ : Gam} {x : Expr} {pos p : Pos}
theorem pv_lenL {l : List D} (h : PV X e x Γ (.lst l)) (hm : X.mg "len" = none) (hg : Gl X "len" := by rfl) (he : starEach [x] X.env = (false, eval x X.env) :: starEach [] X.env := by rfl)
    (hpl : (backTo pos (starEach [] X.env)).any (·.1) = false := by rfl) : PV X e (.Call (.Name "len" p) [x] [] pos) Γ (.int (l.length : Int)) := pv_cb call_len_seq hm PySem.boot_len (pvs_cons h pvs_nil he) scl_lenL hg (by decide) (by decide) he hpl
theorem pv_lenT {l : List D} (h : PV X e x Γ (.tup l)) (hm : X.mg "len" = none) (hg : Gl X "len" := by rfl) (he : starEach [x] X.env = (false, eval x X.env) :: starEach [] X.env := by rfl)
    (hpl : (backTo pos (starEach [] X.env)).any (·.1) = false := by rfl) : PV X e (.Call (.Name "len" p) [x] [] pos) Γ (.int (l.length : Int)) := pv_cb call_len_seq hm PySem.boot_len (pvs_cons h pvs_nil he) scl_lenT hg (by decide) (by decide) he hpl
theorem pv_lenS {z : Str} (h : PV X e x Γ (.str z)) (hz : z.length ≤ sizeLine) (hm : X.mg "len" = none) (hg : Gl X "len" := by rfl) (he : starEach [x] X.env = (false, eval x X.env) :: starEach [] X.env := by rfl)
    (hpl : (backTo pos (starEach [] X.env)).any (·.1) = false := by rfl) : PV X e (.Call (.Name "len" p) [x] [] pos) Γ (.int (z.length : Int)) := pv_cb call_len hm PySem.boot_len (pvs_cons h pvs_nil he) (scl_lenS hz) hg (by decide) (by decide) he hpl
theorem pv_intI {i : Int} (h : PV X e x Γ (.int i)) (hm : X.mg "int" = none) (hg : Gl X "int" := by rfl) (he : starEach [x] X.env = (false, eval x X.env) :: starEach [] X.env := by rfl)
    (hpl : (backTo pos (starEach [] X.env)).any (·.1) = false := by rfl) : PV X e (.Call (.Name "int" p) [x] [] pos) Γ (.int i) := pv_ct call_int1 hm (by decide +kernel) (pvs_cons h pvs_nil he) scl_int hg (by decide) (by decide) he hpl
theorem pv_absI {i : Int} (h : PV X e x Γ (.int i)) (hm : X.mg "abs" = none) (hg : Gl X "abs" := by rfl) (he : starEach [x] X.env = (false, eval x X.env) :: starEach [] X.env := by rfl)
    (hpl : (backTo pos (starEach [] X.env)).any (·.1) = false := by rfl) : PV X e (.Call (.Name "abs" p) [x] [] pos) Γ (.int (if i < 0 then -i else i)) := pv_cb call_abs hm (by decide +kernel) (pvs_cons h pvs_nil he) scl_abs hg (by decide) (by decide) he hpl
theorem pv_strI {i : Int} (h : PV X e x Γ (.int i)) (hi : i.natAbs.log2 < 1920) (hm : X.mg "str" = none) (hg : Gl X "str" := by rfl) (he : starEach [x] X.env = (false, eval x X.env) :: starEach [] X.env := by rfl)
    (hpl : (backTo pos (starEach [] X.env)).any (·.1) = false := by rfl) : PV X e (.Call (.Name "str" p) [x] [] pos) Γ (.str (toString i)) := pv_ct call_str_int hm (by decide +kernel) (pvs_cons h pvs_nil he) (scl_str hi) hg (by decide) (by decide) he hpl
end scl

/-! ### operators on data, further -/
section sc
variable {K : Fg}
theorem sc_modN {i j : Int} (h : j ≠ 0) : Sc K (rI (fun _ j => j ≠ 0) fun i j => .int (i.fmod j)) (.int i) (.int j) (.int (i.fmod j)) := sc_intC (fun _ _ _ => .int _) h
theorem sc_divN {i j : Int} (h : j ≠ 0) (h2 : j.natAbs < 1073741824) : Sc K (rI CDivN fun i j => .int (i.fdiv j)) (.int i) (.int j) (.int (i.fdiv j)) := sc_intC (fun _ _ _ => .int _) ⟨h, h2⟩
theorem sc_mulL {i j : Int} (h : -(2 ^ 64) < i ∧ i < 2 ^ 64) : Sc K (rI CMul fun i j => .int (i * j)) (.int i) (.int j) (.int (i * j)) := sc_intC (fun _ _ _ => .int _) (.inl h)
theorem sc_mulR {i j : Int} (h : -(2 ^ 64) < j ∧ j < 2 ^ 64) : Sc K (rI CMul fun i j => .int (i * j)) (.int i) (.int j) (.int (i * j)) := sc_intC (fun _ _ _ => .int _) (.inr h)
theorem sc_pow {i j : Int} (h : 0 ≤ j ∧ j ≤ 1000000 ∧ i.natAbs < 2 ^ 64) : Sc K (rI CPow fun i j => .int (i ^ j.toNat)) (.int i) (.int j) (.int (i ^ j.toNat)) := sc_intC (fun _ _ _ => .int _) h
theorem sc_eqI {i j : Int} : Sc K rEq (.int i) (.int j) (.bl (decide (i = j))) := fun S H v1 v2 Q s r1 r2 q => by
  cases r1
  cases r2
  refine ⟨rfl, ?_⟩
  rw [show decide (V.int i = V.int j) = decide (i = j) by simp]
  exact q _ (.bl _)
theorem sc_neI {i j : Int} : Sc K rNe (.int i) (.int j) (.bl (!decide (i = j))) := fun S H v1 v2 Q s r1 r2 q => by
  cases r1
  cases r2
  refine ⟨rfl, ?_⟩
  rw [show decide (V.int i = V.int j) = decide (i = j) by simp]
  exact q _ (.bl _)
theorem sc_eqS {i j : Str} : Sc K rEq (.str i) (.str j) (.bl (decide (i = j))) := fun S H v1 v2 Q s r1 r2 q => by
  cases r1
  cases r2
  refine ⟨rfl, ?_⟩
  rw [show decide (V.str i = V.str j) = decide (i = j) by simp]
  exact q _ (.bl _)
theorem sc_neS {i j : Str} : Sc K rNe (.str i) (.str j) (.bl (!decide (i = j))) := fun S H v1 v2 Q s r1 r2 q => by
  cases r1
  cases r2
  refine ⟨rfl, ?_⟩
  rw [show decide (V.str i = V.str j) = decide (i = j) by simp]
  exact q _ (.bl _)
theorem sc_eqB {i j : Bool} : Sc K rEq (.bl i) (.bl j) (.bl (decide (i = j))) := fun S H v1 v2 Q s r1 r2 q => by
  cases r1
  cases r2
  refine ⟨rfl, ?_⟩
  rw [show decide (V.bl i = V.bl j) = decide (i = j) by simp]
  exact q _ (.bl _)
theorem sc_neB {i j : Bool} : Sc K rNe (.bl i) (.bl j) (.bl (!decide (i = j))) := fun S H v1 v2 Q s r1 r2 q => by
  cases r1
  cases r2
  refine ⟨rfl, ?_⟩
  rw [show decide (V.bl i = V.bl j) = decide (i = j) by simp]
  exact q _ (.bl _)
theorem sc_ixS {z : Str} {i : Int} {c : Nat} (hz : z.length ≤ sizeLine) (h : atI z.cps.toList i = some c) : Sc K rIxS (.str z) (.int i) (.str ⟨#[c]⟩) := fun S H v1 v2 Q s r1 r2 q => by
  cases r1
  cases r2
  exact ⟨z, i, c, rfl, rfl, hz, h, q _ (.str _)⟩
theorem sc_addS {i j : Str} (h : i.length + j.length ≤ sizeLine) : Sc K (fun x y H Q => ∃ i j, x = .str i ∧ y = .str j ∧ i.length + j.length ≤ sizeLine ∧ Q (.str (i ++ j)) H) (.str i) (.str j) (.str (i ++ j)) := fun S H v1 v2 Q s r1 r2 q => by
  cases r1
  cases r2
  exact ⟨_, _, rfl, rfl, h, q _ (.str _)⟩
end sc
end Kf
end
section
set_option maxRecDepth 100000
set_option maxHeartbeats 4000000
/-! KfI: membership, index, the methods of lists. -/
namespace Kf
open PySem L2

def eqQ : D → D → Bool
  | .non, .non => true
  | .bl a, .bl b => a == b
  | .bl a, .int b => (if a then 1 else 0) == b
  | .int a, .bl b => a == (if b then 1 else 0)
  | .int a, .int b => a == b
  | .str a, .str b => a == b
  | _, _ => false
def inQ (d : D) (ds : List D) : Bool := ds.any fun y => eqQ y d
section
variable {K : Fg} {S : Hp}
theorem flat_v {v : V} {d : D} (r : Rp K S v d) (f : flat d = true) : flatV v = true := by
  cases r <;> first | rfl | cases f
theorem eqQ_v {v u : V} {d c : D} (r : Rp K S v d) (q : Rp K S u c) (f : flat d = true) (g : flat c = true) : eqV v u = eqQ d c := by
  cases r <;> first | exact absurd (show false = true from f) Bool.false_ne_true | (cases q <;> first | rfl | exact absurd (show false = true from g) Bool.false_ne_true)
theorem flats_v : ∀ {vs : List V} {ds : List D}, RpL K S vs ds → ds.all flat = true → vs.all flatV = true
  | _, _, .nil, _ => rfl
  | _, _, .cons r t, f => by
    rw [List.all_cons, Bool.and_eq_true] at f ⊢
    exact ⟨flat_v r f.1, flats_v t f.2⟩
theorem inQ_v {u : V} {c : D} (q : Rp K S u c) (g : flat c = true) : ∀ {vs : List V} {ds : List D}, RpL K S vs ds → ds.all flat = true → inV u vs = inQ c ds
  | _, _, .nil, _ => rfl
  | _, _, .cons r t, f => by
    rw [List.all_cons, Bool.and_eq_true] at f
    have h := inQ_v q g t f.2
    unfold inV inQ at h ⊢
    rw [List.any_cons, List.any_cons, eqQ_v r q f.1 g, h]
end
theorem flat_strs (ns : List Str) : (ns.map D.str).all flat = true := by simp [flat]
theorem flat_ints (ns : List Int) : (ns.map D.int).all flat = true := by simp [flat]
theorem inQ_strs (z : Str) (ns : List Str) : inQ (.str z) (ns.map .str) = decide (z ∈ ns) := by
  unfold inQ
  induction ns with
  | nil => rfl
  | cons a l ih =>
    rw [List.map_cons, List.any_cons, ih]
    by_cases h : a = z
    · subst h; simp [eqQ]
    · have h2 : ¬ z = a := fun q => h q.symm
      simp [eqQ, h, h2]
theorem inQ_ints (z : Int) (ns : List Int) : inQ (.int z) (ns.map .int) = decide (z ∈ ns) := by
  unfold inQ
  induction ns with
  | nil => rfl
  | cons a l ih =>
    rw [List.map_cons, List.any_cons, ih]
    by_cases h : a = z
    · subst h; simp [eqQ]
    · have h2 : ¬ z = a := fun q => h q.symm
      simp [eqQ, h, h2]
section
variable {K : Fg}
theorem sc_in {d c : D} {ds : List D} {neg : Bool} {k : Bool} (hc : c = .lst ds ∨ c = .tup ds) (f : flat d = true) (g : ds.all flat = true) (hk : k = (if neg then !inQ d ds else inQ d ds)) : Sc K (rIn K neg) d c (.bl k) := fun S H v1 v2 Q s r1 r2 q => by
  subst hk
  rcases hc with rfl | rfl
  · cases r2 with
    | lst h1 h2 => exact ⟨_, _, rfl, .inl (rdq (same_rd s h1)), flat_v r1 f, flats_v h2 g, by rw [inQ_v r1 f h2 g]; exact q _ (.bl _)⟩
  · cases r2 with
    | tup h1 h2 => exact ⟨_, _, rfl, .inr (same_sqT s h1), flat_v r1 f, flats_v h2 g, by rw [inQ_v r1 f h2 g]; exact q _ (.bl _)⟩
end
section
variable {X : Cx} {e : Ent} {Γ : Gam} {a b : Expr} {pos : Pos}
/-- a in b, texts -/
theorem px_inS {z : Str} {ns : List Str} (ha : PV X e a Γ (.str z)) (hb : PV X e b Γ (.lst (ns.map .str)) ∨ PV X e b Γ (.tup (ns.map .str))) (hm : behindInMarks .In b = false := by first | exact nomark _ | rfl) : PX X e (.Compare a [.In] [b] pos) Γ (decide (z ∈ ns)) := by
  rcases hb with hb | hb
  · exact px_cmp op_in_seq ha hb (sc_in (.inl rfl) rfl (flat_strs _) (inQ_strs z ns).symm) hm
  · exact px_cmp op_in_seq ha hb (sc_in (.inr rfl) rfl (flat_strs _) (inQ_strs z ns).symm) hm
theorem px_ninS {z : Str} {ns : List Str} (ha : PV X e a Γ (.str z)) (hb : PV X e b Γ (.lst (ns.map .str)) ∨ PV X e b Γ (.tup (ns.map .str))) (hm : behindInMarks .NotIn b = false := by first | exact nomark _ | rfl) : PX X e (.Compare a [.NotIn] [b] pos) Γ (!decide (z ∈ ns)) := by
  rcases hb with hb | hb
  · exact px_cmp op_notIn_seq ha hb (sc_in (.inl rfl) rfl (flat_strs _) (by rw [inQ_strs]; rfl)) hm
  · exact px_cmp op_notIn_seq ha hb (sc_in (.inr rfl) rfl (flat_strs _) (by rw [inQ_strs]; rfl)) hm
theorem px_inI {z : Int} {ns : List Int} (ha : PV X e a Γ (.int z)) (hb : PV X e b Γ (.lst (ns.map .int)) ∨ PV X e b Γ (.tup (ns.map .int))) (hm : behindInMarks .In b = false := by first | exact nomark _ | rfl) : PX X e (.Compare a [.In] [b] pos) Γ (decide (z ∈ ns)) := by
  rcases hb with hb | hb
  · exact px_cmp op_in_seq ha hb (sc_in (.inl rfl) rfl (flat_ints _) (inQ_ints z ns).symm) hm
  · exact px_cmp op_in_seq ha hb (sc_in (.inr rfl) rfl (flat_ints _) (inQ_ints z ns).symm) hm
/-- .. as a value -/
theorem pv_inS {z : Str} {ns : List Str} (ha : PV X e a Γ (.str z)) (hb : PV X e b Γ (.lst (ns.map .str)) ∨ PV X e b Γ (.tup (ns.map .str))) (hm : behindInMarks .In b = false := by first | exact nomark _ | rfl) : PV X e (.Compare a [.In] [b] pos) Γ (.bl (decide (z ∈ ns))) := by
  rcases hb with hb | hb
  · exact pv_c op_in_seq ha hb (sc_in (.inl rfl) rfl (flat_strs _) (inQ_strs z ns).symm) hm
  · exact pv_c op_in_seq ha hb (sc_in (.inr rfl) rfl (flat_strs _) (inQ_strs z ns).symm) hm
/-- xs.index(z), texts -/
theorem pv_indexS {n : Str} {np q r : Pos} {z : Str} {ns : List Str} {j : Nat} (ho : PV X e (.Name n np) Γ (.lst (ns.map .str))) (ha : PV X e a Γ (.str z)) (hz : ns[j]? = some z) (hno : ∀ m, m < j → ns[m]? ≠ some z)
    (hpe : ∀ {to : TE} {t : TA}, PE X (.Name n np) to → PA X [a] t → PE X (.Call (.Attribute (.Name n np) "index" q) [a] [] r) (tBM X.K "list" (rIndex X.K) to t) := by exact fun h1 h2 => pe_bm PySem.F.plainAttrs_list PySem.F.slot_list_index PySem.F.type_list_index mt_index h1 h2)
    (hs : starEach [a] X.env = (false, eval a X.env) :: starEach [] X.env := by rfl) : PV X e (.Call (.Attribute (.Name n np) "index" q) [a] [] r) Γ (.int (j : Int)) :=
  PE.imp (hpe ho (pvs_cons ha pvs_nil hs)) fun σ H Q ⟨S, w, q⟩ => ⟨S, w, fun S1 H1 v s1 w1 r1 => by
    cases r1 with
    | lst h1 h2 =>
      refine ⟨.inl ⟨rfl, _, rdq (same_rd w1.nx.sh h1)⟩, S1, w1, fun S2 H2 vs s2 w2 r2 => ?_⟩
      cases r2 with
      | cons r3 r4 =>
        cases r4
        cases r3
        obtain ⟨u, hu, ru⟩ := h2.get (i := j) (d := .str z) (by rw [List.getElem?_map, hz]; rfl)
        refine ⟨_, _, _, j, u, rfl, rfl, rdq (same_rd w2.nx.sh (same_rd s2.ss h1)), rfl, flats_v h2 (flat_strs _), hu, ?_, fun m z' hm hz' => ?_, q S2 H2 _ (s1.trans s2) w2 (.int _)⟩
        · cases ru
          simp [eqV]
        · obtain ⟨d', hd', rd'⟩ := h2.get' hz'
          rw [List.getElem?_map] at hd'
          cases y : ns[m]? with
          | none => rw [y] at hd'; cases hd'
          | some y' =>
            rw [y] at hd'
            cases hd'
            cases rd'
            have : y' ≠ z := fun t => hno m hm (by rw [y, t])
            simp [eqV, this]⟩
end
section methods
variable {X : Cx} {e : Ent} {Γ : Gam} {pos : Pos} {k : Kn} {rest : List Stmt} {call : Expr}
/-- a method of a list of one's own, called for what it does -/
theorem bl_lm {n : Str} {np : Pos} {args : List Expr} {Φ : List D → Gam → Prop} {r : V → List V → Hp → VK → Prop} {l0 : List D} (i : Nat) (hpe : ∀ {to : TE} {t : TA}, PE X (.Name n np) to → PA X args t → PE X call (tBM X.K "list" r to t)) (h0 : Γ[i]? = some (some (.ow (.lst l0)))) (ha : AV X e args Γ Φ)
    (hr : ∀ ds Γ', Φ ds Γ' → ∃ l l', Γ'[i]? = some (some (.ow (.lst l))) ∧ (∀ S H a xs vs Q, H a = some (.lst xs) → RpL X.K S xs l → RpL X.K S vs ds → Same S H → (∀ xs', RpL X.K S xs' l' → Q .non (upd H a (.lst xs'))) → r (.ref a) vs H Q) ∧ BL X e rest (Γ'.set i (some (.ow (.lst l')))) k)
    (hN : X.N[i]? = some n := by rfl) (hv : Vis X.env.scope n := by first | exact Or.inl rfl | exact Or.inr (Or.inl rfl) | exact Or.inr (Or.inr rfl)) (h1 : (n == ("__debug__" : Str)) = false := by decide) (h2 : (n == ("__classdict__" : Str)) = false := by decide)
    (hs : swapsWith call none pos.line X.env = pure false := by rfl) : BL X e (.Expr call pos :: rest) Γ k := by
  refine bl_cons (fun Γ2 => ∃ ds Γ' l l', Φ ds Γ' ∧ Γ'[i]? = some (some (.ow (.lst l))) ∧ Γ2 = Γ'.set i (some (.ow (.lst l'))) ∧ BL X e rest Γ2 k) (PS.imp (ps_expr (hpe (pe_var hN hv h1 h2) ha) hs) fun D σ H ⟨S, w, nx, _⟩ => ?_) fun Γ2 ⟨_, _, _, _, _, _, _, z⟩ => z
  obtain ⟨v, h3, c, h4, sc, ow, hc⟩ := w.sl.at_ i _ h0
  subst h4
  obtain ⟨xs, h5, h6⟩ := ow
  refine ⟨_, h3, .inl ⟨rfl, xs, SqL.of h5⟩, S, w, fun S' H' vs ds Γ' hd s w' ry => ?_⟩
  obtain ⟨l, l', hl, hk, hB⟩ := hr ds Γ' hd
  obtain ⟨v', g1, c', g2, gs, gw, gc⟩ := w'.sl.at_ i _ hl
  rw [h3] at g1
  cases g1
  cases g2
  obtain ⟨ys, g3, g4⟩ := gw
  exact hk S' H' c ys vs _ g3 g4 ry w'.nx.sh fun xs' r' => nx S' σ _ _ ⟨ds, Γ', l, l', hd, hl, rfl, hB⟩ s.ss (w'.put hl h3 ⟨xs', upd_same, r'⟩)
/-- xs.insert(i, y) -/
theorem bl_insert {n : Str} {np q r : Pos} {a b : Expr} {Φ : List D → Gam → Prop} {l0 : List D} (i : Nat) (h0 : Γ[i]? = some (some (.ow (.lst l0)))) (ha : AV X e [a, b] Γ Φ)
    (hr : ∀ ds Γ', Φ ds Γ' → ∃ l j d, ds = [.int j, d] ∧ Γ'[i]? = some (some (.ow (.lst l))) ∧ l.length < 100000 ∧ 0 ≤ j ∧ j < 100000 ∧ BL X e rest (Γ'.set i (some (.ow (.lst (l.take j.toNat ++ [d] ++ l.drop j.toNat))))) k)
    (hpe : ∀ {to : TE} {t : TA}, PE X (.Name n np) to → PA X [a, b] t → PE X (.Call (.Attribute (.Name n np) "insert" q) [a, b] [] r) (tBM X.K "list" (fun x vs H Q => ∃ (l : Addr) (xs : List V) (i : Int) (y : V), x = .ref l ∧ vs = [.int i, y] ∧ H l = some (.lst xs) ∧ xs.length < sizeLine ∧ 0 ≤ i ∧ i < 2 ^ 63 ∧
    Q .non (upd H l (.lst (xs.take i.toNat ++ [y] ++ xs.drop i.toNat)))) to t) := by exact fun h1 h2 => pe_bm PySem.F.plainAttrs_list PySem.F.slot_list_insert PySem.F.type_list_insert mt_insert h1 h2)
    (hN : X.N[i]? = some n := by rfl) (hv : Vis X.env.scope n := by first | exact Or.inl rfl | exact Or.inr (Or.inl rfl) | exact Or.inr (Or.inr rfl)) (h1 : (n == ("__debug__" : Str)) = false := by decide) (h2 : (n == ("__classdict__" : Str)) = false := by decide)
    (hs : swapsWith (.Call (.Attribute (.Name n np) "insert" q) [a, b] [] r) none pos.line X.env = pure false := by rfl) : BL X e (.Expr (.Call (.Attribute (.Name n np) "insert" q) [a, b] [] r) pos :: rest) Γ k :=
  bl_lm i hpe h0 ha (fun ds Γ' h => by
    obtain ⟨l, j, d, rfl, h3, h4, h5, h6, hB⟩ := hr ds Γ' h
    refine ⟨l, _, h3, fun S H a xs vs Q hx rx rv s q => ?_, hB⟩
    cases rv with
    | cons r1 r2 =>
      cases r2 with
      | cons r3 r4 =>
        cases r4
        cases r1
        refine ⟨a, xs, j, _, rfl, rfl, hx, ?_, h5, by omega, q _ (((rx.take _).append (.cons r3 .nil)).append (rx.drop _))⟩
        rw [rx.length]
        exact Nat.lt_of_lt_of_le h4 (by decide)) hN hv h1 h2 hs
end methods
end Kf
end
section
set_option maxRecDepth 100000
set_option maxHeartbeats 4000000
/-! KfJ: comprehensions further; assigned ones; tuples of what is not pure. -/
namespace Kf
open PySem L2

section
variable {X : Cx} {e : Ent} {Γ : Gam}
/-- the comprehension of what is not pure -/
theorem eo_lc {elt tg iter : Expr} {ifs : List Expr} {scope : Scope} {own : List (Str × Nat)} {pos : Pos} {ix : List Nat} {bind : D → Gam → Gam → Prop} {Φi : List D → Gam → Prop} {Φ : O → Gam → Prop} (Bt Be : Gam → Prop) (Tt : Gam → Bool → Gam → Prop) (Te : Gam → D → Gam → Prop) (Inv : List D → Nat → List D → Gam → Prop)
    (ok : BlkOk X.N X.env.scope scope own) (hN : X.N.Nodup) (hw : WV X e tg iter Γ Φi)
    (hg : ∀ (s : Shared) (H : Hp) (C : Addr) (cl : List (Str × Addr)) (fp : List Addr), GV (X.blk s H scope (compEnvC scope cl C X.env) fp) e tg ix bind)
    (hb : BindOk ix bind) (hix : ∀ j ∈ ix, j ∈ own.map (·.2)) (hz : e.own = none ∨ 0 ∉ own.map (·.2)) (h0 : ∀ ds Γ1, Φi ds Γ1 → ds.length ≤ 100000 ∧ Inv ds 0 [] Γ1)
    (hs : ∀ ds i d acc Γ1, ds[i]? = some d → Inv ds i acc Γ1 → ∃ Γ2, bind d (wipeG Γ1 (own.map (·.2))) Γ2 ∧ Bt Γ2 ∧ (∀ Γ3, Tt Γ2 true Γ3 → Be Γ3 ∧ ∀ y Γ4, Te Γ3 y Γ4 → Inv ds (i + 1) (acc ++ [y]) (wipeG Γ4 (own.map (·.2)))) ∧ ∀ Γ3, Tt Γ2 false Γ3 → Inv ds (i + 1) acc (wipeG Γ3 (own.map (·.2))))
    (hd : ∀ ds acc Γ1, Inv ds ds.length acc Γ1 → Φ (.lst acc) Γ1)
    (ht : ∀ Γ', Bt Γ' → ∀ (s : Shared) (H : Hp) (C : Addr) (cl : List (Str × Addr)) (fp : List Addr), PTs (X.blk s H scope (compEnvC scope cl C X.env) fp) ifs (tX X.K e Γ' (Tt Γ')))
    (he : ∀ Γ', Be Γ' → ∀ (s : Shared) (H : Hp) (C : Addr) (cl : List (Str × Addr)) (fp : List Addr), EV (X.blk s H scope (compEnvC scope cl C X.env) fp) e elt Γ' (Te Γ'))
    (hc : X.calm = true := by rfl) (hfs : ∀ x, foldedSetIterable iter X.env x = pure x := by intro _; rfl) : EO X e (.ListComp elt [⟨tg, iter, ifs, 0⟩] scope pos) Γ Φ :=
  PE.imp (pe_lc hc hN hw ok hg (fun s H C cl fp => ⟨fun pins s2 σ H2 Q I ⟨Γ', hd, q⟩ => (ht Γ' hd s H C cl fp).run pins s2 σ H2 Q I q⟩) (fun s H C cl fp => ⟨fun pins s2 σ H2 Q I ⟨Γ', hd, q⟩ => (he Γ' hd s H C cl fp).run pins s2 σ H2 Q I q⟩) hfs) fun σ H Q h => lc_imp Inv hb hix hz h0 hs hd σ H Q h
variable {k : Kn} {rest : List Stmt}
/-- y = [..], the whole statement -/
theorem bl_asgO {st : Stmt} {te : TE} {Φ : O → Gam → Prop} (i : Nat) (hp : PS X st (tAsg te (gName i))) (hte : ∀ σ H Q, tO X.K e Γ Φ σ H Q → te σ H Q) (hz : e.own = none ∨ i ≠ 0) (hr : ∀ o Γ', Φ o Γ' → BL X e rest (Γ'.set i (some (.ow o))) k) : BL X e (st :: rest) Γ k := by
  refine bl_cons (fun Γ2 => ∃ o Γ', Φ o Γ' ∧ Γ2 = Γ'.set i (some (.ow o))) (PS.imp hp fun D σ H ⟨S, w, nx, _⟩ => hte σ H _ ⟨S, w, fun S' H' a o Γ' ho s w' sa ow ha => ?_⟩) fun Γ2 ⟨d, Γ', hd, q⟩ => by subst q; exact hr d Γ' hd
  exact nx S' _ H' _ ⟨o, Γ', ho, rfl⟩ s.ss (w'.setO sa ow (w.nx.fresh ha) (s.fresh_ne w ha) hz)
theorem bl_setLc {y : Str} {py spos : Pos} {elt tg iter : Expr} {ifs : List Expr} {scope : Scope} {own : List (Str × Nat)} {pos : Pos} {ix : List Nat} {bind : D → Gam → Gam → Prop} {Φi : List D → Gam → Prop} {Φ : O → Gam → Prop} (i : Nat) (Bt Be : Gam → Prop) (Tt : Gam → Bool → Gam → Prop) (Te : Gam → D → Gam → Prop) (Inv : List D → Nat → List D → Gam → Prop)
    (ok : BlkOk X.N X.env.scope scope own) (hN : X.N.Nodup) (hw : WV X e tg iter Γ Φi)
    (hg : ∀ (s : Shared) (H : Hp) (C : Addr) (cl : List (Str × Addr)) (fp : List Addr), GV (X.blk s H scope (compEnvC scope cl C X.env) fp) e tg ix bind)
    (hb : BindOk ix bind) (hix : ∀ j ∈ ix, j ∈ own.map (·.2)) (hz : e.own = none ∨ 0 ∉ own.map (·.2)) (h0 : ∀ ds Γ1, Φi ds Γ1 → ds.length ≤ 100000 ∧ Inv ds 0 [] Γ1)
    (hs : ∀ ds i d acc Γ1, ds[i]? = some d → Inv ds i acc Γ1 → ∃ Γ2, bind d (wipeG Γ1 (own.map (·.2))) Γ2 ∧ Bt Γ2 ∧ (∀ Γ3, Tt Γ2 true Γ3 → Be Γ3 ∧ ∀ y Γ4, Te Γ3 y Γ4 → Inv ds (i + 1) (acc ++ [y]) (wipeG Γ4 (own.map (·.2)))) ∧ ∀ Γ3, Tt Γ2 false Γ3 → Inv ds (i + 1) acc (wipeG Γ3 (own.map (·.2))))
    (hd : ∀ ds acc Γ1, Inv ds ds.length acc Γ1 → Φ (.lst acc) Γ1)
    (ht : ∀ Γ', Bt Γ' → ∀ (s : Shared) (H : Hp) (C : Addr) (cl : List (Str × Addr)) (fp : List Addr), PTs (X.blk s H scope (compEnvC scope cl C X.env) fp) ifs (tX X.K e Γ' (Tt Γ')))
    (he : ∀ Γ', Be Γ' → ∀ (s : Shared) (H : Hp) (C : Addr) (cl : List (Str × Addr)) (fp : List Addr), EV (X.blk s H scope (compEnvC scope cl C X.env) fp) e elt Γ' (Te Γ'))
    (hr : ∀ o Γ', Φ o Γ' → BL X e rest (Γ'.set i (some (.ow o))) k)
    (hy : X.N[i]? = some y := by rfl) (hyl : X.env.scope.names.lookup y = some .local := by rfl) (hz2 : e.own = none ∨ i ≠ 0 := by first | exact .inl rfl | exact .inr (by decide))
    (hsw : swapsWith (.ListComp elt [⟨tg, iter, ifs, 0⟩] scope pos) (some (.Name y py)) spos.line X.env = pure true := by rfl)
    (hc : X.calm = true := by rfl) (hfs : ∀ x, foldedSetIterable iter X.env x = pure x := by intro _; rfl) : BL X e (.Assign [.Name y py] (.ListComp elt [⟨tg, iter, ifs, 0⟩] scope pos) spos :: rest) Γ k :=
  bl_asgO i (ps_setLc hc hN hy hyl hsw hw ok hg (fun s H C cl fp => ⟨fun pins s2 σ H2 Q I ⟨Γ', hd, q⟩ => (ht Γ' hd s H C cl fp).run pins s2 σ H2 Q I q⟩) (fun s H C cl fp => ⟨fun pins s2 σ H2 Q I ⟨Γ', hd, q⟩ => (he Γ' hd s H C cl fp).run pins s2 σ H2 Q I q⟩) hfs)
    (fun σ H Q h => lc_imp Inv hb hix hz h0 hs hd σ H Q h) hz2 hr
/-- y = [..], a pure one -/
theorem bl_letLc {y : Str} {py spos : Pos} {elt tg iter : Expr} {ifs : List Expr} {scope : Scope} {own : List (Str × Nat)} {pos : Pos} {ix : List Nat} {bind : D → Gam → Gam → Prop} {ds : List D} {f : D → Gam} (i : Nat) (p : D → Bool) (g : D → D) (ok : BlkOk X.N X.env.scope scope own) (hN : X.N.Nodup) (hw : WP X e tg iter Γ ds)
    (hg : ∀ (s : Shared) (H : Hp) (C : Addr) (cl : List (Str × Addr)) (fp : List Addr), GV (X.blk s H scope (compEnvC scope cl C X.env) fp) e tg ix bind) (hb : BindOk ix bind) (hix : ∀ j ∈ ix, j ∈ own.map (·.2)) (hz : e.own = none ∨ 0 ∉ own.map (·.2)) (hlen : ds.length ≤ 100000)
    (hs : ∀ d ∈ ds, bind d (wipeG Γ (own.map (·.2))) (f d))
    (ht : ∀ d ∈ ds, ∀ (s : Shared) (H : Hp) (C : Addr) (cl : List (Str × Addr)) (fp : List Addr), PTs (X.blk s H scope (compEnvC scope cl C X.env) fp) ifs (tPX X.K e (f d) (p d)))
    (he : ∀ d ∈ ds, p d = true → ∀ (s : Shared) (H : Hp) (C : Addr) (cl : List (Str × Addr)) (fp : List Addr), PV (X.blk s H scope (compEnvC scope cl C X.env) fp) e elt (f d) (g d))
    (hr : BL X e rest (Γ.set i (some (.ow (.lst ((ds.filter p).map g))))) k)
    (hy : X.N[i]? = some y := by rfl) (hyl : X.env.scope.names.lookup y = some .local := by rfl) (hz2 : e.own = none ∨ i ≠ 0 := by first | exact .inl rfl | exact .inr (by decide))
    (hsw : swapsWith (.ListComp elt [⟨tg, iter, ifs, 0⟩] scope pos) (some (.Name y py)) spos.line X.env = pure true := by rfl)
    (hc : X.calm = true := by rfl) (hfs : ∀ x, foldedSetIterable iter X.env x = pure x := by intro _; rfl) : BL X e (.Assign [.Name y py] (.ListComp elt [⟨tg, iter, ifs, 0⟩] scope pos) spos :: rest) Γ k :=
  bl_asgO (Φ := Is (.lst ((ds.filter p).map g)) Γ) i (ps_setLc hc hN hy hyl hsw hw ok hg (fun s H C cl fp => ⟨fun pins s2 σ H2 Q I ⟨d, hd, q⟩ => (ht d hd s H C cl fp).run pins s2 σ H2 Q I q⟩) (fun s H C cl fp => ⟨fun pins s2 σ H2 Q I ⟨d, hd, hp, q⟩ => (he d hd hp s H C cl fp).run pins s2 σ H2 Q I q⟩) hfs)
    (fun σ H Q ⟨S, w, q⟩ => lcP_imp hb hix hz hlen hs σ H Q ⟨S, w, fun S' H' a s w' sa ow ha => q S' H' a _ Γ ⟨rfl, rfl⟩ s.stp w' sa ow ha⟩) hz2 fun o Γ' ⟨h1, h2⟩ => by subst h1 h2; exact hr
/-- (.., ..) of what is not pure -/
theorem ev_tup {es : List Expr} {c : Nat} {pos : Pos} {Φa : List D → Gam → Prop} {Φ : D → Gam → Prop} (h : AV X e es Γ Φa) (q : ∀ ds Γ1, Φa ds Γ1 → ds.length ≤ 1000 ∧ Φ (.tup ds) Γ1) : EV X e (.Tuple es c pos) Γ Φ :=
  PE.imp (pe_tup h) fun σ H Q ⟨S, w, k⟩ => ⟨S, w, fun S1 H1 vs ds Γ1 hd s1 w1 r1 => by
    obtain ⟨q1, q2⟩ := q ds Γ1 hd
    refine ⟨by rw [r1.length]; exact Nat.le_trans q1 (by decide), fun p hp => ?_⟩
    obtain ⟨w2, s2⟩ := w1.new (o := .tup vs) hp
    exact k _ _ _ _ Γ1 q2 (s1.trans (pur_new (w1.nx.sh.free hp) hp).stp) w2 (.tup (SqT.of upd_same) (r1.mono s2))⟩
/-- [.., ..] of what is not pure -/
theorem ev_lst {es : List Expr} {pos : Pos} {Φa : List D → Gam → Prop} {Φ : D → Gam → Prop} (h : AV X e es Γ Φa) (q : ∀ ds Γ1, Φa ds Γ1 → ds.length ≤ 1000 ∧ Φ (.lst ds) Γ1) : EV X e (.List es pos) Γ Φ :=
  PE.imp (pe_lst h) fun σ H Q ⟨S, w, k⟩ => ⟨S, w, fun S1 H1 vs ds Γ1 hd s1 w1 r1 => by
    obtain ⟨q1, q2⟩ := q ds Γ1 hd
    refine ⟨by rw [r1.length]; exact Nat.le_trans q1 (by decide), fun p hp => ?_⟩
    obtain ⟨w2, s2⟩ := w1.new (o := .lst vs) hp
    exact k _ _ _ _ Γ1 q2 (s1.trans (pur_new (w1.nx.sh.free hp) hp).stp) w2 (.lst (.inl upd_same) (r1.mono s2))⟩
theorem eo_lstE {es : List Expr} {pos : Pos} {Φa : List D → Gam → Prop} {Φ : O → Gam → Prop} (h : AV X e es Γ Φa) (q : ∀ ds Γ1, Φa ds Γ1 → ds.length ≤ 1000 ∧ Φ (.lst ds) Γ1) : EO X e (.List es pos) Γ Φ :=
  PE.imp (pe_lst h) fun σ H Q ⟨S, w, k⟩ => ⟨S, w, fun S1 H1 vs ds Γ1 hd s1 w1 r1 => by
    obtain ⟨q1, q2⟩ := q ds Γ1 hd
    exact ⟨by rw [r1.length]; exact Nat.le_trans q1 (by decide), fun p hp => tO_new k s1 w1 q2 hp ⟨vs, upd_same, r1⟩⟩⟩
/-- two arguments, the first pure -/
theorem av_two {a b : Expr} {d1 : D} {Φb : D → Gam → Prop} {Ψ : List D → Gam → Prop} (ha : PV X e a Γ d1) (hb : EV X e b Γ Φb) (q : ∀ d Γ1, Φb d Γ1 → Ψ [d1, d] Γ1) (hs : starEach [a, b] X.env = (false, eval a X.env) :: starEach [b] X.env := by rfl) (hs2 : starEach [b] X.env = (false, eval b X.env) :: starEach [] X.env := by rfl) : AV X e [a, b] Γ Ψ :=
  av_cons (Φb := fun _ _ ds Γ2 => ∃ d, ds = [d] ∧ Φb d Γ2) (pv_ev ha) (fun d1' Γ1 ⟨_, h⟩ => by subst h; exact av_one hb (fun d Γ2 hd => ⟨d, rfl, hd⟩) hs2) (fun d1' Γ1 ds Γ2 ⟨h1, _⟩ ⟨d, h2, h3⟩ => by subst h1 h2; exact q d Γ2 h3) hs
end
/-! the items told by a list of another kind -/
section lcA
variable {X : Cx} {e : Ent} {Γ : Gam} {α : Type}
theorem map_inv {c : α → D} {u : D → α} (h : ∀ a, u (c a) = a) (p : α → Bool) (g : α → D) : ∀ l : List α, ((l.map c).filter (fun d => p (u d))).map (fun d => g (u d)) = (l.filter p).map g
  | [] => rfl
  | a :: l => by
    rw [List.map_cons]
    cases hp : p a with
    | true =>
      rw [List.filter_cons_of_pos (by rw [h]; exact hp), List.filter_cons_of_pos hp, List.map_cons, List.map_cons, h, map_inv h p g l]
    | false =>
      rw [List.filter_cons_of_neg (by rw [h, hp]; exact Bool.false_ne_true), List.filter_cons_of_neg (by rw [hp]; exact Bool.false_ne_true), map_inv h p g l]
theorem lcA_imp {K : Fg} {vs ix : List Nat} {bind : D → Gam → Gam → Prop} {c : α → D} {u : D → α} {Ψ : List α → Gam → Prop} {f : List α → Gam → α → Gam} {p : List α → Gam → α → Bool} {g : List α → Gam → α → D} {Φ : O → Gam → Prop} (hu : ∀ a, u (c a) = a) (hb : BindOk ix bind) (hix : ∀ j ∈ ix, j ∈ vs) (hz : e.own = none ∨ 0 ∉ vs)
    (hlen : ∀ l Γ1, Ψ l Γ1 → l.length ≤ 100000) (hs : ∀ l Γ1, Ψ l Γ1 → ∀ a ∈ l, bind (c a) (wipeG Γ1 vs) (f l Γ1 a)) (hd : ∀ l Γ1, Ψ l Γ1 → Φ (.lst ((l.filter (p l Γ1)).map (g l Γ1))) Γ1)
    (σ : L2.St) (H : Hp) (Q : VK) (h : tO K e Γ Φ σ H Q) :
    tLc (tI K e Γ fun ds Γ1 => ∃ l, ds = l.map c ∧ Ψ l Γ1) (tG K e ix bind) (fun σ H Q => ∃ l Γ1 a, Ψ l Γ1 ∧ a ∈ l ∧ tPX K e (f l Γ1 a) (p l Γ1 a) σ H Q) (fun σ H Q => ∃ l Γ1 a, Ψ l Γ1 ∧ a ∈ l ∧ p l Γ1 a = true ∧ tP K e (f l Γ1 a) (g l Γ1 a) σ H Q) vs σ H Q :=
  let ⟨S, w, q⟩ := h
  ⟨S, w, fun S1 H1 J ds Γ1 ⟨l, hds, hl⟩ s1 w1 it Dn hD => by
    subst hds
    refine lcP_core (f := fun d => f l Γ1 (u d)) (p := fun d => p l Γ1 (u d)) (g := fun d => g l Γ1 (u d)) (tg := tG K e ix bind) (tt := fun σ H Q => ∃ l Γ1 a, Ψ l Γ1 ∧ a ∈ l ∧ tPX K e (f l Γ1 a) (p l Γ1 a) σ H Q) (te := fun σ H Q => ∃ l Γ1 a, Ψ l Γ1 ∧ a ∈ l ∧ p l Γ1 a = true ∧ tP K e (f l Γ1 a) (g l Γ1 a) σ H Q) hb hix hz (by rw [List.length_map]; exact hlen l Γ1 hl) ?_ (fun _ _ _ _ h => h) ?_ ?_ w1 it hD ?_
    · intro d hd
      obtain ⟨a, ha, rfl⟩ := List.mem_map.mp hd
      show bind _ _ (f l Γ1 (u (c a)))
      rw [hu]
      exact hs l Γ1 hl a ha
    · intro d hd σ H Q h
      obtain ⟨a, ha, rfl⟩ := List.mem_map.mp hd
      rw [hu] at h
      exact ⟨l, Γ1, a, hl, ha, h⟩
    · intro d hd hp σ H Q h
      obtain ⟨a, ha, rfl⟩ := List.mem_map.mp hd
      rw [hu] at h hp
      exact ⟨l, Γ1, a, hl, ha, hp, h⟩
    · intro S' H' a p' w' sa ow ha
      rw [map_inv hu] at ow
      exact q S' H' a _ Γ1 (hd l Γ1 hl) (s1.trans p'.stp) w' sa ow (by
        cases z : H a with
        | none => rfl
        | some y => exact absurd ha (s1.al a (by rw [z]; exact fun t => nomatch t)))⟩
variable {elt tg iter : Expr} {ifs : List Expr} {scope : Scope} {own : List (Str × Nat)} {pos spos : Pos} {ix : List Nat} {bind : D → Gam → Gam → Prop} {c : α → D} {u : D → α} {Ψ : List α → Gam → Prop} {f : List α → Gam → α → Gam} {Φ : O → Gam → Prop}
/-- what is walked is not pure, the rest is -/
theorem eo_lcA (p : List α → Gam → α → Bool) (g : List α → Gam → α → D) (hu : ∀ a, u (c a) = a) (ok : BlkOk X.N X.env.scope scope own) (hN : X.N.Nodup) (hw : WV X e tg iter Γ fun ds Γ1 => ∃ l, ds = l.map c ∧ Ψ l Γ1)
    (hg : ∀ (s : Shared) (H : Hp) (C : Addr) (cl : List (Str × Addr)) (fp : List Addr), GV (X.blk s H scope (compEnvC scope cl C X.env) fp) e tg ix bind) (hb : BindOk ix bind) (hix : ∀ j ∈ ix, j ∈ own.map (·.2)) (hz : e.own = none ∨ 0 ∉ own.map (·.2))
    (hlen : ∀ l Γ1, Ψ l Γ1 → l.length ≤ 100000) (hs : ∀ l Γ1, Ψ l Γ1 → ∀ a ∈ l, bind (c a) (wipeG Γ1 (own.map (·.2))) (f l Γ1 a))
    (ht : ∀ l Γ1 a, Ψ l Γ1 → a ∈ l → ∀ (s : Shared) (H : Hp) (C : Addr) (cl : List (Str × Addr)) (fp : List Addr), PTs (X.blk s H scope (compEnvC scope cl C X.env) fp) ifs (tPX X.K e (f l Γ1 a) (p l Γ1 a)))
    (he : ∀ l Γ1 a, Ψ l Γ1 → a ∈ l → p l Γ1 a = true → ∀ (s : Shared) (H : Hp) (C : Addr) (cl : List (Str × Addr)) (fp : List Addr), PV (X.blk s H scope (compEnvC scope cl C X.env) fp) e elt (f l Γ1 a) (g l Γ1 a))
    (hd : ∀ l Γ1, Ψ l Γ1 → Φ (.lst ((l.filter (p l Γ1)).map (g l Γ1))) Γ1)
    (hc : X.calm = true := by rfl) (hfs : ∀ x, foldedSetIterable iter X.env x = pure x := by intro _; rfl) : EO X e (.ListComp elt [⟨tg, iter, ifs, 0⟩] scope pos) Γ Φ :=
  PE.imp (pe_lc hc hN hw ok hg (fun s H C cl fp => ⟨fun pins s2 σ H2 Q I ⟨l, Γ1, a, h1, h2, q⟩ => (ht l Γ1 a h1 h2 s H C cl fp).run pins s2 σ H2 Q I q⟩) (fun s H C cl fp => ⟨fun pins s2 σ H2 Q I ⟨l, Γ1, a, h1, h2, h3, q⟩ => (he l Γ1 a h1 h2 h3 s H C cl fp).run pins s2 σ H2 Q I q⟩) hfs)
    fun σ H Q h => lcA_imp hu hb hix hz hlen hs hd σ H Q h
theorem bl_lcA {y : Str} {py : Pos} {k : Kn} {rest : List Stmt} (i : Nat) (p : List α → Gam → α → Bool) (g : List α → Gam → α → D) (hu : ∀ a, u (c a) = a) (ok : BlkOk X.N X.env.scope scope own) (hN : X.N.Nodup) (hw : WV X e tg iter Γ fun ds Γ1 => ∃ l, ds = l.map c ∧ Ψ l Γ1)
    (hg : ∀ (s : Shared) (H : Hp) (C : Addr) (cl : List (Str × Addr)) (fp : List Addr), GV (X.blk s H scope (compEnvC scope cl C X.env) fp) e tg ix bind) (hb : BindOk ix bind) (hix : ∀ j ∈ ix, j ∈ own.map (·.2)) (hz : e.own = none ∨ 0 ∉ own.map (·.2))
    (hlen : ∀ l Γ1, Ψ l Γ1 → l.length ≤ 100000) (hs : ∀ l Γ1, Ψ l Γ1 → ∀ a ∈ l, bind (c a) (wipeG Γ1 (own.map (·.2))) (f l Γ1 a))
    (ht : ∀ l Γ1 a, Ψ l Γ1 → a ∈ l → ∀ (s : Shared) (H : Hp) (C : Addr) (cl : List (Str × Addr)) (fp : List Addr), PTs (X.blk s H scope (compEnvC scope cl C X.env) fp) ifs (tPX X.K e (f l Γ1 a) (p l Γ1 a)))
    (he : ∀ l Γ1 a, Ψ l Γ1 → a ∈ l → p l Γ1 a = true → ∀ (s : Shared) (H : Hp) (C : Addr) (cl : List (Str × Addr)) (fp : List Addr), PV (X.blk s H scope (compEnvC scope cl C X.env) fp) e elt (f l Γ1 a) (g l Γ1 a))
    (hr : ∀ l Γ1, Ψ l Γ1 → BL X e rest (Γ1.set i (some (.ow (.lst ((l.filter (p l Γ1)).map (g l Γ1)))))) k)
    (hy : X.N[i]? = some y := by rfl) (hyl : X.env.scope.names.lookup y = some .local := by rfl) (hz2 : e.own = none ∨ i ≠ 0 := by first | exact .inl rfl | exact .inr (by decide))
    (hsw : swapsWith (.ListComp elt [⟨tg, iter, ifs, 0⟩] scope pos) (some (.Name y py)) spos.line X.env = pure true := by rfl)
    (hc : X.calm = true := by rfl) (hfs : ∀ x, foldedSetIterable iter X.env x = pure x := by intro _; rfl) : BL X e (.Assign [.Name y py] (.ListComp elt [⟨tg, iter, ifs, 0⟩] scope pos) spos :: rest) Γ k :=
  bl_asgO (Φ := fun o Γ1 => ∃ l, Ψ l Γ1 ∧ o = .lst ((l.filter (p l Γ1)).map (g l Γ1))) i (ps_setLc hc hN hy hyl hsw hw ok hg (fun s H C cl fp => ⟨fun pins s2 σ H2 Q I ⟨l, Γ1, a, h1, h2, q⟩ => (ht l Γ1 a h1 h2 s H C cl fp).run pins s2 σ H2 Q I q⟩) (fun s H C cl fp => ⟨fun pins s2 σ H2 Q I ⟨l, Γ1, a, h1, h2, h3, q⟩ => (he l Γ1 a h1 h2 h3 s H C cl fp).run pins s2 σ H2 Q I q⟩) hfs)
    (fun σ H Q h => lcA_imp hu hb hix hz hlen hs (fun l Γ1 hl => ⟨l, hl, rfl⟩) σ H Q h) hz2 fun o Γ1 ⟨l, h1, h2⟩ => by subst h2; exact hr l Γ1 h1
/-- .. all pure -/
theorem pn_lcA {l : List α} {f : α → Gam} (p : α → Bool) (g : α → D) (hu : ∀ a, u (c a) = a) (ok : BlkOk X.N X.env.scope scope own) (hN : X.N.Nodup) (hw : WP X e tg iter Γ (l.map c))
    (hg : ∀ (s : Shared) (H : Hp) (C : Addr) (cl : List (Str × Addr)) (fp : List Addr), GV (X.blk s H scope (compEnvC scope cl C X.env) fp) e tg ix bind) (hb : BindOk ix bind) (hix : ∀ j ∈ ix, j ∈ own.map (·.2)) (hz : e.own = none ∨ 0 ∉ own.map (·.2)) (hlen : l.length ≤ 100000)
    (hs : ∀ a ∈ l, bind (c a) (wipeG Γ (own.map (·.2))) (f a))
    (ht : ∀ a ∈ l, ∀ (s : Shared) (H : Hp) (C : Addr) (cl : List (Str × Addr)) (fp : List Addr), PTs (X.blk s H scope (compEnvC scope cl C X.env) fp) ifs (tPX X.K e (f a) (p a)))
    (he : ∀ a ∈ l, p a = true → ∀ (s : Shared) (H : Hp) (C : Addr) (cl : List (Str × Addr)) (fp : List Addr), PV (X.blk s H scope (compEnvC scope cl C X.env) fp) e elt (f a) (g a))
    (hc : X.calm = true := by rfl) (hfs : ∀ x, foldedSetIterable iter X.env x = pure x := by intro _; rfl) : PN X e (.ListComp elt [⟨tg, iter, ifs, 0⟩] scope pos) Γ (.lst ((l.filter p).map g)) := by
  rw [← map_inv hu p g l]
  refine pn_lc (f := fun d => f (u d)) (fun d => p (u d)) (fun d => g (u d)) ok hN hw hg hb hix hz (by rw [List.length_map]; exact hlen) (fun d hd => ?_) (fun d hd => ?_) (fun d hd hp => ?_) hc hfs
  · obtain ⟨a, ha, rfl⟩ := List.mem_map.mp hd
    show bind _ _ (f (u (c a)))
    rw [hu]
    exact hs a ha
  · obtain ⟨a, ha, rfl⟩ := List.mem_map.mp hd
    rw [hu]
    exact ht a ha
  · obtain ⟨a, ha, rfl⟩ := List.mem_map.mp hd
    rw [hu] at hp ⊢
    exact he a ha hp
theorem bl_letLcA {y : Str} {py : Pos} {k : Kn} {rest : List Stmt} {l : List α} {f : α → Gam} (i : Nat) (p : α → Bool) (g : α → D) (hu : ∀ a, u (c a) = a) (ok : BlkOk X.N X.env.scope scope own) (hN : X.N.Nodup) (hw : WP X e tg iter Γ (l.map c))
    (hg : ∀ (s : Shared) (H : Hp) (C : Addr) (cl : List (Str × Addr)) (fp : List Addr), GV (X.blk s H scope (compEnvC scope cl C X.env) fp) e tg ix bind) (hb : BindOk ix bind) (hix : ∀ j ∈ ix, j ∈ own.map (·.2)) (hz : e.own = none ∨ 0 ∉ own.map (·.2)) (hlen : l.length ≤ 100000)
    (hs : ∀ a ∈ l, bind (c a) (wipeG Γ (own.map (·.2))) (f a))
    (ht : ∀ a ∈ l, ∀ (s : Shared) (H : Hp) (C : Addr) (cl : List (Str × Addr)) (fp : List Addr), PTs (X.blk s H scope (compEnvC scope cl C X.env) fp) ifs (tPX X.K e (f a) (p a)))
    (he : ∀ a ∈ l, p a = true → ∀ (s : Shared) (H : Hp) (C : Addr) (cl : List (Str × Addr)) (fp : List Addr), PV (X.blk s H scope (compEnvC scope cl C X.env) fp) e elt (f a) (g a))
    (hr : BL X e rest (Γ.set i (some (.ow (.lst ((l.filter p).map g))))) k)
    (hy : X.N[i]? = some y := by rfl) (hyl : X.env.scope.names.lookup y = some .local := by rfl) (hz2 : e.own = none ∨ i ≠ 0 := by first | exact .inl rfl | exact .inr (by decide))
    (hsw : swapsWith (.ListComp elt [⟨tg, iter, ifs, 0⟩] scope pos) (some (.Name y py)) spos.line X.env = pure true := by rfl)
    (hc : X.calm = true := by rfl) (hfs : ∀ x, foldedSetIterable iter X.env x = pure x := by intro _; rfl) : BL X e (.Assign [.Name y py] (.ListComp elt [⟨tg, iter, ifs, 0⟩] scope pos) spos :: rest) Γ k := by
  rw [← map_inv hu p g l] at hr
  refine bl_letLc (f := fun d => f (u d)) i (fun d => p (u d)) (fun d => g (u d)) ok hN hw hg hb hix hz (by rw [List.length_map]; exact hlen) (fun d hd => ?_) (fun d hd => ?_) (fun d hd hp => ?_) hr hy hyl hz2 hsw hc hfs
  · obtain ⟨a, ha, rfl⟩ := List.mem_map.mp hd
    show bind _ _ (f (u (c a)))
    rw [hu]
    exact hs a ha
  · obtain ⟨a, ha, rfl⟩ := List.mem_map.mp hd
    rw [hu]
    exact ht a ha
  · obtain ⟨a, ha, rfl⟩ := List.mem_map.mp hd
    rw [hu] at hp ⊢
    exact he a ha hp
end lcA
/-- the block of a comprehension, told by tables -/
theorem blk_of {N : List Str} {sc scope : Scope} {own : List (Str × Nat)} (h : L2.blkC N sc scope own = true := by decide +kernel) : BlkOk N sc scope own := L2.blkOk_by h
end Kf
end
section
set_option maxRecDepth 100000
set_option maxHeartbeats 4000000
/-! KfX: own exceptions whose __init__ says super().__init__(text). -/
namespace Kf
open PySem PySem.Spec PyProof.Rows PySem.Calls

/-- what is told of such a class -/
structure ExC (P : Program) (K : Fg) (C fI : Addr) (name qual : Str) (params : Arguments) (body : List Stmt) (scope : Scope) : Prop where
  cls : L2.OexC K C
  ini : W.findIn K (.ref C) "__init__" = some (some (.ref fI))
  ty : W.typeIn K (.ref fI) = some (.type "function")
  fn : ∃ (oc od : _) (kV doc pm : Value) (an : Option Addr) (cda : Addr) (ct : Value) (cc : Addr) (osl : Array (Option Value)) (ccl : Value) (cdd : Option Addr) (vs : Array Value) (ccs : Array (Option Value)) (file : Str) (tf : Tok) (cl : Value) (cld : Option Addr) (csl : Array (Option Value)),
    K.lookup fI = some ⟨oc, od, .func (W.ksFn name qual params body scope .none kV doc pm an (.ref cda) ct cc), osl⟩ ∧ W.codeIn K (.ref cda) qual = true ∧ K.lookup cda = some ⟨ccl, cdd, .fields vs, ccs⟩ ∧ vs[2]? = some (.str file tf) ∧ ((P.main.file : Str) == file) = true ∧
    K.lookup cc = some ⟨cl, cld, .cell (some (.ref C)), csl⟩
  sup : W.ks_superIn K C C "__init__" = some (some (.builtin "ValueError.__init__"))
  sub : W.subIn K (.ref C) (.type "ValueError") = some true
  mro : W.mroIn K C (.ref C) = some true
  opq : W.nsIn K cStatics "thirdparty.any" = some none
  top : (P.main.scope.names.lookup ("super" : Str)).isSome = false
abbrev eo (C t0 : Addr) (d : Option Addr) : Obj := { cls := .ref C, dict := d, data := .fields #[.ref t0, .none, .none, .none, .bool false, .none] }

section
open PySem.W
variable {prog : Program} {w : World} {A : Around} {E : Value → Shared → Prop} {h : Heap} {g : Array GenState} {d : Drawn} {t : Nat} {os : OsState}
variable {nm q : Str} {C N : Addr} {bs bm : List Value} {hdct : Bool} {sn : List Str} {sub : List Value} {ab : Bool} {col : Option Bool} {dd : Option Addr} {k0 k1 k2 k3 k5 : Option Value}
/-- the bound built-in __init__ called -/
theorem call_mw {u e t0 : Addr} {rest : List Value} {Q : Value → Shared → Prop}
    (hC : h.get? C = some (excClassObj nm q C N bs bm hdct sn sub ab col dd k0 k1 k2 k3 k5 "ValueError.__new__")) (he : h.get? e = some (eo C t0 none)) (hu : h.get? u = some (kxs_mw "ValueError.__init__" e)) (hrest : rest.length ≤ sizeLine)
    (hq : ∀ h' t1, (∀ b o, b ≠ e → h.get? b = some o → h'.get? b = some o) → h'.get? e = some (eo C t1 none) → Q .none ⟨h', g, d, t, os⟩) :
    wpAny (model prog w) A (call (.ref u) rest) Q E ⟨h, g, d, t, os⟩ := by
  refine wpAny_call (codeAny_of_tree ?_)
  show wpAny _ A.in1 (callAny (.ref u) ⟨rest, []⟩) _ _ _
  simp only [callAny]
  refine wpAny_bind (wpAny_load hu ?_)
  simp only [kxs_mw, show (Value.type "method-wrapper" == Value.type "method" || Value.type "method-wrapper" == Value.type "builtin_function_or_method" || Value.type "method-wrapper" == Value.type "method-wrapper") = true by decide, if_true]
  refine KFB.if_so (by decide) ?_
  refine wpAny_bind (check_bound_init F.excBase_ValueError.toExcCallFacts hC he rfl ?_)
  refine wpAny_bind (wpAny_pure (wpAny_pure ?_))
  refine ⟨plainId_quiet F.excBase_ValueError.init.plain _, codeAny_builtin F.excBase_ValueError.initEntry ?_⟩
  exact exc_init_tree (cls := .ref C) (t0 := t0) (dv := none) (c2 := .none) (c3 := .none) (b4 := .bool false) he hrest fun h' k e' _ => hq h' _ k e'
/-- super().__init__(text) -/
theorem super_stmt {body : List Stmt} {name qual txt : Str} {params : Arguments} {scope : Scope} {dV kV doc pm ct oc ccl cl : Value} {an od cdd cld : Option Addr} {osl ccs csl : Array (Option Value)} {x fI cc cda L t0 : Addr} {ar : Arg} {vs : Array Value} {file : Str} {tf : Tok} {p0 p1 p2 p3 p4 p5 : Pos} {j : Nat} {K : Fg} {mg m : Str → Option Value} {base : Heap} {Q : Flow → Shared → Prop}
    (KX : K.In h) (M : L2.Mod K mg base) (bk : ∀ b o, base.get? b = some o → h.get? b = some o) (hms : mg "super" = none) (lim : txt.length ≤ 1000)
    (hC : K.lookup C = some (excClassObj nm q C N bs bm hdct sn sub ab col dd k0 k1 k2 k3 k5 "ValueError.__new__"))
    (hf : K.lookup fI = some ⟨oc, od, .func (ksFn name qual params body scope dV kV doc pm an (.ref cda) ct cc), osl⟩) (hcode : K.lookup cda = some ⟨ccl, cdd, .fields vs, ccs⟩) (hvs : vs[2]? = some (.str file tf)) (hfile : ((prog.main.file : Str) == file) = true)
    (hcell : K.lookup cc = some ⟨cl, cld, .cell (some (.ref C)), csl⟩) (sup : ks_superIn K C C "__init__" = some (some (.builtin "ValueError.__init__"))) (sub1 : subIn K (.ref C) (.type "ValueError") = some true) (mro1 : mroIn K C (.ref C) = some true) (opq : nsIn K cStatics "thirdparty.any" = some none)
    (top : (prog.main.scope.names.lookup ("super" : Str)).isSome = false) (hp : (params.posonlyargs ++ params.args).head? = some ar)
    (hks : scope.names.lookup ("super" : Str) = some .globalImplicit) (hkc : scope.names.lookup ("__class__" : Str) = some .free) (hka : scope.names.lookup ar.arg = some .local) (hk : scope.kind = .function)
    (hns : h.Ns L m) (hv : m ar.arg = some (.ref x)) (hx : h.get? x = some (eo C t0 none))
    (hsw : swapsWith (.Call (.Attribute (.Call (.Name "super" p0) [] [] p1) "__init__" p2) [.Constant (.str txt) j p3] [] p4) none p5.line (ksEnv qual scope L fI (.ref cda) cc) = pure false := by rfl)
    (hin : interactive (ksEnv qual scope L fI (.ref cda) cc) = false := by rfl) {pl : Sem Bool}
    (hev : eval (.Call (.Attribute (.Call (.Name "super" p0) [] [] p1) "__init__" p2) [.Constant (.str txt) j p3] [] p4) (ksEnv qual scope L fI (.ref cda) cc) = (do
      let ov ← attributeBase (.Call (.Name "super" p0) [] [] p1) "__init__" (ksEnv qual scope L fI (.ref cda) cc) (eval (.Call (.Name "super" p0) [] [] p1) (ksEnv qual scope L fI (.ref cda) cc))
      standAt p2.atName
      let (f, first) ← holding [ov] (getMethod ov "__init__" pl)
      callWith p4 f first (backTo p4 (starEach [.Constant (.str txt) j p3] (ksEnv qual scope L fI (.ref cda) cc))) []) := by rfl)
    (hq : ∀ h' tk' t1, (∀ b o, b ≠ x → h.get? b = some o → h'.get? b = some o) → h'.get? x = some (eo C t1 none) → Q .next ⟨h', g, d, tk', os⟩) :
    _root_.PySem.wpAt (model prog w) A (.func body (ksEnv qual scope L fI (.ref cda) cc)) (exec (.Expr (.Call (.Attribute (.Call (.Name "super" p0) [] [] p1) "__init__" p2) [.Constant (.str txt) j p3] [] p4) p5) (ksEnv qual scope L fI (.ref cda) cc)) Q E ⟨h, g, d, t, os⟩ := by
  obtain ⟨mb, hb1, hb2⟩ := M.blt
  have hCd : (excClassObj nm q C N bs bm hdct sn sub ab col dd k0 k1 k2 k3 k5 "ValueError.__new__").data = .cls { name := nm, bases := bs, mro := .ref C :: bm, ns := N, qualname := q, hasDict := hdct, slotNames := sn, subclasses := sub, abstract := ab, collection := col, hasDel := false } := rfl
  have hcl : clsIn K C = some { name := nm, bases := bs, mro := .ref C :: bm, ns := N, qualname := q, hasDict := hdct, slotNames := sn, subclasses := sub, abstract := ab, collection := col, hasDel := false } := by unfold clsIn; rw [hC] <;> rfl
  refine ks_wpAt_Expr_any (ks_wpAt_MethodCall ?_ hev) hin hsw
  refine ks_wpAt_super_base (env := ksEnv qual scope L fI (.ref cda) cc) hks hkc (by decide) rfl (KX _ _ hf) rfl hp rfl (KX _ _ hcode) rfl hvs hfile top ?_
  refine ks_loadName_global hk hks (loadGlobal_builtin (env := ksEnv qual scope L fI (.ref cda) cc) (M.glob.keeps bk) hms (hb1.keeps bk) ((hb2 _ (by decide)).trans (show bootBuiltins "super" = some (.type "super") by decide +kernel)) ⟨rfl, ?_⟩)
  refine wpAny_loadName_free hk hkc rfl ⟨_, KX _ _ hcell, rfl⟩ ?_
  refine wpAny_loadName_local hk hka hns hv ?_
  refine ks_wpAny_isType_cls (KX _ _ hC) hCd ⟨rfl, ?_⟩
  refine ks_wpAny_call_super (KX _ _ hC) hCd hx rfl (fun c e => by cases e) (looks_mroIn KX mro1) (fun h1 e1 k1 => ?_)
  have KX1 : K.In h1 := KX.keeps k1
  have hx1 := k1 _ _ hx
  have I1 : InstAt h1 x (eo C t0 none) C none := ⟨hx1, rfl, rfl, trivial⟩
  have hxC : x ≠ C := ks_ne KX1 I1 hcl
  have sup' : alongIn K "__init__" (((.ref C :: bm : List Value).dropWhile (· != .ref C)).drop 1) = some (some (.builtin "ValueError.__init__")) := by
    unfold ks_superIn at sup
    rw [hcl] at sup
    exact sup
  refine kxs_getMethod kxs_ValueError e1 (looks_opaque KX1 opq) (l₀ := .ref C :: bm) (fun A Q E s k q => wpAny_bind ((looks_clsIn KX1 hcl) A _ E s k (wpAny_pure q))) rfl KX1 sup' (I1.type.andThen (looks_subIn KX1 sub1)) hxC (by decide) ?_
  have hu : (h1.push (kxs_mw "ValueError.__init__" x)).get? h1.objs.size = some (kxs_mw "ValueError.__init__" x) := Heap.get?_push_at rfl rfl
  have up : ∀ b o, h1.get? b = some o → (h1.push (kxs_mw "ValueError.__init__" x)).get? b = some o := fun b o e => Heap.get?_push_of_some _ e
  refine kxs_callWith (i := "ValueError.__init__") (x := x) rfl (evalArgs_plain (spliced_cons (Constant_str (pos := p3) (k := j) (spliced_nil ⟨hu, ?_⟩))))
  have hC1 := KX1 _ _ hC
  refine call_mw (h := h1.push (kxs_mw "ValueError.__init__" x)) (up _ _ hC1) (up _ _ hx1) hu (by show 1 ≤ _; decide) fun h' t1 k' e' => ?_
  exact hq h' _ t1 (fun b o hb e => k' b o hb (up b o (k1 b o e))) e'
end
end Kf
end
section
set_option maxRecDepth 100000
set_option maxHeartbeats 4000000
/-! KfX2: such an __init__ as a def that keeps its promise. -/
namespace Kf
open PySem PySem.Spec PyProof.Rows PySem.Calls
open L2 (exo exd HOk ObjOk Room Env0 RelV Vals upd upd_ne upd_same Sp VK XK HO ne_of_none frs)

theorem ldL {M : Model} {A : Around} {E : Value → Shared → Prop} {s : Shared} {env : Env} {m : Str → Option Value} {x : Str} {pos : Pos} {v : Value} {Q : Value → Shared → Prop} (hn : s.heap.Ns env.locals m) (hv : m x = some v) (h : Q v s)
    (hk : env.scope.kind = .function) (hl : env.kindOf x = some .local) (hd : (x == ("__debug__" : Str)) = false) : wpAny M A (eval (.Name x pos) env) Q E s := wpAny_Name (wpAny_loadName_local hk hl hn hv h) hd
abbrev superCall (txt : Str) (j : Nat) (p0 p1 p2 p3 p4 : Pos) : Expr := .Call (.Attribute (.Call (.Name "super" p0) [] [] p1) "__init__" p2) [.Constant (.str txt) j p3] [] p4
/-- the entry, common to all -/
def spI1 (C : Addr) (f : Str) : Sp := fun vs H Q E => ∃ a y, vs = [.ref a, y] ∧ H a = some (exo a C none) ∧ ∀ dx, H dx = none → dx ≠ a → Q .non (upd (upd H dx (exd dx [(f, y)])) a (exo a C (some dx)))
def spI0 (C : Addr) : Sp := fun vs H Q E => ∃ a, vs = [.ref a] ∧ H a = some (exo a C none) ∧ Q .non H
section
variable {P : Program} {w : World} {K : Fg} {mg : Str → Option Value} {base : Heap} {C fI : Addr} {name qual : Str} {params : Arguments} {body : List Stmt} {scope : Scope}
theorem fn_exc1 {f pn txt : Str} {j : Nat} {p0 p1 p2 p3 p4 p5 p6 p7 p8 p9 : Pos} (X : ExC P K C fI name qual params body scope) (hms : mg "super" = none) (hno : W.findIn K (.ref C) f = some none)
    (hbody : body = [.Expr (superCall txt j p0 p1 p2 p3 p4) p5, .Assign [.Attribute (.Name "self" p6) f p7] (.Name pn p8) p9]) (lim : txt.length ≤ 1000)
    (hp : ∃ an1 : Arg, (params.posonlyargs ++ params.args).head? = some an1 ∧ an1.arg = "self") (hks : scope.names.lookup ("super" : Str) = some .globalImplicit) (hkc : scope.names.lookup ("__class__" : Str) = some .free) (hka : scope.names.lookup ("self" : Str) = some .local) (hkp : scope.names.lookup pn = some .local) (hps : pn ≠ "self") (hpd : (pn == ("__debug__" : Str)) = false)
    (hk : scope.kind = .function) (hco : scope.isCoroutine = false) (hgen : scope.isGenerator = false) (hcells : ∀ x ∈ scope.names, x.2 ≠ .cell)
    (hsw : ∀ L f cda cc, swapsWith (superCall txt j p0 p1 p2 p3 p4) none p5.line (W.ksEnv qual scope L f (.ref cda) cc) = pure false) (hin : ∀ L f cda cc, interactive (W.ksEnv qual scope L f (.ref cda) cc) = false)
    (hsw2 : ∀ L fa cda cc, swapsWith (.Name pn p8) (some (.Attribute (.Name "self" p6) f p7)) p9.line (W.ksEnv qual scope L fa (.ref cda) cc) = pure false)
    (hev : ∀ L fa cda cc, ∃ pl, eval (superCall txt j p0 p1 p2 p3 p4) (W.ksEnv qual scope L fa (.ref cda) cc) = (do
      let ov ← attributeBase (.Call (.Name "super" p0) [] [] p1) "__init__" (W.ksEnv qual scope L fa (.ref cda) cc) (eval (.Call (.Name "super" p0) [] [] p1) (W.ksEnv qual scope L fa (.ref cda) cc))
      standAt p2.atName
      let (f, first) ← holding [ov] (getMethod ov "__init__" pl)
      callWith p4 f first (backTo p4 (starEach [.Constant (.str txt) j p3] (W.ksEnv qual scope L fa (.ref cda) cc))) []))
    (hbd : ∀ (kV doc pm : Value) (an : Option Addr) (cdv ct : Value) (cc : Addr) (us : List Value), us.length = 2 → bindArgs (W.ksFn name qual params body scope .none kV doc pm an cdv ct cc) ⟨us, []⟩ = pure ((["self", pn] : List Str).zip us)) :
    ∃ fd, L2.FnOk P w K mg base (L2.CX P w) 1 fI fd ["self", pn] (spI1 C f) ∧ L2.Binds K fd ["self", pn] [] := by
  obtain ⟨oc, od, kV, doc, pm, an, cda, ct, cc, osl, ccl, cdd, vsc, ccs, file, tf, cl, cld, csl, lk, hcd, hcode, hvs, hfile, hcell⟩ := X.fn
  obtain ⟨an1, hp1, hp2⟩ := hp
  refine ⟨W.ksFn name qual params body scope .none kV doc pm an (.ref cda) ct cc, ⟨fun vs H Q E ⟨a, y, h, _⟩ => by rw [h]; rfl, fun A outer s H args us vs Q E hr e0 hb r ⟨a, y, hvs', ha, hq⟩ => ?_⟩, .all fun us hl => hbd kV doc pm an (.ref cda) ct cc us hl⟩
  subst hvs'
  obtain ⟨ua, uy, rfl, ra, ry⟩ := r.two
  obtain rfl : ua = Value.ref a := ra
  obtain ⟨nm, q, N, bs, bm, sn, sub, ab, col, dd, k0, k1, k2, k3, k5, hC, hbm⟩ := X.cls.cls
  obtain ⟨t0, hx⟩ := L2.exo_at e0.hok ha
  have KXs : K.In s.heap := e0.mod.kin.keeps fun b o e => (e0.bs b o e).1
  have limh : s.heap.NoLimit := e0.mod.nolimit.keeps fun b o e => (e0.bs b o e).1
  refine ks_codeAny_call_defAt (fd := W.ksFn name qual params body scope .none kV doc pm an (.ref cda) ct cc) (body := body) (binds := (["self", pn] : List Str).zip [.ref a, uy]) hr.depth (KXs _ _ lk) rfl limh (W.codeRec_of KXs hcd) rfl hb hcells ?_ (fun h₁ hns hk₁ => ?_) hco hgen hk
  · intro x hx
    rcases List.mem_cons.mp hx with rfl | hx
    · exact hka
    · rcases List.mem_cons.mp hx with rfl | hx
      · exact hkp
      · cases hx
  obtain ⟨hp', g, d, t, os⟩ := s
  subst hbody
  have KX1 : K.In h₁ := KXs.keeps hk₁
  have hxa := hk₁ _ _ hx
  have hLa : hp'.objs.size ≠ a := fun z => by
    have : a < hp'.objs.size := Heap.lt_size hx
    rw [z] at this
    exact Nat.lt_irrefl _ this
  obtain ⟨pl, hev'⟩ := hev hp'.objs.size fI cda cc
  have lkS : ∀ {z : Str} {v : Value}, ((["self", pn] : List Str).zip [Value.ref a, uy]).reverse.lookup ("self" : Str) = some (Value.ref a) := fun {z v} => by
    show List.lookup ("self" : Str) [(pn, uy), (("self" : Str), Value.ref a)] = _
    have : (("self" : Str) == pn) = false := by simpa using fun z => hps z.symm
    rw [List.lookup_cons, this, List.lookup_cons]
    simp
  have lkP : ((["self", pn] : List Str).zip [Value.ref a, uy]).reverse.lookup pn = some uy := by
    show List.lookup pn [(pn, uy), (("self" : Str), Value.ref a)] = _
    rw [List.lookup_cons]
    simp
  refine ks_wpAt_execs_cons (super_stmt KX1 e0.mod (fun b o e => hk₁ b o (e0.bs b o e).1) hms lim hC lk hcode hvs hfile hcell X.sup X.sub X.mro X.opq X.top hp1 hks hkc (by rw [hp2]; exact hka) hk hns (by rw [hp2]; exact lkS (z := pn) (v := uy)) hxa (hsw _ _ _ _) (hin _ _ _ _) hev' fun h2 tk2 t1 k2' e2 => ?_)
  have hns2 := hns.at fun o q => k2' _ _ hLa q
  have KX2 : K.In h2 := fun b o q => k2' b o (fun z => by
    have := L2.exo_at e0.hok ha
    have hb1 := (e0.mod.kin b o q)
    rw [z] at hb1
    have := (e0.bs a o hb1).2
    rw [ha] at this
    cases this) (KX1 b o q)
  refine ks_wpAt_execs_cons (PyProof.Rows.wpAt_of_any (plainObj_wpAny_Assign_Attribute (ldL hns2 lkP (ldL hns2 (lkS (z := pn) (v := uy)) ?_ hk hka (by decide)) hk hkp hpd) (hsw2 _ _ _ _)))
  have hcl : W.clsIn K C = some { name := nm, bases := bs, mro := .ref C :: bm, ns := N, qualname := q, hasDict := true, slotNames := sn, subclasses := sub, abstract := ab, collection := col, hasDel := false } := by unfold W.clsIn; rw [hC] <;> rfl
  refine W.set_plain KX2 (ox := eo C t1 none) (od := none) ⟨e2, rfl, rfl, trivial⟩ X.cls.sa ?_
  refine HandSPX.exc_osa KX2 e2 hcl (show HandSPX.refsVE (.ref C :: bm) = true from hbm) rfl hno (fun h3 tk3 dx k3' dn dne hx3 hn3 => ?_)
  show _root_.PySem.wpAt _ _ _ (execs [] _) _ _ _
  refine PyProof.Rows.wpAt_of_any (wpAny_execs_nil ?_)
  have hL2 : hp'.objs.size < h2.objs.size := by
    obtain ⟨o, es, ep, ho, _⟩ := hns2
    exact Heap.lt_size ho
  have big : ∀ {b : Addr} {o : Obj}, hp'.get? b = some o → b ≠ dx := fun {b o} z e => by
    have h1 : b < hp'.objs.size := Heap.lt_size z
    rw [e] at h1
    exact Nat.lt_irrefl _ (Nat.lt_of_lt_of_le (Nat.lt_trans h1 hL2) dn)
  have hnd : H dx = none := by
    cases z : H dx with
    | none => rfl
    | some u =>
      have h1 : dx < hp'.objs.size := (e0.hok dx u z).lt
      exact absurd (Nat.lt_of_lt_of_le (Nat.lt_trans h1 hL2) dn) (Nat.lt_irrefl _)
  have kk : ∀ b o, b ≠ a → hp'.get? b = some o → h3.get? b = some o := fun b o hb z => k3' b o hb (k2' b o hb (hk₁ b o z))
  have na : ∀ {b : Addr}, H b = none → b ≠ a := fun {b} n z => by
    rw [z, ha] at n
    cases n
  have Un1 : L2.Un (frs outer) [] H (upd (upd H dx (exd dx [(f, y)])) a (exo a C (some dx))) hp' h3 := {
    keep := fun b o q n _ _ => kk b o (na n) q
    slot := fun b o q n _ _ => ⟨o.slots, kk b o (na n) q⟩
    free := fun b o q n _ => by rw [upd_ne (na n), upd_ne (big q)]; exact n
    there := fun b o q _ => by
      by_cases hb : b = a
      · exact ⟨_, by rw [hb]; exact hx3⟩
      · exact ⟨o, kk b o hb q⟩
    tups := fun b xs q => by rw [upd_ne (L2.at_ne ha q L2.exo_tup), upd_ne (ne_of_none q hnd)]; exact q
    frzs := fun b o v q => by rw [upd_ne (L2.at_ne ha q L2.exo_frz), upd_ne (ne_of_none q hnd)]; exact q
    tbls := fun b ps q => ⟨#[], by rw [upd_ne (L2.at_ne ha q L2.exo_tbl), upd_ne (ne_of_none q hnd), q]; simp⟩ }
  refine ⟨.non, _, rfl, e0.bare, Un1, fun b o q => ?_, rfl, hq dx hnd dne⟩
  by_cases hb : b = a
  · subst hb
    rw [upd_same] at q
    cases q
    exact L2.exo_ok hx3
  · rw [upd_ne hb] at q
    by_cases hd : b = dx
    · subst hd
      rw [upd_same] at q
      cases q
      exact L2.exd_ok hn3 (L2.relO_put (fs := []) ry fun g => True.intro)
    · rw [upd_ne hd] at q
      exact (e0.hok b o q).stay (fun c v hc z => kk c v (by
          rcases hc with hc | hc
          · rw [hc]
            exact hb
          · exact L2.at_ne ha hc L2.exo_own) z)
        (fun c hc => by rw [upd_ne (L2.at_ne ha hc L2.exo_own), upd_ne (ne_of_none hc hnd)]; exact hc) (fun c xs hc => by rw [upd_ne (L2.at_ne ha hc L2.exo_tup), upd_ne (ne_of_none hc hnd)]; exact hc)
theorem fn_exc0 {txt : Str} {j : Nat} {p0 p1 p2 p3 p4 p5 : Pos} (X : ExC P K C fI name qual params body scope) (hms : mg "super" = none)
    (hbody : body = [.Expr (superCall txt j p0 p1 p2 p3 p4) p5]) (lim : txt.length ≤ 1000)
    (hp : ∃ an1 : Arg, (params.posonlyargs ++ params.args).head? = some an1 ∧ an1.arg = "self") (hks : scope.names.lookup ("super" : Str) = some .globalImplicit) (hkc : scope.names.lookup ("__class__" : Str) = some .free) (hka : scope.names.lookup ("self" : Str) = some .local)
    (hk : scope.kind = .function) (hco : scope.isCoroutine = false) (hgen : scope.isGenerator = false) (hcells : ∀ x ∈ scope.names, x.2 ≠ .cell)
    (hsw : ∀ L f cda cc, swapsWith (superCall txt j p0 p1 p2 p3 p4) none p5.line (W.ksEnv qual scope L f (.ref cda) cc) = pure false) (hin : ∀ L f cda cc, interactive (W.ksEnv qual scope L f (.ref cda) cc) = false)
    (hev : ∀ L fa cda cc, ∃ pl, eval (superCall txt j p0 p1 p2 p3 p4) (W.ksEnv qual scope L fa (.ref cda) cc) = (do
      let ov ← attributeBase (.Call (.Name "super" p0) [] [] p1) "__init__" (W.ksEnv qual scope L fa (.ref cda) cc) (eval (.Call (.Name "super" p0) [] [] p1) (W.ksEnv qual scope L fa (.ref cda) cc))
      standAt p2.atName
      let (f, first) ← holding [ov] (getMethod ov "__init__" pl)
      callWith p4 f first (backTo p4 (starEach [.Constant (.str txt) j p3] (W.ksEnv qual scope L fa (.ref cda) cc))) []))
    (hbd : ∀ (kV doc pm : Value) (an : Option Addr) (cdv ct : Value) (cc : Addr) (us : List Value), us.length = 1 → bindArgs (W.ksFn name qual params body scope .none kV doc pm an cdv ct cc) ⟨us, []⟩ = pure ((["self"] : List Str).zip us)) :
    ∃ fd, L2.FnOk P w K mg base (L2.CX P w) 1 fI fd ["self"] (spI0 C) ∧ L2.Binds K fd ["self"] [] := by
  obtain ⟨oc, od, kV, doc, pm, an, cda, ct, cc, osl, ccl, cdd, vsc, ccs, file, tf, cl, cld, csl, lk, hcd, hcode, hvs, hfile, hcell⟩ := X.fn
  obtain ⟨an1, hp1, hp2⟩ := hp
  refine ⟨W.ksFn name qual params body scope .none kV doc pm an (.ref cda) ct cc, ⟨fun vs H Q E ⟨a, h, _⟩ => by rw [h]; rfl, fun A outer s H args us vs Q E hr e0 hb r ⟨a, hvs', ha, hq⟩ => ?_⟩, .all fun us hl => hbd kV doc pm an (.ref cda) ct cc us hl⟩
  subst hvs'
  obtain ⟨ua, rfl, ra⟩ := L2.vals1 r
  obtain rfl : ua = Value.ref a := ra
  obtain ⟨nm, q, N, bs, bm, sn, sub, ab, col, dd, k0, k1, k2, k3, k5, hC, hbm⟩ := X.cls.cls
  obtain ⟨t0, hx⟩ := L2.exo_at e0.hok ha
  have KXs : K.In s.heap := e0.mod.kin.keeps fun b o e => (e0.bs b o e).1
  have limh : s.heap.NoLimit := e0.mod.nolimit.keeps fun b o e => (e0.bs b o e).1
  refine ks_codeAny_call_defAt (fd := W.ksFn name qual params body scope .none kV doc pm an (.ref cda) ct cc) (body := body) (binds := (["self"] : List Str).zip [.ref a]) hr.depth (KXs _ _ lk) rfl limh (W.codeRec_of KXs hcd) rfl hb hcells ?_ (fun h₁ hns hk₁ => ?_) hco hgen hk
  · intro x hx
    rcases List.mem_cons.mp hx with rfl | hx
    · exact hka
    · cases hx
  obtain ⟨hp', g, d, t, os⟩ := s
  subst hbody
  have KX1 : K.In h₁ := KXs.keeps hk₁
  have hxa := hk₁ _ _ hx
  have hLa : hp'.objs.size ≠ a := fun z => by
    have : a < hp'.objs.size := Heap.lt_size hx
    rw [z] at this
    exact Nat.lt_irrefl _ this
  obtain ⟨pl, hev'⟩ := hev hp'.objs.size fI cda cc
  have lkS : (((["self"] : List Str)).zip [Value.ref a]).reverse.lookup ("self" : Str) = some (Value.ref a) := by
    show List.lookup ("self" : Str) [(("self" : Str), Value.ref a)] = _
    rw [List.lookup_cons]
    simp
  refine ks_wpAt_execs_cons (super_stmt KX1 e0.mod (fun b o e => hk₁ b o (e0.bs b o e).1) hms lim hC lk hcode hvs hfile hcell X.sup X.sub X.mro X.opq X.top hp1 hks hkc (by rw [hp2]; exact hka) hk hns (by rw [hp2]; exact lkS) hxa (hsw _ _ _ _) (hin _ _ _ _) hev' fun h2 tk2 t1 k2' e2 => ?_)
  show _root_.PySem.wpAt _ _ _ (execs [] _) _ _ _
  refine PyProof.Rows.wpAt_of_any (wpAny_execs_nil ?_)
  have kk : ∀ b o, b ≠ a → hp'.get? b = some o → h2.get? b = some o := fun b o hb z => k2' b o hb (hk₁ b o z)
  have na : ∀ {b : Addr}, H b = none → b ≠ a := fun {b} n z => by
    rw [z, ha] at n
    cases n
  have Un1 : L2.Un (frs outer) [] H H hp' h2 := {
    keep := fun b o q n _ _ => kk b o (na n) q
    slot := fun b o q n _ _ => ⟨o.slots, kk b o (na n) q⟩
    free := fun b o q n _ => n
    there := fun b o q _ => by
      by_cases hb : b = a
      · exact ⟨_, by rw [hb]; exact e2⟩
      · exact ⟨o, kk b o hb q⟩
    tups := fun b xs q => q
    frzs := fun b o v q => q
    tbls := fun b ps q => ⟨#[], by rw [q]; simp⟩ }
  refine ⟨.non, _, rfl, e0.bare, Un1, fun b o q => ?_, rfl, hq⟩
  by_cases hb : b = a
  · subst hb
    rw [ha] at q
    cases q
    exact L2.exo_ok e2
  · exact (e0.hok b o q).stay (fun c v hc z => kk c v (by
          rcases hc with hc | hc
          · rw [hc]
            exact hb
          · exact L2.at_ne ha hc L2.exo_own) z) (fun c hc => hc) (fun c xs hc => hc)
end
end Kf
end
section
set_option maxRecDepth 100000
set_option maxHeartbeats 4000000
/-! KfX3: C(..) of such a class, raise. -/
namespace L2
open PySem PySem.Spec PyProof.Rows
section
variable {X : Cx} {p pos : Pos}
/-- the end of C(): the exception is let go, it has no dict -/
theorem mk_endN {pins : List (Addr × Obj)} {σ : St} {H1 H2 : Hp} {hp hp2 h2 : Heap} {g1 g2 : Array GenState} {d1 d2 : Drawn} {t1 t2 : Nat} {os1 os2 : OsState} {a C : Addr} (I1 : Inv X pins σ H1 ⟨hp, g1, d1, t1, os1⟩)
    (ha : hp.objs.size ≤ a) (k : ∀ b o, hp.get? b = some o → hp2.get? b = some o) (un : Un (frs X.stack) [] (upd H1 a (exo a C none)) H2 hp2 h2) (hok : HOk X.prog X.w H2 h2) (ho : os2 = os1) (hb : AllBare g2)
    (ea : H2 a = some (exo a C none)) (e2 : ∀ b, b ≠ a → H2 b = H1 b) :
    ∃ (t0 : Addr) (G : Heap), Inv X pins σ H1 ⟨G, g2, d2, t2, os2⟩ ∧ (∀ b o, G.get? b = some o → h2.get? b = some o) ∧ G.get? a = none ∧
      h2.get? a = some ({ cls := .ref C, dict := none, data := .fields #[.ref t0, .none, .none, .none, .bool false, .none] } : Obj) ∧ H1 a = none := by
  obtain ⟨t0, hoe⟩ := exo_at hok ea
  have hn : H1 a = none := I1.hok.fresh ha
  obtain ⟨G, g1', g2'⟩ := restrict h2 fun b => decide (b ≠ a)
  have gk : ∀ b, b ≠ a → G.get? b = h2.get? b := fun b hb => g1' b (decide_eq_true hb)
  have ge : G.get? a = none := g2' a (by simp)
  have nha : ∀ {b : Addr} {o : Obj}, hp.get? b = some o → b ≠ a := fun {b o} z => Nat.ne_of_lt (Nat.lt_of_lt_of_le (Heap.lt_size z) ha)
  have up : ∀ {b : Addr}, b ≠ a → H1 b = none → upd H1 a (exo a C none) b = none := fun {b} hb n => by rw [upd_ne hb]; exact n
  have U : Un (frs X.stack) [] H1 H1 hp G := {
    keep := fun b o z n hf hx => by
      rw [gk b (nha z)]
      exact un.keep b o (k b o z) (up (nha z) n) hf hx
    slot := fun b o z n hf hx => by
      rw [gk b (nha z)]
      exact un.slot b o (k b o z) (up (nha z) n) hf hx
    free := fun b o z n hx => n
    there := fun b o z hx => by
      rw [gk b (nha z)]
      exact un.there b o (k b o z) hx
    tups := fun b xs z => z
    frzs := fun b o v z => z
    tbls := fun b ps z => ⟨#[], by rw [z]; simp⟩ }
  have hok3 : HOk X.prog X.w H1 G := fun b o z => by
    have hba : b ≠ a := fun e => by
      rw [e, hn] at z
      cases z
    have z2 : H2 b = some o := by rw [e2 b hba]; exact z
    have noa : ∀ {c : Addr}, H2 c = some (.own b) → c ≠ a := fun {c} hc => at_ne ea hc exo_own
    exact (hok b o z2).stay (fun c v hc y => by
        have hca : c ≠ a := by
          rcases hc with hc | hc
          · rw [hc]
            exact hba
          · exact noa hc
        rw [gk c hca]
        exact y)
      (fun c hc => by rw [← e2 c (noa hc)]; exact hc) (fun c xs hc => by rw [← e2 c (at_ne ea hc exo_tup)]; exact hc)
  have J : Inv X pins σ H1 ⟨G, g2, d2, t2, os2⟩ := I1.call' (ch := []) ho U hok3 hb (fun b z => absurd z (by simp))
  refine ⟨t0, G, J, fun b o z => ?_, ge, hoe, hn⟩
  by_cases hba : b = a
  · rw [hba, ge] at z
    cases z
  · exact (gk b hba).symm.trans z
/-- C(), C's own __init__ keeping sp -/
def tMkO0 (C : Addr) (sp : Sp) : St → Hp → XK → Prop := fun σ H Q => ∀ a, H a = none → sp [.ref a] (upd H a (exo a C none))
  (fun v H2 => v = .non ∧ H2 a = some (exo a C none) ∧ (∀ b, b ≠ a → H2 b = H b) ∧ Q (.ref C) none H) (fun _ _ _ => False)
theorem pmk_oex0 {CX : CXT} {x : Str} {C fI : Addr} {k : Nat} {fd : FuncData} {ps : List Str} {sp : Sp} (T : OexC X.K C) (iC : PySem.W.findIn X.K (.ref C) "__init__" = some (some (.ref fI))) (tI : PySem.W.typeIn X.K (.ref fI) = some (.type "function"))
    (F1 : FnOk X.prog X.w X.K X.mg X.base CX k fI fd ps sp) (hr : Room (k + 1) X.A) (hb : Binds X.K fd ps []) (hx : Passes CX X (fun _ _ _ => False)) (hg : Gl X x) (hm : X.mg x = some (.ref C)) (hdb : (x == ("__debug__" : Str)) = false := by decide) :
    PMk X (.Call (.Name x p) [] [] pos) (tMkO0 C sp) := by
  intro pins s σ H Q I h
  obtain ⟨nm, q, N, bs, bm, sn, sub, ab, col, dd, k0, k1, k2, k3, k5, hC, hbm⟩ := T.cls
  refine wpAny_Call_Name_kw (ld_glob I hg hm ?_ hdb)
  refine PySem.W.callWith_K0 I.kIn T.kC ?_
  show wpAny _ _ (call (.ref C) []) _ _ _
  obtain ⟨hp, g, dr, tk, os⟩ := s
  have hsz : hp.objs.size ≤ hp.objs.size + 1 := Nat.le_succ _
  have hn : H (hp.objs.size + 1) = none := I.hok.fresh hsz
  have hq := h (hp.objs.size + 1) hn
  have kk : ∀ b o, hp.get? b = some o → ((hp.push (PySem.W.kdv_tup [])).push (PySem.HandSPX.excO C hp.objs.size)).get? b = some o := fun b o e => Heap.get?_push_of_some _ (Heap.get?_push_of_some _ e)
  have hget : ((hp.push (PySem.W.kdv_tup [])).push (PySem.HandSPX.excO C hp.objs.size)).get? (hp.objs.size + 1) = some (PySem.HandSPX.excO C hp.objs.size) := by heap_get
  have I2 : Inv X pins σ (upd H (hp.objs.size + 1) (exo (hp.objs.size + 1) C none)) ⟨(hp.push (PySem.W.kdv_tup [])).push (PySem.HandSPX.excO C hp.objs.size), g, dr, tk, os⟩ :=
    I.laid (t' := tk) (a := hp.objs.size + 1) (o := exo (hp.objs.size + 1) C none) (h' := (hp.push (PySem.W.kdv_tup [])).push (PySem.HandSPX.excO C hp.objs.size)) kk hsz (exo_ok hget)
  have r2 : Vals [V.ref (hp.objs.size + 1)] [Value.ref (hp.objs.size + 1)] := .cons rfl .nil
  have hl : ([Value.ref (hp.objs.size + 1)] ++ []).length = ps.length := (F1.len _ _ _ _ hq)
  refine wpAny_call (PySem.HandSPX.call_own F.excBase_ValueError (fun Y => PySem.HandSPX.refsVE_contains Y bm hbm) (I.kIn _ _ hC) (PySem.W.looks_findIn I.kIn iC) (fun self => PySem.W.bind_fn I.kIn self tI) (Nat.zero_le _)
    (codeAny_mono (F1.run _ X.stack _ _ ⟨[Value.ref (hp.objs.size + 1)], []⟩ [Value.ref (hp.objs.size + 1)] _ _ (fun _ _ _ => False) (hr.make C [] []) (I2.env0.make C [] []) (hb _ [Value.ref (hp.objs.size + 1)] I2.kIn hl) r2 hq) fun r s' hq' => ?_))
  cases r with
  | error er => exact hx pins σ _ _ er s' I2 hq'
  | ok fl =>
    cases fl with
    | ret u =>
      obtain ⟨v, H2, os2, bare2, un2, hok2, rv, ev, ea, e2, q2⟩ := hq'
      subst ev
      obtain ⟨h2, g2, d2, t2, os'⟩ := s'
      obtain ⟨t0, G, J, kG, ge, hoe, na⟩ := mk_endN (d2 := d2) (t2 := t2) I hsz kk un2 hok2 os2 bare2 ea e2
      exact ⟨rv, _, _, _, ⟨G, g2, d2, t2, os'⟩, H, .ref C, none, rfl, J, kG, ge, hoe, ⟨rfl, rfl⟩, rfl, rfl, na, rfl, bare2, raises_own T.exC T.tyC, q2⟩
    | next => exact False.elim hq'
    | brk => exact False.elim hq'
    | cont => exact False.elim hq'
end
end L2

namespace Kf
open PySem L2
/-- an exception class of the text, by its name: C(y) has the field f | C() has none -/
structure Xc1 (P : Program) (w : World) (K : Fg) (mg : Str → Option Value) (base : Heap) (x f : Str) : Prop where
  at_ : mg x = some (.ref (He.ga K x))
  cls : OexC K (He.ga K x)
  fn : ∃ fI fd ps, PySem.W.findIn K (.ref (He.ga K x)) "__init__" = some (some (.ref fI)) ∧ PySem.W.typeIn K (.ref fI) = some (.type "function") ∧ FnOk P w K mg base (L2.CX P w) 1 fI fd ps (spI1 (He.ga K x) f) ∧ Binds K fd ps []
structure Xc0 (P : Program) (w : World) (K : Fg) (mg : Str → Option Value) (base : Heap) (x : Str) : Prop where
  at_ : mg x = some (.ref (He.ga K x))
  cls : OexC K (He.ga K x)
  fn : ∃ fI fd ps, PySem.W.findIn K (.ref (He.ga K x)) "__init__" = some (some (.ref fI)) ∧ PySem.W.typeIn K (.ref fI) = some (.type "function") ∧ FnOk P w K mg base (L2.CX P w) 1 fI fd ps (spI0 (He.ga K x)) ∧ Binds K fd ps []
section
variable {X : Cx} {e : Ent} {Γ : Gam} {a : Expr} {pos p rpos : Pos} {k : Kn} {rest : List Stmt} {U : Wx}
/-- raise C(a) -/
theorem bl_raise1 {x f : Str} {d : D} {j : Nat} (C : Xc1 X.prog X.w X.K X.mg X.base x f) (hr : Room j X.A) (hj : 2 ≤ j) (ha : PV X e a Γ d) (tk : Takes X (wX X.K e U)) (hU : U x [(f, d)] Γ) (hg : Gl X x := by rfl) (hdb : (x == ("__debug__" : Str)) = false := by decide) (hc : X.calm = true := by rfl)
    (he : starEach [a] X.env = (false, eval a X.env) :: starEach [] X.env := by rfl) (hpl : (backTo pos (starEach [] X.env)).any (·.1) = false := by rfl) : BL X e (.Raise (some (.Call (.Name x p) [a] [] pos)) none rpos :: rest) Γ k := by
  obtain ⟨fI, fd, ps, iC, tI, F1, hb⟩ := C.fn
  refine bl_cons (fun _ => False) (PS.imp (ps_raise hc tk (pmk_oex (dvs := []) C.cls iC tI F1 (hr.mono hj) hb .nil (passes_call takes0 fun _ _ _ _ z => z.elim) hg C.at_ (pvs_one ha he) hdb he hpl)) fun D σ H ⟨S, w, nx, _⟩ => ?_) fun _ q => q.elim
  refine ⟨S, w, fun S1 H1 vs s1 w1 r1 => ?_⟩
  cases r1 with
  | cons r2 r3 =>
    rename_i v _
    cases r3
    refine ⟨by show 1 ≤ 1000; decide, fun c hc => ⟨c, v, rfl, upd_same, fun dx hdx ne => ⟨rfl, dx, [(f, v)], upd_same, by rw [upd_ne ne, upd_same], ?_, ?_⟩⟩⟩
    · rw [upd_ne ne] at hdx
      exact hdx
    · have hd0 : H1 dx = none := by rw [upd_ne ne] at hdx; exact hdx
      have e1 : upd (del (upd (upd (upd H1 c (exo c (He.ga X.K x) none)) dx (exd dx [(f, v)])) c (exo c (He.ga X.K x) (some dx))) c) dx (.xd [(f, v)]) = upd H1 dx (.xd [(f, v)]) := by
        funext b
        by_cases hb : b = dx
        · rw [hb, upd_same, upd_same]
        · rw [upd_ne hb, upd_ne hb]
          by_cases hbc : b = c
          · rw [hbc, del_same, hc]
          · rw [del_ne hbc, upd_ne hbc, upd_ne hb, upd_ne hbc]
      rw [e1]
      exact ⟨S1, x, _, Γ, hU, w1.own hd0, rfl, .inr ⟨dx, _, rfl, upd_same, w1.nx.fresh hd0, .cons r2 .nil⟩⟩
/-- raise C() -/
theorem bl_raise0 {x : Str} {j : Nat} (C : Xc0 X.prog X.w X.K X.mg X.base x) (hr : Room j X.A) (hj : 2 ≤ j) (tk : Takes X (wX X.K e U)) (hU : U x [] Γ) (hg : Gl X x := by rfl) (hdb : (x == ("__debug__" : Str)) = false := by decide) (hc : X.calm = true := by rfl) : BL X e (.Raise (some (.Call (.Name x p) [] [] pos)) none rpos :: rest) Γ k := by
  obtain ⟨fI, fd, ps, iC, tI, F1, hb⟩ := C.fn
  refine bl_cons (fun _ => False) (PS.imp (ps_raise hc tk (pmk_oex0 C.cls iC tI F1 (hr.mono hj) hb (passes_call takes0 fun _ _ _ _ z => z.elim) hg C.at_ hdb)) fun D σ H ⟨S, w, nx, _⟩ => ?_) fun _ q => q.elim
  refine fun c hc => ⟨c, rfl, upd_same, rfl, upd_same, fun b hb => upd_ne hb, S, x, [], Γ, hU, w, rfl, .inl ⟨rfl, rfl⟩⟩
end
end Kf
end
section
set_option maxRecDepth 100000
set_option maxHeartbeats 4000000
/-! KfK: isinstance on data, is None. -/
namespace Kf
open PySem L2

/-- the name of a datum's type -/
def tyD : D → String
  | .non => "NoneType"
  | .bl _ => "bool"
  | .int _ => "int"
  | .str _ => "str"
  | .lst _ => "list"
  | .tup _ => "tuple"
  | .dK _ => "dict"
  | .dT _ => "dict"
  | _ => "object"
def plainD : D → Bool
  | .ids _ _ => false
  | .lstK _ => false
  | .obj _ _ => false
  | .glo _ => false
  | .ty _ => false
  | _ => true
theorem rp_tyx {K : Fg} {S H : Hp} {v : V} {d : D} (s : Same S H) (r : Rp K S v d) (p : plainD d = true) : TyX K H v (.type (tyD d)) ∨ ((∃ l, d = .dK l) ∨ ∃ l, d = .dT l) := by
  cases r with
  | non => exact .inl (.base .non)
  | bl b => exact .inl (.base (.bl b))
  | int b => exact .inl (.base (.int b))
  | str b => exact .inl (.base (.str b))
  | lst h t =>
    rcases h with h | ⟨o, h⟩
    · exact .inl (.base (.lst (s _ _ h)))
    · exact .inl (.base (.frz (s _ _ h)))
  | tup h t =>
    rcases same_sqT s h with h | h
    · rcases h with h | ⟨o, h⟩
      · exact .inl (.base (.tup h))
      · exact .inl (.fTuple h)
    · obtain ⟨o, its, n, h0, h1, _⟩ := h
      exact .inl (.kTuple h0 h1)
  | dK h t => exact .inr (.inl ⟨_, rfl⟩)
  | dT h t => exact .inr (.inr ⟨_, rfl⟩)
  | obj h t => cases p
  | glo x => cases p
  | ty n => cases p
  | ids h => cases p
  | lstK h t => cases p
section
variable {X : Cx} {e : Ent} {Γ : Gam} {a b : Expr} {pos p : Pos} {d : D}
def noDict : D → Bool
  | .ids _ _ => false
  | .lstK _ => false
  | .dK _ => false
  | .dT _ => false
  | .obj _ _ => false
  | .glo _ => false
  | .ty _ => false
  | _ => true
theorem scl_isi {T : String} {k : Bool} (hp : noDict d = true) (hk : kitB (tyD d) T = some k) : ScL X.K (rIsi X.K) [d, .ty T] (.bl k) := fun S H vs Q s r q => by
  cases r with
  | cons r1 r2 =>
    cases r2 with
    | cons r2 r3 =>
      cases r3
      cases r2
      have hpl : plainD d = true := by cases d <;> first | rfl | cases hp
      rcases rp_tyx s r1 hpl with h | h
      · exact ⟨_, _, _, _, k, rfl, .ty T, h, kit_ty hk, q _ (.bl _)⟩
      · exfalso
        rcases h with ⟨l, rfl⟩ | ⟨l, rfl⟩ <;> cases hp
/-- isinstance(x, T) -/
theorem pv_isi {T : String} {n : Str} {np : Pos} (k : Bool) (ha : PV X e a Γ d) (hp : noDict d = true) (hk : kitB (tyD d) T = some k) (hm : X.mg "isinstance" = none) (hmT : X.mg n = none) (hv : bootBuiltins n = some (.type T) := by decide +kernel) (hg : Gl X "isinstance" := by rfl) (hgT : Gl X n := by rfl) (hn : n ≠ "__name__" := by decide) (hd : (n == ("__debug__" : Str)) = false := by decide)
    (he : starEach [a, .Name n np] X.env = (false, eval a X.env) :: starEach [.Name n np] X.env := by rfl) (he2 : starEach [.Name n np] X.env = (false, eval (.Name n np) X.env) :: starEach [] X.env := by rfl) (hpl : (backTo pos (starEach [.Name n np] X.env)).any (·.1) = false := by rfl) :
    PV X e (.Call (.Name "isinstance" p) [a, .Name n np] [] pos) Γ (.bl k) :=
  pv_cb call_isi hm (by decide +kernel) (pvs_cons ha (pvs_cons (pv_ty hgT hmT hv hn hd) pvs_nil he2) he) (scl_isi hp hk) hg (by decide) (by decide) he hpl
/-- x is None -/
def isNon : D → Bool
  | .non => true
  | _ => false
theorem sc_isN (hd : ∀ v d', d ≠ .ids v d' := by intro _ _ h; cases h) : Sc X.K (fun x y H Q => y = .non ∧ Q (.bl (decide (x = .non))) H) d .non (.bl (isNon d)) := fun S H v1 v2 Q s r1 r2 q => by
  cases r2
  refine ⟨rfl, ?_⟩
  have : decide (v1 = V.non) = isNon d := by
    cases r1 <;> first | exact absurd rfl (hd _ _) | simp [isNon]
  rw [this]
  exact q _ (.bl _)
end
end Kf
end
section
set_option maxRecDepth 100000
set_option maxHeartbeats 4000000
/-! KfY: try, except C as e; isinstance(e, C); e.f. -/
namespace Kf
open PySem L2

/-- isinstance(e, c), e the error that the suite holds, with or without a dict -/
def rIsX (K : Fg) (D a : Addr) (d : Option Addr) : List V → Hp → VK → Prop := fun xs H Q => ∃ (c : V) (cv : Value) (b : Bool), xs = [.ref a, c] ∧ (∀ u, RelV c u → u = cv) ∧ (d = none ∨ ∃ dd fs, d = some dd ∧ H dd = some (.xd fs)) ∧ PySem.W.kitOne K (.ref D) cv = some b ∧ Q (.bl b) H
theorem call_isX {X : Cx} {a D : Addr} {d : Option Addr} {oe : Obj} {pn : List (Addr × Obj)} (C : ExcC X.K D) (hz : Zc (.ref D) d oe) (hf : ∃ vs, oe.data = .fields vs) : CallR (X.suite a ((a, oe) :: pn)) (.builtin "isinstance") (rIsX X.K D a d) := by
  intro pins s σ H xs us Q I r h
  obtain ⟨c, cv, b, rfl, hcv, hd, e, q⟩ := h
  cases r with
  | cons rx rr =>
    cases rr with
    | cons rt rr =>
      cases rr
      cases rx
      have ec := hcv _ rt
      subst ec
      obtain ⟨hget, _⟩ := I.pin (a, oe) (List.mem_append.mpr (.inl List.mem_cons_self))
      obtain ⟨vs, hv⟩ := hf
      obtain ⟨cd, hcd, _⟩ := PySem.W.any_some C.hd
      have J : ∃ od, PySem.W.InstAt s.heap a oe D od := by
        obtain ⟨oc, od, oda, osl⟩ := oe
        obtain ⟨h1, h2⟩ := hz
        dsimp only at h1 h2 hv
        subst h1 h2 hv
        rcases hd with hd | ⟨dd, fs, hd, hx⟩
        · subst hd
          exact ⟨none, hget, rfl, rfl, trivial⟩
        · subst hd
          obtain ⟨mA, ⟨o, es, ep, ho, _⟩, _⟩ := (show ObjOk X.prog X.w H s.heap dd (.xd fs) from I.hok dd _ hx)
          exact ⟨some o, hget, rfl, rfl, ho⟩
      obtain ⟨od, J⟩ := J
      exact PySem.W.kia_one (PySem.W.kitx_exc (od := od) (by rw [hcd]; rfl) C.hg C.hk C.hs C.ha C.hn C.ht C.hm) I.kIn J e (fun z => nomatch z) fun tk => ⟨.bl b, H, I.kept (t' := tk) fun _ _ z => z, rfl, q⟩
section
variable {X : Cx} {e : Ent} {Γ : Gam} {pos p p1 p2 : Pos} {a : Addr} {oe : Obj} {x : Str} {d : Option Addr} {fl : List (Str × D)} {pn : List (Addr × Obj)} {n : Str}
theorem xcs_at {K : Fg} {S H : Hp} (s : Same S H) (h : XcS K S d fl) : d = none ∨ ∃ dd fs, d = some dd ∧ H dd = some (.xd fs) := by
  rcases h with ⟨h, _⟩ | ⟨dd, fs, h1, h2, _⟩
  · exact .inl h
  · exact .inr ⟨dd, fs, h1, s _ _ h2⟩
/-- isinstance(e, c), c a class of the text | a built-in one -/
theorem pv_isX {c : Str} (i : Nat) (b : Bool) (C : ExcC X.K (He.ga X.K x)) (hz : Zc (.ref (He.ga X.K x)) d oe) (hf : ∃ vs, oe.data = .fields vs) (hΓ : Γ[i]? = some (some (.xc a d fl)) := by rfl) (hm : X.mg "isinstance" = none)
    (hc : (X.mg c = some (.ref (He.ga X.K c)) ∧ PySem.W.kitOne X.K (.ref (He.ga X.K x)) (.ref (He.ga X.K c)) = some b) ∨ ∃ T, X.mg c = none ∧ bootBuiltins c = some (.type T) ∧ c ≠ "__name__" ∧ PySem.W.kitOne X.K (.ref (He.ga X.K x)) (.type T) = some b)
    (hN : X.N[i]? = some n := by rfl) (hv : Vis X.env.scope n := by first | exact Or.inl rfl | exact Or.inr (Or.inl rfl) | exact Or.inr (Or.inr rfl)) (hgi : Gl X "isinstance" := by rfl) (hgc : Gl X c := by rfl) (hdc : (c == ("__debug__" : Str)) = false := by decide) (h1 : (n == ("__debug__" : Str)) = false := by decide) (h2 : (n == ("__classdict__" : Str)) = false := by decide)
    (he : starEach [.Name n p1, .Name c p2] X.env = (false, eval (.Name n p1) X.env) :: starEach [.Name c p2] X.env := by rfl) (he2 : starEach [.Name c p2] X.env = (false, eval (.Name c p2) X.env) :: starEach [] X.env := by rfl) (hpl : (backTo pos (starEach [.Name c p2] X.env)).any (·.1) = false := by rfl) :
    PV (X.suite a ((a, oe) :: pn)) e (.Call (.Name "isinstance" p) [.Name n p1, .Name c p2] [] pos) Γ (.bl b) := by
  have key : ∀ (u : V) (cv : Value), (∀ w, RelV u w → w = cv) → PySem.W.kitOne X.K (.ref (He.ga X.K x)) cv = some b → PE (X.suite a ((a, oe) :: pn)) (.Name c p2) (tC u) → PV (X.suite a ((a, oe) :: pn)) e (.Call (.Name "isinstance" p) [.Name n p1, .Name c p2] [] pos) Γ (.bl b) := fun u cv hu hk hpe =>
    PE.imp (pe_callB (X := X.suite a ((a, oe) :: pn)) (call_isX C hz hf) hgi hm (by decide +kernel) (pa_cons (pe_var (X := X.suite a ((a, oe) :: pn)) hN hv h1 h2) (pa_cons hpe pa_nil he2) he) (by decide) (by decide) he hpl) fun σ H Q ⟨S, w, q⟩ => by
      obtain ⟨v, hv, e1, e2⟩ := w.sl.at_ i _ hΓ
      subst e1
      exact ⟨_, hv, u, cv, b, rfl, hu, xcs_at w.nx.sh e2, hk, q S H _ (Pur.refl _ _) w (.bl b)⟩
  rcases hc with ⟨g1, g2⟩ | ⟨T, g1, g2, g3, g4⟩
  · exact key (.ref (He.ga X.K c)) (.ref (He.ga X.K c)) (fun w h => h) g2 (pe_glob (X := X.suite a ((a, oe) :: pn)) hgc g1 rfl hdc)
  · exact key (.ty T) (.type T) (fun w h => h) g4 (pe_bltn (X := X.suite a ((a, oe) :: pn)) hgc g1 g2 rfl g3 hdc)
/-- e.f -/
theorem pv_xf {f : Str} {dt : D} (i : Nat) (T : XfC X.K (He.ga X.K x)) (hno : PySem.W.findIn X.K (.ref (He.ga X.K x)) f = some none) (hz : Zc (.ref (He.ga X.K x)) d oe) (hf : ∃ vs, oe.data = .fields vs) (hl : fl.lookup f = some dt) (hΓ : Γ[i]? = some (some (.xc a d fl)) := by rfl)
    (hN : X.N[i]? = some n := by rfl) (hv : Vis X.env.scope n := by first | exact Or.inl rfl | exact Or.inr (Or.inl rfl) | exact Or.inr (Or.inr rfl)) (h1 : (n == ("__debug__" : Str)) = false := by decide) (h2 : (n == ("__classdict__" : Str)) = false := by decide)
    (hb : attributeBase (.Name n p1) f X.env (eval (.Name n p1) X.env) = eval (.Name n p1) X.env := by rfl) : PV (X.suite a ((a, oe) :: pn)) e (.Attribute (.Name n p1) f pos) Γ dt :=
  PE.imp (L2.pe_xf T hno hz hf (pe_var (X := X.suite a ((a, oe) :: pn)) hN hv h1 h2) hb) fun σ H Q ⟨S, w, q⟩ => by
    obtain ⟨v, hv, e1, e2⟩ := w.sl.at_ i _ hΓ
    subst e1
    rcases e2 with ⟨_, e2⟩ | ⟨dd, fs, g1, g2, g3⟩
    · rw [e2] at hl; cases hl
    · obtain ⟨u, hu, ru⟩ := g3.lookup hl
      exact ⟨_, hv, rfl, rfl, dd, fs, u, g1, w.nx.sh _ _ g2, hu, q S H u (Pur.refl _ _) w ru⟩
end
/-! ### try -/
theorem wd_xc {K : Fg} {e : Ent} {S H : Hp} {σ : L2.St} {Γ : Gam} {x : Str} {fl : List (Str × D)} {cls : Value} {d : Option Addr} (w : Wd K e S H σ Γ) (h : EOk K S e.H0 H x fl cls d) : ∃ S', Same S S' ∧ Wd K e S' H σ Γ ∧ XcS K S' d fl := by
  obtain ⟨_, h⟩ := h
  rcases h with h | ⟨dd, fs, h1, h2, h3, h4⟩
  · exact ⟨S, Same.refl _, w, .inl h⟩
  · cases z : S dd with
    | some u =>
      have := w.nx.sh _ _ z
      rw [h2] at this
      cases this
      exact ⟨S, Same.refl _, w, .inr ⟨dd, fs, h1, z, h4⟩⟩
    | none =>
      have s1 : Same S (upd S dd (.xd fs)) := fun b u q => by
        rw [upd_ne (ne_of_none q z)]
        exact q
      refine ⟨upd S dd (.xd fs), s1, ⟨⟨w.nx.ss.trans s1, fun b u q => ?_, w.nx.hh, w.nx.al, fun b q => ?_⟩, w.sl.len, fun i bb q => ?_, w.sl.dj, w.sl.z⟩, .inr ⟨dd, fs, h1, upd_same, h4.mono s1⟩⟩
      · by_cases hb : b = dd
        · subst hb
          rw [upd_same] at q
          rw [h2]
          exact q
        · rw [upd_ne hb] at q
          exact w.nx.sh _ _ q
      · have hb : b ≠ dd := fun y => q (by rw [y]; exact h3)
        rw [upd_ne hb]
        exact w.nx.old b q
      · obtain ⟨v, q1, q2⟩ := w.sl.at_ i bb q
        refine ⟨v, q1, ?_⟩
        cases bb with
        | st d => exact Rp.mono s1 q2
        | xc a d fl => exact q2.xcm s1
        | nw d l => exact q2.elim
        | ow o' =>
          obtain ⟨c, ec, sc, oc, zc⟩ := q2
          have nc : c ≠ dd := fun y => by
            subst y
            cases o' with
            | lst l => obtain ⟨xs, y1, _⟩ := oc; rw [h2] at y1; cases y1
            | dK l => obtain ⟨xs, y1, _⟩ := oc; rw [h2] at y1; cases y1
            | dT l => obtain ⟨xs, y1, _⟩ := oc; rw [h2] at y1; cases y1
            | obj C l => obtain ⟨dx, fs, y1, _⟩ := oc; rw [h2] at y1; cases y1
          exact ⟨c, ec, by rw [upd_ne nc]; exact sc, oc.to s1 rfl, zc⟩
theorem Wd.setX {K : Fg} {e : Ent} {S H : Hp} {σ : L2.St} {Γ : Gam} {i : Nat} {a : Addr} {d : Option Addr} {fl : List (Str × D)} (w : Wd K e S H σ Γ) (h : XcS K S d fl) (hz : e.own = none ∨ i ≠ 0) : Wd K e S H (σ.set i (some (.ref a))) (Γ.set i (some (.xc a d fl))) := by
  refine ⟨w.nx, by rw [List.length_set, List.length_set]; exact w.sl.len, fun j b q => ?_, fun j k o o' c q1 q2 q3 q4 => ?_, fun c z => ?_⟩
  · rcases get_set q with ⟨rfl, h'⟩ | ⟨n, h'⟩
    · have h2 := Option.some.inj h'
      subst h2
      have hl : i < (Γ.set i (some (.xc a d fl))).length := (List.getElem?_eq_some_iff.mp q).1
      rw [List.length_set] at hl
      exact ⟨_, set_at (by rw [w.sl.len]; exact hl), rfl, h⟩
    · obtain ⟨u, h1, h2⟩ := w.sl.at_ j b h'
      exact ⟨u, by rw [List.getElem?_set_ne n]; exact h1, h2⟩
  · rcases get_set q1 with ⟨_, h'⟩ | ⟨n1, h1⟩
    · cases h'
    rcases get_set q2 with ⟨_, h'⟩ | ⟨n2, h2⟩
    · cases h'
    rw [List.getElem?_set_ne n1] at q3
    rw [List.getElem?_set_ne n2] at q4
    exact w.sl.dj j k o o' c h1 h2 q3 q4
  · have n : i ≠ 0 := by
      rcases hz with h' | h'
      · rw [h'] at z; cases z
      · exact h'
    obtain ⟨h1, o, h2⟩ := w.sl.z c z
    exact ⟨by rw [List.getElem?_set_ne n]; exact h1, o, by rw [List.getElem?_set_ne n]; exact h2⟩
/-- the same entry, S what stood at a later time -/
def Ent.at_ (e : Ent) (S : Hp) : Ent := ⟨S, e.H0, e.own⟩
theorem Wd.into {K : Fg} {e : Ent} {S H : Hp} {σ : L2.St} {Γ : Gam} (w : Wd K e S H σ Γ) : Wd K (e.at_ S) S H σ Γ :=
  ⟨⟨Same.refl _, w.nx.sh, w.nx.hh, w.nx.al, fun _ _ => rfl⟩, w.sl.len, fun i b q => let ⟨v, h1, h2⟩ := w.sl.at_ i b q; ⟨v, h1, by cases b <;> exact h2⟩, w.sl.dj, w.sl.z⟩
theorem Wd.outof {K : Fg} {e : Ent} {S S1 H H1 : Hp} {σ : L2.St} {Γ : Gam} (n : Nx e S H) (w : Wd K (e.at_ S) S1 H1 σ Γ) : Wd K e S1 H1 σ Γ :=
  ⟨⟨n.ss.trans w.nx.ss, w.nx.sh, w.nx.hh, w.nx.al, fun a z => (w.nx.old a z).trans (n.old a z)⟩, w.sl.len, fun i b q => let ⟨v, h1, h2⟩ := w.sl.at_ i b q; ⟨v, h1, by cases b <;> exact h2⟩, w.sl.dj, w.sl.z⟩
theorem ROk.outof {K : Fg} {e : Ent} {S S1 H1 : Hp} {v : V} {b : B} (h : ROk K (e.at_ S) S1 H1 v b) : ROk K e S1 H1 v b := by cases b <;> exact h
section
variable {X : Cx} {e : Ent} {Γ : Gam} {k : Kn} {rest body suite : List Stmt} {b0 : Stmt} {x n : Str} {np pos pos' : Pos}
/-- try: body  except x as n: suite, all of U caught, both ends leaving -/
theorem bl_try (i : Nat) (c : Value) (U : Wx) (hs : X.stack = X.env :: X.outer) (hf : X.env.frame = some X.env.locals) (hN : X.N.Nodup) (hc : Names X x c)
    (hb : ∀ (S : Hp) (pn : List (Addr × Obj)) (xe : Value → Shared → Prop), Takes (X.tr pn xe) (wX X.K (e.at_ S) U) → BL (X.tr pn xe) (e.at_ S) body Γ { nx := fun _ => False, rt := k.rt })
    (hU : ∀ y fl Γ1, U y fl Γ1 → PySem.W.exmOne X.K (.ref (He.ga X.K y)) c = some true)
    (hS : ∀ (S : Hp) (a : Addr) (oe : Obj) (d : Option Addr) (pn : List (Addr × Obj)) (y : Str) (fl : List (Str × D)) (Γ1 : Gam), U y fl Γ1 → Zc (.ref (He.ga X.K y)) d oe → (∃ vs, oe.data = .fields vs) → BL (X.suite a ((a, oe) :: pn)) (e.at_ S) (b0 :: suite) (Γ1.set i (some (.xc a d fl))) { nx := fun _ => False, rt := k.rt })
    (hi : X.N[i]? = some n := by rfl) (hln : X.env.kindOf n = some .local := by rfl) (hz : e.own = none ∨ i ≠ 0 := by first | exact .inl rfl | exact .inr (by decide)) : BL X e (.Try body [.ExceptHandler (some (.Name x np)) (some n) (b0 :: suite) pos'] [] [] pos :: rest) Γ k := by
  have hp := ps_try_as (X := X) (x := x) (n := n) (np := np) (pos := pos) (pos' := pos') (b₀ := b0) (suite := suite) (body := body) (Wout := fun _ _ _ _ => False)
    (tb := fun W D σ H => ∃ S, (∀ cls d σ' H', wX X.K (e.at_ S) U cls d σ' H' → W cls d σ' H') ∧ tS X.K (e.at_ S) Γ { nx := fun _ => False, rt := k.rt } D σ H)
    (ts := fun a cls d D σ H => ∃ S y fl Γ1, U y fl Γ1 ∧ cls = .ref (He.ga X.K y) ∧ tS X.K (e.at_ S) (Γ1.set i (some (.xc a d fl))) { nx := fun _ => False, rt := k.rt } D σ H) (c := c) (i := i) hs hf hN hi hln hc takes0
    (fun W pn xe tk hp => ⟨fun pins s σ H D I ⟨S, h1, h2⟩ => (hb S pn xe (tk.imp fun cls d σ' H' z => h1 cls d σ' H' z)).run pins s σ H D I h2⟩)
    (fun a oe cls d pn hzc hfl => ⟨fun pins s σ H D I ⟨S, y, fl, Γ1, h1, h2, h3⟩ => by
      subst h2
      exact (hS S a oe d pn y fl Γ1 h1 hzc hfl).run pins s σ H D I h3⟩)
  refine bl_cons (fun _ => False) (PS.imp hp fun D σ H ⟨S, w, nx, bk, ct, rt⟩ => ?_) fun _ z => z.elim
  refine ⟨S, fun cls d σ' H' ⟨S1, y, fl, Γ1, hu, w1, ek⟩ => ?_, S, w.into, fun _ _ _ _ z => z.elim, fun _ _ _ _ z => z.elim, fun _ _ _ _ z => z.elim, fun S' σ' H' v b Γ' q s' w' ok => rt S' σ' H' v b Γ' q s' (w'.outof w.nx) ok.outof⟩
  obtain ⟨S2, s2, w2, xcs⟩ := wd_xc w1 ek
  refine ⟨true, by rw [ek.1]; exact hU y fl Γ1 hu, fun _ a ha => ⟨S, y, fl, Γ1, hu, ek.1, S2, w2.setX xcs hz, fun _ _ _ _ z => z.elim, fun _ _ _ _ z => z.elim, fun _ _ _ _ z => z.elim, fun S' σ' H' v b Γ' q s' w' ok => ?_⟩, fun z => by cases z⟩
  exact rt S' σ' H' v b Γ' q w'.nx.ss (w'.outof w.nx) ok.outof
end
end Kf
end
section
namespace Kf
open PySem L2
def top (i : Nat) : Stmt := PySem.Challenge.pw_kindsfill_k80_whole_trimmed.main.body.getD i (.Pass ⟨0, 0, 0, 0⟩)
abbrev s_draw : Stmt := top 36
abbrev s_pool : Stmt := top 35
abbrev s_word : Stmt := top 37
abbrev s_fresh : Stmt := top 38
abbrev s_names : Stmt := top 39
end Kf
end
section
set_option maxRecDepth 100000
set_option maxHeartbeats 4000000
namespace Kf
open PySem L2
/-- the built-in names are still the built-ins -/
structure Bi (mg : Str → Option Value) : Prop where
  len : mg "len" = none
  abs : mg "abs" = none
  int : mg "int" = none
  str : mg "str" = none
  list : mg "list" = none
  tuple : mg "tuple" = none
  range : mg "range" = none
  enumerate : mg "enumerate" = none
  zip : mg "zip" = none
  isinstance : mg "isinstance" = none
  all : mg "all" = none
  any : mg "any" = none
abbrev FunS (K : Fg) (x : Str) (st : Stmt) (f : Addr) (fd : FuncData) : Prop := FunD K x x (defArgs st) (defBody st) (defScope st) [] [] f fd
section
variable {P : Program} {w : World} {K : Fg} {mg : Str → Option Value} {base : Heap}
/-! ### the pool -/
def Pool (o : O) : Prop := ∃ (ns : List Int) (a v l m : Int), o = .lst [.lst (ns.map .int), .int a, .int v, .int l, .int m] ∧ 0 ≤ a
def cDraw : Fo where
  pre o ds := Pool o ∧ ∃ b : Int, ds = [.int b] ∧ b < 1000000000
  post o ds b o' := Pool o' ∧ ∃ (n : Int) (r : Int), ds = [.int n] ∧ b = .st (.int r) ∧ 0 ≤ r ∧ (r < n ∨ r = 0)
theorem scDraw : FnScope ["pool", "bound", "found", "near", "mixed"] ["pool", "bound"] (defScope s_draw) := ⟨rfl, rfl, rfl, by decide +kernel, rfl, by decide +kernel, by decide +kernel⟩
theorem fmod_in {a b : Int} (hb : 2 ≤ b) : 0 ≤ a.fmod b ∧ a.fmod b < b := by
  constructor
  · exact Int.fmod_nonneg_of_pos _ (by omega)
  · exact Int.fmod_lt_of_pos _ (by omega)
theorem ok_draw {f : Addr} {fd : FuncData} (F : FunS K "_law_draw" s_draw f fd) (b : Bi mg) : FnOk P w K mg base (L2.CX P w) 1 f fd ["pool", "bound"] (spO K cDraw) := by
  refine fo_ok F scDraw (fun o ds ⟨_, b, h, _⟩ => by rw [h]; rfl) fun cdv A outer s e E o ds ⟨⟨ns, a, v, l, m, ho, ha⟩, n, hds, hn⟩ hr tk => ?_
  subst ho hds
  have nd := scDraw.nd
  -- if bound < 2: return 0
  -- if bound < 2: return 0
  refine bl_ifR (px_cmp op_lt (pv_var 1) pv_int sc_lt) (fun _ => bl_retP pv_int ⟨_, rfl, ⟨ns, a, v, l, m, rfl, ha⟩, n, 0, rfl, rfl, by omega, .inr rfl⟩) fun hb2 => ?_
  have h2 : 2 ≤ n := by
    have := of_decide_eq_false hb2
    omega
  -- if pool[3] < 1: ..
  refine bl_ifP (fun Γ => ∃ a v l m, 0 ≤ a ∧ Γ = [some (.ow (.lst [.lst (ns.map .int), .int a, .int v, .int l, .int m])), some (.st (.int n)), none, none, none])
    (px_cmp op_lt (pv_snap fun _ => pv_s ix_list (pv_var 0) pv_int (sc_ixL rfl)) pv_int sc_lt) (fun _ => ?_) (fun _ => bl_nil ⟨a, v, l, m, ha, rfl⟩) ?_
  · refine bl_ifR (px_cmp op_ge (pv_snap fun _ => pv_s ix_list (pv_var 0) pv_int (sc_ixL rfl)) (pv_snap fun _ => pv_lenL (pv_s ix_list (pv_var 0) pv_int (sc_ixL rfl)) b.len) sc_ge) (fun _ => bl_retP pv_int ⟨_, rfl, ⟨ns, a, v, l, m, rfl, ha⟩, n, 0, rfl, rfl, by omega, .inr rfl⟩) fun hlt => ?_
    have hlt' : a < (ns.length : Int) := by
      have := of_decide_eq_false hlt
      rw [List.length_map] at this
      omega
    have ha2 : a.toNat < ns.length := by omega
    -- pool[2] = abs(int(pool[0][pool[1]]))
    refine bl_subP 0 (pv_absI (pv_intI (pv_snap fun _ => pv_s ix_list (pv_s ix_list (pv_var 0) pv_int (sc_ixL rfl)) (pv_s ix_list (pv_var 0) pv_int (sc_ixL rfl)) (sc_ixL (d := .int ns[a.toNat]) ?_)) b.int) b.abs) rfl pv_int rfl ?_
    · unfold atI ixN
      rw [if_pos ha, if_pos (by rw [List.length_map]; exact hlt')]
      show (ns.map D.int)[a.toNat]? = some (D.int ns[a.toNat])
      rw [List.getElem?_map, List.getElem?_eq_getElem ha2]
      rfl
    generalize (if ns[a.toNat] < 0 then -ns[a.toNat] else ns[a.toNat]) = v'
    -- pool[1] = pool[1] + 1; pool[3] = 6; pool[4] = 0
    refine bl_subP 0 (pv_b op_add (pv_snap fun _ => pv_s ix_list (pv_var 0) pv_int (sc_ixL rfl)) pv_int sc_add) rfl pv_int rfl ?_
    refine bl_subP 0 pv_int rfl pv_int rfl (bl_subP 0 pv_int rfl pv_int rfl ?_)
    refine bl_ifP (fun Γ => ∃ a v l m, 0 ≤ a ∧ Γ = [some (.ow (.lst [.lst (ns.map .int), .int a, .int v, .int l, .int m])), some (.st (.int n)), none, none, none])
      (px_cmp op_ge (pv_snap fun _ => pv_s ix_list (pv_var 0) pv_int (sc_ixL rfl)) (pv_b op_pow pv_int pv_int (sc_pow ⟨by decide, by decide, by decide⟩)) sc_ge) (fun _ => ?_) (fun _ => bl_nil ⟨a + 1, v', 6, 0, by omega, rfl⟩) fun Γ h => bl_nil h
    exact bl_subP 0 pv_int rfl pv_int rfl (bl_subP 0 pv_int rfl pv_int rfl (bl_nil ⟨a + 1, v', 60, 1, by omega, rfl⟩))
  · rintro Γ ⟨a, v, l, m, ha, rfl⟩
    -- pool[3] = pool[3] - 1
    refine bl_subP 0 (pv_b op_sub (pv_snap fun _ => pv_s ix_list (pv_var 0) pv_int (sc_ixL rfl)) pv_int sc_sub) rfl pv_int rfl ?_
    have nz : n ≠ 0 := by omega
    refine bl_ifR (px_cmp op_eq (pv_snap fun _ => pv_s ix_list (pv_var 0) pv_int (sc_ixL rfl)) pv_int sc_eqI) (fun _ => ?_) fun _ => ?_
    · -- found = int(pool[2]) % bound; pool[2] = pool[2] // bound
      refine bl_let 2 (pv_b op_modN (pv_intI (pv_snap fun _ => pv_s ix_list (pv_var 0) pv_int (sc_ixL rfl)) b.int) (pv_var 1) (sc_modN nz)) ?_
      refine bl_subP 0 (pv_b op_fdivN (pv_snap fun _ => pv_s ix_list (pv_var 0) pv_int (sc_ixL rfl)) (pv_var 1) (sc_divN nz (by omega))) rfl pv_int rfl ?_
      refine bl_ifP (fun Γ => ∃ a v l m, 0 ≤ a ∧ Γ = [some (.ow (.lst [.lst (ns.map .int), .int a, .int v, .int l, .int m])), some (.st (.int n)), some (.st (.int (Int.fmod _ _))), none, none])
        (px_cmp op_lt (pv_snap fun _ => pv_s ix_list (pv_var 0) pv_int (sc_ixL rfl)) pv_int sc_lt) (fun _ => bl_subP 0 pv_int rfl pv_int rfl (bl_nil ⟨_, _, _, _, ha, rfl⟩)) (fun _ => bl_nil ⟨_, _, _, _, ha, rfl⟩) ?_
      rintro Γ ⟨a, v, l, m, ha, rfl⟩
      exact bl_retP (pv_var 2) ⟨_, rfl, ⟨ns, a, v, l, m, rfl, ha⟩, n, _, rfl, rfl, (fmod_in h2).1, .inl (fmod_in h2).2⟩
    · have small : ∀ x : Int, -(2 ^ 64) < x.fmod 1000003 ∧ x.fmod 1000003 < 2 ^ 64 := fun x => by
        have := fmod_in (a := x) (b := 1000003) (by decide)
        omega
      have small2 : ∀ x : Int, -(2 ^ 64) < x.fmod 2147483647 ∧ x.fmod 2147483647 < 2 ^ 64 := fun x => by
        have := fmod_in (a := x) (b := 2147483647) (by decide)
        omega
      refine bl_let 3 (pv_b op_modN (pv_intI (pv_snap fun _ => pv_s ix_list (pv_var 0) pv_int (sc_ixL rfl)) b.int) pv_int (sc_modN (by decide))) ?_
      refine bl_let 4 (pv_b op_modN (pv_intI (pv_b op_add (pv_b op_add (pv_b op_mul (pv_var 3) pv_int (sc_mulL (small _))) (pv_b op_mul (pv_snap fun _ => pv_s ix_list (pv_var 0) pv_int (sc_ixL rfl)) pv_int (sc_mulR (by decide))) sc_add)
        (pv_b op_mul (pv_snap fun _ => pv_s ix_list (pv_var 0) pv_int (sc_ixL rfl)) pv_int (sc_mulR (by decide))) sc_add) b.int) pv_int (sc_modN (by decide))) ?_
      refine bl_let 4 (pv_b op_modN (pv_intI (pv_b op_add (pv_b op_add (pv_b op_mul (pv_var 4) pv_int (sc_mulL (small2 _))) (pv_b op_mul (pv_var 3) pv_int (sc_mulL (small _))) sc_add) pv_int sc_add) b.int) pv_int (sc_modN (by decide))) ?_
      exact bl_retP (pv_b op_modN (pv_intI (pv_b op_fdivN (pv_var 4) pv_int (sc_divN (by decide) (by decide))) b.int) (pv_var 1) (sc_modN nz)) ⟨_, rfl, ⟨ns, a, v, _, m, rfl, ha⟩, n, _, rfl, rfl, (fmod_in h2).1, .inl (fmod_in h2).2⟩
end
end Kf
end
section
set_option maxRecDepth 100000
set_option maxHeartbeats 4000000
/-! KfL1: the law's pool, words, names. -/
namespace Kf
open PySem L2

/-! ### names: mathematics -/
def lowC (c : Nat) : Prop := 97 ≤ c ∧ c ≤ 122
def latC (c : Nat) : Prop := (97 ≤ c ∧ c ≤ 122) ∨ (48 ≤ c ∧ c ≤ 57) ∨ c = 46
def KName (z : Str) : Prop := 1 ≤ z.length ∧ z.length ≤ 24 ∧ (∃ c t, z.cps.toList = c :: t ∧ lowC c) ∧ ∀ c ∈ z.cps.toList, latC c
abbrev cdl (z : Str) : List Nat := z.cps.toList
theorem cdl_app (a b : Str) : cdl (a ++ b) = cdl a ++ cdl b := by
  show (a.cps ++ b.cps).toList = a.cps.toList ++ b.cps.toList
  simp
theorem cdl_len (a : Str) : (cdl a).length = a.length := by
  show a.cps.toList.length = a.cps.size
  simp
theorem cdl_inj {a b : Str} (h : cdl a = cdl b) : a = b := by
  cases a
  cases b
  congr
  exact Array.toList_inj.mp h
theorem nodup_le {α : Type} : ∀ {l m : List α}, l.Nodup → (∀ x ∈ l, x ∈ m) → l.length ≤ m.length
  | [], m, _, _ => Nat.zero_le _
  | a :: l, m, hn, hs => by
    obtain ⟨p, q, hm⟩ := List.append_of_mem (hs a (List.mem_cons_self ..))
    rw [List.nodup_cons] at hn
    have h := nodup_le (l := l) (m := p ++ q) hn.2 fun x hx => by
      have h1 := hs x (List.mem_cons_of_mem _ hx)
      rw [hm] at h1
      have hne : x ≠ a := fun z => hn.1 (z ▸ hx)
      rcases List.mem_append.mp h1 with h2 | h2
      · exact List.mem_append_left _ h2
      · rcases List.mem_cons.mp h2 with h3 | h3
        · exact absurd h3 hne
        · exact List.mem_append_right _ h3
    rw [hm, List.length_append, List.length_cons]
    rw [List.length_append] at h
    rw [List.length_cons]
    omega

theorem takes_none {X : Cx} {e : Ent} : Takes X (wX X.K e fun _ _ _ => False) := takes0.imp fun _ _ _ _ ⟨_, _, _, _, z, _⟩ => z.elim
section calls
variable {X : Cx} {e : Ent} {Γ : Gam} {k j : Nat} {x : Str} {p pos : Pos} {a : Expr}
/-- f(e, own): e any expression, own looked at; a flat value comes out -/
theorem ev_callB {c : Fp} {n : Str} {np : Pos} {Φa : D → Gam → Prop} {Φ : D → Gam → Prop} (i : Nat) (N : XDn X x k (spP X.K c)) (hr : Room j X.A) (hj : k ≤ j) (ha : EV X e a Γ Φa)
    (h : ∀ d Γ1, Φa d Γ1 → ∃ o, Γ1[i]? = some (some (.ow o)) ∧ c.pre [d, o.d] ∧ (∀ b, c.post [d, o.d] b → ∃ d', b = .st d' ∧ flat d' = true ∧ Φ d' Γ1) ∧ ∀ y fl, ¬ c.exn [d, o.d] y fl)
    (hN : X.N[i]? = some n := by rfl) (hv : Vis X.env.scope n := by first | exact Or.inl rfl | exact Or.inr (Or.inl rfl) | exact Or.inr (Or.inr rfl)) (hg : Gl X x := by rfl) (hdb : (x == ("__debug__" : Str)) = false := by decide)
    (he : starEach [a, .Name n np] X.env = (false, eval a X.env) :: starEach [.Name n np] X.env := by rfl) (he2 : starEach [.Name n np] X.env = (false, eval (.Name n np) X.env) :: starEach [] X.env := by rfl) (hpl : (backTo pos (starEach [.Name n np] X.env)).any (·.1) = false := by rfl)
    (h1 : (n == ("__debug__" : Str)) = false := by decide) (h2 : (n == ("__classdict__" : Str)) = false := by decide) : EV X e (.Call (.Name x p) [a, .Name n np] [] pos) Γ Φ :=
  PE.imp (pe_callW N.fn (hr.mono hj) takes0 hg N.at_ N.kp (pa_cons ha (pa_cons (pe_var hN hv h1 h2) pa_nil he2) he) hdb he hpl) fun σ H Q ⟨S, w, q⟩ => ⟨S, w, fun S1 H1 v d Γ1 hd s1 w1 r1 => by
    obtain ⟨o, g0, g1, g2, g3⟩ := h d Γ1 hd
    obtain ⟨u, h3, pp, h4, sp, ow, hp⟩ := w1.sl.at_ i _ g0
    subst h4
    refine ⟨_, h3, H1, [d, o.d], Same.refl _, .cons (r1.mono w1.nx.sh) (.cons (own_rp w1.nx.sh ow) .nil), g1, fun S2 H2 v2 b hb n2 r2 => ?_, fun S2 H2 y fl cls dd hy => (g3 y fl hy).elim⟩
    obtain ⟨d', rfl, hf, hΦ⟩ := g2 b hb
    have g : Same H1 H2 := fun z u y => n2.hh z u y fun t => nomatch t
    exact q S1 H2 v2 d' Γ1 hΦ (s1.trans (Pur.stp ⟨Same.refl _, g, fun _ _ => rfl⟩)) (w1.same g) (Rp.flat (S := S2) r2 hf)⟩
end calls

section
variable {P : Program} {w : World} {K : Fg} {mg : Str → Option Value} {base : Heap}
abbrev Dx (P : Program) (w : World) (K : Fg) (mg : Str → Option Value) (base : Heap) (x : Str) (k : Nat) (c : Fp) : Prop := Dn P w K mg base x k (spP K c)
abbrev Dy (P : Program) (w : World) (K : Fg) (mg : Str → Option Value) (base : Heap) (x : Str) (k : Nat) (c : Fo) : Prop := Dn P w K mg base x k (spO K c)
/-- draw -/
theorem ev_draw {X : Cx} {e : Ent} {Γ : Gam} {n : Str} {np p pos : Pos} {a : Expr} {j : Nat} {m : Int} (i : Nat) {o0 : O} (N : XDn X "_law_draw" 1 (spO X.K cDraw)) (hr : Room j X.A) (hj : 1 ≤ j) (h0 : Γ[i]? = some (some (.ow o0))) (hp : Pool o0) (ha : PV X e a Γ (.int m)) (hm : m < 1000000000)
    (hN : X.N[i]? = some n := by rfl) (hv : Vis X.env.scope n := by first | exact Or.inl rfl | exact Or.inr (Or.inl rfl) | exact Or.inr (Or.inr rfl)) (hg : Gl X "_law_draw" := by rfl)
    (he : starEach [.Name n np, a] X.env = (false, eval (.Name n np) X.env) :: starEach [a] X.env := by rfl) (he2 : starEach [a] X.env = (false, eval a X.env) :: starEach [] X.env := by rfl) (hpl : (backTo pos (starEach [a] X.env)).any (·.1) = false := by rfl) (h1 : (n == ("__debug__" : Str)) = false := by decide) (h2 : (n == ("__classdict__" : Str)) = false := by decide) :
    EV X e (.Call (.Name "_law_draw" p) [.Name n np, a] [] pos) Γ (fun d Γ' => ∃ r o', d = .int r ∧ 0 ≤ r ∧ (r < m ∨ r = 0) ∧ Pool o' ∧ Γ' = Γ.set i (some (.ow o'))) :=
  ev_callO (U := fun _ _ _ => False) i N hr hj takes_none h0 (pvs_av (pvs_one ha he2)) (fun ds Γ1 ⟨q1, q2⟩ => by
    subst q1 q2
    exact ⟨o0, h0, ⟨hp, m, rfl, hm⟩, fun b o' ⟨g1, n', r, g2, g3, g4, g5⟩ => by
      cases g2
      exact ⟨.int r, .inl g3, r, o', rfl, g4, g5, g1, rfl⟩, fun _ _ _ z => z.elim⟩) hN hv hg (by decide) he hpl h1 h2
/-! ### _law_pool -/
def cPool : Fp where
  pre ds := ∃ ns : List Int, ds = [.lstK (ns.map .int)]
  post ds b := ∃ o, b = .ow o ∧ Pool o
theorem scPool : FnScope ["script"] ["script"] (defScope s_pool) := ⟨rfl, rfl, rfl, by decide +kernel, rfl, by decide +kernel, by decide +kernel⟩
theorem ok_pool {f : Addr} {fd : FuncData} (F : FunS K "_law_pool" s_pool f fd) (b : Bi mg) : FnOk P w K mg base (L2.CX P w) 1 f fd ["script"] (spP K cPool) := by
  refine fp_ok F scPool (fun ds ⟨ns, h⟩ => by rw [h]; rfl) fun cdv A outer s e E ds ho ⟨ns, hd⟩ hr tk => ?_
  subst hd
  exact bl_retO (pn_eo (pn_lst (pvs_cons (pn_pv (pn_listK (pv_var 0) b.list)) (pvs_cons pv_int (pvs_cons pv_int (pvs_cons pv_int (pvs_cons pv_int pvs_nil))))) (by show 5 ≤ _; decide))) fun o Γ' h => by
    rw [h.1]
    exact ⟨_, rfl, ns, 0, 0, 0, 0, rfl, by omega⟩
/-! ### _law_word -/
def cWord : Fo where
  pre o ds := Pool o ∧ ∃ n : Nat, ds = [.int (n : Int)] ∧ 1 ≤ n ∧ n ≤ 24
  post o ds b o' := Pool o' ∧ ∃ z : Str, b = .st (.str z) ∧ KName z ∧ ds = [.int (z.length : Int)]
theorem scWord : FnScope ["pool", "size", "first", "later", "word", "k"] ["pool", "size"] (defScope s_word) := ⟨rfl, rfl, rfl, by decide +kernel, rfl, by decide +kernel, by decide +kernel⟩
abbrev sLow : Str := "abcdefghijklmnopqrstuvwxyz"
abbrev sLat : Str := "abcdefghijklmnopqrstuvwxyz.0123456789"
theorem low_at {r : Int} (h0 : 0 ≤ r) (h : r < 26 ∨ r = 0) : ∃ c, atI sLow.cps.toList r = some c ∧ lowC c := by
  obtain ⟨n, rfl⟩ := Int.eq_ofNat_of_zero_le h0
  have h1 : n < 26 := by omega
  have key : ∀ n : Fin 26, ∃ c, atI sLow.cps.toList (n.val : Int) = some c ∧ lowC c := by
    intro n
    have : ∀ n : Fin 26, atI sLow.cps.toList (n.val : Int) = some (97 + n.val) := by decide +kernel
    exact ⟨_, this n, by unfold lowC; omega⟩
  exact key ⟨n, h1⟩
theorem lat_at {r : Int} (h0 : 0 ≤ r) (h : r < 37 ∨ r = 0) : ∃ c, atI sLat.cps.toList r = some c ∧ latC c := by
  obtain ⟨n, rfl⟩ := Int.eq_ofNat_of_zero_le h0
  have h1 : n < 37 := by omega
  have key : ∀ n : Fin 37, ∃ c, atI sLat.cps.toList (n.val : Int) = some c ∧ latC c := by
    intro n
    have : ∀ n : Fin 37, ∃ c : Fin 123, atI sLat.cps.toList (n.val : Int) = some c.val ∧ ((97 ≤ c.val ∧ c.val ≤ 122) ∨ (48 ≤ c.val ∧ c.val ≤ 57) ∨ c.val = 46) := by decide +kernel
    obtain ⟨c, h1, h2⟩ := this n
    exact ⟨c.val, h1, h2⟩
  exact key ⟨n, h1⟩
theorem low_lat {c : Nat} (h : lowC c) : latC c := .inl h
theorem kname_one {c : Nat} (h : lowC c) : KName ⟨#[c]⟩ := ⟨by show 1 ≤ 1; omega, by show 1 ≤ 24; omega, ⟨c, [], rfl, h⟩, fun x hx => by
  have : x = c := by simpa using hx
  rw [this]
  exact .inl h⟩
theorem kname_app {z y : Str} (h : KName z) (hl : z.length + y.length ≤ 24) (hy : ∀ c ∈ cdl y, latC c) : KName (z ++ y) := by
  obtain ⟨h1, h2, ⟨c, t, h3, h4⟩, h5⟩ := h
  have e : cdl (z ++ y) = cdl z ++ cdl y := cdl_app z y
  have l : (z ++ y).length = z.length + y.length := by rw [← cdl_len, e, List.length_append, cdl_len, cdl_len]
  refine ⟨by omega, by omega, ⟨c, t ++ cdl y, by show cdl (z ++ y) = _; rw [e]; show z.cps.toList ++ _ = _; rw [h3]; rfl, h4⟩, fun x hx => ?_⟩
  have hx' : x ∈ cdl (z ++ y) := hx
  rw [e] at hx'
  rcases List.mem_append.mp hx' with q | q
  · exact h5 x q
  · exact hy x q
theorem slen_app (a b : Str) : (a ++ b).length = a.length + b.length := by rw [← cdl_len, cdl_app, List.length_append, cdl_len, cdl_len]
theorem ok_word {f : Addr} {fd : FuncData} (F : FunS K "_law_word" s_word f fd) (b : Bi mg) (N : Dy P w K mg base "_law_draw" 1 cDraw) : FnOk P w K mg base (L2.CX P w) 2 f fd ["pool", "size"] (spO K cWord) := by
  refine fo_ok F scWord (fun o ds ⟨_, n, h, _⟩ => by rw [h]; rfl) fun cdv A outer s e E o ds ⟨hp, n, hd, n1, n2⟩ hr tk => ?_
  subst hd
  have nd := scWord.nd
  refine bl_let 2 pv_str (bl_let 3 pv_str (bl_set 4 (Φ := fun d Γ => ∃ c o', lowC c ∧ d = .str ⟨#[c]⟩ ∧ Pool o' ∧ Γ = [some (.ow o'), some (.st (.int (n : Int))), some (.st (.str sLow)), some (.st (.str sLat)), none, none]) (ev_s1 ix_str (pv_var 2) (ev_draw 0 N hr (by omega) rfl hp pv_int (by decide)) ?_) ?_))
  · rintro d2 Γ2 ⟨r, o', rfl, g1, g2, g3, rfl⟩
    obtain ⟨c, h1, h2⟩ := low_at g1 g2
    exact ⟨_, sc_ixS (by decide) h1, c, o', h2, rfl, g3, rfl⟩
  · rintro d Γ' ⟨c, o', hc, rfl, ho', rfl⟩
    refine bl_for (fun ds i Γ => ds.length = n - 1 ∧ ∃ o' z, Pool o' ∧ KName z ∧ z.length = i + 1 ∧ ∃ kk, Γ = [some (.ow o'), some (.st (.int (n : Int))), some (.st (.str sLow)), some (.st (.str sLat)), some (.st (.str z)), kk])
      (wv (wp_rng (n := n - 1) (pv_is (pv_b op_sub (pv_var 1) pv_int sc_sub) (by congr 1; omega)) (by omega) b.range)) (gv_name 5 nd) ?_ ?_ ?_ (passes_of rfl)
    · rintro ds Γ1 ⟨rfl, rfl⟩
      exact ⟨rng_len _ _, o', _, ho', kname_one hc, rfl, _, rfl⟩
    · rintro ds i d Γ1 hdi ⟨hl, o1, z, hp1, hz, hzl, kk, rfl⟩
      have hi : i < n - 1 := by
        have := (List.getElem?_eq_some_iff.mp hdi).1
        omega
      refine ⟨_, rfl, bl_set 4 (Φ := fun d Γ => ∃ c o', latC c ∧ d = .str (z ++ ⟨#[c]⟩) ∧ Pool o' ∧ ∃ kk, Γ = [some (.ow o'), some (.st (.int (n : Int))), some (.st (.str sLow)), some (.st (.str sLat)), some (.st (.str z)), kk]) (ev_b1 op_add_str (pv_var 4) (ev_s1 (Φ := fun d Γ => ∃ c o', latC c ∧ d = .str ⟨#[c]⟩ ∧ Pool o' ∧ ∃ kk, Γ = [some (.ow o'), some (.st (.int (n : Int))), some (.st (.str sLow)), some (.st (.str sLat)), some (.st (.str z)), kk]) ix_str (pv_var 3) (ev_draw 0 N hr (by omega) rfl hp1 pv_int (by decide)) ?_) ?_) ?_⟩
      · rintro d2 Γ2 ⟨r, o', rfl, g1, g2, g3, rfl⟩
        obtain ⟨c, h1, h2⟩ := lat_at g1 g2
        exact ⟨_, sc_ixS (by decide) h1, c, o', h2, rfl, g3, _, rfl⟩
      · rintro d2 Γ2 ⟨c, o', g1, rfl, g3, kk, rfl⟩
        exact ⟨_, sc_addS (Nat.le_trans (Nat.add_le_add hz.2.1 (Nat.le_refl 1)) (by decide)), c, o', g1, rfl, g3, kk, rfl⟩
      · rintro d Γ' ⟨c, o', g1, rfl, g3, kk, rfl⟩
        have l1 : (⟨#[c]⟩ : Str).length = 1 := rfl
        refine bl_nil ⟨hl, o', _, g3, kname_app hz (by rw [l1, hzl]; omega) (fun x hx => ?_), by rw [slen_app, l1, hzl], kk, rfl⟩
        have : x = c := by simpa [cdl] using hx
        rw [this]
        exact g1
    · rintro ds Γ1 ⟨hl, o1, z, hp1, hz, hzl, kk, rfl⟩
      exact bl_retP (pv_var 4) ⟨o1, rfl, hp1, z, rfl, hz, by rw [hzl, hl]; congr 3; omega⟩
end
end Kf
end
section
set_option maxRecDepth 100000
set_option maxHeartbeats 4000000
/-! KfO: methods, making, calling instances, own comparisons, with errors let out by Takes. -/
namespace Kf
open PySem L2

section raw
variable {X : Cx} {W : WX} {k : Nat} {f C g : Addr} {sp : Sp} {m x : Str} {o e a b fe : Expr} {es : List Expr} {ta tb tf : TE} {t : TA} {pos apos p : Pos} {pl : Sem Bool} {op : CmpOp}
def tMethW (C : Addr) (m : Str) (sp : Sp) (W : WX) (ta : TE) (t : TA) : TE := fun σ H Q => ta σ H fun x H1 => ∃ a dx fs, x = .ref a ∧ H1 a = some (.ins C dx fs) ∧ fs.lookup m = none ∧ t σ H1 fun vs H2 => sp (x :: vs) H2 Q fun c d H3 => W c d σ H3
/-- o.m(e, ..) -/
theorem pe_methW (he : PE X o ta) (c : Cls X.K C) (hm : Meth X.K C m f) (F : FnR X.prog X.w X.K X.mg X.base (L2.CX X.prog X.w) k f sp) (hr : Room k X.A) (tk : Takes X W) (ha : PA X (e :: es) t)
    (hst : starEach (e :: es) X.env = (false, eval e X.env) :: starEach es X.env := by rfl) (hpl : (backTo pos (starEach es X.env)).any (·.1) = false := by rfl)
    (ht : eval (.Call (.Attribute o m apos) (e :: es) [] pos) X.env = (do
      let ov ← eval o X.env
      standAt apos.atName
      let (f, first) ← holding [ov] (getMethod ov m pl)
      callWith pos f first (backTo pos (starEach (e :: es) X.env)) (backToKw pos (keywordEach [] X.env))) := by rfl) :
    PE X (.Call (.Attribute o m apos) (e :: es) [] pos) (tMethW C m sp W ta t) := by
  refine ⟨fun pins s σ H Q I h => ?_⟩
  refine PySem.W.methodCall_KW (pl := pl) (thn (he.run pins s σ H _ I h) fun u s1 ⟨x, H1, I1, rx, a, dx, fs, ex, ea, l, q⟩ => ?_) ht
  subst ex
  obtain rfl : u = Value.ref a := rx
  refine getmeth_ok I1 ea c hm l ?_
  refine PySem.W.callWith_K (first := [.ref a]) (h₀ := X.base) I.ok.mod.kin hm.kp (thn (ha.run pos pins s1 σ H1 _ I1 q) fun us s2 ⟨vs, H2, I2, r, q2⟩ => ⟨I2.kIn, ?_⟩) hst hpl
  exact run_fnW (us := .ref a :: us) (vs := .ref a :: vs) F hr tk I2 (.cons rfl r) q2
/-- o.m() -/
theorem pe_methW0 (he : PE X o ta) (c : Cls X.K C) (hm : Meth X.K C m f) (F : FnR X.prog X.w X.K X.mg X.base (L2.CX X.prog X.w) k f sp) (hr : Room k X.A) (tk : Takes X W)
    (ht : eval (.Call (.Attribute o m apos) [] [] pos) X.env = (do
      let ov ← eval o X.env
      standAt apos.atName
      let (f, first) ← holding [ov] (getMethod ov m pl)
      callWith pos f first (backTo pos (starEach [] X.env)) (backToKw pos (keywordEach [] X.env))) := by rfl) :
    PE X (.Call (.Attribute o m apos) [] [] pos) (tMethW C m sp W ta tNil) := by
  refine ⟨fun pins s σ H Q I h => ?_⟩
  refine PySem.W.methodCall_KW (pl := pl) (thn (he.run pins s σ H _ I h) fun u s1 ⟨x, H1, I1, rx, a, dx, fs, ex, ea, l, q⟩ => ?_) ht
  subst ex
  obtain rfl : u = Value.ref a := rx
  refine getmeth_ok I1 ea c hm l ?_
  exact PySem.W.callWith_K0 (first := [.ref a]) I1.kIn hm.kp (run_fnW (us := [.ref a]) (vs := [.ref a]) F hr tk I1 (.cons rfl .nil) q)
/-- C(e, ..) -/
def tMakeW (C : Addr) (sp : Sp) (W : WX) (t : TA) : TE := fun σ H Q => t σ H fun vs H1 => ∀ x dx, H1 x = none → H1 dx = none → dx ≠ x →
  sp (.ref x :: vs) (upd (upd H1 dx (.own x)) x (.ins C dx [])) (fun v H2 => v = .non ∧ Q (.ref x) H2) fun c d H3 => W c d σ H3
theorem run_makeW {pins : List (Addr × Obj)} {σ : L2.St} {H : Hp} {s : Shared} {Q : VK} {us : List Value} {vs : List V} (M : Mk X.K C f) (F : FnR X.prog X.w X.K X.mg X.base (L2.CX X.prog X.w) k f sp) (hr : Room (k + 1) X.A) (tk : Takes X W) (I : Inv X pins σ H s) (r : Vals vs us)
    (h : ∀ x dx, H x = none → H dx = none → dx ≠ x → sp (.ref x :: vs) (upd (upd H dx (.own x)) x (.ins C dx [])) (fun v H2 => v = .non ∧ Q (.ref x) H2) fun c d H3 => W c d σ H3) :
    wpAny (model X.prog X.w) X.A (call (.ref C) us) (EP X pins σ Q) X.xe s := by
  have hq := h (s.heap.objs.size + 1) s.heap.objs.size (I.hok.fresh (Nat.le_succ _)) (I.hok.fresh (Nat.le_refl _)) (Nat.ne_of_lt (Nat.lt_succ_self _))
  have I2 := Inv.made (C := C) I
  have r2 : Vals (V.ref (s.heap.objs.size + 1) :: vs) (Value.ref (s.heap.objs.size + 1) :: us) := .cons rfl r
  refine wpAny_call (make_map (f := f) I.kIn M.makes M.init (beq_iff_eq.mp M.fn) (codeAny_mono (F _ X.stack _ _ (Value.ref (s.heap.objs.size + 1) :: us) _ _ _ (hr.make C us []) (I2.env0.make C us []) r2 hq) fun r s' hq' => ?_))
  cases r with
  | error u => exact tk u s' (XE.of_call I2 (fun _ _ _ z => z) hq')
  | ok fl =>
    cases fl with
    | ret u =>
      obtain ⟨v, H', I3, rv, ev, q3⟩ := I2.after hq'
      subst ev
      exact ⟨rv, ⟨V.ref (s.heap.objs.size + 1), H', I3, rfl, q3⟩⟩
    | next => exact False.elim hq'
    | brk => exact False.elim hq'
    | cont => exact False.elim hq'
theorem pe_makeW (M : Mk X.K C f) (F : FnR X.prog X.w X.K X.mg X.base (L2.CX X.prog X.w) k f sp) (hr : Room (k + 1) X.A) (tk : Takes X W) (hg : Gl X x) (hm : X.mg x = some (.ref C)) (ha : PA X (e :: es) t) (hdb : (x == ("__debug__" : Str)) = false := by decide)
    (he : starEach (e :: es) X.env = (false, eval e X.env) :: starEach es X.env := by rfl) (hpl : (backTo pos (starEach es X.env)).any (·.1) = false := by rfl) : PE X (.Call (.Name x p) (e :: es) [] pos) (tMakeW C sp W t) := by
  refine ⟨fun pins s σ H Q I h => ?_⟩
  refine wpAny_Call_Name_kw (ld_glob I hg hm ?_ hdb)
  refine PySem.W.callWith_K (h₀ := X.base) I.ok.mod.kin M.kp (thn (ha.run pos pins s σ H _ I h) fun us s1 ⟨vs, H1, I1, r, q⟩ => ⟨I1.kIn, ?_⟩) he hpl
  exact run_makeW M F hr tk I1 r q
/-- f(e, ..), f an instance of C -/
def tCallOW (C : Addr) (sp : Sp) (W : WX) (tf : TE) (t : TA) : TE := fun σ H Q => tf σ H fun y H1 => ∃ a, y = V.ref a ∧ t σ H1 fun vs H2 => (∃ dx fs, H2 a = some (.ins C dx fs)) ∧ sp (V.ref a :: vs) H2 Q fun c d H3 => W c d σ H3
theorem pe_callOW (hf : PE X fe tf) (c : StX.CallO X.K C g) (F : FnR X.prog X.w X.K X.mg X.base (L2.CX X.prog X.w) k g sp) (hr : Room k X.A) (tk : Takes X W) (ha : PA X (e :: es) t)
    (ht : eval (.Call fe (e :: es) [] pos) X.env = (do callWith pos (← eval fe X.env) [] (backTo pos (starEach (e :: es) X.env)) (backToKw pos (keywordEach [] X.env))) := by rfl)
    (he : starEach (e :: es) X.env = (false, eval e X.env) :: starEach es X.env := by rfl) (hpl : (backTo pos (starEach es X.env)).any (·.1) = false := by rfl) : PE X (.Call fe (e :: es) [] pos) (tCallOW C sp W tf t) := by
  refine ⟨fun pins s σ H Q I h => ?_⟩
  refine PyProof.Rows.Call_ (thn (hf.run pins s σ H _ I h) fun u s1 ⟨y, H1, I1, ry, a, ey, q⟩ => ?_) ht
  subst ey
  obtain rfl : u = Value.ref a := ry
  refine StX.callO_with (thn (ha.run pos pins s1 σ H1 _ I1 q) fun us s2 ⟨vs, H2, I2, r, hi, q2⟩ => ?_) he hpl
  obtain ⟨dx, fs, hx⟩ := hi
  obtain ⟨ox, od, J, hd⟩ := StX.insC_at (X := X) I2 (.inr ⟨dx, fs, hx⟩)
  refine ⟨⟨C, ox, od, J, hd⟩, ?_⟩
  refine wpAny_call (PySem.W.kco_code I2.kIn J hd c.at_ c.fn c.fi ?_)
  refine codeAny_mono (F X.A X.stack s2 H2 (.ref a :: us) (V.ref a :: vs) Q _ hr I2.env0 (.cons rfl r) q2) fun r s' hq => ?_
  cases r with
  | error u => exact tk u s' (XE.of_call I2 (fun _ _ _ z => z) hq)
  | ok fl =>
    cases fl with
    | ret u => exact I2.after hq
    | next => exact False.elim hq
    | brk => exact False.elim hq
    | cont => exact False.elim hq
/-- a op b, a's class has its own -/
def tCmpW (K : Fg) (C : Addr) (sp : Sp) (W : WX) (ta tb : TE) : TE := fun σ H Q => ta σ H fun x H1 => tb σ H1 fun y H2 => ∃ a' dx fs b' dy gs C', x = .ref a' ∧ y = .ref b' ∧ H2 a' = some (.ins C dx fs) ∧ H2 b' = some (.ins C' dy gs) ∧ PySem.W.notFirst K C (.ref C') = true ∧ sp [x, y] H2 Q fun c d H3 => W c d σ H3
theorem cmpW_run {pins : List (Addr × Obj)} {s2 : Shared} {σ : L2.St} {H2 : Hp} {Q : VK} {a' dx b' dy C' : Addr} {fs gs : List (Str × V)} (hop : ∀ a b, compareOp op a b = richCompare op a b) (hs : PySem.W.findIn X.K (.ref C) (cmpInfo op).2.1 = some (some (.ref g))) (hf : PySem.W.isFn X.K (.ref g) = true) (F : FnR X.prog X.w X.K X.mg X.base (L2.CX X.prog X.w) k g sp)
    (hr : Room k X.A) (tk : Takes X W) (I2 : Inv X pins σ H2 s2) (ea : H2 a' = some (.ins C dx fs)) (eb : H2 b' = some (.ins C' dy gs)) (hn : PySem.W.notFirst X.K C (.ref C') = true) (q : sp [.ref a', .ref b'] H2 Q fun c d H3 => W c d σ H3) :
    wpAny (model X.prog X.w) X.A (compareOp op (.ref a') (.ref b')) (EP X pins σ Q) X.xe s2 := by
  obtain ⟨mA, O, _⟩ := ins_get I2.hok ea
  obtain ⟨od, J, _⟩ := O.look
  obtain ⟨mB, O', _⟩ := ins_get I2.hok eb
  obtain ⟨od', J', _⟩ := O'.look
  obtain ⟨m, hF⟩ := I2.fr
  rw [hop]
  refine PySem.W.cmp_K (op := op) (tb := .ref C') hr.units0 hF I2.ok.mod.kin J J'.type hn hs hf ?_
  refine wpAny_mono (run_fnW (us := [.ref a', .ref b']) (vs := [.ref a', .ref b']) F hr tk I2 (.cons rfl (.cons rfl .nil)) q) (fun w s' z => ?_) fun _ _ x => x
  obtain ⟨z', H', I', rz, qz⟩ := z
  exact SlX.cmpback rz ⟨z', H', I', rz, qz⟩
theorem pe_cmpW (hop : ∀ a b, compareOp op a b = richCompare op a b) (hs : PySem.W.findIn X.K (.ref C) (cmpInfo op).2.1 = some (some (.ref g))) (hf : PySem.W.isFn X.K (.ref g) = true) (F : FnR X.prog X.w X.K X.mg X.base (L2.CX X.prog X.w) k g sp)
    (hr : Room k X.A) (tk : Takes X W) (ha : PE X a ta) (hb : PE X b tb) (hm : behindInMarks op b = false) : PE X (.Compare a [op] [b] pos) (tCmpW X.K C sp W ta tb) := by
  refine ⟨fun pins s σ H Q I h => ?_⟩
  refine wpAny_Compare1 (thn (ha.run pins s σ H _ I h) fun v s1 ⟨x, H1, I1, r1, q1⟩ => thn (hb.run pins s1 σ H1 _ I1 q1) fun u s2 ⟨y, H2, I2, r2, q2⟩ => ?_) hm
  obtain ⟨a', dx, fs, b', dy, gs, C', ex, ey, ea, eb, hn, q⟩ := q2
  subst ex ey
  obtain rfl : v = Value.ref a' := r1
  obtain rfl : u = Value.ref b' := r2
  exact cmpW_run hop hs hf F hr tk I2 ea eb hn q
theorem pt_cmpW (hop : ∀ a b, compareOp op a b = richCompare op a b) (hs : PySem.W.findIn X.K (.ref C) (cmpInfo op).2.1 = some (some (.ref g))) (hf : PySem.W.isFn X.K (.ref g) = true) (F : FnR X.prog X.w X.K X.mg X.base (L2.CX X.prog X.w) k g sp)
    (hr : Room k X.A) (tk : Takes X W) (ha : PE X a ta) (hb : PE X b tb) (hm : behindInMarks op b = false) : PT X (.Compare a [op] [b] pos) (tTest (tCmpW X.K C sp W ta tb)) := by
  refine ⟨fun pins s σ H Q I h => ?_⟩
  refine wpAny_isTrue_Compare1 (thn (ha.run pins s σ H _ I h) fun v s1 ⟨x, H1, I1, r1, q1⟩ => thn (hb.run pins s1 σ H1 _ I1 q1) fun u s2 ⟨y, H2, I2, r2, q2⟩ => ?_) hm
  obtain ⟨a', dx, fs, b', dy, gs, C', ex, ey, ea, eb, hn, q⟩ := q2
  subst ex ey
  obtain rfl : v = Value.ref a' := r1
  obtain rfl : u = Value.ref b' := r2
  refine thn (cmpW_run hop hs hf F hr tk I2 ea eb hn q) fun c s3 ⟨z, H3, I3, r3, k, e, q3⟩ => ?_
  subst e
  cases r3
  exact wpAny_truthy_bool ⟨H3, I3, q3⟩
end raw
end Kf
end
section
set_option maxRecDepth 100000
set_option maxHeartbeats 4000000
/-! KfP: objects by value: fields, methods, making, comparisons, dicts. -/
namespace Kf
open PySem L2

theorem putF_new {f : Str} {v : V} : ∀ {fs : List (Str × V)}, fs.lookup f = none → putF f v fs = fs ++ [(f, v)]
  | [], _ => rfl
  | (g, x) :: r, h => by
    rw [List.lookup_cons] at h
    cases q : (f == g) with
    | true => rw [q] at h; cases h
    | false =>
      rw [q] at h
      have ne : ¬ g = f := fun z => by rw [z] at q; simp at q
      show (if g = f then (g, v) :: r else (g, x) :: putF f v r) = _
      rw [if_neg ne, putF_new h]
      rfl
theorem RpF.snoc {K : Fg} {S : Hp} {v : V} {d : D} {f : Str} (h : Rp K S v d) : ∀ {fs : List (Str × V)} {ds : List (Str × D)}, RpF K S fs ds → RpF K S (fs ++ [(f, v)]) (ds ++ [(f, d)])
  | _, _, .nil => .cons h .nil
  | _, _, .cons q t => .cons q (RpF.snoc h t)
/-- behind a call that was given the new object p -/
theorem Wd.afterP {K : Fg} {e : Ent} {S H S' H' : Hp} {σ : L2.St} {Γ : Gam} {p : Addr} (w : Wd K e S H σ Γ) (hn : ∀ (j : Nat) (o' : O), Γ[j]? = some (some (.ow o')) → σ[j]? ≠ some (some (.ref p))) (h0 : e.H0 p = none) (m : Nx ⟨S, H, some p⟩ S' H') : Wd K e S' H' σ Γ := by
  refine ⟨w.nx.trans m fun q z => by cases z; exact .inl h0, w.sl.len, fun i b q => ?_, w.sl.dj, w.sl.z⟩
  obtain ⟨v, h1, h2⟩ := w.sl.at_ i b q
  refine ⟨v, h1, ?_⟩
  cases b with
  | st d => exact Rp.mono m.ss h2
  | xc a d fl => exact h2.xcm m.ss
  | nw d l => exact h2.elim
  | ow o1 =>
    obtain ⟨x, h3, h4, h5, h6⟩ := h2
    subst h3
    have nx : x ≠ p := fun z => hn i o1 q (by rw [h1, z])
    cases z : H x with
    | none => exact absurd z h5.some
    | some u => exact ⟨x, rfl, (m.old x h5.some).trans h4, h5.to m.ss ((m.hh x u z fun y => nx (Option.some.inj y).symm).trans z.symm), h6⟩
section
variable {X : Cx} {e : Ent} {Γ : Gam} {x a b : Expr} {es : List Expr} {d : D} {fs : List (Str × D)} {C f m : Str} {pos p p1 p2 apos : Pos} {k : Kn} {rest : List Stmt} {j n : Nat} {W : WX} {U : Wx}
/-- x.f -/
theorem pv_fld (c : Cls X.K (He.ga X.K C)) (na : NoAttr X.K (He.ga X.K C) f) (he : PV X e x Γ (.obj C fs)) (hl : fs.lookup f = some d) (hb : attributeBase x f X.env (eval x X.env) = eval x X.env := by rfl) : PV X e (.Attribute x f pos) Γ d :=
  PE.imp (pe_fld he hb) fun σ H Q ⟨S, w, q⟩ => ⟨S, w, fun S1 H1 v s1 w1 r1 => by
    cases r1 with
    | obj h1 h2 =>
      obtain ⟨u, hu, ru⟩ := h2.lookup hl
      exact ⟨_, _, _, _, u, rfl, w1.nx.sh _ _ h1, c, na, hu, q S1 H1 u s1 w1 ru⟩⟩
/-- self.f = v, self one's own, the field new -/
theorem bl_fld {nm : Str} {np pos' : Pos} {value : Expr} {Φ : D → Gam → Prop} {fs0 : List (Str × D)} (i : Nat) (c : Cls X.K (He.ga X.K C)) (na : NoAttr X.K (He.ga X.K C) f) (he : EV X e value Γ Φ)
    (h : ∀ d Γ1, Φ d Γ1 → ∃ fs, Γ1[i]? = some (some (.ow (.obj C fs))) ∧ fs.lookup f = none ∧ fs.length < 900 ∧ BL X e rest (Γ1.set i (some (.ow (.obj C (fs ++ [(f, d)]))))) k)
    (hN : X.N[i]? = some nm := by rfl) (hv : Vis X.env.scope nm := by first | exact Or.inl rfl | exact Or.inr (Or.inl rfl) | exact Or.inr (Or.inr rfl)) (h1 : (nm == ("__debug__" : Str)) = false := by decide) (h2 : (nm == ("__classdict__" : Str)) = false := by decide)
    (hs : swapsWith value (some (.Attribute (.Name nm np) f pos')) pos.line X.env = pure false := by rfl) : BL X e (.Assign [.Attribute (.Name nm np) f pos'] value pos :: rest) Γ k := by
  refine bl_cons (fun Γ2 => ∃ d Γ1 fs, Φ d Γ1 ∧ Γ1[i]? = some (some (.ow (.obj C fs))) ∧ Γ2 = Γ1.set i (some (.ow (.obj C (fs ++ [(f, d)])))) ∧ BL X e rest Γ2 k) (PS.imp (ps_fld (pe_var hN hv h1 h2) he hs) fun D σ H ⟨S, w, nx, _⟩ => ⟨S, w, fun S1 H1 y d Γ1 hd s1 w1 r1 => ?_⟩) fun Γ2 ⟨_, _, _, _, _, _, z⟩ => z
  obtain ⟨fs, g1, g2, g3, hB⟩ := h d Γ1 hd
  obtain ⟨v, g4, c', g5, sc, ow, hc⟩ := w1.sl.at_ i _ g1
  subst g5
  obtain ⟨dx, fv, g6, g7⟩ := ow
  refine ⟨_, g4, c', _, dx, fv, rfl, g6, c, na, by rw [g7.length]; omega, ?_⟩
  rw [putF_new (g7.none g2)]
  exact nx S1 σ _ _ ⟨d, Γ1, fs, hd, g1, rfl, hB⟩ s1.ss (w1.put g1 g4 ⟨dx, _, upd_same, RpF.snoc r1 g7⟩)
/-- C(..): one's own -/
theorem eo_make {c : Fo} {fI : Addr} {Φa : List D → Gam → Prop} {Φ : O → Gam → Prop} (M : Mk X.K (He.ga X.K C) fI) (F : FnR X.prog X.w X.K X.mg X.base (L2.CX X.prog X.w) n fI (spO X.K c)) (hm : X.mg C = some (.ref (He.ga X.K C))) (hr : Room j X.A) (hj : n + 1 ≤ j) (tk : Takes X (wX X.K e U)) (ha : AV X e (a :: es) Γ Φa)
    (h : ∀ ds Γ1, Φa ds Γ1 → c.pre (.obj C []) ds ∧ (∀ b o', c.post (.obj C []) ds b o' → b = .st .non ∧ Φ o' Γ1) ∧ ∀ y fl o', c.exn (.obj C []) ds y fl o' → U y fl Γ1) (hg : Gl X C := by rfl) (hdb : (C == ("__debug__" : Str)) = false := by decide)
    (he : starEach (a :: es) X.env = (false, eval a X.env) :: starEach es X.env := by rfl) (hpl : (backTo pos (starEach es X.env)).any (·.1) = false := by rfl) : EO X e (.Call (.Name C p) (a :: es) [] pos) Γ Φ :=
  PE.imp (pe_makeW M F (hr.mono hj) tk hg hm ha hdb he hpl) fun σ H Q ⟨S, w, q⟩ => ⟨S, w, fun S1 H1 vs ds Γ1 hds s1 w1 r1 p dx hp hdx ne => by
    obtain ⟨h1, h2, h3⟩ := h ds Γ1 hds
    have wa : Wd X.K e S1 (upd H1 dx (.own p)) σ Γ1 := w1.own hdx
    have hp2 : upd H1 dx (.own p) p = none := by rw [upd_ne (Ne.symm ne)]; exact hp
    have wb : Wd X.K e S1 (upd (upd H1 dx (.own p)) p (.ins (He.ga X.K C) dx [])) σ Γ1 := wa.own hp2
    have hpf : ∀ (j : Nat) (o' : O), Γ1[j]? = some (some (.ow o')) → σ[j]? ≠ some (some (.ref p)) := w1.fresh_ne hp
    have h0 : e.H0 p = none := w1.nx.fresh hp
    have old : ∀ b u, H1 b = some u → upd (upd H1 dx (.own p)) p (.ins (He.ga X.K C) dx []) b = some u := fun b u z => by
      rw [upd_ne (ne_of_none z hp), upd_ne (ne_of_none z hdx)]; exact z
    refine ⟨S1, p, vs, .obj C [], ds, rfl, wb.nx.sh, w1.nx.sh.free hp, ⟨dx, [], upd_same, .nil⟩, r1, h1, fun S2 H2 v b o' hb n2 ow2 ok2 => ?_, fun S2 H2 y fl cls dd o' hy n2 ow2 ek => ?_⟩
    · obtain ⟨rfl, hΦ⟩ := h2 b o' hb
      cases ok2
      refine ⟨rfl, ?_⟩
      have w2 := wb.afterP hpf h0 n2
      have st : Stp σ Γ1 S1 H1 Γ1 S2 H2 := ⟨n2.ss, fun b u z _ => n2.hh b u (old b u z) fun y => ne_of_none z hp (Option.some.inj y).symm, fun b z => by
        cases q : H1 b with
        | none => exact absurd q z
        | some u => exact n2.al b (fun t => by have := (old b u q).symm.trans t; cases this), fun b z => by
        cases q : H1 b with
        | none => exact absurd q z
        | some u => exact n2.old b (fun t => by have := (old b u q).symm.trans t; cases this), fun i o hi => ⟨o, hi⟩⟩
      have sp2 : S2 p = none := (n2.old p (fun t => by have := (upd_same (H := upd H1 dx (.own p)) (a := p) (o := .ins (He.ga X.K C) dx [])).symm.trans t; cases this)).trans (w1.nx.sh.free hp)
      exact q S2 H2 p o' Γ1 hΦ (s1.trans st) w2 sp2 ow2 (by
        cases z : H p with
        | none => rfl
        | some y => exact absurd hp (s1.al p (by rw [z]; exact fun t => nomatch t)))
    · have w2 := wb.afterP hpf h0 n2
      exact ⟨S2, y, fl, Γ1, h3 y fl o' hy, w2, eok_up wb.nx ek⟩⟩
/-! methods of objects that stand for good -/
/-- a method of the text: its promise speaks of self first -/
structure Md (P : Program) (w : World) (K : Fg) (mg : Str → Option Value) (base : Heap) (C m : Str) (k : Nat) (c : Fp) : Prop where
  cls : Cls K (He.ga K C)
  fn : ∃ g, Meth K (He.ga K C) m g ∧ FnR P w K mg base (L2.CX P w) k g (spP K c)
abbrev XMd (X : Cx) (C m : Str) (k : Nat) (c : Fp) : Prop := Md X.prog X.w X.K X.mg X.base C m k c
theorem pv_meth {c : Fp} {ds : List D} {pl : Sem Bool} (N : XMd X C m n c) (hr : Room j X.A) (hj : n ≤ j) (hx : PV X e x Γ (.obj C fs)) (hf : fs.lookup m = none) (ha : PVs X e (a :: es) Γ ds) (hp : c.pre (.obj C fs :: ds)) (hq : ∀ b, c.post (.obj C fs :: ds) b → b = .st d) (hn : ∀ y fl, ¬ c.exn (.obj C fs :: ds) y fl)
    (hst : starEach (a :: es) X.env = (false, eval a X.env) :: starEach es X.env := by rfl) (hpl : (backTo pos (starEach es X.env)).any (·.1) = false := by rfl)
    (ht : eval (.Call (.Attribute x m apos) (a :: es) [] pos) X.env = (do
      let ov ← eval x X.env
      standAt apos.atName
      let (f, first) ← holding [ov] (getMethod ov m pl)
      callWith pos f first (backTo pos (starEach (a :: es) X.env)) (backToKw pos (keywordEach [] X.env))) := by rfl) : PV X e (.Call (.Attribute x m apos) (a :: es) [] pos) Γ d := by
  obtain ⟨g, hm, F⟩ := N.fn
  exact PE.imp (pe_methW (W := fun _ _ _ _ => False) hx N.cls hm F (hr.mono hj) takes0 ha hst hpl ht) fun σ H Q ⟨S, w, q⟩ => ⟨S, w, fun S1 H1 v s1 w1 r1 => by
    cases r1 with
    | obj h1 h2 =>
      refine ⟨_, _, _, rfl, w1.nx.sh _ _ h1, h2.none hf, S1, w1, fun S2 H2 vs s2 w2 r2 => ?_⟩
      refine ⟨S2, .obj C fs :: ds, w2.nx.sh, .cons (.obj (s2.ss _ _ h1) (h2.mono s2.ss)) r2, hp, fun S3 H3 v b hb n3 r3 => ?_, fun S3 H3 y fl cls dd hy => (hn y fl hy).elim⟩
      obtain ⟨w3, s3⟩ := w2.after n3
      rw [hq b hb] at r3
      exact q S3 H3 v ((s1.trans s2).trans s3) w3 r3⟩
theorem pn_meth0 {c : Fp} {o : O} {pl : Sem Bool} (N : XMd X C m n c) (hr : Room j X.A) (hj : n ≤ j) (hx : PV X e x Γ (.obj C fs)) (hf : fs.lookup m = none) (hp : c.pre [.obj C fs]) (hq : ∀ b, c.post [.obj C fs] b → b = .ow o) (hn : ∀ y fl, ¬ c.exn [.obj C fs] y fl)
    (ht : eval (.Call (.Attribute x m apos) [] [] pos) X.env = (do
      let ov ← eval x X.env
      standAt apos.atName
      let (f, first) ← holding [ov] (getMethod ov m pl)
      callWith pos f first (backTo pos (starEach [] X.env)) (backToKw pos (keywordEach [] X.env))) := by rfl) : PN X e (.Call (.Attribute x m apos) [] [] pos) Γ o := by
  obtain ⟨g, hm, F⟩ := N.fn
  exact PE.imp (pe_methW0 (W := fun _ _ _ _ => False) hx N.cls hm F (hr.mono hj) takes0 ht) fun σ H Q ⟨S, w, q⟩ => ⟨S, w, fun S1 H1 v s1 w1 r1 => by
    cases r1 with
    | obj h1 h2 =>
      refine ⟨_, _, _, rfl, w1.nx.sh _ _ h1, h2.none hf, ?_⟩
      refine ⟨S1, [.obj C fs], w1.nx.sh, .cons (.obj h1 h2) .nil, hp, fun S3 H3 v b hb n3 r3 => ?_, fun S3 H3 y fl cls dd hy => (hn y fl hy).elim⟩
      obtain ⟨w3, s3⟩ := w1.after n3
      rw [hq b hb] at r3
      obtain ⟨p3, rfl, sp3, ow3, z0⟩ := r3
      exact q S3 H3 p3 (s1.trans s3) w3 sp3 ow3 (s1.hh.free z0)⟩
/-- with errors; a value that stands for good, or new -/
theorem ev_meth0 {c : Fp} {Φ : D → Gam → Prop} {pl : Sem Bool} (N : XMd X C m n c) (hr : Room j X.A) (hj : n ≤ j) (tk : Takes X (wX X.K e U)) (hx : PV X e x Γ (.obj C fs)) (hf : fs.lookup m = none) (hp : c.pre [.obj C fs]) (hq : ∀ b, c.post [.obj C fs] b → ∃ d, (b = .st d ∨ ∃ o, b = .ow o ∧ o.d = d) ∧ Φ d Γ) (hn : ∀ y fl, c.exn [.obj C fs] y fl → U y fl Γ)
    (ht : eval (.Call (.Attribute x m apos) [] [] pos) X.env = (do
      let ov ← eval x X.env
      standAt apos.atName
      let (f, first) ← holding [ov] (getMethod ov m pl)
      callWith pos f first (backTo pos (starEach [] X.env)) (backToKw pos (keywordEach [] X.env))) := by rfl) : EV X e (.Call (.Attribute x m apos) [] [] pos) Γ Φ := by
  obtain ⟨g, hm, F⟩ := N.fn
  exact PE.imp (pe_methW0 (W := wX X.K e U) hx N.cls hm F (hr.mono hj) tk ht) fun σ H Q ⟨S, w, q⟩ => ⟨S, w, fun S1 H1 v s1 w1 r1 => by
    cases r1 with
    | obj h1 h2 =>
      refine ⟨_, _, _, rfl, w1.nx.sh _ _ h1, h2.none hf, ?_⟩
      refine ⟨S1, [.obj C fs], w1.nx.sh, .cons (.obj h1 h2) .nil, hp, fun S3 H3 v b hb n3 r3 => ?_, fun S3 H3 y fl cls dd hy n3 ek => ?_⟩
      · obtain ⟨w3, s3⟩ := w1.after n3
        obtain ⟨d, hd, hΦ⟩ := hq b hb
        rcases hd with rfl | ⟨o, rfl, rfl⟩
        · exact q S3 H3 v d Γ hΦ (s1.trans s3).stp w3 r3
        · obtain ⟨p3, rfl, sp3, ow3, z0⟩ := r3
          obtain ⟨S4, s4, w4, r4⟩ := tO_frz (s1.trans s3).stp w w3 sp3 ow3 (s1.hh.free z0)
          exact q S4 H3 _ _ Γ hΦ s4 w4 r4
      · obtain ⟨w3, _⟩ := w1.after n3
        exact ⟨S3, y, fl, Γ, hn y fl hy, w3, eok_up w1.nx ek⟩⟩
/-- f(a, ..), f an instance -/
theorem ev_inst {c : Fp} {g : Addr} {ds : List D} {Φ : D → Gam → Prop} (co : StX.CallO X.K (He.ga X.K C) g) (F : FnR X.prog X.w X.K X.mg X.base (L2.CX X.prog X.w) n g (spP X.K c)) (hr : Room j X.A) (hj : n ≤ j) (tk : Takes X (wX X.K e U)) (hx : PV X e x Γ (.obj C fs)) (ha : PVs X e (a :: es) Γ ds)
    (hp : c.pre (.obj C fs :: ds)) (hq : ∀ b, c.post (.obj C fs :: ds) b → ∃ d, b = .st d ∧ Φ d Γ) (hn : ∀ y fl, c.exn (.obj C fs :: ds) y fl → U y fl Γ)
    (ht : eval (.Call x (a :: es) [] pos) X.env = (do callWith pos (← eval x X.env) [] (backTo pos (starEach (a :: es) X.env)) (backToKw pos (keywordEach [] X.env))) := by rfl)
    (he : starEach (a :: es) X.env = (false, eval a X.env) :: starEach es X.env := by rfl) (hpl : (backTo pos (starEach es X.env)).any (·.1) = false := by rfl) : EV X e (.Call x (a :: es) [] pos) Γ Φ :=
  PE.imp (pe_callOW (W := wX X.K e U) hx co F (hr.mono hj) tk ha ht he hpl) fun σ H Q ⟨S, w, q⟩ => ⟨S, w, fun S1 H1 v s1 w1 r1 => by
    cases r1 with
    | obj h1 h2 =>
      refine ⟨_, rfl, S1, w1, fun S2 H2 vs s2 w2 r2 => ⟨⟨_, _, w2.nx.sh _ _ (s2.ss _ _ h1)⟩, ?_⟩⟩
      refine ⟨S2, .obj C fs :: ds, w2.nx.sh, .cons (.obj (s2.ss _ _ h1) (h2.mono s2.ss)) r2, hp, fun S3 H3 v b hb n3 r3 => ?_, fun S3 H3 y fl cls dd hy n3 ek => ?_⟩
      · obtain ⟨w3, s3⟩ := w2.after n3
        obtain ⟨d, rfl, hΦ⟩ := hq b hb
        exact q S3 H3 v d Γ hΦ ((s1.trans s2).trans s3).stp w3 r3
      · obtain ⟨w3, _⟩ := w2.after n3
        exact ⟨S3, y, fl, Γ, hn y fl hy, w3, eok_up w2.nx ek⟩⟩
/-! own comparisons -/
/-- C's own op between two objects (of C and C') -/
structure Od (P : Program) (w : World) (K : Fg) (mg : Str → Option Value) (base : Heap) (C C' : Str) (op : CmpOp) (k : Nat) (c : Fp) : Prop where
  nf : PySem.W.notFirst K (He.ga K C) (.ref (He.ga K C')) = true
  fn : ∃ g, PySem.W.findIn K (.ref (He.ga K C)) (cmpInfo op).2.1 = some (some (.ref g)) ∧ PySem.W.isFn K (.ref g) = true ∧ FnR P w K mg base (L2.CX P w) k g (spP K c)
abbrev XOd (X : Cx) (C C' : Str) (op : CmpOp) (k : Nat) (c : Fp) : Prop := Od X.prog X.w X.K X.mg X.base C C' op k c
theorem tCmp_read {c : Fp} {C' : Str} {gs : List (Str × D)} {op : CmpOp} (N : XOd X C C' op n c) {Φ : D → Gam → Prop} (hp : c.pre [.obj C fs, .obj C' gs]) (hq : ∀ b, c.post [.obj C fs, .obj C' gs] b → ∃ d, b = .st d ∧ Φ d Γ) (hn : ∀ y fl, c.exn [.obj C fs, .obj C' gs] y fl → U y fl Γ)
    {σ : L2.St} {H : Hp} {Q : VK} (h : ∃ S, Wd X.K e S H σ Γ ∧ ∀ S' H' v d, Φ d Γ → Pur S H S' H' → Wd X.K e S' H' σ Γ → Rp X.K S' v d → Q v H') : tCmpW X.K (He.ga X.K C) (spP X.K c) (wX X.K e U) (tP X.K e Γ (.obj C fs)) (tP X.K e Γ (.obj C' gs)) σ H Q :=
  let ⟨S, w, q⟩ := h
  ⟨S, w, fun S1 H1 v1 s1 w1 r1 => ⟨S1, w1, fun S2 H2 v2 s2 w2 r2 => by
    cases r1 with
    | obj h1 h2 =>
      cases r2 with
      | obj h3 h4 =>
        refine ⟨_, _, _, _, _, _, _, rfl, rfl, w2.nx.sh _ _ (s2.ss _ _ h1), w2.nx.sh _ _ h3, N.nf, S2, _, w2.nx.sh, .cons (.obj (s2.ss _ _ h1) (h2.mono s2.ss)) (.cons (.obj h3 h4) .nil), hp, fun S3 H3 v b hb n3 r3 => ?_, fun S3 H3 y fl cls dd hy n3 ek => ?_⟩
        · obtain ⟨w3, s3⟩ := w2.after n3
          obtain ⟨d, rfl, hΦ⟩ := hq b hb
          exact q S3 H3 v d hΦ ((s1.trans s2).trans s3) w3 r3
        · obtain ⟨w3, _⟩ := w2.after n3
          exact ⟨S3, y, fl, Γ, hn y fl hy, w3, eok_up w2.nx ek⟩⟩⟩
theorem ev_own {c : Fp} {C' : Str} {gs : List (Str × D)} {op : CmpOp} {Φ : D → Gam → Prop} (N : XOd X C C' op n c) (hop : ∀ a b, compareOp op a b = richCompare op a b) (hr : Room j X.A) (hj : n ≤ j) (tk : Takes X (wX X.K e U)) (ha : PV X e a Γ (.obj C fs)) (hb : PV X e b Γ (.obj C' gs))
    (hp : c.pre [.obj C fs, .obj C' gs]) (hq : ∀ b, c.post [.obj C fs, .obj C' gs] b → ∃ d, b = .st d ∧ Φ d Γ) (hn : ∀ y fl, c.exn [.obj C fs, .obj C' gs] y fl → U y fl Γ) (hm : behindInMarks op b = false := by first | exact nomark _ | rfl) : EV X e (.Compare a [op] [b] pos) Γ Φ := by
  obtain ⟨g, g1, g2, F⟩ := N.fn
  exact PE.imp (pe_cmpW (W := wX X.K e U) hop g1 g2 F (hr.mono hj) tk ha hb hm) fun σ H Q ⟨S, w, q⟩ => tCmp_read N hp hq hn ⟨S, w, fun S' H' v d hd s w' r => q S' H' v d Γ hd s.stp w' r⟩
theorem pv_own {c : Fp} {C' : Str} {gs : List (Str × D)} {op : CmpOp} (N : XOd X C C' op n c) (hop : ∀ a b, compareOp op a b = richCompare op a b) (hr : Room j X.A) (hj : n ≤ j) (ha : PV X e a Γ (.obj C fs)) (hb : PV X e b Γ (.obj C' gs))
    (hp : c.pre [.obj C fs, .obj C' gs]) (hq : ∀ b, c.post [.obj C fs, .obj C' gs] b → b = .st d) (hn : ∀ y fl, ¬ c.exn [.obj C fs, .obj C' gs] y fl) (hm : behindInMarks op b = false := by first | exact nomark _ | rfl) : PV X e (.Compare a [op] [b] pos) Γ d := by
  obtain ⟨g, g1, g2, F⟩ := N.fn
  exact PE.imp (pe_cmpW (W := wX X.K e fun _ _ _ => False) hop g1 g2 F (hr.mono hj) takes_none ha hb hm) fun σ H Q ⟨S, w, q⟩ => tCmp_read (Φ := fun d' _ => d' = d) N hp (fun b hb => ⟨d, hq b hb, rfl⟩) (fun y fl z => (hn y fl z).elim) ⟨S, w, fun S' H' v d' hd s w' r => by subst hd; exact q S' H' v s w' r⟩
theorem px_own {c : Fp} {C' : Str} {gs : List (Str × D)} {op : CmpOp} {t : Bool} (N : XOd X C C' op n c) (hop : ∀ a b, compareOp op a b = richCompare op a b) (hr : Room j X.A) (hj : n ≤ j) (ha : PV X e a Γ (.obj C fs)) (hb : PV X e b Γ (.obj C' gs))
    (hp : c.pre [.obj C fs, .obj C' gs]) (hq : ∀ b, c.post [.obj C fs, .obj C' gs] b → b = .st (.bl t)) (hn : ∀ y fl, ¬ c.exn [.obj C fs, .obj C' gs] y fl) (hm : behindInMarks op b = false := by first | exact nomark _ | rfl) : PX X e (.Compare a [op] [b] pos) Γ t := by
  obtain ⟨g, g1, g2, F⟩ := N.fn
  exact PT.imp (pt_cmpW (W := wX X.K e fun _ _ _ => False) hop g1 g2 F (hr.mono hj) takes_none ha hb hm) fun σ H Q ⟨S, w, q⟩ => tCmp_read (Φ := fun d' _ => d' = .bl t) N hp (fun b hb => ⟨_, hq b hb, rfl⟩) (fun y fl z => (hn y fl z).elim) ⟨S, w, fun S' H' v d' hd s w' r => by
    subst hd
    cases r
    exact ⟨t, rfl, q S' H' s w'⟩⟩
end
end Kf
end
section
set_option maxRecDepth 100000
set_option maxHeartbeats 4000000
/-! KfQ: dicts, all, isinstance of objects, class constants. -/
namespace Kf
open PySem L2

def valD (ds : List (Key × D)) (k : Key) : Option D := (ds.find? fun kv => decide (kv.1 = k)).map (·.2)
theorem RpK.val {K : Fg} {S : Hp} {k : Key} {d : D} : ∀ {vs : List (Key × V)} {ds : List (Key × D)}, RpK K S vs ds → valD ds k = some d → ∃ v, valV vs k = some v ∧ Rp K S v d
  | _, _, .nil, h => by cases h
  | _, _, .cons (k := k') (v := v') (d := d') (vs := vs) (ds := ds) r t, h => by
    by_cases q : k' = k
    · subst q
      have e : valD ((k', d') :: ds) k' = some d' := by unfold valD; rw [List.find?_cons_of_pos (by simp)]; rfl
      rw [e] at h
      cases h
      exact ⟨_, by unfold valV; rw [List.find?_cons_of_pos (by simp)]; rfl, r⟩
    · have e : valD ((k', d') :: ds) k = valD ds k := by unfold valD; rw [List.find?_cons_of_neg (by simpa using q)]
      rw [e] at h
      obtain ⟨v, h1, h2⟩ := RpK.val t h
      exact ⟨v, by unfold valV at h1 ⊢; rw [List.find?_cons_of_neg (by simpa using q)]; exact h1, h2⟩
theorem RpK.keys {K : Fg} {S : Hp} : ∀ {vs : List (Key × V)} {ds : List (Key × D)}, RpK K S vs ds → vs.map (·.1) = ds.map (·.1)
  | _, _, .nil => rfl
  | _, _, .cons _ t => by rw [List.map_cons, List.map_cons, t.keys]
theorem RpK.snoc {K : Fg} {S : Hp} {v : V} {d : D} {k : Key} (h : Rp K S v d) : ∀ {vs : List (Key × V)} {ds : List (Key × D)}, RpK K S vs ds → RpK K S (vs ++ [(k, v)]) (ds ++ [(k, d)])
  | _, _, .nil => .cons h .nil
  | _, _, .cons q t => .cons q (RpK.snoc h t)
section
variable {X : Cx} {e : Ent} {Γ : Gam} {x i : Expr} {pos : Pos} {k : Kn} {rest : List Stmt} {j : Nat}
/-- x[z], a text the key -/
theorem pv_dget {ds : List (Key × D)} {z : Str} {d : D} (hr : Room j X.A) (hx : PV X e x Γ (.dK ds)) (hi : PV X e i Γ (.str z)) (h : valD ds (.inr z) = some d) (hs : NoSl i := by first | exact fun _ _ => rfl | exact rfl | decide) : PV X e (.Subscript x i pos) Γ d :=
  PE.imp (L2.pe_dget (by have := hr.units; omega) hx hi hs) fun σ H Q ⟨S, w, q⟩ => ⟨S, w, fun S1 H1 v s1 w1 r1 => ⟨S1, w1, fun S2 H2 y s2 w2 r2 => by
    cases r1 with
    | dK h1 h2 =>
      cases r2
      obtain ⟨u, hu, ru⟩ := (h2.mono s2.ss).val h
      exact ⟨_, u, rfl, .inl ⟨_, .inr z, same_rd w2.nx.sh (same_rd s2.ss h1), rfl, hu.symm⟩, q S2 H2 u (s1.trans s2) w2 ru⟩⟩⟩
/-- d[z] = v, d one's own, the key new -/
theorem bl_dput {nm : Str} {np sp : Pos} {value : Expr} {Φ : D → Gam → Prop} (ix : Nat) (hr : Room j X.A) (hv : EV X e value Γ Φ) (h0 : ∀ d Γ1, Φ d Γ1 → ∃ l z, Γ1[ix]? = some (some (.ow (.dK l))) ∧ PV X e i Γ1 (.str z) ∧ (Sum.inr z : Key) ∉ l.map (·.1) ∧ l.length < 100000 ∧ BL X e rest (Γ1.set ix (some (.ow (.dK (l ++ [(.inr z, d)]))))) k)
    (hN : X.N[ix]? = some nm := by rfl) (hvs : Vis X.env.scope nm := by first | exact Or.inl rfl | exact Or.inr (Or.inl rfl) | exact Or.inr (Or.inr rfl)) (h1 : (nm == ("__debug__" : Str)) = false := by decide) (h2 : (nm == ("__classdict__" : Str)) = false := by decide)
    (hs : swapsWith value (some (.Subscript (.Name nm np) i sp)) pos.line X.env = pure false := by rfl) : BL X e (.Assign [.Subscript (.Name nm np) i sp] value pos :: rest) Γ k := by
  have hiT : PE X i (fun σ H Q => ∃ d Γ1 z, Φ d Γ1 ∧ PV X e i Γ1 (.str z) ∧ tP X.K e Γ1 (.str z) σ H Q) := ⟨fun pins s σ H Q I ⟨d, Γ1, z, _, hp, q⟩ => hp.run pins s σ H Q I q⟩
  refine bl_cons (fun Γ2 => ∃ d Γ1 l z, Φ d Γ1 ∧ Γ1[ix]? = some (some (.ow (.dK l))) ∧ Γ2 = Γ1.set ix (some (.ow (.dK (l ++ [(.inr z, d)])))) ∧ BL X e rest Γ2 k) (PS.imp (L2.ps_dput (by have := hr.units; omega) (pe_var hN hvs h1 h2) hiT hv hs) fun D σ H ⟨S, w, nx, _⟩ => ⟨S, w, fun S1 H1 v d Γ1 hd s1 w1 r1 => ?_⟩) fun Γ2 ⟨_, _, _, _, _, _, _, z⟩ => z
  obtain ⟨l, z, g1, g2, g3, g4, hB⟩ := h0 d Γ1 hd
  obtain ⟨u, g5, p, g6, sp1, ow1, hp⟩ := w1.sl.at_ ix _ g1
  subst g6
  refine ⟨_, g5, d, Γ1, z, hd, g2, S1, w1, fun S2 H2 y s2 w2 r2 => ?_⟩
  cases r2
  obtain ⟨u', g5', p', g6', sp2, ow2, hp2⟩ := w2.sl.at_ ix _ g1
  rw [g5] at g5'
  cases g5'
  cases g6'
  obtain ⟨kvs, g7, g8⟩ := ow2
  have hkeys := g8.keys
  have hno : (kvs.any fun kv => decide (kv.1 = (Sum.inr z : Key))) = false := by
    rw [List.any_eq_false]
    intro kv hkv hh
    rw [decide_eq_true_eq] at hh
    exact g3 (by rw [← hkeys]; exact List.mem_map.mpr ⟨kv, hkv, hh⟩)
  refine ⟨p, upd H2 p (.dK (putK kvs (.inr z) v)), rfl, .inl ⟨kvs, .inr z, g7, rfl, ?_, rfl⟩, ?_⟩
  · rw [g8.length]; exact Nat.lt_of_lt_of_le g4 (by decide)
  · have e1 : putK kvs (.inr z) v = kvs ++ [(.inr z, v)] := by unfold putK; rw [hno]; rfl
    rw [e1]
    exact nx S2 σ _ _ ⟨d, Γ1, l, z, hd, g1, rfl, hB⟩ (s1.ss.trans s2.ss) (w2.put g1 g5 ⟨_, upd_same, (RpK.snoc (r1.mono s2.ss) g8)⟩)
/-- all([..]) of answers -/
theorem rpl_bls {K : Fg} {S : Hp} : ∀ {vs : List V} {bs : List Bool}, RpL K S vs (bs.map .bl) → vs = bs.map V.bl
  | _, [], .nil => rfl
  | _, b :: bs, .cons r t => by
    cases r
    rw [List.map_cons, rpl_bls t]
theorem pv_all {bs : List Bool} {p : Pos} (hx : PV X e x Γ (.lst (bs.map .bl))) (hm : X.mg "all" = none) (hc : X.calm = true := by rfl) (hg : Gl X "all" := by rfl) (he : starEach [x] X.env = (false, eval x X.env) :: starEach [] X.env := by rfl) (hpl : (backTo pos (starEach [] X.env)).any (·.1) = false := by rfl) :
    PV X e (.Call (.Name "all" p) [x] [] pos) Γ (.bl (bs.all id)) :=
  pv_cb (cr_all hc) hm (by decide +kernel) (pvs_cons hx pvs_nil he) (fun S H vs Q s r q => by
    cases r with
    | cons r1 r2 =>
      cases r2
      cases r1 with
      | lst h1 h2 =>
        have e := rpl_bls h2
        subst e
        exact ⟨_, bs, rfl, rdq (same_rd s h1), q _ (.bl _)⟩) hg (by decide) (by decide) he hpl
/-- isinstance(x, C), x an object of C -/
theorem pv_isO {C : Str} {fs : List (Str × D)} {p p2 : Pos} (c : C8.InsC X.K (He.ga X.K C)) (hx : PV X e x Γ (.obj C fs)) (hmC : X.mg C = some (.ref (He.ga X.K C))) (hm : X.mg "isinstance" = none) (hg : Gl X "isinstance" := by rfl) (hgC : Gl X C := by rfl) (hd : (C == ("__debug__" : Str)) = false := by decide)
    (he : starEach [x, .Name C p2] X.env = (false, eval x X.env) :: starEach [.Name C p2] X.env := by rfl) (he2 : starEach [.Name C p2] X.env = (false, eval (.Name C p2) X.env) :: starEach [] X.env := by rfl) (hpl : (backTo pos (starEach [.Name C p2] X.env)).any (·.1) = false := by rfl) :
    PV X e (.Call (.Name "isinstance" p) [x, .Name C p2] [] pos) Γ (.bl true) :=
  pv_cb (C8.call_isC c) hm (by decide +kernel) (pvs_cons hx (pvs_cons (pv_glo hgC hmC hd) pvs_nil he2) he) (fun S H vs Q s r q => by
    cases r with
    | cons r1 r2 =>
      cases r2 with
      | cons r2 r3 =>
        cases r3
        cases r2
        cases r1 with
        | obj h1 h2 => exact ⟨_, _, _, rfl, s _ _ h1, q _ (.bl true)⟩) hg (by decide) (by decide) he hpl
/-- C.f, a number of the class -/
theorem pv_con {C f : Str} {i : Int} {p : Pos} (r : ClX.CRead X.K (He.ga X.K C) (.type "type")) (c : ∃ t, ClX.CVal X.K (He.ga X.K C) (.type "type") f (.int i) (.int i t)) (hmC : X.mg C = some (.ref (He.ga X.K C))) (hgC : Gl X C := by rfl) (hd : (C == ("__debug__" : Str)) = false := by decide)
    (hb : attributeBase (.Name C p) f X.env (eval (.Name C p) X.env) = eval (.Name C p) X.env := by rfl) : PV X e (.Attribute (.Name C p) f pos) Γ (.int i) := by
  obtain ⟨t, c⟩ := c
  exact PE.imp (ClX.pe_cval (pe_glob (v := .ref (He.ga X.K C)) hgC hmC rfl hd) hb) fun σ H Q ⟨S, w, q⟩ => ⟨_, _, _, _, rfl, r, c, q S H _ (Pur.refl _ _) w (.int i)⟩
end
end Kf
end
section
set_option maxRecDepth 100000
set_option maxHeartbeats 4000000
/-! KfL2: fresh words, names. -/
namespace Kf
open PySem L2

def numS (i : Int) : Str := toString i
theorem numS_ok : ∀ k : Fin 60, (cdl (numS (k.val : Int))).length ≤ 2 ∧ 1 ≤ (cdl (numS (k.val : Int))).length ∧ ∀ c ∈ cdl (numS (k.val : Int)), 48 ≤ c ∧ c ≤ 57 := by decide +kernel
theorem numS_inj : ∀ j k : Fin 60, cdl (numS (j.val : Int)) = cdl (numS (k.val : Int)) → j = k := by decide +kernel
theorem cdl_take (z : Str) (p : Nat) : cdl (cutS z none (some (p : Int))) = (cdl z).take p := by
  have h : z.length = (cdl z).length := (cdl_len z).symm
  show ((z.cps.toList.drop (HT.sIx z.length 0 none)).take (HT.sIx z.length z.length (some (p : Int)) - HT.sIx z.length 0 none)).toArray.toList = _
  rw [show HT.sIx z.length 0 none = 0 from rfl, show HT.sIx z.length z.length (some (p : Int)) = min p z.length from HT.sIx_nat _ _ _, List.drop_zero, Nat.sub_zero]
  show List.take (min p z.length) (cdl z) = _
  rw [h]
  exact List.take_eq_take_iff.mpr (by omega)
theorem cdl_drop (z : Str) (p : Nat) : cdl (cutS z (some (p : Int)) none) = (cdl z).drop p := by
  have h : z.length = (cdl z).length := (cdl_len z).symm
  show ((z.cps.toList.drop (HT.sIx z.length 0 (some (p : Int)))).take (HT.sIx z.length z.length none - HT.sIx z.length 0 (some (p : Int)))).toArray.toList = _
  rw [show HT.sIx z.length z.length none = z.length from rfl, show HT.sIx z.length 0 (some (p : Int)) = min p z.length from HT.sIx_nat _ _ _]
  show List.take (z.length - min p z.length) (List.drop (min p z.length) (cdl z)) = _
  rw [h]
  by_cases q : p ≤ (cdl z).length
  · rw [Nat.min_eq_left q, List.take_of_length_le (by rw [List.length_drop]; omega)]
  · rw [Nat.min_eq_right (by omega), List.drop_length, List.drop_of_length_le (by omega)]
    simp
def cand (w : Str) (k : Nat) : Str := if k = 0 then w else cutS w none (some 20) ++ numS (k : Int)
def wordOk (w : Str) : Prop := KName w ∧ (w.length ≤ 6 ∨ w.length = 24)
theorem cand_name {w : Str} (h : KName w) {k : Nat} (hk : k < 60) : KName (cand w k) := by
  unfold cand
  split
  · exact h
  · obtain ⟨d1, d2, d3⟩ := numS_ok ⟨k, hk⟩
    have e : cdl (cutS w none (some 20)) = (cdl w).take 20 := cdl_take w 20
    obtain ⟨h1, h2, ⟨c, t, h3, h4⟩, h5⟩ := h
    have h3' : cdl w = c :: t := h3
    have nm : KName (cutS w none (some 20)) := by
      refine ⟨by rw [← cdl_len, e, List.length_take, cdl_len]; omega, by rw [← cdl_len, e, List.length_take, cdl_len]; omega, ⟨c, t.take 19, by show cdl _ = _; rw [e, h3']; rfl, h4⟩, fun x hx => ?_⟩
      have hx' : x ∈ cdl (cutS w none (some 20)) := hx
      rw [e] at hx'
      exact h5 x (List.mem_of_mem_take hx')
    refine kname_app nm ?_ fun c hc => .inr (.inl (d3 c hc))
    rw [← cdl_len, ← cdl_len, e, List.length_take]
    have : (cdl (numS (k : Int))).length ≤ 2 := d1
    omega
theorem cand_inj {w : Str} (h : wordOk w) {j k : Nat} (hj : j < 60) (hk : k < 60) (q : cand w j = cand w k) : j = k := by
  have e : cdl (cutS w none (some 20)) = (cdl w).take 20 := cdl_take w 20
  have hl : (cdl w).length = w.length := cdl_len w
  have key : ∀ m : Nat, m < 60 → m ≠ 0 → cand w m ≠ w := fun m hm m0 z => by
    unfold cand at z
    rw [if_neg m0] at z
    have z' := congrArg (fun s => (cdl s).length) z
    simp only [cdl_app, e, List.length_append, List.length_take] at z'
    obtain ⟨d1, d2, _⟩ := numS_ok ⟨m, hm⟩
    have a1 : (cdl (numS (m : Int))).length ≤ 2 := d1
    have a2 : 1 ≤ (cdl (numS (m : Int))).length := d2
    rcases h.2 with y | y <;> omega
  by_cases j0 : j = 0
  · by_cases k0 : k = 0
    · omega
    · exact absurd (by rw [← q]; unfold cand; rw [if_pos j0]) (key k hk k0)
  · by_cases k0 : k = 0
    · exact absurd (by rw [q]; unfold cand; rw [if_pos k0]) (key j hj j0)
    · unfold cand at q
      rw [if_neg j0, if_neg k0] at q
      have q' := congrArg cdl q
      rw [cdl_app, cdl_app] at q'
      have := numS_inj ⟨j, hj⟩ ⟨k, hk⟩ (List.append_cancel_left q')
      exact congrArg Fin.val this
theorem cand_out {w : Str} {ns : List Str} (h : wordOk w) (hn : ns.length < 50) : ¬ ∀ j, j < ns.length + 1 → cand w j ∈ ns := fun q => by
  have nd : ((List.range (ns.length + 1)).map (cand w)).Nodup := by
    refine List.pairwise_map.mpr (List.Pairwise.imp_of_mem ?_ List.pairwise_lt_range)
    intro a b ha hb hab z
    rw [List.mem_range] at ha hb
    have := cand_inj h (by omega) (by omega) z
    omega
  have := nodup_le nd (m := ns) fun x hx => by
    obtain ⟨j, hj, rfl⟩ := List.mem_map.mp hx
    exact q j (List.mem_range.mp hj)
  rw [List.length_map, List.length_range] at this
  omega
theorem strs_inj {a b : List Str} (h : a.map D.str = b.map D.str) : a = b := by
  induction a generalizing b with
  | nil => cases b with
    | nil => rfl
    | cons => cases h
  | cons x a ih => cases b with
    | nil => cases h
    | cons y b =>
      rw [List.map_cons, List.map_cons] at h
      injection h with h1 h2
      injection h1 with h1
      rw [h1, ih h2]
section
variable {P : Program} {w : World} {K : Fg} {mg : Str → Option Value} {base : Heap}
def cFresh : Fp where
  pre ds := ∃ (wd : Str) (ns : List Str), ds = [.str wd, .lst (ns.map .str)] ∧ wordOk wd ∧ ns.length < 50
  post ds b := ∃ (wd : Str) (ns : List Str) (z : Str), ds = [.str wd, .lst (ns.map .str)] ∧ b = .st (.str z) ∧ KName z ∧ z ∉ ns
theorem scFresh : FnScope ["word", "names", "k", "found"] ["word", "names"] (defScope s_fresh) := ⟨rfl, rfl, rfl, by decide +kernel, rfl, by decide +kernel, by decide +kernel⟩
theorem ok_fresh {f : Addr} {fd : FuncData} (F : FunS K "_law_fresh" s_fresh f fd) (b : Bi mg) : FnOk P w K mg base (L2.CX P w) 1 f fd ["word", "names"] (spP K cFresh) := by
  refine fp_ok F scFresh (fun ds ⟨w, ns, h, _⟩ => by rw [h]; rfl) fun cdv A outer s e E ds ho ⟨wd, ns, hd, hw, hn⟩ hr tk => ?_
  subst hd
  have nd := scFresh.nd
  refine bl_for (fun ds i Γ => ds = rng 0 (ns.length + 1) ∧ (∀ j, j < i → cand wd j ∈ ns) ∧ ∃ kk ff, Γ = [some (.st (.str wd)), some (.st (.lst (ns.map .str))), kk, ff])
    (wv (wp_rng (n := ns.length + 1) (pv_is (pv_b op_add (pv_lenL (pv_var 1) b.len) pv_int sc_add) (by congr 1; simp)) (by omega) b.range)) (gv_name 2 nd (hz := .inl ho)) ?_ ?_ ?_ (passes_of rfl)
  · rintro ds Γ1 ⟨rfl, rfl⟩
    exact ⟨rfl, fun j hj => absurd hj (Nat.not_lt_zero _), _, _, rfl⟩
  · rintro ds i d Γ1 hdi ⟨rfl, hall, kk, ff, rfl⟩
    obtain ⟨hi, rfl⟩ := rng_at hdi
    refine ⟨_, rfl, bl_let 3 (hz := .inl ho) (pv_var 0) (bl_ifP (fun Γ => Γ = [some (.st (.str wd)), some (.st (.lst (ns.map .str))), some (.st (.int (0 + (i : Int)))), some (.st (.str (cand wd i)))]) (px_cmp op_gt (pv_var 2) pv_int sc_gt) (fun h => ?_) (fun h => bl_nil ?_) ?_)⟩
    · have h0 : 0 < 0 + (i : Int) := of_decide_eq_true h
      refine bl_let 3 (hz := .inl ho) (pv_b op_add_str (pv_cutS (pv_var 0) (Nat.le_trans hw.1.2.1 (by decide)) pp_none (pp_some pv_int)) (pv_strI (pv_var 2) ?_ b.str) (sc_addS ?_)) (bl_nil ?_)
      · have : (0 + (i : Int)).natAbs < 2 ^ 10 := by omega
        by_cases z : (0 + (i : Int)).natAbs = 0
        · rw [z]; decide
        · have := (Nat.log2_lt z).mpr this
          omega
      · have e : (cutS wd none (some 20)).length ≤ 20 := by
          rw [← cdl_len, show cdl (cutS wd none (some 20)) = _ from cdl_take wd 20, List.length_take]
          omega
        obtain ⟨d1, _, _⟩ := numS_ok ⟨i, by omega⟩
        have a1 : (numS (0 + (i : Int))).length ≤ 2 := by rw [← cdl_len, Int.zero_add]; exact d1
        exact Nat.le_trans (Nat.add_le_add e a1) (by decide)
      · have e : cand wd i = cutS wd none (some 20) ++ numS (0 + (i : Int)) := by
          unfold cand
          rw [if_neg (by omega), Int.zero_add]
        rw [e]
        rfl
    · have h0 : ¬ 0 < 0 + (i : Int) := of_decide_eq_false h
      have : i = 0 := by omega
      subst this
      rfl
    · rintro Γ rfl
      refine bl_ifR (px_ninS (pv_var 3) (.inl (pv_var 1))) (fun h => bl_retP (pv_var 3) ⟨wd, ns, _, rfl, rfl, cand_name hw.1 (by omega), fun z => ?_⟩) fun h => bl_nil ⟨rfl, fun j hj => ?_, _, _, rfl⟩
      · rw [decide_eq_true z] at h
        cases h
      · have hm : cand wd i ∈ ns := by
          by_cases z : cand wd i ∈ ns
          · exact z
          · rw [decide_eq_false z] at h
            cases h
        by_cases q : j = i
        · rw [q]; exact hm
        · exact hall j (by omega)
  · rintro ds Γ1 ⟨rfl, hall, kk, ff, rfl⟩
    rw [rng_len] at hall
    exact absurd hall (cand_out hw hn)
end
end Kf
end
section
set_option maxRecDepth 100000
set_option maxHeartbeats 4000000
/-! KfL3: names. -/
namespace Kf
open PySem L2

/-- a stem with a letter put in -/
theorem stem_name {z : Str} (h : KName z) (hl : z.length ≤ 6) {p : Nat} (hp : p ≤ z.length) {c : Nat} (hc : lowC c) {y : Str} (hy : cdl y = (cdl z).take p ++ c :: (cdl z).drop p) : KName y := by
  obtain ⟨h1, h2, ⟨c0, t, h3, h4⟩, h5⟩ := h
  have h3' : cdl z = c0 :: t := h3
  have hl' : (cdl z).length = z.length := cdl_len z
  have ly : y.length = z.length + 1 := by
    rw [← cdl_len, hy, List.length_append, List.length_cons, List.length_take, List.length_drop]
    omega
  refine ⟨by omega, by omega, ?_, fun x hx => ?_⟩
  · cases p with
    | zero => exact ⟨c, (cdl z).drop 0, by show cdl y = _; rw [hy]; rfl, hc⟩
    | succ p => exact ⟨c0, t.take p ++ c :: (cdl z).drop (p + 1), by show cdl y = _; rw [hy, h3']; rfl, h4⟩
  · have hx' : x ∈ cdl y := hx
    rw [hy] at hx'
    rcases List.mem_append.mp hx' with q | q
    · exact h5 x (List.mem_of_mem_take q)
    · rcases List.mem_cons.mp q with q | q
      · rw [q]; exact .inl hc
      · exact h5 x (List.mem_of_mem_drop q)
def letN (k s : Nat) : Nat := 97 + (3 * k + s) % 26
theorem letN_inj {j k s : Nat} (hj : j < 26) (hk : k < 26) (h : letN j s = letN k s) : j = k := by
  unfold letN at h
  omega
theorem low_at' (n : Nat) (h : n < 26) : atI sLow.cps.toList (n : Int) = some (97 + n) := by
  have : ∀ n : Fin 26, atI sLow.cps.toList (n.val : Int) = some (97 + n.val) := by decide +kernel
  exact this ⟨n, h⟩
section
variable {P : Program} {w : World} {K : Fg} {mg : Str → Option Value} {base : Heap}
def cNames : Fo where
  pre o ds := Pool o ∧ ∃ n : Nat, ds = [.int (n : Int)] ∧ n ≤ 26
  post o ds b o' := Pool o' ∧ ∃ ns : List Str, b = .ow (.lst (ns.map .str)) ∧ ns.Nodup ∧ (∀ z ∈ ns, KName z) ∧ ds = [.int (ns.length : Int)]
theorem scNames : FnScope ["pool", "count", "letters", "names", "stem", "place", "shift", "k", "size"] ["pool", "count"] (defScope s_names) := ⟨rfl, rfl, rfl, by decide +kernel, rfl, by decide +kernel, by decide +kernel⟩
theorem nat_of {r : Int} (h : 0 ≤ r) : ∃ n : Nat, r = (n : Int) := Int.eq_ofNat_of_zero_le h
theorem ok_names {f : Addr} {fd : FuncData} (F : FunS K "_law_names" s_names f fd) (b : Bi mg) (Nd : Dy P w K mg base "_law_draw" 1 cDraw) (Nw : Dy P w K mg base "_law_word" 2 cWord) (Nf : Dx P w K mg base "_law_fresh" 1 cFresh) :
    FnOk P w K mg base (L2.CX P w) 3 f fd ["pool", "count"] (spO K cNames) := by
  refine fo_ok F scNames (fun o ds ⟨_, n, h, _⟩ => by rw [h]; rfl) fun cdv A outer s e E o ds ⟨hp, n, hd, n26⟩ hr tk => ?_
  subst hd
  have nd := scNames.nd
  refine bl_let 2 pv_str (bl_letO 3 (pn_eo (pn_lst pvs_nil)) ?_)
  refine bl_ifRT (Φ := fun _ Γ => ∃ o', Pool o' ∧ Γ = [some (.ow o'), some (.st (.int (n : Int))), some (.st (.str sLow)), some (.ow (.lst [])), none, none, none, none, none]) (tv_c1 (g := fun _ _ => .int 1) op_eq (ev_draw 0 Nd hr (by omega) rfl hp pv_int (by decide)) (fun _ _ _ => pv_int) ?_) ?_ ?_
  · rintro d Γ1 ⟨r, o', rfl, _, _, hp', rfl⟩
    exact ⟨_, sc_eqI, o', hp', rfl⟩
  · rintro Γ' ⟨o1, hp1, rfl⟩
    -- stem
    refine bl_set 4 (Φ := fun d Γ => ∃ z o', d = .str z ∧ KName z ∧ z.length ≤ 6 ∧ Pool o' ∧ Γ = [some (.ow o'), some (.st (.int (n : Int))), some (.st (.str sLow)), some (.ow (.lst [])), none, none, none, none, none])
      (ev_callO (U := fun _ _ _ => False) 0 Nw hr (by omega) takes_none rfl (av_one (Ψ := fun ds Γ => ∃ (r : Nat) (o' : O), r ≤ 5 ∧ ds = [.int ((1 + r : Nat) : Int)] ∧ Pool o' ∧ Γ = [some (.ow o'), some (.st (.int (n : Int))), some (.st (.str sLow)), some (.ow (.lst [])), none, none, none, none, none])
        (ev_b1 (Φ := fun d Γ => ∃ (r : Nat) (o' : O), r ≤ 5 ∧ d = .int ((1 + r : Nat) : Int) ∧ Pool o' ∧ Γ = [some (.ow o'), some (.st (.int (n : Int))), some (.st (.str sLow)), some (.ow (.lst [])), none, none, none, none, none]) op_add pv_int (ev_draw 0 Nd hr (by omega) rfl hp1 pv_int (by decide)) ?_) ?_) ?_) ?_
    · rintro d2 Γ2 ⟨r, o', rfl, g1, g2, g3, rfl⟩
      obtain ⟨m, rfl⟩ := nat_of g1
      exact ⟨_, sc_add, m, o', by omega, by congr 1, g3, rfl⟩
    · rintro d Γ1 ⟨r, o', g1, rfl, g3, rfl⟩
      exact ⟨r, o', g1, rfl, g3, rfl⟩
    · rintro ds Γ1 ⟨r, o', g1, rfl, g3, rfl⟩
      refine ⟨o', rfl, ⟨g3, 1 + r, rfl, by omega, by omega⟩, ?_, fun _ _ _ z => z.elim⟩
      rintro bb o2 ⟨h1, z, rfl, h3, h4⟩
      injection h4 with h4 _
      injection h4 with h4
      exact ⟨_, .inl rfl, z, o2, rfl, h3, by omega, h1, rfl⟩
    · rintro d Γ' ⟨z, o2, rfl, hz, hzl, hp2, rfl⟩
      -- place
      refine bl_set 5 (ev_draw (m := (z.length : Int) + 1) 0 Nd hr (by omega) rfl hp2 (pv_b op_add (pv_lenS (pv_var 4) (Nat.le_trans hz.2.1 (by decide)) b.len) pv_int sc_add) (by omega)) ?_
      rintro d Γ' ⟨r, o3, rfl, g1, g2, hp3, rfl⟩
      obtain ⟨p, rfl⟩ := nat_of g1
      have hpl : p ≤ z.length := by omega
      -- shift
      refine bl_set 6 (ev_draw (m := 26) 0 Nd hr (by omega) rfl hp3 pv_int (by decide)) ?_
      rintro d Γ' ⟨r, o4, rfl, g1, g2, hp4, rfl⟩
      obtain ⟨sh, rfl⟩ := nat_of g1
      -- for
      refine bl_for (fun ds i Γ => ds = rng 0 n ∧ ∃ (ns : List Str) (kk : Option B), ns.length = i ∧ (∀ (j : Nat) (y : Str), ns[j]? = some y → cdl y = (cdl z).take p ++ letN j sh :: (cdl z).drop p) ∧ Γ = [some (.ow o4), some (.st (.int (n : Int))), some (.st (.str sLow)), some (.ow (.lst (ns.map .str))), some (.st (.str z)), some (.st (.int (p : Int))), some (.st (.int (sh : Int))), kk, none])
        (wv (wp_rng (pv_var 1) (by omega) b.range)) (gv_name 7 nd) ?_ ?_ ?_ (passes_of rfl)
      · rintro ds Γ1 ⟨rfl, rfl⟩
        exact ⟨rfl, [], _, rfl, (fun j y h => by cases h), rfl⟩
      · rintro ds i d Γ1 hdi ⟨rfl, ns, kk, hns, hall, rfl⟩
        obtain ⟨hi, rfl⟩ := rng_at hdi
        have hm : (3 * (0 + (i : Int)) + (sh : Int)).fmod 26 = (((3 * i + sh) % 26 : Nat) : Int) := by
          rw [Int.fmod_eq_emod_of_nonneg _ (by decide)]
          omega
        have c1 : (cutS z none (some (p : Int))).length ≤ 6 := by
          rw [← cdl_len, cdl_take, List.length_take, cdl_len]; omega
        have c2 : (cutS z (some (p : Int)) none).length ≤ 6 := by
          rw [← cdl_len, cdl_drop, List.length_drop, cdl_len]; omega
        have c3 : (cutS z none (some (p : Int)) ++ (⟨#[97 + (3 * i + sh) % 26]⟩ : Str)).length ≤ 7 := by
          rw [slen_app]
          have : (⟨#[97 + (3 * i + sh) % 26]⟩ : Str).length = 1 := rfl
          omega
        refine ⟨_, rfl, bl_append (Φ := Is (.str (cutS z none (some (p : Int)) ++ (⟨#[97 + (3 * i + sh) % 26]⟩ : Str) ++ cutS z (some (p : Int)) none)) _) 3 rfl (pv_ev (pv_b op_add_str (pv_b op_add_str (pv_cutS (pv_var 4) (Nat.le_trans hz.2.1 (by decide)) pp_none (pp_some (pv_var 5)))
          (pv_s ix_str (pv_var 2) (pv_is (pv_b op_modN (pv_intI (pv_b op_add (pv_b op_mul pv_int (pv_var 7) (sc_mulL (by decide))) (pv_var 6) sc_add) b.int) pv_int (sc_modN (by decide))) (congrArg D.int hm)) (sc_ixS (by decide) (low_at' _ (Nat.mod_lt _ (by decide))))) (sc_addS (Nat.le_trans (Nat.add_le_add c1 (Nat.le_refl 1)) (by decide))))
          (pv_cutS (pv_var 4) (Nat.le_trans hz.2.1 (by decide)) (pp_some (pv_var 5)) pp_none) (sc_addS (Nat.le_trans (Nat.add_le_add c3 c2) (by decide))))) ?_⟩
        rintro d Γ' ⟨rfl, rfl⟩
        refine ⟨_, rfl, by rw [List.length_map]; omega, bl_nil ⟨rfl, ns ++ [_], _, by rw [List.length_append, hns]; rfl, fun j y h => ?_, by rw [List.map_append]; rfl⟩⟩
        by_cases q : j < ns.length
        · rw [List.getElem?_append_left q] at h
          exact hall j y h
        · rw [List.getElem?_append_right (by omega)] at h
          have jz : j - ns.length = 0 := by
            by_cases t : j - ns.length = 0
            · exact t
            · rw [List.getElem?_eq_none (by simp; omega)] at h
              cases h
          rw [jz] at h
          cases h
          have : j = i := by omega
          subst this
          rw [cdl_app, cdl_app, cdl_take, cdl_drop]
          show _ ++ [97 + (3 * j + sh) % 26] ++ _ = _
          rw [List.append_assoc]
          rfl
      · rintro ds Γ1 ⟨rfl, ns, kk, hns, hall, rfl⟩
        rw [rng_len] at hns
        refine bl_retV 3 rfl ⟨o4, rfl, hp4, ns, rfl, ?_, fun y hy => ?_, by rw [hns]⟩
        · refine List.pairwise_iff_getElem.mpr fun i j hi hj hij q => ?_
          have h1 := hall i _ (List.getElem?_eq_getElem hi)
          have h2 := hall j _ (List.getElem?_eq_getElem hj)
          rw [q, h2] at h1
          have h3 := List.append_cancel_left h1
          injection h3 with h3 _
          have := letN_inj (by omega) (by omega) h3
          omega
        · obtain ⟨j, hj⟩ := List.getElem?_of_mem hy
          exact stem_name hz hzl hpl ⟨by unfold letN; omega, by unfold letN; omega⟩ (hall j y hj)
  · rintro Γ' ⟨o1, hp1, rfl⟩
    refine bl_for (fun ds i Γ => ds = rng 0 n ∧ ∃ (ns : List Str) (o' : O) (kk sz : Option B), Pool o' ∧ ns.length = i ∧ ns.Nodup ∧ (∀ z ∈ ns, KName z) ∧ Γ = [some (.ow o'), some (.st (.int (n : Int))), some (.st (.str sLow)), some (.ow (.lst (ns.map .str))), none, none, none, kk, sz])
      (wv (wp_rng (pv_var 1) (by omega) b.range)) (gv_name 7 nd) ?_ ?_ ?_ (passes_of rfl)
    · rintro ds Γ1 ⟨rfl, rfl⟩
      exact ⟨rfl, [], o1, _, _, hp1, rfl, .nil, (fun j y => by cases y), rfl⟩
    · rintro ds i d Γ1 hdi ⟨rfl, ns, o2, kk, sz, hp2, hns, hnd, hall, rfl⟩
      obtain ⟨hi, rfl⟩ := rng_at hdi
      refine ⟨_, rfl, bl_set 8 (Φ := fun d Γ => ∃ (r : Nat) (o' : O), r ≤ 4 ∧ d = .int ((1 + r : Nat) : Int) ∧ Pool o' ∧ Γ = [some (.ow o'), some (.st (.int (n : Int))), some (.st (.str sLow)), some (.ow (.lst (ns.map .str))), none, none, none, some (.st (.int (0 + (i : Int)))), sz])
        (ev_b1 op_add pv_int (ev_draw 0 Nd hr (by omega) rfl hp2 pv_int (by decide)) ?_) ?_⟩
      · rintro d2 Γ2 ⟨r, o', rfl, g1, g2, g3, rfl⟩
        obtain ⟨m, rfl⟩ := nat_of g1
        exact ⟨_, sc_add, m, o', by omega, by congr 1, g3, rfl⟩
      · rintro d Γ' ⟨r, o3, hr5, rfl, hp3, rfl⟩
        refine bl_if (Φ := fun _ Γ => ∃ o', Pool o' ∧ Γ = [some (.ow o'), some (.st (.int (n : Int))), some (.st (.str sLow)), some (.ow (.lst (ns.map .str))), none, none, none, some (.st (.int (0 + (i : Int)))), some (.st (.int ((1 + r : Nat) : Int)))])
          (fun Γ => ∃ (o' : O) (m : Nat), Pool o' ∧ 1 ≤ m ∧ (m ≤ 5 ∨ m = 24) ∧ Γ = [some (.ow o'), some (.st (.int (n : Int))), some (.st (.str sLow)), some (.ow (.lst (ns.map .str))), none, none, none, some (.st (.int (0 + (i : Int)))), some (.st (.int (m : Int)))])
          (tv_c1 (g := fun _ _ => .int 8) op_eq (ev_draw 0 Nd hr (by omega) rfl hp3 pv_int (by decide)) (fun _ _ _ => pv_int) ?_) ?_ ?_ ?_
        · rintro d Γ1 ⟨r', o', rfl, _, _, hp', rfl⟩
          exact ⟨_, sc_eqI, o', hp', rfl⟩
        · rintro Γ' ⟨o', hp', rfl⟩
          exact bl_let 8 pv_int (bl_nil ⟨o', 24, hp', by omega, .inr rfl, rfl⟩)
        · rintro Γ' ⟨o', hp', rfl⟩
          exact bl_nil ⟨o', 1 + r, hp', by omega, .inl (by omega), rfl⟩
        · rintro Γ' ⟨o4, m, hp4, m1, m2, rfl⟩
          refine bl_append (Φ := fun d Γ => ∃ z o', d = .str z ∧ KName z ∧ z ∉ ns ∧ Pool o' ∧ Γ = [some (.ow o'), some (.st (.int (n : Int))), some (.st (.str sLow)), some (.ow (.lst (ns.map .str))), none, none, none, some (.st (.int (0 + (i : Int)))), some (.st (.int (m : Int)))]) 3 rfl
            (ev_callB 3 Nf hr (by omega) (ev_callO (U := fun _ _ _ => False) (Φ := fun d Γ => ∃ z o', d = .str z ∧ KName z ∧ z.length = m ∧ Pool o' ∧ Γ = [some (.ow o'), some (.st (.int (n : Int))), some (.st (.str sLow)), some (.ow (.lst (ns.map .str))), none, none, none, some (.st (.int (0 + (i : Int)))), some (.st (.int (m : Int)))]) 0 Nw hr (by omega) takes_none rfl (pvs_av (pvs_one (pv_var 8))) ?_) ?_) ?_
          · rintro ds Γ1 ⟨rfl, rfl⟩
            refine ⟨o4, rfl, ⟨hp4, m, rfl, by omega, by omega⟩, ?_, fun _ _ _ z => z.elim⟩
            rintro bb o2 ⟨h1, z, rfl, h3, h4⟩
            injection h4 with h4 _
            injection h4 with h4
            exact ⟨_, .inl rfl, z, o2, rfl, h3, by omega, h1, rfl⟩
          · rintro d Γ1 ⟨z, o', rfl, hz, hzm, hp', rfl⟩
            refine ⟨_, rfl, ⟨z, ns, rfl, ⟨hz, by omega⟩, by omega⟩, ?_, fun _ _ z => z.elim⟩
            rintro bb ⟨z', ns', y, h1, rfl, h3, h4⟩
            injection h1 with _ h1
            injection h1 with h1 _
            injection h1 with h1
            have := strs_inj h1
            subst this
            exact ⟨_, rfl, rfl, y, o', rfl, h3, h4, hp', rfl⟩
          · rintro d Γ' ⟨y, o', rfl, hy, hyn, hp', rfl⟩
            refine ⟨_, rfl, by rw [List.length_map]; omega, bl_nil ⟨rfl, ns ++ [y], o', _, _, hp', by rw [List.length_append, hns]; rfl, ?_, fun x hx => ?_, by rw [List.map_append]; rfl⟩⟩
            · exact List.nodup_append.mpr ⟨hnd, by simp, fun a ha c hc q => hyn (by rw [← List.mem_singleton.mp hc, ← q]; exact ha)⟩
            · rcases List.mem_append.mp hx with q | q
              · exact hall x q
              · rw [List.mem_singleton.mp q]; exact hy
    · rintro ds Γ1 ⟨rfl, ns, o2, kk, sz, hp2, hns, hnd, hall, rfl⟩
      rw [rng_len] at hns
      exact bl_retV 3 rfl ⟨o2, rfl, hp2, ns, rfl, hnd, hall, by rw [hns]⟩
end
end Kf
end
section
set_option maxRecDepth 100000
set_option maxHeartbeats 4000000
/-! KfL4: the generators of pairs. -/
namespace Kf
open PySem L2

abbrev sI (n : Int) : Option B := some (.st (.int n))
abbrev sD (d : D) : Option B := some (.st d)
abbrev sO (o : O) : Option B := some (.ow o)
abbrev sL (l : List D) : Option B := some (.ow (.lst l))
def natsD (l : List Nat) : List D := l.map fun (n : Nat) => D.int (n : Int)
def pairD (p : Nat × Nat) : D := .tup [.int (p.1 : Int), .int (p.2 : Int)]
def pairsD (ps : List (Nat × Nat)) : List D := ps.map pairD
theorem natsD_app (a b : List Nat) : natsD (a ++ b) = natsD a ++ natsD b := List.map_append
theorem pairsD_app (a b : List (Nat × Nat)) : pairsD (a ++ b) = pairsD a ++ pairsD b := List.map_append
theorem natsD_len (a : List Nat) : (natsD a).length = a.length := List.length_map _
theorem pairsD_len (a : List (Nat × Nat)) : (pairsD a).length = a.length := List.length_map _
/-- in range, with a rank -/
theorem rng_at0 {n i : Nat} {d : D} (h : (rng 0 n)[i]? = some d) : i < n ∧ d = .int (i : Int) := by
  obtain ⟨h1, h2⟩ := rng_at h
  exact ⟨h1, by rw [h2, Int.zero_add]⟩
theorem rng_atN {lo n i : Nat} {d : D} (h : (rng (lo : Int) n)[i]? = some d) : i < n ∧ d = .int ((lo + i : Nat) : Int) := by
  obtain ⟨h1, h2⟩ := rng_at h
  exact ⟨h1, by rw [h2]; rfl⟩
def PsOk (n : Nat) (ps : List (Nat × Nat)) : Prop := (∀ p ∈ ps, p.1 < n ∧ p.2 < n) ∧ ∃ rk : Nat → Int, ∀ p ∈ ps, rk p.1 < rk p.2
def PsUp (n : Nat) (ps : List (Nat × Nat)) : Prop := ∀ p ∈ ps, p.1 < p.2 ∧ p.2 < n
theorem psOk_up {n : Nat} {ps : List (Nat × Nat)} (h : PsUp n ps) : PsOk n ps := ⟨fun p hp => ⟨by have := h p hp; omega, (h p hp).2⟩, fun x => (x : Int), fun p hp => by have := (h p hp).1; show (p.1 : Int) < (p.2 : Int); omega⟩
theorem psUp_nil {n : Nat} : PsUp n [] := fun p hp => by cases hp
theorem psUp_app {n : Nat} {ps : List (Nat × Nat)} (h : PsUp n ps) {a b : Nat} (h1 : a < b) (h2 : b < n) : PsUp n (ps ++ [(a, b)]) := fun p hp => by
  rcases List.mem_append.mp hp with q | q
  · exact h p q
  · rw [List.mem_singleton.mp q]; exact ⟨h1, h2⟩
section
variable {P : Program} {w : World} {K : Fg} {mg : Str → Option Value} {base : Heap}
/-! ### mixed places -/
def cPlaces : Fo where
  pre o ds := Pool o ∧ ∃ n : Nat, ds = [.int (n : Int)] ∧ n ≤ 100
  post o ds b o' := Pool o' ∧ ∃ l : List Nat, b = .ow (.lst (natsD l)) ∧ l.Nodup ∧ (∀ x ∈ l, x < l.length) ∧ ds = [.int (l.length : Int)]
abbrev s_places : Stmt := top 40
theorem scPlaces : FnScope ["pool", "count", "places", "k"] ["pool", "count"] (defScope s_places) := ⟨rfl, rfl, rfl, by decide +kernel, rfl, by decide +kernel, by decide +kernel⟩
theorem ok_places {f : Addr} {fd : FuncData} (F : FunS K "_law_mixed_places" s_places f fd) (b : Bi mg) (Nd : Dy P w K mg base "_law_draw" 1 cDraw) : FnOk P w K mg base (L2.CX P w) 2 f fd ["pool", "count"] (spO K cPlaces) := by
  refine fo_ok F scPlaces (fun o ds ⟨_, n, h, _⟩ => by rw [h]; rfl) fun cdv A outer s e E o ds ⟨hp, n, hd, n26⟩ hr tk => ?_
  subst hd
  have nd := scPlaces.nd
  refine bl_letO 2 (pn_eo (pn_lst pvs_nil)) ?_
  refine bl_for (fun ds i Γ => ds = rng 0 n ∧ ∃ (l : List Nat) (o' : O) (kk : Option B), Pool o' ∧ l.length = i ∧ l.Nodup ∧ (∀ x ∈ l, x < i) ∧ Γ = [sO o', sI n, sL (natsD l), kk]) (wv (wp_rng (pv_var 1) (by omega) b.range)) (gv_name 3 nd) ?_ ?_ ?_ (passes_of rfl)
  · rintro ds Γ1 ⟨rfl, rfl⟩
    exact ⟨rfl, [], o, _, hp, rfl, .nil, (fun j y => by cases y), rfl⟩
  · rintro ds i d Γ1 hdi ⟨rfl, l, o2, kk, hp2, hl, hnd, hall, rfl⟩
    obtain ⟨hi, rfl⟩ := rng_at0 hdi
    refine ⟨_, rfl, bl_insert (Φ := fun ds Γ => ∃ (r : Nat) (o' : O), r ≤ i ∧ ds = [.int (r : Int), .int ((i : Int))] ∧ Pool o' ∧ Γ = [sO o', sI n, sL (natsD l), sI ((i : Int))]) 2 rfl (av_cons (Φb := fun d Γ => Is [.int ((i : Int))] Γ) (ev_draw (m := (i : Int) + 1) 0 Nd hr (by omega) rfl hp2 (pv_b op_add (pv_var 3) pv_int sc_add) (by omega)) ?_ ?_) ?_⟩
    · rintro d Γ1 ⟨r, o', rfl, g1, g2, g3, rfl⟩
      exact pvs_av (pvs_one (pv_var 3))
    · rintro d Γ1 ds Γ2 ⟨r, o', rfl, g1, g2, g3, rfl⟩ ⟨rfl, rfl⟩
      obtain ⟨m, rfl⟩ := nat_of g1
      exact ⟨m, o', by omega, rfl, g3, rfl⟩
    · rintro ds Γ' ⟨r, o', hri, rfl, hp', rfl⟩
      refine ⟨_, _, _, rfl, rfl, by rw [natsD_len]; omega, by omega, by omega, bl_nil ⟨rfl, l.take r ++ [i] ++ l.drop r, o', sI ((i : Int)), hp', by simp; omega, ?_, fun x hx => ?_, ?_⟩⟩
      · have hp : (l.take r ++ [i] ++ l.drop r).Perm (i :: l) := by
          rw [List.append_assoc]
          have := List.perm_middle (l₁ := l.take r) (a := i) (l₂ := l.drop r)
          rw [List.take_append_drop] at this
          exact this
        rw [hp.nodup_iff, List.nodup_cons]
        exact ⟨fun z => by have := hall i z; omega, hnd⟩
      · rcases List.mem_append.mp hx with q | q
        · rcases List.mem_append.mp q with q | q
          · have := hall x (List.mem_of_mem_take q); omega
          · rw [List.mem_singleton.mp q]; omega
        · have := hall x (List.mem_of_mem_drop q); omega
      · rw [natsD_app, natsD_app]
        show [sO o', sI n, sL ((natsD l).take r ++ [D.int ((i : Int))] ++ (natsD l).drop r), sI ((i : Int))] = _
        unfold natsD
        rw [List.map_take, List.map_drop]
        rfl
  · rintro ds Γ1 ⟨rfl, l, o2, kk, hp2, hl, hnd, hall, rfl⟩
    rw [rng_len] at hl hall
    exact bl_retV 2 rfl ⟨o2, rfl, hp2, l, rfl, hnd, by rw [hl]; exact hall, by rw [hl]⟩
/-! ### free pairs -/
def cFree : Fo where
  pre o ds := Pool o ∧ ∃ n : Nat, ds = [.int (n : Int)] ∧ 1 ≤ n ∧ n ≤ 100
  post o ds b o' := Pool o' ∧ ∃ (n : Nat) (ps : List (Nat × Nat)), ds = [.int (n : Int)] ∧ b = .ow (.lst (pairsD ps)) ∧ PsUp n ps ∧ ps.length ≤ n * n
abbrev s_free : Stmt := top 41
theorem scFree : FnScope ["pool", "count", "pairs", "dense", "high", "low"] ["pool", "count"] (defScope s_free) := ⟨rfl, rfl, rfl, by decide +kernel, rfl, by decide +kernel, by decide +kernel⟩
theorem ok_free {f : Addr} {fd : FuncData} (F : FunS K "_law_free_pairs" s_free f fd) (b : Bi mg) (Nd : Dy P w K mg base "_law_draw" 1 cDraw) : FnOk P w K mg base (L2.CX P w) 2 f fd ["pool", "count"] (spO K cFree) := by
  refine fo_ok F scFree (fun o ds ⟨_, n, h, _⟩ => by rw [h]; rfl) fun cdv A outer s e E o ds ⟨hp, n, hd, n1, n2⟩ hr tk => ?_
  subst hd
  have nd := scFree.nd
  refine bl_letO 2 (pn_eo (pn_lst pvs_nil)) (bl_set 3 (Φ := fun d Γ => ∃ (r : Int) (o' : O), d = .int r ∧ Pool o' ∧ Γ = [sO o', sI n, sL [], none, none, none]) (ev_b1 op_add pv_int (ev_draw 0 Nd hr (by omega) rfl hp pv_int (by decide)) ?_) ?_)
  · rintro d2 Γ2 ⟨r, o', rfl, g1, g2, g3, rfl⟩
    exact ⟨_, sc_add, _, o', rfl, g3, rfl⟩
  rintro d Γ' ⟨dn, o1, rfl, hp1, rfl⟩
  refine bl_for (fun ds i Γ => ds = rng 1 (n - 1) ∧ ∃ (ps : List (Nat × Nat)) (o' : O) (kk k2 : Option B), Pool o' ∧ PsUp n ps ∧ ps.length ≤ i * n ∧ Γ = [sO o', sI n, sL (pairsD ps), sI dn, kk, k2]) (wv (wp_rng2 pv_int (pv_var 1) (by omega) b.range)) (gv_name 4 nd) ?_ ?_ ?_ (passes_of rfl)
  · rintro ds Γ1 ⟨rfl, rfl⟩
    exact ⟨by congr 1; omega, [], o1, _, _, hp1, psUp_nil, by simp, rfl⟩
  · rintro ds i d Γ1 hdi ⟨rfl, ps, o2, kk, k2, hp2, hu, hl, rfl⟩
    obtain ⟨hi, rfl⟩ := rng_atN (lo := 1) hdi
    refine ⟨_, rfl, bl_for (fun ds j Γ => ds = rng 0 (1 + i) ∧ ∃ (ps : List (Nat × Nat)) (o' : O) (k2 : Option B), Pool o' ∧ PsUp n ps ∧ ps.length ≤ i * n + j ∧ Γ = [sO o', sI n, sL (pairsD ps), sI dn, sI ((1 + i : Nat) : Int), k2]) (wv (wp_rng (n := 1 + i) (pv_var 4) (by omega) b.range)) (gv_name 5 nd) ?_ ?_ ?_ (passes_of rfl)⟩
    · rintro ds Γ1 ⟨rfl, rfl⟩
      exact ⟨rfl, ps, o2, _, hp2, hu, by omega, rfl⟩
    · rintro ds j d Γ1 hdj ⟨rfl, ps, o3, k2, hp3, hu3, hl3, rfl⟩
      obtain ⟨hj, rfl⟩ := rng_at0 hdj
      refine ⟨_, rfl, bl_if (Φ := fun _ Γ => ∃ o', Pool o' ∧ Γ = [sO o', sI n, sL (pairsD ps), sI dn, sI ((1 + i : Nat) : Int), sI ((j : Int))]) (fun Γ => ∃ (ps : List (Nat × Nat)) (o' : O) (k2 : Option B), Pool o' ∧ PsUp n ps ∧ ps.length ≤ i * n + (j + 1) ∧ Γ = [sO o', sI n, sL (pairsD ps), sI dn, sI ((1 + i : Nat) : Int), k2]) (tv_c1 (g := fun _ _ => .int dn) op_lt (ev_draw 0 Nd hr (by omega) rfl hp3 pv_int (by decide)) ?_ ?_) ?_ ?_ ?_⟩
      · rintro d Γ1 ⟨r, o', rfl, _, _, hp', rfl⟩
        exact pv_var 3
      · rintro d Γ1 ⟨r, o', rfl, _, _, hp', rfl⟩
        exact ⟨_, sc_lt, o', hp', rfl⟩
      · rintro Γ' ⟨o', hp', rfl⟩
        have hin : i * n + (j + 1) ≤ n * n := by
          have : (i + 1) * n ≤ n * n := Nat.mul_le_mul_right n (by omega)
          have e : (i + 1) * n = i * n + n := by rw [Nat.add_mul, Nat.one_mul]
          omega
        have hnn : n * n ≤ 10000 := Nat.mul_le_mul n2 n2
        refine bl_append (Φ := Is (.tup [.int ((j : Int)), .int ((1 + i : Nat) : Int)]) _) 2 rfl (pv_ev (pv_tup (pvs_cons (pv_var 5) (pvs_cons (pv_var 4) pvs_nil)))) ?_
        rintro d Γ' ⟨rfl, rfl⟩
        refine ⟨_, rfl, by rw [pairsD_len]; omega, bl_nil ⟨ps ++ [(j, 1 + i)], o', sI (j : Int), hp', psUp_app hu3 (by omega) (by omega), by rw [List.length_append, List.length_singleton]; omega, ?_⟩⟩
        rw [pairsD_app]
        rfl
      · rintro Γ' ⟨o', hp', rfl⟩
        exact bl_nil ⟨ps, o', _, hp', hu3, by omega, rfl⟩
      · rintro Γ' ⟨ps, o', k2, z⟩
        exact bl_nil ⟨rfl, ps, o', k2, z⟩
    · rintro ds Γ1 ⟨rfl, ps, o3, k2, hp3, hu3, hl3, rfl⟩
      rw [rng_len] at hl3
      refine bl_nil ⟨rfl, ps, o3, _, _, hp3, hu3, ?_, rfl⟩
      rw [Nat.add_mul, Nat.one_mul]
      omega
  · rintro ds Γ1 ⟨rfl, ps, o2, kk, k2, hp2, hu, hl, rfl⟩
    rw [rng_len] at hl
    exact bl_retV 2 rfl ⟨o2, rfl, hp2, n, ps, rfl, rfl, hu, Nat.le_trans hl (Nat.mul_le_mul_right n (by omega))⟩
end
end Kf
end
section
set_option maxRecDepth 100000
set_option maxHeartbeats 4000000
/-! KfL5: crown, tree, layers, diamond. -/
namespace Kf
open PySem L2

section
variable {X : Cx} {e : Ent} {Γ : Gam} {x : Expr} {pos : Pos} {k : Kn} {rest : List Stmt}
theorem bl_appP {n : Str} {p q r : Pos} {d : D} (i : Nat) {l : List D} (h0 : Γ[i]? = some (some (.ow (.lst l)))) (hl : l.length < 100000) (he : PV X e x Γ d) (hr : BL X e rest (Γ.set i (some (.ow (.lst (l ++ [d]))))) k)
    (hN : X.N[i]? = some n := by rfl) (hv : Vis X.env.scope n := by first | exact Or.inl rfl | exact Or.inr (Or.inl rfl) | exact Or.inr (Or.inr rfl)) (h1 : (n == ("__debug__" : Str)) = false := by decide) (h2 : (n == ("__classdict__" : Str)) = false := by decide)
    (hb : attributeBase (.Name n p) "append" X.env (eval (.Name n p) X.env) = eval (.Name n p) X.env := by rfl) (hl2 : (q.endLine == r.line) = true := by rfl) (hs : swapsWith (.Call (.Attribute (.Name n p) "append" q) [x] [] r) none pos.line X.env = pure false := by rfl)
    (hst : starEach [x] X.env = (false, eval x X.env) :: starEach [] X.env := by rfl) (hbm : ∀ {t}, PA X [x] t → PE X (.Call (.Attribute (.Name n p) "append" q) [x] [] r) (tBM X.K "list" rAppend (tVar i) t) := by exact fun h => pe_bm PySem.F.plainAttrs_list PySem.F.slot_list_append PySem.F.type_list_append mt_append (pv _) h) :
    BL X e (.Expr (.Call (.Attribute (.Name n p) "append" q) [x] [] r) pos :: rest) Γ k :=
  bl_append i h0 (pv_ev he) (fun d' Γ' ⟨q1, q2⟩ => by subst q1 q2; exact ⟨l, h0, hl, hr⟩) hN hv h1 h2 hb hl2 hs hst hbm
end
section
variable {P : Program} {w : World} {K : Fg} {mg : Str → Option Value} {base : Heap}
/-! ### crown -/
def cCrown : Fp where
  pre ds := ∃ n : Nat, ds = [.int (n : Int)] ∧ 1 ≤ n ∧ n ≤ 100
  post ds b := ∃ (n : Nat) (ps : List (Nat × Nat)), ds = [.int (n : Int)] ∧ b = .ow (.lst (pairsD ps)) ∧ PsUp (2 * n) ps ∧ ps.length = 2 * n
abbrev s_crown : Stmt := top 42
theorem scCrown : FnScope ["half", "pairs", "k"] ["half"] (defScope s_crown) := ⟨rfl, rfl, rfl, by decide +kernel, rfl, by decide +kernel, by decide +kernel⟩
theorem ok_crown {f : Addr} {fd : FuncData} (F : FunS K "_law_crown" s_crown f fd) (b : Bi mg) : FnOk P w K mg base (L2.CX P w) 1 f fd ["half"] (spP K cCrown) := by
  refine fp_ok F scCrown (fun ds ⟨n, h, _⟩ => by rw [h]; rfl) fun cdv A outer s e E ds ho ⟨n, hd, n1, n2⟩ hr tk => ?_
  subst hd
  have nd := scCrown.nd
  refine bl_letO 1 (pn_eo (pn_lst pvs_nil)) ?_
  refine bl_for (fun ds i Γ => ds = rng 0 n ∧ ∃ (ps : List (Nat × Nat)) (kk : Option B), PsUp (2 * n) ps ∧ ps.length = 2 * i ∧ Γ = [sI n, sL (pairsD ps), kk]) (wv (wp_rng (pv_var 0) (by omega) b.range)) (gv_name 2 nd) ?_ ?_ ?_ (passes_of rfl)
  · rintro ds Γ1 ⟨rfl, rfl⟩
    exact ⟨rfl, [], none, psUp_nil, rfl, rfl⟩
  · rintro ds i d Γ1 hdi ⟨rfl, ps, kk, hu, hl, rfl⟩
    obtain ⟨hi, rfl⟩ := rng_at0 hdi
    have hm : ((i : Int) + 1).fmod (n : Int) = (((i + 1) % n : Nat) : Int) := by
      rw [Int.fmod_eq_emod_of_nonneg _ (by omega)]
      rfl
    have hmn : (i + 1) % n < n := Nat.mod_lt _ (by omega)
    refine ⟨_, rfl, bl_appP 1 rfl (by rw [pairsD_len]; omega) (pv_tup (pvs_cons (pv_var 2) (pvs_cons (pv_b op_add (pv_var 0) (pv_var 2) sc_add) pvs_nil))) ?_⟩
    refine bl_appP 1 rfl (by rw [List.length_append, pairsD_len]; simp; omega) (pv_tup (pvs_cons (pv_is (pv_b op_modN (pv_intI (pv_b op_add (pv_var 2) pv_int sc_add) b.int) (pv_var 0) (sc_modN (by omega))) (congrArg D.int hm)) (pvs_cons (pv_b op_add (pv_var 0) (pv_var 2) sc_add) pvs_nil))) ?_
    refine bl_nil ⟨rfl, ps ++ [(i, n + i)] ++ [((i + 1) % n, n + i)], sI (i : Int), psUp_app (psUp_app hu (by omega) (by omega)) (by omega) (by omega), by rw [List.length_append, List.length_append, List.length_singleton, List.length_singleton]; omega, ?_⟩
    rw [pairsD_app, pairsD_app]
    rfl
  · rintro ds Γ1 ⟨rfl, ps, kk, hu, hl, rfl⟩
    rw [rng_len] at hl
    exact bl_retV 1 rfl (hz := .inl ho) ⟨n, ps, rfl, rfl, hu, hl⟩
/-! ### tree -/
def cTree : Fo where
  pre o ds := Pool o ∧ ∃ n : Nat, ds = [.int (n : Int)] ∧ 1 ≤ n ∧ n ≤ 100
  post o ds b o' := Pool o' ∧ ∃ (n : Nat) (ps : List (Nat × Nat)), ds = [.int (n : Int)] ∧ b = .ow (.lst (pairsD ps)) ∧ PsOk n ps ∧ ps.length ≤ n
abbrev s_tree : Stmt := top 43
theorem scTree : FnScope ["pool", "count", "pairs", "k", "other"] ["pool", "count"] (defScope s_tree) := ⟨rfl, rfl, rfl, by decide +kernel, rfl, by decide +kernel, by decide +kernel⟩
theorem psOk_new {n : Nat} {ps : List (Nat × Nat)} (h : PsOk n ps) {r : Nat} (hr : r < n) : PsOk (n + 1) (ps ++ [(r, n)]) ∧ PsOk (n + 1) (ps ++ [(n, r)]) := by
  obtain ⟨h1, rk, h2⟩ := h
  constructor
  · refine ⟨fun p hp => ?_, fun x => if x = n then rk r + 1 else rk x, fun p hp => ?_⟩
    · rcases List.mem_append.mp hp with q | q
      · have := h1 p q; omega
      · rw [List.mem_singleton.mp q]; exact ⟨by show r < n + 1; omega, by show n < n + 1; omega⟩
    · rcases List.mem_append.mp hp with q | q
      · have := h1 p q
        have := h2 p q
        show (if p.1 = n then rk r + 1 else rk p.1) < (if p.2 = n then rk r + 1 else rk p.2)
        rw [if_neg (by omega), if_neg (by omega)]
        assumption
      · rw [List.mem_singleton.mp q]
        show (if r = n then rk r + 1 else rk r) < (if n = n then rk r + 1 else rk n)
        rw [if_neg (by omega), if_pos rfl]
        omega
  · refine ⟨fun p hp => ?_, fun x => if x = n then rk r - 1 else rk x, fun p hp => ?_⟩
    · rcases List.mem_append.mp hp with q | q
      · have := h1 p q; omega
      · rw [List.mem_singleton.mp q]; exact ⟨by show n < n + 1; omega, by show r < n + 1; omega⟩
    · rcases List.mem_append.mp hp with q | q
      · have := h1 p q
        have := h2 p q
        show (if p.1 = n then rk r - 1 else rk p.1) < (if p.2 = n then rk r - 1 else rk p.2)
        rw [if_neg (by omega), if_neg (by omega)]
        assumption
      · rw [List.mem_singleton.mp q]
        show (if n = n then rk r - 1 else rk n) < (if r = n then rk r - 1 else rk r)
        rw [if_neg (by omega : ¬ r = n), if_pos rfl]
        omega
theorem ok_tree {f : Addr} {fd : FuncData} (F : FunS K "_law_tree" s_tree f fd) (b : Bi mg) (Nd : Dy P w K mg base "_law_draw" 1 cDraw) : FnOk P w K mg base (L2.CX P w) 2 f fd ["pool", "count"] (spO K cTree) := by
  refine fo_ok F scTree (fun o ds ⟨_, n, h, _⟩ => by rw [h]; rfl) fun cdv A outer s e E o ds ⟨hp, n, hd, n1, n2⟩ hr tk => ?_
  subst hd
  have nd := scTree.nd
  refine bl_letO 2 (pn_eo (pn_lst pvs_nil)) ?_
  refine bl_for (fun ds i Γ => ds = rng (1 : Nat) (n - 1) ∧ ∃ (ps : List (Nat × Nat)) (o' : O) (kk k2 : Option B), Pool o' ∧ PsOk (1 + i) ps ∧ ps.length = i ∧ Γ = [sO o', sI n, sL (pairsD ps), kk, k2]) (wv (wp_rng2 pv_int (pv_var 1) (by omega) b.range)) (gv_name 3 nd) ?_ ?_ ?_ (passes_of rfl)
  · rintro ds Γ1 ⟨rfl, rfl⟩
    exact ⟨by congr 1; omega, [], o, none, none, hp, psOk_up psUp_nil, rfl, rfl⟩
  · rintro ds i d Γ1 hdi ⟨rfl, ps, o2, kk, k2, hp2, hu, hl, rfl⟩
    obtain ⟨hi, rfl⟩ := rng_atN hdi
    refine ⟨_, rfl, bl_set 4 (ev_draw (m := ((1 + i : Nat) : Int)) 0 Nd hr (by omega) rfl hp2 (pv_var 3) (by omega)) ?_⟩
    rintro d Γ' ⟨r, o3, rfl, g1, g2, hp3, rfl⟩
    obtain ⟨r, rfl⟩ := nat_of g1
    have hri : r < 1 + i := by omega
    obtain ⟨ha, hb⟩ := psOk_new hu hri
    refine bl_if (Φ := fun _ Γ => ∃ o', Pool o' ∧ Γ = [sO o', sI n, sL (pairsD ps), sI ((1 + i : Nat) : Int), sI (r : Int)]) (fun Γ => ∃ (ps : List (Nat × Nat)) (o' : O) (kk k2 : Option B), Pool o' ∧ PsOk (1 + (i + 1)) ps ∧ ps.length = i + 1 ∧ Γ = [sO o', sI n, sL (pairsD ps), kk, k2]) (tv_c1 (g := fun _ _ => .int 1) op_eq (ev_draw 0 Nd hr (by omega) rfl hp3 pv_int (by decide)) (fun _ _ _ => pv_int) ?_) ?_ ?_ ?_
    · rintro d Γ1 ⟨r, o', rfl, _, _, hp', rfl⟩
      exact ⟨_, sc_eqI, o', hp', rfl⟩
    · rintro Γ' ⟨o', hp', rfl⟩
      refine bl_appP 2 rfl (by rw [pairsD_len]; omega) (pv_tup (pvs_cons (pv_var 4) (pvs_cons (pv_var 3) pvs_nil))) (bl_nil ⟨ps ++ [(r, 1 + i)], o', sI ((1 + i : Nat) : Int), sI (r : Int), hp', ha, by rw [List.length_append, hl]; rfl, ?_⟩)
      rw [pairsD_app]
      rfl
    · rintro Γ' ⟨o', hp', rfl⟩
      refine bl_appP 2 rfl (by rw [pairsD_len]; omega) (pv_tup (pvs_cons (pv_var 3) (pvs_cons (pv_var 4) pvs_nil))) (bl_nil ⟨ps ++ [(1 + i, r)], o', sI ((1 + i : Nat) : Int), sI (r : Int), hp', hb, by rw [List.length_append, hl]; rfl, ?_⟩)
      rw [pairsD_app]
      rfl
    · rintro Γ' h
      exact bl_nil ⟨rfl, h⟩
  · rintro ds Γ1 ⟨rfl, ps, o2, kk, k2, hp2, hu, hl, rfl⟩
    rw [rng_len] at hl hu
    exact bl_retV 2 rfl ⟨o2, rfl, hp2, n, ps, rfl, rfl, by rw [show 1 + (n - 1) = n by omega] at hu; exact hu, by omega⟩
/-! ### layers -/
def cLayers : Fp where
  pre ds := ∃ n m : Nat, ds = [.int (n : Int), .int (m : Int)] ∧ n ≤ 100 ∧ m ≤ 100
  post ds b := ∃ (n m : Nat) (ps : List (Nat × Nat)), ds = [.int (n : Int), .int (m : Int)] ∧ b = .ow (.lst (pairsD ps)) ∧ PsUp (n + m) ps ∧ ps.length = n * m
abbrev s_layers : Stmt := top 44
theorem scLayers : FnScope ["one", "two", "pairs", "low", "high"] ["one", "two"] (defScope s_layers) := ⟨rfl, rfl, rfl, by decide +kernel, rfl, by decide +kernel, by decide +kernel⟩
theorem ok_layers {f : Addr} {fd : FuncData} (F : FunS K "_law_layers" s_layers f fd) (b : Bi mg) : FnOk P w K mg base (L2.CX P w) 1 f fd ["one", "two"] (spP K cLayers) := by
  refine fp_ok F scLayers (fun ds ⟨n, m, h, _⟩ => by rw [h]; rfl) fun cdv A outer s e E ds ho ⟨n, m, hd, n1, n2⟩ hr tk => ?_
  subst hd
  have nd := scLayers.nd
  refine bl_letO (hz := .inl ho) 2 (pn_eo (pn_lst pvs_nil)) ?_
  refine bl_for (fun ds i Γ => ds = rng 0 n ∧ ∃ (ps : List (Nat × Nat)) (kk k2 : Option B), PsUp (n + m) ps ∧ ps.length = i * m ∧ Γ = [sI n, sI m, sL (pairsD ps), kk, k2]) (wv (wp_rng (pv_var 0) (by omega) b.range)) (gv_name 3 nd) ?_ ?_ ?_ (passes_of rfl)
  · rintro ds Γ1 ⟨rfl, rfl⟩
    exact ⟨rfl, [], none, none, psUp_nil, by simp, rfl⟩
  · rintro ds i d Γ1 hdi ⟨rfl, ps, kk, k2, hu, hl, rfl⟩
    obtain ⟨hi, rfl⟩ := rng_at0 hdi
    refine ⟨_, rfl, bl_for (fun ds j Γ => ds = rng 0 m ∧ ∃ (ps : List (Nat × Nat)) (k2 : Option B), PsUp (n + m) ps ∧ ps.length = i * m + j ∧ Γ = [sI n, sI m, sL (pairsD ps), sI (i : Int), k2]) (wv (wp_rng (pv_var 1) (by omega) b.range)) (gv_name 4 nd) ?_ ?_ ?_ (passes_of rfl)⟩
    · rintro ds Γ1 ⟨rfl, rfl⟩
      exact ⟨rfl, ps, k2, hu, hl, rfl⟩
    · rintro ds j d Γ1 hdj ⟨rfl, ps, k2, hu, hl, rfl⟩
      obtain ⟨hj, rfl⟩ := rng_at0 hdj
      have : i * m ≤ 10000 := Nat.mul_le_mul (show i ≤ 100 by omega) n2
      refine ⟨_, rfl, bl_appP 2 rfl (by rw [pairsD_len]; omega) (pv_tup (pvs_cons (pv_var 3) (pvs_cons (pv_b op_add (pv_var 0) (pv_var 4) sc_add) pvs_nil))) ?_⟩
      refine bl_nil ⟨rfl, ps ++ [(i, n + j)], sI (j : Int), psUp_app hu (by omega) (by omega), by rw [List.length_append, List.length_singleton]; omega, ?_⟩
      rw [pairsD_app]
      rfl
    · rintro ds Γ1 ⟨rfl, ps, k2, hu, hl, rfl⟩
      rw [rng_len] at hl
      exact bl_nil ⟨rfl, ps, _, k2, hu, by rw [hl, Nat.add_mul, Nat.one_mul], rfl⟩
  · rintro ds Γ1 ⟨rfl, ps, kk, k2, hu, hl, rfl⟩
    rw [rng_len] at hl
    exact bl_retV 2 rfl (hz := .inl ho) ⟨n, m, ps, rfl, rfl, hu, hl⟩
/-! ### diamond -/
def cDia : Fp where
  pre ds := ∃ n : Nat, ds = [.int (n : Int)] ∧ 1 ≤ n ∧ n ≤ 100
  post ds b := ∃ (n : Nat) (ps : List (Nat × Nat)), ds = [.int (n : Int)] ∧ b = .ow (.lst (pairsD ps)) ∧ (∀ p ∈ ps, p.1 ≤ p.2 ∧ p.2 < n) ∧ ps.length ≤ 2 * n
abbrev s_dia : Stmt := top 45
theorem scDia : FnScope ["count", "pairs", "k"] ["count"] (defScope s_dia) := ⟨rfl, rfl, rfl, by decide +kernel, rfl, by decide +kernel, by decide +kernel⟩
theorem ok_dia {f : Addr} {fd : FuncData} (F : FunS K "_law_diamond" s_dia f fd) (b : Bi mg) : FnOk P w K mg base (L2.CX P w) 1 f fd ["count"] (spP K cDia) := by
  refine fp_ok F scDia (fun ds ⟨n, h, _⟩ => by rw [h]; rfl) fun cdv A outer s e E ds ho ⟨n, hd, n1, n2⟩ hr tk => ?_
  subst hd
  have nd := scDia.nd
  refine bl_letO (hz := .inl ho) 1 (pn_eo (pn_lst pvs_nil)) ?_
  refine bl_for (fun ds i Γ => ds = rng (1 : Nat) (n - 1) ∧ ∃ (ps : List (Nat × Nat)) (kk : Option B), (∀ p ∈ ps, p.1 ≤ p.2 ∧ p.2 < n) ∧ ps.length = 2 * i ∧ Γ = [sI n, sL (pairsD ps), kk]) (wv (wp_rng2 pv_int (pv_var 0) (by omega) b.range)) (gv_name 2 nd) ?_ ?_ ?_ (passes_of rfl)
  · rintro ds Γ1 ⟨rfl, rfl⟩
    exact ⟨by congr 1; omega, [], none, (fun p hp => by cases hp), rfl, rfl⟩
  · rintro ds i d Γ1 hdi ⟨rfl, ps, kk, hu, hl, rfl⟩
    obtain ⟨hi, rfl⟩ := rng_atN hdi
    refine ⟨_, rfl, bl_appP 1 rfl (by rw [pairsD_len]; omega) (pv_tup (pvs_cons pv_int (pvs_cons (pv_var 2) pvs_nil))) ?_⟩
    refine bl_appP 1 rfl (by rw [List.length_append, pairsD_len]; simp; omega) (pv_tup (pvs_cons (pv_var 2) (pvs_cons (pv_is (d := .int ((n - 1 : Nat) : Int)) (pv_b op_sub (pv_var 0) pv_int sc_sub) (by congr 1; omega)) pvs_nil))) ?_
    refine bl_nil ⟨rfl, ps ++ [(0, 1 + i)] ++ [(1 + i, n - 1)], sI ((1 + i : Nat) : Int), fun p hp => ?_, by rw [List.length_append, List.length_append, List.length_singleton, List.length_singleton]; omega, ?_⟩
    · rcases List.mem_append.mp hp with q | q
      · rcases List.mem_append.mp q with q | q
        · exact hu p q
        · rw [List.mem_singleton.mp q]; exact ⟨by show 0 ≤ 1 + i; omega, by show 1 + i < n; omega⟩
      · rw [List.mem_singleton.mp q]; exact ⟨by show 1 + i ≤ n - 1; omega, by show n - 1 < n; omega⟩
    · rw [pairsD_app, pairsD_app]
      rfl
  · rintro ds Γ1 ⟨rfl, ps, kk, hu, hl, rfl⟩
    rw [rng_len] at hl
    exact bl_retV 1 rfl (hz := .inl ho) ⟨n, ps, rfl, rfl, hu, by omega⟩
end
end Kf
end
section
set_option maxRecDepth 100000
set_option maxHeartbeats 4000000
/-! KfL6: shape, order_pairs. -/
namespace Kf
open PySem L2

def cN (n : Nat) : D := .int (n : Int)
def uN : D → Nat
  | .int i => i.toNat
  | _ => 0
theorem uN_cN (n : Nat) : uN (cN n) = n := Int.toNat_natCast n
def uP : D → Nat × Nat
  | .tup [.int a, .int b] => (a.toNat, b.toNat)
  | _ => (0, 0)
theorem uP_pairD (p : Nat × Nat) : uP (pairD p) = p := by
  show (((p.1 : Int)).toNat, ((p.2 : Int)).toNat) = p
  rw [Int.toNat_natCast, Int.toNat_natCast]
def uS : D → Str
  | .str z => z
  | _ => ⟨#[]⟩
theorem uS_str (z : Str) : uS (.str z) = z := rfl
theorem rng_nats (n : Nat) : rng 0 n = (List.range n).map cN := by
  unfold rng cN
  apply List.map_congr_left
  intro a _
  show D.int (0 + (a : Int)) = D.int (a : Int)
  rw [Int.zero_add]
theorem blk (N : List Str) (sc : Scope) {scope : Scope} {own : List (Str × Nat)} (h : blkC N sc scope own = true := by decide +kernel) : BlkOk N sc scope own := blkOk_by h
theorem filter_true {α : Type} (l : List α) : l.filter (fun _ => true) = l := List.filter_eq_self.mpr fun _ _ => rfl
section
variable {P : Program} {w : World} {K : Fg} {mg : Str → Option Value} {base : Heap}
def cShape : Fo where
  pre o ds := Pool o ∧ ∃ m : Nat, ds = [.int (m : Int)] ∧ 1 ≤ m ∧ m ≤ 10
  post o ds b o' := Pool o' ∧ ∃ (m n : Nat) (ps : List (Nat × Nat)), ds = [.int (m : Int)] ∧ b = .st (.tup [.int (n : Int), .lst (pairsD ps)]) ∧ 1 ≤ n ∧ n ≤ m ∧ PsOk n ps ∧ ps.length ≤ 200
abbrev s_shape : Stmt := top 46
abbrev nShape : List Str := ["pool", "most", "count", "form", "half", "one", "k", "pair"]
theorem scShape : FnScope nShape ["pool", "most"] (defScope s_shape) := ⟨rfl, rfl, rfl, by decide +kernel, rfl, by decide +kernel, by decide +kernel⟩
theorem ok_shape {f : Addr} {fd : FuncData} (F : FunS K "_law_shape" s_shape f fd) (b : Bi mg) (Nd : Dy P w K mg base "_law_draw" 1 cDraw) (Nc : Dx P w K mg base "_law_crown" 1 cCrown) (Nt : Dy P w K mg base "_law_tree" 2 cTree) (Nl : Dx P w K mg base "_law_layers" 1 cLayers) (Ni : Dx P w K mg base "_law_diamond" 1 cDia) (Nf : Dy P w K mg base "_law_free_pairs" 2 cFree) :
    FnOk P w K mg base (L2.CX P w) 3 f fd ["pool", "most"] (spO K cShape) := by
  refine fo_ok F scShape (fun o ds ⟨_, n, h, _⟩ => by rw [h]; rfl) fun cdv A outer s e E o ds ⟨hp, m, hd, m1, m2⟩ hr tk => ?_
  subst hd
  have nd := scShape.nd
  -- count
  refine bl_set 2 (Φ := fun d Γ => ∃ (r : Nat) (o' : O), d = .int ((1 + r : Nat) : Int) ∧ 1 + r ≤ m ∧ Pool o' ∧ Γ = [sO o', sI m, none, none, none, none, none, none]) (ev_b1 op_add pv_int (ev_draw (m := (m : Int)) 0 Nd hr (by omega) rfl hp (pv_var 1) (by omega)) ?_) ?_
  · rintro d2 Γ2 ⟨r, o', rfl, g1, g2, g3, rfl⟩
    obtain ⟨r, rfl⟩ := nat_of g1
    exact ⟨_, sc_add, r, o', by congr 1, by omega, g3, rfl⟩
  rintro d Γ' ⟨r, o1, rfl, hrm, hp1, rfl⟩
  obtain ⟨n, hn⟩ : ∃ n, n = 1 + r := ⟨_, rfl⟩
  rw [← hn] at hrm ⊢
  have n1 : 1 ≤ n := by omega
  -- form
  refine bl_set 3 (ev_draw (m := 9) 0 Nd hr (by omega) rfl hp1 pv_int (by decide)) ?_
  rintro d Γ' ⟨fm, o2, rfl, _, _, hp2, rfl⟩
  have fin : ∀ (o' : O) (ps : List (Nat × Nat)), Pool o' → PsOk n ps → ps.length ≤ 200 → cShape.post o [.int (m : Int)] (.st (.tup [.int (n : Int), .lst (pairsD ps)])) o' := fun o' ps h1 h2 h3 => ⟨h1, m, n, ps, rfl, rfl, n1, hrm, h2, h3⟩
  -- form == 3
  refine bl_ifR (px_cmp op_eq (pv_var 3) pv_int sc_eqI) (fun _ => bl_retP (d := .tup [.int (n : Int), .lst (pairsD ((List.range (n - 1)).map fun k => (k, k + 1)))]) (pv_tup (pvs_cons (pv_var 2) (pvs_cons (pn_pv (pn_is (o' := .lst (pairsD ((List.range (n - 1)).map fun k => (k, k + 1)))) (pn_lcA (c := cN) (u := uN) (l := List.range (n - 1)) (f := fun k => [sO o2, sI m, sI n, sI fm, none, none, sI k, none]) (own := [("k", 6)]) (ix := [6]) (bind := bName 6) (fun _ => true) (fun k => pairD (k, k + 1)) uN_cN (blk nShape (defScope s_shape)) nd
    (by rw [← rng_nats]; exact wp_rng (pv_is (pv_b op_sub (pv_var 2) pv_int sc_sub) (by congr 1; omega)) (by omega) b.range) (fun s H C cl fp => gv_name 6 nd) (bindOk_name 6) (by decide) (.inr (by decide)) (by rw [List.length_range]; omega) (fun a _ => rfl) (fun a _ s H C cl fp => pts_none) (fun a _ _ s H C cl fp => pv_tup (pvs_cons (pv_var 6) (pvs_cons (pv_b op_add (pv_var 6) pv_int sc_add) pvs_nil)))) ?_)) pvs_nil))) ⟨o2, rfl, fin o2 _ hp2 (psOk_up fun p hp => ?_) ?_⟩) fun _ => ?_
  · rw [filter_true]
    unfold pairsD
    rw [List.map_map]
    rfl
  · obtain ⟨k, hk, rfl⟩ := List.mem_map.mp hp
    rw [List.mem_range] at hk
    exact ⟨Nat.lt_succ_self k, by show k + 1 < n; omega⟩
  · rw [List.length_map, List.length_range]; omega
  -- form == 4 and most >= 4
  refine bl_ifR (px_w (pw_a (px_cmp op_eq (pv_var 3) pv_int sc_eqI) fun _ => pw_a1 (px_cmp op_ge (pv_var 1) pv_int sc_ge))) (fun hc => ?_) fun _ => ?_
  · rw [Bool.and_eq_true] at hc
    have hm4 : (4 : Int) ≤ (m : Int) := of_decide_eq_true hc.2
    refine bl_set 4 (Φ := fun d Γ => ∃ (r : Nat) (o' : O), d = .int ((2 + r : Nat) : Int) ∧ 2 * (2 + r) ≤ m ∧ Pool o' ∧ Γ = [sO o', sI m, sI n, sI fm, none, none, none, none]) (ev_b1 op_add pv_int (ev_draw (m := (m : Int).fdiv 2 - 1) 0 Nd hr (by omega) rfl hp2 (pv_b op_sub (pv_b op_fdivN (pv_var 1) pv_int (sc_divN (by decide) (by decide))) pv_int sc_sub) ?_) ?_) ?_
    · rw [Int.fdiv_eq_ediv_of_nonneg _ (by decide)]; omega
    · rintro d2 Γ2 ⟨r, o', rfl, g1, g2, g3, rfl⟩
      rw [Int.fdiv_eq_ediv_of_nonneg _ (by decide)] at g2
      obtain ⟨r, rfl⟩ := nat_of g1
      exact ⟨_, sc_add, r, o', by congr 1, by omega, g3, rfl⟩
    rintro d Γ' ⟨r, o3, rfl, hr2, hp3, rfl⟩
    refine bl_ret (Φ := fun d Γ => ∃ ps, d = .tup [.int ((2 * (2 + r) : Nat) : Int), .lst (pairsD ps)] ∧ PsUp (2 * (2 + r)) ps ∧ ps.length = 2 * (2 + r) ∧ Γ = [sO o3, sI m, sI n, sI fm, sI ((2 + r : Nat) : Int), none, none, none]) (ev_tup (Φa := fun ds Γ => ∃ ps, ds = [.int ((2 * (2 + r) : Nat) : Int), .lst (pairsD ps)] ∧ PsUp (2 * (2 + r)) ps ∧ ps.length = 2 * (2 + r) ∧ Γ = [sO o3, sI m, sI n, sI fm, sI ((2 + r : Nat) : Int), none, none, none]) (av_two (pv_is (pv_b op_mul pv_int (pv_var 4) (sc_mulL (by decide))) (by congr 1))
      (ev_call (Φ := fun d Γ => ∃ ps, d = .lst (pairsD ps) ∧ PsUp (2 * (2 + r)) ps ∧ ps.length = 2 * (2 + r) ∧ Γ = [sO o3, sI m, sI n, sI fm, sI ((2 + r : Nat) : Int), none, none, none]) (U := fun _ _ _ => False) Nc hr (by omega) takes_none (pvs_av (pvs_one (pv_var 4))) ?_) ?_) ?_) ?_
    · rintro ds Γ1 ⟨rfl, rfl⟩
      refine ⟨⟨2 + r, rfl, by omega, by omega⟩, ?_, fun _ _ z => z.elim⟩
      rintro bb ⟨n', ps, h1, rfl, h3, h4⟩
      injection h1 with h1 _
      injection h1 with h1
      have : 2 + r = n' := by omega
      subst this
      exact ⟨_, .inr ⟨_, rfl, rfl⟩, ps, rfl, h3, h4, rfl⟩
    · rintro d Γ1 ⟨ps, rfl, h3, h4, rfl⟩
      exact ⟨ps, rfl, h3, h4, rfl⟩
    · rintro ds Γ1 ⟨ps, rfl, h3, h4, rfl⟩
      exact ⟨by show 2 ≤ 1000; omega, ps, rfl, h3, h4, rfl⟩
    · rintro d Γ1 ⟨ps, rfl, h3, h4, rfl⟩
      exact ⟨o3, rfl, hp3, m, 2 * (2 + r), ps, rfl, rfl, by omega, hr2, psOk_up h3, by omega⟩
  -- form == 5
  refine bl_ifR (px_cmp op_eq (pv_var 3) pv_int sc_eqI) (fun _ => ?_) fun _ => ?_
  · refine bl_ret (Φ := fun d Γ => ∃ ps o', d = .tup [.int (n : Int), .lst (pairsD ps)] ∧ PsOk n ps ∧ ps.length ≤ 200 ∧ Pool o' ∧ Γ[0]? = some (sO o')) (ev_tup (Φa := fun ds Γ => ∃ ps o', ds = [.int (n : Int), .lst (pairsD ps)] ∧ PsOk n ps ∧ ps.length ≤ 200 ∧ Pool o' ∧ Γ[0]? = some (sO o')) (av_two (pv_var 2)
      (ev_callO (Φ := fun d Γ => ∃ ps o', d = .lst (pairsD ps) ∧ PsOk n ps ∧ ps.length ≤ 200 ∧ Pool o' ∧ Γ[0]? = some (sO o')) (U := fun _ _ _ => False) 0 Nt hr (by omega) takes_none rfl (pvs_av (pvs_one (pv_var 2))) ?_) ?_) ?_) ?_
    · rintro ds Γ1 ⟨rfl, rfl⟩
      refine ⟨o2, rfl, ⟨hp2, n, rfl, n1, by omega⟩, ?_, fun _ _ _ z => z.elim⟩
      rintro bb o' ⟨hp', n', ps, h1, rfl, h3, h4⟩
      injection h1 with h1 _
      injection h1 with h1
      have : n = n' := by omega
      subst this
      exact ⟨_, .inr ⟨_, rfl, rfl⟩, ps, o', rfl, h3, by omega, hp', rfl⟩
    · rintro d Γ1 ⟨ps, o', rfl, h⟩
      exact ⟨ps, o', rfl, h⟩
    · rintro ds Γ1 ⟨ps, o', rfl, h⟩
      exact ⟨by show 2 ≤ 1000; omega, ps, o', rfl, h⟩
    · rintro d Γ1 ⟨ps, o', rfl, h3, h4, h5, h6⟩
      exact ⟨o', h6, fin o' ps h5 h3 h4⟩
  -- form == 6
  refine bl_ifR (px_w (pw_a (px_cmp op_eq (pv_var 3) pv_int sc_eqI) fun _ => pw_a1 (px_cmp op_ge (pv_var 2) pv_int sc_ge))) (fun hc => ?_) fun _ => ?_
  · rw [Bool.and_eq_true] at hc
    have hn2 : (2 : Int) ≤ (n : Int) := of_decide_eq_true hc.2
    refine bl_set 5 (Φ := fun d Γ => ∃ (r : Nat) (o' : O), d = .int ((1 + r : Nat) : Int) ∧ 1 + r ≤ n ∧ Pool o' ∧ Γ = [sO o', sI m, sI n, sI fm, none, none, none, none]) (ev_b1 op_add pv_int (ev_draw (m := (n : Int) - 1) 0 Nd hr (by omega) rfl hp2 (pv_b op_sub (pv_var 2) pv_int sc_sub) (by omega)) ?_) ?_
    · rintro d2 Γ2 ⟨r, o', rfl, g1, g2, g3, rfl⟩
      obtain ⟨r, rfl⟩ := nat_of g1
      exact ⟨_, sc_add, r, o', by congr 1, by omega, g3, rfl⟩
    rintro d Γ' ⟨r, o3, rfl, hr2, hp3, rfl⟩
    refine bl_ret (Φ := fun d Γ => ∃ ps, d = .tup [.int (n : Int), .lst (pairsD ps)] ∧ PsUp n ps ∧ ps.length ≤ 200 ∧ Γ[0]? = some (sO o3)) (ev_tup (Φa := fun ds Γ => ∃ ps, ds = [.int (n : Int), .lst (pairsD ps)] ∧ PsUp n ps ∧ ps.length ≤ 200 ∧ Γ[0]? = some (sO o3)) (av_two (pv_var 2)
      (ev_call (Φ := fun d Γ => ∃ ps, d = .lst (pairsD ps) ∧ PsUp n ps ∧ ps.length ≤ 200 ∧ Γ[0]? = some (sO o3)) (U := fun _ _ _ => False) Nl hr (by omega) takes_none (pvs_av (pvs_cons (pv_var 5) (pvs_cons (pv_is (d := .int ((n - (1 + r) : Nat) : Int)) (pv_b op_sub (pv_var 2) (pv_var 5) sc_sub) (by congr 1; omega)) pvs_nil))) ?_) ?_) ?_) ?_
    · rintro ds Γ1 ⟨rfl, rfl⟩
      refine ⟨⟨1 + r, n - (1 + r), rfl, by omega, by omega⟩, ?_, fun _ _ z => z.elim⟩
      rintro bb ⟨a, c, ps, h1, rfl, h3, h4⟩
      injection h1 with h1 h2
      injection h1 with h1
      injection h2 with h2 _
      injection h2 with h2
      have e1 : 1 + r = a := by omega
      have e2 : n - (1 + r) = c := by omega
      subst e1 e2
      refine ⟨_, .inr ⟨_, rfl, rfl⟩, ps, rfl, by rw [show 1 + r + (n - (1 + r)) = n by omega] at h3; exact h3, ?_, rfl⟩
      rw [h4]
      have := Nat.mul_le_mul (show 1 + r ≤ 10 by omega) (show n - (1 + r) ≤ 10 by omega)
      omega
    · rintro d Γ1 ⟨ps, rfl, h⟩
      exact ⟨ps, rfl, h⟩
    · rintro ds Γ1 ⟨ps, rfl, h⟩
      exact ⟨by show 2 ≤ 1000; omega, ps, rfl, h⟩
    · rintro d Γ1 ⟨ps, rfl, h3, h4, h6⟩
      exact ⟨o3, h6, fin o3 ps hp3 (psOk_up h3) h4⟩
  -- form == 7
  refine bl_ifR (px_w (pw_a (px_cmp op_eq (pv_var 3) pv_int sc_eqI) fun _ => pw_a1 (px_cmp op_ge (pv_var 2) pv_int sc_ge))) (fun hc => ?_) fun _ => ?_
  · rw [Bool.and_eq_true] at hc
    have hn2 : (2 : Int) ≤ (n : Int) := of_decide_eq_true hc.2
    refine bl_ret (Φ := fun d Γ => ∃ ps, d = .tup [.int (n : Int), .lst (pairsD ps)] ∧ PsUp n ps ∧ ps.length ≤ 200 ∧ Γ[0]? = some (sO o2)) (ev_tup (Φa := fun ds Γ => ∃ ps, ds = [.int (n : Int), .lst (pairsD ps)] ∧ PsUp n ps ∧ ps.length ≤ 200 ∧ Γ[0]? = some (sO o2)) (av_two (Φb := fun d Γ => ∃ ps, d = .lst (pairsD ps) ∧ PsUp n ps ∧ ps.length ≤ 200 ∧ Γ[0]? = some (sO o2)) (pv_var 2)
      (ev_frz (Φo := fun o Γ => ∃ ps, o = .lst (pairsD ps) ∧ PsUp n ps ∧ ps.length ≤ 200 ∧ Γ[0]? = some (sO o2)) (eo_lcA (α := Nat × Nat) (c := pairD) (u := uP) (Ψ := fun l Γ1 => (∀ p ∈ l, p.1 ≤ p.2 ∧ p.2 < n) ∧ l.length ≤ 2 * n ∧ Γ1 = [sO o2, sI m, sI n, sI fm, none, none, none, none]) (f := fun _ _ p => [sO o2, sI m, sI n, sI fm, none, none, none, sD (pairD p)]) (own := [("pair", 7)]) (ix := [7]) (bind := bName 7) (fun _ _ p => !decide ((p.1 : Int) = (p.2 : Int))) (fun _ _ p => pairD p) uP_pairD (blk nShape (defScope s_shape)) nd
        (wv_listE (ev_call (Φ := fun d Γ => ∃ l, d = .lst (pairsD l) ∧ (∀ p ∈ l, p.1 ≤ p.2 ∧ p.2 < n) ∧ l.length ≤ 2 * n ∧ Γ = [sO o2, sI m, sI n, sI fm, none, none, none, none]) (U := fun _ _ _ => False) Ni hr (by omega) takes_none (pvs_av (pvs_one (pv_var 2))) ?_) ?_) (fun s H C cl fp => gv_name 7 nd) (bindOk_name 7) (by decide) (.inr (by decide)) ?_ ?_ ?_ ?_ ?_) ?_) ?_) ?_) ?_
    · rintro ds Γ1 ⟨rfl, rfl⟩
      refine ⟨⟨n, rfl, n1, by omega⟩, ?_, fun _ _ z => z.elim⟩
      rintro bb ⟨n', ps, h1, rfl, h3, h4⟩
      injection h1 with h1 _
      injection h1 with h1
      have : n = n' := by omega
      subst this
      exact ⟨_, .inr ⟨_, rfl, rfl⟩, ps, rfl, h3, h4, rfl⟩
    · rintro d Γ1 ⟨l, rfl, h⟩
      exact ⟨_, rfl, l, rfl, h⟩
    · rintro l Γ1 ⟨_, h, _⟩
      omega
    · rintro l Γ1 ⟨_, _, rfl⟩ a ha
      rfl
    · rintro l Γ1 a ⟨_, _, rfl⟩ ha s H C cl fp
      exact pts_if (px_cmp op_ne (pv_s ix_tup (pv_var 7) pv_int (sc_ixT rfl)) (pv_s ix_tup (pv_var 7) pv_int (sc_ixT rfl)) sc_neI)
    · rintro l Γ1 a ⟨_, _, rfl⟩ ha hpa s H C cl fp
      exact pv_var 7
    · rintro l Γ1 ⟨h1, h2, rfl⟩
      refine ⟨l.filter fun p => !decide ((p.1 : Int) = (p.2 : Int)), rfl, fun p hp => ?_, ?_, rfl⟩
      · obtain ⟨h3, h4⟩ := List.mem_filter.mp hp
        have h5 := h1 p h3
        simp at h4
        exact ⟨by omega, h5.2⟩
      · have := List.length_filter_le (fun p : Nat × Nat => !decide ((p.1 : Int) = (p.2 : Int))) l
        omega
    · rintro o Γ1 ⟨ps, rfl, h⟩
      exact ⟨ps, rfl, h⟩
    · rintro d Γ1 ⟨ps, rfl, h⟩
      exact ⟨ps, rfl, h⟩
    · rintro ds Γ1 ⟨ps, rfl, h⟩
      exact ⟨by show 2 ≤ 1000; omega, ps, rfl, h⟩
    · rintro d Γ1 ⟨ps, rfl, h3, h4, h6⟩
      exact ⟨o2, h6, fin o2 ps hp2 (psOk_up h3) h4⟩
  -- form == 8
  refine bl_ifR (px_cmp op_eq (pv_var 3) pv_int sc_eqI) (fun _ => ?_) fun _ => ?_
  · refine bl_ret (Φ := fun d Γ => ∃ ps o', d = .tup [.int (n : Int), .lst (pairsD ps)] ∧ PsUp n ps ∧ ps.length ≤ 200 ∧ Pool o' ∧ Γ[0]? = some (sO o')) (ev_tup (Φa := fun ds Γ => ∃ ps o', ds = [.int (n : Int), .lst (pairsD ps)] ∧ PsUp n ps ∧ ps.length ≤ 200 ∧ Pool o' ∧ Γ[0]? = some (sO o')) (av_two (Φb := fun d Γ => ∃ ps o', d = .lst (pairsD ps) ∧ PsUp n ps ∧ ps.length ≤ 200 ∧ Pool o' ∧ Γ[0]? = some (sO o')) (pv_var 2)
      (ev_frz (Φo := fun o Γ => ∃ ps o', o = .lst (pairsD ps) ∧ PsUp n ps ∧ ps.length ≤ 200 ∧ Pool o' ∧ Γ[0]? = some (sO o')) (eo_lc (own := [("k", 6)]) (ix := [6]) (bind := bName 6) (Φi := Is (rng 0 (n - 1)) [sO o2, sI m, sI n, sI fm, none, none, none, none])
        (fun Γ => ∃ o' i, Pool o' ∧ i < n - 1 ∧ Γ = [sO o', sI m, sI n, sI fm, none, none, sI (i : Nat), none]) (fun Γ => ∃ o' i, Pool o' ∧ i < n - 1 ∧ Γ = [sO o', sI m, sI n, sI fm, none, none, sI (i : Nat), none])
        (fun Γ _ Γ' => ∃ o' kk, Pool o' ∧ Γ = [Γ[0]?.getD none, sI m, sI n, sI fm, none, none, kk, none] ∧ Γ' = [sO o', sI m, sI n, sI fm, none, none, kk, none]) (fun Γ d Γ' => Γ' = Γ ∧ ∃ i : Nat, Γ[6]? = some (sI (i : Int)) ∧ d = pairD (i, i + 1))
        (fun ds i acc Γ => ds = rng 0 (n - 1) ∧ ∃ ps o', acc = pairsD ps ∧ PsUp n ps ∧ ps.length ≤ i ∧ Pool o' ∧ Γ = [sO o', sI m, sI n, sI fm, none, none, none, none]) (blk nShape (defScope s_shape)) nd
        (wv (wp_rng (pv_is (pv_b op_sub (pv_var 2) pv_int sc_sub) (by congr 1; omega)) (by omega) b.range)) (fun s H C cl fp => gv_name 6 nd) (bindOk_name 6) (by decide) (.inr (by decide)) ?_ ?_ ?_ ?_ ?_) ?_) ?_) ?_) ?_
    · rintro ds Γ1 ⟨rfl, rfl⟩
      exact ⟨by rw [rng_len]; omega, rfl, [], o2, rfl, psUp_nil, Nat.le_refl _, hp2, rfl⟩
    · rintro ds i d acc Γ1 hdi ⟨rfl, ps, o3, rfl, hu, hl, hp3, rfl⟩
      obtain ⟨hi, rfl⟩ := rng_at0 hdi
      refine ⟨_, rfl, ⟨o3, i, hp3, hi, rfl⟩, ?_, ?_⟩
      · rintro Γ3 ⟨o4, kk, hp4, h1, rfl⟩
        have hk : kk = sI (i : Int) := by
          injection h1 with _ h1
          injection h1 with _ h1
          injection h1 with _ h1
          injection h1 with _ h1
          injection h1 with _ h1
          injection h1 with _ h1
          injection h1 with h1 _
          exact h1.symm
        subst hk
        refine ⟨⟨o4, i, hp4, hi, rfl⟩, ?_⟩
        rintro y Γ4 ⟨rfl, i', h2, rfl⟩
        have h2' : (i : Int) = (i' : Int) := by
          injection h2 with h2
          injection h2 with h2
          injection h2 with h2
          injection h2 with h2
        have : i = i' := by omega
        subst this
        exact ⟨rfl, ps ++ [(i, i + 1)], o4, by rw [pairsD_app]; rfl, psUp_app hu (by omega) (by omega), by rw [List.length_append, List.length_singleton]; omega, hp4, rfl⟩
      · rintro Γ3 ⟨o4, kk, hp4, h1, rfl⟩
        exact ⟨rfl, ps, o4, rfl, hu, by omega, hp4, rfl⟩
    · rintro ds acc Γ1 ⟨rfl, ps, o3, rfl, hu, hl, hp3, rfl⟩
      rw [rng_len] at hl
      exact ⟨ps, o3, rfl, hu, by omega, hp3, rfl⟩
    · rintro Γ' ⟨o3, i, hp3, hi, rfl⟩ s H C cl fp
      refine pts_one (tv_c1 (g := fun _ _ => .int 0) op_eq (ev_draw 0 Nd hr (by omega) rfl hp3 pv_int (by decide)) (fun _ _ _ => pv_int) ?_)
      rintro d Γ1 ⟨r, o', rfl, _, _, hp', rfl⟩
      exact ⟨_, sc_eqI, o', _, hp', rfl, rfl⟩
    · rintro Γ' ⟨o3, i, hp3, hi, rfl⟩ s H C cl fp
      exact ev_weak (Φ' := Is (pairD (i, i + 1)) [sO o3, sI m, sI n, sI fm, none, none, sI (i : Nat), none]) (pv_ev (pv_tup (pvs_cons (pv_var 6) (pvs_cons (pv_b op_add (pv_var 6) pv_int sc_add) pvs_nil)))) fun d Γ1 ⟨h1, h2⟩ => by
        subst h1 h2
        exact ⟨rfl, i, rfl, rfl⟩
    · rintro o Γ1 ⟨ps, o', rfl, h⟩
      exact ⟨ps, o', rfl, h⟩
    · rintro d Γ1 ⟨ps, o', rfl, h⟩
      exact ⟨ps, o', rfl, h⟩
    · rintro ds Γ1 ⟨ps, o', rfl, h⟩
      exact ⟨by show 2 ≤ 1000; omega, ps, o', rfl, h⟩
    · rintro d Γ1 ⟨ps, o', rfl, h3, h4, h5, h6⟩
      exact ⟨o', h6, fin o' ps h5 (psOk_up h3) h4⟩
  -- else
  · refine bl_ret (Φ := fun d Γ => ∃ ps o', d = .tup [.int (n : Int), .lst (pairsD ps)] ∧ PsUp n ps ∧ ps.length ≤ 200 ∧ Pool o' ∧ Γ[0]? = some (sO o')) (ev_tup (Φa := fun ds Γ => ∃ ps o', ds = [.int (n : Int), .lst (pairsD ps)] ∧ PsUp n ps ∧ ps.length ≤ 200 ∧ Pool o' ∧ Γ[0]? = some (sO o')) (av_two (pv_var 2)
      (ev_callO (Φ := fun d Γ => ∃ ps o', d = .lst (pairsD ps) ∧ PsUp n ps ∧ ps.length ≤ 200 ∧ Pool o' ∧ Γ[0]? = some (sO o')) (U := fun _ _ _ => False) 0 Nf hr (by omega) takes_none rfl (pvs_av (pvs_one (pv_var 2))) ?_) ?_) ?_) ?_
    · rintro ds Γ1 ⟨rfl, rfl⟩
      refine ⟨o2, rfl, ⟨hp2, n, rfl, n1, by omega⟩, ?_, fun _ _ _ z => z.elim⟩
      rintro bb o' ⟨hp', n', ps, h1, rfl, h3, h4⟩
      injection h1 with h1 _
      injection h1 with h1
      have : n = n' := by omega
      subst this
      have := Nat.mul_le_mul (show n ≤ 10 by omega) (show n ≤ 10 by omega)
      exact ⟨_, .inr ⟨_, rfl, rfl⟩, ps, o', rfl, h3, by omega, hp', rfl⟩
    · rintro d Γ1 ⟨ps, o', rfl, h⟩
      exact ⟨ps, o', rfl, h⟩
    · rintro ds Γ1 ⟨ps, o', rfl, h⟩
      exact ⟨by show 2 ≤ 1000; omega, ps, o', rfl, h⟩
    · rintro d Γ1 ⟨ps, o', rfl, h3, h4, h5, h6⟩
      exact ⟨o', h6, fin o' ps h5 (psOk_up h3) h4⟩
end
end Kf
end
section
set_option maxRecDepth 100000
set_option maxHeartbeats 4000000
/-! KfL7: order_pairs, named. -/
namespace Kf
open PySem L2

theorem atI_nat {α : Type} {l : List α} {n : Nat} {d : α} (h : l[n]? = some d) : atI l (n : Int) = some d := by
  have hl : n < l.length := (List.getElem?_eq_some_iff.mp h).1
  unfold atI ixN
  rw [if_pos (by omega), if_pos (by omega)]
  show l[(n : Int).toNat]? = some d
  rw [Int.toNat_natCast]
  exact h
theorem natsD_at {l : List Nat} {i : Nat} (h : i < l.length) : (natsD l)[i]? = some (.int ((l.getD i 0 : Nat) : Int)) := by
  unfold natsD
  rw [List.getElem?_map, List.getElem?_eq_getElem h, List.getD_eq_getElem?_getD, List.getElem?_eq_getElem h]
  rfl
theorem strs_at {l : List Str} {i : Nat} (h : i < l.length) : (l.map D.str)[i]? = some (.str (l.getD i ⟨#[]⟩)) := by
  rw [List.getElem?_map, List.getElem?_eq_getElem h, List.getD_eq_getElem?_getD, List.getElem?_eq_getElem h]
  rfl
theorem idx_getD {l : List Nat} (h : l.Nodup) {i : Nat} (hi : i < l.length) : l.idxOf (l.getD i 0) = i := by
  rw [List.getD_eq_getElem?_getD, List.getElem?_eq_getElem hi]
  exact h.idxOf_getElem i hi
def mixed (l : List Nat) (ps : List (Nat × Nat)) : List (Nat × Nat) := ps.map fun p => (l.getD p.1 0, l.getD p.2 0)
theorem mixed_ok {n : Nat} {l : List Nat} {ps : List (Nat × Nat)} (h : PsOk n ps) (hn : l.length = n) (hd : l.Nodup) (hl : ∀ x ∈ l, x < n) : PsOk n (mixed l ps) := by
  obtain ⟨h1, rk, h2⟩ := h
  have key : ∀ i, i < n → l.getD i 0 < n := fun i hi => by
    rw [List.getD_eq_getElem?_getD, List.getElem?_eq_getElem (by omega)]
    exact hl _ (List.getElem_mem _)
  refine ⟨fun p hp => ?_, fun x => rk (l.idxOf x), fun p hp => ?_⟩
  · obtain ⟨q, hq, rfl⟩ := List.mem_map.mp hp
    exact ⟨key _ (h1 q hq).1, key _ (h1 q hq).2⟩
  · obtain ⟨q, hq, rfl⟩ := List.mem_map.mp hp
    have := h1 q hq
    show rk (l.idxOf (l.getD q.1 0)) < rk (l.idxOf (l.getD q.2 0))
    rw [idx_getD hd (by omega), idx_getD hd (by omega)]
    exact h2 q hq
section
variable {P : Program} {w : World} {K : Fg} {mg : Str → Option Value} {base : Heap}
abbrev s_opairs : Stmt := top 47
abbrev nOpairs : List Str := ["pool", "most", "shape", "places", "pair"]
theorem scOpairs : FnScope nOpairs ["pool", "most"] (defScope s_opairs) := ⟨rfl, rfl, rfl, by decide +kernel, rfl, by decide +kernel, by decide +kernel⟩
theorem ok_opairs {f : Addr} {fd : FuncData} (F : FunS K "_law_order_pairs" s_opairs f fd) (b : Bi mg) (Ns : Dy P w K mg base "_law_shape" 3 cShape) (Nm : Dy P w K mg base "_law_mixed_places" 2 cPlaces) :
    FnOk P w K mg base (L2.CX P w) 4 f fd ["pool", "most"] (spO K cShape) := by
  refine fo_ok F scOpairs (fun o ds ⟨_, n, h, _⟩ => by rw [h]; rfl) fun cdv A outer s e E o ds ⟨hp, m, hd, m1, m2⟩ hr tk => ?_
  subst hd
  have nd := scOpairs.nd
  refine bl_set 2 (Φ := fun d Γ => ∃ (n : Nat) (ps : List (Nat × Nat)) (o' : O), d = .tup [.int (n : Int), .lst (pairsD ps)] ∧ 1 ≤ n ∧ n ≤ m ∧ PsOk n ps ∧ ps.length ≤ 200 ∧ Pool o' ∧ Γ = [sO o', sI m, none, none, none]) (ev_callO (U := fun _ _ _ => False) 0 Ns hr (by omega) takes_none rfl (pvs_av (pvs_one (pv_var 1))) ?_) ?_
  · rintro ds Γ1 ⟨rfl, rfl⟩
    refine ⟨o, rfl, ⟨hp, m, rfl, m1, m2⟩, ?_, fun _ _ _ z => z.elim⟩
    rintro bb o' ⟨hp', m', n, ps, h1, rfl, h3, h4, h5, h6⟩
    injection h1 with h1 _
    injection h1 with h1
    have : m = m' := by omega
    subst this
    exact ⟨_, .inl rfl, n, ps, o', rfl, h3, h4, h5, h6, hp', rfl⟩
  rintro d Γ' ⟨n, ps, o1, rfl, n1, n2, hps, hpl, hp1, rfl⟩
  refine bl_set 3 (Φ := fun d Γ => ∃ (l : List Nat) (o' : O), d = .lst (natsD l) ∧ l.length = n ∧ l.Nodup ∧ (∀ x ∈ l, x < n) ∧ Pool o' ∧ Γ = [sO o', sI m, sD (.tup [.int (n : Int), .lst (pairsD ps)]), none, none]) (ev_callO (U := fun _ _ _ => False) 0 Nm hr (by omega) takes_none rfl (pvs_av (pvs_one (pv_s ix_tup (pv_var 2) pv_int (sc_ixT rfl)))) ?_) ?_
  · rintro ds Γ1 ⟨rfl, rfl⟩
    refine ⟨o1, rfl, ⟨hp1, n, rfl, by omega⟩, ?_, fun _ _ _ z => z.elim⟩
    rintro bb o' ⟨hp', l, rfl, h3, h4, h5⟩
    injection h5 with h5 _
    injection h5 with h5
    have : l.length = n := by omega
    subst this
    exact ⟨_, .inr ⟨_, rfl, rfl⟩, l, o', rfl, rfl, h3, h4, hp', rfl⟩
  rintro d Γ' ⟨l, o2, rfl, hl, hld, hlx, hp2, rfl⟩
  refine bl_retP (d := .tup [.int (n : Int), .lst (pairsD (mixed l ps))]) (pv_tup (pvs_cons (pv_s ix_tup (pv_var 2) pv_int (sc_ixT rfl)) (pvs_cons (pn_pv (pn_is (o' := .lst (pairsD (mixed l ps))) (pn_lcA (c := pairD) (u := uP) (l := ps) (f := fun p => [sO o2, sI m, sD (.tup [.int (n : Int), .lst (pairsD ps)]), sD (.lst (natsD l)), sD (pairD p)]) (own := [("pair", 4)]) (ix := [4]) (bind := bName 4) (fun _ => true) (fun p => pairD (l.getD p.1 0, l.getD p.2 0)) uP_pairD (blk nOpairs (defScope s_opairs)) nd
    (wp_list (pv_s ix_tup (pv_var 2) pv_int (sc_ixT rfl))) (fun s H C cl fp => gv_name 4 nd) (bindOk_name 4) (by decide) (.inr (by decide)) (by omega) (fun a _ => rfl) (fun a _ s H C cl fp => pts_none) (fun a ha _ s H C cl fp => ?_)) ?_)) pvs_nil))) ⟨o2, rfl, hp2, m, n, mixed l ps, rfl, rfl, n1, n2, mixed_ok hps hl hld hlx, by unfold mixed; rw [List.length_map]; exact hpl⟩
  · have := hps.1 a ha
    exact pv_tup (pvs_cons (pv_s ix_list (pv_var 3) (pv_s ix_tup (pv_var 4) pv_int (sc_ixT rfl)) (sc_ixL (atI_nat (natsD_at (by omega))))) (pvs_cons (pv_s ix_list (pv_var 3) (pv_s ix_tup (pv_var 4) pv_int (sc_ixT rfl)) (sc_ixL (atI_nat (natsD_at (by omega))))) pvs_nil))
  · rw [filter_true]
    unfold pairsD mixed
    rw [List.map_map]
    rfl
/-! ### named -/
def spairD (p : Str × Str) : D := .tup [.str p.1, .str p.2]
def spairsD (ps : List (Str × Str)) : List D := ps.map spairD
def named (ns : List Str) (ps : List (Nat × Nat)) : List (Str × Str) := ps.map fun p => (ns.getD p.1 ⟨#[]⟩, ns.getD p.2 ⟨#[]⟩)
def cNamed : Fp where
  pre ds := ∃ (ns : List Str) (ps : List (Nat × Nat)), ds = [.lst (ns.map .str), .lst (pairsD ps)] ∧ ps.length ≤ 1000 ∧ ∀ p ∈ ps, p.1 < ns.length ∧ p.2 < ns.length
  post ds b := ∃ (ns : List Str) (ps : List (Nat × Nat)), ds = [.lst (ns.map .str), .lst (pairsD ps)] ∧ b = .ow (.lst (spairsD (named ns ps)))
abbrev s_named : Stmt := top 48
abbrev nNamed : List Str := ["names", "pairs", "pair"]
theorem scNamed : FnScope nNamed ["names", "pairs"] (defScope s_named) := ⟨rfl, rfl, rfl, by decide +kernel, rfl, by decide +kernel, by decide +kernel⟩
theorem ok_named {f : Addr} {fd : FuncData} (F : FunS K "_law_named" s_named f fd) (b : Bi mg) : FnOk P w K mg base (L2.CX P w) 1 f fd ["names", "pairs"] (spP K cNamed) := by
  refine fp_ok F scNamed (fun ds ⟨ns, ps, h, _⟩ => by rw [h]; rfl) fun cdv A outer s e E ds ho ⟨ns, ps, hd, hpl, hps⟩ hr tk => ?_
  subst hd
  have nd := scNamed.nd
  refine bl_retO (pn_eo (pn_lcA (c := pairD) (u := uP) (l := ps) (f := fun p => [sD (.lst (ns.map .str)), sD (.lst (pairsD ps)), sD (pairD p)]) (own := [("pair", 2)]) (ix := [2]) (bind := bName 2) (fun _ => true) (fun p => spairD (ns.getD p.1 ⟨#[]⟩, ns.getD p.2 ⟨#[]⟩)) uP_pairD (blk nNamed (defScope s_named)) nd
    (wp_list (pv_var 1)) (fun s H C cl fp => gv_name 2 nd (hz := .inl ho)) (bindOk_name 2) (by decide) (.inl ho) (by omega) (fun a _ => rfl) (fun a _ s H C cl fp => pts_none) (fun a ha _ s H C cl fp => ?_))) ?_
  · have := hps a ha
    exact pv_tup (pvs_cons (pv_s ix_list (pv_var 0) (pv_s ix_tup (pv_var 2) pv_int (sc_ixT rfl)) (sc_ixL (atI_nat (strs_at this.1)))) (pvs_cons (pv_s ix_list (pv_var 0) (pv_s ix_tup (pv_var 2) pv_int (sc_ixT rfl)) (sc_ixL (atI_nat (strs_at this.2)))) pvs_nil))
  · rintro o Γ' ⟨rfl, rfl⟩
    refine ⟨ns, ps, rfl, ?_⟩
    rw [filter_true]
    unfold spairsD named
    rw [List.map_map]
    rfl
end
end Kf
end
section
set_option maxRecDepth 100000
set_option maxHeartbeats 4000000
/-! KfM: the law's own table of what lies above: rows that change. -/
namespace Kf
open PySem L2

/-! ### plain: the table -/
def WM (m : Nat → Nat → Bool) : Nat → Nat → Nat → Bool
  | 0 => m
  | k + 1 => fun a b => WM m k a b || (WM m k a k && WM m k k b)
def base0 (ps : List (Nat × Nat)) : Nat → Nat → Bool := fun a b => a == b || decide ((a, b) ∈ ps)
def warsh (n : Nat) (ps : List (Nat × Nat)) : Nat → Nat → Bool := WM (base0 ps) n
inductive Rch (ps : List (Nat × Nat)) : Nat → Nat → Prop
  | refl (a : Nat) : Rch ps a a
  | step {a b c : Nat} : Rch ps a b → (b, c) ∈ ps → Rch ps a c
theorem Rch.trans {ps : List (Nat × Nat)} {a b c : Nat} (h : Rch ps a b) (q : Rch ps b c) : Rch ps a c := by
  induction q with
  | refl => exact h
  | step _ e ih => exact .step ih e
theorem WM_up {m : Nat → Nat → Bool} {k a b : Nat} (h : WM m k a b = true) : WM m (k + 1) a b = true := by
  show (WM m k a b || _) = true
  rw [h]; rfl
theorem WM_up0 {m : Nat → Nat → Bool} {a b : Nat} (h : m a b = true) : ∀ k, WM m k a b = true
  | 0 => h
  | k + 1 => WM_up (WM_up0 h k)
theorem WM_trans {m : Nat → Nat → Bool} : ∀ k a b c, b < k → WM m k a b = true → WM m k b c = true → WM m k a c = true
  | 0, _, _, _, h, _, _ => absurd h (Nat.not_lt_zero _)
  | k + 1, a, b, c, h, p, q => by
    have ih := WM_trans (m := m) k
    have p' : (WM m k a b || (WM m k a k && WM m k k b)) = true := p
    have q' : (WM m k b c || (WM m k b k && WM m k k c)) = true := q
    show (WM m k a c || (WM m k a k && WM m k k c)) = true
    simp only [Bool.or_eq_true, Bool.and_eq_true] at p' q' ⊢
    by_cases e : b = k
    · subst e
      rcases p' with p' | ⟨p1, p2⟩
      · rcases q' with q' | ⟨q1, q2⟩
        · exact .inr ⟨p', q'⟩
        · exact .inr ⟨p', q2⟩
      · rcases q' with q' | ⟨q1, q2⟩
        · exact .inr ⟨p1, q'⟩
        · exact .inr ⟨p1, q2⟩
    · have hb : b < k := by omega
      rcases p' with p' | ⟨p1, p2⟩
      · rcases q' with q' | ⟨q1, q2⟩
        · exact .inl (ih a b c hb p' q')
        · exact .inr ⟨ih a b k hb p' q1, q2⟩
      · rcases q' with q' | ⟨q1, q2⟩
        · exact .inr ⟨p1, ih k b c hb p2 q'⟩
        · exact .inr ⟨p1, q2⟩
theorem WM_sound {ps : List (Nat × Nat)} : ∀ k a b, WM (base0 ps) k a b = true → Rch ps a b
  | 0, a, b, h => by
    have h' : (a == b || decide ((a, b) ∈ ps)) = true := h
    simp only [Bool.or_eq_true, beq_iff_eq, decide_eq_true_eq] at h'
    rcases h' with h' | h'
    · subst h'; exact .refl _
    · exact .step (.refl _) h'
  | k + 1, a, b, h => by
    have h' : (WM (base0 ps) k a b || (WM (base0 ps) k a k && WM (base0 ps) k k b)) = true := h
    simp only [Bool.or_eq_true, Bool.and_eq_true] at h'
    rcases h' with h' | ⟨h1, h2⟩
    · exact WM_sound k a b h'
    · exact (WM_sound k a k h1).trans (WM_sound k k b h2)
theorem warsh_iff {n : Nat} {ps : List (Nat × Nat)} (hp : ∀ p ∈ ps, p.1 < n ∧ p.2 < n) {a b : Nat} : warsh n ps a b = true ↔ Rch ps a b := by
  refine ⟨WM_sound n a b, fun h => ?_⟩
  induction h with
  | refl => exact WM_up0 (by unfold base0; simp) n
  | step _ e ih => exact WM_trans n _ _ _ (hp _ e).1 ih (WM_up0 (by unfold base0; simp [e]) n)
/-- amid the turns for k, row l, place h -/
def cur (m : Nat → Nat → Bool) (k l h : Nat) : Nat → Nat → Bool := fun a b => m a b || (decide (a < l ∨ (a = l ∧ b < h)) && (m a k && m k b))
theorem cur_row {m : Nat → Nat → Bool} {k l h b : Nat} : cur m k l h k b = m k b := by
  unfold cur
  cases m k b <;> simp
theorem cur_col {m : Nat → Nat → Bool} {k l h a : Nat} : cur m k l h a k = m a k := by
  unfold cur
  cases m a k <;> simp

/-! ### the walk, by triples -/
structure Gh where
  S : Hp
  H1 : Hp
  v : V
def rowV (n : Nat) (r : Nat → Bool) : List V := (List.range n).map fun b => .bl (r b)
theorem rowV_congr {n : Nat} {r q : Nat → Bool} (h : ∀ b, b < n → r b = q b) : rowV n r = rowV n q := List.map_congr_left fun b hb => by rw [h b (List.mem_range.mp hb)]
theorem rowV_len {n : Nat} {r : Nat → Bool} : (rowV n r).length = n := by unfold rowV; rw [List.length_map, List.length_range]
theorem rowV_at {n : Nat} {r : Nat → Bool} {b : Nat} (h : b < n) : (rowV n r)[b]? = some (.bl (r b)) := by
  unfold rowV
  rw [List.getElem?_map, List.getElem?_range h]
  rfl
theorem rowV_set {n : Nat} {r : Nat → Bool} {h : Nat} : (rowV n r).set h (.bl true) = rowV n fun b => r b || b == h := by
  apply List.ext_getElem?
  intro i
  by_cases q : i < n
  · rw [rowV_at q]
    by_cases e : h = i
    · subst e
      rw [List.getElem?_set_self (by rw [rowV_len]; exact q)]
      simp
    · rw [List.getElem?_set_ne e, rowV_at q]
      have : (i == h) = false := by simp; omega
      rw [this, Bool.or_false]
  · rw [List.getElem?_eq_none (by rw [List.length_set, rowV_len]; omega), List.getElem?_eq_none (by rw [rowV_len]; omega)]
structure Mt (n : Nat) (g : Gh) (R : Addr) (as : List Addr) (m : Nat → Nat → Bool) (H : Hp) : Prop where
  kp : ∀ p o, g.H1 p = some o → H p = some o
  fR : g.H1 R = none
  fa : ∀ x ∈ as, g.H1 x = none
  nd : as.Nodup
  ne : R ∉ as
  ln : as.length = n
  hR : H R = some (.lst (as.map V.ref))
  rw_ : ∀ (a : Nat) (x : Addr), as[a]? = some x → H x = some (.lst (rowV n (m a)))
theorem Mt.congr {n : Nat} {g : Gh} {R : Addr} {as : List Addr} {m m' : Nat → Nat → Bool} {H : Hp} (h : Mt n g R as m H) (e : ∀ a b, a < n → b < n → m a b = m' a b) : Mt n g R as m' H :=
  ⟨h.kp, h.fR, h.fa, h.nd, h.ne, h.ln, h.hR, fun a x q => by
    have ha : a < n := by rw [← h.ln]; exact (List.getElem?_eq_some_iff.mp q).1
    rw [h.rw_ a x q, rowV_congr fun b hb => e a b ha hb]⟩
theorem nodup_at {as : List Addr} (h : as.Nodup) {i j : Nat} {x : Addr} (hi : as[i]? = some x) (hj : as[j]? = some x) : i = j := by
  obtain ⟨h1, h2⟩ := List.getElem?_eq_some_iff.mp hi
  obtain ⟨h3, h4⟩ := List.getElem?_eq_some_iff.mp hj
  have e1 := h.idxOf_getElem i h1
  have e2 := h.idxOf_getElem j h3
  rw [h2] at e1
  rw [h4] at e2
  omega
/-- row a, place b stored -/
theorem Mt.put {n : Nat} {g : Gh} {R : Addr} {as : List Addr} {m : Nat → Nat → Bool} {H : Hp} {a b : Nat} {x : Addr} (h : Mt n g R as m H) (q : as[a]? = some x) : Mt n g R as (fun i j => m i j || (i == a && j == b)) (upd H x (.lst ((rowV n (m a)).set b (.bl true)))) := by
  have hx : x ∈ as := List.mem_of_getElem? q
  have hxR : R ≠ x := fun z => h.ne (z ▸ hx)
  refine ⟨fun p o z => ?_, h.fR, h.fa, h.nd, h.ne, h.ln, by rw [upd_ne hxR]; exact h.hR, fun i y qi => ?_⟩
  · have : p ≠ x := fun e => by rw [e, h.fa x hx] at z; cases z
    rw [upd_ne this]
    exact h.kp p o z
  · by_cases e : y = x
    · subst e
      have := nodup_at h.nd qi q
      subst this
      rw [upd_same, rowV_set]
      simp
    · have ia : i ≠ a := fun z => e (by rw [z, q] at qi; exact (Option.some.inj qi).symm)
      rw [upd_ne e, h.rw_ i y qi]
      have : (i == a) = false := by simp [ia]
      exact congrArg (fun r => some (HO.lst r)) (rowV_congr fun b _ => by rw [this, Bool.false_and, Bool.or_false])
section
variable {X : Cx}
def RS (X : Cx) (st : List Stmt) (A B : Gh → L2.St → Hp → Prop) : Prop := PSs X st fun D σ H => ∃ g, A g σ H ∧ ∀ σ' H', B g σ' H' → D.nx σ' H'
def R1 (X : Cx) (st : Stmt) (A B : Gh → L2.St → Hp → Prop) : Prop := PS X st fun D σ H => ∃ g, A g σ H ∧ ∀ σ' H', B g σ' H' → D.nx σ' H'
theorem rs_nil {A B : Gh → L2.St → Hp → Prop} (h : ∀ g σ H, A g σ H → B g σ H) : RS X [] A B := PSs.imp pss_nil fun D σ H ⟨g, a, q⟩ => q σ H (h g σ H a)
theorem rs_cons {st : Stmt} {rest : List Stmt} {A B C : Gh → L2.St → Hp → Prop} (h : R1 X st A B) (q : RS X rest B C) : RS X (st :: rest) A C :=
  PSs.imp (pss_cons h q) fun D σ H ⟨g, a, z⟩ => ⟨g, a, fun σ' H' b => ⟨g, b, z⟩⟩
theorem rs_one {st : Stmt} {A B : Gh → L2.St → Hp → Prop} (h : R1 X st A B) : RS X [st] A B := rs_cons h (rs_nil fun _ _ _ z => z)
theorem rs_pre {st : List Stmt} {A A' B : Gh → L2.St → Hp → Prop} (h : RS X st A B) (q : ∀ g σ H, A' g σ H → A g σ H) : RS X st A' B := PSs.imp h fun D σ H ⟨g, a, z⟩ => ⟨g, q g σ H a, z⟩
/-- for i in range(n) -/
theorem r1_rng {n : Nat} {body : List Stmt} {nm : Str} {np cp p pos fpos : Pos} {cn : Str} {c : Nat} {A : Gh → L2.St → Hp → Prop} (i : Nat) (Inv : Nat → Gh → L2.St → Hp → Prop) (hn : n ≤ 1000) (h0 : ∀ g σ H, A g σ H → Inv 0 g σ H) (hc0 : ∀ g σ H, A g σ H → σ[c]? = some (some (.int (n : Int))))
    (hb : ∀ k, k < n → RS X body (fun g σ H => ∃ σ0, Inv k g σ0 H ∧ σ = σ0.set i (some (.int (k : Int)))) (Inv (k + 1))) (hp : PassesOwn (model X.prog X.w) X.A X.env X.xe) (hm : X.mg "range" = none)
    (hN : X.N.Nodup) (hi : X.N[i]? = some nm) (hci : X.N[c]? = some cn := by rfl) (hx : Loc X.env.scope nm := by first | exact .inl rfl | exact .inr rfl) (hv : Vis X.env.scope cn := by first | exact Or.inl rfl | exact Or.inr (Or.inl rfl) | exact Or.inr (Or.inr rfl)) (hg : Gl X "range" := by rfl)
    (hst : starEach [.Name cn cp] X.env = (false, eval (.Name cn cp) X.env) :: starEach [] X.env := by rfl) (hs : starEach [.Name cn cp] X.env = [(false, eval (.Name cn cp) X.env)] := by rfl)
    (hf : X.fn nm = true ∨ X.env.scope.names.lookup nm = some .local := by first | exact .inl rfl | exact .inr rfl) (h1 : (cn == ("__debug__" : Str)) = false := by decide) (h2 : (cn == ("__classdict__" : Str)) = false := by decide) (hcalm : X.calm = true := by rfl) :
    R1 X (.For (.Name nm np) (.Call (.Name "range" p) [.Name cn cp] [] pos) body [] fpos) A (Inv n) := by
  have hbT : PSs X body (fun D σ H => ∃ k, k < n ∧ ∃ g, (∃ σ0, Inv k g σ0 H ∧ σ = σ0.set i (some (.int (k : Int)))) ∧ ∀ σ' H', Inv (k + 1) g σ' H' → D.nx σ' H') := ⟨fun pins s σ H D I ⟨k, hk, q⟩ => (hb k hk).run pins s σ H D I q⟩
  refine PS.imp (ps_for hp hcalm (pi_range1 hg hm (pa_cons (pe_var hci hv h1 h2) pa_nil hst) hs) (pg_name hN hi hx hf) hbT) fun D σ H ⟨g, a, q⟩ => ?_
  refine ⟨_, hc0 g σ H a, (n : Int), rfl, by omega, by omega, fun j m σ1 H1 => m = n - j ∧ j ≤ n ∧ Inv j g σ1 H1, ⟨n, by simp, Nat.zero_le _, h0 g σ H a⟩, ?_⟩
  rintro j m σ1 H1 ⟨rfl, hj, hI⟩
  by_cases hlt : j < n
  · refine .inr ⟨by show j < (n : Int).toNat; omega, fun σ' H' => j + 1 ≤ n ∧ Inv (j + 1) g σ' H', fun σ' H' ⟨z1, z2⟩ => ⟨n - (j + 1), by omega, rfl, z1, z2⟩, fun x H' y => ?_⟩
    obtain ⟨rfl, rfl⟩ := y
    exact ⟨j, hlt, g, ⟨σ1, hI, by rw [Int.zero_add]⟩, fun σ' H' z => ⟨hlt, z⟩⟩
  · have ej : j = n := by omega
    subst ej
    exact .inl ⟨by show (j : Int).toNat ≤ j; omega, q σ1 H1 hI⟩
/-- if a test that changes nothing -/
theorem r1_if {c : Expr} {t : List Stmt} {pos : Pos} {tt : TT} {A B : Gh → L2.St → Hp → Prop} (k : Gh → L2.St → Hp → Bool) (hc : PT X c tt) (ht : ∀ g σ H, A g σ H → ∀ Q : Bool → Hp → Prop, Q (k g σ H) H → tt σ H Q) (h1 : RS X t (fun g σ H => A g σ H ∧ k g σ H = true) B) (h2 : ∀ g σ H, A g σ H → k g σ H = false → B g σ H) : R1 X (.If c t [] pos) A B := by
  have h2' : PSs X [] (fun D σ H => ∃ g, (A g σ H ∧ k g σ H = false) ∧ ∀ σ' H', B g σ' H' → D.nx σ' H') := PSs.imp pss_nil fun D σ H ⟨g, a, q⟩ => q σ H (h2 g σ H a.1 a.2)
  refine PS.imp (ps_if hc h1 h2') fun D σ H ⟨g, a, q⟩ => ht g σ H a _ ?_
  cases hk : k g σ H with
  | true => exact iteT ⟨g, ⟨a, hk⟩, q⟩
  | false => exact iteF ⟨g, ⟨a, hk⟩, q⟩
end
end Kf
end
section
set_option maxRecDepth 100000
set_option maxHeartbeats 4000000
/-! KfM2: _law_above walked. -/
namespace Kf
open PySem L2

section
variable {X : Cx}
/-- for x in a list that stands for good -/
theorem r1_lst {ds : List D} {body : List Stmt} {nm cn : Str} {np cp fpos : Pos} {A : Gh → L2.St → Hp → Prop} (c i : Nat) (Inv : Nat → Gh → L2.St → Hp → Prop) (h0 : ∀ g σ H, A g σ H → Inv 0 g σ H)
    (hc0 : ∀ g σ H, A g σ H → ∃ v, σ[c]? = some (some v) ∧ Rp X.K g.S v (.lst ds)) (hS : ∀ k g σ H, Inv k g σ H → Same g.S H)
    (hb : ∀ k d, ds[k]? = some d → RS X body (fun g σ H => ∃ σ0 v, Inv k g σ0 H ∧ Rp X.K g.S v d ∧ σ = σ0.set i (some v)) (Inv (k + 1))) (hp : PassesOwn (model X.prog X.w) X.A X.env X.xe)
    (hN : X.N.Nodup) (hi : X.N[i]? = some nm := by rfl) (hci : X.N[c]? = some cn := by rfl) (hx : Loc X.env.scope nm := by first | exact .inl rfl | exact .inr rfl) (hv : Vis X.env.scope cn := by first | exact Or.inl rfl | exact Or.inr (Or.inl rfl) | exact Or.inr (Or.inr rfl))
    (hf : X.fn nm = true ∨ X.env.scope.names.lookup nm = some .local := by first | exact .inl rfl | exact .inr rfl) (h1 : (cn == ("__debug__" : Str)) = false := by decide) (h2 : (cn == ("__classdict__" : Str)) = false := by decide) (hcalm : X.calm = true := by rfl) :
    R1 X (.For (.Name nm np) (.Name cn cp) body [] fpos) A (Inv ds.length) := by
  have hbT : PSs X body (fun D σ H => ∃ k d, ds[k]? = some d ∧ ∃ g, (∃ σ0 v, Inv k g σ0 H ∧ Rp X.K g.S v d ∧ σ = σ0.set i (some v)) ∧ ∀ σ' H', Inv (k + 1) g σ' H' → D.nx σ' H') := ⟨fun pins s σ H D I ⟨k, d, hk, q⟩ => (hb k d hk).run pins s σ H D I q⟩
  refine PS.imp (ps_for hp hcalm (pi_list (pe_var hci hv h1 h2)) (pg_name hN hi hx hf) hbT) fun D σ H ⟨g, a, q⟩ => ?_
  obtain ⟨v, hvc, rv⟩ := hc0 g σ H a
  have hI0 := h0 g σ H a
  cases rv with
  | lst g1 g2 =>
    rename_i ad xs
    have sq : ∀ {H'}, Same g.S H' → SqL X.K H' ad xs := fun z => rdq (same_rd z g1)
    refine ⟨_, hvc, ad, rfl, ⟨_, sq (hS _ _ _ _ hI0)⟩, fun j m σ1 H1 => m = ds.length - j ∧ j ≤ ds.length ∧ Inv j g σ1 H1, ⟨ds.length, by simp, Nat.zero_le _, hI0⟩, ?_⟩
    rintro j m σ1 H1 ⟨rfl, hj, hI⟩
    by_cases hlt : j < ds.length
    · obtain ⟨u, hu, ru⟩ := g2.get (List.getElem?_eq_getElem hlt)
      refine .inr ⟨⟨xs, u, sq (hS _ _ _ _ hI), hu⟩, fun σ' H' => j + 1 ≤ ds.length ∧ Inv (j + 1) g σ' H', fun σ' H' ⟨z1, z2⟩ => ⟨ds.length - (j + 1), by omega, rfl, z1, z2⟩, fun x H' y => ?_⟩
      obtain ⟨rfl, hy⟩ := y
      have e := hy xs (sq (hS _ _ _ _ hI))
      rw [hu] at e
      cases e
      exact ⟨j, _, List.getElem?_eq_getElem hlt, g, ⟨σ1, u, hI, ru, rfl⟩, fun σ' H' z => ⟨hlt, z⟩⟩
    · have ej : j = ds.length := by omega
      subst ej
      exact .inl ⟨⟨xs, sq (hS _ _ _ _ hI), by rw [g2.length]; exact Nat.le_refl _⟩, q σ1 H1 hI⟩
/-- rows[a][b] = True -/
theorem r1_store {n : Nat} {e1 e2 : Expr} {st : Stmt} {t1 t2 : TE} {A B : Gh → L2.St → Hp → Prop} {rn : Str} {rp : Pos} (ia ib : Gh → L2.St → Hp → Nat) (h1 : PE X e1 t1) (h2 : PE X e2 t2) (hr : PE X (.Name rn rp) (tVar 2))
    (ht1 : ∀ g σ H, A g σ H → ∀ Q : VK, Q (.int (ia g σ H : Nat)) H → t1 σ H Q) (ht2 : ∀ g σ H, A g σ H → ∀ Q : VK, Q (.int (ib g σ H : Nat)) H → t2 σ H Q)
    (hm : ∀ g σ H, A g σ H → ∃ m R as, σ[2]? = some (some (.ref R)) ∧ Mt n g R as m H ∧ ia g σ H < n ∧ ib g σ H < n ∧ ∀ H', Mt n g R as (fun i j => m i j || (i == ia g σ H && j == ib g σ H)) H' → B g σ H')
    (hpe : ∀ {t0 to ti : TE}, PE X (.Name rn rp) t0 → PE X e1 to → PE X e2 ti → PS X st (tAsg (tC (.bl true)) (gSub (tOp (rIxL X.K) t0 to) ti rSetL))) : R1 X st A B :=
  PS.imp (hpe hr h1 h2) fun D σ H ⟨g, a, q⟩ => by
    obtain ⟨m, R, as, hR, M, ha, hb, k⟩ := hm g σ H a
    refine ⟨_, hR, ht1 g σ H a _ ?_⟩
    obtain ⟨x, hx⟩ : ∃ x, as[ia g σ H]? = some x := ⟨_, List.getElem?_eq_getElem (by rw [M.ln]; exact ha)⟩
    refine ⟨R, as.map V.ref, (ia g σ H : Nat), .ref x, rfl, rfl, SqL.of M.hR, atI_nat (by rw [List.getElem?_map, hx]; rfl), ht2 g σ H a _ ?_⟩
    refine ⟨_, rowV n (m (ia g σ H)), (ib g σ H : Nat), ib g σ H, rfl, rfl, M.rw_ _ _ hx, ?_, q _ _ (k _ (M.put hx))⟩
    unfold ixN
    rw [if_pos (by omega), if_pos (by rw [rowV_len]; omega), Int.toNat_natCast]
/-- rows[a][b], looked at -/
theorem rd_at {n : Nat} {g : Gh} {R : Addr} {as : List Addr} {m : Nat → Nat → Bool} {H : Hp} {σ : L2.St} {t1 t2 : TE} {a b : Nat} {Q : VK} (M : Mt n g R as m H) (hR : σ[2]? = some (some (.ref R))) (ha : a < n) (hb : b < n)
    (h1 : ∀ Q : VK, Q (.int (a : Nat)) H → t1 σ H Q) (h2 : ∀ Q : VK, Q (.int (b : Nat)) H → t2 σ H Q) (q : Q (.bl (m a b)) H) : tOp (rIxL X.K) (tOp (rIxL X.K) (tVar 2) t1) t2 σ H Q := by
  obtain ⟨x, hx⟩ : ∃ x, as[a]? = some x := ⟨_, List.getElem?_eq_getElem (by rw [M.ln]; exact ha)⟩
  refine ⟨_, hR, h1 _ ⟨R, as.map V.ref, (a : Nat), .ref x, rfl, rfl, SqL.of M.hR, atI_nat (by rw [List.getElem?_map, hx]; rfl), h2 _ ?_⟩⟩
  exact ⟨_, rowV n (m a), (b : Nat), _, rfl, rfl, SqL.of (M.rw_ _ _ hx), atI_nat (rowV_at hb), q⟩
end
section
variable {P : Program} {w : World} {K : Fg} {mg : Str → Option Value} {base : Heap}
theorem base0_succ {ps : List (Nat × Nat)} {k : Nat} (hk : k < ps.length) {a c : Nat} : (base0 (ps.take k) a c || (a == ps[k].1 && c == ps[k].2)) = base0 (ps.take (k + 1)) a c := by
  rw [Bool.eq_iff_iff]
  simp only [base0, Bool.or_eq_true, Bool.and_eq_true, beq_iff_eq, decide_eq_true_eq]
  rw [List.take_succ_eq_append_getElem hk, List.mem_append, List.mem_singleton, Prod.ext_iff]
  exact or_assoc
def rowsD (n : Nat) (m : Nat → Nat → Bool) : List D := (List.range n).map fun a => .lst ((List.range n).map fun b => .bl (m a b))
def cAbove : Fp where
  pre ds := ∃ (n : Nat) (ps : List (Nat × Nat)), ds = [.int (n : Int), .lst (pairsD ps)] ∧ n ≤ 100 ∧ ∀ p ∈ ps, p.1 < n ∧ p.2 < n
  post ds b := ∃ (n : Nat) (ps : List (Nat × Nat)), ds = [.int (n : Int), .lst (pairsD ps)] ∧ b = .ow (.lst (rowsD n (warsh n ps)))
abbrev s_above : Stmt := top 49
abbrev nAbove : List Str := ["count", "pairs", "rows", "pair", "mid", "low", "high", "a", "b"]
theorem scAbove : FnScope nAbove ["count", "pairs"] (defScope s_above) := ⟨rfl, rfl, rfl, by decide +kernel, rfl, by decide +kernel, by decide +kernel⟩
theorem pvar {X : Cx} {n : Str} {pos : Pos} (i : Nat) (hN : X.N[i]? = some n := by rfl) (hv : Vis X.env.scope n := by first | exact Or.inl rfl | exact Or.inr (Or.inl rfl) | exact Or.inr (Or.inr rfl)) (h1 : (n == ("__debug__" : Str)) = false := by decide) (h2 : (n == ("__classdict__" : Str)) = false := by decide) : PE X (.Name n pos) (tVar i) := pe_var hN hv h1 h2
def scA : Scope := L2.relS { kind := .function, names := [(".0", .local), ("a", .cell), ("range", .globalImplicit), ("count", .free)], isGenerator := false, isCoroutine := false } (defScope s_above)
def St0 (n : Nat) (g : Gh) (R : Addr) (a b c d u z : Option V) : L2.St := [some (.int (n : Int)), some g.v, some (.ref R), a, b, c, d, u, z]
theorem yes_go {A B : Hp → Prop} {σ : L2.St} {H : Hp} (h : A H) : tYes σ H fun b H3 => if b = true then A H3 else B H3 := by
  unfold tYes
  exact iteT h
/-- the inner row -/
theorem inner_imp {n : Nat} {a : Nat} {σ : L2.St} {H : Hp} {Q : VK} (hn : n ≤ 1000) (h0 : σ[0]? = some (some (.int (n : Int)))) (h7 : σ[7]? = some (some (.int (a : Int)))) (h8 : σ.length = 9) (q : ∀ D, H D = none → Q (.ref D) (upd H D (.lst (rowV n fun b => a == b)))) :
    tLc (iRng1 (tCons (tVar 0) tNil)) (gName 8) tYes (tOp rEq (tVar 7) (tVar 8)) [8] σ H Q := by
  refine ⟨_, h0, (n : Int), rfl, by omega, by omega, fun D hD => ⟨fun i m H2 => m = n - i ∧ i ≤ n ∧ H2 = upd H D (.lst (rowV i fun b => a == b)), ⟨n, by simp, Nat.zero_le _, rfl⟩, ?_⟩⟩
  rintro i m H2 ⟨rfl, hi, rfl⟩
  by_cases hlt : i < n
  · refine .inr ⟨by show i < (n : Int).toNat; omega, fun H' => i + 1 ≤ n ∧ H' = upd H D (.lst (rowV (i + 1) fun b => a == b)), fun H' ⟨z1, z2⟩ => ⟨n - (i + 1), by omega, rfl, z1, z2⟩, fun x H' y => ?_⟩
    obtain ⟨rfl, rfl⟩ := y
    have ew : ∀ x, L2.wipe ((L2.wipe σ [8]).set 8 x) [8] = L2.wipe σ [8] := fun x => by
      show ((σ.set 8 none).set 8 x).set 8 none = σ.set 8 none
      rw [List.set_set, List.set_set]
    refine ⟨ew _, yes_go ?_⟩
    refine ⟨.int (a : Int), ?_, .int (i : Int), ?_, rfl, ?_⟩
    · show ((σ.set 8 none).set 8 _)[7]? = _
      rw [List.getElem?_set_ne (by decide), List.getElem?_set_ne (by decide)]
      exact h7
    · show ((σ.set 8 none).set 8 (some (V.int (0 + (i : Int)))))[8]? = _
      rw [Int.zero_add]
      exact set_at (by rw [List.length_set, h8]; decide)
    · refine ⟨_, upd_same, by rw [rowV_len]; exact Nat.lt_of_lt_of_le hlt (Nat.le_trans hn (by decide)), hlt, ?_⟩
      rw [upd_upd]
      congr 2
      unfold rowV
      rw [List.range_succ, List.map_append]
      congr 1
      show [V.bl (decide (V.int (a : Int) = V.int (i : Int)))] = [V.bl (a == i)]
      congr 2
      by_cases e : a = i
      · subst e; simp
      · have e2 : ¬ (a : Int) = (i : Int) := by omega
        have e3 : (a == i) = false := by simp [e]
        rw [e3, dec_int]
        simp [e2]
  · have ei : i = n := by omega
    subst ei
    exact .inl ⟨by show (i : Int).toNat ≤ i; omega, q D hD⟩
theorem ok_above {f : Addr} {fd : FuncData} (F : FunS K "_law_above" s_above f fd) (b : Bi mg) : FnOk P w K mg base (L2.CX P w) 1 f fd ["count", "pairs"] (spP K cAbove) := by
  refine fp_ok F scAbove (fun ds ⟨n, ps, h, _⟩ => by rw [h]; rfl) fun cdv A outer s e E ds ho ⟨n, ps, hd, hn, hps⟩ hr tk => ?_
  subst hd
  have nd := scAbove.nd
  let X := cxOf (L2.CX P w) P w K mg base nAbove "_law_above" (defScope s_above) f cdv A outer s e.H0 E
  have pw : PassesOwn (model X.prog X.w) X.A X.env X.xe := passes_of rfl
  -- the start, the first rows
  let A0 : Gh → L2.St → Hp → Prop := fun g σ H => (∃ a2 a3 a4 a5 a6 a7 a8, σ = [some (.int (n : Int)), some g.v, a2, a3, a4, a5, a6, a7, a8]) ∧ H = g.H1 ∧ Same g.S g.H1 ∧ Rp K g.S g.v (.lst (pairsD ps))
  let St : (Nat → Nat → Bool) → (Option V → Option V → Option V → Option V → Prop) → Gh → L2.St → Hp → Prop := fun m c g σ H => Same g.S g.H1 ∧ Rp K g.S g.v (.lst (pairsD ps)) ∧ ∃ R as p q r t u8 u9, σ = St0 n g R p q r t u8 u9 ∧ c p q r t ∧ Mt n g R as m H
  let any : Option V → Option V → Option V → Option V → Prop := fun _ _ _ _ => True
  have s1 : R1 X ((defBody s_above).getD 0 (.Pass ⟨0, 0, 0, 0⟩)) A0 (St (fun a b => a == b) any) := by
    refine PS.imp (ps_setLc (X := X) (i := 2) (own := [("a", 7)]) rfl nd rfl rfl rfl (pi_range1 rfl b.range (pa_cons (pvar 0) pa_nil rfl)) (blk nAbove (defScope s_above)) (fun s H C cl fp => pg_name (i := 7) nd rfl (.inr rfl)) (fun s H C cl fp => pts_nil)
      (fun s H C cl fp => pe_lc (own := [("b", 8)]) rfl nd (pi_range1 rfl b.range (pa_cons (pvar 0) pa_nil rfl)) (blk nAbove scA) (fun s H C cl fp => pg_name (i := 8) nd rfl (.inl rfl)) (fun s H C cl fp => pts_nil) (fun s H C cl fp => pe_cmpR op_eq (pvar 7) (pvar 8) (nomark _)))) fun D σ H ⟨g, ⟨⟨a2, a3, a4, a5, a6, a7, a8, hσ⟩, hH, hS, hv⟩, q⟩ => ?_
    subst hσ hH
    refine ⟨_, rfl, (n : Int), rfl, by omega, by omega, fun D hD => ⟨fun i m H2 => m = n - i ∧ i ≤ n ∧ ∃ as : List Addr, as.length = i ∧ as.Nodup ∧ D ∉ as ∧ (∀ x ∈ as, g.H1 x = none) ∧ (∀ p o, g.H1 p = some o → H2 p = some o) ∧ H2 D = some (.lst (as.map V.ref)) ∧ ∀ (a : Nat) (x : Addr), as[a]? = some x → H2 x = some (.lst (rowV n fun b => a == b)),
      ⟨n, by simp, Nat.zero_le _, [], rfl, .nil, by simp, by simp, fun p o z => by rw [upd_ne (ne_of_none z hD)]; exact z, upd_same, fun a x z => by cases z⟩, ?_⟩⟩
    rintro i m H2 ⟨rfl, hi, as, hl, hnd, hne, hfr, hkp, hDl, hrw⟩
    by_cases hlt : i < n
    · refine .inr ⟨by show i < (n : Int).toNat; omega, fun H2 => i + 1 ≤ n ∧ ∃ as : List Addr, as.length = i + 1 ∧ as.Nodup ∧ D ∉ as ∧ (∀ x ∈ as, g.H1 x = none) ∧ (∀ p o, g.H1 p = some o → H2 p = some o) ∧ H2 D = some (.lst (as.map V.ref)) ∧ ∀ (a : Nat) (x : Addr), as[a]? = some x → H2 x = some (.lst (rowV n fun b => a == b)),
        fun H' ⟨z1, z2⟩ => ⟨n - (i + 1), by omega, rfl, z1, z2⟩, fun x H' y => ?_⟩
      obtain ⟨rfl, rfl⟩ := y
      refine ⟨rfl, yes_go (inner_imp (a := i) (by omega) rfl (by rw [Int.zero_add]; rfl) rfl fun C hC => ?_)⟩
      have hDC : D ≠ C := fun z => by rw [← z, hDl] at hC; cases hC
      have hCn : C ∉ as := fun z => by
        obtain ⟨j, hj⟩ := List.getElem?_of_mem z
        rw [hrw j C hj] at hC
        cases hC
      have h1C : g.H1 C = none := by
        cases z : g.H1 C with
        | none => rfl
        | some o => rw [hkp C o z] at hC; cases hC
      have hD1 : g.H1 D = none := hD
      refine ⟨as.map V.ref, by rw [upd_ne hDC]; exact hDl, by rw [List.length_map, hl]; exact Nat.lt_of_lt_of_le hlt (by exact Nat.le_trans hn (by decide)), hlt, as ++ [C], by rw [List.length_append, hl]; rfl, ?_, ?_, ?_, ?_, ?_, ?_⟩
      · exact List.nodup_append.mpr ⟨hnd, by simp, fun a ha c hc q => hCn (by rw [← List.mem_singleton.mp hc, ← q]; exact ha)⟩
      · rw [List.mem_append, List.mem_singleton]
        exact fun z => z.elim hne hDC
      · intro x hx
        rcases List.mem_append.mp hx with z | z
        · exact hfr x z
        · rw [List.mem_singleton.mp z]; exact h1C
      · intro p o z
        rw [upd_ne (ne_of_none z hD1), upd_ne (ne_of_none z h1C)]
        exact hkp p o z
      · rw [upd_same, List.map_append]
        rfl
      · intro a x z
        have hxD : x ≠ D := fun q => by
          have hm := List.mem_of_getElem? z
          rw [q] at hm
          rcases List.mem_append.mp hm with y | y
          · exact hne y
          · exact hDC (List.mem_singleton.mp y)
        rw [upd_ne hxD]
        by_cases ha : a < as.length
        · rw [List.getElem?_append_left ha] at z
          have hxC : x ≠ C := fun q => hCn (q ▸ List.mem_of_getElem? z)
          rw [upd_ne hxC]
          exact hrw a x z
        · rw [List.getElem?_append_right (by omega)] at z
          have ha0 : a - as.length = 0 := by
            by_cases t : a - as.length = 0
            · exact t
            · rw [List.getElem?_eq_none (by simp; omega)] at z; cases z
          rw [ha0] at z
          cases z
          have : a = i := by omega
          subst this
          rw [upd_same]
    · have ei : i = n := by omega
      subst ei
      refine .inl ⟨by show (i : Int).toNat ≤ i; omega, q _ _ ⟨hS, hv, D, as, a3, a4, a5, a6, a7, a8, rfl, trivial, hkp, hD, hfr, hnd, hne, hl, hDl, hrw⟩⟩
  -- pairs
  have iv : ∀ {m : Nat → Nat → Bool} {g : Gh} {σ : L2.St} {H : Hp} {c}, St m c g σ H → σ[0]? = some (some (.int (n : Int))) := fun {m g σ H c} ⟨_, _, R, as, p, q, r, t, u8, u9, h, _⟩ => by rw [h]; rfl
  have iS : ∀ {m : Nat → Nat → Bool} {g : Gh} {σ : L2.St} {H : Hp} {c}, St m c g σ H → Same g.S H := fun {m g σ H c} ⟨h1, _, R, as, p, q, r, t, u8, u9, h, _, M⟩ a o z => M.kp a o (h1 a o z)
  have s2 : R1 X ((defBody s_above).getD 1 (.Pass ⟨0, 0, 0, 0⟩)) (St (fun a b => a == b) any) (St (base0 (ps.take (pairsD ps).length)) any) := by
    refine r1_lst (ds := pairsD ps) 1 3 (fun k => St (base0 (ps.take k)) any) ?_ ?_ ?_ ?_ pw nd
    · rintro g σ H ⟨h1, h2, R, as, p, q, r, t, u8, u9, h3, h4, M⟩
      exact ⟨h1, h2, R, as, p, q, r, t, u8, u9, h3, h4, M.congr fun a b _ _ => by unfold base0; simp⟩
    · rintro g σ H ⟨h1, h2, R, as, p, q, r, t, u8, u9, rfl, h4, M⟩
      exact ⟨g.v, rfl, h2⟩
    · intro k g σ H h
      exact iS h
    · intro k d hk
      have hk' : k < ps.length := by
        have := (List.getElem?_eq_some_iff.mp hk).1
        rwa [pairsD_len] at this
      have hd : d = pairD ps[k] := by
        unfold pairsD at hk
        rw [List.getElem?_map, List.getElem?_eq_getElem hk'] at hk
        exact (Option.some.inj hk).symm
      have hin := hps ps[k] (List.getElem_mem hk')
      subst hd
      have tp : ∀ {Aq : Gh → L2.St → Hp → Prop} {g : Gh} {σ : L2.St} {H : Hp} (h : ∃ σ0 v, St (base0 (ps.take k)) any g σ0 H ∧ Rp X.K g.S v (pairD ps[k]) ∧ σ = σ0.set 3 (some v)), (∀ Q : VK, Q (.int (ps[k].1 : Nat)) H → tOp (rIxT X.K) (tVar 3) (tC (.int 0)) σ H Q) ∧ (∀ Q : VK, Q (.int (ps[k].2 : Nat)) H → tOp (rIxT X.K) (tVar 3) (tC (.int 1)) σ H Q) := by
        rintro Aq g σ H ⟨σ0, v, hI, rv, rfl⟩
        have sS := iS hI
        obtain ⟨h1, h2, R, as, p, q, r, t, u8, u9, rfl, h4, M⟩ := hI
        cases rv with
        | tup g1 g2 =>
          cases g2 with
          | cons r1 g2 =>
            cases g2 with
            | cons r2 g2 =>
              cases g2
              cases r1
              cases r2
              exact ⟨fun Q z => ⟨_, rfl, _, _, 0, _, rfl, rfl, same_sqT sS g1, rfl, z⟩, fun Q z => ⟨_, rfl, _, _, 1, _, rfl, rfl, same_sqT sS g1, rfl, z⟩⟩
      refine rs_one (r1_store (n := n) (fun _ _ _ => ps[k].1) (fun _ _ _ => ps[k].2) (pe_ix ix_tup (pvar 3) pe_int (fun _ _ => rfl)) (pe_ix ix_tup (pvar 3) pe_int (fun _ _ => rfl)) (pvar 2) (fun g σ H h Q z => (tp (Aq := fun _ _ _ => True) h).1 Q z) (fun g σ H h Q z => (tp (Aq := fun _ _ _ => True) h).2 Q z) ?_ (fun a b c => ps_asg pe_bl (pg_sub (pe_ix ix_list a b (fun _ _ => rfl)) c set_list)))
      rintro g σ H ⟨σ0, v, ⟨h1, h2, R, as, p, q, r, t, u8, u9, rfl, h4, M⟩, rv, rfl⟩
      refine ⟨_, R, as, rfl, M, hin.1, hin.2, fun H' M' => ⟨h1, h2, R, as, some v, q, r, t, u8, u9, rfl, trivial, M'.congr fun a c _ _ => ?_⟩⟩
      exact base0_succ hk'
  -- the three loops
  have s3 : R1 X ((defBody s_above).getD 2 (.Pass ⟨0, 0, 0, 0⟩)) (St (base0 ps) any) (St (warsh n ps) any) := by
    let mk := WM (base0 ps)
    refine r1_rng (n := n) (c := 0) 4 (fun k => St (mk k) any) (by omega) (fun g σ H h => h) (fun g σ H h => iv h) ?_ pw b.range nd rfl
    intro k hk
    refine rs_one ?_
    refine (PS.imp (r1_rng (n := n) (c := 0) (A := fun g σ H => ∃ σ0, St (mk k) any g σ0 H ∧ σ = σ0.set 4 (some (.int (k : Int)))) 5 (fun l => St (cur (mk k) k l 0) (fun _ q _ _ => q = some (.int (k : Int)))) (by omega) ?_ ?_ ?_ pw b.range nd rfl) fun D σ H ⟨g, a, q⟩ => ⟨g, a, fun σ' H' ⟨h1, h2, R, as, p, q', r, t, u8, u9, h3, h4, M⟩ => q σ' H' ⟨h1, h2, R, as, p, q', r, t, u8, u9, h3, trivial, M.congr fun a c ha hc => ?_⟩⟩)
    · rintro g σ H ⟨σ0, ⟨h1, h2, R, as, p, q, r, t, u8, u9, rfl, _, M⟩, rfl⟩
      exact ⟨h1, h2, R, as, p, _, r, t, u8, u9, rfl, rfl, M.congr fun a c _ _ => by unfold cur; simp⟩
    · rintro g σ H ⟨σ0, ⟨h1, h2, R, as, p, q, r, t, u8, u9, rfl, _, M⟩, rfl⟩
      rfl
    · intro l hl
      refine rs_one (r1_if (fun _ _ _ => mk k l k) (pt_val (pe_ix ix_list (pe_ix ix_list (pvar 2) (pvar 5) (fun _ _ => rfl)) (pvar 4) (fun _ _ => rfl))) ?_ ?_ ?_)
      · rintro g σ H ⟨σ0, ⟨h1, h2, R, as, p, q, r, t, u8, u9, rfl, rfl, M⟩, rfl⟩ Q z
        refine rd_at (X := X) M rfl hl hk (fun Q z => ⟨_, rfl, z⟩) (fun Q z => ⟨_, rfl, z⟩) ⟨_, rfl, ?_⟩
        rw [cur_col]
        exact z
      · refine rs_one (PS.imp (r1_rng (n := n) (c := 0) (A := fun g σ H => (∃ σ0, St (cur (mk k) k l 0) (fun _ q _ _ => q = some (.int (k : Int))) g σ0 H ∧ σ = σ0.set 5 (some (.int (l : Int)))) ∧ mk k l k = true) 6 (fun h g σ H => St (cur (mk k) k l h) (fun _ q r _ => q = some (.int (k : Int)) ∧ r = some (.int (l : Int))) g σ H ∧ mk k l k = true) (by omega) ?_ ?_ ?_ pw b.range nd rfl) fun D σ H ⟨g, a, q⟩ => ⟨g, a, fun σ' H' ⟨⟨h1, h2, R, as, p, q', r, t, u8, u9, h3, h4, M⟩, _⟩ => q σ' H' ⟨h1, h2, R, as, p, q', r, t, u8, u9, h3, h4.1, M.congr fun a c ha hc => ?_⟩⟩)
        · rintro g σ H ⟨⟨σ0, ⟨h1, h2, R, as, p, q, r, t, u8, u9, rfl, rfl, M⟩, rfl⟩, ht⟩
          exact ⟨⟨h1, h2, R, as, p, _, _, t, u8, u9, rfl, ⟨rfl, rfl⟩, M⟩, ht⟩
        · rintro g σ H ⟨⟨σ0, ⟨h1, h2, R, as, p, q, r, t, u8, u9, rfl, rfl, M⟩, rfl⟩, ht⟩
          rfl
        · intro h hh
          refine rs_one (r1_if (fun _ _ _ => mk k k h) (pt_val (pe_ix ix_list (pe_ix ix_list (pvar 2) (pvar 4) (fun _ _ => rfl)) (pvar 6) (fun _ _ => rfl))) ?_ ?_ ?_)
          · rintro g σ H ⟨σ0, ⟨⟨h1, h2, R, as, p, q, r, t, u8, u9, rfl, ⟨rfl, rfl⟩, M⟩, ht⟩, rfl⟩ Q z
            refine rd_at (X := X) M rfl hk hh (fun Q z => ⟨_, rfl, z⟩) (fun Q z => ⟨_, rfl, z⟩) ⟨_, rfl, ?_⟩
            rw [cur_row]
            exact z
          · refine rs_one (r1_store (n := n) (fun _ _ _ => l) (fun _ _ _ => h) (pvar 5) (pvar 6) (pvar 2) ?_ ?_ ?_ (fun a b c => ps_asg pe_bl (pg_sub (pe_ix ix_list a b (fun _ _ => rfl)) c set_list)))
            · rintro g σ H ⟨⟨σ0, ⟨⟨h1, h2, R, as, p, q, r, t, u8, u9, rfl, ⟨rfl, rfl⟩, M⟩, ht⟩, rfl⟩, _⟩ Q z
              exact ⟨_, rfl, z⟩
            · rintro g σ H ⟨⟨σ0, ⟨⟨h1, h2, R, as, p, q, r, t, u8, u9, rfl, ⟨rfl, rfl⟩, M⟩, ht⟩, rfl⟩, _⟩ Q z
              exact ⟨_, rfl, z⟩
            · rintro g σ H ⟨⟨σ0, ⟨⟨h1, h2, R, as, p, q, r, t, u8, u9, rfl, ⟨rfl, rfl⟩, M⟩, ht⟩, rfl⟩, hkh⟩
              refine ⟨_, R, as, rfl, M, hl, hh, fun H' M' => ⟨⟨h1, h2, R, as, p, _, _, _, u8, u9, rfl, ⟨rfl, rfl⟩, M'.congr fun a c _ _ => ?_⟩, ht⟩⟩
              unfold cur
              by_cases e1 : a = l
              · subst e1
                by_cases e2 : c = h
                · subst e2; simp [ht, hkh]
                · have : (c < h + 1) ↔ c < h := by omega
                  simp [e2, this]
              · simp [e1]
          · rintro g σ H ⟨σ0, ⟨⟨h1, h2, R, as, p, q, r, t, u8, u9, rfl, ⟨rfl, rfl⟩, M⟩, ht⟩, rfl⟩ hkh
            refine ⟨⟨h1, h2, R, as, p, _, _, _, u8, u9, rfl, ⟨rfl, rfl⟩, M.congr fun a c _ _ => ?_⟩, ht⟩
            unfold cur
            by_cases e1 : a = l
            · subst e1
              by_cases e2 : c = h
              · subst e2; simp [hkh]
              · have : (c < h + 1) ↔ c < h := by omega
                simp [this]
            · simp [e1]
        · unfold cur
          by_cases e1 : a = l
          · subst e1
            simp [hc]
          · have : (a < l + 1) ↔ a < l := by omega
            simp [e1, this]
      · rintro g σ H ⟨σ0, ⟨h1, h2, R, as, p, q, r, t, u8, u9, rfl, rfl, M⟩, rfl⟩ hlk
        refine ⟨h1, h2, R, as, p, _, _, t, u8, u9, rfl, rfl, M.congr fun a c ha hc => ?_⟩
        unfold cur
        by_cases e1 : a = l
        · subst e1
          simp [hlk]
        · have : (a < l + 1) ↔ a < l := by omega
          simp [e1, this]
    · show cur (mk k) k n 0 a c = WM (base0 ps) (k + 1) a c
      unfold cur
      simp [ha, mk, WM]
  -- all together
  refine PSs.imp (pss_cons s1 (pss_cons s2 (pss_cons s3 (pss_cons (ps_ret (pvar 2)) pss_nil)))) fun D σ H ⟨S, w, nx, bk, ct, rt⟩ => ?_
  have hsig : ∃ v a2 a3 a4 a5 a6 a7 a8, σ = [some (.int (n : Int)), some v, a2, a3, a4, a5, a6, a7, a8] ∧ Rp K S v (.lst (pairsD ps)) := by
    obtain ⟨v0, h0, r0⟩ := w.sl.at_ 0 (.st (.int (n : Int))) rfl
    obtain ⟨v1, h1, r1⟩ := w.sl.at_ 1 (.st (.lst (pairsD ps))) rfl
    have hl : σ.length = 9 := w.sl.len
    cases r0
    match σ, hl, h0, h1 with
    | [b0, b1, b2, b3, b4, b5, b6, b7, b8], _, h0, h1 =>
      cases h0
      cases h1
      exact ⟨v1, b2, b3, b4, b5, b6, b7, b8, rfl, r1⟩
  obtain ⟨v, a2, a3, a4, a5, a6, a7, a8, rfl, rv⟩ := hsig
  refine ⟨⟨S, H, v⟩, ⟨⟨a2, a3, a4, a5, a6, a7, a8, rfl⟩, rfl, w.nx.sh, rv⟩, fun σ1 H1 h => ⟨⟨S, H, v⟩, h, fun σ2 H2 h => ⟨⟨S, H, v⟩, ?_, fun σ3 H3 ⟨h1, h2, R, as, p, q, r, t, u8, u9, h3, h4, M⟩ => ?_⟩⟩⟩
  · rw [pairsD_len, List.take_length] at h
    exact h
  · subst h3
    refine ⟨_, rfl, ?_⟩
    -- the world behind
    have M1 : ∀ p o, H p = some o → H3 p = some o := M.kp
    let S' : Hp := fun p => if p ∈ as then H3 p else S p
    have hSas : ∀ x ∈ as, S x = none := fun x hx => w.nx.sh.free (M.fa x hx)
    have ss : Same S S' := fun a o z => by
      show (if a ∈ as then H3 a else S a) = some o
      by_cases ha : a ∈ as
      · rw [hSas a ha] at z; cases z
      · rw [if_neg ha]; exact z
    have sh : Same S' H3 := fun a o z => by
      have z' : (if a ∈ as then H3 a else S a) = some o := z
      by_cases ha : a ∈ as
      · rw [if_pos ha] at z'; exact z'
      · rw [if_neg ha] at z'; exact M1 a o (w.nx.sh a o z')
    have n' : Nx e S' H3 := by
      refine ⟨w.nx.ss.trans ss, sh, fun a o z y => M1 a o (w.nx.hh a o z y), fun a z y => ?_, fun a z => ?_⟩
      · have := w.nx.al a z
        cases q : H a with
        | none => exact this q
        | some o => rw [M1 a o q] at y; cases y
      · show (if a ∈ as then H3 a else S a) = _
        by_cases ha : a ∈ as
        · exact absurd (M.fa a ha) (w.nx.al a z)
        · rw [if_neg ha]; exact w.nx.old a z
    have hR0 : S' R = none := by
      show (if R ∈ as then H3 R else S R) = none
      rw [if_neg M.ne]
      exact w.nx.sh.free M.fR
    have own : Own K S' H3 R (.lst (rowsD n (warsh n ps))) := by
      refine ⟨as.map V.ref, M.hR, ?_⟩
      have key : ∀ (l : List Addr) (i0 : Nat), (∀ (i : Nat) (x : Addr), l[i]? = some x → as[i0 + i]? = some x) → RpL K S' (l.map V.ref) ((List.range' i0 l.length).map fun a => .lst ((List.range n).map fun c => .bl (warsh n ps a c))) := by
        intro l
        induction l with
        | nil => intro i0 _; exact .nil
        | cons x l ih =>
          intro i0 hl
          have hx : as[i0]? = some x := hl 0 x rfl
          rw [List.length_cons, List.range'_succ, List.map_cons, List.map_cons]
          refine .cons (.lst (.inl (show (if x ∈ as then H3 x else S x) = _ by rw [if_pos (List.mem_of_getElem? hx)]; exact M.rw_ _ _ hx)) ?_) (ih (i0 + 1) fun i y hy => by rw [show i0 + 1 + i = i0 + (i + 1) by omega]; exact hl (i + 1) y hy)
          have kb : ∀ l : List Nat, RpL K S' (l.map fun c => V.bl (warsh n ps i0 c)) (l.map fun c => Kf.D.bl (warsh n ps i0 c)) := by
            intro l
            induction l with
            | nil => exact .nil
            | cons c l ih => exact .cons (.bl _) ih
          exact kb _
      have := key as 0 fun i x h => by rw [Nat.zero_add]; exact h
      rw [M.ln] at this
      unfold rowsD
      rw [List.range_eq_range'] at this ⊢
      exact this
    refine rt S' (List.replicate 9 none) H3 (.ref R) (.ow (.lst (rowsD n (warsh n ps)))) (List.replicate 9 none) ⟨n, ps, rfl, rfl⟩ ss ⟨n', ⟨rfl, fun i b z => ?_, fun i j o o' a z => ?_, fun a z => ?_⟩⟩ ⟨R, rfl, hR0, own, w.nx.fresh M.fR⟩
    · rw [List.getElem?_replicate] at z
      split at z <;> cases z
    · rw [List.getElem?_replicate] at z
      split at z <;> cases z
    · rw [ho] at z; cases z
end
end Kf
end
section
set_option maxRecDepth 100000
set_option maxHeartbeats 4000000
/-! KfN1: assignments, maps. -/
namespace Kf
open PySem L2

def allRows (k : Nat) : Nat → List (List Nat)
  | 0 => [[]]
  | u + 1 => (allRows k u).flatMap fun r => (List.range k).map fun x => r ++ [x]
def rowD (r : List Nat) : D := .lst (natsD r)
def rowLL (rs : List (List Nat)) : List D := rs.map rowD
theorem rowLL_app (a b : List (List Nat)) : rowLL (a ++ b) = rowLL a ++ rowLL b := List.map_append
theorem rowLL_len (a : List (List Nat)) : (rowLL a).length = a.length := List.length_map _
theorem allRows_len (k : Nat) : ∀ u, (allRows k u).length = k ^ u
  | 0 => rfl
  | u + 1 => by
    show ((allRows k u).flatMap fun r => (List.range k).map fun x => r ++ [x]).length = _
    rw [List.length_flatMap]
    simp only [List.length_map, List.length_range]
    rw [List.map_const', List.sum_replicate_nat, allRows_len k u, Nat.pow_succ]
theorem allRows_mem {k : Nat} : ∀ {u : Nat} {r : List Nat}, r ∈ allRows k u ↔ r.length = u ∧ ∀ x ∈ r, x < k
  | 0, r => by
    show r ∈ [[]] ↔ _
    rw [List.mem_singleton]
    constructor
    · rintro rfl; exact ⟨rfl, fun x hx => by cases hx⟩
    · rintro ⟨h, _⟩; exact List.length_eq_zero_iff.mp h
  | u + 1, r => by
    show r ∈ (allRows k u).flatMap _ ↔ _
    rw [List.mem_flatMap]
    constructor
    · rintro ⟨q, hq, hr⟩
      obtain ⟨x, hx, rfl⟩ := List.mem_map.mp hr
      obtain ⟨h1, h2⟩ := allRows_mem.mp hq
      refine ⟨by rw [List.length_append, h1]; rfl, fun y hy => ?_⟩
      rcases List.mem_append.mp hy with z | z
      · exact h2 y z
      · rw [List.mem_singleton.mp z]; exact List.mem_range.mp hx
    · rintro ⟨h1, h2⟩
      have hne : r ≠ [] := fun z => by rw [z] at h1; cases h1
      refine ⟨r.dropLast, allRows_mem.mpr ⟨by rw [List.length_dropLast, h1]; rfl, fun x hx => h2 x ((List.dropLast_sublist r).subset hx)⟩, List.mem_map.mpr ⟨r.getLast hne, List.mem_range.mpr (h2 _ (List.getLast_mem hne)), List.dropLast_concat_getLast hne⟩⟩
def keeps (n : Nat) (R T : Nat → Nat → Bool) (row : List Nat) : Bool := (List.range n).all fun a => (List.range n).all fun b => !(R a b && !T (row.getD a 0) (row.getD b 0))
theorem keeps_iff {n : Nat} {R T : Nat → Nat → Bool} {row : List Nat} : keeps n R T row = true ↔ ∀ a b, a < n → b < n → R a b = true → T (row.getD a 0) (row.getD b 0) = true := by
  unfold keeps
  simp only [List.all_eq_true, List.mem_range]
  constructor
  · intro h a b ha hb hR
    have := h a ha b hb
    rw [hR] at this
    simpa using this
  · intro h a ha b hb
    cases hR : R a b with
    | false => rfl
    | true => rw [h a b ha hb hR]; rfl
section
variable {P : Program} {w : World} {K : Fg} {mg : Str → Option Value} {base : Heap}
def cAsg : Fp where
  pre ds := ∃ k u : Nat, ds = [.int (k : Int), .int (u : Int)] ∧ 1 ≤ k ∧ k ^ u ≤ 5000 ∧ k ≤ 1000 ∧ u ≤ 1000
  post ds b := ∃ k u : Nat, ds = [.int (k : Int), .int (u : Int)] ∧ b = .st (.lst (rowLL (allRows k u)))
abbrev nAsg : List Str := ["kinds", "unknowns", "rows", "k", "grown", "row", "kind"]
/-! ### maps -/
theorem rowsD_len {n : Nat} {R : Nat → Nat → Bool} : (rowsD n R).length = n := by unfold rowsD; rw [List.length_map, List.length_range]
theorem rowsD_at {n : Nat} {R : Nat → Nat → Bool} {a : Nat} (h : a < n) : (rowsD n R)[a]? = some (.lst ((List.range n).map fun b => .bl (R a b))) := by
  unfold rowsD
  rw [List.getElem?_map, List.getElem?_range h]
  rfl
theorem rowB_at {n : Nat} {r : Nat → Bool} {b : Nat} (h : b < n) : ((List.range n).map fun b => D.bl (r b))[b]? = some (.bl (r b)) := by
  rw [List.getElem?_map, List.getElem?_range h]
  rfl
def goodMaps (n m : Nat) (R T : Nat → Nat → Bool) : List (List Nat) := (allRows m n).filter (keeps n R T)
def cMaps : Fp where
  pre ds := ∃ (n m : Nat) (R T : Nat → Nat → Bool), ds = [.lst (rowsD n R), .lst (rowsD m T)] ∧ 1 ≤ m ∧ m ^ n ≤ 5000 ∧ m ≤ 1000 ∧ n ≤ 1000
  post ds b := ∃ (n m : Nat) (R T : Nat → Nat → Bool), ds = [.lst (rowsD n R), .lst (rowsD m T)] ∧ b = .ow (.lst (rowLL (goodMaps n m R T)))
theorem rowB_inj {n : Nat} {r q : Nat → Bool} (h : (List.range n).map (fun b => D.bl (r b)) = (List.range n).map (fun b => D.bl (q b))) : ∀ b, b < n → r b = q b := fun b hb => by
  have e := congrArg (fun l => l[b]?) h
  simp only [rowB_at hb] at e
  injection e with e
  injection e with e
theorem rowsD_inj {n m : Nat} {R T : Nat → Nat → Bool} (h : rowsD n R = rowsD m T) : n = m ∧ ∀ a b, a < n → b < n → R a b = T a b := by
  have hl : n = m := by rw [← rowsD_len (n := n) (R := R), h, rowsD_len]
  subst hl
  refine ⟨rfl, fun a b ha hb => ?_⟩
  have e := congrArg (fun l => l[a]?) h
  simp only [rowsD_at ha] at e
  injection e with e
  injection e with e
  exact rowB_inj e b hb
theorem rowsD_congr {n : Nat} {R T : Nat → Nat → Bool} (h : ∀ a b, a < n → b < n → R a b = T a b) : rowsD n R = rowsD n T :=
  List.map_congr_left fun a ha => congrArg D.lst (List.map_congr_left fun b hb => by rw [h a b (List.mem_range.mp ha) (List.mem_range.mp hb)])
theorem good_congr {n m : Nat} {R T R' T' : Nat → Nat → Bool} (h : ∀ a b, a < n → b < n → R a b = R' a b) (h2 : ∀ a b, a < m → b < m → T a b = T' a b) : goodMaps n m R T = goodMaps n m R' T' := by
  refine List.filter_congr fun r hr => ?_
  obtain ⟨h3, h4⟩ := allRows_mem.mp hr
  have key : ∀ a, a < n → r.getD a 0 < m := fun a ha => by
    rw [List.getD_eq_getElem?_getD, List.getElem?_eq_getElem (by omega)]
    exact h4 _ (List.getElem_mem _)
  rw [Bool.eq_iff_iff, keeps_iff, keeps_iff]
  constructor
  · intro q a b ha hb z
    rw [← h2 _ _ (key a ha) (key b hb)]
    exact q a b ha hb (by rw [h a b ha hb]; exact z)
  · intro q a b ha hb z
    rw [h2 _ _ (key a ha) (key b hb)]
    exact q a b ha hb (by rw [← h a b ha hb]; exact z)
abbrev nMaps : List Str := ["here", "there", "found", "row", "lost", "low", "high"]
end
end Kf
end
section
set_option maxRecDepth 100000
set_option maxHeartbeats 4000000
/-! KfN2: same. -/
namespace Kf
open PySem L2

/-- plain data of depth at most k -/
inductive Pl : Nat → D → Prop
  | non (k : Nat) : Pl k .non
  | bl (k : Nat) (b : Bool) : Pl k (.bl b)
  | int (k : Nat) (i : Int) : Pl k (.int i)
  | str (k : Nat) (z : Str) : Pl k (.str z)
  | lst {k : Nat} {l : List D} : (∀ d ∈ l, Pl k d) → l.length ≤ 10000 → Pl (k + 1) (.lst l)
  | tup {k : Nat} {l : List D} : (∀ d ∈ l, Pl k d) → l.length ≤ 10000 → Pl (k + 1) (.tup l)
theorem Pl.up {k : Nat} {d : D} (h : Pl k d) : ∀ {m}, k ≤ m → Pl m d := by
  induction h with
  | non k => exact fun _ => .non _
  | bl k b => exact fun _ => .bl _ _
  | int k b => exact fun _ => .int _ _
  | str k b => exact fun _ => .str _ _
  | lst h l ih =>
    intro m hm
    obtain ⟨m, rfl⟩ : ∃ j, m = j + 1 := ⟨m - 1, by omega⟩
    exact .lst (fun d hd => ih d hd (by omega)) l
  | tup h l ih =>
    intro m hm
    obtain ⟨m, rfl⟩ : ∃ j, m = j + 1 := ⟨m - 1, by omega⟩
    exact .tup (fun d hd => ih d hd (by omega)) l
theorem pl_strs {ns : List Str} (h : ns.length ≤ 10000) : Pl 1 (.lst (ns.map .str)) := .lst (fun d hd => by obtain ⟨z, _, rfl⟩ := List.mem_map.mp hd; exact .str _ _) (by rw [List.length_map]; exact h)
theorem pl_strsT {ns : List Str} (h : ns.length ≤ 10000) : Pl 1 (.tup (ns.map .str)) := .tup (fun d hd => by obtain ⟨z, _, rfl⟩ := List.mem_map.mp hd; exact .str _ _) (by rw [List.length_map]; exact h)
theorem kt_bool_bool : kitB "bool" "bool" = some true := by decide +kernel
theorem kt_bool_int : kitB "bool" "int" = some true := by decide +kernel
theorem kt_bool_str : kitB "bool" "str" = some false := by decide +kernel
theorem kt_bool_tuple : kitB "bool" "tuple" = some false := by decide +kernel
theorem kt_bool_list : kitB "bool" "list" = some false := by decide +kernel
theorem kt_int_bool : kitB "int" "bool" = some false := by decide +kernel
theorem kt_int_int : kitB "int" "int" = some true := by decide +kernel
theorem kt_int_str : kitB "int" "str" = some false := by decide +kernel
theorem kt_int_tuple : kitB "int" "tuple" = some false := by decide +kernel
theorem kt_int_list : kitB "int" "list" = some false := by decide +kernel
theorem kt_str_bool : kitB "str" "bool" = some false := by decide +kernel
theorem kt_str_int : kitB "str" "int" = some false := by decide +kernel
theorem kt_str_str : kitB "str" "str" = some true := by decide +kernel
theorem kt_str_tuple : kitB "str" "tuple" = some false := by decide +kernel
theorem kt_str_list : kitB "str" "list" = some false := by decide +kernel
theorem kt_list_bool : kitB "list" "bool" = some false := by decide +kernel
theorem kt_list_int : kitB "list" "int" = some false := by decide +kernel
theorem kt_list_str : kitB "list" "str" = some false := by decide +kernel
theorem kt_list_tuple : kitB "list" "tuple" = some false := by decide +kernel
theorem kt_list_list : kitB "list" "list" = some true := by decide +kernel
theorem kt_tuple_bool : kitB "tuple" "bool" = some false := by decide +kernel
theorem kt_tuple_int : kitB "tuple" "int" = some false := by decide +kernel
theorem kt_tuple_str : kitB "tuple" "str" = some false := by decide +kernel
theorem kt_tuple_tuple : kitB "tuple" "tuple" = some true := by decide +kernel
theorem kt_tuple_list : kitB "tuple" "list" = some false := by decide +kernel
section
variable {P : Program} {w : World} {K : Fg} {mg : Str → Option Value} {base : Heap}
def cSame (k : Nat) : Fp where
  pre ds := ∃ d, ds = [d, d] ∧ Pl k d
  post ds b := b = .st (.bl true)
structure BiT (mg : Str → Option Value) : Prop where
  bool : mg "bool" = none
  int : mg "int" = none
  str : mg "str" = none
  tuple : mg "tuple" = none
  list : mg "list" = none
abbrev s_same : Stmt := top 50
abbrev nSame : List Str := ["actual", "due", "k"]
theorem scSame : FnScope nSame ["actual", "due"] (defScope s_same) := ⟨rfl, rfl, rfl, by decide +kernel, rfl, by decide +kernel, by decide +kernel⟩
theorem ok_same {f : Addr} {fd : FuncData} {k : Nat} (F : FunS K "_law_same" s_same f fd) (b : Bi mg) (bt : BiT mg) (N : ∀ j, k = j + 1 → Dx P w K mg base "_law_same" (j + 1) (cSame j)) : FnOk P w K mg base (L2.CX P w) (k + 1) f fd ["actual", "due"] (spP K (cSame k)) := by
  refine fp_ok F scSame (fun ds ⟨d, h, _⟩ => by rw [h]; rfl) fun cdv A outer s e E ds ho ⟨d, hd, hpl⟩ hr tk => ?_
  subst hd
  have nd := scSame.nd
  cases hpl with
  | non => exact bl_ifR (px_cmp op_isN (pv_var 1) pv_non sc_isN) (fun h => bl_retP (d := .bl true) (pv_c op_isN (pv_var (d := .non) 0) pv_non sc_isN) rfl) (fun h => by cases h)
  | bl k x =>
    refine bl_ifR (px_cmp op_isN (pv_var 1) pv_non sc_isN) (fun h => by cases h) fun _ => ?_
    refine bl_ifR (q := true || true) (px_w (pw_o (px_val (pv_isi (d := .bl x) true (pv_var 1) rfl kt_bool_bool b.isinstance bt.bool)) fun h => by cases h)) (fun _ => ?_) (fun h => by cases h)
    exact bl_retP (pv_is (pv_and (pv_isi (d := .bl x) true (pv_var 1) rfl kt_bool_bool b.isinstance bt.bool) fun _ => pv_and (pv_isi (d := .bl x) true (pv_var 0) rfl kt_bool_bool b.isinstance bt.bool) fun _ => pv_one (pv_c op_eq (pv_var 0) (pv_var 1) sc_eqB)) (d := .bl true) (by simp)) rfl
  | int k x =>
    refine bl_ifR (px_cmp op_isN (pv_var 1) pv_non sc_isN) (fun h => by cases h) fun _ => ?_
    refine bl_ifR (px_w (pw_o (px_val (pv_isi (d := .int x) false (pv_var 1) rfl kt_int_bool b.isinstance bt.bool)) fun _ => pw_o1 (px_val (pv_isi (d := .int x) false (pv_var 0) rfl kt_int_bool b.isinstance bt.bool)))) (fun h => by cases h) fun _ => ?_
    refine bl_ifR (px_val (pv_isi (d := .int x) true (pv_var 1) rfl kt_int_int b.isinstance bt.int)) (fun _ => ?_) (fun h => by cases h)
    exact bl_retP (pv_is (pv_and (pv_isi (d := .int x) true (pv_var 0) rfl kt_int_int b.isinstance bt.int) fun _ => pv_one (pv_c op_eq (pv_var 0) (pv_var 1) sc_eqI)) (d := .bl true) (by simp)) rfl
  | str k x =>
    refine bl_ifR (px_cmp op_isN (pv_var 1) pv_non sc_isN) (fun h => by cases h) fun _ => ?_
    refine bl_ifR (px_w (pw_o (px_val (pv_isi (d := .str x) false (pv_var 1) rfl kt_str_bool b.isinstance bt.bool)) fun _ => pw_o1 (px_val (pv_isi (d := .str x) false (pv_var 0) rfl kt_str_bool b.isinstance bt.bool)))) (fun h => by cases h) fun _ => ?_
    refine bl_ifR (px_val (pv_isi (d := .str x) false (pv_var 1) rfl kt_str_int b.isinstance bt.int)) (fun h => by cases h) fun _ => ?_
    refine bl_ifR (px_val (pv_isi (d := .str x) true (pv_var 1) rfl kt_str_str b.isinstance bt.str)) (fun _ => ?_) (fun h => by cases h)
    exact bl_retP (pv_is (pv_and (pv_isi (d := .str x) true (pv_var 0) rfl kt_str_str b.isinstance bt.str) fun _ => pv_one (pv_c op_eq (pv_var 0) (pv_var 1) sc_eqS)) (d := .bl true) (by simp)) rfl
  | @lst j l hall hl =>
    have Nj := N j rfl
    refine bl_ifR (px_cmp op_isN (pv_var 1) pv_non sc_isN) (fun h => by cases h) fun _ => ?_
    refine bl_ifR (px_w (pw_o (px_val (pv_isi (d := .lst l) false (pv_var 1) rfl kt_list_bool b.isinstance bt.bool)) fun _ => pw_o1 (px_val (pv_isi (d := .lst l) false (pv_var 0) rfl kt_list_bool b.isinstance bt.bool)))) (fun h => by cases h) fun _ => ?_
    refine bl_ifR (px_val (pv_isi (d := .lst l) false (pv_var 1) rfl kt_list_int b.isinstance bt.int)) (fun h => by cases h) fun _ => ?_
    refine bl_ifR (px_val (pv_isi (d := .lst l) false (pv_var 1) rfl kt_list_str b.isinstance bt.str)) (fun h => by cases h) fun _ => ?_
    refine bl_ifR (px_w (pw_o (px_cmp op_ne (pv_isi (d := .lst l) false (pv_var 1) rfl kt_list_tuple b.isinstance bt.tuple) (pv_isi (d := .lst l) false (pv_var 0) rfl kt_list_tuple b.isinstance bt.tuple) sc_neB) fun _ => pw_o1 (px_cmp op_ne (pv_isi (d := .lst l) true (pv_var 1) rfl kt_list_list b.isinstance bt.list) (pv_isi (d := .lst l) true (pv_var 0) rfl kt_list_list b.isinstance bt.list) sc_neB))) (fun h => by simp at h) fun _ => ?_
    refine bl_ifR (px_cmp op_ne (pv_lenL (pv_var 0) b.len) (pv_lenL (pv_var 1) b.len) sc_neI) (fun h => by simp at h) fun _ => ?_
    refine bl_for (fun ds i Γ => ds = rng 0 l.length ∧ ∃ kk, Γ = [sD (.lst l), sD (.lst l), kk]) (wv (wp_rng (pv_lenL (pv_var 1) b.len) (by omega) b.range)) (gv_name 2 nd (hz := .inl ho)) ?_ ?_ ?_ (passes_of rfl)
    · rintro ds Γ1 ⟨rfl, rfl⟩
      exact ⟨rfl, none, rfl⟩
    · rintro ds i d Γ1 hdi ⟨rfl, kk, rfl⟩
      obtain ⟨hi, rfl⟩ := rng_at0 hdi
      obtain ⟨x, hx⟩ : ∃ x, l[i]? = some x := ⟨_, List.getElem?_eq_getElem hi⟩
      refine ⟨_, rfl, bl_ifR (px_not (px_val (pv_call (ds := [x, x]) (d := .bl true) Nj hr (by omega) (pvs_cons (pv_s ix_list (pv_var 0) (pv_var 2) (sc_ixL (atI_nat hx))) (pvs_cons (pv_s ix_list (pv_var 1) (pv_var 2) (sc_ixL (atI_nat hx))) pvs_nil)) ⟨x, rfl, hall x (List.mem_of_getElem? hx)⟩ (fun bb hb => hb) (fun _ _ z => z.elim)))) (fun h => by cases h) fun _ => bl_nil ⟨rfl, _, rfl⟩⟩
    · rintro ds Γ1 ⟨rfl, kk, rfl⟩
      exact bl_retP pv_bl rfl
  | @tup j l hall hl =>
    have Nj := N j rfl
    refine bl_ifR (px_cmp op_isN (pv_var 1) pv_non sc_isN) (fun h => by cases h) fun _ => ?_
    refine bl_ifR (px_w (pw_o (px_val (pv_isi (d := .tup l) false (pv_var 1) rfl kt_tuple_bool b.isinstance bt.bool)) fun _ => pw_o1 (px_val (pv_isi (d := .tup l) false (pv_var 0) rfl kt_tuple_bool b.isinstance bt.bool)))) (fun h => by cases h) fun _ => ?_
    refine bl_ifR (px_val (pv_isi (d := .tup l) false (pv_var 1) rfl kt_tuple_int b.isinstance bt.int)) (fun h => by cases h) fun _ => ?_
    refine bl_ifR (px_val (pv_isi (d := .tup l) false (pv_var 1) rfl kt_tuple_str b.isinstance bt.str)) (fun h => by cases h) fun _ => ?_
    refine bl_ifR (px_w (pw_o (px_cmp op_ne (pv_isi (d := .tup l) true (pv_var 1) rfl kt_tuple_tuple b.isinstance bt.tuple) (pv_isi (d := .tup l) true (pv_var 0) rfl kt_tuple_tuple b.isinstance bt.tuple) sc_neB) fun _ => pw_o1 (px_cmp op_ne (pv_isi (d := .tup l) false (pv_var 1) rfl kt_tuple_list b.isinstance bt.list) (pv_isi (d := .tup l) false (pv_var 0) rfl kt_tuple_list b.isinstance bt.list) sc_neB))) (fun h => by simp at h) fun _ => ?_
    refine bl_ifR (px_cmp op_ne (pv_lenT (pv_var 0) b.len) (pv_lenT (pv_var 1) b.len) sc_neI) (fun h => by simp at h) fun _ => ?_
    refine bl_for (fun ds i Γ => ds = rng 0 l.length ∧ ∃ kk, Γ = [sD (.tup l), sD (.tup l), kk]) (wv (wp_rng (pv_lenT (pv_var 1) b.len) (by omega) b.range)) (gv_name 2 nd (hz := .inl ho)) ?_ ?_ ?_ (passes_of rfl)
    · rintro ds Γ1 ⟨rfl, rfl⟩
      exact ⟨rfl, none, rfl⟩
    · rintro ds i d Γ1 hdi ⟨rfl, kk, rfl⟩
      obtain ⟨hi, rfl⟩ := rng_at0 hdi
      obtain ⟨x, hx⟩ : ∃ x, l[i]? = some x := ⟨_, List.getElem?_eq_getElem hi⟩
      refine ⟨_, rfl, bl_ifR (px_not (px_val (pv_call (ds := [x, x]) (d := .bl true) Nj hr (by omega) (pvs_cons (pv_s ix_tup (pv_var 0) (pv_var 2) (sc_ixT (atI_nat hx))) (pvs_cons (pv_s ix_tup (pv_var 1) (pv_var 2) (sc_ixT (atI_nat hx))) pvs_nil)) ⟨x, rfl, hall x (List.mem_of_getElem? hx)⟩ (fun bb hb => hb) (fun _ _ z => z.elim)))) (fun h => by cases h) fun _ => bl_nil ⟨rfl, _, rfl⟩⟩
    · rintro ds Γ1 ⟨rfl, kk, rfl⟩
      exact bl_retP pv_bl rfl
end
end Kf
end
section
set_option maxRecDepth 100000
set_option maxHeartbeats 4000000
/-! KfN3: alike, due, spoilt. -/
namespace Kf
open PySem L2

abbrev dStrs (ns : List Str) : D := .lst (ns.map .str)
abbrev dRows (n : Nat) (R : Nat → Nat → Bool) : D := .lst (rowsD n R)
def AlikeP (hs : List Str) (R : Nat → Nat → Bool) (ts : List Str) (T : Nat → Nat → Bool) : Prop :=
  hs.length = ts.length ∧ (∀ z ∈ hs, z ∈ ts) ∧ ∀ a b, a < hs.length → b < hs.length → R a b = T (ts.idxOf (hs.getD a ⟨#[]⟩)) (ts.idxOf (hs.getD b ⟨#[]⟩))
theorem getD_at {l : List Str} {i : Nat} (h : i < l.length) : l[i]? = some (l.getD i ⟨#[]⟩) := by
  rw [List.getD_eq_getElem?_getD, List.getElem?_eq_getElem h]
  rfl
theorem getD_mem {l : List Str} {i : Nat} (h : i < l.length) : l.getD i ⟨#[]⟩ ∈ l := List.mem_of_getElem? (getD_at h)
theorem idx_first {ns : List Str} {z : Str} (h : z ∈ ns) : ns[ns.idxOf z]? = some z ∧ ∀ m, m < ns.idxOf z → ns[m]? ≠ some z := by
  refine ⟨?_, fun m hm q => ?_⟩
  · rw [List.getElem?_eq_getElem (List.idxOf_lt_length_of_mem h), List.getElem_idxOf]
  · obtain ⟨h1, h2⟩ := List.getElem?_eq_some_iff.mp q
    have hm' : m < ns.findIdx (· == z) := hm
    have := List.not_of_lt_findIdx hm'
    rw [h2] at this
    simp at this
theorem idx_lt {ns : List Str} {z : Str} (h : z ∈ ns) : ns.idxOf z < ns.length := List.idxOf_lt_length_of_mem h
/-- what Mapping answers -/
inductive MOut where
  | notL (z : Str) | badC (n : Nat) | broken (a b : Str) | made
def badP (R T : Nat → Nat → Bool) (ts im : List Str) (a b : Nat) : Bool := R a b && !T (ts.idxOf (im.getD a ⟨#[]⟩)) (ts.idxOf (im.getD b ⟨#[]⟩))
def lexB (a b x y : Nat) : Prop := x < a ∨ (x = a ∧ y < b)
inductive MOutP (hs : List Str) (R : Nat → Nat → Bool) (ts : List Str) (T : Nat → Nat → Bool) (im : List Str) : MOut → Prop
  | notL {i : Nat} {z : Str} : im[i]? = some z → z ∉ ts → (∀ j y, j < i → im[j]? = some y → y ∈ ts) → MOutP hs R ts T im (.notL z)
  | badC : (∀ z ∈ im, z ∈ ts) → im.length ≠ hs.length → MOutP hs R ts T im (.badC im.length)
  | broken {a b : Nat} : (∀ z ∈ im, z ∈ ts) → im.length = hs.length → a < hs.length → b < hs.length → badP R T ts im a b = true → (∀ x y, x < hs.length → y < hs.length → lexB a b x y → badP R T ts im x y = false) → MOutP hs R ts T im (.broken (hs.getD a ⟨#[]⟩) (hs.getD b ⟨#[]⟩))
  | made : (∀ z ∈ im, z ∈ ts) → im.length = hs.length → (∀ x y, x < hs.length → y < hs.length → badP R T ts im x y = false) → MOutP hs R ts T im .made
theorem MOutP.det {hs : List Str} {R : Nat → Nat → Bool} {ts : List Str} {T : Nat → Nat → Bool} {im : List Str} {o o' : MOut} (h : MOutP hs R ts T im o) (q : MOutP hs R ts T im o') : o = o' := by
  cases h with
  | @notL i z h1 h2 h3 =>
    cases q with
    | @notL j y g1 g2 g3 =>
      have : i = j := by
        rcases Nat.lt_trichotomy i j with l | l | l
        · exact absurd (g3 i z l h1) h2
        · exact l
        · exact absurd (h3 j y l g1) g2
      subst this
      rw [h1] at g1
      cases g1
      rfl
    | badC g1 _ => exact absurd (g1 z (List.mem_of_getElem? h1)) h2
    | broken g1 => exact absurd (g1 z (List.mem_of_getElem? h1)) h2
    | made g1 => exact absurd (g1 z (List.mem_of_getElem? h1)) h2
  | badC h1 h2 =>
    cases q with
    | notL g1 g2 _ => exact absurd (h1 _ (List.mem_of_getElem? g1)) g2
    | badC => rfl
    | broken _ g2 => exact absurd g2 h2
    | made _ g2 => exact absurd g2 h2
  | @broken a b h1 h2 h3 h4 h5 h6 =>
    cases q with
    | notL g1 g2 _ => exact absurd (h1 _ (List.mem_of_getElem? g1)) g2
    | badC _ g2 => exact absurd h2 g2
    | @broken c d _ _ g3 g4 g5 g6 =>
      have : a = c ∧ b = d := by
        rcases Nat.lt_trichotomy a c with l | l | l
        · rw [g6 a b h3 h4 (.inl l)] at h5; cases h5
        · rcases Nat.lt_trichotomy b d with k | k | k
          · rw [g6 a b h3 h4 (.inr ⟨l, k⟩)] at h5; cases h5
          · exact ⟨l, k⟩
          · rw [h6 c d g3 g4 (.inr ⟨l.symm, k⟩)] at g5; cases g5
        · rw [h6 c d g3 g4 (.inl l)] at g5; cases g5
      rw [this.1, this.2]
    | made _ _ g3 => rw [g3 a b h3 h4] at h5; cases h5
  | made h1 h2 h3 =>
    cases q with
    | notL g1 g2 _ => exact absurd (h1 _ (List.mem_of_getElem? g1)) g2
    | badC _ g2 => exact absurd h2 g2
    | broken _ _ g3 g4 g5 _ => rw [h3 _ _ g3 g4] at g5; cases g5
    | made => rfl
def dueD : MOut → D
  | .notL z => .lst [.str "NotListed", .str z]
  | .badC n => .lst [.str "BadCount", .int (n : Int)]
  | .broken a b => .lst [.str "Broken", .tup [.str a, .str b]]
  | .made => .lst [.str "made"]
section
variable {P : Program} {w : World} {K : Fg} {mg : Str → Option Value} {base : Heap}
def cAlike (hs : List Str) (R : Nat → Nat → Bool) (ts : List Str) (T : Nat → Nat → Bool) : Fp where
  pre ds := ds = [dStrs hs, dRows hs.length R, dStrs ts, dRows ts.length T] ∧ hs.length ≤ 1000 ∧ ts.length ≤ 1000
  post ds b := ∃ c, b = .st (.bl c) ∧ (c = true ↔ AlikeP hs R ts T)
abbrev nAlike : List Str := ["heads", "here", "tails", "there", "low", "high", "name"]
/-! ### due -/
def cDue (hs : List Str) (R : Nat → Nat → Bool) (ts : List Str) (T : Nat → Nat → Bool) (im : List Str) : Fp where
  pre ds := ds = [dStrs im, dStrs hs, dRows hs.length R, dStrs ts, dRows ts.length T] ∧ hs.length ≤ 1000 ∧ ts.length ≤ 1000
  post ds b := ∃ o, MOutP hs R ts T im o ∧ b = .st (dueD o)
abbrev nDue : List Str := ["images", "heads", "here", "tails", "there", "image", "low", "high"]
theorem strs_at' {l : List Str} {i : Nat} {d : D} (h : (l.map D.str)[i]? = some d) : ∃ z, l[i]? = some z ∧ d = .str z := by
  rw [List.getElem?_map] at h
  cases q : l[i]? with
  | none => rw [q] at h; cases h
  | some z => rw [q] at h; exact ⟨z, rfl, (Option.some.inj h).symm⟩
end
end Kf
end
section
set_option maxRecDepth 100000
set_option maxHeartbeats 4000000
/-! KfN4: spoilt. -/
namespace Kf
open PySem L2

abbrev SOk (z : Str) : Prop := PyData.strOk z = true
theorem strOk_name {z : Str} (h : KName z) : PyData.strOk z = true := by
  unfold PyData.strOk
  rw [← Array.all_toList, List.all_eq_true]
  intro c hc
  have := h.2.2.2 c hc
  unfold latC at this
  exact decide_eq_true (by omega)
theorem sok_app {a b : Str} (ha : SOk a) (hb : SOk b) : SOk (a ++ b) := by
  unfold SOk PyData.strOk at ha hb ⊢
  show (a.cps ++ b.cps).all _ = true
  rw [Array.all_append, ha, hb]
  rfl
section
variable {P : Program} {w : World} {K : Fg} {mg : Str → Option Value} {base : Heap}
def cSpoilt (im ts : List Str) (far : Str) : Fo where
  pre o ds := Pool o ∧ ds = [dStrs im, dStrs ts, .str far] ∧ 1 ≤ im.length ∧ 1 ≤ ts.length ∧ im.length ≤ 100 ∧ ts.length ≤ 1000 ∧ (∀ z ∈ ts, z.length ≤ 100) ∧ (∀ z ∈ im, SOk z) ∧ (∀ z ∈ ts, SOk z) ∧ SOk far
  post o ds b o' := Pool o' ∧ ∃ im' : List Str, b = .ow (.lst (im'.map .str)) ∧ im'.length ≤ im.length + 1 ∧ ∀ z ∈ im', SOk z
abbrev nSpoilt : List Str := ["pool", "images", "tails", "far", "found", "fault", "at"]
theorem map_take_str (l : List Str) (n : Nat) : (l.map D.str).take n = (l.take n).map D.str := (List.map_take ..).symm
theorem map_drop_str (l : List Str) (n : Nat) : (l.map D.str).drop n = (l.drop n).map D.str := (List.map_drop ..).symm
theorem map_set_str (l : List Str) (n : Nat) (z : Str) : (l.map D.str).set n (.str z) = (l.set n z).map D.str := (List.map_set ..).symm
theorem cutD_take (l : List Str) (n : Nat) : ∃ l' : List Str, cutD (l.map D.str) none (some (n : Int)) = l'.map D.str ∧ l'.length ≤ l.length ∧ l'.length ≤ n ∧ ∀ z ∈ l', z ∈ l := by
  refine ⟨(l.drop 0).take (min n (l.map D.str).length - 0), ?_, ?_, ?_, fun z hz => List.mem_of_mem_drop (List.mem_of_mem_take hz)⟩
  · unfold cutD
    rw [show HT.sIx (l.map D.str).length 0 none = 0 from rfl, show HT.sIx (l.map D.str).length (l.map D.str).length (some (n : Int)) = min n (l.map D.str).length from HT.sIx_nat _ _ _, map_drop_str, map_take_str]
  · rw [List.length_take, List.length_drop]; omega
  · rw [List.length_take, List.length_drop, List.length_map]; omega
theorem cutD_drop (l : List Str) (n : Nat) : ∃ l' : List Str, cutD (l.map D.str) (some (n : Int)) none = l'.map D.str ∧ l'.length + min n l.length ≤ l.length ∧ ∀ z ∈ l', z ∈ l := by
  refine ⟨(l.drop (min n (l.map D.str).length)).take ((l.map D.str).length - min n (l.map D.str).length), ?_, ?_, fun z hz => List.mem_of_mem_drop (List.mem_of_mem_take hz)⟩
  · unfold cutD
    rw [show HT.sIx (l.map D.str).length (l.map D.str).length none = (l.map D.str).length from rfl, show HT.sIx (l.map D.str).length 0 (some (n : Int)) = min n (l.map D.str).length from HT.sIx_nat _ _ _, map_drop_str, map_take_str]
  · rw [List.length_take, List.length_drop, List.length_map]; omega
theorem ixN_nat {n i : Nat} (h : i < n) : ixN n (i : Int) = some i := by
  unfold ixN
  rw [if_pos (by omega), if_pos (by omega), Int.toNat_natCast]
end
end Kf
end
section
set_option maxRecDepth 100000
set_option maxHeartbeats 4000000
/-! KfS1: the program's names and reach. -/
namespace Kf
open PySem L2

section
variable {X : Cx} {e : Ent} {Γ : Gam} {a b c : Expr} {d1 d2 d3 : D} {pos : Pos}
theorem px_ch {op op' : CmpOp} {r r' : R2} {k l : Bool} (ho : OpR X (compareOp op) r) (ho' : OpR X (compareOp op') r') (ha : PV X e a Γ d1) (hb : PV X e b Γ d2) (hc : PV X e c Γ d3) (sc : Sc X.K r d1 d2 (.bl k)) (sc' : k = true → Sc X.K r' d2 d3 (.bl l))
    (hm : lastMarks [op, op'] [b, c] = false := by with_unfolding_all rfl) : PX X e (.Compare a [op, op'] [b, c] pos) Γ (k && l) :=
  PT.imp (pt_chain ho ho' ha hb hc hm) fun σ H Q ⟨S, w, q⟩ => ⟨S, w, fun S1 H1 v1 s1 w1 r1 => ⟨S1, w1, fun S2 H2 v2 s2 w2 r2 => sc S2 H2 v1 v2 _ w2.nx.sh (r1.mono s2.ss) r2 fun v rv => by
    cases rv
    refine ⟨k, rfl, ?_⟩
    cases k with
    | false => exact iteF ⟨false, rfl, q S2 H2 (s1.trans s2) w2⟩
    | true =>
      refine iteT ⟨S2, w2, fun S3 H3 v3 s3 w3 r3 => sc' rfl S3 H3 v2 v3 _ w3.nx.sh (r2.mono s3.ss) r3 fun u ru => ?_⟩
      cases ru
      exact ⟨l, rfl, q S3 H3 ((s1.trans s2).trans s3) w3⟩⟩⟩
theorem sc_inSign {K : Fg} {z : Str} {n : Nat} : Sc K (fun x y H Q => ∃ (c : Nat) (z : Str), x = .str ⟨#[c]⟩ ∧ y = .str z ∧ Q (.bl (decide (c ∈ z.cps.toList))) H) (.str ⟨#[n]⟩) (.str z) (.bl (decide (n ∈ z.cps.toList))) := fun S H v1 v2 Q s r1 r2 q => by
  cases r1
  cases r2
  exact ⟨n, z, rfl, rfl, q _ (.bl _)⟩
theorem sc_ninSign {K : Fg} {z : Str} {n : Nat} : Sc K (fun x y H Q => ∃ (c : Nat) (z : Str), x = .str ⟨#[c]⟩ ∧ y = .str z ∧ Q (.bl (!decide (c ∈ z.cps.toList))) H) (.str ⟨#[n]⟩) (.str z) (.bl (!decide (n ∈ z.cps.toList))) := fun S H v1 v2 Q s r1 r2 q => by
  cases r1
  cases r2
  exact ⟨n, z, rfl, rfl, q _ (.bl _)⟩
end
/-- the module's constants -/
structure Gc (mg : Str → Option Value) : Prop where
  most : ∃ t, mg "MOST_LETTERS" = some (.int 24 t)
  letters : ∃ t, mg "LETTERS" = some (.str "abcdefghijklmnopqrstuvwxyz" t)
  later : ∃ t, mg "LATER" = some (.str "abcdefghijklmnopqrstuvwxyz0123456789." t)
theorem low_in {n : Nat} (h : lowC n) : n ∈ (("abcdefghijklmnopqrstuvwxyz" : Str)).cps.toList := by
  have key : ∀ k : Fin 26, (97 + k.val) ∈ (("abcdefghijklmnopqrstuvwxyz" : Str)).cps.toList := by decide +kernel
  have := key ⟨n - 97, by unfold lowC at h; omega⟩
  unfold lowC at h
  rwa [show 97 + (n - 97) = n by omega] at this
theorem lat_in {n : Nat} (h : latC n) : n ∈ (("abcdefghijklmnopqrstuvwxyz0123456789." : Str)).cps.toList := by
  rcases h with h | h | h
  · have key : ∀ k : Fin 26, (97 + k.val) ∈ (("abcdefghijklmnopqrstuvwxyz0123456789." : Str)).cps.toList := by decide +kernel
    have := key ⟨n - 97, by omega⟩
    rwa [show 97 + (n - 97) = n by omega] at this
  · have key : ∀ k : Fin 10, (48 + k.val) ∈ (("abcdefghijklmnopqrstuvwxyz0123456789." : Str)).cps.toList := by decide +kernel
    have := key ⟨n - 48, by omega⟩
    rwa [show 48 + (n - 48) = n by omega] at this
  · subst h
    decide +kernel
section
variable {P : Program} {w : World} {K : Fg} {mg : Str → Option Value} {base : Heap}
/-! ### is_kind_name -/
def cIsName (z : Str) : Fp where
  pre ds := ds = [.str z] ∧ KName z
  post ds b := b = .st (.bl true)
abbrev s_isname : Stmt := top 14
abbrev nIsname : List Str := ["text", "char"]
theorem scIsname : FnScope nIsname ["text"] (defScope s_isname) := ⟨rfl, rfl, rfl, by decide +kernel, rfl, by decide +kernel, by decide +kernel⟩
def cC (n : Nat) : D := .str ⟨#[n]⟩
def uC : D → Nat
  | .str z => z.cps.toList.headD 0
  | _ => 0
theorem uC_cC (n : Nat) : uC (cC n) = n := rfl
theorem ok_isname {f : Addr} {fd : FuncData} (F : FunS K "is_kind_name" s_isname f fd) (b : Bi mg) (gc : Gc mg) (z : Str) : FnOk P w K mg base (L2.CX P w) 1 f fd ["text"] (spP K (cIsName z)) := by
  refine fp_ok F scIsname (fun ds ⟨h, _⟩ => by rw [h]; rfl) fun cdv A outer s e E ds ho ⟨hd, hz⟩ hr tk => ?_
  subst hd
  have nd := scIsname.nd
  obtain ⟨h1, h2, ⟨c, t, h3, h4⟩, h5⟩ := hz
  obtain ⟨tm, gm⟩ := gc.most
  obtain ⟨tl, gl⟩ := gc.letters
  obtain ⟨ta, ga⟩ := gc.later
  have hsz : z.length ≤ sizeLine := Nat.le_trans h2 (by decide)
  refine bl_ifR (q := (!(true && true)) || false) (px_w (pw_o (px_not (px_is (px_ch op_le op_le pv_int (pv_lenS (pv_var 0) hsz b.len) (pv_gint rfl gm) sc_le (fun _ => sc_le)) ?_)) fun _ => pw_o1 (px_is (px_cmp op_notIn_sign (pv_s ix_str (pv_var 0) pv_int (sc_ixS (c := c) hsz (by
    have hh : z.cps.toList[0]? = some c := by rw [h3]; rfl
    exact atI_nat (n := 0) hh))) (pv_gstr rfl gl) sc_ninSign) (by rw [decide_eq_true (low_in h4)]; rfl)))) (fun h => by cases h) fun _ => ?_
  · have a1 : decide ((1 : Int) ≤ (z.length : Int)) = true := decide_eq_true (by omega)
    have a2 : decide ((z.length : Int) ≤ 24) = true := decide_eq_true (by omega)
    rw [a1, a2]
  · refine bl_retP (pv_is (pv_all (bs := (z.cps.toList.filter (fun _ => true)).map fun n => decide (n ∈ (("abcdefghijklmnopqrstuvwxyz0123456789." : Str)).cps.toList)) (pn_pv (pn_is (o' := .lst (((z.cps.toList.filter (fun _ => true)).map fun n => decide (n ∈ (("abcdefghijklmnopqrstuvwxyz0123456789." : Str)).cps.toList)).map .bl)) (pn_lcA (c := cC) (u := uC) (l := z.cps.toList) (f := fun n => [sD (.str z), sD (cC n)]) (own := [("char", 1)]) (ix := [1]) (bind := bName 1) (fun _ => true) (fun n => .bl (decide (n ∈ (("abcdefghijklmnopqrstuvwxyz0123456789." : Str)).cps.toList))) uC_cC (blk nIsname (defScope s_isname)) nd
      (wp_str (pv_var 0)) (fun s H C cl fp => gv_name 1 nd (hz := .inl ho)) (bindOk_name 1) (by decide) (.inl ho) (by rw [Array.length_toList]; exact Nat.le_trans h2 (by decide)) (fun a _ => rfl) (fun a _ s H C cl fp => pts_none) (fun a ha _ s H C cl fp => pv_c op_in_sign (pv_var 1) (pv_gstr rfl ga) sc_inSign)) (by rw [List.map_map]; rfl)) rfl) b.all) (d := .bl true) (congrArg D.bl ?_)) rfl
    rw [List.all_map, List.all_eq_true]
    intro n hn
    exact decide_eq_true (lat_in (h5 n ((List.mem_filter.mp hn).1)))
/-! ### check_listed -/
def cListed (ks : List Str) (z : Str) : Fp where
  pre ds := ds = [.tup (ks.map .str), .str z] ∨ ds = [.lst (ks.map .str), .str z]
  post ds b := b = .st .non ∧ z ∈ ks
  exn ds y fl := z ∉ ks ∧ y = "NotListed" ∧ fl = [(("name" : Str), D.str z)]
abbrev s_listed : Stmt := top 16
abbrev nListed : List Str := ["kinds", "name"]
theorem scListed : FnScope nListed nListed (defScope s_listed) := ⟨rfl, rfl, rfl, by decide +kernel, rfl, by decide +kernel, by decide +kernel⟩
theorem ok_listed {f : Addr} {fd : FuncData} (F : FunS K "check_listed" s_listed f fd) (C : Xc1 P w K mg base "NotListed" "name") (ks : List Str) (z : Str) : FnOk P w K mg base (L2.CX P w) 3 f fd nListed (spP K (cListed ks z)) := by
  refine fp_ok F scListed (fun ds h => by rcases h with h | h <;> rw [h] <;> rfl) fun cdv A outer s e E ds ho hd hr tk => ?_
  have go : ∀ d, d = .tup (ks.map .str) ∨ d = .lst (ks.map .str) → ds = [d, .str z] → BL (cxOf (L2.CX P w) P w K mg base nListed "check_listed" (defScope s_listed) f cdv A outer s e.H0 E) e (defBody s_listed) (gam0 nListed (ds.map .st)) { nx := fun _ => (cListed ks z).post ds (.st .non), rt := fun b _ => (cListed ks z).post ds b } := fun d hdd hds => by
    clear hd
    subst hds
    refine bl_ifR (px_ninS (ns := ks) (pv_var 1) (by
      rcases hdd with rfl | rfl
      · exact .inr (pv_var 0)
      · exact .inl (pv_var 0))) (fun h => ?_) fun h => bl_nil ⟨rfl, by simpa using h⟩
    exact bl_raise1 C hr (by omega) (pv_var 1) tk ⟨by simpa using h, rfl, rfl⟩
  rcases hd with h | h
  · exact go _ (.inl rfl) h
  · exact go _ (.inr rfl) h
/-! ### check_kind_names -/
def cNamesOk (ks : List Str) : Fp where
  pre ds := ds = [dStrs ks] ∧ ks.Nodup ∧ (∀ z ∈ ks, KName z) ∧ ks.length ≤ 1000
  post ds b := b = .st .non
abbrev s_cknames : Stmt := top 15
abbrev nCknames : List Str := ["kinds", "at", "kind"]
theorem scCknames : FnScope nCknames ["kinds"] (defScope s_cknames) := ⟨rfl, rfl, rfl, by decide +kernel, rfl, by decide +kernel, by decide +kernel⟩
theorem ok_cknames {f : Addr} {fd : FuncData} (F : FunS K "check_kind_names" s_cknames f fd) (b : Bi mg) (N : ∀ z, Dx P w K mg base "is_kind_name" 1 (cIsName z)) (ks : List Str) : FnOk P w K mg base (L2.CX P w) 2 f fd ["kinds"] (spP K (cNamesOk ks)) := by
  refine fp_ok F scCknames (fun ds ⟨h, _⟩ => by rw [h]; rfl) fun cdv A outer s e E ds ho ⟨hd, hnd, hnm, hl⟩ hr tk => ?_
  subst hd
  have nd := scCknames.nd
  refine bl_for (fun ds i Γ => ds = enumD (ks.map .str) ∧ ∃ x y, Γ = [sD (dStrs ks), x, y]) (wv (wp_enum (pv_var 0) b.enumerate)) (gv_two rfl (gv_name 1 nd (hz := .inl ho)) (gv_name 2 nd (hz := .inl ho))) ?_ ?_ ?_ (passes_of rfl)
  · rintro ds Γ1 ⟨rfl, rfl⟩
    exact ⟨rfl, none, none, rfl⟩
  · rintro ds i d Γ1 hdi ⟨rfl, x, y, rfl⟩
    obtain ⟨d', hd', rfl⟩ := enum_at hdi
    obtain ⟨z, hz, rfl⟩ := strs_at' hd'
    have hzm := List.mem_of_getElem? hz
    refine ⟨_, ⟨_, _, _, rfl, rfl, rfl⟩, bl_ifR (px_not (px_val (pv_call (ds := [.str z]) (d := .bl true) (N z) hr (by omega) (pvs_cons (pv_var 2) pvs_nil) ⟨rfl, hnm z hzm⟩ (fun _ h => h) (fun _ _ h => h.elim)))) (fun h => by cases h) fun _ => ?_⟩
    obtain ⟨l', e1, k1, k2⟩ := cutD_take ks i
    have hl' : l' = ks.take i := by
      have h1 : cutD (ks.map D.str) none (some (i : Int)) = (ks.take i).map .str := by
        unfold cutD
        rw [show HT.sIx (ks.map D.str).length 0 none = 0 from rfl, show HT.sIx (ks.map D.str).length (ks.map D.str).length (some (i : Int)) = min i (ks.map D.str).length from HT.sIx_nat _ _ _, List.drop_zero, Nat.sub_zero, ← map_take_str]
        exact List.take_eq_take_iff.mpr (by omega)
      rw [e1] at h1
      exact strs_inj h1
    refine bl_ifR (px_inS (ns := ks.take i) (pv_var 2) (.inl (pn_pv (pn_is (pn_cut (pv_var 0) pp_none (pp_some (pv_var 1))) (by rw [e1, hl']))))) (fun h => ?_) fun _ => bl_nil ⟨rfl, _, _, rfl⟩
    exfalso
    have hm : z ∈ ks.take i := of_decide_eq_true h
    obtain ⟨j, hj⟩ := List.getElem?_of_mem hm
    obtain ⟨hj1, hj2⟩ := List.getElem?_eq_some_iff.mp hj
    rw [List.length_take] at hj1
    have hj3 : ks[j]? = some z := by
      rw [List.getElem?_take_of_lt (by omega)] at hj
      exact hj
    have e2 := hnd.idxOf_getElem j (List.getElem?_eq_some_iff.mp hj3).1
    have e3 := hnd.idxOf_getElem i (List.getElem?_eq_some_iff.mp hz).1
    rw [(List.getElem?_eq_some_iff.mp hj3).2] at e2
    rw [(List.getElem?_eq_some_iff.mp hz).2] at e3
    omega
  · rintro ds Γ1 ⟨rfl, x, y, rfl⟩
    exact bl_nil rfl
end
end Kf
end
section
set_option maxRecDepth 100000
set_option maxHeartbeats 4000000
/-! KfS2: spread, kinds_above, check_rings. -/
namespace Kf
open PySem L2

inductive RchS (E : Str → List Str) : Str → Str → Prop
  | refl (a : Str) : RchS E a a
  | step {a b c : Str} : RchS E a b → c ∈ E b → RchS E a c
def rowsK (ks : List Str) (E : Str → List Str) : List (Key × D) := ks.map fun x => (.inr x, dStrs (E x))
theorem rowsK_val {ks : List Str} {E : Str → List Str} {x : Str} (h : x ∈ ks) : valD (rowsK ks E) (.inr x) = some (dStrs (E x)) := by
  unfold rowsK valD
  induction ks with
  | nil => cases h
  | cons a l ih =>
    rw [List.map_cons]
    by_cases q : a = x
    · subst q
      rw [List.find?_cons_of_pos (by simp)]
      rfl
    · rw [List.find?_cons_of_neg (by simpa using q)]
      exact ih ((List.mem_cons.mp h).resolve_left fun z => q z.symm)
theorem rowsK_app {a b : List Str} {E : Str → List Str} : rowsK (a ++ b) E = rowsK a E ++ rowsK b E := List.map_append
theorem rowsK_len {a : List Str} {E : Str → List Str} : (rowsK a E).length = a.length := List.length_map _
theorem rowsK_keys {a : List Str} {E : Str → List Str} : (rowsK a E).map (·.1) = a.map fun x => (.inr x : Key) := by
  unfold rowsK
  rw [List.map_map]
  rfl
theorem rowsK_congr {ks : List Str} {E F : Str → List Str} (h : ∀ x ∈ ks, E x = F x) : rowsK ks E = rowsK ks F := List.map_congr_left fun x hx => by rw [h x hx]
theorem key_new {ks : List Str} {i : Nat} {z : Str} (nd : ks.Nodup) (hz : ks[i]? = some z) {E : Str → List Str} : (Sum.inr z : Key) ∉ (rowsK (ks.take i) E).map (·.1) := by
  rw [rowsK_keys]
  intro h
  obtain ⟨x, hx, he⟩ := List.mem_map.mp h
  injection he with he
  subst he
  obtain ⟨j, hj⟩ := List.getElem?_of_mem hx
  obtain ⟨hj1, _⟩ := List.getElem?_eq_some_iff.mp hj
  rw [List.length_take] at hj1
  rw [List.getElem?_take_of_lt (by omega)] at hj
  have e2 := nd.idxOf_getElem j (List.getElem?_eq_some_iff.mp hj).1
  have e3 := nd.idxOf_getElem i (List.getElem?_eq_some_iff.mp hz).1
  rw [(List.getElem?_eq_some_iff.mp hj).2] at e2
  rw [(List.getElem?_eq_some_iff.mp hz).2] at e3
  omega
theorem take_snoc {α : Type} {l : List α} {i : Nat} {x : α} (h : l[i]? = some x) : l.take (i + 1) = l.take i ++ [x] := by rw [List.take_succ, h]; rfl
section
variable {P : Program} {w : World} {K : Fg} {mg : Str → Option Value} {base : Heap}
def cSpread (ks : List Str) (E : Str → List Str) (s : Str) : Fp where
  pre ds := ds = [.dK (rowsK ks E), .str s] ∧ s ∈ ks ∧ (∀ x ∈ ks, ∀ y ∈ E x, y ∈ ks) ∧ ks.length ≤ 1000
  post ds b := ∃ fs : List Str, b = .ow (.lst (fs.map .str)) ∧ ∀ y, y ∈ fs ↔ RchS E s y
abbrev s_spread : Stmt := top 18
abbrev nSpread : List Str := ["links", "start", "found", "at", "name"]
theorem scSpread : FnScope nSpread ["links", "start"] (defScope s_spread) := ⟨rfl, rfl, rfl, by decide +kernel, rfl, by decide +kernel, by decide +kernel⟩
theorem ok_spread {f : Addr} {fd : FuncData} (F : FunS K "spread" s_spread f fd) (b : Bi mg) (ks : List Str) (E : Str → List Str) (st : Str) : FnOk P w K mg base (L2.CX P w) 2 f fd ["links", "start"] (spP K (cSpread ks E st)) := by
  refine fp_ok F scSpread (fun ds ⟨h, _⟩ => by rw [h]; rfl) fun cdv A outer s e Ex ds ho ⟨hd, hs, hE, hl⟩ hr tk => ?_
  subst hd
  have nd := scSpread.nd
  refine bl_letO 2 (hz := .inl ho) (o := .lst (([st] : List Str).map .str)) (pn_eo (pn_lst (pvs_cons (pv_var 1) pvs_nil) (by show 1 ≤ _; decide))) (bl_let 3 (hz := .inl ho) pv_int ?_)
  refine bl_while (fun m Γ => ∃ (fs : List Str) (at_ : Nat) (nm : Option B), Γ = [sD (.dK (rowsK ks E)), sD (.str st), sL (fs.map .str), sI at_, nm] ∧ m = ks.length - at_ ∧ fs.Nodup ∧ (∀ y ∈ fs, y ∈ ks ∧ RchS E st y) ∧ st ∈ fs ∧ at_ ≤ fs.length ∧ ∀ (i : Nat) (x : Str), i < at_ → fs[i]? = some x → ∀ y ∈ E x, y ∈ fs)
    ks.length ⟨[st], 0, none, rfl, by simp, by simp, fun y hy => by rw [List.mem_singleton.mp hy]; exact ⟨hs, .refl _⟩, by simp, Nat.zero_le _, fun i x hi => absurd hi (Nat.not_lt_zero _)⟩ ?_ (passes_of rfl)
  rintro m Γ1 ⟨fs, at_, nm, rfl, rfl, hnd, hin, hst, hat, hcl⟩
  refine ⟨_, px_tv (px_cmp op_lt (pv_var 3) (pv_snap fun _ => pv_lenL (pv_var 2) b.len) sc_lt), ?_, ?_⟩
  · rintro Γ2 ⟨hlt, rfl⟩
    have hlt' : at_ < fs.length := by
      have := of_decide_eq_true hlt.symm
      rw [List.length_map] at this
      omega
    obtain ⟨x, hx⟩ : ∃ x, fs[at_]? = some x := ⟨_, List.getElem?_eq_getElem hlt'⟩
    have hxm := hin x (List.mem_of_getElem? hx)
    refine bl_for (fun ds j Γ => ds = (E x).map .str ∧ ∃ (gs : List Str) (nm : Option B), Γ = [sD (.dK (rowsK ks E)), sD (.str st), sL (gs.map .str), sI at_, nm] ∧ gs.Nodup ∧ (∀ y ∈ gs, y ∈ ks ∧ RchS E st y) ∧ (∃ t, gs = fs ++ t) ∧ ∀ y ∈ (E x).take j, y ∈ gs)
      (wv (wp_list (pv_dget hr (pv_var 0) (pv_snap fun _ => pv_s ix_list (pv_var 2) (pv_var 3) (sc_ixL (atI_nat (show (fs.map D.str)[at_]? = some (.str x) by rw [List.getElem?_map, hx]; rfl)))) (rowsK_val hxm.1)))) (gv_name 4 nd (hz := .inl ho)) ?_ ?_ ?_ (passes_of rfl)
    · rintro ds Γ1 ⟨rfl, rfl⟩
      exact ⟨rfl, fs, nm, rfl, hnd, hin, ⟨[], by simp⟩, fun y hy => by simp at hy⟩
    · rintro ds j d Γ1 hdj ⟨rfl, gs, nm, rfl, gnd, gin, ⟨t, gt⟩, gcl⟩
      obtain ⟨z, hz, rfl⟩ := strs_at' hdj
      have hzE : z ∈ E x := List.mem_of_getElem? hz
      refine ⟨_, rfl, bl_ifP (fun Γ => ∃ (gs : List Str) (nm : Option B), Γ = [sD (.dK (rowsK ks E)), sD (.str st), sL (gs.map .str), sI at_, nm] ∧ gs.Nodup ∧ (∀ y ∈ gs, y ∈ ks ∧ RchS E st y) ∧ (∃ t, gs = fs ++ t) ∧ ∀ y ∈ (E x).take (j + 1), y ∈ gs) (px_snap fun _ => px_ninS (pv_var 4) (.inl (pv_var 2))) (fun h => ?_) (fun h => ?_) ?_⟩
      · have hno : z ∉ gs := by simpa using h
        have hsz : gs.length < 100000 := by
          have := nodup_le gnd (m := ks) fun y hy => (gin y hy).1
          omega
        refine bl_appP 2 rfl (by rw [List.length_map]; exact hsz) (pv_var 4) (bl_nil ⟨gs ++ [z], sD (.str z), ?_, ?_, fun y hy => ?_, ⟨t ++ [z], by rw [gt, List.append_assoc]⟩, fun y hy => ?_⟩)
        · rw [List.map_append]; rfl
        · exact List.nodup_append.mpr ⟨gnd, by simp, fun a ha c hc q => hno (by rw [← List.mem_singleton.mp hc, ← q]; exact ha)⟩
        · rcases List.mem_append.mp hy with q | q
          · exact gin y q
          · rw [List.mem_singleton.mp q]
            exact ⟨hE x hxm.1 z hzE, .step hxm.2 hzE⟩
        · rw [take_snoc hz] at hy
          rcases List.mem_append.mp hy with q | q
          · exact List.mem_append_left _ (gcl y q)
          · exact List.mem_append_right _ q
      · refine bl_nil ⟨gs, _, rfl, gnd, gin, ⟨t, gt⟩, fun y hy => ?_⟩
        rw [take_snoc hz] at hy
        rcases List.mem_append.mp hy with q | q
        · exact gcl y q
        · rw [List.mem_singleton.mp q]; simpa using h
      · rintro Γ' ⟨gs, nm, h1, h2⟩
        exact bl_nil ⟨rfl, gs, nm, h1, h2⟩
    · rintro ds Γ1 ⟨rfl, gs, nm, rfl, gnd, gin, ⟨t, gt⟩, gcl⟩
      rw [List.length_map, List.take_length] at gcl
      refine bl_let 3 (hz := .inl ho) (d := .int ((at_ + 1 : Nat) : Int)) (pv_b op_add (pv_var 3) pv_int sc_add) (bl_nil ⟨ks.length - (at_ + 1), ?_, gs, at_ + 1, nm, rfl, rfl, gnd, gin, by rw [gt]; exact List.mem_append_left _ hst, by rw [gt, List.length_append]; omega, fun i y hi hy => ?_⟩)
      · have := nodup_le hnd (m := ks) fun y hy => (hin y hy).1
        omega
      · by_cases q : i = at_
        · subst q
          rw [gt, List.getElem?_append_left hlt', hx] at hy
          cases hy
          exact gcl
        · rw [gt, List.getElem?_append_left (by omega)] at hy
          intro v hv
          rw [gt]
          exact List.mem_append_left _ (hcl i y (by omega) hy v hv)
  · rintro Γ2 ⟨hge, rfl⟩
    have hge' : fs.length ≤ at_ := by
      have := of_decide_eq_false hge.symm
      rw [List.length_map] at this
      omega
    refine bl_retV 2 rfl (hz := .inl ho) ⟨fs, rfl, fun y => ⟨fun h => (hin y h).2, fun h => ?_⟩⟩
    induction h with
    | refl => exact hst
    | step _ hc ih =>
      obtain ⟨i, hi⟩ := List.getElem?_of_mem ih
      exact hcl i _ (by have := (List.getElem?_eq_some_iff.mp hi).1; omega) hi _ hc
/-! ### kinds_above -/
def succS (prs : List (Str × Str)) (x : Str) : List Str := (prs.filter fun p => decide (p.1 = x)).map (·.2)
open Classical in
noncomputable def aboveS (ks : List Str) (prs : List (Str × Str)) (x : Str) : List Str := ks.filter fun y => decide (RchS (succS prs) x y)
def uSP : D → Str × Str
  | .tup [.str a, .str b] => (a, b)
  | _ => (⟨#[]⟩, ⟨#[]⟩)
theorem uSP_p (p : Str × Str) : uSP (spairD p) = p := rfl
noncomputable def cAboves (ks : List Str) (prs : List (Str × Str)) : Fp where
  pre ds := ds = [dStrs ks, .lst (spairsD prs)] ∧ ks.Nodup ∧ (∀ p ∈ prs, p.1 ∈ ks ∧ p.2 ∈ ks) ∧ ks.length ≤ 1000 ∧ prs.length ≤ 10000
  post ds b := b = .ow (.dK (rowsK ks (aboveS ks prs)))
abbrev s_aboves : Stmt := top 31
abbrev nAboves : List Str := ["kinds", "pairs", "links", "kind", "above", "reached", "low", "high", "other"]
theorem scAboves : FnScope nAboves ["kinds", "pairs"] (defScope s_aboves) := ⟨rfl, rfl, rfl, by decide +kernel, rfl, by decide +kernel, by decide +kernel⟩
theorem ok_aboves {f : Addr} {fd : FuncData} (F : FunS K "kinds_above" s_aboves f fd) (b : Bi mg) (N : ∀ ks E s, Dx P w K mg base "spread" 2 (cSpread ks E s)) (ks : List Str) (prs : List (Str × Str)) : FnOk P w K mg base (L2.CX P w) 3 f fd ["kinds", "pairs"] (spP K (cAboves ks prs)) := by
  refine fp_ok F scAboves (fun ds ⟨h, _⟩ => by rw [h]; rfl) fun cdv A outer s e Ex ds ho ⟨hd, hnd, hpr, hl, hpl⟩ hr tk => ?_
  subst hd
  have nd := scAboves.nd
  have hsucc : ∀ x ∈ ks, ∀ y ∈ succS prs x, y ∈ ks := fun x _ y hy => by
    obtain ⟨p, hp, rfl⟩ := List.mem_map.mp hy
    exact (hpr p (List.mem_filter.mp hp).1).2
  refine bl_letO 2 (hz := .inl ho) (pn_eo pn_dK) ?_
  refine bl_for (fun ds i Γ => ds = ks.map .str ∧ ∃ x, Γ = [sD (dStrs ks), sD (.lst (spairsD prs)), sO (.dK (rowsK (ks.take i) (succS prs))), x, none, none, none, none, none]) (wv (wp_list (pv_var 0))) (gv_name 3 nd (hz := .inl ho)) ?_ ?_ ?_ (passes_of rfl)
  · rintro ds Γ1 ⟨rfl, rfl⟩
    exact ⟨rfl, none, rfl⟩
  · rintro ds i d Γ1 hdi ⟨rfl, x, rfl⟩
    obtain ⟨z, hz, rfl⟩ := strs_at' hdi
    refine ⟨_, rfl, bl_dput (Φ := Is (dStrs (succS prs z)) [sD (dStrs ks), sD (.lst (spairsD prs)), sO (.dK (rowsK (ks.take i) (succS prs))), sD (.str z), none, none, none, none, none]) 2 hr (pv_ev (pn_pv (pn_is (o' := .lst ((succS prs z).map .str)) (pn_lcA (c := spairD) (u := uSP) (l := prs) (f := fun p => [sD (dStrs ks), sD (.lst (spairsD prs)), sO (.dK (rowsK (ks.take i) (succS prs))), sD (.str z), none, none, sD (.str p.1), sD (.str p.2), none]) (own := [("low", 6), ("high", 7)]) (ix := [6, 7]) (bind := bTwo (bName 6) (bName 7)) (fun p => decide (p.1 = z)) (fun p => .str p.2) uSP_p (blk nAboves (defScope s_aboves)) nd
      (wp_list (pv_var 1)) (fun s H C cl fp => gv_two rfl (gv_name 6 nd (hz := .inl ho)) (gv_name 7 nd (hz := .inl ho))) (bindOk_two (bindOk_name 6) (bindOk_name 7)) (by decide) (.inl ho) (by omega) (fun p _ => ⟨_, _, _, rfl, rfl, rfl⟩) (fun p _ s H C cl fp => pts_if (px_cmp op_eq (pv_var 6) (pv_var 3) sc_eqS)) (fun p _ _ s H C cl fp => pv_var 7)) ?_))) ?_⟩
    · unfold succS
      rw [List.map_map]
      rfl
    · rintro d Γ1 ⟨rfl, rfl⟩
      refine ⟨_, z, rfl, pv_var 3, key_new hnd hz, by rw [rowsK_len, List.length_take]; omega, bl_nil ⟨rfl, sD (.str z), ?_⟩⟩
      rw [take_snoc hz, rowsK_app]
      rfl
  · rintro ds Γ1 ⟨rfl, x, rfl⟩
    rw [List.length_map, List.take_length]
    refine bl_frz 2 rfl (.inl ho) (bl_letO 4 (hz := .inl ho) (pn_eo pn_dK) ?_)
    refine bl_for (fun ds i Γ => ds = ks.map .str ∧ ∃ x r, Γ = [sD (dStrs ks), sD (.lst (spairsD prs)), sD (.dK (rowsK ks (succS prs))), x, sO (.dK (rowsK (ks.take i) (aboveS ks prs))), r, none, none, none]) (wv (wp_list (pv_var 0))) (gv_name 3 nd (hz := .inl ho)) ?_ ?_ ?_ (passes_of rfl)
    · rintro ds Γ1 ⟨rfl, rfl⟩
      exact ⟨rfl, x, none, rfl⟩
    · rintro ds i d Γ1 hdi ⟨rfl, x, r, rfl⟩
      obtain ⟨z, hz, rfl⟩ := strs_at' hdi
      have hzk := List.mem_of_getElem? hz
      refine ⟨_, rfl, bl_set 5 (hz := .inl ho) (Φ := fun d Γ => ∃ fs : List Str, d = dStrs fs ∧ (∀ y, y ∈ fs ↔ RchS (succS prs) z y) ∧ Γ = [sD (dStrs ks), sD (.lst (spairsD prs)), sD (.dK (rowsK ks (succS prs))), sD (.str z), sO (.dK (rowsK (ks.take i) (aboveS ks prs))), r, none, none, none]) (ev_call (U := fun _ _ _ => False) (N ks (succS prs) z) hr (by omega) takes_none (pvs_av (pvs_cons (pv_var 2) (pvs_cons (pv_var 3) pvs_nil))) ?_) ?_⟩
      · rintro ds Γ1 ⟨rfl, rfl⟩
        refine ⟨⟨rfl, hzk, hsucc, hl⟩, ?_, fun _ _ z => z.elim⟩
        rintro bb ⟨fs, rfl, hfs⟩
        exact ⟨_, .inr ⟨_, rfl, rfl⟩, fs, rfl, hfs, rfl⟩
      · rintro d Γ' ⟨fs, rfl, hfs, rfl⟩
        refine bl_dput (Φ := Is (dStrs (aboveS ks prs z)) [sD (dStrs ks), sD (.lst (spairsD prs)), sD (.dK (rowsK ks (succS prs))), sD (.str z), sO (.dK (rowsK (ks.take i) (aboveS ks prs))), sD (dStrs fs), none, none, none]) 4 hr (pv_ev (pn_pv (pn_is (o' := .lst ((aboveS ks prs z).map .str)) (pn_lcA (c := D.str) (u := uS) (l := ks) (f := fun p => [sD (dStrs ks), sD (.lst (spairsD prs)), sD (.dK (rowsK ks (succS prs))), sD (.str z), sO (.dK (rowsK (ks.take i) (aboveS ks prs))), sD (dStrs fs), none, none, sD (.str p)]) (own := [("other", 8)]) (ix := [8]) (bind := bName 8) (fun p => decide (p ∈ fs)) (fun p => .str p) uS_str (blk nAboves (defScope s_aboves)) nd
          (wp_list (pv_var 0)) (fun s H C cl fp => gv_name 8 nd (hz := .inl ho)) (bindOk_name 8) (by decide) (.inl ho) (by omega) (fun p _ => rfl) (fun p _ s H C cl fp => pts_if (px_inS (pv_var 8) (.inl (pv_var 5)))) (fun p _ _ s H C cl fp => pv_var 8)) ?_))) ?_
        · unfold aboveS
          congr 2
          exact List.filter_congr fun y _ => decide_eq_decide.mpr (hfs y)
        · rintro d Γ1 ⟨rfl, rfl⟩
          refine ⟨_, z, rfl, pv_var 3, key_new hnd hz, by rw [rowsK_len, List.length_take]; omega, bl_nil ⟨rfl, sD (.str z), sD (dStrs fs), ?_⟩⟩
          rw [take_snoc hz, rowsK_app]
          rfl
    · rintro ds Γ1 ⟨rfl, x, r, rfl⟩
      rw [List.length_map, List.take_length]
      exact bl_retV 4 rfl (hz := .inl ho) rfl
/-! ### check_rings -/
def cRings (ks : List Str) (E : Str → List Str) : Fp where
  pre ds := ds = [dStrs ks, .dK (rowsK ks E)] ∧ (∀ x ∈ ks, ∀ y ∈ E x, y ∈ ks) ∧ (∀ x y, x ∈ ks → y ∈ E x → x ∈ E y → x = y)
  post ds b := b = .st .non
abbrev s_rings : Stmt := top 32
abbrev nRings : List Str := ["kinds", "above", "low", "high"]
theorem scRings : FnScope nRings ["kinds", "above"] (defScope s_rings) := ⟨rfl, rfl, rfl, by decide +kernel, rfl, by decide +kernel, by decide +kernel⟩
theorem ok_rings {f : Addr} {fd : FuncData} (F : FunS K "check_rings" s_rings f fd) (ks : List Str) (E : Str → List Str) : FnOk P w K mg base (L2.CX P w) 1 f fd ["kinds", "above"] (spP K (cRings ks E)) := by
  refine fp_ok F scRings (fun ds ⟨h, _⟩ => by rw [h]; rfl) fun cdv A outer s e Ex ds ho ⟨hd, hE, hanti⟩ hr tk => ?_
  subst hd
  have nd := scRings.nd
  refine bl_for (fun ds i Γ => ds = ks.map .str ∧ ∃ x y, Γ = [sD (dStrs ks), sD (.dK (rowsK ks E)), x, y]) (wv (wp_list (pv_var 0))) (gv_name 2 nd (hz := .inl ho)) ?_ ?_ ?_ (passes_of rfl)
  · rintro ds Γ1 ⟨rfl, rfl⟩
    exact ⟨rfl, none, none, rfl⟩
  · rintro ds i d Γ1 hdi ⟨rfl, x, y, rfl⟩
    obtain ⟨z, hz, rfl⟩ := strs_at' hdi
    have hzk := List.mem_of_getElem? hz
    refine ⟨_, rfl, bl_for (fun ds j Γ => ds = (E z).map .str ∧ ∃ y, Γ = [sD (dStrs ks), sD (.dK (rowsK ks E)), sD (.str z), y]) (wv (wp_list (pv_dget hr (pv_var 1) (pv_var 2) (rowsK_val hzk)))) (gv_name 3 nd (hz := .inl ho)) ?_ ?_ ?_ (passes_of rfl)⟩
    · rintro ds Γ1 ⟨rfl, rfl⟩
      exact ⟨rfl, y, rfl⟩
    · rintro ds j d Γ1 hdj ⟨rfl, y, rfl⟩
      obtain ⟨v, hv, rfl⟩ := strs_at' hdj
      have hvE := List.mem_of_getElem? hv
      refine ⟨_, rfl, bl_ifR (px_w (pw_a (px_cmp op_ne (pv_var 2) (pv_var 3) sc_neS) fun _ => pw_a1 (px_inS (ns := E v) (pv_var 2) (.inl (pv_dget hr (pv_var 1) (pv_var 3) (rowsK_val (hE z hzk v hvE))))))) (fun h => ?_) fun _ => bl_nil ⟨rfl, _, rfl⟩⟩
      exfalso
      rw [Bool.and_eq_true] at h
      have h1 : z ≠ v := by simpa using h.1
      exact h1 (hanti z v hzk hvE (of_decide_eq_true h.2))
    · rintro ds Γ1 ⟨rfl, y, rfl⟩
      exact bl_nil ⟨rfl, _, _, rfl⟩
  · rintro ds Γ1 ⟨rfl, x, y, rfl⟩
    exact bl_nil rfl
end
end Kf
end
section
set_option maxRecDepth 100000
set_option maxHeartbeats 4000000
/-! KfR: a pure comprehension of two clauses. -/
namespace Kf
open PySem L2

section
variable {K : Fg} {e : Ent} {Γ : Gam}
/-- the world of the frame, seen behind what a block did -/
theorem Wd.bk {S2 S3 Sx H2 H' Hx : Hp} {σ σ4 : L2.St} {Γx : Gam} (w2 : Wd K e S2 H2 σ Γ) (k3 : Wd K e S3 H' σ Γ) (wx : Wd K e Sx Hx σ4 Γx) (px : Pur S3 H' Sx Hx) : Wd K e Sx Hx σ Γ := by
  refine ⟨wx.nx, w2.sl.len, fun j b z => ?_, w2.sl.dj, w2.sl.z⟩
  obtain ⟨v1, g1, g2⟩ := k3.sl.at_ j b z
  refine ⟨v1, g1, ?_⟩
  cases b with
  | st d => exact Rp.mono px.ss g2
  | xc a d fl => exact g2.xcm px.ss
  | nw d l => exact g2.elim
  | ow o1 =>
    obtain ⟨a, e1, e2, e3, e4⟩ := g2
    cases hz2 : H' a with
    | none => exact absurd hz2 e3.some
    | some u => exact ⟨a, e1, (px.old a (by rw [hz2]; exact fun z => nomatch z)).trans e2, e3.to px.ss ((px.hh _ _ hz2).trans hz2.symm), e4⟩
theorem pur_tmp {S1 S2 Sx H1 H2 Hx : Hp} {Dn : Addr} {xs : List V} {u : HO} (s2 : Pur S1 (upd H1 Dn (.lst [])) S2 (upd H2 Dn (.lst []))) (hx : H2 Dn = some (.lst xs)) (a1 : Pur S2 H2 Sx Hx) : Pur S1 (upd H1 Dn (.lst [])) Sx (upd (upd Hx Dn u) Dn (.lst [])) := by
  have a2 : Same (upd H2 Dn (.lst [])) (upd (upd Hx Dn u) Dn (.lst [])) := by
    rw [upd_upd]
    intro c o z
    by_cases hc : c = Dn
    · subst hc
      rw [upd_same] at z ⊢
      exact z
    · rw [upd_ne hc] at z ⊢
      exact a1.hh _ _ z
  refine ⟨s2.ss.trans a1.ss, s2.hh.trans a2, fun c z => (a1.old c ?_).trans (s2.old c z)⟩
  by_cases hc : c = Dn
  · rw [hc, hx]; exact fun z => nomatch z
  · have := s2.al c z
    rw [upd_ne hc] at this
    exact this
def flat2 (es : D → List D) (g : D → D → D) (l : List D) : List D := l.flatMap fun d => (es d).map (g d)
theorem lc2_imp {vs vs1 ix ix1 : List Nat} {bind bind1 : D → Gam → Gam → Prop} {ds : List D} {f : D → Gam} {es : D → List D} {f2 : D → D → Gam} {g : D → D → D} (hb : BindOk ix bind) (hix : ∀ j ∈ ix, j ∈ vs) (hb1 : BindOk ix1 bind1) (hix1 : ∀ j ∈ ix1, j ∈ vs1) (hz : e.own = none)
    (hlen : (flat2 es g ds).length ≤ 100000) (hs : ∀ d ∈ ds, bind d (wipeG Γ vs) (f d)) (hs1 : ∀ d ∈ ds, ∀ c ∈ es d, bind1 c (wipeG (f d) vs1) (f2 d c))
    (σ : L2.St) (H : Hp) (Q : VK) (h : tPN K e Γ (.lst (flat2 es g ds)) σ H Q) :
    tLc2 (tIP K e Γ ds) (tG K e ix bind) (fun σ H Q => ∃ d ∈ ds, tPX K e (f d) true σ H Q) (fun σ H R => ∃ d ∈ ds, tIP K e (f d) (es d) σ H R) (tG K e ix1 bind1) (fun σ H Q => ∃ d ∈ ds, ∃ c ∈ es d, tPX K e (f2 d c) true σ H Q) (fun σ H Q => ∃ d ∈ ds, ∃ c ∈ es d, tP K e (f2 d c) (g d c) σ H Q) vs vs1 σ H Q := by
  obtain ⟨S, w, q⟩ := h
  refine ⟨S, w, fun S1 H1 J s1 w1 it Dn hD => ?_⟩
  have hD0 : e.H0 Dn = none := w1.nx.fresh hD
  have nsl := w1.fresh_ne hD
  have fl : ∀ i d, ds[i]? = some d → flat2 es g (ds.take (i + 1)) = flat2 es g (ds.take i) ++ (es d).map (g d) := fun i d hd => by
    have tk : ds.take (i + 1) = ds.take i ++ [d] := by rw [List.take_succ, hd]; rfl
    unfold flat2
    rw [tk, List.flatMap_append, List.flatMap_singleton]
  have fll : ∀ i d, ds[i]? = some d → ∀ j, (flat2 es g (ds.take i)).length + min j (es d).length ≤ 100000 := fun i d hd j => by
    have h1 := fl i d hd
    have h2 : flat2 es g ds = flat2 es g (ds.take (i + 1)) ++ flat2 es g (ds.drop (i + 1)) := by
      unfold flat2
      rw [← List.flatMap_append, List.take_append_drop]
    rw [h2, h1, List.length_append, List.length_append, List.length_map] at hlen
    omega
  refine ⟨fun i m H2 => m = ds.length - i ∧ i ≤ ds.length ∧ ∃ S2 xs, Pur S1 (upd H1 Dn (.lst [])) S2 (upd H2 Dn (.lst [])) ∧ Wd K e S2 H2 σ Γ ∧ S2 Dn = none ∧ H2 Dn = some (.lst xs) ∧ RpL K S2 xs (flat2 es g (ds.take i)),
    ⟨ds.length, by simp, Nat.zero_le _, S1, [], ⟨Same.refl _, by rw [upd_upd]; exact Same.refl _, fun _ _ => rfl⟩, w1.own hD, w1.nx.sh.free hD, upd_same, .nil⟩, ?_⟩
  rintro i m H2 ⟨rfl, hi, S2, xs, s2, w2, sD, hx, rx⟩
  by_cases hlt : i < ds.length
  · have hmem : ds[i] ∈ ds := List.getElem_mem hlt
    have hdi : ds[i]? = some ds[i] := List.getElem?_eq_getElem hlt
    refine .inr ⟨it.go i S2 H2 hlt s2.ss w2.nx.sh, fun H' => i + 1 ≤ ds.length ∧ ∃ S3 xs, Pur S1 (upd H1 Dn (.lst [])) S3 (upd H' Dn (.lst [])) ∧ Wd K e S3 H' σ Γ ∧ S3 Dn = none ∧ H' Dn = some (.lst xs) ∧ RpL K S3 xs (flat2 es g (ds.take (i + 1))),
      fun H' ⟨z1, z2⟩ => ⟨ds.length - (i + 1), by omega, rfl, z1, z2⟩, fun v H' y => ?_⟩
    obtain ⟨S3, p3, k3, r3⟩ := it.yld i _ S2 H2 v H' hdi s2.ss w2.nx.sh y
    have kk := k3 _ _ w2
    have w3 := kk.wipe (vs := vs) (.inl hz)
    have sD3 : S3 Dn = none := (p3.old Dn (by rw [hx]; exact fun z => nomatch z)).trans sD
    have hx3 : H' Dn = some (.lst xs) := p3.hh _ _ hx
    refine ⟨S3, wipeG Γ vs, _, _, w3, r3, hs _ hmem, fun σ4 k4 l4 w4 => ?_⟩
    have lw : σ4.length = σ.length := l4.trans (wipe_length σ vs)
    have ew : L2.wipe σ4 vs = L2.wipe σ vs := wipe_eq lw k4 hix
    refine ⟨ew, ds[i], hmem, S3, w4, fun S5 H5 s5 w5 => ?_⟩
    refine iteT ⟨ds[i], hmem, S5, w5, fun S6 H6 J1 s6 w6 it1 => ?_⟩
    have s36 := s5.trans s6
    have nDf : ∀ (j : Nat) (o' : O), (f ds[i])[j]? = some (some (.ow o')) → σ4[j]? ≠ some (some (.ref Dn)) := fun j o' h1 h2 => by
      obtain ⟨g1, g2⟩ := hb _ _ _ (hs _ hmem) j o' h1
      obtain ⟨g3, g4⟩ := wipeG_get g1
      rw [k4 j g2, wipe_ne g4] at h2
      exact nsl j o' g3 h2
    refine ⟨fun j m H7 => m = (es ds[i]).length - j ∧ j ≤ (es ds[i]).length ∧ ∃ S7 ys, Pur S1 (upd H1 Dn (.lst [])) S7 (upd H7 Dn (.lst [])) ∧ Wd K e S7 H7 σ4 (f ds[i]) ∧ Wd K e S7 H7 σ Γ ∧ Same S6 S7 ∧ S7 Dn = none ∧ H7 Dn = some (.lst ys) ∧ RpL K S7 ys (flat2 es g (ds.take i) ++ ((es ds[i]).take j).map (g ds[i])),
      ⟨(es ds[i]).length, by simp, Nat.zero_le _, S6, xs, ?_, w6, w2.bk kk w6 s36, Same.refl _, (s36.old Dn (by rw [hx3]; exact fun z => nomatch z)).trans sD3, s36.hh _ _ hx3, by rw [List.take_zero, List.map_nil, List.append_nil]; exact rx.mono (p3.ss.trans s36.ss)⟩, ?_⟩
    · have := pur_tmp (u := .lst xs) s2 hx (p3.trans s36)
      rw [upd_upd] at this
      exact this
    rintro j m H7 ⟨rfl, hj, S7, ys, s7, w7, v7, s67, sD7, hy7, ry⟩
    by_cases hlt2 : j < (es ds[i]).length
    · have hmem2 : (es ds[i])[j] ∈ es ds[i] := List.getElem_mem hlt2
      refine .inr ⟨it1.go j S7 H7 hlt2 s67 w7.nx.sh, fun H8 => j + 1 ≤ (es ds[i]).length ∧ ∃ S7 ys, Pur S1 (upd H1 Dn (.lst [])) S7 (upd H8 Dn (.lst [])) ∧ Wd K e S7 H8 σ4 (f ds[i]) ∧ Wd K e S7 H8 σ Γ ∧ Same S6 S7 ∧ S7 Dn = none ∧ H8 Dn = some (.lst ys) ∧ RpL K S7 ys (flat2 es g (ds.take i) ++ ((es ds[i]).take (j + 1)).map (g ds[i])),
        fun H8 ⟨z1, z2⟩ => ⟨(es ds[i]).length - (j + 1), by omega, rfl, z1, z2⟩, fun c H8 y8 => ?_⟩
      obtain ⟨S8, p8, k8, r8⟩ := it1.yld j _ S7 H7 c H8 (List.getElem?_eq_getElem hlt2) s67 w7.nx.sh y8
      have k84 := k8 _ _ w7
      have k8σ := k8 _ _ v7
      have w8 := k84.wipe (vs := vs1) (.inl hz)
      refine ⟨S8, wipeG (f ds[i]) vs1, _, _, w8, r8, hs1 _ hmem _ hmem2, fun σ9 k9 l9 w9 => ?_⟩
      have lw9 : σ9.length = σ4.length := l9.trans (wipe_length σ4 vs1)
      have ew9 : L2.wipe σ9 vs1 = L2.wipe σ4 vs1 := wipe_eq lw9 k9 hix1
      have sD8 : S8 Dn = none := (p8.old Dn (by rw [hy7]; exact fun z => nomatch z)).trans sD7
      have hy8 : H8 Dn = some (.lst ys) := p8.hh _ _ hy7
      refine ⟨ew9, ds[i], hmem, _, hmem2, S8, w9, fun S10 H10 s10 w10 => iteT ⟨ds[i], hmem, _, hmem2, S10, w10, fun S11 H11 yv s11 w11 r11 => ?_⟩⟩
      have st := s10.trans s11
      have sD11 : S11 Dn = none := (st.old Dn (by rw [hy8]; exact fun z => nomatch z)).trans sD8
      have tk2 : (es ds[i]).take (j + 1) = (es ds[i]).take j ++ [(es ds[i])[j]] := List.take_succ_eq_append_getElem hlt2
      refine ⟨ys, st.hh _ _ hy8, ?_, hlt2, S11, ys ++ [yv], ?_, ?_, ?_, s67.trans (p8.ss.trans st.ss), sD11, upd_same, ?_⟩
      · rw [ry.length, List.length_append, List.length_map, List.length_take]
        exact Nat.lt_of_le_of_lt (fll i _ hdi j) (by decide)
      · exact pur_tmp s7 hy7 (p8.trans st)
      · exact (w7.bk k84 w11 st).tmp sD11 hD0 nDf
      · exact (v7.bk k8σ w11 st).tmp sD11 hD0 nsl
      · rw [tk2, List.map_append, ← List.append_assoc]
        exact (ry.mono (p8.ss.trans st.ss)).append (.cons r11 .nil)
    · have ej : j = (es ds[i]).length := by omega
      subst ej
      rw [List.take_length, ← fl i _ hdi] at ry
      exact .inl ⟨it1.stop _ S7 H7 (Nat.le_refl _) s67 w7.nx.sh, hlt, S7, ys, s7, v7, sD7, hy7, ry⟩
  · have ei : i = ds.length := by omega
    subst ei
    rw [List.take_length] at rx
    have fin : Pur S H S2 H2 := by
      refine ⟨s1.ss.trans s2.ss, fun c u z => ?_, fun c z => ?_⟩
      · have h1 := s1.hh _ _ z
        have hc : c ≠ Dn := ne_of_none h1 hD
        have h2 := s2.hh c u (by rw [upd_ne hc]; exact h1)
        rw [upd_ne hc] at h2
        exact h2
      · have h1 := s1.al c z
        have hc : c ≠ Dn := fun y => h1 (by rw [y]; exact hD)
        exact (s2.old c (by rw [upd_ne hc]; exact h1)).trans (s1.old c z)
    exact .inl ⟨it.stop _ S2 H2 (Nat.le_refl _) s2.ss w2.nx.sh, q S2 H2 Dn fin w2 sD ⟨xs, hx, rx⟩ (s1.hh.free hD)⟩
end
section
variable {X : Cx} {e : Ent} {Γ : Gam}
/-- [elt for tg in it for tg1 in it1], pure -/
theorem pn_lc2 {elt tg iter tg1 iter1 : Expr} {scope : Scope} {own : List (Str × Nat)} {vs1 : List Nat} {pos : Pos} {ix ix1 : List Nat} {bind bind1 : D → Gam → Gam → Prop} {ds : List D} {f : D → Gam} {es : D → List D} {f2 : D → D → Gam} (g : D → D → D) (ok : BlkOk X.N X.env.scope scope own) (hN : X.N.Nodup) (hw : WP X e tg iter Γ ds)
    (hg : ∀ (s : Shared) (H : Hp) (C : Addr) (cl : List (Str × Addr)) (fp : List Addr), GV (X.blk s H scope (compEnvC scope cl C X.env) fp) e tg ix bind) (hb : BindOk ix bind) (hix : ∀ j ∈ ix, j ∈ own.map (·.2))
    (hw1 : ∀ d ∈ ds, ∀ (s : Shared) (H : Hp) (C : Addr) (cl : List (Str × Addr)) (fp : List Addr), WP (X.blk s H scope (compEnvC scope cl C X.env) fp) e tg1 iter1 (f d) (es d))
    (hg1 : ∀ (s : Shared) (H : Hp) (C : Addr) (cl : List (Str × Addr)) (fp : List Addr), GV (X.blk s H scope (compEnvC scope cl C X.env) fp) e tg1 ix1 bind1) (hb1 : BindOk ix1 bind1) (hix1 : ∀ j ∈ ix1, j ∈ vs1) (hv : ∀ i ∈ vs1, i ∈ own.map (·.2)) (hz : e.own = none) (hlen : (flat2 es g ds).length ≤ 100000)
    (hs : ∀ d ∈ ds, bind d (wipeG Γ (own.map (·.2))) (f d)) (hs1 : ∀ d ∈ ds, ∀ c ∈ es d, bind1 c (wipeG (f d) vs1) (f2 d c))
    (he : ∀ d ∈ ds, ∀ c ∈ es d, ∀ (s : Shared) (H : Hp) (C : Addr) (cl : List (Str × Addr)) (fp : List Addr), PV (X.blk s H scope (compEnvC scope cl C X.env) fp) e elt (f2 d c) (g d c))
    (hc : X.calm = true := by rfl) (hfs : ∀ x, foldedSetIterable iter X.env x = pure x := by intro _; rfl) (hfs1 : ∀ env x, foldedSetIterable iter1 env x = pure x := by intro _ _; rfl) : PN X e (.ListComp elt [⟨tg, iter, [], 0⟩, ⟨tg1, iter1, [], 0⟩] scope pos) Γ (.lst (flat2 es g ds)) :=
  PE.imp (pe_lc2 (tt := fun σ H Q => ∃ d ∈ ds, tPX X.K e (f d) true σ H Q) (wi1 := fun σ H R => ∃ d ∈ ds, tIP X.K e (f d) (es d) σ H R) (tt1 := fun σ H Q => ∃ d ∈ ds, ∃ c ∈ es d, tPX X.K e (f2 d c) true σ H Q) (te := fun σ H Q => ∃ d ∈ ds, ∃ c ∈ es d, tP X.K e (f2 d c) (g d c) σ H Q) hc hN hw ok hv hg
    (fun s H C cl fp => ⟨fun pins s2 σ H2 Q I ⟨d, hd, q⟩ => (pts_none (Γ := f d)).run pins s2 σ H2 Q I q⟩)
    (fun s H C cl fp => ⟨fun pins s2 σ H2 Q I ⟨d, hd, q⟩ => (hw1 d hd s H C cl fp).run pins s2 σ H2 Q I q⟩) hg1
    (fun s H C cl fp => ⟨fun pins s2 σ H2 Q I ⟨d, hd, c, hcc, q⟩ => (pts_none (Γ := f2 d c)).run pins s2 σ H2 Q I q⟩)
    (fun s H C cl fp => ⟨fun pins s2 σ H2 Q I ⟨d, hd, c, hcc, q⟩ => (he d hd c hcc s H C cl fp).run pins s2 σ H2 Q I q⟩) hfs hfs1) fun σ H Q h => lc2_imp hb hix hb1 hix1 hz hlen hs hs1 σ H Q h
end
end Kf
end
section
set_option maxRecDepth 100000
set_option maxHeartbeats 4000000
/-! KfS3: Order. -/
namespace Kf
open PySem L2

def clsB : Stmt → List Stmt
  | .ClassDef (body := b) .. => b
  | _ => []
def mem (i j : Nat) : Stmt := (clsB (top i)).getD j (.Pass ⟨0, 0, 0, 0⟩)
/-- an Order's fields -/
def dOrd (ks : List Str) (E : Str → List Str) : List (Str × D) := [("kinds", .tup (ks.map .str)), ("_above", .dK (rowsK ks E))]
/-- the class Order -/
structure OrC (K : Fg) (mg : Str → Option Value) : Prop where
  cls : Cls K (He.ga K "Order")
  nk : NoAttr K (He.ga K "Order") "kinds"
  na : NoAttr K (He.ga K "Order") "_above"
  ins : C8.InsC K (He.ga K "Order")
  gl : mg "Order" = some (.ref (He.ga K "Order"))
  rd : ClX.CRead K (He.ga K "Order") (.type "type")
  most : ∃ t, ClX.CVal K (He.ga K "Order") (.type "type") "MOST" (.int 10) (.int 10 t)
def relS (ks : List Str) (E : Str → List Str) : List (Str × Str) := ks.flatMap fun x => (E x).map fun y => (x, y)
theorem mem_relS {ks : List Str} {E : Str → List Str} {p : Str × Str} : p ∈ relS ks E ↔ p.1 ∈ ks ∧ p.2 ∈ E p.1 := by
  unfold relS
  rw [List.mem_flatMap]
  constructor
  · rintro ⟨x, hx, hp⟩
    obtain ⟨y, hy, rfl⟩ := List.mem_map.mp hp
    exact ⟨hx, hy⟩
  · rintro ⟨h1, h2⟩
    exact ⟨_, h1, List.mem_map.mpr ⟨_, h2, rfl⟩⟩
section
variable {P : Program} {w : World} {K : Fg} {mg : Str → Option Value} {base : Heap} {x qual : Str} {dvs : List V}
abbrev FunM (K : Fg) (x q : Str) (dvs : List V) (st : Stmt) (f : Addr) (fd : FuncData) : Prop := FunD K x q (defArgs st) (defBody st) (defScope st) dvs [] f fd
/-! ### Order(kinds, pairs) -/
noncomputable def cOrdI (ks : List Str) (prs : List (Str × Str)) : Fo where
  pre o ds := o = .obj "Order" [] ∧ (ds = [dStrs ks, .lst (spairsD prs)] ∨ ds = [.tup (ks.map .str), .lst (spairsD prs)]) ∧ 1 ≤ ks.length ∧ ks.length ≤ 10 ∧ ks.Nodup ∧ (∀ z ∈ ks, KName z) ∧ (∀ p ∈ prs, p.1 ∈ ks ∧ p.2 ∈ ks) ∧ prs.length ≤ 10000 ∧ (∀ x y, x ∈ ks → y ∈ aboveS ks prs x → x ∈ aboveS ks prs y → x = y)
  post o ds b o' := b = .st .non ∧ o' = .obj "Order" (dOrd ks (aboveS ks prs))
  exn _ _ _ _ _ := False
abbrev s_ordI : Stmt := mem 33 1
abbrev nOrdI : List Str := ["self", "kinds", "pairs", "listed", "low", "high", "above"]
theorem scOrdI : FnScope nOrdI ["self", "kinds", "pairs"] (defScope s_ordI) := ⟨rfl, rfl, rfl, by decide +kernel, rfl, by decide +kernel, by decide +kernel⟩
theorem ok_ordI {f : Addr} {fd : FuncData} (F : FunM K x qual dvs s_ordI f fd) (b : Bi mg) (oc : OrC K mg) (N1 : ∀ ks, Dx P w K mg base "check_kind_names" 2 (cNamesOk ks)) (N2 : ∀ ks z, Dx P w K mg base "check_listed" 3 (cListed ks z)) (N3 : ∀ ks prs, Dx P w K mg base "kinds_above" 3 (cAboves ks prs)) (N4 : ∀ ks E, Dx P w K mg base "check_rings" 1 (cRings ks E))
    (ks : List Str) (prs : List (Str × Str)) : FnOk P w K mg base (L2.CX P w) 4 f fd ["self", "kinds", "pairs"] (spO K (cOrdI ks prs)) := by
  refine fo_ok F scOrdI (fun o ds ⟨_, h, _⟩ => by rcases h with h | h <;> rw [h] <;> rfl) fun cdv A outer s e Ex o ds ⟨hob, hd, h1, h2, hnd, hnm, hpr, hpl, hanti⟩ hr tk => ?_
  have nd := scOrdI.nd
  have go : ∀ d0, d0 = .tup (ks.map .str) ∨ d0 = dStrs ks → ds = [d0, .lst (spairsD prs)] → BL (cxOf (L2.CX P w) P w K mg base nOrdI qual (defScope s_ordI) f cdv A outer s e.H0 Ex) e (defBody s_ordI) (gam0 nOrdI (.ow o :: ds.map .st)) { nx := fun Γ => ∃ o', Γ[0]? = some (some (.ow o')) ∧ (cOrdI ks prs).post o ds (.st .non) o', rt := fun b Γ => ∃ o', Γ[0]? = some (some (.ow o')) ∧ (cOrdI ks prs).post o ds b o' } := fun d0 hdd hds => by
    clear hd
    subst hds hob
    refine bl_letO 3 (hz := .inr (by decide)) (o := .lst (ks.map .str)) (pn_eo (pn_list (by
      rcases hdd with rfl | rfl
      · exact .inr (pv_var 1)
      · exact .inl (pv_var 1)) b.list)) (bl_frz 3 rfl (.inr (by decide)) ?_)
    refine bl_ifR (px_not (px_is (px_ch (k := true) (l := true) op_le op_le pv_int (pv_lenL (pv_var 3) b.len) (pv_con oc.rd oc.most oc.gl) (by
      have : true = decide ((1 : Int) ≤ ((ks.map D.str).length : Int)) := by rw [List.length_map]; exact (decide_eq_true (by omega)).symm
      rw [this]; exact sc_le) (fun _ => by
      have : true = decide (((ks.map D.str).length : Int) ≤ 10) := by rw [List.length_map]; exact (decide_eq_true (by omega)).symm
      rw [this]; exact sc_le)) rfl)) (fun h => by cases h) fun _ => ?_
    refine bl_do (pv_ev (pv_call (d := .non) (N1 ks) hr (by omega) (pvs_cons (pv_var 3) pvs_nil) ⟨rfl, hnd, hnm, by omega⟩ (fun _ h => h) (fun _ _ h => h.elim))) ?_
    rintro d Γ1 ⟨rfl, rfl⟩
    refine bl_for (fun ds i Γ => ds = spairsD prs ∧ ∃ a c, Γ = [some (.ow (.obj "Order" [])), sD d0, sD (.lst (spairsD prs)), sD (dStrs ks), a, c, none]) (wv (wp_list (pv_var 2))) (gv_two rfl (gv_name 4 nd (hz := .inr (by decide))) (gv_name 5 nd (hz := .inr (by decide)))) ?_ ?_ ?_ (passes_of rfl)
    · rintro ds Γ1 ⟨rfl, rfl⟩
      exact ⟨rfl, none, none, rfl⟩
    · rintro ds i d Γ1 hdi ⟨rfl, a, c, rfl⟩
      obtain ⟨p, hp, rfl⟩ : ∃ p, p ∈ prs ∧ d = spairD p := by
        unfold spairsD at hdi
        rw [List.getElem?_map] at hdi
        cases z : prs[i]? with
        | none => rw [z] at hdi; cases hdi
        | some p => rw [z] at hdi; cases hdi; exact ⟨p, List.mem_of_getElem? z, rfl⟩
      refine ⟨_, ⟨_, _, _, rfl, rfl, rfl⟩, bl_do (pv_ev (pv_call (d := .non) (N2 ks p.1) hr (by omega) (pvs_cons (pv_var 3) (pvs_cons (pv_var 4) pvs_nil)) (.inr rfl) (fun _ h => h.1) (fun _ _ h => h.1 (hpr p hp).1))) ?_⟩
      rintro d Γ1 ⟨rfl, rfl⟩
      refine bl_do (pv_ev (pv_call (d := .non) (N2 ks p.2) hr (by omega) (pvs_cons (pv_var 3) (pvs_cons (pv_var 5) pvs_nil)) (.inr rfl) (fun _ h => h.1) (fun _ _ h => h.1 (hpr p hp).2))) ?_
      rintro d Γ1 ⟨rfl, rfl⟩
      exact bl_nil ⟨rfl, _, _, rfl⟩
    · rintro ds Γ1 ⟨rfl, a, c, rfl⟩
      refine bl_letO 6 (hz := .inr (by decide)) (pn_eo (pn_call (N3 ks prs) hr (by omega) (pvs_cons (pv_var 3) (pvs_cons (pv_var 2) pvs_nil)) ⟨rfl, hnd, hpr, by omega, hpl⟩ (fun _ h => h) (fun _ _ h => h.elim))) (bl_frz 6 rfl (.inr (by decide)) ?_)
      refine bl_do (pv_ev (pv_call (d := .non) (N4 ks (aboveS ks prs)) hr (by omega) (pvs_cons (pv_var 3) (pvs_cons (pv_var 6) pvs_nil)) ⟨rfl, fun x _ y hy => (List.mem_filter.mp hy).1, hanti⟩ (fun _ h => h) (fun _ _ h => h.elim))) ?_
      rintro d Γ1 ⟨rfl, rfl⟩
      refine bl_fld (fs0 := []) 0 oc.cls oc.nk (pv_ev (pv_tupL (pv_var 3) b.tuple)) ?_
      rintro d Γ1 ⟨rfl, rfl⟩
      refine ⟨[], rfl, rfl, by decide, bl_fld (fs0 := []) 0 oc.cls oc.na (pv_ev (pv_var 6)) ?_⟩
      rintro d Γ1 ⟨rfl, rfl⟩
      exact ⟨_, rfl, by rfl, (show 1 < 900 by decide), bl_nil ⟨_, rfl, rfl, rfl⟩⟩
  rcases hd with h | h
  · exact go _ (.inr rfl) h
  · exact go _ (.inl rfl) h
/-! ### below -/
def cBelow (ks : List Str) (E : Str → List Str) (lo hi : Str) : Fp where
  pre ds := ds = [.obj "Order" (dOrd ks E), .str lo, .str hi] ∧ lo ∈ ks ∧ hi ∈ ks
  post ds b := b = .st (.bl (decide (hi ∈ E lo)))
  exn _ _ _ := False
abbrev s_below : Stmt := mem 33 7
abbrev nBelow : List Str := ["self", "low", "high"]
theorem scBelow : FnScope nBelow nBelow (defScope s_below) := ⟨rfl, rfl, rfl, by decide +kernel, rfl, by decide +kernel, by decide +kernel⟩
theorem ok_below {f : Addr} {fd : FuncData} (F : FunM K x qual dvs s_below f fd) (oc : OrC K mg) (N2 : ∀ ks z, Dx P w K mg base "check_listed" 3 (cListed ks z)) (ks : List Str) (E : Str → List Str) (lo hi : Str) : FnOk P w K mg base (L2.CX P w) 4 f fd nBelow (spP K (cBelow ks E lo hi)) := by
  refine fp_ok F scBelow (fun ds ⟨h, _⟩ => by rw [h]; rfl) fun cdv A outer s e Ex ds ho ⟨hd, h1, h2⟩ hr tk => ?_
  subst hd
  refine bl_do (pv_ev (pv_call (d := .non) (N2 ks lo) hr (by omega) (pvs_cons (pv_fld oc.cls oc.nk (pv_var 0) rfl) (pvs_cons (pv_var 1) pvs_nil)) (.inl rfl) (fun _ h => h.1) (fun _ _ h => h.1 h1))) ?_
  rintro d Γ1 ⟨rfl, rfl⟩
  refine bl_do (pv_ev (pv_call (d := .non) (N2 ks hi) hr (by omega) (pvs_cons (pv_fld oc.cls oc.nk (pv_var 0) rfl) (pvs_cons (pv_var 2) pvs_nil)) (.inl rfl) (fun _ h => h.1) (fun _ _ h => h.1 h2))) ?_
  rintro d Γ1 ⟨rfl, rfl⟩
  exact bl_retP (pv_inS (ns := E lo) (pv_var 2) (.inl (pv_dget hr (pv_fld oc.cls oc.na (pv_var 0) rfl) (pv_var 1) (rowsK_val h1)))) rfl
/-! ### _related -/
def cRel (ks : List Str) (E : Str → List Str) : Fp where
  pre ds := ds = [.obj "Order" (dOrd ks E)] ∧ (relS ks E).length ≤ 10000
  post ds b := b = .ow (.lst (spairsD (relS ks E)))
  exn _ _ _ := False
abbrev s_rel : Stmt := mem 33 9
abbrev nRel : List Str := ["self", "low", "high"]
theorem scRel : FnScope nRel ["self"] (defScope s_rel) := ⟨rfl, rfl, rfl, by decide +kernel, rfl, by decide +kernel, by decide +kernel⟩
theorem flat2_rel (ks : List Str) (E : Str → List Str) : flat2 (fun d => (E (uS d)).map .str) (fun d c => .tup [d, c]) (ks.map .str) = spairsD (relS ks E) := by
  unfold flat2 relS spairsD
  rw [List.flatMap_map, List.map_flatMap]
  congr 1
  funext x
  rw [List.map_map, List.map_map]
  rfl
theorem ok_rel {f : Addr} {fd : FuncData} (F : FunM K x qual dvs s_rel f fd) (oc : OrC K mg) (ks : List Str) (E : Str → List Str) : FnOk P w K mg base (L2.CX P w) 1 f fd ["self"] (spP K (cRel ks E)) := by
  refine fp_ok F scRel (fun ds ⟨h, _⟩ => by rw [h]; rfl) fun cdv A outer s e Ex ds ho ⟨hd, hl⟩ hr tk => ?_
  subst hd
  have nd := scRel.nd
  refine bl_retO (pn_eo (pn_is (o' := .lst (spairsD (relS ks E))) (pn_lc2 (own := [("low", 1), ("high", 2)]) (vs1 := [2]) (ix := [1]) (ix1 := [2]) (bind := bName 1) (bind1 := bName 2) (ds := ks.map .str) (f := fun d => [sD (.obj "Order" (dOrd ks E)), sD d, none]) (es := fun d => (E (uS d)).map .str) (f2 := fun d c => [sD (.obj "Order" (dOrd ks E)), sD d, sD c]) (fun d c => .tup [d, c]) (blk nRel (defScope s_rel)) nd
    (wp_tup (pv_fld oc.cls oc.nk (pv_var 0) rfl)) (fun s H C cl fp => gv_name 1 nd (hz := .inl ho)) (bindOk_name 1) (by decide)
    (fun d hd s H C cl fp => by
      obtain ⟨z, hz, rfl⟩ := List.mem_map.mp hd
      exact wp_list (pv_dget hr (pv_fld oc.cls oc.na (pv_var 0) rfl) (pv_var 1) (rowsK_val hz)))
    (fun s H C cl fp => gv_name 2 nd (hz := .inl ho)) (bindOk_name 2) (by decide) (by decide) ho (by rw [flat2_rel]; unfold spairsD; rw [List.length_map]; omega)
    (fun d _ => rfl) (fun d _ c _ => rfl) (fun d _ c _ s H C cl fp => pv_tup (pvs_cons (pv_var 1) (pvs_cons (pv_var 2) pvs_nil)))) (congrArg O.lst (flat2_rel ks E)))) ?_
  rintro o Γ1 ⟨rfl, rfl⟩
  rfl
/-! ### <= -/
def leS (ks : List Str) (E : Str → List Str) (ls : List Str) (G : Str → List Str) : Bool := ks.all (fun z => decide (z ∈ ls)) && (relS ks E).all fun p => decide (p.2 ∈ G p.1)
def cOrdLe (ks : List Str) (E : Str → List Str) (ls : List Str) (G : Str → List Str) : Fp where
  pre ds := ds = [.obj "Order" (dOrd ks E), .obj "Order" (dOrd ls G)] ∧ (relS ks E).length ≤ 10000
  post ds b := b = .st (.bl (leS ks E ls G))
  exn _ _ _ := False
abbrev s_ordLe : Stmt := mem 33 19
abbrev nOrdLe : List Str := ["self", "other", "kind", "low", "high"]
theorem scOrdLe : FnScope nOrdLe ["self", "other"] (defScope s_ordLe) := ⟨rfl, rfl, rfl, by decide +kernel, rfl, by decide +kernel, by decide +kernel⟩
theorem ok_ordLe {f : Addr} {fd : FuncData} (F : FunM K x qual dvs s_ordLe f fd) (b : Bi mg) (oc : OrC K mg) (R : ∀ ks E, Md P w K mg base "Order" "_related" 1 (cRel ks E)) (ks : List Str) (E : Str → List Str) (ls : List Str) (G : Str → List Str) : FnOk P w K mg base (L2.CX P w) 3 f fd ["self", "other"] (spP K (cOrdLe ks E ls G)) := by
  refine fp_ok F scOrdLe (fun ds ⟨h, _⟩ => by rw [h]; rfl) fun cdv A outer s e Ex ds ho ⟨hd, hl⟩ hr tk => ?_
  subst hd
  have nd := scOrdLe.nd
  refine bl_ifR (px_not (px_val (pv_isO oc.ins (pv_var 1) oc.gl b.isinstance))) (fun h => by cases h) fun _ => ?_
  refine bl_for (fun ds i Γ => ds = ks.map .str ∧ (∀ z ∈ ks.take i, z ∈ ls) ∧ ∃ a, Γ = [sD (.obj "Order" (dOrd ks E)), sD (.obj "Order" (dOrd ls G)), a, none, none]) (wv (wp_tup (pv_fld oc.cls oc.nk (pv_var 0) rfl))) (gv_name 2 nd (hz := .inl ho)) ?_ ?_ ?_ (passes_of rfl)
  · rintro ds Γ1 ⟨rfl, rfl⟩
    exact ⟨rfl, fun z hz => by simp at hz, none, rfl⟩
  · rintro ds i d Γ1 hdi ⟨rfl, hall, a, rfl⟩
    obtain ⟨z, hz, rfl⟩ := strs_at' hdi
    refine ⟨_, rfl, bl_ifR (px_ninS (ns := ls) (pv_var 2) (.inr (pv_fld oc.cls oc.nk (pv_var 1) rfl))) (fun h => ?_) fun h => bl_nil ⟨rfl, fun y hy => ?_, _, rfl⟩⟩
    · refine bl_retP pv_bl ?_
      show B.st (.bl false) = _
      have : leS ks E ls G = false := by
        unfold leS
        rw [Bool.and_eq_false_iff]
        refine .inl ?_
        rw [List.all_eq_false]
        exact ⟨z, List.mem_of_getElem? hz, by simpa using h⟩
      rw [this]
    · rw [take_snoc hz] at hy
      rcases List.mem_append.mp hy with q | q
      · exact hall y q
      · rw [List.mem_singleton.mp q]; simpa using h
  · rintro ds Γ1 ⟨rfl, hall, a, rfl⟩
    rw [List.length_map, List.take_length] at hall
    refine bl_retP (pv_is (pv_all (bs := ((relS ks E).filter (fun _ => true)).map fun p => decide (p.2 ∈ G p.1)) (pn_pv (pn_is (o' := .lst ((((relS ks E).filter (fun _ => true)).map fun p => decide (p.2 ∈ G p.1)).map .bl)) (pn_lcA (c := spairD) (u := uSP) (l := relS ks E) (f := fun p => [sD (.obj "Order" (dOrd ks E)), sD (.obj "Order" (dOrd ls G)), a, sD (.str p.1), sD (.str p.2)]) (own := [("low", 3), ("high", 4)]) (ix := [3, 4]) (bind := bTwo (bName 3) (bName 4)) (fun _ => true) (fun p => .bl (decide (p.2 ∈ G p.1))) uSP_p (blk nOrdLe (defScope s_ordLe)) nd
      (wp_list (pn_pv (pn_meth0 (R ks E) hr (by omega) (pv_var 0) rfl ⟨rfl, hl⟩ (fun _ h => h) (fun _ _ h => h.elim)))) (fun s H C cl fp => gv_two rfl (gv_name 3 nd (hz := .inl ho)) (gv_name 4 nd (hz := .inl ho))) (bindOk_two (bindOk_name 3) (bindOk_name 4)) (by decide) (.inl ho) (by omega) (fun p _ => ⟨_, _, _, rfl, rfl, rfl⟩) (fun p _ s H C cl fp => pts_none) (fun p hp _ s H C cl fp => pv_inS (ns := G p.1) (pv_var 4) (.inl (pv_dget hr (pv_fld oc.cls oc.na (pv_var 1) rfl) (pv_var 3) (rowsK_val (hall _ (mem_relS.mp hp).1)))))) (by rw [List.map_map]; rfl)) rfl) b.all) (d := .bl (leS ks E ls G)) (congrArg D.bl ?_)) rfl
    have e1 : ks.all (fun z => decide (z ∈ ls)) = true := by
      rw [List.all_eq_true]
      exact fun z hz => decide_eq_true (hall z hz)
    unfold leS
    rw [e1, Bool.true_and, List.all_map, filter_true]
    rfl
/-! ### == -/
def eqS (ks : List Str) (E : Str → List Str) (ls : List Str) (G : Str → List Str) : Bool := leS ks E ls G && leS ls G ks E
def cOrdEq (ks : List Str) (E : Str → List Str) (ls : List Str) (G : Str → List Str) : Fp where
  pre ds := ds = [.obj "Order" (dOrd ks E), .obj "Order" (dOrd ls G)] ∧ (relS ks E).length ≤ 10000 ∧ (relS ls G).length ≤ 10000
  post ds b := b = .st (.bl (eqS ks E ls G))
  exn _ _ _ := False
abbrev s_ordEq : Stmt := mem 33 20
abbrev nOrdEq : List Str := ["self", "other"]
theorem scOrdEq : FnScope nOrdEq nOrdEq (defScope s_ordEq) := ⟨rfl, rfl, rfl, by decide +kernel, rfl, by decide +kernel, by decide +kernel⟩
theorem ok_ordEq {f : Addr} {fd : FuncData} (F : FunM K x qual dvs s_ordEq f fd) (b : Bi mg) (oc : OrC K mg) (L : ∀ ks E ls G, Od P w K mg base "Order" "Order" .LtE 3 (cOrdLe ks E ls G)) (ks : List Str) (E : Str → List Str) (ls : List Str) (G : Str → List Str) : FnOk P w K mg base (L2.CX P w) 4 f fd nOrdEq (spP K (cOrdEq ks E ls G)) := by
  refine fp_ok F scOrdEq (fun ds ⟨h, _⟩ => by rw [h]; rfl) fun cdv A outer s e Ex ds ho ⟨hd, hl, hl2⟩ hr tk => ?_
  subst hd
  refine bl_retP (pv_is (pv_and (k := true) (l := leS ks E ls G && leS ls G ks E) (pv_isO oc.ins (pv_var 1) oc.gl b.isinstance) fun _ => pv_and (pv_own (L ks E ls G) (fun _ _ => rfl) hr (by omega) (pv_var 0) (pv_var 1) ⟨rfl, hl⟩ (fun _ h => h) (fun _ _ h => h.elim)) fun _ => pv_one (pv_own (L ls G ks E) (fun _ _ => rfl) hr (by omega) (pv_var 1) (pv_var 0) ⟨rfl, hl2⟩ (fun _ h => h) (fun _ _ h => h.elim))) (d := .bl (eqS ks E ls G)) rfl) rfl
end
end Kf
end
section
set_option maxRecDepth 100000
set_option maxHeartbeats 4000000
/-! KfU: zip of a list or tuple with a list or tuple. -/
namespace Kf
open PySem PySem.Spec PyProof.Rows L2

/-- list (true) or tuple -/
def SqX (K : Fg) : Bool → Hp → Addr → List V → Prop
  | true => SqL K
  | false => SqT K
def IterX (h : Heap) : Bool → Addr → Addr → Nat → Prop
  | true => h.IsListIter
  | false => h.IsTupleIter
def IsX (h : Heap) : Bool → Addr → Array Value → Prop
  | true => h.IsList
  | false => h.IsTuple
theorem drawsX {prog : Program} {w : World} {A : Around} (k : Bool) (hh : A.handled = none) (it l : Addr) (hne : l ≠ it) (items : Array Value) :
    Draws prog w A it [it, l] items.size (fun i v => items[i]? = some v) (fun i h => IterX h k it l i ∧ IsX h k l items) := by
  cases k
  · exact Draws.tuple hh it l hne items
  · exact Draws.list hh it l hne items
/-- at its end, and behind it -/
theorem drawsE {prog : Program} {w : World} {A : Around} (k : Bool) (hh : A.handled = none) (it l : Addr) (hne : l ≠ it) (items : Array Value) (i : Nat) (hi : items[i]? = none) :
    Draws prog w A it [it, l] i (fun _ _ => True) (fun j h => j = i ∧ IterX h k it l i ∧ IsX h k l items) := by
  cases k
  · exact ⟨fun _ _ st => let ⟨o, ho, _⟩ := st.2.1; ⟨o, ho⟩, fun _ _ _ st hk => ⟨st.1, Heap.IsTupleIter.at st.2.1 fun o e => hk it (by simp) o e, Heap.IsTuple.at st.2.2 fun o e => hk l (by simp) o e⟩,
      fun j s Q E hj st hQ => absurd st.1 (Nat.ne_of_lt hj), fun s Q E st hE => wpAny_nextOf_tuple_end hh st.2.1 st.2.2 hi hE⟩
  · exact ⟨fun _ _ st => let ⟨o, ho, _⟩ := st.2.1; ⟨o, ho⟩, fun _ _ _ st hk => ⟨st.1, Heap.IsListIter.at st.2.1 fun o e => hk it (by simp) o e, Heap.IsList.at st.2.2 fun o e => hk l (by simp) o e⟩,
      fun j s Q E hj st hQ => absurd st.1 (Nat.ne_of_lt hj), fun s Q E st hE => wpAny_nextOf_list_end hh st.2.1 st.2.2 hi hE⟩
def itObj (k : Bool) (l : Addr) : Obj := { cls := .type (if k then "list_iterator" else "tuple_iterator"), data := .fields #[.ref l, .int 0 0] }
theorem beginsX (k : Bool) (l : Addr) (items : Array Value) : Begins (.ref l) (itObj k l) fun h => IsX h k l items := by
  cases k
  · exact begins_tuple l items
  · exact begins_list l items
theorem iterX_at {k : Bool} {h h' : Heap} {it l : Addr} {i : Nat} (x : IterX h k it l i) (q : ∀ o, h.get? it = some o → h'.get? it = some o) : IterX h' k it l i := by
  cases k
  · exact Heap.IsTupleIter.at x q
  · exact Heap.IsListIter.at x q
theorem iterX_obj {k : Bool} {h : Heap} {it l : Addr} {i : Nat} (x : IterX h k it l i) : ∃ o, h.get? it = some o ∧ ∀ v, o.data ≠ .cell v := by
  cases k
  · obtain ⟨o, e, _, d⟩ := x
    exact ⟨o, e, fun v q => by rw [d] at q; cases q⟩
  · obtain ⟨o, e, _, d⟩ := x
    exact ⟨o, e, fun v q => by rw [d] at q; cases q⟩
theorem iterX_new {k : Bool} {h : Heap} {it l : Addr} (x : h.get? it = some (itObj k l)) : IterX h k it l 0 := by
  cases k
  · exact ⟨_, x, rfl, rfl⟩
  · exact ⟨_, x, rfl, rfl⟩
theorem isX_lt {k : Bool} {h : Heap} {l : Addr} {xs : Array Value} (x : IsX h k l xs) : l < h.objs.size := by
  cases k
  · obtain ⟨o, e, _⟩ := x; exact Heap.lt_size e
  · obtain ⟨o, e, _⟩ := x; exact Heap.lt_size e
theorem sqX_is {X : Cx} {pins : List (Addr × Obj)} {σ : L2.St} {H : Hp} {s : Shared} {k : Bool} {a : Addr} {xs : List V} (I : Inv X pins σ H s) (h : SqX X.K k H a xs) : ∃ its : List Value, Vals xs its ∧ IsX s.heap k a its.toArray := by
  cases k
  · obtain ⟨its, rv, p, _⟩ := I.tuple h
    exact ⟨its, rv, p⟩
  · obtain ⟨its, rv, p, _⟩ := I.list h
    exact ⟨its, rv, p.isList⟩
theorem sqX_inj {X : Cx} {pins : List (Addr × Obj)} {σ : L2.St} {H : Hp} {s : Shared} {k : Bool} {a : Addr} {xs ys : List V} (I : Inv X pins σ H s) (h : SqX X.K k H a xs) (h2 : SqX X.K k H a ys) : xs = ys := by
  cases k
  · exact I.tuple_inj h h2
  · exact I.list_inj h h2
/-- the two as they stand at each turn, the items in new pairs -/
def ItzX (K : Fg) (k1 k2 : Bool) (a b : Addr) : It :=
  ⟨fun i H => ∃ (xs ys : List V) (x y : V), SqX K k1 H a xs ∧ SqX K k2 H b ys ∧ xs[i]? = some x ∧ ys[i]? = some y,
    fun i H v H' => ∃ T x y, v = .ref T ∧ H T = none ∧ H' = upd H T (.tup [x, y]) ∧ (∀ xs, SqX K k1 H a xs → xs[i]? = some x) ∧ ∀ ys, SqX K k2 H b ys → ys[i]? = some y,
    fun i H => ∃ xs ys : List V, SqX K k1 H a xs ∧ SqX K k2 H b ys ∧ xs.length ≤ i ∧ ys.length ≤ i⟩
theorem sep_of {z TI TO i1 i2 a b : Addr} (D : ZipApart z TI TO i1 i2 a b) : ZipSep2 z TI TO i1 i2 [i1, a] [i2, b] where
  TIz := D.TIz
  TOz := D.TOz
  TITO := D.TITO
  TIi1 := D.TIi1
  mem1 := by simp
  zf1 := by simp [D.i1z.symm, D.l1z.symm]
  Tf1 := by simp [D.TOi1, D.l1TO.symm]
  TIi2 := D.TIi2
  mem2 := by simp
  zf2 := by simp [D.i2z.symm, D.l2z.symm]
  Tf2 := by simp [D.TOi2, D.l2TO.symm]
  sep1_2 := by simp [D.i12, D.l2i1.symm]
  sep2_1 := by simp [D.i12.symm, D.l1i2.symm]
theorem turn_zipX {P : Program} {w : World} {K : Fg} {elts : List Expr} {kk : Nat} {tpos : Pos} {k1 k2 : Bool} {a b z TI TO i1 i2 : Addr} (D : ZipApart z TI TO i1 i2 a b) :
    Turn P w K (.Tuple elts kk tpos) (ItzX K k1 k2 a b) [z, TI, TO, i1, i2] z (fun i h => IsZip h z TI TO .none ∧ IsPair h TI (.ref i1) (.ref i2) ∧ (∃ x y, IsPair h TO x y) ∧ IterX h k1 i1 a i ∧ IterX h k2 i2 b i) where
  mem := by simp
  obj := fun i h st c hc => by
    obtain ⟨hz, hTI, ⟨x, y, hTO⟩, h1, h2⟩ := st
    have e' : c = z ∨ c = TI ∨ c = TO ∨ c = i1 ∨ c = i2 := by simpa using hc
    rcases e' with q | q | q | q | q
    · rw [q]; exact ⟨_, hz, fun v q => nomatch q⟩
    · rw [q]; exact ⟨_, hTI, fun v q => nomatch q⟩
    · rw [q]; exact ⟨_, hTO, fun v q => nomatch q⟩
    · rw [q]; exact iterX_obj h1
    · rw [q]; exact iterX_obj h2
  keep := fun i h h' st k => by
    obtain ⟨hz, hTI, ⟨x, y, hTO⟩, h1, h2⟩ := st
    exact ⟨k z (by simp) _ hz, k TI (by simp) _ hTI, ⟨x, y, k TO (by simp) _ hTO⟩, iterX_at h1 fun o q => k i1 (by simp) o q, iterX_at h2 fun o q => k i2 (by simp) o q⟩
  item := by
    intro X hP hw hK hc i pins s σ H E I hf st hg
    subst hP hw hK
    obtain ⟨hz, hTI, ⟨x0, y0, hTO⟩, h1, h2⟩ := st
    obtain ⟨xs, ys, x, y, hqx, hqy, hx, hy⟩ := hg
    obtain ⟨its, rv, p⟩ := sqX_is I hqx
    obtain ⟨its2, rv2, p2⟩ := sqX_is I hqy
    have hzl : z < s.heap.objs.size := Heap.lt_size hz
    have hl1 : i < its.toArray.size := by
      have e1 := (List.getElem?_eq_some_iff.mp hx).1
      have e2 := rv.length
      simp; omega
    have hl2 : i < its2.toArray.size := by
      have e1 := (List.getElem?_eq_some_iff.mp hy).1
      have e2 := rv2.length
      simp; omega
    refine wpAny_pyNext_zipD2_item (sep_of D) (drawsX k1 (A := X.A.in1) (I.ok.hd hc) i1 a D.l1i1 its.toArray) (drawsX k2 (A := X.A.in1) (I.ok.hd hc) i2 b D.l2i2 its2.toArray) hz hTI hTO ⟨h1, p⟩ ⟨h2, p2⟩ hl1 hl2 fun u u2 h' tk hu hu2 z' TO' h1' h2' hT hsz hk => ?_
    obtain ⟨u', hu', ru⟩ := rv.get hx
    obtain ⟨u2', hu2', ru2⟩ := rv2.get hy
    obtain rfl : u' = u := by
      have e1 : its[i]? = some u := by simpa using hu
      rw [hu'] at e1
      exact Option.some.inj e1
    obtain rfl : u2' = u2 := by
      have e1 : its2[i]? = some u2 := by simpa using hu2
      rw [hu2'] at e1
      exact Option.some.inj e1
    refine ⟨_, rfl, wpAny_letOwnedTupleGo_zip (s := { s with heap := h', toks := tk }) z' fun h'' z'' sb => ?_⟩
    have hT2 : h''.get? s.heap.objs.size = some { cls := .type "tuple", data := .seq #[u', u2'] } := (sb.2 _ (Nat.ne_of_gt hzl)).trans hT
    have new : ObjOk X.prog X.w (upd H s.heap.objs.size (.tup [x, y])) h'' s.heap.objs.size (.tup [x, y]) :=
      ⟨by show 2 ≤ sizeLine; decide, [u', u2'], .cons ru (.cons ru2 .nil), ⟨_, hT2, rfl, _, rfl⟩⟩
    have I1 : Inv X pins σ (upd H s.heap.objs.size (.tup [x, y])) { s with heap := h'', toks := tk } :=
      I.turnedNew (t' := tk) (ch := [z, TI, TO, i1, i2]) (fun c o hb q => (sb.2 c (fun q' => hb (by simp [q']))).trans (hk c o (fun q' => hb (by simp [q'])) (fun q' => hb (by simp [q'])) (fun q' => hb (by simp [q'])) (fun q' => hb (by simp [q'])) q)) hf (Nat.le_refl _) new
    refine ⟨.ref s.heap.objs.size, _, I1, rfl, ⟨_, x, y, rfl, I.hok.fresh (Nat.le_refl _), rfl, fun l hl => by rw [sqX_inj I hl hqx]; exact hx, fun l hl => by rw [sqX_inj I hl hqy]; exact hy⟩, ⟨z'', ?_, ⟨u', u2', ?_⟩, ?_, ?_⟩, fun c hcm => ?_⟩
    · exact (sb.2 _ D.TIz).trans (hk _ _ D.TIz D.TITO D.TIi1 D.TIi2 hTI)
    · exact (sb.2 _ D.TOz).trans TO'
    · exact iterX_at h1'.1 fun o q => (sb.2 _ D.i1z).trans q
    · exact iterX_at h2'.1 fun o q => (sb.2 _ D.i2z).trans q
    · have hlt : c < s.heap.objs.size := by
        have e' : c = z ∨ c = TI ∨ c = TO ∨ c = i1 ∨ c = i2 := by simpa using hcm
        rcases e' with q | q | q | q | q
        · rw [q]; exact hzl
        · rw [q]; exact Heap.lt_size hTI
        · rw [q]; exact Heap.lt_size hTO
        · rw [q]; obtain ⟨_, e1, _⟩ := iterX_obj h1; exact Heap.lt_size e1
        · rw [q]; obtain ⟨_, e2, _⟩ := iterX_obj h2; exact Heap.lt_size e2
      rw [upd_ne (Nat.ne_of_lt hlt)]
      exact (hf c hcm).1
  done := by
    intro X hP hw hK hc i pins s σ H E I hf st hg
    subst hP hw hK
    obtain ⟨hz, hTI, ⟨x0, y0, hTO⟩, h1, h2⟩ := st
    obtain ⟨xs, ys, hqx, hqy, e1, e2⟩ := hg
    obtain ⟨its, rv, p⟩ := sqX_is I hqx
    obtain ⟨its2, rv2, p2⟩ := sqX_is I hqy
    have l1 : its.toArray[i]? = none := by have := rv.length; simp; omega
    have l2 : its2.toArray[i]? = none := by have := rv2.length; simp; omega
    exact wpAny_pyNext_zipD2_end (sep_of D) (drawsE k1 (A := X.A.in1) (I.ok.hd hc) i1 a D.l1i1 its.toArray i l1) (drawsE k2 (A := X.A.in1) (I.ok.hd hc) i2 b D.l2i2 its2.toArray i l2) hz hTI hTO ⟨rfl, h1, p⟩ ⟨rfl, h2, p2⟩ (Nat.le_refl _) (Nat.le_refl _) (.inl rfl) fun h' tk hk => ⟨rfl, I.turnedL (t' := tk) (ch := [z, TI, TO, i1, i2]) (fun c o hb q =>
      hk c o (fun q' => hb (by simp [q'])) (fun q' => hb (by simp [q'])) (fun q' => hb (by simp [q'])) (fun q' => hb (by simp [q'])) q) hf⟩
  self := fun A i s Q E st h => wpAny_pyIter_zip st.1 h
def iZipX (K : Fg) (k1 k2 : Bool) (ta : TA) : TI := fun σ H R => ta σ H fun vs H1 => ∃ a b xs ys, vs = [.ref a, .ref b] ∧ SqX K k1 H1 a xs ∧ SqX K k2 H1 b ys ∧ R (ItzX K k1 k2 a b) H1
theorem pi_zipX {X : Cx} {e e2 : Expr} {ta : TA} {p pos tpos : Pos} {elts : List Expr} {kk : Nat} (k1 k2 : Bool) (hg : Gl X "zip") (hm : X.mg "zip" = none) (ha : PA X [e, e2] ta)
    (hs : starEach [e, e2] X.env = (false, eval e X.env) :: starEach [e2] X.env := by rfl) (hpl : (backTo pos (starEach [e2] X.env)).any (·.1) = false := by rfl) :
    PI X (.Tuple elts kk tpos) (.Call (.Name "zip" p) [e, e2] [] pos) (iZipX X.K k1 k2 ta) := by
  refine ⟨fun pins s σ H R I h => ?_⟩
  refine Call_ (ld_blt I hg hm PyProof.Rows.boot_zip (PyProof.Rows.callWith_type1 (thn (ha.run pos pins s σ H _ I h) fun us s1 ⟨vs, H1, I1, r1, q1⟩ => ?_) hs hpl))
  obtain ⟨a, b, xs, ys, ex, hqx, hqy, q⟩ := q1
  subst ex
  cases r1 with
  | cons r rr =>
    cases rr with
    | cons r' rr =>
      cases rr
      cases r
      cases r'
      have fresh5 : ∀ c, c ∈ [s1.heap.objs.size + 4, s1.heap.objs.size + 2, s1.heap.objs.size + 3, s1.heap.objs.size, s1.heap.objs.size + 1] → FpOk X pins H1 c := fun c hcm => by
        have hle : s1.heap.objs.size ≤ c := by
          have e' : c = s1.heap.objs.size + 4 ∨ c = s1.heap.objs.size + 2 ∨ c = s1.heap.objs.size + 3 ∨ c = s1.heap.objs.size ∨ c = s1.heap.objs.size + 1 := by simpa using hcm
          rcases e' with z | z | z | z | z
          · rw [z]; exact Nat.le_add_right _ _
          · rw [z]; exact Nat.le_add_right _ _
          · rw [z]; exact Nat.le_add_right _ _
          · rw [z]; exact Nat.le_refl _
          · rw [z]; exact Nat.le_add_right _ _
        exact I1.fpOk hle (I1.hok.fresh hle)
      obtain ⟨its, rv, p1⟩ := sqX_is I1 hqx
      obtain ⟨its2, rv2, p2⟩ := sqX_is I1 hqy
      refine zip_begins2 (beginsX k1 a its.toArray) (beginsX k2 b its2.toArray) p1 p2 fun h' hz hTI hTO h1 h2 hsz hk => wpAny_pyIter_zip hz ?_
      have I2 : Inv X pins σ H1 { s1 with heap := h' } := I1.kept (t' := s1.toks) hk
      exact ⟨s1.heap.objs.size + 4, [s1.heap.objs.size + 4, s1.heap.objs.size + 2, s1.heap.objs.size + 3, s1.heap.objs.size, s1.heap.objs.size + 1], _, _, H1, rfl, I2, turn_zipX (PySem.W.ktu_apart s1.heap.objs.size a b (isX_lt p1) (isX_lt p2)), ⟨hz, hTI, ⟨_, _, hTO⟩, iterX_new h1, iterX_new h2⟩, fresh5, q⟩
def sqD : Bool → List D → D
  | true => .lst
  | false => .tup
theorem rp_sqX {K : Fg} {S H : Hp} {k : Bool} {v : V} {ds : List D} (s : Same S H) (r : Rp K S v (sqD k ds)) : ∃ a xs, v = .ref a ∧ (∀ H', Same S H' → SqX K k H' a xs) ∧ RpL K S xs ds := by
  cases k
  · cases r with
    | tup h1 h2 => exact ⟨_, _, rfl, fun H' s' => same_sqT s' h1, h2⟩
  · cases r with
    | lst h1 h2 => exact ⟨_, _, rfl, fun H' s' => rdq (same_rd s' h1), h2⟩
def zipD (xs ys : List D) : List D := List.zipWith (fun x y => .tup [x, y]) xs ys
section
variable {X : Cx} {e : Ent} {Γ : Gam} {x y : Expr} {p pos : Pos}
theorem wp_zip {es : List Expr} {c : Nat} {tp : Pos} {k1 k2 : Bool} {ds1 ds2 : List D} (hx : PV X e x Γ (sqD k1 ds1)) (hy : PV X e y Γ (sqD k2 ds2)) (hl : ds1.length = ds2.length) (hm : X.mg "zip" = none) (hg : Gl X "zip" := by rfl)
    (hst : starEach [x, y] X.env = (false, eval x X.env) :: starEach [y] X.env := by rfl) (hst2 : starEach [y] X.env = (false, eval y X.env) :: starEach [] X.env := by rfl) (hpl : (backTo pos (starEach [y] X.env)).any (·.1) = false := by rfl) : WP X e (.Tuple es c tp) (.Call (.Name "zip" p) [x, y] [] pos) Γ (zipD ds1 ds2) :=
  PI.imp (pi_zipX k1 k2 hg hm (pvs_cons hx (pvs_cons hy pvs_nil hst2) hst) hst hpl) fun σ H R ⟨S, w, q⟩ => ⟨S, w, fun S1 H1 vs s1 w1 r1 => by
    cases r1 with
    | cons r2 r3 =>
      cases r3 with
      | cons r4 r5 =>
        cases r5
        obtain ⟨a, xs, rfl, g1, g2⟩ := rp_sqX (Same.refl _) r2
        obtain ⟨b, ys, rfl, g3, g4⟩ := rp_sqX (Same.refl _) r4
        have lz : (zipD ds1 ds2).length = ds1.length := by unfold zipD; rw [List.length_zipWith]; omega
        refine ⟨a, b, xs, ys, rfl, g1 _ w1.nx.sh, g3 _ w1.nx.sh, q S1 H1 _ s1 w1 ⟨fun i S H hi s1 s2 => ?_, fun i d S H v H' hi s1 s2 yl => ?_, fun i S H hi s1 s2 => ?_⟩⟩
        · rw [lz] at hi
          obtain ⟨v, hv, _⟩ := g2.get (List.getElem?_eq_getElem hi)
          obtain ⟨v2, hv2, _⟩ := g4.get (List.getElem?_eq_getElem (show i < ds2.length by omega))
          exact ⟨xs, ys, v, v2, g1 _ (s1.trans s2), g3 _ (s1.trans s2), hv, hv2⟩
        · obtain ⟨T, x0, y0, rfl, hT, rfl, hx0, hy0⟩ := yl
          have hi1 : i < ds1.length := by rw [← lz]; exact (List.getElem?_eq_some_iff.mp hi).1
          have hi2 : i < ds2.length := by omega
          obtain ⟨v, hv, rv⟩ := g2.get (List.getElem?_eq_getElem hi1)
          obtain ⟨v2, hv2, rv2⟩ := g4.get (List.getElem?_eq_getElem hi2)
          have e1 := hx0 _ (g1 _ (s1.trans s2))
          have e2 := hy0 _ (g3 _ (s1.trans s2))
          rw [hv] at e1
          rw [hv2] at e2
          cases e1
          cases e2
          obtain rfl : d = .tup [ds1[i], ds2[i]] := by
            unfold zipD at hi
            rw [List.getElem?_zipWith, List.getElem?_eq_getElem hi1, List.getElem?_eq_getElem hi2] at hi
            exact (Option.some.inj hi).symm
          exact new_tup hT s2 (.cons (rv.mono s1) (.cons (rv2.mono s1) .nil))
        · rw [lz] at hi
          exact ⟨xs, ys, g1 _ (s1.trans s2), g3 _ (s1.trans s2), by rw [g2.length]; omega, by rw [g4.length]; omega⟩⟩
end
end Kf
end
section
set_option maxRecDepth 100000
set_option maxHeartbeats 4000000
/-! KfS4: Mapping(..). -/
namespace Kf
open PySem L2

def rowsF (ks : List Str) (F : Str → D) : List (Key × D) := ks.map fun x => (.inr x, F x)
theorem rowsF_val {ks : List Str} {F : Str → D} {x : Str} (h : x ∈ ks) : valD (rowsF ks F) (.inr x) = some (F x) := by
  unfold rowsF valD
  induction ks with
  | nil => cases h
  | cons a l ih =>
    rw [List.map_cons]
    by_cases q : a = x
    · subst q
      rw [List.find?_cons_of_pos (by simp)]
      rfl
    · rw [List.find?_cons_of_neg (by simpa using q)]
      exact ih ((List.mem_cons.mp h).resolve_left fun z => q z.symm)
theorem rowsF_app {a b : List Str} {F : Str → D} : rowsF (a ++ b) F = rowsF a F ++ rowsF b F := List.map_append
theorem rowsF_len {a : List Str} {F : Str → D} : (rowsF a F).length = a.length := List.length_map _
theorem keyF_new {ks : List Str} {i : Nat} {z : Str} (nd : ks.Nodup) (hz : ks[i]? = some z) {F : Str → D} : (Sum.inr z : Key) ∉ (rowsF (ks.take i) F).map (·.1) := by
  have e : (rowsF (ks.take i) F).map (·.1) = (rowsK (ks.take i) fun _ => []).map (·.1) := by
    unfold rowsF rowsK
    rw [List.map_map, List.map_map]
    rfl
  rw [e]
  exact key_new nd hz
def imgOf (ks imgs : List Str) (x : Str) : Str := imgs.getD (ks.idxOf x) ⟨#[]⟩
theorem imgOf_at {ks imgs : List Str} {i : Nat} {z : Str} (nd : ks.Nodup) (hz : ks[i]? = some z) : imgOf ks imgs z = imgs.getD i ⟨#[]⟩ := by
  unfold imgOf
  have h := nd.idxOf_getElem i (List.getElem?_eq_some_iff.mp hz).1
  rw [(List.getElem?_eq_some_iff.mp hz).2] at h
  rw [h]
def tabF (ks imgs : List Str) : List (Key × D) := rowsF ks fun x => .str (imgOf ks imgs x)
/-- an Order, by its names -/
structure Ods where
  ks : List Str
  E : Str → List Str
def Ods.d (o : Ods) : D := .obj "Order" (dOrd o.ks o.E)
def Ods.R (o : Ods) (i j : Nat) : Bool := decide (o.ks.getD j ⟨#[]⟩ ∈ o.E (o.ks.getD i ⟨#[]⟩))
def dMapT (s t : Ods) (os ot : Option V) (imgs : List Str) : List (Str × D) := [("source", s.d.tg os), ("target", t.d.tg ot), ("images", .tup (imgs.map .str)), ("_table", .dK (tabF s.ks imgs))]
def dMap (s t : Ods) (imgs : List Str) : List (Str × D) := [("source", s.d), ("target", t.d), ("images", .tup (imgs.map .str)), ("_table", .dK (tabF s.ks imgs))]
theorem dMapT_none {s t : Ods} {imgs : List Str} : dMapT s t none none imgs = dMap s t imgs := rfl
def exD : MOut → Str → List (Str × D) → Prop
  | .notL z, y, fl => y = "NotListed" ∧ fl = [(("name" : Str), D.str z)]
  | .badC n, y, fl => y = "BadCount" ∧ fl = [(("number" : Str), D.int (n : Int))]
  | .broken a b, y, fl => y = "Broken" ∧ fl = [(("pair" : Str), D.tup [.str a, .str b])]
  | .made, _, _ => False
structure MpC (K : Fg) (mg : Str → Option Value) : Prop where
  cls : Cls K (He.ga K "Mapping")
  ns : NoAttr K (He.ga K "Mapping") "source"
  nt : NoAttr K (He.ga K "Mapping") "target"
  ni : NoAttr K (He.ga K "Mapping") "images"
  nb : NoAttr K (He.ga K "Mapping") "_table"
  ins : C8.InsC K (He.ga K "Mapping")
  gl : mg "Mapping" = some (.ref (He.ga K "Mapping"))
section
variable {X : Cx} {e : Ent} {Γ : Gam} {x y : Expr} {p pos : Pos}
theorem wp_sq {tg : Expr} {k : Bool} {ds : List D} (h : PV X e x Γ (sqD k ds)) : WP X e tg x Γ ds := by
  cases k
  · exact wp_tup h
  · exact wp_list h
theorem pv_lenQ {k : Bool} {l : List D} (h : PV X e x Γ (sqD k l)) (hm : X.mg "len" = none) (hg : Gl X "len" := by rfl) (he : starEach [x] X.env = (false, eval x X.env) :: starEach [] X.env := by rfl) (hpl : (backTo pos (starEach [] X.env)).any (·.1) = false := by rfl) : PV X e (.Call (.Name "len" p) [x] [] pos) Γ (.int (l.length : Int)) := by
  cases k
  · exact pv_lenT h hm hg he hpl
  · exact pv_lenL h hm hg he hpl
theorem pv_tupQ {k : Bool} {l : List D} (h : PV X e x Γ (sqD k l)) (hm : X.mg "tuple" = none) (hg : Gl X "tuple" := by rfl) (he : starEach [x] X.env = (false, eval x X.env) :: starEach [] X.env := by rfl) (hpl : (backTo pos (starEach [] X.env)).any (·.1) = false := by rfl) : PV X e (.Call (.Name "tuple" p) [x] [] pos) Γ (.tup l) := by
  cases k
  · exact pv_tupT h hm hg he hpl
  · exact pv_tupL h hm hg he hpl
end
section
variable {P : Program} {w : World} {K : Fg} {mg : Str → Option Value} {base : Heap} {x qual : Str} {dvs : List V}
def cMapI (s t : Ods) (os ot : Option V) (imgs : List Str) (k : Bool) : Fo where
  pre o ds := o = .obj "Mapping" [] ∧ ds = [s.d.tg os, t.d.tg ot, sqD k (imgs.map .str)] ∧ s.ks.Nodup ∧ s.ks.length ≤ 1000
  post o ds b o' := b = .st .non ∧ o' = .obj "Mapping" (dMapT s t os ot imgs) ∧ MOutP s.ks s.R t.ks t.R imgs .made
  exn o ds y fl o' := ∃ m, MOutP s.ks s.R t.ks t.R imgs m ∧ exD m y fl
abbrev s_mapI : Stmt := mem 24 0
abbrev nMapI : List Str := ["self", "source", "target", "images", "image", "table", "kind", "low", "high"]
theorem scMapI : FnScope nMapI ["self", "source", "target", "images"] (defScope s_mapI) := ⟨rfl, rfl, rfl, by decide +kernel, rfl, by decide +kernel, by decide +kernel⟩
theorem badS {s t : Ods} {imgs : List Str} {i j : Nat} (hin : ∀ z ∈ imgs, z ∈ t.ks) (hi : i < imgs.length) (hj : j < imgs.length) :
    badP s.R t.R t.ks imgs i j = (decide (s.ks.getD j ⟨#[]⟩ ∈ s.E (s.ks.getD i ⟨#[]⟩)) && !decide (imgs.getD j ⟨#[]⟩ ∈ t.E (imgs.getD i ⟨#[]⟩))) := by
  have key : ∀ z, z ∈ t.ks → t.ks.getD (t.ks.idxOf z) ⟨#[]⟩ = z := fun z hz => by
    rw [List.getD_eq_getElem?_getD, (idx_first hz).1]
    rfl
  unfold badP Ods.R
  rw [key _ (hin _ (getD_mem hi)), key _ (hin _ (getD_mem hj))]
theorem ok_mapI {f : Addr} {fd : FuncData} (F : FunM K x qual dvs s_mapI f fd) (b : Bi mg) (oc : OrC K mg) (mc : MpC K mg) (N2 : ∀ ks z, Dx P w K mg base "check_listed" 3 (cListed ks z)) (B : ∀ ks E lo hi, Md P w K mg base "Order" "below" 4 (cBelow ks E lo hi)) (C1 : Xc1 P w K mg base "BadCount" "number") (C2 : Xc1 P w K mg base "Broken" "pair")
    (so to : Ods) (os ot : Option V) (imgs : List Str) (k : Bool) : FnOk P w K mg base (L2.CX P w) 5 f fd ["self", "source", "target", "images"] (spO K (cMapI so to os ot imgs k)) := by
  refine fo_ok F scMapI (fun o ds ⟨_, h, _⟩ => by rw [h]; rfl) fun cdv A outer s e Ex o ds ⟨hob, hd, hnd, hl⟩ hr tk => ?_
  have nd := scMapI.nd
  subst hd hob
  refine bl_for (fun ds i Γ => ds = imgs.map .str ∧ (∀ j y, j < i → imgs[j]? = some y → y ∈ to.ks) ∧ ∃ a, Γ = [some (.ow (.obj "Mapping" [])), sD (so.d.tg os), sD (to.d.tg ot), sD (sqD k (imgs.map .str)), a, none, none, none, none]) (wv (wp_sq (pv_var 3))) (gv_name 4 nd (hz := .inr (by decide))) ?_ ?_ ?_ (passes_of rfl)
  · rintro ds Γ1 ⟨rfl, rfl⟩
    exact ⟨rfl, fun x y hx => absurd hx (Nat.not_lt_zero _), none, rfl⟩
  · rintro ds i d Γ1 hdi ⟨rfl, hall, a, rfl⟩
    obtain ⟨z, hz, rfl⟩ := strs_at' hdi
    refine ⟨_, rfl, bl_do (Φ := fun d Γ => z ∈ to.ks ∧ Γ = [some (.ow (.obj "Mapping" [])), sD (so.d.tg os), sD (to.d.tg ot), sD (sqD k (imgs.map .str)), sD (.str z), none, none, none, none]) (ev_call (N2 to.ks z) hr (by omega) tk (pvs_av (pvs_cons (pv_fld oc.cls oc.nk (pv_tg (pv_var 2)) rfl) (pvs_cons (pv_var 4) pvs_nil))) ?_) ?_⟩
    · rintro ds Γ1 ⟨rfl, rfl⟩
      refine ⟨.inl rfl, ?_, ?_⟩
      · rintro bb ⟨rfl, hzm⟩
        exact ⟨_, .inl rfl, hzm, rfl⟩
      · rintro y fl ⟨g1, g2, g3⟩
        exact ⟨_, rfl, .notL z, .notL hz g1 hall, g2, g3⟩
    · rintro d Γ1 ⟨hzm, rfl⟩
      refine bl_nil ⟨rfl, fun j y hj hy => ?_, _, rfl⟩
      by_cases q : j = i
      · subst q
        rw [hz] at hy
        cases hy
        exact hzm
      · exact hall j y (by omega) hy
  · rintro ds Γ1 ⟨rfl, hall, a, rfl⟩
    rw [List.length_map] at hall
    have hin : ∀ z ∈ imgs, z ∈ to.ks := fun z hz => by
      obtain ⟨j, hj⟩ := List.getElem?_of_mem hz
      exact hall j z (List.getElem?_eq_some_iff.mp hj).1 hj
    refine bl_ifR (px_cmp op_ne (pv_lenQ (k := k) (pv_var 3) b.len) (pv_lenT (pv_fld oc.cls oc.nk (pv_tg (pv_var 1)) rfl) b.len) sc_neI) (fun h => ?_) fun h => ?_
    · simp only [List.length_map, Bool.not_eq_true', decide_eq_false_iff_not] at h
      exact bl_raise1 C1 hr (by omega) (pv_is (pv_lenQ (k := k) (pv_var 3) b.len) (d := .int (imgs.length : Int)) (by rw [List.length_map])) tk ⟨_, rfl, .badC imgs.length, .badC hin (by omega), rfl, rfl⟩
    · simp only [List.length_map, Bool.not_eq_false', decide_eq_true_eq] at h
      have hlen : imgs.length = so.ks.length := by omega
      refine bl_letO 5 (hz := .inr (by decide)) (pn_eo pn_dK) ?_
      refine bl_for (fun ds i Γ => ds = zipD (so.ks.map .str) (imgs.map .str) ∧ ∃ a c, Γ = [some (.ow (.obj "Mapping" [])), sD (so.d.tg os), sD (to.d.tg ot), sD (sqD k (imgs.map .str)), a, sO (.dK (rowsF (so.ks.take i) fun x => .str (imgOf so.ks imgs x))), c, none, none]) (wv (wp_zip (k1 := false) (k2 := k) (pv_fld oc.cls oc.nk (pv_tg (pv_var 1)) rfl) (pv_var 3) (by rw [List.length_map, List.length_map, hlen]) b.zip)) (gv_two rfl (gv_name 6 nd (hz := .inr (by decide))) (gv_name 4 nd (hz := .inr (by decide)))) ?_ ?_ ?_ (passes_of rfl)
      · rintro ds Γ1 ⟨rfl, rfl⟩
        exact ⟨rfl, a, none, rfl⟩
      · rintro ds i d Γ1 hdi ⟨rfl, a, c, rfl⟩
        obtain ⟨x, y, hx, hy, rfl⟩ : ∃ x y, so.ks[i]? = some x ∧ imgs[i]? = some y ∧ d = .tup [.str x, .str y] := by
          unfold zipD at hdi
          rw [List.getElem?_zipWith, List.getElem?_map, List.getElem?_map] at hdi
          cases q1 : so.ks[i]? with
          | none => rw [q1] at hdi; cases hdi
          | some x =>
            cases q2 : imgs[i]? with
            | none => rw [q1, q2] at hdi; cases hdi
            | some y => rw [q1, q2] at hdi; cases hdi; exact ⟨x, y, rfl, rfl, rfl⟩
        have ey : imgOf so.ks imgs x = y := by
          rw [imgOf_at hnd hx, List.getD_eq_getElem?_getD, hy]
          rfl
        refine ⟨_, ⟨_, _, _, rfl, rfl, rfl⟩, bl_dput (Φ := Is (.str y) [some (.ow (.obj "Mapping" [])), sD (so.d.tg os), sD (to.d.tg ot), sD (sqD k (imgs.map .str)), sD (.str y), sO (.dK (rowsF (so.ks.take i) fun x => .str (imgOf so.ks imgs x))), sD (.str x), none, none]) 5 hr (pv_ev (pv_var 4)) ?_⟩
        rintro d Γ1 ⟨rfl, rfl⟩
        refine ⟨_, x, rfl, pv_var 6, keyF_new hnd hx, by rw [rowsF_len, List.length_take]; omega, bl_nil ⟨rfl, sD (.str y), sD (.str x), ?_⟩⟩
        rw [take_snoc hx, rowsF_app]
        subst ey
        rfl
      · rintro ds Γ1 ⟨rfl, a, c, rfl⟩
        have lz : (zipD (so.ks.map D.str) (imgs.map D.str)).length = so.ks.length := by unfold zipD; rw [List.length_zipWith, List.length_map, List.length_map]; omega
        rw [lz, List.take_length]
        refine bl_frz 5 rfl (.inr (by decide)) ?_
        refine bl_for (fun ds i Γ => ds = so.ks.map .str ∧ (∀ x y, x < i → y < so.ks.length → badP so.R to.R to.ks imgs x y = false) ∧ ∃ lo hi, Γ = [some (.ow (.obj "Mapping" [])), sD (so.d.tg os), sD (to.d.tg ot), sD (sqD k (imgs.map .str)), a, sD (.dK (tabF so.ks imgs)), c, lo, hi]) (wv (wp_tup (pv_fld oc.cls oc.nk (pv_tg (pv_var 1)) rfl))) (gv_name 7 nd (hz := .inr (by decide))) ?_ ?_ ?_ (passes_of rfl)
        · rintro ds Γ1 ⟨rfl, rfl⟩
          exact ⟨rfl, fun x y hx => absurd hx (Nat.not_lt_zero _), none, none, rfl⟩
        · rintro ds i d Γ1 hdi ⟨rfl, hall2, lo, hi', rfl⟩
          obtain ⟨z, hz, rfl⟩ := strs_at' hdi
          have hzm := List.mem_of_getElem? hz
          have hi := (List.getElem?_eq_some_iff.mp hz).1
          refine ⟨_, rfl, bl_for (fun ds j Γ => ds = so.ks.map .str ∧ (∀ y, y < j → badP so.R to.R to.ks imgs i y = false) ∧ ∃ hi, Γ = [some (.ow (.obj "Mapping" [])), sD (so.d.tg os), sD (to.d.tg ot), sD (sqD k (imgs.map .str)), a, sD (.dK (tabF so.ks imgs)), c, sD (.str z), hi]) (wv (wp_tup (pv_fld oc.cls oc.nk (pv_tg (pv_var 1)) rfl))) (gv_name 8 nd (hz := .inr (by decide))) ?_ ?_ ?_ (passes_of rfl)⟩
          · rintro ds Γ1 ⟨rfl, rfl⟩
            exact ⟨rfl, fun y hy => absurd hy (Nat.not_lt_zero _), hi', rfl⟩
          · rintro ds j d Γ1 hdj ⟨rfl, hall3, hi2, rfl⟩
            obtain ⟨v, hv, rfl⟩ := strs_at' hdj
            have hvm := List.mem_of_getElem? hv
            have hj := (List.getElem?_eq_some_iff.mp hv).1
            have ez : so.ks.getD i ⟨#[]⟩ = z := by rw [List.getD_eq_getElem?_getD, hz]; rfl
            have ev : so.ks.getD j ⟨#[]⟩ = v := by rw [List.getD_eq_getElem?_getD, hv]; rfl
            have ebad := badS (s := so) (t := to) hin (show i < imgs.length by omega) (show j < imgs.length by omega)
            rw [ez, ev, ← imgOf_at hnd hz, ← imgOf_at hnd hv] at ebad
            have hi1 : imgOf so.ks imgs z ∈ to.ks := by rw [imgOf_at hnd hz]; exact hin _ (getD_mem (by omega))
            have hi3 : imgOf so.ks imgs v ∈ to.ks := by rw [imgOf_at hnd hv]; exact hin _ (getD_mem (by omega))
            refine ⟨_, rfl, bl_ifR (px_w (pw_a (px_val (pv_meth (d := .bl (decide (v ∈ so.E z))) (B so.ks so.E z v) hr (by omega) (pv_tg (pv_var 1)) rfl (pvs_cons (pv_var 7) (pvs_cons (pv_var 8) pvs_nil)) ⟨rfl, hzm, hvm⟩ (fun _ h => h) (fun _ _ h => h.elim))) fun _ => pw_a1 (px_not (px_val (pv_meth (d := .bl (decide (imgOf so.ks imgs v ∈ to.E (imgOf so.ks imgs z)))) (B to.ks to.E (imgOf so.ks imgs z) (imgOf so.ks imgs v)) hr (by omega) (pv_tg (pv_var 2)) rfl (pvs_cons (pv_dget hr (pv_var 5) (pv_var 7) (rowsF_val hzm)) (pvs_cons (pv_dget hr (pv_var 5) (pv_var 8) (rowsF_val hvm)) pvs_nil)) ⟨rfl, hi1, hi3⟩ (fun _ h => h) (fun _ _ h => h.elim)))))) (fun h => ?_) fun h => ?_⟩
            · rw [← ebad] at h
              refine bl_raise1 C2 hr (by omega) (pv_tup (pvs_cons (pv_var 7) (pvs_cons (pv_var 8) pvs_nil))) tk ⟨_, rfl, .broken (so.ks.getD i ⟨#[]⟩) (so.ks.getD j ⟨#[]⟩), .broken hin hlen hi hj h fun x y hx hy hlx => (by
                rcases hlx with hlx | ⟨hlx, hly⟩
                · exact hall2 x y hlx hy
                · rw [hlx]; exact hall3 y hly), rfl, by rw [ez, ev]⟩
            · rw [← ebad] at h
              refine bl_nil ⟨rfl, fun y hy => ?_, _, rfl⟩
              by_cases q : y = j
              · subst q; exact h
              · exact hall3 y (by omega)
          · rintro ds Γ1 ⟨rfl, hall3, hi2, rfl⟩
            rw [List.length_map] at hall3
            refine bl_nil ⟨rfl, fun x y hx hy => ?_, _, hi2, rfl⟩
            by_cases q : x = i
            · subst q; exact hall3 y hy
            · exact hall2 x y (by omega) hy
        · rintro ds Γ1 ⟨rfl, hall2, lo, hi', rfl⟩
          rw [List.length_map] at hall2
          refine bl_fld (fs0 := []) 0 mc.cls mc.ns (pv_ev (pv_var 1)) ?_
          rintro d Γ1 ⟨rfl, rfl⟩
          refine ⟨_, rfl, by rfl, (show 0 < 900 by decide), bl_fld (fs0 := []) 0 mc.cls mc.nt (pv_ev (pv_var 2)) ?_⟩
          rintro d Γ1 ⟨rfl, rfl⟩
          refine ⟨_, rfl, by rfl, (show 1 < 900 by decide), bl_fld (fs0 := []) 0 mc.cls mc.ni (pv_ev (pv_tupQ (k := k) (pv_var 3) b.tuple)) ?_⟩
          rintro d Γ1 ⟨rfl, rfl⟩
          refine ⟨_, rfl, by rfl, (show 2 < 900 by decide), bl_fld (fs0 := []) 0 mc.cls mc.nb (pv_ev (pv_var 5)) ?_⟩
          rintro d Γ1 ⟨rfl, rfl⟩
          exact ⟨_, rfl, by rfl, (show 3 < 900 by decide), bl_nil ⟨_, rfl, rfl, rfl, .made hin hlen hall2⟩⟩
end
end Kf
end
section
set_option maxRecDepth 100000
set_option maxHeartbeats 4000000
/-! KfS5: Region, the Mapping's own methods. -/
namespace Kf
open PySem L2

def dReg (o : Ods) (ms : List Str) : List (Str × D) := [("order", o.d), ("members", .tup (ms.map .str))]
structure RgC (K : Fg) (mg : Str → Option Value) : Prop where
  cls : Cls K (He.ga K "Region")
  no : NoAttr K (He.ga K "Region") "order"
  nm : NoAttr K (He.ga K "Region") "members"
  gl : mg "Region" = some (.ref (He.ga K "Region"))
/-- a Mapping that stands -/
structure MapOk (s t : Ods) (im : List Str) : Prop where
  inn : ∀ z ∈ im, z ∈ t.ks
  len : im.length = s.ks.length
theorem MapOk.of {s t : Ods} {im : List Str} (m : MapOk s t im) {z : Str} (h : z ∈ s.ks) : imgOf s.ks im z ∈ t.ks := m.inn _ (getD_mem (by rw [m.len]; exact idx_lt h))
def eqO (s t : Ods) : Bool := eqS s.ks s.E t.ks t.E
theorem eqO_in {s t : Ods} (h : eqO s t = true) {z : Str} (hz : z ∈ s.ks) : z ∈ t.ks := by
  unfold eqO eqS leS at h
  rw [Bool.and_eq_true, Bool.and_eq_true, Bool.and_eq_true] at h
  exact of_decide_eq_true (List.all_eq_true.mp h.1.1 z hz)
theorem eqO_in2 {s t : Ods} (h : eqO s t = true) {z : Str} (hz : z ∈ t.ks) : z ∈ s.ks := by
  unfold eqO eqS leS at h
  rw [Bool.and_eq_true, Bool.and_eq_true, Bool.and_eq_true] at h
  exact of_decide_eq_true (List.all_eq_true.mp h.2.1 z hz)
structure OdOk (o : Ods) : Prop where
  sm : o.ks.length ≤ 1000
  rl : (relS o.ks o.E).length ≤ 10000
section
variable {P : Program} {w : World} {K : Fg} {mg : Str → Option Value} {base : Heap} {x qual : Str} {dvs : List V}
/-! ### Region(order, kinds) -/
def cRegI (o : Ods) (zs : List Str) (k : Bool) : Fo where
  pre o' ds := o' = .obj "Region" [] ∧ ds = [o.d, sqD k (zs.map .str)] ∧ (∀ z ∈ zs, z ∈ o.ks) ∧ o.ks.length ≤ 1000
  post _ ds b o' := b = .st .non ∧ o' = .obj "Region" (dReg o (o.ks.filter fun z => decide (z ∈ zs)))
  exn _ _ _ _ _ := False
abbrev s_regI : Stmt := mem 21 0
abbrev nRegI : List Str := ["self", "order", "kinds", "kind"]
theorem scRegI : FnScope nRegI ["self", "order", "kinds"] (defScope s_regI) := ⟨rfl, rfl, rfl, by decide +kernel, rfl, by decide +kernel, by decide +kernel⟩
theorem ok_regI {f : Addr} {fd : FuncData} (F : FunM K x qual dvs s_regI f fd) (b : Bi mg) (oc : OrC K mg) (rc : RgC K mg) (N2 : ∀ ks z, Dx P w K mg base "check_listed" 3 (cListed ks z)) (o : Ods) (zs : List Str) (k : Bool) : FnOk P w K mg base (L2.CX P w) 4 f fd ["self", "order", "kinds"] (spO K (cRegI o zs k)) := by
  refine fo_ok F scRegI (fun o ds ⟨_, h, _⟩ => by rw [h]; rfl) fun cdv A outer s e Ex ob ds ⟨hob, hd, hin, hl⟩ hr tk => ?_
  have nd := scRegI.nd
  subst hd hob
  refine bl_for (fun ds i Γ => ds = zs.map .str ∧ ∃ a, Γ = [some (.ow (.obj "Region" [])), sD o.d, sD (sqD k (zs.map .str)), a]) (wv (wp_sq (pv_var 2))) (gv_name 3 nd (hz := .inr (by decide))) ?_ ?_ ?_ (passes_of rfl)
  · rintro ds Γ1 ⟨rfl, rfl⟩
    exact ⟨rfl, none, rfl⟩
  · rintro ds i d Γ1 hdi ⟨rfl, a, rfl⟩
    obtain ⟨z, hz, rfl⟩ := strs_at' hdi
    refine ⟨_, rfl, bl_do (pv_ev (pv_call (d := .non) (N2 o.ks z) hr (by omega) (pvs_cons (pv_fld oc.cls oc.nk (pv_var 1) rfl) (pvs_cons (pv_var 3) pvs_nil)) (.inl rfl) (fun _ h => h.1) (fun _ _ h => h.1 (hin z (List.mem_of_getElem? hz))))) ?_⟩
    rintro d Γ1 ⟨rfl, rfl⟩
    exact bl_nil ⟨rfl, _, rfl⟩
  · rintro ds Γ1 ⟨rfl, a, rfl⟩
    refine bl_fld (fs0 := []) 0 rc.cls rc.no (pv_ev (pv_var 1)) ?_
    rintro d Γ1 ⟨rfl, rfl⟩
    refine ⟨_, rfl, by rfl, (show 0 < 900 by decide), bl_fld (fs0 := []) 0 rc.cls rc.nm (pv_ev (pv_tupL (l := (o.ks.filter fun z => decide (z ∈ zs)).map .str) (pn_pv (pn_lcA (c := D.str) (u := uS) (l := o.ks) (f := fun z => [some (.ow (.obj "Region" [("order", o.d)])), sD o.d, sD (sqD k (zs.map .str)), sD (.str z)]) (own := [("kind", 3)]) (ix := [3]) (bind := bName 3) (fun z => decide (z ∈ zs)) (fun z => .str z) uS_str (blk nRegI (defScope s_regI)) nd
      (wp_tup (pv_fld oc.cls oc.nk (pv_var 1) rfl)) (fun s H C cl fp => gv_name 3 nd (hz := .inr (by decide))) (bindOk_name 3) (by decide) (.inr (by decide)) (by omega) (fun a _ => rfl) (fun a _ s H C cl fp => pts_if (px_inS (ns := zs) (pv_var 3) (by
        cases k
        · exact .inr (pv_var 2)
        · exact .inl (pv_var 2)))) (fun a _ _ s H C cl fp => pv_var 3)) rfl) b.tuple)) ?_⟩
    rintro d Γ1 ⟨rfl, rfl⟩
    exact ⟨_, rfl, by rfl, (show 1 < 900 by decide), bl_nil ⟨_, rfl, rfl, rfl⟩⟩
/-! ### check_equal -/
def cEqual (s t : Ods) : Fp where
  pre ds := ds = [s.d, t.d] ∧ OdOk s ∧ OdOk t
  post ds b := b = .st .non ∧ eqO s t = true
  exn ds y fl := eqO s t = false ∧ y = "Unlike" ∧ fl = []
abbrev s_equal : Stmt := top 23
abbrev nEqual : List Str := ["one", "two"]
theorem scEqual : FnScope nEqual nEqual (defScope s_equal) := ⟨rfl, rfl, rfl, by decide +kernel, rfl, by decide +kernel, by decide +kernel⟩
theorem ok_equal {f : Addr} {fd : FuncData} (F : FunS K "check_equal" s_equal f fd) (Q : ∀ ks E ls G, Od P w K mg base "Order" "Order" .Eq 4 (cOrdEq ks E ls G)) (U0 : Xc0 P w K mg base "Unlike") (so to : Ods) : FnOk P w K mg base (L2.CX P w) 5 f fd nEqual (spP K (cEqual so to)) := by
  refine fp_ok F scEqual (fun ds ⟨h, _⟩ => by rw [h]; rfl) fun cdv A outer s e Ex ds ho ⟨hd, h1, h2⟩ hr tk => ?_
  subst hd
  refine bl_ifR (px_not (px_own (t := eqO so to) (Q so.ks so.E to.ks to.E) (fun _ _ => rfl) hr (by omega) (pv_var 0) (pv_var 1) ⟨rfl, h1.rl, h2.rl⟩ (fun _ h => h) (fun _ _ h => h.elim))) (fun h => ?_) fun h => bl_nil ⟨rfl, by simpa using h⟩
  exact bl_raise0 U0 hr (by omega) tk ⟨by simpa using h, rfl, rfl⟩
/-! ### mapping(kind) -/
def cMapC (s t : Ods) (im : List Str) (z : Str) : Fp where
  pre ds := ds = [.obj "Mapping" (dMap s t im), .str z]
  post ds b := b = .st (.str (imgOf s.ks im z)) ∧ z ∈ s.ks
  exn ds y fl := z ∉ s.ks ∧ y = "NotListed" ∧ fl = [(("name" : Str), D.str z)]
abbrev s_mapC : Stmt := mem 24 2
abbrev nMapC : List Str := ["self", "kind"]
theorem scMapC : FnScope nMapC nMapC (defScope s_mapC) := ⟨rfl, rfl, rfl, by decide +kernel, rfl, by decide +kernel, by decide +kernel⟩
theorem ok_mapC {f : Addr} {fd : FuncData} (F : FunM K x qual dvs s_mapC f fd) (oc : OrC K mg) (mc : MpC K mg) (N2 : ∀ ks z, Dx P w K mg base "check_listed" 3 (cListed ks z)) (so to : Ods) (im : List Str) (z : Str) : FnOk P w K mg base (L2.CX P w) 4 f fd nMapC (spP K (cMapC so to im z)) := by
  refine fp_ok F scMapC (fun ds h => by rw [h]; rfl) fun cdv A outer s e Ex ds ho hd hr tk => ?_
  subst hd
  refine bl_do (Φ := fun d Γ => z ∈ so.ks ∧ Γ = [sD (.obj "Mapping" (dMap so to im)), sD (.str z)]) (ev_call (N2 so.ks z) hr (by omega) tk (pvs_av (pvs_cons (pv_fld oc.cls oc.nk (pv_fld mc.cls mc.ns (pv_var 0) rfl) rfl) (pvs_cons (pv_var 1) pvs_nil))) ?_) ?_
  · rintro ds Γ1 ⟨rfl, rfl⟩
    refine ⟨.inl rfl, ?_, fun y fl h => h⟩
    rintro bb ⟨rfl, hzm⟩
    exact ⟨_, .inl rfl, hzm, rfl⟩
  · rintro d Γ1 ⟨hzm, rfl⟩
    exact bl_retP (pv_dget hr (pv_fld mc.cls mc.nb (pv_var 0) rfl) (pv_var 1) (rowsF_val hzm)) ⟨rfl, hzm⟩
/-! ### reached -/
def cReach (s t : Ods) (im : List Str) : Fp where
  pre ds := ds = [.obj "Mapping" (dMap s t im)] ∧ MapOk s t im ∧ OdOk t
  post ds b := b = .ow (.obj "Region" (dReg t (t.ks.filter fun z => decide (z ∈ im))))
  exn _ _ _ := False
abbrev s_reach : Stmt := mem 24 3
abbrev nSelf : List Str := ["self"]
theorem scReach : FnScope nSelf nSelf (defScope s_reach) := ⟨rfl, rfl, rfl, by decide +kernel, rfl, by decide +kernel, by decide +kernel⟩
theorem ok_reach {f fR : Addr} {fd : FuncData} (F : FunM K x qual dvs s_reach f fd) (mc : MpC K mg) (rc : RgC K mg) (M : Mk K (He.ga K "Region") fR) (FR : ∀ o zs k, FnR P w K mg base (L2.CX P w) 4 fR (spO K (cRegI o zs k))) (so to : Ods) (im : List Str) : FnOk P w K mg base (L2.CX P w) 6 f fd nSelf (spP K (cReach so to im)) := by
  refine fp_ok F scReach (fun ds ⟨h, _⟩ => by rw [h]; rfl) fun cdv A outer s e Ex ds ho ⟨hd, h1, h2⟩ hr tk => ?_
  subst hd
  refine bl_retO (eo_make (Φ := fun o' _ => o' = .obj "Region" (dReg to (to.ks.filter fun z => decide (z ∈ im)))) M (FR to im false) rc.gl hr (by omega) (U := fun _ _ _ => False) takes_none (pvs_av (pvs_cons (pv_fld mc.cls mc.nt (pv_var 0) rfl) (pvs_cons (pv_fld mc.cls mc.ni (pv_var 0) rfl) pvs_nil))) ?_) ?_
  · rintro ds Γ1 ⟨rfl, rfl⟩
    exact ⟨⟨rfl, rfl, h1.inn, h2.sm⟩, fun b o' ⟨g1, g2⟩ => ⟨g1, g2⟩, fun _ _ _ h => h.elim⟩
  · rintro o Γ1 rfl
    rfl
/-! ### fixed -/
def fixL (s : Ods) (im : List Str) : List Str := s.ks.filter fun z => decide (imgOf s.ks im z = z)
def cFix (s t : Ods) (im : List Str) : Fp where
  pre ds := ds = [.obj "Mapping" (dMap s t im)] ∧ OdOk s ∧ OdOk t
  post ds b := b = .ow (.obj "Region" (dReg s (fixL s im))) ∧ eqO s t = true
  exn ds y fl := eqO s t = false ∧ y = "Unlike" ∧ fl = []
abbrev nFix : List Str := ["self", "kind"]
theorem fix_fix (s : Ods) (im : List Str) : (s.ks.filter fun z => decide (z ∈ fixL s im)) = fixL s im := by
  unfold fixL
  refine List.filter_congr fun z hz => ?_
  refine decide_eq_decide.mpr ⟨fun h => ?_, fun h => List.mem_filter.mpr ⟨hz, decide_eq_true h⟩⟩
  exact of_decide_eq_true (List.mem_filter.mp h).2
/-! ### <= -/
def cMapLe (s t : Ods) (im : List Str) (s2 t2 : Ods) (im2 : List Str) : Fp where
  pre ds := ds = [.obj "Mapping" (dMap s t im), .obj "Mapping" (dMap s2 t2 im2)] ∧ OdOk s ∧ OdOk t ∧ OdOk s2 ∧ OdOk t2 ∧ MapOk s t im ∧ MapOk s2 t2 im2
  post ds b := b = .st (.bl (s.ks.all fun z => decide (imgOf s2.ks im2 z ∈ t.E (imgOf s.ks im z)))) ∧ eqO s s2 = true ∧ eqO t t2 = true
  exn ds y fl := (eqO s s2 = false ∨ eqO t t2 = false) ∧ y = "Unlike" ∧ fl = []
abbrev s_mapLe : Stmt := mem 24 8
abbrev nMapLe : List Str := ["self", "other", "kind"]
theorem scMapLe : FnScope nMapLe ["self", "other"] (defScope s_mapLe) := ⟨rfl, rfl, rfl, by decide +kernel, rfl, by decide +kernel, by decide +kernel⟩
theorem ok_mapLe {f : Addr} {fd : FuncData} (F : FunM K x qual dvs s_mapLe f fd) (b : Bi mg) (oc : OrC K mg) (mc : MpC K mg) (Q : ∀ s t, Dx P w K mg base "check_equal" 5 (cEqual s t)) (B : ∀ ks E lo hi, Md P w K mg base "Order" "below" 4 (cBelow ks E lo hi)) (so to : Ods) (im : List Str) (so2 to2 : Ods) (im2 : List Str) : FnOk P w K mg base (L2.CX P w) 6 f fd ["self", "other"] (spP K (cMapLe so to im so2 to2 im2)) := by
  refine fp_ok F scMapLe (fun ds ⟨h, _⟩ => by rw [h]; rfl) fun cdv A outer s e Ex ds ho ⟨hd, h1, h2, h3, h4, m1, m2⟩ hr tk => ?_
  have nd := scMapLe.nd
  subst hd
  refine bl_ifR (px_not (px_val (pv_isO mc.ins (pv_var 1) mc.gl b.isinstance))) (fun h => by cases h) fun _ => ?_
  refine bl_do (Φ := fun d Γ => eqO so so2 = true ∧ Γ = [sD (.obj "Mapping" (dMap so to im)), sD (.obj "Mapping" (dMap so2 to2 im2)), none]) (ev_call (Q so so2) hr (by omega) tk (pvs_av (pvs_cons (pv_fld mc.cls mc.ns (pv_var 0) rfl) (pvs_cons (pv_fld mc.cls mc.ns (pv_var 1) rfl) pvs_nil))) ?_) ?_
  · rintro ds Γ1 ⟨rfl, rfl⟩
    refine ⟨⟨rfl, h1, h3⟩, ?_, fun y fl h => ⟨.inl h.1, h.2⟩⟩
    rintro bb ⟨rfl, hzm⟩
    exact ⟨_, .inl rfl, hzm, rfl⟩
  rintro d Γ1 ⟨heq, rfl⟩
  refine bl_do (Φ := fun d Γ => eqO to to2 = true ∧ Γ = [sD (.obj "Mapping" (dMap so to im)), sD (.obj "Mapping" (dMap so2 to2 im2)), none]) (ev_call (Q to to2) hr (by omega) tk (pvs_av (pvs_cons (pv_fld mc.cls mc.nt (pv_var 0) rfl) (pvs_cons (pv_fld mc.cls mc.nt (pv_var 1) rfl) pvs_nil))) ?_) ?_
  · rintro ds Γ1 ⟨rfl, rfl⟩
    refine ⟨⟨rfl, h2, h4⟩, ?_, fun y fl h => ⟨.inr h.1, h.2⟩⟩
    rintro bb ⟨rfl, hzm⟩
    exact ⟨_, .inl rfl, hzm, rfl⟩
  rintro d Γ1 ⟨heq2, rfl⟩
  refine bl_retP (pv_is (pv_all (bs := (so.ks.filter (fun _ => true)).map fun z => decide (imgOf so2.ks im2 z ∈ to.E (imgOf so.ks im z))) (pn_pv (pn_is (o' := .lst (((so.ks.filter (fun _ => true)).map fun z => decide (imgOf so2.ks im2 z ∈ to.E (imgOf so.ks im z))).map .bl)) (pn_lcA (c := D.str) (u := uS) (l := so.ks) (f := fun z => [sD (.obj "Mapping" (dMap so to im)), sD (.obj "Mapping" (dMap so2 to2 im2)), sD (.str z)]) (own := [("kind", 2)]) (ix := [2]) (bind := bName 2) (fun _ => true) (fun z => .bl (decide (imgOf so2.ks im2 z ∈ to.E (imgOf so.ks im z)))) uS_str (blk nMapLe (defScope s_mapLe)) nd
    (wp_tup (pv_fld oc.cls oc.nk (pv_fld mc.cls mc.ns (pv_var 0) rfl) rfl)) (fun s H C cl fp => gv_name 2 nd (hz := .inl ho)) (bindOk_name 2) (by decide) (.inl ho) (by have := h1.sm; omega) (fun a _ => rfl) (fun a ha s H C cl fp => pts_none) (fun a ha _ s H C cl fp => pv_meth (B to.ks to.E (imgOf so.ks im a) (imgOf so2.ks im2 a)) hr (by omega) (pv_fld mc.cls mc.nt (pv_var 0) rfl) rfl (pvs_cons (pv_dget hr (pv_fld mc.cls mc.nb (pv_var 0) rfl) (pv_var 2) (rowsF_val ha)) (pvs_cons (pv_dget hr (pv_fld mc.cls mc.nb (pv_var 1) rfl) (pv_var 2) (rowsF_val (eqO_in heq ha))) pvs_nil)) ⟨rfl, m1.of ha, eqO_in2 heq2 (m2.of (eqO_in heq ha))⟩ (fun _ h => h) (fun _ _ h => h.elim))) (by rw [List.map_map]; rfl)) rfl) b.all) (d := .bl (so.ks.all fun z => decide (imgOf so2.ks im2 z ∈ to.E (imgOf so.ks im z)))) (congrArg D.bl (by rw [List.all_map, filter_true]; rfl))) ⟨rfl, heq, heq2⟩
/-! ### == -/
def cMapEq (s t : Ods) (im : List Str) (s2 t2 : Ods) (im2 : List Str) : Fp where
  pre ds := ds = [.obj "Mapping" (dMap s t im), .obj "Mapping" (dMap s2 t2 im2)] ∧ OdOk s ∧ OdOk t ∧ OdOk s2 ∧ OdOk t2
  post ds b := b = .st (.bl (eqO s s2 && eqO t t2 && s.ks.all fun z => decide (imgOf s.ks im z = imgOf s2.ks im2 z)))
  exn _ _ _ := False
abbrev s_mapEq : Stmt := mem 24 9
theorem scMapEq : FnScope nMapLe ["self", "other"] (defScope s_mapEq) := ⟨rfl, rfl, rfl, by decide +kernel, rfl, by decide +kernel, by decide +kernel⟩
theorem ok_mapEq {f : Addr} {fd : FuncData} (F : FunM K x qual dvs s_mapEq f fd) (b : Bi mg) (oc : OrC K mg) (mc : MpC K mg) (Q : ∀ ks E ls G, Od P w K mg base "Order" "Order" .Eq 4 (cOrdEq ks E ls G)) (so to : Ods) (im : List Str) (so2 to2 : Ods) (im2 : List Str) : FnOk P w K mg base (L2.CX P w) 5 f fd ["self", "other"] (spP K (cMapEq so to im so2 to2 im2)) := by
  refine fp_ok F scMapEq (fun ds ⟨h, _⟩ => by rw [h]; rfl) fun cdv A outer s e Ex ds ho ⟨hd, h1, h2, h3, h4⟩ hr tk => ?_
  have nd := scMapEq.nd
  subst hd
  refine bl_ifR (px_w (pw_o (px_not (px_val (pv_isO mc.ins (pv_var 1) mc.gl b.isinstance))) fun _ => pw_o (px_not (px_own (t := eqO so so2) (Q so.ks so.E so2.ks so2.E) (fun _ _ => rfl) hr (by omega) (pv_fld mc.cls mc.ns (pv_var 0) rfl) (pv_fld mc.cls mc.ns (pv_var 1) rfl) ⟨rfl, h1.rl, h3.rl⟩ (fun _ h => h) (fun _ _ h => h.elim))) fun _ => pw_o1 (px_not (px_own (t := eqO to to2) (Q to.ks to.E to2.ks to2.E) (fun _ _ => rfl) hr (by omega) (pv_fld mc.cls mc.nt (pv_var 0) rfl) (pv_fld mc.cls mc.nt (pv_var 1) rfl) ⟨rfl, h2.rl, h4.rl⟩ (fun _ h => h) (fun _ _ h => h.elim))))) (fun h => ?_) fun h => ?_
  · refine bl_retP pv_bl ?_
    show B.st (.bl false) = B.st (.bl _)
    have : (eqO so so2 && eqO to to2) = false := by
      revert h
      cases eqO so so2 <;> cases eqO to to2 <;> simp
    rw [this]
    rfl
  · have e1 : eqO so so2 = true ∧ eqO to to2 = true := by
      revert h
      cases eqO so so2 <;> cases eqO to to2 <;> simp
    refine bl_retP (pv_is (pv_all (bs := (so.ks.filter (fun _ => true)).map fun z => decide (imgOf so.ks im z = imgOf so2.ks im2 z)) (pn_pv (pn_is (o' := .lst (((so.ks.filter (fun _ => true)).map fun z => decide (imgOf so.ks im z = imgOf so2.ks im2 z)).map .bl)) (pn_lcA (c := D.str) (u := uS) (l := so.ks) (f := fun z => [sD (.obj "Mapping" (dMap so to im)), sD (.obj "Mapping" (dMap so2 to2 im2)), sD (.str z)]) (own := [("kind", 2)]) (ix := [2]) (bind := bName 2) (fun _ => true) (fun z => .bl (decide (imgOf so.ks im z = imgOf so2.ks im2 z))) uS_str (blk nMapLe (defScope s_mapEq)) nd
      (wp_tup (pv_fld oc.cls oc.nk (pv_fld mc.cls mc.ns (pv_var 0) rfl) rfl)) (fun s H C cl fp => gv_name 2 nd (hz := .inl ho)) (bindOk_name 2) (by decide) (.inl ho) (by have := h1.sm; omega) (fun a _ => rfl) (fun a ha s H C cl fp => pts_none) (fun a ha _ s H C cl fp => pv_c op_eq (pv_dget hr (pv_fld mc.cls mc.nb (pv_var 0) rfl) (pv_var 2) (rowsF_val ha)) (pv_dget hr (pv_fld mc.cls mc.nb (pv_var 1) rfl) (pv_var 2) (rowsF_val (eqO_in e1.1 ha))) sc_eqS)) (by rw [List.map_map]; rfl)) rfl) b.all) (d := .bl (eqO so so2 && eqO to to2 && so.ks.all fun z => decide (imgOf so.ks im z = imgOf so2.ks im2 z))) (congrArg D.bl (by rw [List.all_map, filter_true, e1.1, e1.2]; rfl))) rfl
/-! ### identity -/
def cIdent (o : Ods) : Fp where
  pre ds := ds = [o.d] ∧ o.ks.Nodup ∧ OdOk o ∧ MOutP o.ks o.R o.ks o.R o.ks .made
  post ds b := b = .ow (.obj "Mapping" (dMap o o o.ks))
  exn _ _ _ := False
end
end Kf
end
section
set_option maxRecDepth 100000
set_option maxHeartbeats 4000000
/-! KfT1: the law's calls under try. -/
namespace Kf
open PySem L2

section
variable {X : Cx} {e : Ent} {Γ : Gam} {x : Expr} {pos : Pos} {C f : Str}
/-- x.f, x not pure -/
theorem ev_fld {Φ Ψ : D → Gam → Prop} (c : Cls X.K (He.ga X.K C)) (na : NoAttr X.K (He.ga X.K C) f) (he : EV X e x Γ Φ) (h : ∀ d Γ1, Φ d Γ1 → ∃ fs d', d = .obj C fs ∧ fs.lookup f = some d' ∧ Ψ d' Γ1) (hb : attributeBase x f X.env (eval x X.env) = eval x X.env := by rfl) : EV X e (.Attribute x f pos) Γ Ψ :=
  PE.imp (pe_fld he hb) fun σ H Q ⟨S, w, q⟩ => ⟨S, w, fun S1 H1 v d Γ1 hd s1 w1 r1 => by
    obtain ⟨fs, d', rfl, hl, hΨ⟩ := h d Γ1 hd
    cases r1 with
    | obj h1 h2 =>
      obtain ⟨u, hu, ru⟩ := h2.lookup hl
      exact ⟨_, _, _, _, u, rfl, w1.nx.sh _ _ h1, c, na, hu, q S1 H1 u d' Γ1 hΨ s1 w1 ru⟩⟩
end
/-- an exception class that a suite looks at -/
structure XkC (K : Fg) (x : Str) : Prop where
  xf : XfC K (He.ga K x)
  ex : ExcC K (He.ga K x)
/-- e's class against a class of the text | ValueError -/
def IsK (K : Fg) (x c : Str) (b : Bool) : Prop := PySem.W.kitOne K (.ref (He.ga K x)) (.ref (He.ga K c)) = some b
structure ErC (K : Fg) (mg : Str → Option Value) : Prop where
  gNL : mg "NotListed" = some (.ref (He.ga K "NotListed"))
  gBC : mg "BadCount" = some (.ref (He.ga K "BadCount"))
  gBr : mg "Broken" = some (.ref (He.ga K "Broken"))
  gUn : mg "Unlike" = some (.ref (He.ga K "Unlike"))
  gKE : mg "KindError" = some (.ref (He.ga K "KindError"))
  gVE : mg "ValueError" = none
  nl : XkC K "NotListed"
  bc : XkC K "BadCount"
  br : XkC K "Broken"
  un : XkC K "Unlike"
  fNL : PySem.W.findIn K (.ref (He.ga K "NotListed")) "name" = some none
  fBC : PySem.W.findIn K (.ref (He.ga K "BadCount")) "number" = some none
  fBr : PySem.W.findIn K (.ref (He.ga K "Broken")) "pair" = some none
  ve : ∀ x : Str, x = "NotListed" ∨ x = "BadCount" ∨ x = "Broken" ∨ x = "Unlike" → PySem.W.kitOne K (.ref (He.ga K x)) (.type "ValueError") = some true
  ke : ∀ x : Str, x = "NotListed" ∨ x = "BadCount" ∨ x = "Broken" ∨ x = "Unlike" → PySem.W.exmOne K (.ref (He.ga K x)) (.ref (He.ga K "KindError")) = some true
  exN : PySem.W.exmOne K (.ref (He.ga K "NotListed")) (.ref (He.ga K "NotListed")) = some true
  nlnl : IsK K "NotListed" "NotListed" true
  nlbc : IsK K "NotListed" "BadCount" false
  bcnl : IsK K "BadCount" "NotListed" false
  bcbc : IsK K "BadCount" "BadCount" true
  bcbr : IsK K "BadCount" "Broken" false
  brnl : IsK K "Broken" "NotListed" false
  brbc : IsK K "Broken" "BadCount" false
  brbr : IsK K "Broken" "Broken" true
  unun : IsK K "Unlike" "Unlike" true
  unnl : IsK K "Unlike" "NotListed" false
/-- mapping(..) by an instance -/
structure CallD (P : Program) (w : World) (K : Fg) (mg : Str → Option Value) (base : Heap) : Prop where
  fn : ∃ g, StX.CallO K (He.ga K "Mapping") g ∧ ∀ s t im z, FnR P w K mg base (L2.CX P w) 4 g (spP K (cMapC s t im z))
section
variable {P : Program} {w : World} {K : Fg} {mg : Str → Option Value} {base : Heap}
/-! ### _law_called -/
def calledD (s : Ods) (im : List Str) (z : Str) : D := if z ∈ s.ks then .lst [.str "told", .str (imgOf s.ks im z)] else .lst [.str "NotListed", .str z]
def cCalled (s t : Ods) (im : List Str) (z : Str) : Fp where
  pre ds := ds = [.obj "Mapping" (dMap s t im), .str z]
  post ds b := b = .st (calledD s im z)
  exn _ _ _ := False
abbrev nCalled : List Str := ["mapping", "name", "e"]
/-! ### _law_asked -/
def leD (s : Ods) (im : List Str) (t s2 : Ods) (im2 : List Str) : Bool := s.ks.all fun z => decide (imgOf s2.ks im2 z ∈ t.E (imgOf s.ks im z))
open Classical in
noncomputable def askedD (s t : Ods) (im : List Str) (s2 t2 : Ods) (im2 : List Str) (way : Int) : D :=
  if way = 0 then (if eqO s s2 = true ∧ eqO t t2 = true then .lst [.str "told", .bl (leD s im t s2 im2)] else .lst [.str "Unlike"])
  else if eqO s t = true then .lst [.str "told", .tup ((fixL s im).map .str)] else .lst [.str "Unlike"]
noncomputable def cAsked (s t : Ods) (im : List Str) (s2 t2 : Ods) (im2 : List Str) (way : Int) : Fp where
  pre ds := ds = [.obj "Mapping" (dMap s t im), .obj "Mapping" (dMap s2 t2 im2), .int way] ∧ OdOk s ∧ OdOk t ∧ OdOk s2 ∧ OdOk t2 ∧ MapOk s t im ∧ MapOk s2 t2 im2
  post ds b := b = .st (askedD s t im s2 t2 im2 way)
  exn _ _ _ := False
abbrev nAsked : List Str := ["one", "two", "way", "e"]
/-! ### _law_made -/
def madeD (s t : Ods) (im : List Str) : MOut → D
  | .notL z => .lst [.str "NotListed", .str z]
  | .badC n => .lst [.str "BadCount", .int (n : Int)]
  | .broken a b => .lst [.str "Broken", .tup [.str a, .str b]]
  | .made => .lst [.str "made", .obj "Mapping" (dMap s t im)]
def madeL (s t : Ods) (os ot : Option V) (im : List Str) : MOut → List D
  | .notL z => [.str "NotListed", .str z]
  | .badC n => [.str "BadCount", .int (n : Int)]
  | .broken a b => [.str "Broken", .tup [.str a, .str b]]
  | .made => [.str "made", .obj "Mapping" (dMapT s t os ot im)]
theorem madeL_none {s t : Ods} {im : List Str} (m : MOut) : D.lst (madeL s t none none im m) = madeD s t im m := by
  cases m <;> rfl
def cMade (s t : Ods) (os ot : Option V) (im : List Str) : Fp where
  pre ds := ds = [s.d.tg os, t.d.tg ot, .lst (im.map .str)] ∧ s.ks.Nodup ∧ s.ks.length ≤ 1000
  post ds b := ∃ m, MOutP s.ks s.R t.ks t.R im m ∧ b = .ow (.lst (madeL s t os ot im m))
  exn _ _ _ := False
abbrev nMade : List Str := ["source", "target", "images", "e"]
theorem eo_ev {X : Cx} {e : Ent} {Γ : Gam} {x : Expr} {Φ : O → Gam → Prop} {Ψ : D → Gam → Prop} (h : EO X e x Γ Φ) (k : ∀ o Γ1, Φ o Γ1 → Ψ o.d Γ1) : EV X e x Γ Ψ :=
  PE.imp h fun σ H Q ⟨S, w, q⟩ => ⟨S, w, fun S1 H1 c o Γ1 ho s1 w1 sa ow ha => by
    obtain ⟨S2, s2, w2, r2⟩ := tO_frz s1 w w1 sa ow ha
    exact q S2 H1 _ _ Γ1 (k o Γ1 ho) s2 w2 r2⟩
end
end Kf
end
section
set_option maxRecDepth 100000
set_option maxHeartbeats 4000000
/-! KfT2: lists of texts by == and !=. -/
namespace Kf
open PySem L2

theorem eqvAll_strs : ∀ a b : List Str, PyData.eqvAll (a.map PyData.str) (b.map PyData.str) = decide (a = b)
  | [], [] => by simp [PyData.eqvAll]
  | x :: xs, [] => by simp [PyData.eqvAll]
  | [], y :: ys => by simp [PyData.eqvAll]
  | x :: xs, y :: ys => by
    have ih := eqvAll_strs xs ys
    have e : PyData.eqv (.str x) (.str y) = (x == y) := by simp [PyData.eqv]
    show (PyData.eqv (.str x) (.str y) && PyData.eqvAll (xs.map PyData.str) (ys.map PyData.str)) = _
    rw [ih, e]
    by_cases h : x = y
    · subst h
      simp
    · simp [h]
theorem dpAll_strs {K : Fg} {S H : Hp} : ∀ {vs : List V} {ns : List Str}, RpL K S vs (ns.map .str) → DpAll K H vs (ns.map PyData.str)
  | _, [], .nil => .nil
  | _, n :: ns, .cons r t => by
    cases r
    exact .cons (.str n) (dpAll_strs t)
theorem depth_strs : ∀ a : List Str, PyData.depthAll (a.map PyData.str) = 0
  | [] => by simp [PyData.depthAll]
  | x :: xs => by
    have ih := depth_strs xs
    simp [PyData.depthAll, PyData.depth, ih]
theorem lay_strs : ∀ a : List Str, (∀ z ∈ a, PyData.strOk z = true) → PyData.canLayAll0 (a.map PyData.str) = true
  | [], _ => by simp [PyData.canLayAll0]
  | x :: xs, h => by
    have ih := lay_strs xs fun z hz => h z (List.mem_cons_of_mem _ hz)
    simp [PyData.canLayAll0, PyData.canLay0, ih, h x List.mem_cons_self]
theorem shaped_strs {a : List Str} (h : ∀ z ∈ a, PyData.strOk z = true) : SeqAt.shaped (.list (a.map PyData.str)) = true := by
  unfold SeqAt.shaped
  rw [Bool.and_eq_true]
  refine ⟨?_, decide_eq_true ?_⟩
  · show PyData.canLayAll0 _ = true
    exact lay_strs a h
  · show PyData.depthAll _ + 1 ≤ 64
    rw [depth_strs]
    decide
theorem sc_eqLS {K : Fg} {a b : List Str} (ha : ∀ z ∈ a, PyData.strOk z = true) (hb : ∀ z ∈ b, PyData.strOk z = true) : Sc K (rEqD K) (dStrs a) (dStrs b) (.bl (decide (a = b))) := fun S H v1 v2 Q s r1 r2 q => by
  cases r1 with
  | lst h1 h2 =>
    cases r2 with
    | lst h3 h4 =>
      refine ⟨_, _, .lst (rdq (same_rd s h1)) (dpAll_strs h2), .lst (rdq (same_rd s h3)) (dpAll_strs h4), shaped_strs ha, shaped_strs hb, ?_⟩
      have e : PyData.eqv (.list (a.map PyData.str)) (.list (b.map PyData.str)) = decide (a = b) := eqvAll_strs a b
      rw [e]
      exact q _ (.bl _)
theorem sc_neLS {K : Fg} {a b : List Str} (ha : ∀ z ∈ a, PyData.strOk z = true) (hb : ∀ z ∈ b, PyData.strOk z = true) : Sc K (rNeD K) (dStrs a) (dStrs b) (.bl (!decide (a = b))) := fun S H v1 v2 Q s r1 r2 q => by
  cases r1 with
  | lst h1 h2 =>
    cases r2 with
    | lst h3 h4 =>
      refine ⟨_, _, .lst (rdq (same_rd s h1)) (dpAll_strs h2), .lst (rdq (same_rd s h3)) (dpAll_strs h4), shaped_strs ha, shaped_strs hb, ?_⟩
      have e : PyData.eqv (.list (a.map PyData.str)) (.list (b.map PyData.str)) = decide (a = b) := eqvAll_strs a b
      rw [e]
      exact q _ (.bl _)
section
variable {P : Program} {w : World} {K : Fg} {mg : Str → Option Value} {base : Heap}
/-! ### _law_compared -/
theorem le_lost {s t : Ods} {im im2 : List Str} {T : Nat → Nat → Bool} {ts : List Str} (hnd : s.ks.Nodup) (m1 : MapOk s t im) (m2 : MapOk s t im2) (h1 : ∀ z ∈ im, z ∈ ts) (h2 : ∀ z ∈ im2, z ∈ ts) (hT : ∀ a b, a ∈ ts → b ∈ ts → decide (b ∈ t.E a) = T (ts.idxOf a) (ts.idxOf b)) :
    leD s im t s im2 = decide (((List.range im.length).filter fun k => !T (ts.idxOf (im.getD k ⟨#[]⟩)) (ts.idxOf (im2.getD k ⟨#[]⟩))).length = 0) := by
  have key : ∀ k, k < s.ks.length → decide (imgOf s.ks im2 (s.ks.getD k ⟨#[]⟩) ∈ t.E (imgOf s.ks im (s.ks.getD k ⟨#[]⟩))) = T (ts.idxOf (im.getD k ⟨#[]⟩)) (ts.idxOf (im2.getD k ⟨#[]⟩)) := fun k hk => by
    rw [imgOf_at hnd (getD_at hk), imgOf_at hnd (getD_at hk)]
    exact hT _ _ (h1 _ (getD_mem (by rw [m1.len]; exact hk))) (h2 _ (getD_mem (by rw [m2.len]; exact hk)))
  unfold leD
  rw [Bool.eq_iff_iff, List.all_eq_true, decide_eq_true_iff, List.length_eq_zero_iff, List.filter_eq_nil_iff]
  constructor
  · intro h k hk
    have hk' : k < s.ks.length := by rw [← m1.len]; exact List.mem_range.mp hk
    have := h _ (getD_mem hk')
    rw [key k hk'] at this
    simp only [this]
    decide
  · intro h z hz
    obtain ⟨k, hk⟩ := List.getElem?_of_mem hz
    have hk' := (List.getElem?_eq_some_iff.mp hk).1
    have ez : s.ks.getD k ⟨#[]⟩ = z := by rw [List.getD_eq_getElem?_getD, hk]; rfl
    have := h k (List.mem_range.mpr (by rw [m1.len]; exact hk'))
    rw [← ez, key k hk']
    simpa using this
theorem eq_imgs {s t : Ods} {im im2 : List Str} (hnd : s.ks.Nodup) (m1 : MapOk s t im) (m2 : MapOk s t im2) : (s.ks.all fun z => decide (imgOf s.ks im z = imgOf s.ks im2 z)) = decide (im = im2) := by
  rw [Bool.eq_iff_iff, List.all_eq_true, decide_eq_true_iff]
  constructor
  · intro h
    refine List.ext_getElem (by rw [m1.len, m2.len]) fun k g1 g2 => ?_
    have hk' : k < s.ks.length := by rw [← m1.len]; exact g1
    have := of_decide_eq_true (h _ (getD_mem hk'))
    rw [imgOf_at hnd (getD_at hk'), imgOf_at hnd (getD_at hk'), List.getD_eq_getElem?_getD, List.getD_eq_getElem?_getD, List.getElem?_eq_getElem g1, List.getElem?_eq_getElem g2] at this
    exact this
  · rintro rfl z _
    exact decide_eq_true rfl
def cComp (s t t2 : Ods) (im im2 : List Str) (ts : List Str) (T : Nat → Nat → Bool) : Fp where
  pre ds := ds = [.obj "Mapping" (dMap s t im), .obj "Mapping" (dMap s t2 im2), dStrs im, dStrs im2, dRows ts.length T, dStrs ts] ∧ s.ks.Nodup ∧ OdOk s ∧ OdOk t ∧ OdOk t2 ∧ MapOk s t im ∧ MapOk s t im2 ∧ MapOk s t2 im2 ∧ eqO s s = true ∧ eqO t t2 = true ∧
    (∀ z ∈ im, z ∈ ts) ∧ (∀ z ∈ im2, z ∈ ts) ∧ (∀ z ∈ im, KName z) ∧ (∀ z ∈ im2, KName z) ∧ ts.length ≤ 1000 ∧ ∀ a b, a ∈ ts → b ∈ ts → decide (b ∈ t.E a) = T (ts.idxOf a) (ts.idxOf b)
  post ds b := b = .st (.bl true)
  exn _ _ _ := False
abbrev nComp : List Str := ["one", "two", "first", "second", "there", "tails", "lost", "k"]
abbrev pComp : List Str := ["one", "two", "first", "second", "there", "tails"]
end
end Kf
end
section
set_option maxRecDepth 100000
set_option maxHeartbeats 4000000
/-! KfT3: _law_right. -/
namespace Kf
open PySem L2

section
variable {P : Program} {w : World} {K : Fg} {mg : Str → Option Value} {base : Heap}
def cRight (s t : Ods) (im strange : List Str) : Fp where
  pre ds := ds = [.obj "Mapping" (dMap s t im), s.d, t.d, dStrs s.ks, dStrs t.ks, dStrs im, dStrs strange, .bl (eqO s t)] ∧ s.ks.Nodup ∧ OdOk s ∧ OdOk t ∧ MapOk s t im ∧ eqO s s = true ∧ eqO t t = true ∧ (∀ z ∈ strange, z ∉ s.ks) ∧ strange.length ≤ 1000
  post ds b := b = .st (.bl true)
  exn _ _ _ := False
abbrev nRight : List Str := ["mapping", "source", "target", "heads", "tails", "images", "strange", "same", "k", "name", "region", "due"]
abbrev pRight : List Str := ["mapping", "source", "target", "heads", "tails", "images", "strange", "same"]
theorem pl_tupS (k : Nat) (l : List Str) (h : l.length ≤ 10000) : Pl (k + 1) (.tup (l.map .str)) := .tup (fun d hd => by
  obtain ⟨z, _, rfl⟩ := List.mem_map.mp hd
  exact .str _ _) (by rw [List.length_map]; exact h)
theorem pl_two {z : Str} {d : D} {k : Nat} (h : Pl k d) : Pl (k + 1) (.lst [.str z, d]) := .lst (fun e he => by
  rcases List.mem_cons.mp he with rfl | he
  · exact .str _ _
  · rw [List.mem_singleton.mp he]; exact h) (by show 2 ≤ 10000; decide)
theorem fix_range {s : Ods} {im : List Str} (hnd : s.ks.Nodup) (hl : im.length = s.ks.length) : ((List.range s.ks.length).filter fun k => decide (im.getD k ⟨#[]⟩ = s.ks.getD k ⟨#[]⟩)).map (fun k => s.ks.getD k ⟨#[]⟩) = fixL s im := by
  have e : s.ks = (List.range s.ks.length).map fun k => s.ks.getD k ⟨#[]⟩ := by
    refine List.ext_getElem? fun i => ?_
    rw [List.getElem?_map]
    by_cases h : i < s.ks.length
    · rw [List.getElem?_range h, getD_at h]
      rfl
    · rw [List.getElem?_eq_none (by omega), List.getElem?_eq_none (by simp; omega)]
      rfl
  unfold fixL
  conv => rhs; arg 2; rw [e]
  rw [List.filter_map]
  congr 1
  refine List.filter_congr fun k hk => ?_
  have hk' := List.mem_range.mp hk
  show _ = decide (imgOf s.ks im (s.ks.getD k ⟨#[]⟩) = s.ks.getD k ⟨#[]⟩)
  rw [imgOf_at hnd (getD_at hk')]
end
end Kf
end
section
set_option maxRecDepth 100000
set_option maxHeartbeats 4000000
/-! KfV: C.m(..), m a staticmethod of the class C. -/
namespace L2
open PySem PySem.Spec PyProof.Rows
/-- C.m is a staticmethod: its record at p, its def at g -/
structure CSta (K : PySem.W.Frag) (C : Addr) (m : Str) (p g : Addr) : Prop where
  rd : ClX.CRead K C (.type "type")
  at_ : PySem.W.findCls K (.ref C) (.type "type") m = some (.get (.builtin "staticmethod.__get__") (.ref p) .none (.ref C))
  rc : ∃ rest, PySem.W.recIn K p "staticmethod" = some (.ref g :: rest)
  kp : PySem.W.keepIn K (.ref g) = true
section
variable {X : Cx} {k : Nat} {C p g : Addr} {sp : Sp} {W : WX} {o e : Expr} {es : List Expr} {m : Str} {pos apos : Pos} {ta : TE} {t : TA} {pl : Sem Bool}
theorem pe_smeth (he : PE X o ta) (c : CSta X.K C m p g) (F : FnR X.prog X.w X.K X.mg X.base (L2.CX X.prog X.w) k g sp) (hr : Room k X.A) (tk : Takes X W) (ha : PA X (e :: es) t)
    (hst : starEach (e :: es) X.env = (false, eval e X.env) :: starEach es X.env := by rfl) (hpl : (backTo pos (starEach es X.env)).any (·.1) = false := by rfl)
    (ht : eval (.Call (.Attribute o m apos) (e :: es) [] pos) X.env = (do
      let ov ← eval o X.env
      standAt apos.atName
      let (f, first) ← holding [ov] (getMethod ov m pl)
      callWith pos f first (backTo pos (starEach (e :: es) X.env)) (backToKw pos (keywordEach [] X.env))) := by rfl) :
    PE X (.Call (.Attribute o m apos) (e :: es) [] pos) (fun σ H Q => ta σ H fun x H1 => x = .ref C ∧ t σ H1 fun vs H2 => sp vs H2 Q fun c d H3 => W c d σ H3) := by
  refine ⟨fun pins s σ H Q I h => ?_⟩
  refine PySem.W.methodCall_KW (pl := pl) (thn (he.run pins s σ H _ I h) fun u s1 ⟨x, H1, I1, rx, ex, q⟩ => ?_) ht
  subst ex
  obtain rfl : u = Value.ref C := rx
  obtain ⟨rest, hp⟩ := c.rc
  refine PySem.W.method_cls I1.kIn c.rd.ga (PySem.W.cls_bind I1.kIn c.rd.rd c.at_ (wpAny_call (PySem.W.sm_get (s := { s1 with toks := s1.toks + 1 }) I1.kIn hp (PySem.W.handed_on rfl ?_))))
  have I2 : Inv X pins σ H1 { s1 with toks := s1.toks + 1 } := I1.tok _
  refine PySem.W.callWith_K (h₀ := X.base) I2.ok.mod.kin c.kp (thn (ha.run pos pins _ σ H1 _ I2 q) fun us s3 ⟨vs, H2, I3, rv, q2⟩ => ⟨I3.kIn, ?_⟩) hst hpl
  exact Kf.run_fnW F hr tk I3 rv q2
end
end L2
namespace Kf
open PySem L2
section
variable {X : Cx} {e : Ent} {Γ : Gam} {C m : Str} {a : Expr} {es : List Expr} {pos apos p : Pos} {n j : Nat}
/-- C.m(..), one's own, no error -/
theorem pn_smeth {c : Fp} {q g : Addr} {ds : List D} {o : O} {pl : Sem Bool} (S1 : CSta X.K (He.ga X.K C) m q g) (F : FnR X.prog X.w X.K X.mg X.base (L2.CX X.prog X.w) n g (spP X.K c)) (hmC : X.mg C = some (.ref (He.ga X.K C))) (hr : Room j X.A) (hj : n ≤ j) (ha : PVs X e (a :: es) Γ ds) (hp : c.pre ds) (hq : ∀ b, c.post ds b → b = .ow o) (hn : ∀ y fl, ¬ c.exn ds y fl)
    (hgC : Gl X C := by rfl) (hd : (C == ("__debug__" : Str)) = false := by decide)
    (hst : starEach (a :: es) X.env = (false, eval a X.env) :: starEach es X.env := by rfl) (hpl : (backTo pos (starEach es X.env)).any (·.1) = false := by rfl)
    (ht : eval (.Call (.Attribute (.Name C p) m apos) (a :: es) [] pos) X.env = (do
      let ov ← eval (.Name C p) X.env
      standAt apos.atName
      let (f, first) ← holding [ov] (getMethod ov m pl)
      callWith pos f first (backTo pos (starEach (a :: es) X.env)) (backToKw pos (keywordEach [] X.env))) := by rfl) : PN X e (.Call (.Attribute (.Name C p) m apos) (a :: es) [] pos) Γ o :=
  PE.imp (pe_smeth (W := fun _ _ _ _ => False) (pe_glob (v := .ref (He.ga X.K C)) hgC hmC rfl hd) S1 F (hr.mono hj) takes0 ha hst hpl ht) fun σ H Q ⟨S, w, k⟩ => ⟨rfl, S, w, fun S1 H1 vs s1 w1 r1 => by
    refine ⟨S1, ds, w1.nx.sh, r1, hp, fun S3 H3 v b hb n3 r3 => ?_, fun S3 H3 y fl cls dd hy => (hn y fl hy).elim⟩
    obtain ⟨w3, s3⟩ := w1.after n3
    rw [hq b hb] at r3
    obtain ⟨p3, rfl, sp3, ow3, z0⟩ := r3
    exact k S3 H3 p3 (s1.trans s3) w3 sp3 ow3 (s1.hh.free z0)⟩
end
end Kf
end
section
set_option maxRecDepth 100000
set_option maxHeartbeats 4000000
/-! KfT4: == and != of plain data of any shape. -/
namespace Kf
open PySem L2

/-- the datum d as the kit's plain data -/
inductive PyD : D → PyData → Prop
  | non : PyD .non .none
  | bl (b : Bool) : PyD (.bl b) (.bool b)
  | int (i : Int) : PyD (.int i) (.int i)
  | str (z : Str) : PyD (.str z) (.str z)
  | lnil : PyD (.lst []) (.list [])
  | lcons {d : D} {p : PyData} {l : List D} {q : List PyData} : PyD d p → PyD (.lst l) (.list q) → PyD (.lst (d :: l)) (.list (p :: q))
  | tnil : PyD (.tup []) (.tuple [])
  | tcons {d : D} {p : PyData} {l : List D} {q : List PyData} : PyD d p → PyD (.tup l) (.tuple q) → PyD (.tup (d :: l)) (.tuple (p :: q))
theorem pyD_dp {K : Fg} {S H : Hp} (s : Same S H) {d : D} {p : PyData} (h : PyD d p) : (∀ v, Rp K S v d → Dp K H v p) ∧ (∀ l q, d = .lst l → p = .list q → ∀ vs, RpL K S vs l → DpAll K H vs q) ∧ (∀ l q, d = .tup l → p = .tuple q → ∀ vs, RpL K S vs l → DpAll K H vs q) := by
  induction h with
  | non => exact ⟨fun v r => by cases r; exact .non, fun l q h => (nomatch h), fun l q h => (nomatch h)⟩
  | bl b => exact ⟨fun v r => by cases r; exact .bl b, fun l q h => (nomatch h), fun l q h => (nomatch h)⟩
  | int i => exact ⟨fun v r => by cases r; exact .int i, fun l q h => (nomatch h), fun l q h => (nomatch h)⟩
  | str z => exact ⟨fun v r => by cases r; exact .str z, fun l q h => (nomatch h), fun l q h => (nomatch h)⟩
  | lnil => exact ⟨fun v r => by
      cases r with
      | lst h1 h2 => cases h2; exact .lst (rdq (same_rd s h1)) .nil, fun l q h h' vs r => by cases h; cases h'; cases r; exact .nil, fun l q h => (nomatch h)⟩
  | tnil => exact ⟨fun v r => by
      cases r with
      | tup h1 h2 => cases h2; exact .tup (same_sqT s h1) .nil, fun l q h => (nomatch h), fun l q h h' vs r => by cases h; cases h'; cases r; exact .nil⟩
  | @lcons d0 p0 l0 q0 a b iha ihb =>
    have key : ∀ vs, RpL K S vs (d0 :: l0) → DpAll K H vs (p0 :: q0) := fun vs r => by
      cases r with
      | cons r1 r2 => exact .cons (iha.1 _ r1) (ihb.2.1 _ _ rfl rfl _ r2)
    exact ⟨fun v r => by
      cases r with
      | lst h1 h2 => exact .lst (rdq (same_rd s h1)) (key _ h2), fun l q h h' vs r => by cases h; cases h'; exact key vs r, fun l q h => (nomatch h)⟩
  | @tcons d0 p0 l0 q0 a b iha ihb =>
    have key : ∀ vs, RpL K S vs (d0 :: l0) → DpAll K H vs (p0 :: q0) := fun vs r => by
      cases r with
      | cons r1 r2 => exact .cons (iha.1 _ r1) (ihb.2.2 _ _ rfl rfl _ r2)
    exact ⟨fun v r => by
      cases r with
      | tup h1 h2 => exact .tup (same_sqT s h1) (key _ h2), fun l q h => (nomatch h), fun l q h h' vs r => by cases h; cases h'; exact key vs r⟩
theorem sc_eqP {K : Fg} {a b : D} {p q : PyData} (ha : PyD a p) (hb : PyD b q) (sa : SeqAt.shaped p = true) (sb : SeqAt.shaped q = true) : Sc K (rEqD K) a b (.bl (PyData.eqv p q)) := fun S H v1 v2 Q s r1 r2 k => ⟨_, _, (pyD_dp s ha).1 _ r1, (pyD_dp s hb).1 _ r2, sa, sb, k _ (.bl _)⟩
theorem sc_neP {K : Fg} {a b : D} {p q : PyData} (ha : PyD a p) (hb : PyD b q) (sa : SeqAt.shaped p = true) (sb : SeqAt.shaped q = true) : Sc K (rNeD K) a b (.bl (!PyData.eqv p q)) := fun S H v1 v2 Q s r1 r2 k => ⟨_, _, (pyD_dp s ha).1 _ r1, (pyD_dp s hb).1 _ r2, sa, sb, k _ (.bl _)⟩
end Kf
end
section
set_option maxRecDepth 100000
set_option maxHeartbeats 4000000
/-! KfW0: plain: the program's order against the law's own table. -/
namespace Kf
open PySem L2

theorem RchS.trans {E : Str → List Str} {a b c : Str} (h : RchS E a b) (q : RchS E b c) : RchS E a c := by
  induction q with
  | refl => exact h
  | step _ e ih => exact .step ih e
theorem mem_succS {prs : List (Str × Str)} {x y : Str} : y ∈ succS prs x ↔ (x, y) ∈ prs := by
  unfold succS
  rw [List.mem_map]
  constructor
  · rintro ⟨⟨a, b⟩, h, rfl⟩
    have := List.mem_filter.mp h
    have e : a = x := by simpa using this.2
    subst e
    exact this.1
  · intro h
    exact ⟨(x, y), List.mem_filter.mpr ⟨h, by simp⟩, rfl⟩
open Classical in
theorem mem_aboveS {ks : List Str} {prs : List (Str × Str)} {x y : Str} : y ∈ aboveS ks prs x ↔ y ∈ ks ∧ RchS (succS prs) x y := by
  unfold aboveS
  rw [List.mem_filter, decide_eq_true_iff]
/-- pairs that go up a rank -/
def Ranked (prs : List (Str × Str)) : Prop := ∃ rk : Str → Int, ∀ p ∈ prs, rk p.1 < rk p.2
theorem rch_rank {prs : List (Str × Str)} {rk : Str → Int} (h : ∀ p ∈ prs, rk p.1 < rk p.2) {x y : Str} (q : RchS (succS prs) x y) : x = y ∨ rk x < rk y := by
  induction q with
  | refl => exact .inl rfl
  | step _ e ih =>
    have := h _ (mem_succS.mp e)
    rcases ih with ih | ih
    · subst ih; exact .inr this
    · exact .inr (by have := this; simp only at this; omega)
theorem anti_of {ks : List Str} {prs : List (Str × Str)} (h : Ranked prs) : ∀ x y, x ∈ ks → y ∈ aboveS ks prs x → x ∈ aboveS ks prs y → x = y := fun x y _ h1 h2 => by
  obtain ⟨rk, h⟩ := h
  rcases rch_rank h (mem_aboveS.mp h1).2 with q | q
  · exact q
  · rcases rch_rank h (mem_aboveS.mp h2).2 with z | z
    · exact z.symm
    · omega
/-- the pairs by places -/
def plc (ks : List Str) (prs : List (Str × Str)) : List (Nat × Nat) := prs.map fun p => (ks.idxOf p.1, ks.idxOf p.2)
theorem plc_in {ks : List Str} {prs : List (Str × Str)} (h : ∀ p ∈ prs, p.1 ∈ ks ∧ p.2 ∈ ks) : ∀ p ∈ plc ks prs, p.1 < ks.length ∧ p.2 < ks.length := fun p hp => by
  obtain ⟨q, hq, rfl⟩ := List.mem_map.mp hp
  exact ⟨idx_lt (h q hq).1, idx_lt (h q hq).2⟩
theorem idx_inj {ks : List Str} {a b : Str} (ha : a ∈ ks) (hb : b ∈ ks) (h : ks.idxOf a = ks.idxOf b) : a = b := by
  have h1 := (idx_first ha).1
  have h2 := (idx_first hb).1
  rw [h, h2] at h1
  exact (Option.some.inj h1).symm
theorem rch_plc {ks : List Str} {prs : List (Str × Str)} (h : ∀ p ∈ prs, p.1 ∈ ks ∧ p.2 ∈ ks) {a b : Str} (ha : a ∈ ks) (hb : b ∈ ks) : RchS (succS prs) a b ↔ Rch (plc ks prs) (ks.idxOf a) (ks.idxOf b) := by
  constructor
  · intro q
    induction q with
    | refl => exact .refl _
    | @step y z p e ih =>
      have hm := mem_succS.mp e
      exact .step (ih (h _ hm).1) (List.mem_map.mpr ⟨_, hm, rfl⟩)
  · intro q
    have key : ∀ {i j : Nat}, Rch (plc ks prs) i j → ∀ a b, a ∈ ks → b ∈ ks → i = ks.idxOf a → j = ks.idxOf b → RchS (succS prs) a b := by
      intro i j q
      induction q with
      | refl =>
        intro a b ha hb h1 h2
        have := idx_inj ha hb (h1.symm.trans h2)
        subst this
        exact .refl _
      | step _ e ih =>
        intro a b ha hb h1 h2
        obtain ⟨p, hp, he⟩ := List.mem_map.mp e
        injection he with e1 e2
        have hb' : p.2 = b := idx_inj (h p hp).2 hb (e2.trans h2)
        subst hb'
        exact .step (ih a p.1 ha (h p hp).1 h1 e1.symm) (mem_succS.mpr hp)
    exact key q a b ha hb rfl rfl
/-- one order of the law -/
structure LOrd (ks : List Str) (prs : List (Str × Str)) : Prop where
  nd : ks.Nodup
  kn : ∀ z ∈ ks, KName z
  l1 : 1 ≤ ks.length
  l4 : ks.length ≤ 10
  pin : ∀ p ∈ prs, p.1 ∈ ks ∧ p.2 ∈ ks
  pl : prs.length ≤ 1000
  rk : Ranked prs
noncomputable def lod (ks : List Str) (prs : List (Str × Str)) : Ods := ⟨ks, aboveS ks prs⟩
def tabR (ks : List Str) (prs : List (Str × Str)) : Nat → Nat → Bool := warsh ks.length (plc ks prs)
section
variable {ks : List Str} {prs : List (Str × Str)}
theorem LOrd.tab (o : LOrd ks prs) {a b : Str} (ha : a ∈ ks) (hb : b ∈ ks) : decide (b ∈ aboveS ks prs a) = tabR ks prs (ks.idxOf a) (ks.idxOf b) := by
  rw [Bool.eq_iff_iff, decide_eq_true_iff, mem_aboveS]
  unfold tabR
  rw [warsh_iff (plc_in o.pin), rch_plc o.pin ha hb]
  exact ⟨fun h => h.2, fun h => ⟨hb, h⟩⟩
theorem LOrd.R (o : LOrd ks prs) {i j : Nat} (hi : i < ks.length) (hj : j < ks.length) : (lod ks prs).R i j = tabR ks prs i j := by
  have h1 := o.nd.idxOf_getElem i hi
  have h2 := o.nd.idxOf_getElem j hj
  have e1 : ks.getD i ⟨#[]⟩ = ks[i] := by rw [List.getD_eq_getElem?_getD, List.getElem?_eq_getElem hi]; rfl
  have e2 : ks.getD j ⟨#[]⟩ = ks[j] := by rw [List.getD_eq_getElem?_getD, List.getElem?_eq_getElem hj]; rfl
  show decide (ks.getD j ⟨#[]⟩ ∈ aboveS ks prs (ks.getD i ⟨#[]⟩)) = _
  rw [e1, e2, o.tab (List.getElem_mem hi) (List.getElem_mem hj), h1, h2]
theorem LOrd.refl (o : LOrd ks prs) {i : Nat} : tabR ks prs i i = true := (warsh_iff (plc_in o.pin)).mpr (.refl _)
theorem sum_le {α : Type} {f : α → Nat} {n : Nat} : ∀ l : List α, (∀ x ∈ l, f x ≤ n) → (l.map f).sum ≤ l.length * n
  | [], _ => by simp
  | a :: l, h => by
    have ih := sum_le l fun x hx => h x (List.mem_cons_of_mem _ hx)
    have := h a List.mem_cons_self
    simp only [List.map_cons, List.sum_cons, List.length_cons, Nat.add_mul, Nat.one_mul]
    omega
theorem LOrd.ok (o : LOrd ks prs) : OdOk (lod ks prs) := by
  refine ⟨by have := o.l4; show ks.length ≤ 1000; omega, ?_⟩
  show (relS ks (aboveS ks prs)).length ≤ 10000
  unfold relS
  rw [List.length_flatMap]
  have h1 : (ks.map fun x => ((aboveS ks prs x).map fun y => (x, y)).length).sum ≤ ks.length * ks.length := sum_le ks fun x _ => by
    rw [List.length_map]
    exact List.length_filter_le _ _
  have h2 : ks.length * ks.length ≤ 10 * 10 := Nat.mul_le_mul o.l4 o.l4
  omega
theorem leS_iff {ks ls : List Str} {E G : Str → List Str} : leS ks E ls G = true ↔ (∀ z ∈ ks, z ∈ ls) ∧ ∀ x ∈ ks, ∀ y ∈ E x, y ∈ G x := by
  unfold leS
  rw [Bool.and_eq_true, List.all_eq_true, List.all_eq_true]
  constructor
  · rintro ⟨h1, h2⟩
    exact ⟨fun z hz => of_decide_eq_true (h1 z hz), fun x hx y hy => of_decide_eq_true (h2 (x, y) (mem_relS.mpr ⟨hx, hy⟩))⟩
  · rintro ⟨h1, h2⟩
    exact ⟨fun z hz => decide_eq_true (h1 z hz), fun p hp => decide_eq_true (h2 _ (mem_relS.mp hp).1 _ (mem_relS.mp hp).2)⟩
theorem eqO_self {o : Ods} : eqO o o = true := by
  unfold eqO eqS
  rw [Bool.and_eq_true]
  have : leS o.ks o.E o.ks o.E = true := leS_iff.mpr ⟨fun _ h => h, fun _ _ _ h => h⟩
  exact ⟨this, this⟩
theorem nodup_sub_len {a b : List Str} (hn : a.Nodup) (h : ∀ z ∈ a, z ∈ b) : a.length ≤ b.length := nodup_le hn h
theorem nodup_mem {a b : List Str} (hn : a.Nodup) (h : ∀ z ∈ a, z ∈ b) (hl : b.length ≤ a.length) : ∀ z ∈ b, z ∈ a := fun z hz => by
  refine Classical.byContradiction fun hz2 => ?_
  have := nodup_le (l := z :: a) (m := b) (List.nodup_cons.mpr ⟨hz2, hn⟩) fun x hx => by
    rcases List.mem_cons.mp hx with q | q
    · rw [q]; exact hz
    · exact h x q
  rw [List.length_cons] at this
  omega
theorem eqO_alike {hs ts : List Str} {p q : List (Str × Str)} (o1 : LOrd hs p) (o2 : LOrd ts q) : eqO (lod hs p) (lod ts q) = true ↔ AlikeP hs (tabR hs p) ts (tabR ts q) := by
  have e : eqO (lod hs p) (lod ts q) = (leS hs (aboveS hs p) ts (aboveS ts q) && leS ts (aboveS ts q) hs (aboveS hs p)) := rfl
  rw [e, Bool.and_eq_true, leS_iff, leS_iff]
  have tab1 : ∀ a b, a < hs.length → b < hs.length → tabR hs p a b = decide (hs.getD b ⟨#[]⟩ ∈ aboveS hs p (hs.getD a ⟨#[]⟩)) := fun a b ha hb => (o1.R ha hb).symm
  constructor
  · rintro ⟨⟨h1, h2⟩, h3, h4⟩
    refine ⟨Nat.le_antisymm (nodup_sub_len o1.nd h1) (nodup_sub_len o2.nd h3), h1, fun a b ha hb => ?_⟩
    have ma := getD_mem ha
    have mb := getD_mem hb
    rw [tab1 a b ha hb, ← o2.tab (h1 _ ma) (h1 _ mb)]
    exact decide_eq_decide.mpr ⟨fun z => h2 _ ma _ z, fun z => h4 _ (h1 _ ma) _ z⟩
  · rintro ⟨hl, h1, h2⟩
    have h3 := nodup_mem o1.nd h1 (by omega)
    have key : ∀ x ∈ hs, ∀ y ∈ hs, (y ∈ aboveS hs p x ↔ y ∈ aboveS ts q x) := fun x hx y hy => by
      have := h2 _ _ (idx_lt hx) (idx_lt hy)
      have ex : hs.getD (hs.idxOf x) ⟨#[]⟩ = x := by rw [List.getD_eq_getElem?_getD, (idx_first hx).1]; rfl
      have ey : hs.getD (hs.idxOf y) ⟨#[]⟩ = y := by rw [List.getD_eq_getElem?_getD, (idx_first hy).1]; rfl
      rw [ex, ey, ← o1.tab hx hy, ← o2.tab (h1 _ hx) (h1 _ hy)] at this
      exact decide_eq_decide.mp this
    refine ⟨⟨h1, fun x hx y hy => (key x hx y (mem_aboveS.mp hy).1).mp hy⟩, h3, fun x hx y hy => (key x (h3 _ hx) y (h3 _ (mem_aboveS.mp hy).1)).mpr hy⟩
theorem MOutP.congr {hs ts im : List Str} {R R' T T' : Nat → Nat → Bool} {o : MOut} (hR : ∀ i j, i < hs.length → j < hs.length → R i j = R' i j) (hT : ∀ i j, i < ts.length → j < ts.length → T i j = T' i j) (h : MOutP hs R ts T im o) : MOutP hs R' ts T' im o := by
  have key : (∀ z ∈ im, z ∈ ts) → im.length = hs.length → ∀ a b, a < hs.length → b < hs.length → badP R T ts im a b = badP R' T' ts im a b := fun h1 h2 a b ha hb => by
    unfold badP
    rw [hR a b ha hb, hT _ _ (idx_lt (h1 _ (getD_mem (by omega)))) (idx_lt (h1 _ (getD_mem (by omega))))]
  cases h with
  | notL g1 g2 g3 => exact .notL g1 g2 g3
  | badC g1 g2 => exact .badC g1 g2
  | broken g1 g2 g3 g4 g5 g6 => exact .broken g1 g2 g3 g4 (by rw [← key g1 g2 _ _ g3 g4]; exact g5) fun x y hx hy q => by rw [← key g1 g2 x y hx hy]; exact g6 x y hx hy q
  | made g1 g2 g3 => exact .made g1 g2 fun x y hx hy => by rw [← key g1 g2 x y hx hy]; exact g3 x y hx hy
/-- the images of a row of places -/
def imgs (ts : List Str) (row : List Nat) : List Str := row.map fun k => ts.getD k ⟨#[]⟩
theorem good_made {hs ts : List Str} {R T : Nat → Nat → Bool} {row : List Nat} (hnd : ts.Nodup) (h : row ∈ goodMaps hs.length ts.length R T) : MOutP hs R ts T (imgs ts row) .made := by
  obtain ⟨h1, h2⟩ := List.mem_filter.mp h
  obtain ⟨h3, h4⟩ := allRows_mem.mp h1
  have hk := keeps_iff.mp h2
  have at_ : ∀ a, a < hs.length → (imgs ts row).getD a ⟨#[]⟩ = ts.getD (row.getD a 0) ⟨#[]⟩ ∧ row.getD a 0 < ts.length := fun a ha => by
    have ha' : a < row.length := by omega
    unfold imgs
    refine ⟨?_, ?_⟩
    · rw [List.getD_eq_getElem?_getD, List.getElem?_map, List.getElem?_eq_getElem ha', List.getD_eq_getElem?_getD (l := row), List.getElem?_eq_getElem ha']
      rfl
    · rw [List.getD_eq_getElem?_getD, List.getElem?_eq_getElem ha']
      exact h4 _ (List.getElem_mem ha')
  have ix : ∀ k, k < ts.length → ts.idxOf (ts.getD k ⟨#[]⟩) = k := fun k hk => by
    rw [List.getD_eq_getElem?_getD, List.getElem?_eq_getElem hk]
    exact hnd.idxOf_getElem k hk
  refine .made (fun z hz => ?_) (by unfold imgs; rw [List.length_map, h3]) fun x y hx hy => ?_
  · obtain ⟨k, hk, rfl⟩ := List.mem_map.mp hz
    exact getD_mem (h4 _ hk)
  · unfold badP
    rw [(at_ x hx).1, (at_ y hy).1, ix _ (at_ x hx).2, ix _ (at_ y hy).2]
    cases hR : R x y with
    | false => rfl
    | true => rw [hk x y hx hy hR]; rfl
theorem good_ne {n m : Nat} {R T : Nat → Nat → Bool} (hm : 1 ≤ m) (hT : T 0 0 = true) : 1 ≤ (goodMaps n m R T).length := by
  refine List.length_pos_of_mem (a := List.replicate n 0) (List.mem_filter.mpr ⟨allRows_mem.mpr ⟨List.length_replicate, fun x hx => ?_⟩, keeps_iff.mpr fun a b ha hb _ => ?_⟩)
  · rw [(List.mem_replicate.mp hx).2]; omega
  · rw [List.getD_eq_getElem?_getD, List.getElem?_replicate_of_lt ha, List.getD_eq_getElem?_getD, List.getElem?_replicate_of_lt hb]
    exact hT
theorem LOrd.ident (o : LOrd ks prs) : MOutP ks (tabR ks prs) ks (tabR ks prs) ks .made := by
  refine .made (fun _ h => h) rfl fun x y hx hy => ?_
  unfold badP
  have ix : ∀ k, k < ks.length → ks.idxOf (ks.getD k ⟨#[]⟩) = k := fun k hk => by
    rw [List.getD_eq_getElem?_getD, List.getElem?_eq_getElem hk]
    exact o.nd.idxOf_getElem k hk
  rw [ix x hx, ix y hy]
  cases tabR ks prs x y <;> rfl
theorem MOutP.toMap {s t : Ods} {im : List Str} {R T : Nat → Nat → Bool} (h : MOutP s.ks R t.ks T im .made) : MapOk s t im := by
  cases h with
  | made h1 h2 _ => exact ⟨h1, h2⟩
end
end Kf
end
section
set_option maxRecDepth 100000
set_option maxHeartbeats 4000000
/-! KfW1: a call with a list of one's own that the callee does not keep. -/
namespace Kf
open PySem L2
theorem bl_at {X : Cx} {e : Ent} {st : List Stmt} {Γ Γ' : Gam} {k : Kn} (h : Γ = Γ') (q : BL X e st Γ' k) : BL X e st Γ k := by rw [h]; exact q

section
variable {X : Cx} {e : Ent} {Γ : Gam} {C : Str} {p pos : Pos} {a : Expr} {es : List Expr} {j n : Nat}
/-- C(..) of pure arguments, no error -/
theorem eo_makeI {c : Fo} {fI : Addr} {ds : List D} {o : O} (M : Mk X.K (He.ga X.K C) fI) (F : FnR X.prog X.w X.K X.mg X.base (L2.CX X.prog X.w) n fI (spO X.K c)) (hm : X.mg C = some (.ref (He.ga X.K C))) (hr : Room j X.A) (hj : n + 1 ≤ j) (ha : PVs X e (a :: es) Γ ds)
    (hp : c.pre (.obj C []) ds) (hq : ∀ b o', c.post (.obj C []) ds b o' → b = .st .non ∧ o' = o) (hx : ∀ y fl o', ¬ c.exn (.obj C []) ds y fl o') (hg : Gl X C := by rfl) (hdb : (C == ("__debug__" : Str)) = false := by decide)
    (he : starEach (a :: es) X.env = (false, eval a X.env) :: starEach es X.env := by rfl) (hpl : (backTo pos (starEach es X.env)).any (·.1) = false := by rfl) : EO X e (.Call (.Name C p) (a :: es) [] pos) Γ (Is o Γ) :=
  eo_make M F hm hr hj (U := fun _ _ _ => False) takes_none (pvs_av ha) (fun ds' Γ1 ⟨h1, h2⟩ => by
    subst h1 h2
    exact ⟨hp, fun b o' h => ⟨(hq b o' h).1, (hq b o' h).2, rfl⟩, fun y fl o' h => (hx y fl o' h).elim⟩) hg hdb he hpl
end
/-- without p -/
def del (S : Hp) (p : Addr) : Hp := fun b => if b = p then none else S b
theorem del_ne {S : Hp} {p b : Addr} (h : b ≠ p) : del S p b = S b := if_neg h
theorem del_at {S : Hp} {p : Addr} : del S p p = none := if_pos rfl
theorem del_rd {S : Hp} {p a : Addr} {l : List V} {u : HO} (hp : S p = some (.lst l)) (hu : ∀ x, u ≠ .lst x) (h : Rd S a u) : Rd (del S p) a u := by
  have ne : a ≠ p := fun q => by
    subst q
    rcases h with h | ⟨o, h⟩
    · rw [hp] at h; cases h; exact hu _ rfl
    · rw [hp] at h; cases h
  rcases h with h | ⟨o, h⟩
  · exact .inl (by rw [del_ne ne]; exact h)
  · exact .inr ⟨o, by rw [del_ne ne]; exact h⟩
theorem del_sqT {K : Fg} {S : Hp} {p a : Addr} {l xs : List V} (hp : S p = some (.lst l)) (h : SqT K S a xs) : SqT K (del S p) a xs := by
  rcases h with h | h
  · exact .inl (del_rd hp (fun x q => by cases q) h)
  · exact .inr h
theorem strs_any {K : Fg} {S S' : Hp} : ∀ {xs : List V} {l : List Str}, RpL K S xs (l.map .str) → RpL K S' xs (l.map .str)
  | _, [], .nil => .nil
  | _, _ :: _, .cons (.str _) t => .cons (.str _) (strs_any t)
theorem tab_any {K : Fg} {S S' : Hp} {F : Str → Str} : ∀ {xs : List (Key × V)} {l : List Str}, RpK K S xs (rowsF l fun x => .str (F x)) → RpK K S' xs (rowsF l fun x => .str (F x))
  | _, [], .nil => .nil
  | _, _ :: _, .cons (.str _) t => .cons (.str _) (tab_any t)
theorem made_shr {K : Fg} {S' : Hp} {p : Addr} {xs0 xs : List V} {s t : Ods} {v1 v2 : V} {im : List Str} {m : MOut} (hp : S' p = some (.lst xs0)) (r1 : Rp K (del S' p) v1 s.d) (r2 : Rp K (del S' p) v2 t.d) (h : RpL K S' xs (madeL s t (some v1) (some v2) im m)) : RpL K (del S' p) xs (madeL s t none none im m) := by
  cases m with
  | notL z =>
    cases h with
    | cons a t =>
      cases a
      cases t with
      | cons a t =>
        cases a
        cases t
        exact .cons (.str _) (.cons (.str _) .nil)
  | badC n =>
    cases h with
    | cons a t =>
      cases a
      cases t with
      | cons a t =>
        cases a
        cases t
        exact .cons (.str _) (.cons (.int _) .nil)
  | broken x y =>
    cases h with
    | cons a t =>
      cases a
      cases t with
      | cons a t =>
        cases t
        refine .cons (.str _) (.cons ?_ .nil)
        cases a with
        | tup g1 g2 => exact .tup (del_sqT hp g1) (strs_any (l := [x, y]) g2)
  | made =>
    cases h with
    | cons a t =>
      cases a
      cases t with
      | cons a t =>
        cases t
        refine .cons (.str _) (.cons ?_ .nil)
        cases a with
        | @obj a dx _ _ _ g1 g2 =>
          have ne : a ≠ p := fun q => by
            subst q
            rw [hp] at g1
            cases g1
          refine .obj (by rw [del_ne ne]; exact g1) ?_
          cases g2 with
          | cons f1 g2 =>
            cases g2 with
            | cons f2 g2 =>
              cases g2 with
              | cons f3 g2 =>
                cases g2 with
                | cons f4 g2 =>
                  cases g2
                  cases f1
                  cases f2
                  refine .cons r1 (.cons r2 (.cons ?_ (.cons ?_ .nil)))
                  · cases f3 with
                    | tup k1 k2 => exact .tup (del_sqT hp k1) (strs_any k2)
                  · cases f4 with
                    | dK k1 k2 => exact .dK (del_rd hp (fun x q => by cases q) k1) (tab_any k2)
section
variable {X : Cx} {e : Ent} {Γ : Gam} {k : Kn} {rest : List Stmt} {j n : Nat} {x nm n1 n2 n3 : Str} {p pos pa p0 q1 q2 q3 : Pos}
/-- actual = _law_made(source, target, images), images one's own still behind it -/
theorem bl_made {s t : Ods} {im : List Str} (i i1 i2 i3 : Nat) (N : ∀ o1 o2, XDn X x n (spP X.K (cMade s t o1 o2 im))) (hr : Room j X.A) (hj : n ≤ j) (ho : e.own = none) (h1 : Γ[i1]? = some (some (.st s.d))) (h2 : Γ[i2]? = some (some (.st t.d))) (h3 : Γ[i3]? = some (some (.ow (.lst (im.map .str)))))
    (hp : s.ks.Nodup ∧ s.ks.length ≤ 1000) (hrest : ∀ m, MOutP s.ks s.R t.ks t.R im m → BL X e rest (Γ.set i (some (.ow (.lst (madeL s t none none im m))))) k)
    (hN : X.N.Nodup := by assumption) (hi : X.N[i]? = some nm := by rfl) (hx : Loc X.env.scope nm := by first | exact .inl rfl | exact .inr rfl)
    (hN1 : X.N[i1]? = some n1 := by rfl) (hv1 : Vis X.env.scope n1 := by first | exact Or.inl rfl | exact Or.inr (Or.inl rfl) | exact Or.inr (Or.inr rfl)) (hd1 : (n1 == ("__debug__" : Str)) = false := by decide) (hc1 : (n1 == ("__classdict__" : Str)) = false := by decide)
    (hN2 : X.N[i2]? = some n2 := by rfl) (hv2 : Vis X.env.scope n2 := by first | exact Or.inl rfl | exact Or.inr (Or.inl rfl) | exact Or.inr (Or.inr rfl)) (hd2 : (n2 == ("__debug__" : Str)) = false := by decide) (hc2 : (n2 == ("__classdict__" : Str)) = false := by decide)
    (hN3 : X.N[i3]? = some n3 := by rfl) (hv3 : Vis X.env.scope n3 := by first | exact Or.inl rfl | exact Or.inr (Or.inl rfl) | exact Or.inr (Or.inr rfl)) (hd3 : (n3 == ("__debug__" : Str)) = false := by decide) (hc3 : (n3 == ("__classdict__" : Str)) = false := by decide)
    (hg : Gl X x := by rfl) (hdb : (x == ("__debug__" : Str)) = false := by decide)
    (he : starEach [.Name n1 q1, .Name n2 q2, .Name n3 q3] X.env = (false, eval (.Name n1 q1) X.env) :: starEach [.Name n2 q2, .Name n3 q3] X.env := by rfl) (he2 : starEach [.Name n2 q2, .Name n3 q3] X.env = (false, eval (.Name n2 q2) X.env) :: starEach [.Name n3 q3] X.env := by rfl) (he3 : starEach [.Name n3 q3] X.env = (false, eval (.Name n3 q3) X.env) :: starEach [] X.env := by rfl)
    (hpl : (backTo pos (starEach [.Name n2 q2, .Name n3 q3] X.env)).any (·.1) = false := by rfl)
    (hs : swapsWith (.Call (.Name x p) [.Name n1 q1, .Name n2 q2, .Name n3 q3] [] pos) (some (.Name nm p0)) pa.line X.env = pure false := by rfl) (hf : X.fn nm = true ∨ X.env.scope.names.lookup nm = some .local := by first | exact .inl rfl | exact .inr rfl) :
    BL X e (.Assign [.Name nm p0] (.Call (.Name x p) [.Name n1 q1, .Name n2 q2, .Name n3 q3] [] pos) pa :: rest) Γ k := by
  have F := fun o1 o2 => (N o1 o2).fn
  have hall : PE X (.Call (.Name x p) [.Name n1 q1, .Name n2 q2, .Name n3 q3] [] pos) (fun σ H Q => ∃ o1 o2, (tCons (tVar i1) (tCons (tVar i2) (tCons (tVar i3) tNil))) σ H fun vs H1 => spP X.K (cMade s t o1 o2 im) vs H1 Q fun c d H2 => False) :=
    ⟨fun pins st σ H Q I ⟨o1, o2, q⟩ => (pe_callW (W := fun _ _ _ _ => False) (F o1 o2) (hr.mono hj) takes0 hg (N o1 o2).at_ (N o1 o2).kp (pa_cons (pe_var hN1 hv1 hd1 hc1) (pa_cons (pe_var hN2 hv2 hd2 hc2) (pa_cons (pe_var hN3 hv3 hd3 hc3) pa_nil he3) he2) he) hdb he hpl).run pins st σ H Q I q⟩
  refine bl_cons (fun Γ2 => ∃ m, MOutP s.ks s.R t.ks t.R im m ∧ Γ2 = Γ.set i (some (.ow (.lst (madeL s t none none im m))))) (PS.imp (ps_set hN hi hx hall hs hf) fun D σ H ⟨S, w, nx, _⟩ => ?_) fun Γ2 ⟨m, hm, q⟩ => by subst q; exact hrest m hm
  obtain ⟨v1, a1, r1⟩ := w.sl.at_ i1 _ h1
  obtain ⟨v2, a2, r2⟩ := w.sl.at_ i2 _ h2
  obtain ⟨v3, a3, pp, e3, sp, ow, hpp⟩ := w.sl.at_ i3 _ h3
  subst e3
  have h0 : e.H0 pp = none := by
    rcases hpp with z | z
    · exact z
    · rw [ho] at z; cases z
  obtain ⟨xs0, hx0, rx0⟩ := ow
  -- frozen for the call
  have wf : Wd X.K e S H σ (Γ.set i3 none) := w.weak (by rw [List.length_set]) (fun j b q => by
    rcases get_set q with ⟨_, z⟩ | ⟨_, z⟩
    · cases z
    · exact z) (.inl ho)
  obtain ⟨S1, s1, k1, w1, rp1⟩ := own_st (o := .lst (im.map .str)) wf sp ⟨xs0, hx0, rx0⟩ h0 fun j o' q1 q2 => by
    rcases get_set q1 with ⟨_, z⟩ | ⟨n1, z⟩
    · cases z
    · exact n1 (w.sl.dj i3 j _ o' pp h3 z a3 q2)
  have hS1 : S1 pp = some (.lst xs0) := by
    cases rp1 with
    | lst g1 g2 =>
      rcases g1 with g1 | ⟨o, g1⟩
      · rw [g1, ← w1.nx.sh _ _ g1, hx0]
      · have := w1.nx.sh _ _ g1
        rw [hx0] at this
        cases this
  refine ⟨some v1, some v2, v1, a1, v2, a2, .ref pp, a3, S1, _, w1.nx.sh, .cons (.ids (r1.mono s1)) (.cons (.ids (r2.mono s1)) (.cons rp1 .nil)), ⟨rfl, hp⟩, fun S' H' v b hb n2 ok => ?_, fun _ _ _ _ _ _ z => z.elim⟩
  obtain ⟨m, hm, rfl⟩ := hb
  obtain ⟨a, rfl, sa, ⟨xs, hxs, rxs⟩, ha⟩ := ok
  have hS' : S' pp = some (.lst xs0) := n2.ss _ _ hS1
  have sm : Same S (del S' pp) := fun b u z => by
    have ne : b ≠ pp := ne_of_none z sp
    rw [del_ne ne]
    exact n2.ss _ _ (s1 _ _ z)
  have keep : ∀ b, H b ≠ none → H' b = H b := fun b hb => by
    cases z : H b with
    | none => exact absurd z hb
    | some u => exact n2.hh b u z (fun y => nomatch y)
  have oldS : ∀ b, H b ≠ none → S b = none → del S' pp b = none := fun b hb z => by
    by_cases q : b = pp
    · rw [q]; exact del_at
    · rw [del_ne q]; exact (n2.old b hb).trans ((k1 b q).trans z)
  have wn : Wd X.K e (del S' pp) H' σ Γ := by
    refine ⟨⟨w.nx.ss.trans sm, fun b u z => ?_, fun b u z y => ?_, fun b z => n2.al b (w.nx.al b z), fun b z => ?_⟩, w.sl.len, fun jj b q => ?_, w.sl.dj, w.sl.z⟩
    · by_cases q : b = pp
      · rw [q, del_at] at z; cases z
      · rw [del_ne q] at z; exact n2.sh _ _ z
    · have z' := w.nx.hh b u z y
      exact n2.hh b u z' (fun y => nomatch y)
    · have ne : b ≠ pp := fun q => z (by rw [q]; exact h0)
      rw [del_ne ne]
      exact (n2.old b (w.nx.al b z)).trans ((k1 b ne).trans (w.nx.old b z))
    · obtain ⟨u, b1, b2⟩ := w.sl.at_ jj b q
      refine ⟨u, b1, ?_⟩
      cases b with
      | st d => exact Rp.mono sm b2
      | xc a d fl => exact b2.xcm sm
      | nw d l => exact b2.elim
      | ow o1 =>
        obtain ⟨c, c1, c2, c3, c4⟩ := b2
        exact ⟨c, c1, oldS c c3.some c2, c3.to sm (keep c c3.some), c4⟩
  have ha' : H a = none := ha
  have na : a ≠ pp := fun q => by rw [q, hx0] at ha'; cases ha'
  have rr := made_shr hS' (r1.mono sm) (r2.mono sm) rxs
  exact nx (del S' pp) _ H' _ ⟨m, hm, rfl⟩ sm (wn.setO (by rw [del_ne na]; exact sa) ⟨xs, hxs, rr⟩ (w.nx.fresh ha) (w.fresh_ne ha) (.inl ho))
/-- x.clear(), x a list of one's own -/
theorem bl_clear (i : Nat) {l0 : List D} {q r : Pos} (h0 : Γ[i]? = some (some (.ow (.lst l0)))) (hr : BL X e rest (Γ.set i (some (.ow (.lst [])))) k)
    (hN : X.N[i]? = some nm := by rfl) (hv : Vis X.env.scope nm := by first | exact Or.inl rfl | exact Or.inr (Or.inl rfl) | exact Or.inr (Or.inr rfl)) (h1 : (nm == ("__debug__" : Str)) = false := by decide) (h2 : (nm == ("__classdict__" : Str)) = false := by decide)
    (hb : attributeBase (.Name nm p) "clear" X.env (eval (.Name nm p) X.env) = eval (.Name nm p) X.env := by rfl) (hl : (q.endLine == r.line) = true := by rfl) (hs : swapsWith (.Call (.Attribute (.Name nm p) "clear" q) [] [] r) none pos.line X.env = pure false := by rfl) :
    BL X e (.Expr (.Call (.Attribute (.Name nm p) "clear" q) [] [] r) pos :: rest) Γ k := by
  have hpe : PE X (.Call (.Attribute (.Name nm p) "clear" q) [] [] r) (tBM0 X.K "list" rClear (tVar i)) := pe_bm0 PySem.F.plainAttrs_list PySem.F.slot_list_clear PySem.F.type_list_clear mt_clear (pe_var hN hv h1 h2) hb hl
  refine bl_cons (fun Γ2 => Γ2 = Γ.set i (some (.ow (.lst [])))) (PS.imp (ps_expr hpe hs) fun D σ H ⟨S, w, nx, _⟩ => ?_) fun Γ2 h => by subst h; exact hr
  obtain ⟨v, h3, c, h4, sc, ow, hc⟩ := w.sl.at_ i _ h0
  subst h4
  obtain ⟨xs, h5, h6⟩ := ow
  exact ⟨_, h3, .inl ⟨rfl, xs, SqL.of h5⟩, c, xs, rfl, rfl, h5, nx S σ _ _ rfl (Same.refl _) (w.put h0 h3 ⟨[], upd_same, .nil⟩)⟩
end
end Kf
end
section
set_option maxRecDepth 100000
set_option maxHeartbeats 4000000
/-! KfW2: the law's calls, as rules. -/
namespace Kf
open PySem L2

abbrev dSh (n : Nat) (ps : List (Nat × Nat)) : D := .tup [.int (n : Int), .lst (pairsD ps)]
theorem pairsD_inj : ∀ {a b : List (Nat × Nat)}, pairsD a = pairsD b → a = b
  | [], [], _ => rfl
  | [], _ :: _, h => by cases h
  | _ :: _, [], h => by cases h
  | (x, y) :: r, (u, v) :: q, h => by
    injection h with h1 h2
    injection h1 with h1
    injection h1 with h1 h3
    injection h3 with h3 _
    injection h1 with h1
    injection h3 with h3
    rw [pairsD_inj h2]
    congr 1
    congr 1 <;> omega
theorem cutD_to (l : List Str) (n : Nat) : cutD (l.map D.str) none (some (n : Int)) = (l.take n).map D.str := by
  unfold cutD
  rw [show HT.sIx (l.map D.str).length 0 none = 0 from rfl, show HT.sIx (l.map D.str).length (l.map D.str).length (some (n : Int)) = min n (l.map D.str).length from HT.sIx_nat _ _ _, List.drop_zero, Nat.sub_zero, map_take_str, List.length_map, ← List.take_eq_take_min]
theorem cutD_mid (l : List Str) (a b : Nat) (h : a ≤ l.length) (hb : b ≤ l.length) : cutD (l.map D.str) (some (a : Int)) (some (b : Int)) = ((l.drop a).take (b - a)).map D.str := by
  unfold cutD
  rw [show HT.sIx (l.map D.str).length 0 (some (a : Int)) = min a (l.map D.str).length from HT.sIx_nat _ _ _, show HT.sIx (l.map D.str).length (l.map D.str).length (some (b : Int)) = min b (l.map D.str).length from HT.sIx_nat _ _ _, List.length_map, Nat.min_eq_left h, Nat.min_eq_left hb, map_drop_str, map_take_str]
section
variable {X : Cx} {e : Ent} {Γ : Gam} {n : Str} {np p pos : Pos} {a b : Expr} {j : Nat} {o0 : O}
theorem ev_opairs {m : Nat} (i : Nat) (N : XDn X "_law_order_pairs" 4 (spO X.K cShape)) (hr : Room j X.A) (hj : 4 ≤ j) (h0 : Γ[i]? = some (some (.ow o0))) (hp : Pool o0) (ha : PV X e a Γ (.int (m : Int))) (hm : 1 ≤ m ∧ m ≤ 10)
    (hN : X.N[i]? = some n := by rfl) (hv : Vis X.env.scope n := by first | exact Or.inl rfl | exact Or.inr (Or.inl rfl) | exact Or.inr (Or.inr rfl)) (hg : Gl X "_law_order_pairs" := by rfl)
    (he : starEach [.Name n np, a] X.env = (false, eval (.Name n np) X.env) :: starEach [a] X.env := by rfl) (he2 : starEach [a] X.env = (false, eval a X.env) :: starEach [] X.env := by rfl) (hpl : (backTo pos (starEach [a] X.env)).any (·.1) = false := by rfl) (h1 : (n == ("__debug__" : Str)) = false := by decide) (h2 : (n == ("__classdict__" : Str)) = false := by decide) :
    EV X e (.Call (.Name "_law_order_pairs" p) [.Name n np, a] [] pos) Γ (fun d Γ' => ∃ k ps o', d = dSh k ps ∧ 1 ≤ k ∧ k ≤ m ∧ PsOk k ps ∧ ps.length ≤ 200 ∧ Pool o' ∧ Γ' = Γ.set i (some (.ow o'))) :=
  ev_callO (U := fun _ _ _ => False) i N hr hj takes_none h0 (pvs_av (pvs_one ha he2)) (fun ds Γ1 ⟨q1, q2⟩ => by
    subst q1 q2
    exact ⟨o0, h0, ⟨hp, m, rfl, hm⟩, fun b o' ⟨g1, m', k, ps, g2, g3, g4, g5, g6, g7⟩ => by
      injection g2 with g2 _
      injection g2 with g2
      exact ⟨_, .inl g3, k, ps, o', rfl, g4, by omega, g6, g7, g1, rfl⟩, fun _ _ _ z => z.elim⟩) hN hv hg (by decide) he hpl h1 h2
theorem ev_names {m : Nat} (i : Nat) (N : XDn X "_law_names" 3 (spO X.K cNames)) (hr : Room j X.A) (hj : 3 ≤ j) (h0 : Γ[i]? = some (some (.ow o0))) (hp : Pool o0) (ha : PV X e a Γ (.int (m : Int))) (hm : m ≤ 26)
    (hN : X.N[i]? = some n := by rfl) (hv : Vis X.env.scope n := by first | exact Or.inl rfl | exact Or.inr (Or.inl rfl) | exact Or.inr (Or.inr rfl)) (hg : Gl X "_law_names" := by rfl)
    (he : starEach [.Name n np, a] X.env = (false, eval (.Name n np) X.env) :: starEach [a] X.env := by rfl) (he2 : starEach [a] X.env = (false, eval a X.env) :: starEach [] X.env := by rfl) (hpl : (backTo pos (starEach [a] X.env)).any (·.1) = false := by rfl) (h1 : (n == ("__debug__" : Str)) = false := by decide) (h2 : (n == ("__classdict__" : Str)) = false := by decide) :
    EV X e (.Call (.Name "_law_names" p) [.Name n np, a] [] pos) Γ (fun d Γ' => ∃ ns o', d = dStrs ns ∧ ns.Nodup ∧ (∀ z ∈ ns, KName z) ∧ ns.length = m ∧ Pool o' ∧ Γ' = Γ.set i (some (.ow o'))) :=
  ev_callO (U := fun _ _ _ => False) i N hr hj takes_none h0 (pvs_av (pvs_one ha he2)) (fun ds Γ1 ⟨q1, q2⟩ => by
    subst q1 q2
    exact ⟨o0, h0, ⟨hp, m, rfl, hm⟩, fun b o' ⟨g1, ns, g2, g3, g4, g5⟩ => by
      injection g5 with g5 _
      injection g5 with g5
      exact ⟨_, .inr ⟨_, g2, rfl⟩, ns, o', rfl, g3, g4, by omega, g1, rfl⟩, fun _ _ _ z => z.elim⟩) hN hv hg (by decide) he hpl h1 h2
theorem ev_places {m : Nat} (i : Nat) (N : XDn X "_law_mixed_places" 2 (spO X.K cPlaces)) (hr : Room j X.A) (hj : 2 ≤ j) (h0 : Γ[i]? = some (some (.ow o0))) (hp : Pool o0) (ha : PV X e a Γ (.int (m : Int))) (hm : m ≤ 100)
    (hN : X.N[i]? = some n := by rfl) (hv : Vis X.env.scope n := by first | exact Or.inl rfl | exact Or.inr (Or.inl rfl) | exact Or.inr (Or.inr rfl)) (hg : Gl X "_law_mixed_places" := by rfl)
    (he : starEach [.Name n np, a] X.env = (false, eval (.Name n np) X.env) :: starEach [a] X.env := by rfl) (he2 : starEach [a] X.env = (false, eval a X.env) :: starEach [] X.env := by rfl) (hpl : (backTo pos (starEach [a] X.env)).any (·.1) = false := by rfl) (h1 : (n == ("__debug__" : Str)) = false := by decide) (h2 : (n == ("__classdict__" : Str)) = false := by decide) :
    EV X e (.Call (.Name "_law_mixed_places" p) [.Name n np, a] [] pos) Γ (fun d Γ' => ∃ l o', d = .lst (natsD l) ∧ l.Nodup ∧ (∀ x ∈ l, x < m) ∧ l.length = m ∧ Pool o' ∧ Γ' = Γ.set i (some (.ow o'))) :=
  ev_callO (U := fun _ _ _ => False) i N hr hj takes_none h0 (pvs_av (pvs_one ha he2)) (fun ds Γ1 ⟨q1, q2⟩ => by
    subst q1 q2
    exact ⟨o0, h0, ⟨hp, m, rfl, hm⟩, fun b o' ⟨g1, l, g2, g3, g4, g5⟩ => by
      injection g5 with g5 _
      injection g5 with g5
      have e1 : l.length = m := by omega
      exact ⟨_, .inr ⟨_, g2, rfl⟩, l, o', rfl, g3, fun x hx => by have := g4 x hx; omega, e1, g1, rfl⟩, fun _ _ _ z => z.elim⟩) hN hv hg (by decide) he hpl h1 h2
theorem pn_named {ns : List Str} {ps : List (Nat × Nat)} (N : XDn X "_law_named" 1 (spP X.K cNamed)) (hr : Room j X.A) (hj : 1 ≤ j) (ha : PV X e a Γ (dStrs ns)) (hb : PV X e b Γ (.lst (pairsD ps))) (hl : ps.length ≤ 1000) (hp : ∀ p ∈ ps, p.1 < ns.length ∧ p.2 < ns.length) (hg : Gl X "_law_named" := by rfl)
    (he : starEach [a, b] X.env = (false, eval a X.env) :: starEach [b] X.env := by rfl) (he2 : starEach [b] X.env = (false, eval b X.env) :: starEach [] X.env := by rfl) (hpl : (backTo pos (starEach [b] X.env)).any (·.1) = false := by rfl) :
    PN X e (.Call (.Name "_law_named" p) [a, b] [] pos) Γ (.lst (spairsD (named ns ps))) :=
  pn_call N hr hj (pvs_cons ha (pvs_cons hb pvs_nil he2) he) ⟨ns, ps, rfl, hl, hp⟩ (fun bb ⟨ns', ps', h1, h2⟩ => by
    injection h1 with h1 h3
    injection h3 with h3 _
    injection h1 with h1
    injection h3 with h3
    rw [h2, strs_inj h1, pairsD_inj h3]) (fun _ _ z => z.elim) hg (by decide) he hpl
theorem pn_aboveL {n : Nat} {ps : List (Nat × Nat)} (N : XDn X "_law_above" 1 (spP X.K cAbove)) (hr : Room j X.A) (hj : 1 ≤ j) (ha : PV X e a Γ (.int (n : Int))) (hb : PV X e b Γ (.lst (pairsD ps))) (hn : n ≤ 100) (hp : ∀ p ∈ ps, p.1 < n ∧ p.2 < n) (hg : Gl X "_law_above" := by rfl)
    (he : starEach [a, b] X.env = (false, eval a X.env) :: starEach [b] X.env := by rfl) (he2 : starEach [b] X.env = (false, eval b X.env) :: starEach [] X.env := by rfl) (hpl : (backTo pos (starEach [b] X.env)).any (·.1) = false := by rfl) :
    PN X e (.Call (.Name "_law_above" p) [a, b] [] pos) Γ (.lst (rowsD n (warsh n ps))) :=
  pn_call N hr hj (pvs_cons ha (pvs_cons hb pvs_nil he2) he) ⟨n, ps, rfl, hn, hp⟩ (fun bb ⟨n', ps', h1, h2⟩ => by
    injection h1 with h1 h3
    injection h3 with h3 _
    injection h1 with h1
    injection h3 with h3
    have : n = n' := by omega
    subst this
    rw [h2, pairsD_inj h3]) (fun _ _ z => z.elim) hg (by decide) he hpl
theorem keeps_congr {n m : Nat} {R R' T T' : Nat → Nat → Bool} (hR : ∀ a b, a < n → b < n → R a b = R' a b) (hT : ∀ a b, a < m → b < m → T a b = T' a b) : goodMaps n m R T = goodMaps n m R' T' := by
  unfold goodMaps
  refine List.filter_congr fun row hrow => ?_
  obtain ⟨h1, h2⟩ := allRows_mem.mp hrow
  have hlt : ∀ a, a < n → row.getD a 0 < m := fun a ha => by
    rw [List.getD_eq_getElem?_getD, List.getElem?_eq_getElem (by omega)]
    exact h2 _ (List.getElem_mem _)
  rw [Bool.eq_iff_iff, keeps_iff, keeps_iff]
  exact ⟨fun h a b ha hb q => by rw [← hT _ _ (hlt a ha) (hlt b hb)]; exact h a b ha hb (by rw [hR a b ha hb]; exact q), fun h a b ha hb q => by rw [hT _ _ (hlt a ha) (hlt b hb)]; exact h a b ha hb (by rw [← hR a b ha hb]; exact q)⟩
theorem pn_mapsL {n m : Nat} {R T : Nat → Nat → Bool} (N : XDn X "_law_maps" 2 (spP X.K cMaps)) (hr : Room j X.A) (hj : 2 ≤ j) (ha : PV X e a Γ (.lst (rowsD n R))) (hb : PV X e b Γ (.lst (rowsD m T))) (h1 : 1 ≤ m) (h2 : m ^ n ≤ 5000) (h3 : m ≤ 1000) (h4 : n ≤ 1000) (hg : Gl X "_law_maps" := by rfl)
    (he : starEach [a, b] X.env = (false, eval a X.env) :: starEach [b] X.env := by rfl) (he2 : starEach [b] X.env = (false, eval b X.env) :: starEach [] X.env := by rfl) (hpl : (backTo pos (starEach [b] X.env)).any (·.1) = false := by rfl) :
    PN X e (.Call (.Name "_law_maps" p) [a, b] [] pos) Γ (.lst (rowLL (goodMaps n m R T))) :=
  pn_call N hr hj (pvs_cons ha (pvs_cons hb pvs_nil he2) he) ⟨n, m, R, T, rfl, h1, h2, h3, h4⟩ (fun bb ⟨n', m', R', T', g1, g2⟩ => by
    injection g1 with g1 g3
    injection g3 with g3 _
    injection g1 with g1
    injection g3 with g3
    obtain ⟨e1, k1⟩ := rowsD_inj g1
    obtain ⟨e2, k2⟩ := rowsD_inj g3
    subst e1 e2
    rw [g2, keeps_congr k1 k2]) (fun _ _ z => z.elim) hg (by decide) he hpl
/-- Order(kinds, pairs) -/
theorem eo_order {ks : List Str} {prs : List (Str × Str)} {fI : Addr} (o : LOrd ks prs) (M : Mk X.K (He.ga X.K "Order") fI) (F : ∀ ks prs, FnR X.prog X.w X.K X.mg X.base (L2.CX X.prog X.w) 4 fI (spO X.K (cOrdI ks prs))) (hm : X.mg "Order" = some (.ref (He.ga X.K "Order"))) (hr : Room j X.A) (hj : 5 ≤ j)
    (ha : PV X e a Γ (dStrs ks)) (hb : PV X e b Γ (.lst (spairsD prs))) (hg : Gl X "Order" := by rfl)
    (he : starEach [a, b] X.env = (false, eval a X.env) :: starEach [b] X.env := by rfl) (he2 : starEach [b] X.env = (false, eval b X.env) :: starEach [] X.env := by rfl) (hpl : (backTo pos (starEach [b] X.env)).any (·.1) = false := by rfl) :
    EO X e (.Call (.Name "Order" p) [a, b] [] pos) Γ (Is (.obj "Order" (dOrd ks (aboveS ks prs))) Γ) :=
  eo_make M (F ks prs) hm hr hj (U := fun _ _ _ => False) takes_none (pvs_av (pvs_cons ha (pvs_cons hb pvs_nil he2) he)) (fun ds Γ1 ⟨h1, h2⟩ => by
    subst h1 h2
    have hpl := o.pl
    exact ⟨⟨rfl, .inl rfl, o.l1, o.l4, o.nd, o.kn, o.pin, by omega, anti_of o.rk⟩, fun bb o' ⟨g1, g2⟩ => ⟨g1, g2, rfl⟩, fun _ _ _ z => z.elim⟩) hg (by decide) he hpl
end
theorem plc_named {ks : List Str} {ps : List (Nat × Nat)} (hn : ks.Nodup) (h : ∀ p ∈ ps, p.1 < ks.length ∧ p.2 < ks.length) : plc ks (named ks ps) = ps := by
  unfold plc named
  rw [List.map_map]
  have ix : ∀ k, k < ks.length → ks.idxOf (ks.getD k ⟨#[]⟩) = k := fun k hk => by
    rw [List.getD_eq_getElem?_getD, List.getElem?_eq_getElem hk]
    exact hn.idxOf_getElem k hk
  conv => rhs; rw [← List.map_id ps]
  refine List.map_congr_left fun p hp => ?_
  show (ks.idxOf (ks.getD p.1 ⟨#[]⟩), ks.idxOf (ks.getD p.2 ⟨#[]⟩)) = p
  rw [ix _ (h p hp).1, ix _ (h p hp).2]
theorem lord_named {ks : List Str} {ps : List (Nat × Nat)} (hn : ks.Nodup) (hk : ∀ z ∈ ks, KName z) (h1 : 1 ≤ ks.length) (h4 : ks.length ≤ 10) (hp : PsOk ks.length ps) (hl : ps.length ≤ 200) : LOrd ks (named ks ps) := by
  obtain ⟨hb, rk, hrk⟩ := hp
  refine ⟨hn, hk, h1, h4, fun p hp => ?_, by unfold named; rw [List.length_map]; omega, fun z => rk (ks.idxOf z), fun p hp => ?_⟩
  · obtain ⟨q, hq, rfl⟩ := List.mem_map.mp hp
    exact ⟨getD_mem (hb q hq).1, getD_mem (hb q hq).2⟩
  · obtain ⟨q, hq, rfl⟩ := List.mem_map.mp hp
    have ix : ∀ k, k < ks.length → ks.idxOf (ks.getD k ⟨#[]⟩) = k := fun k hk => by
      rw [List.getD_eq_getElem?_getD, List.getElem?_eq_getElem hk]
      exact hn.idxOf_getElem k hk
    show rk (ks.idxOf (ks.getD q.1 ⟨#[]⟩)) < rk (ks.idxOf (ks.getD q.2 ⟨#[]⟩))
    rw [ix _ (hb q hq).1, ix _ (hb q hq).2]
    exact hrk q hq
theorem tabR_named {ks : List Str} {ps : List (Nat × Nat)} (hn : ks.Nodup) (hp : PsOk ks.length ps) : tabR ks (named ks ps) = warsh ks.length ps := by
  unfold tabR
  rw [plc_named hn hp.1]
/-- the same kinds in another listing -/
theorem lord_perm {ks ts : List Str} {prs : List (Str × Str)} {l : List Nat} (o : LOrd ks prs) (hl : l.Nodup) (hx : ∀ x ∈ l, x < ks.length) (hn : l.length = ks.length) (e : ts = l.map fun i => ks.getD i ⟨#[]⟩) : LOrd ts prs ∧ ts.length = ks.length := by
  have ix : ∀ k, k < ks.length → ks.idxOf (ks.getD k ⟨#[]⟩) = k := fun k hk => by
    rw [List.getD_eq_getElem?_getD, List.getElem?_eq_getElem hk]
    exact o.nd.idxOf_getElem k hk
  have hlen : ts.length = ks.length := by rw [e, List.length_map, hn]
  have hnd : ts.Nodup := by
    rw [e]
    refine List.pairwise_map.mpr (List.Pairwise.imp_of_mem (fun {a b} ha hb hne q => hne ?_) hl)
    have := congrArg ks.idxOf q
    rw [ix _ (hx _ ha), ix _ (hx _ hb)] at this
    exact this
  have hsub : ∀ z ∈ ts, z ∈ ks := fun z hz => by
    rw [e] at hz
    obtain ⟨i, hi, rfl⟩ := List.mem_map.mp hz
    exact getD_mem (hx i hi)
  have hsup := nodup_mem hnd hsub (by omega)
  exact ⟨⟨hnd, fun z hz => o.kn z (hsub z hz), by rw [hlen]; exact o.l1, by rw [hlen]; exact o.l4, fun p hp => ⟨hsup _ (o.pin p hp).1, hsup _ (o.pin p hp).2⟩, o.pl, o.rk⟩, hlen⟩
theorem pn_take {X : Cx} {e : Ent} {Γ : Gam} {x : Expr} {hi : Option Expr} {p2 pos : Pos} {l : List Str} {n : Nat} (h : PV X e x Γ (dStrs l)) (h2 : PP X e hi Γ (some (n : Int))) : PN X e (.Subscript x (.Slice none hi none p2) pos) Γ (.lst ((l.take n).map .str)) := pn_is (pn_cut h pp_none h2) (by rw [cutD_to])
end Kf
end
section
set_option maxRecDepth 100000
set_option maxHeartbeats 1000000
/-! KgA: defs with *args, calls with *x, break, a dict's value put anew. -/
namespace L2
open PySem PySem.Spec PyProof.Rows
theorem starcall1_of {M : Model} {A : Around} {E : Value → Shared → Prop} {s : Shared} {env : Env} {o e1 : Expr} {m : Str} {p apos pos : Pos} {Q : Value → Shared → Prop} (hbase : attributeBase o m env (eval o env) = eval o env)
    (hst : starEach [.Starred e1 p] env = [(true, eval e1 env)])
    (h : wpAny M A (eval o env) (fun ov s₁ => wpAny M A (getAttr ov m true) (fun f s₂ => wpAny M A (callWith pos f [] (backTo pos [(true, eval e1 env)]) []) Q E s₂) E s₁) E s) :
    wpAny M A (eval (.Call (.Attribute o m apos) [.Starred e1 p] [] pos) env) Q E s := by
  have hke : backToKw pos (keywordEach [] env) = [] := rfl
  have hform : methodCallForm ([Expr.Starred e1 p].length + ([] : List Keyword).length) (backTo pos [(true, eval e1 env)]) [] = false := rfl
  have hpos : methodCallPos false o env apos pos = pure pos := rfl
  have hcal : ∀ ov, calleeOf false o env ov m = (getAttr ov m true >>= fun v => pure (v, [])) := fun _ => rfl
  rw [arm_eval_Call, hbase, hst, hke]
  refine wpAny_bind (wpAny_mono h (fun ov s₁ h₁ => ?_) fun _ _ x => x)
  refine wpAny_bind (wpAny_standAt ?_)
  unfold methodCall
  rw [hform, hpos, hcal]
  refine wpAny_bind (wpAny_holding (wpAny_bind (wpAny_mono h₁ (fun f s₂ h₂ => wpAny_pure ?_) fun _ _ x => x)))
  exact wpAny_bind (wpAny_pure h₂)
theorem run_fnC {X : Cx} {W : WX} {k : Nat} {f : Addr} {sp : Sp} {pins : List (Addr × Obj)} {σ : L2.St} {H : Hp} {s : Shared} {Q : VK} {us : List Value} {vs : List V} (F : FnR X.prog X.w X.K X.mg X.base (L2.CX X.prog X.w) k f sp) (hr : Room k X.A) (tk : Takes X W) (I : Inv X pins σ H s) (r : Vals vs us)
    (h : sp vs H Q (fun c d H2 => W c d σ H2)) : codeAny (model X.prog X.w) X.A (.call (.ref f) ⟨us, []⟩) (fun r s' => match r with | .ok (.ret v) => EP X pins σ Q v s' | .ok _ => False | .error e => X.xe e s') s := by
  refine codeAny_mono (F X.A X.stack s H us vs Q _ hr I.env0 r h) fun r s' hq => ?_
  cases r with
  | error u => exact tk u s' (XE.of_call I (fun _ _ _ z => z) hq)
  | ok fl =>
    cases fl with
    | ret u => exact I.after hq
    | next => exact False.elim hq
    | brk => exact False.elim hq
    | cont => exact False.elim hq
def tMethS1 (K : PySem.W.Frag) (C : Addr) (m : Str) (g : Addr) (sp : Sp) (W : WX) (ta t1 : TE) : TE := fun σ H Q => ta σ H fun x H1 => ∃ a dx fs, x = .ref a ∧ H1 a = some (.ins C dx fs) ∧ fs.lookup m = none ∧
  ∀ q, H1 q = none → t1 σ (upd H1 q (.met g a)) fun y1 H2 => ∃ b vs, y1 = .ref b ∧ (SqT K H2 b vs ∨ SqL K H2 b vs) ∧ H2 q = some (.met g a) ∧ sp (.ref a :: vs) H2 Q fun c d H3 => W c d σ H3
theorem pe_methS1 {X : Cx} {k : Nat} {C g : Addr} {m : Str} {sp : Sp} {W : WX} {o e1 : Expr} {ta t1 : TE} {p apos pos : Pos} (he : PE X o ta) (c : Cls X.K C) (b : BMeth X.K C m g) (F : FnR X.prog X.w X.K X.mg X.base (L2.CX X.prog X.w) k g sp) (hr : Room k X.A)
    (tk : Takes X W) (h1 : PE X e1 t1) (hbase : attributeBase o m X.env (eval o X.env) = eval o X.env := by rfl)
    (hst : starEach [.Starred e1 p] X.env = [(true, eval e1 X.env)] := by rfl) : PE X (.Call (.Attribute o m apos) [.Starred e1 p] [] pos) (tMethS1 X.K C m g sp W ta t1) := by
  refine ⟨fun pins s σ H Q I h => ?_⟩
  refine starcall1_of hbase hst (thn (he.run pins s σ H _ I h) fun u s1 ⟨x, H1, I1, rx, a, dx, fs, ex, ea, l, q⟩ => ?_)
  subst ex
  obtain rfl : u = Value.ref a := rx
  refine getbound_ok I1 ea c b l fun q1 s2 hq1 I2 => ?_
  refine PySem.W.ks_call (P := PySem.W.MethP X.K q1 g (.ref a)) rfl (PySem.W.keeps_M b.fi) (PySem.W.ks_lone (thn (h1.run pins s2 σ _ _ I2 (q q1 hq1)) fun v1 s3 ⟨y1, H2, I3, ry1, t, vs, ey, ht, hm, hsp⟩ => ?_))
  subst ey
  obtain rfl : v1 = Value.ref t := ry1
  refine StX.star_any I3 ht fun us s5 I5 rv => ?_
  show PySem.W.MethP X.K q1 g (.ref a) s5.heap ∧ wpAny (model X.prog X.w) X.A (call (.ref q1) us []) (EP X pins σ Q) X.xe s5
  exact ⟨met_P I5 hm, wpAny_call (PySem.W.method_call (met_P I5 hm).1 (run_fnC (us := Value.ref a :: us) (vs := V.ref a :: vs) F hr tk I5 (.cons rfl rv) hsp))⟩
end L2
namespace Kf
open PySem L2
/-! ### defs with *args -/
/-- the promise, told of the positional arguments: what is left over behind n is the tuple -/
def Fp.star (n : Nat) (c : Fp) : Fp where
  pre ds := n ≤ ds.length ∧ ds.length ≤ 10000 ∧ c.pre (ds.take n ++ [.tup (ds.drop n)])
  post ds b := c.post (ds.take n ++ [.tup (ds.drop n)]) b
  exn ds y fl := c.exn (ds.take n ++ [.tup (ds.drop n)]) y fl
section
variable {P : Program} {w : World} {K : Fg} {mg : Str → Option Value} {base : Heap} {x qual : Str} {params : Arguments} {body : List Stmt} {scope : Scope} {f : Addr} {fd : FuncData}
theorem fs_ok {N ps : List Str} {pv : Str} {k : Nat} {c : Fp} (F : FunD K x qual params body scope [] [] f fd) (S : FnScope N (ps ++ [pv]) scope)
    (hbd : ∀ (kV doc pm : Value) (an : Option Addr) (cdv ct : Value) (us rest : List Value), us.length = ps.length → bindArgs (PySem.W.fnOf x qual params body scope .none kV doc pm an cdv ct) ⟨us ++ rest, []⟩ = (newTuple rest >>= fun t => pure (ps.zip us ++ [(pv, t)])))
    (hb : ∀ (cdv : Value) (A : Around) (outer : List Env) (s : Shared) (e : Ent) (E : XK) (ds : List D), e.own = none → c.pre ds → Room k (A.deeper (PyProof.Rows.envOfC qual scope s.heap.objs.size f cdv)) →
      Takes (cxOf (L2.CX P w) P w K mg base N qual scope f cdv A outer s e.H0 E) (wX K e fun y fl _ => c.exn ds y fl) →
      BL (cxOf (L2.CX P w) P w K mg base N qual scope f cdv A outer s e.H0 E) e body (gam0 N (ds.map .st)) { nx := fun _ => c.post ds (.st .non), rt := fun b _ => c.post ds b }) :
    FnR P w K mg base (L2.CX P w) (k + 1) f (spP K (c.star ps.length)) := by
  obtain ⟨oc, od, dV, kV, doc, pm, an, cdv, ct, osl, rfl, lk, hcd, hD, hK⟩ := F.ex
  have hdV : dV = .none := by
    rcases hD with ⟨_, h⟩ | ⟨h, _⟩
    · exact h
    · exact absurd rfl h
  subst hdV
  refine (StX.fn_star (sp := spP K c) lk hcd S StX.cxUp (hbd kV doc pm an cdv ct) (fun A outer s H vs Q E hr ⟨S0, ds, sh, r, hp, hq, hE⟩ => ?_)).imp ?_
  · have tk : Takes (cxOf (L2.CX P w) P w K mg base N qual scope f cdv A outer s H E) (wX K ⟨S0, H, none⟩ fun y fl _ => c.exn ds y fl) :=
      (takes_of (X := cxOf (L2.CX P w) P w K mg base N qual scope f cdv A outer s H E) (E := E) rfl rfl rfl rfl).imp fun cl d σ H' ⟨S', y, fl, Γ, hy, wd, he⟩ => hE S' H' y fl cl d hy wd.nx he
    refine ⟨_, hb cdv A outer s ⟨S0, H, none⟩ E ds rfl hp hr tk, S0, ⟨⟨Same.refl _, sh, fun _ _ z _ => z, fun _ z => z, fun _ _ => rfl⟩, start_sl r⟩, fun S' σ' H' Γ' q s' w' => ?_, fun _ _ _ _ z => z.elim, fun _ _ _ _ z => z.elim, fun S' σ' H' v b Γ' q s' w' ok => hq S' H' v b q w'.nx ok⟩
    exact hq S' H' .non (.st .non) q w'.nx .non
  · rintro vs H Q E ⟨S0, ds, sh, r, ⟨h1, h2, h3⟩, hq, hE⟩
    have hl := r.length
    refine ⟨vs.take ps.length, vs.drop ps.length, (List.take_append_drop _ _).symm, by rw [List.length_take]; omega, Nat.le_trans (m := 10000) (by rw [List.length_drop]; omega) (by decide), fun p hp => ?_⟩
    have s0 : S0 p = none := sh.free hp
    have pn := pur_new (o := .tup (vs.drop ps.length)) s0 hp
    have sh2 : Same (upd S0 p (.tup (vs.drop ps.length))) (upd H p (.tup (vs.drop ps.length))) := fun b u z => by
      by_cases hb : b = p
      · subst hb
        rw [upd_same] at z ⊢
        exact z
      · rw [upd_ne hb] at z ⊢
        exact sh _ _ z
    have nx : ∀ {S' H' : Hp}, Nx ⟨upd S0 p (.tup (vs.drop ps.length)), upd H p (.tup (vs.drop ps.length)), none⟩ S' H' → Nx ⟨S0, H, none⟩ S' H' := fun {S' H'} n =>
      ⟨pn.ss.trans n.ss, n.sh, fun a o z y => n.hh a o (pn.hh _ _ z) (fun q => nomatch q), fun a z => n.al a (pn.al a z), fun a z => (n.old a (pn.al a z)).trans (pn.old a z)⟩
    refine ⟨upd S0 p (.tup (vs.drop ps.length)), _, sh2, (RpL.take _ (r.mono pn.ss)).append (.cons (.tup (SqT.of upd_same) (RpL.drop _ (r.mono pn.ss))) .nil), h3, fun S' H' v b hbp n ok => ?_, fun S' H' y fl cls d hy n ek => ?_⟩
    · refine hq S' H' v b hbp (nx n) ?_
      cases b with
      | st d => exact ok
      | ow o =>
        obtain ⟨a, e1, e2, e3, e4⟩ := ok
        exact ⟨a, e1, e2, e3, pn.hh.free e4⟩
      | xc a d fl => exact ok
      | nw d l =>
        obtain ⟨a, q, u, xs, e1, e2, e3, e4, e5, e6, e7, e8, e9, e10⟩ := ok
        exact ⟨a, q, u, xs, e1, e2, e3, e4, e5, e6, e7, e8, pn.hh.free e9, pn.hh.free e10⟩
    · refine hE S' H' y fl cls d hy (nx n) ?_
      obtain ⟨e1, e2⟩ := ek
      rcases e2 with e2 | ⟨dd, fs, g1, g2, g3, g4⟩
      · exact ⟨e1, .inl e2⟩
      · exact ⟨e1, .inr ⟨dd, fs, g1, g2, pn.hh.free g3, g4⟩⟩
end
/-! ### calls with *x -/
section
variable {X : Cx} {e : Ent} {Γ : Gam} {f : Addr} {sp : Sp} {k j : Nat} {W : WX} {x C m : Str} {p q pos apos : Pos} {a o : Expr} {es : List Expr} {fs : List (Str × D)} {U : Wx}
theorem pe_callWS {t : TA} (F : FnR X.prog X.w X.K X.mg X.base (L2.CX X.prog X.w) k f sp) (hr : Room k X.A) (tk : Takes X W) (hg : Gl X x) (hm : X.mg x = some (.ref f)) (hk : PySem.W.keepIn X.K (.ref f) = true) (ha : PA X (a :: es) t) (hdb : (x == ("__debug__" : Str)) = false := by decide)
    (he : starEach (a :: es) X.env = (false, eval a X.env) :: starEach es X.env := by rfl) (hst : (backTo pos (starEach es X.env)).any (·.1) = true := by rfl) :
    PE X (.Call (.Name x p) (a :: es) [] pos) (fun σ H Q => t σ H fun vs H1 => sp vs H1 Q fun c d H2 => W c d σ H2) := by
  refine ⟨fun pins s σ H Q I h => ?_⟩
  refine wpAny_Call_Name_kw (ld_glob I hg hm ?_ hdb)
  refine PySem.W.callWith_S2 (h₀ := X.base) I.ok.mod.kin hk (thn (ha.run pos pins s σ H _ I h) fun us s1 ⟨vs, H1, I1, r, q⟩ => ⟨I1.kIn, ?_⟩) he hst
  exact run_fnW F hr tk I1 r q
/-- f(.., *y): a new object, errors -/
theorem eo_callS {c : Fp} {ds : List D} {Φ : O → Gam → Prop} (N : XDn X x k (spP X.K c)) (hr : Room j X.A) (hj : k ≤ j) (tk : Takes X (wX X.K e U)) (ha : PVs X e (a :: es) Γ ds) (hp : c.pre ds) (hq : ∀ b, c.post ds b → ∃ o, b = .ow o ∧ Φ o Γ) (hx : ∀ y fl, c.exn ds y fl → U y fl Γ)
    (hg : Gl X x := by rfl) (hdb : (x == ("__debug__" : Str)) = false := by decide)
    (he : starEach (a :: es) X.env = (false, eval a X.env) :: starEach es X.env := by rfl) (hst : (backTo pos (starEach es X.env)).any (·.1) = true := by rfl) : EO X e (.Call (.Name x p) (a :: es) [] pos) Γ Φ :=
  PE.imp (pe_callWS N.fn (hr.mono hj) tk hg N.at_ N.kp ha hdb he hst) fun σ H Q ⟨S, w, q⟩ => ⟨S, w, fun S1 H1 vs s1 w1 r1 => by
    refine ⟨S1, ds, w1.nx.sh, r1, hp, fun S2 H2 v b hb n2 r2 => ?_, fun S2 H2 y fl cls dd hy n2 r2 => ?_⟩
    · obtain ⟨w2, s2⟩ := w1.after n2
      obtain ⟨o, rfl, hΦ⟩ := hq b hb
      obtain ⟨p2, rfl, sp2, ow2, h0⟩ := r2
      exact q S2 H2 p2 o Γ hΦ (s1.trans s2).stp w2 sp2 ow2 (s1.hh.free h0)
    · obtain ⟨w2, _⟩ := w1.after n2
      exact ⟨S2, y, fl, Γ, hx y fl hy, w2, eok_up w1.nx r2⟩⟩
/-- a method with *args, called by o.m(*y) -/
structure MdS (P : Program) (w : World) (K : Fg) (mg : Str → Option Value) (base : Heap) (C m : Str) (k : Nat) (c : Fp) : Prop where
  cls : Cls K (He.ga K C)
  fn : ∃ g, BMeth K (He.ga K C) m g ∧ FnR P w K mg base (L2.CX P w) k g (spP K c)
theorem eo_methS {c : Fp} {l : List D} {d : D} {Φ : O → Gam → Prop} (N : MdS X.prog X.w X.K X.mg X.base C m k c) (hr : Room j X.A) (hj : k ≤ j) (tk : Takes X (wX X.K e U)) (hx : PV X e o Γ (.obj C fs)) (hf : fs.lookup m = none) (ha : PV X e a Γ d) (hd : d = .lst l ∨ d = .tup l) (hp : c.pre (.obj C fs :: l))
    (hq : ∀ b, c.post (.obj C fs :: l) b → ∃ o, b = .ow o ∧ Φ o Γ) (hn : ∀ y fl, c.exn (.obj C fs :: l) y fl → U y fl Γ) (hbase : attributeBase o m X.env (eval o X.env) = eval o X.env := by rfl)
    (hst : starEach [.Starred a p] X.env = [(true, eval a X.env)] := by rfl) : EO X e (.Call (.Attribute o m apos) [.Starred a p] [] pos) Γ Φ := by
  obtain ⟨g, hm, F⟩ := N.fn
  refine PE.imp (pe_methS1 (W := wX X.K e U) hx N.cls hm F (hr.mono hj) tk ha hbase hst) fun σ H Q ⟨S, w, q⟩ => ⟨S, w, fun S1 H1 v s1 w1 r1 => ?_⟩
  cases r1 with
  | @obj oa odx _ ofs _ h1 h2 =>
    refine ⟨_, _, _, rfl, w1.nx.sh _ _ h1, h2.none hf, fun qa hqa => ⟨S1, w1.own hqa, fun S2 H2 vs s2 w2 r2 => ?_⟩⟩
    have hq2 : H2 qa = some (.met g oa) := s2.hh _ _ upd_same
    have st : Pur S H S2 H2 := s1.trans ((pur_own hqa).trans s2)
    have fin : ∀ b ys, (SqT X.K H2 b ys ∨ SqL X.K H2 b ys) → vs = .ref b → RpL X.K S2 ys l → ∃ b vs', vs = .ref b ∧ (SqT X.K H2 b vs' ∨ SqL X.K H2 b vs') ∧ H2 qa = some (.met g oa) ∧ spP X.K c (.ref oa :: vs') H2 Q fun c d H3 => wX X.K e U c d σ H3 := fun b ys hs ev ry => by
      refine ⟨b, ys, ev, hs, hq2, S2, .obj C fs :: l, w2.nx.sh, .cons (.obj (s2.ss _ _ h1) (h2.mono s2.ss)) ry, hp, fun S3 H3 v3 b3 hb3 n3 r3 => ?_, fun S3 H3 y fl cls dd hy n3 ek => ?_⟩
      · obtain ⟨w3, s3⟩ := w2.after n3
        obtain ⟨o3, rfl, hΦ⟩ := hq b3 hb3
        obtain ⟨p3, rfl, sp3, ow3, z0⟩ := r3
        exact q S3 H3 p3 o3 Γ hΦ (st.trans s3).stp w3 sp3 ow3 (st.hh.free z0)
      · obtain ⟨w3, _⟩ := w2.after n3
        exact ⟨S3, y, fl, Γ, hn y fl hy, w3, eok_up w2.nx ek⟩
    rcases hd with rfl | rfl
    · cases r2 with
      | lst g1 g2 => exact fin _ _ (.inr (rdq (same_rd w2.nx.sh g1))) rfl g2
    · cases r2 with
      | tup g1 g2 => exact fin _ _ (.inl (same_sqT w2.nx.sh g1)) rfl g2
end
/-! ### for with break -/
section
variable {X : Cx} {e : Ent} {Γ : Gam} {x tg : Expr} {pos : Pos} {k : Kn} {rest : List Stmt}
theorem bl_forB {body : List Stmt} {ix : List Nat} {bind : D → Gam → Gam → Prop} {Φ : List D → Gam → Prop} (Inv : List D → Nat → Gam → Prop) (Brk : Gam → Prop) (hw : WV X e tg x Γ Φ) (hg : GV X e tg ix bind) (h0 : ∀ ds Γ1, Φ ds Γ1 → Inv ds 0 Γ1)
    (hs : ∀ ds i d Γ1, ds[i]? = some d → Inv ds i Γ1 → ∃ Γ2, bind d Γ1 Γ2 ∧ BL X e body Γ2 { nx := Inv ds (i + 1), rt := k.rt, ct := Inv ds (i + 1), bk := Brk }) (hr : ∀ ds Γ1, Inv ds ds.length Γ1 → BL X e rest Γ1 k) (hrb : ∀ Γ1, Brk Γ1 → BL X e rest Γ1 k)
    (hp : PassesOwn (model X.prog X.w) X.A X.env X.xe) (hc : X.calm = true := by rfl) (hf : ∀ y, foldedSetIterable x X.env y = pure y := by intro _; rfl) : BL X e (.For tg x body [] pos :: rest) Γ k := by
  have hb : PSs X body (fun D σ H => ∃ ds i d Γ1 Γ2, ds[i]? = some d ∧ Inv ds i Γ1 ∧ bind d Γ1 Γ2 ∧ BL X e body Γ2 { nx := Inv ds (i + 1), rt := k.rt, ct := Inv ds (i + 1), bk := Brk } ∧ tS X.K e Γ2 { nx := Inv ds (i + 1), rt := k.rt, ct := Inv ds (i + 1), bk := Brk } D σ H) :=
    ⟨fun pins s σ H D I ⟨ds, i, d, Γ1, Γ2, _, _, _, hB, q⟩ => hB.run pins s σ H D I q⟩
  refine bl_cons (fun Γ1 => (∃ ds, Inv ds ds.length Γ1) ∨ Brk Γ1) (PS.imp (ps_for hp hc hw hg hb hf) fun D σ H ⟨S, w, nx, bk, ct, rt⟩ => ⟨S, w, fun S1 H1 J ds Γ1 hd s1 w1 it => ?_⟩) fun Γ1 h => h.elim (fun ⟨ds, h⟩ => hr ds Γ1 h) (hrb Γ1)
  refine ⟨fun i m σ H => m = ds.length - i ∧ i ≤ ds.length ∧ ∃ S Γ', Inv ds i Γ' ∧ Same S1 S ∧ Wd X.K e S H σ Γ', ⟨ds.length, by simp, Nat.zero_le _, S1, Γ1, h0 ds Γ1 hd, Same.refl _, w1⟩, ?_⟩
  rintro i m σ2 H2 ⟨rfl, hi, S2, Γ2, hI, s2, w2⟩
  by_cases hlt : i < ds.length
  · refine .inr ⟨it.go i S2 H2 hlt s2 w2.nx.sh, fun σ' H' => i + 1 ≤ ds.length ∧ ∃ S' Γ', Inv ds (i + 1) Γ' ∧ Same S1 S' ∧ Wd X.K e S' H' σ' Γ', fun σ' H' ⟨h1, h2⟩ => ⟨ds.length - (i + 1), by omega, rfl, h1, h2⟩, fun v H' y => ?_⟩
    obtain ⟨S3, p3, k3, r3⟩ := it.yld i _ S2 H2 v H' (List.getElem?_eq_getElem hlt) s2 w2.nx.sh y
    obtain ⟨Γ3, hb3, hB⟩ := hs ds i _ Γ2 (List.getElem?_eq_getElem hlt) hI
    refine ⟨S3, Γ2, _, Γ3, k3 _ _ w2, r3, hb3, fun σ4 _ _ w4 => ⟨ds, i, _, Γ2, Γ3, List.getElem?_eq_getElem hlt, hI, hb3, hB, S3, w4, fun S5 σ5 H5 Γ5 q5 s5 w5 => ⟨hlt, S5, Γ5, q5, (s2.trans p3.ss).trans s5, w5⟩, fun S5 σ5 H5 Γ5 q5 s5 w5 => nx S5 σ5 H5 Γ5 (.inr q5) (((s1.ss.trans s2).trans p3.ss).trans s5) w5,
      fun S5 σ5 H5 Γ5 q5 s5 w5 => ⟨hlt, S5, Γ5, q5, (s2.trans p3.ss).trans s5, w5⟩, fun S5 σ5 H5 v b Γ5 q5 s5 w5 => rt S5 σ5 H5 v b Γ5 q5 (((s1.ss.trans s2).trans p3.ss).trans s5) w5⟩⟩
  · have ei : i = ds.length := by omega
    subst ei
    exact .inl ⟨it.stop _ S2 H2 (Nat.le_refl _) s2 w2.nx.sh, nx S2 σ2 H2 Γ2 (.inl ⟨ds, hI⟩) (s1.ss.trans s2) w2⟩
theorem bl_break (hb : k.bk Γ) : BL X e (.Break pos :: rest) Γ k :=
  bl_cons (fun _ => False) (PS.imp ps_break fun D σ H ⟨S, w, _, bk, _⟩ => bk S σ H Γ hb (Same.refl _) w) fun _ z => z.elim
end
/-! ### a dict's value put anew -/
def putD (ds : List (Key × D)) (k : Key) (d : D) : List (Key × D) := if (ds.any fun kv => decide (kv.1 = k)) = true then ds.map (fun kv => if kv.1 = k then (kv.1, d) else kv) else ds ++ [(k, d)]
theorem RpK.any {K : Fg} {S : Hp} {k : Key} : ∀ {vs : List (Key × V)} {ds : List (Key × D)}, RpK K S vs ds → (vs.any fun kv => decide (kv.1 = k)) = ds.any fun kv => decide (kv.1 = k)
  | _, _, .nil => rfl
  | _, _, .cons _ t => by rw [List.any_cons, List.any_cons, t.any]
theorem RpK.mapv {K : Fg} {S : Hp} {k : Key} {v : V} {d : D} (h : Rp K S v d) : ∀ {vs : List (Key × V)} {ds : List (Key × D)}, RpK K S vs ds → RpK K S (vs.map fun kv => if kv.1 = k then (kv.1, v) else kv) (ds.map fun kv => if kv.1 = k then (kv.1, d) else kv)
  | _, _, .nil => .nil
  | _, _, .cons (k := k') r t => by
    rw [List.map_cons, List.map_cons]
    by_cases q : k' = k
    · rw [if_pos q, if_pos q]
      exact .cons h (t.mapv h)
    · rw [if_neg q, if_neg q]
      exact .cons r (t.mapv h)
theorem RpK.put {K : Fg} {S : Hp} {k : Key} {v : V} {d : D} {vs : List (Key × V)} {ds : List (Key × D)} (h : Rp K S v d) (r : RpK K S vs ds) : RpK K S (putK vs k v) (putD ds k d) := by
  unfold putK putD
  rw [r.any]
  split
  · exact r.mapv h
  · exact r.snoc h
section
variable {X : Cx} {e : Ent} {Γ : Gam} {i : Expr} {pos : Pos} {k : Kn} {rest : List Stmt} {j : Nat}
theorem bl_dputU {nm : Str} {np sp : Pos} {value : Expr} {Φ : D → Gam → Prop} (ix : Nat) (hr : Room j X.A) (hv : EV X e value Γ Φ) (h0 : ∀ d Γ1, Φ d Γ1 → ∃ l z, Γ1[ix]? = some (some (.ow (.dK l))) ∧ PV X e i Γ1 (.str z) ∧ l.length < 100000 ∧ BL X e rest (Γ1.set ix (some (.ow (.dK (putD l (.inr z) d))))) k)
    (hN : X.N[ix]? = some nm := by rfl) (hvs : Vis X.env.scope nm := by first | exact Or.inl rfl | exact Or.inr (Or.inl rfl) | exact Or.inr (Or.inr rfl)) (h1 : (nm == ("__debug__" : Str)) = false := by decide) (h2 : (nm == ("__classdict__" : Str)) = false := by decide)
    (hs : swapsWith value (some (.Subscript (.Name nm np) i sp)) pos.line X.env = pure false := by rfl) : BL X e (.Assign [.Subscript (.Name nm np) i sp] value pos :: rest) Γ k := by
  have hiT : PE X i (fun σ H Q => ∃ d Γ1 z, Φ d Γ1 ∧ PV X e i Γ1 (.str z) ∧ tP X.K e Γ1 (.str z) σ H Q) := ⟨fun pins s σ H Q I ⟨d, Γ1, z, _, hp, q⟩ => hp.run pins s σ H Q I q⟩
  refine bl_cons (fun Γ2 => ∃ d Γ1 l z, Φ d Γ1 ∧ Γ1[ix]? = some (some (.ow (.dK l))) ∧ Γ2 = Γ1.set ix (some (.ow (.dK (putD l (.inr z) d)))) ∧ BL X e rest Γ2 k) (PS.imp (L2.ps_dput (by have := hr.units; omega) (pe_var hN hvs h1 h2) hiT hv hs) fun D σ H ⟨S, w, nx, _⟩ => ⟨S, w, fun S1 H1 v d Γ1 hd s1 w1 r1 => ?_⟩) fun Γ2 ⟨_, _, _, _, _, _, _, z⟩ => z
  obtain ⟨l, z, g1, g2, g4, hB⟩ := h0 d Γ1 hd
  obtain ⟨u, g5, p, g6, sp1, ow1, hp⟩ := w1.sl.at_ ix _ g1
  subst g6
  refine ⟨_, g5, d, Γ1, z, hd, g2, S1, w1, fun S2 H2 y s2 w2 r2 => ?_⟩
  cases r2
  obtain ⟨u', g5', p', g6', sp2, ow2, hp2⟩ := w2.sl.at_ ix _ g1
  rw [g5] at g5'
  cases g5'
  cases g6'
  obtain ⟨kvs, g7, g8⟩ := ow2
  refine ⟨p, upd H2 p (.dK (putK kvs (.inr z) v)), rfl, .inl ⟨kvs, .inr z, g7, rfl, ?_, rfl⟩, ?_⟩
  · rw [g8.length]; exact Nat.lt_of_lt_of_le g4 (by decide)
  · exact nx S2 σ _ _ ⟨d, Γ1, l, z, hd, g1, rfl, hB⟩ (s1.ss.trans s2.ss) (w2.put g1 g5 ⟨_, upd_same, g8.put (r1.mono s2.ss)⟩)
end
end Kf
end
section
set_option maxRecDepth 100000
set_option maxHeartbeats 1000000
/-! KgM: plain: folds of a finite order, over any type. -/
namespace Kf

section
variable {α : Type} [DecidableEq α]
/-- b lies strictly above a in L with nothing between -/
def covG (r : α → α → Bool) (L : List α) (a b : α) : Bool := !decide (a = b) && (r a b && !(L.any fun m => !decide (m = a) && (!decide (m = b) && (r a m && r m b))))
def upsG (r : α → α → Bool) (L : List α) (k : α) : List α := L.filter fun z => covG r L k z
def dnsG (r : α → α → Bool) (L : List α) (k : α) : List α := L.filter fun z => covG r L z k
def placeG (r : α → α → Bool) (L : List α) (k : α) : Option α := if (upsG r L k).length = 1 then (upsG r L k)[0]? else if (dnsG r L k).length = 1 then (dnsG r L k)[0]? else none
def stepG (r : α → α → Bool) (kept L : List α) : Option (α × α) := L.findSome? fun k => if k ∈ kept then none else (placeG r L k).map fun p => (k, p)
def foldsG (r : α → α → Bool) (kept : List α) : Nat → List α → List (α × α) × List α
  | 0, L => ([], L)
  | n + 1, L => match stepG r kept L with
    | none => ([], L)
    | some f => ((f :: (foldsG r kept n (L.filter fun z => !decide (z = f.1))).1), (foldsG r kept n (L.filter fun z => !decide (z = f.1))).2)
def imgG (fs : List (α × α)) (k : α) : α := fs.foldl (fun im f => if f.1 = im then f.2 else im) k
theorem covG_iff {r : α → α → Bool} {L : List α} {a b : α} : covG r L a b = true ↔ a ≠ b ∧ r a b = true ∧ ∀ m ∈ L, m ≠ a → m ≠ b → r a m = true → r m b = true → False := by
  unfold covG
  simp only [Bool.and_eq_true, Bool.not_eq_true', decide_eq_false_iff_not, List.any_eq_false, decide_eq_true_eq, not_and, Bool.not_eq_true]
  constructor
  · rintro ⟨h1, h2, h3⟩
    exact ⟨h1, h2, fun m hm n1 n2 h4 h5 => by have := h3 m hm n1 n2 h4; rw [h5] at this; cases this⟩
  · rintro ⟨h1, h2, h3⟩
    refine ⟨h1, h2, fun m hm n1 n2 h4 => ?_⟩
    cases h5 : r m b with
    | false => rfl
    | true => exact (h3 m hm n1 n2 h4 h5).elim
/-- an order on a list -/
structure PoG (r : α → α → Bool) (L : List α) : Prop where
  refl : ∀ a ∈ L, r a a = true
  trans : ∀ a b c, a ∈ L → b ∈ L → c ∈ L → r a b = true → r b c = true → r a c = true
  anti : ∀ a b, a ∈ L → b ∈ L → r a b = true → r b a = true → a = b
theorem PoG.sub {r : α → α → Bool} {L M : List α} (h : PoG r L) (s : ∀ a ∈ M, a ∈ L) : PoG r M :=
  ⟨fun a ha => h.refl a (s a ha), fun a b c ha hb hc => h.trans a b c (s a ha) (s b hb) (s c hc), fun a b ha hb => h.anti a b (s a ha) (s b hb)⟩
/-- something covers a below b -/
theorem cover_up {r : α → α → Bool} {L : List α} (P : PoG r L) : ∀ (n : Nat) (a b : α), a ∈ L → b ∈ L → r a b = true → a ≠ b → (L.filter fun m => r a m && r m b).length ≤ n → ∃ c ∈ L, covG r L a c = true ∧ r c b = true
  | 0, a, b, ha, hb, hab, hne, hn => by
    have : b ∈ L.filter fun m => r a m && r m b := List.mem_filter.mpr ⟨hb, by rw [hab, P.refl b hb]; rfl⟩
    rw [List.length_eq_zero_iff.mp (Nat.le_zero.mp hn)] at this
    cases this
  | n + 1, a, b, ha, hb, hab, hne, hn => by
    by_cases h : covG r L a b = true
    · exact ⟨b, hb, h, P.refl b hb⟩
    · have hc : ∃ m ∈ L, m ≠ a ∧ m ≠ b ∧ r a m = true ∧ r m b = true := by
        refine Classical.byContradiction fun hno => h (covG_iff.mpr ⟨hne, hab, fun m hm n1 n2 h4 h5 => hno ⟨m, hm, n1, n2, h4, h5⟩⟩)
      obtain ⟨m, hm, n1, n2, h4, h5⟩ := hc
      have hlt : (L.filter fun z => r a z && r z m).length < (L.filter fun z => r a z && r z b).length := by
        have e : (L.filter fun z => r a z && r z m) = (L.filter fun z => r a z && r z b).filter fun z => r z m := by
          rw [List.filter_filter]
          refine List.filter_congr fun z hz => ?_
          cases h6 : r z m with
          | false => simp
          | true =>
            have h7 := P.trans z m b hz hm hb h6 h5
            rw [h7]
            simp
        rw [e]
        refine List.length_filter_lt_length_iff_exists.mpr ⟨b, List.mem_filter.mpr ⟨hb, by rw [hab, P.refl b hb]; rfl⟩, ?_⟩
        intro h6
        exact n2 (P.anti m b hm hb h5 h6)
      obtain ⟨c, hc, h6, h7⟩ := cover_up P n a m ha hm h4 (fun q => n1 q.symm) (by omega)
      exact ⟨c, hc, h6, P.trans c m b hc hm hb h7 h5⟩
theorem PoG.flip {r : α → α → Bool} {L : List α} (P : PoG r L) : PoG (fun a b => r b a) L :=
  ⟨P.refl, fun a b c ha hb hc h1 h2 => P.trans c b a hc hb ha h2 h1, fun a b ha hb h1 h2 => P.anti a b ha hb h2 h1⟩
theorem covG_flip {r : α → α → Bool} {L : List α} {a b : α} : covG (fun a b => r b a) L a b = covG r L b a := by
  rw [Bool.eq_iff_iff, covG_iff, covG_iff]
  exact ⟨fun ⟨h1, h2, h3⟩ => ⟨fun q => h1 q.symm, h2, fun m hm n1 n2 h4 h5 => h3 m hm n2 n1 h5 h4⟩, fun ⟨h1, h2, h3⟩ => ⟨fun q => h1 q.symm, h2, fun m hm n1 n2 h4 h5 => h3 m hm n2 n1 h5 h4⟩⟩
theorem one_mem {l : List α} {a : α} (h : l.length = 1) (ha : l[0]? = some a) : l = [a] := by
  match l, h with
  | [b], _ =>
    have : b = a := by simpa using ha
    rw [this]
/-- what a fold says: its place is the only cover on one side -/
theorem place_spec {r : α → α → Bool} {L : List α} {k p : α} (h : placeG r L k = some p) : upsG r L k = [p] ∨ dnsG r L k = [p] := by
  unfold placeG at h
  split at h
  · rename_i h1
    exact .inl (one_mem h1 h)
  · split at h
    · rename_i h2
      exact .inr (one_mem h2 h)
    · cases h
theorem place_mem {r : α → α → Bool} {L : List α} {k p : α} (h : placeG r L k = some p) : p ∈ L ∧ p ≠ k := by
  rcases place_spec h with q | q
  · have : p ∈ upsG r L k := by rw [q]; exact List.mem_singleton.mpr rfl
    obtain ⟨h1, h2⟩ := List.mem_filter.mp this
    exact ⟨h1, fun z => (covG_iff.mp h2).1 z.symm⟩
  · have : p ∈ dnsG r L k := by rw [q]; exact List.mem_singleton.mpr rfl
    obtain ⟨h1, h2⟩ := List.mem_filter.mp this
    exact ⟨h1, (covG_iff.mp h2).1⟩
/-- a fold keeps the order -/
theorem fold_mono {r : α → α → Bool} {L : List α} (P : PoG r L) {k p : α} (hk : k ∈ L) (h : placeG r L k = some p) {x y : α} (hx : x ∈ L) (hy : y ∈ L) (hxy : r x y = true) : r (if k = x then p else x) (if k = y then p else y) = true := by
  obtain ⟨hp, hpk⟩ := place_mem h
  have up1 : upsG r L k = [p] → r k p = true ∧ ∀ z ∈ L, r k z = true → k ≠ z → r p z = true := fun q => by
    have : p ∈ upsG r L k := by rw [q]; exact List.mem_singleton.mpr rfl
    refine ⟨(covG_iff.mp (List.mem_filter.mp this).2).2.1, fun z hz hkz hne => ?_⟩
    obtain ⟨c, hc, h1, h2⟩ := cover_up P _ k z hk hz hkz hne (Nat.le_refl _)
    have : c ∈ upsG r L k := List.mem_filter.mpr ⟨hc, h1⟩
    rw [q] at this
    rw [← List.mem_singleton.mp this]
    exact h2
  have dn1 : dnsG r L k = [p] → r p k = true ∧ ∀ z ∈ L, r z k = true → k ≠ z → r z p = true := fun q => by
    have : p ∈ dnsG r L k := by rw [q]; exact List.mem_singleton.mpr rfl
    refine ⟨(covG_iff.mp (List.mem_filter.mp this).2).2.1, fun z hz hkz hne => ?_⟩
    obtain ⟨c, hc, h1, h2⟩ := cover_up P.flip _ k z hk hz hkz hne (Nat.le_refl _)
    rw [covG_flip] at h1
    have : c ∈ dnsG r L k := List.mem_filter.mpr ⟨hc, h1⟩
    rw [q] at this
    rw [← List.mem_singleton.mp this]
    exact h2
  by_cases e1 : k = x
  · rw [if_pos e1]
    by_cases e2 : k = y
    · rw [if_pos e2]; exact P.refl p hp
    · rw [if_neg e2]
      subst e1
      rcases place_spec h with q | q
      · exact (up1 q).2 y hy hxy e2
      · exact P.trans p k y hp hk hy (dn1 q).1 hxy
  · rw [if_neg e1]
    by_cases e2 : k = y
    · rw [if_pos e2]
      subst e2
      rcases place_spec h with q | q
      · exact P.trans x k p hx hk hp hxy (up1 q).1
      · exact (dn1 q).2 x hx hxy e1
    · rw [if_neg e2]; exact hxy
theorem step_spec {r : α → α → Bool} {kept L : List α} {f : α × α} (h : stepG r kept L = some f) : f.1 ∈ L ∧ f.1 ∉ kept ∧ placeG r L f.1 = some f.2 := by
  unfold stepG at h
  obtain ⟨k, hk, h1⟩ := List.exists_of_findSome?_eq_some h
  split at h1
  · cases h1
  · rename_i hn
    obtain ⟨p, hp, e⟩ := Option.map_eq_some_iff.mp h1
    subst e
    exact ⟨hk, hn, hp⟩
theorem imgG_cons {f : α × α} {fs : List (α × α)} {k : α} : imgG (f :: fs) k = imgG fs (if f.1 = k then f.2 else k) := rfl
/-- the images: they keep the order, lie in what is left, are all of it, and leave it as it is -/
theorem folds_spec {r : α → α → Bool} {kept : List α} : ∀ (n : Nat) (L : List α), PoG r L →
    (∀ x ∈ (foldsG r kept n L).2, x ∈ L) ∧ (∀ x ∈ L, imgG (foldsG r kept n L).1 x ∈ (foldsG r kept n L).2) ∧ (∀ x ∈ (foldsG r kept n L).2, imgG (foldsG r kept n L).1 x = x) ∧ (∀ x y, x ∈ L → y ∈ L → r x y = true → r (imgG (foldsG r kept n L).1 x) (imgG (foldsG r kept n L).1 y) = true) ∧ (∀ x ∈ L, x ∈ kept → x ∈ (foldsG r kept n L).2)
  | 0, L, P => ⟨fun x h => h, fun x h => h, fun x h => rfl, fun x y _ _ h => h, fun x h _ => h⟩
  | n + 1, L, P => by
    unfold foldsG
    cases hs : stepG r kept L with
    | none => exact ⟨fun x h => h, fun x h => h, fun x h => rfl, fun x y _ _ h => h, fun x h _ => h⟩
    | some f =>
      obtain ⟨h1, h2, h3⟩ := step_spec hs
      obtain ⟨p1, p2⟩ := place_mem h3
      have sub : ∀ a ∈ L.filter (fun z => !decide (z = f.1)), a ∈ L := fun a ha => (List.mem_filter.mp ha).1
      obtain ⟨g1, g2, g3, g4, g5⟩ := folds_spec n (L.filter fun z => !decide (z = f.1)) (P.sub sub)
      have mem : ∀ x ∈ L, (if f.1 = x then f.2 else x) ∈ L.filter fun z => !decide (z = f.1) := fun x hx => by
        by_cases e : f.1 = x
        · rw [if_pos e]
          exact List.mem_filter.mpr ⟨p1, by simpa using p2⟩
        · rw [if_neg e]
          exact List.mem_filter.mpr ⟨hx, by simpa using fun q => e q.symm⟩
      refine ⟨fun x hx => sub x (g1 x hx), fun x hx => g2 _ (mem x hx), fun x hx => ?_, fun x y hx hy hxy => g4 _ _ (mem x hx) (mem y hy) (fold_mono P h1 h3 hx hy hxy), fun x hx hk => g5 x (List.mem_filter.mpr ⟨hx, by simpa using fun q => h2 (by rw [← q]; exact hk)⟩) hk⟩
      show imgG _ (if f.1 = x then f.2 else x) = x
      have ne : ¬ f.1 = x := fun q => by
        have := (List.mem_filter.mp (g1 x hx)).2
        rw [← q] at this
        simp at this
      rw [if_neg ne]
      exact g3 x hx
/-- enough turns: no fold is left -/
theorem folds_end {r : α → α → Bool} {kept : List α} : ∀ (n : Nat) (L : List α), L.length ≤ n → stepG r kept (foldsG r kept n L).2 = none
  | 0, L, h => by
    have : L = [] := List.length_eq_zero_iff.mp (Nat.le_zero.mp h)
    subst this
    rfl
  | n + 1, L, h => by
    unfold foldsG
    cases hs : stepG r kept L with
    | none => exact hs
    | some f =>
      have h1 := (step_spec hs).1
      refine folds_end n _ ?_
      have : (L.filter fun z => !decide (z = f.1)).length < L.length := List.length_filter_lt_length_iff_exists.mpr ⟨f.1, h1, by simp⟩
      omega
theorem folds_none {r : α → α → Bool} {kept L : List α} (h : stepG r kept L = none) : ∀ n, foldsG r kept n L = ([], L)
  | 0 => rfl
  | n + 1 => by unfold foldsG; rw [h]
theorem folds_more {r : α → α → Bool} {kept : List α} : ∀ (n m : Nat) (L : List α), L.length ≤ n → n ≤ m → foldsG r kept m L = foldsG r kept n L
  | 0, m, L, h, _ => by
    have : L = [] := List.length_eq_zero_iff.mp (Nat.le_zero.mp h)
    subst this
    exact folds_none rfl m
  | n + 1, m, L, h, hm => by
    obtain ⟨m', rfl⟩ : ∃ m', m = m' + 1 := ⟨m - 1, by omega⟩
    unfold foldsG
    cases hs : stepG r kept L with
    | none => rfl
    | some f =>
      have h1 := (step_spec hs).1
      have : (L.filter fun z => !decide (z = f.1)).length < L.length := List.length_filter_lt_length_iff_exists.mpr ⟨f.1, h1, by simp⟩
      dsimp only
      rw [folds_more n m' _ (by omega) (by omega)]
/-- something is always left -/
theorem folds_ne {r : α → α → Bool} {kept : List α} (n : Nat) (L : List α) (P : PoG r L) (h : 1 ≤ L.length) : 1 ≤ (foldsG r kept n L).2.length := by
  obtain ⟨_, g2, _⟩ := folds_spec (kept := kept) n L P
  match L, h with
  | a :: l, _ => exact List.length_pos_of_mem (g2 a List.mem_cons_self)
theorem folds_sub {r : α → α → Bool} {kept : List α} : ∀ (n : Nat) (L : List α), (foldsG r kept n L).2.Sublist L
  | 0, L => List.Sublist.refl _
  | n + 1, L => by
    unfold foldsG
    cases hs : stepG r kept L with
    | none => exact List.Sublist.refl _
    | some f => exact (folds_sub n _).trans List.filter_sublist
theorem folds_len {r : α → α → Bool} {kept : List α} : ∀ (n : Nat) (L : List α), (foldsG r kept n L).1.length ≤ n
  | 0, L => Nat.le_refl _
  | n + 1, L => by
    unfold foldsG
    cases hs : stepG r kept L with
    | none => exact Nat.zero_le _
    | some f => exact Nat.succ_le_succ (folds_len n _)
end
/-! ### by names -/
section
variable {α β : Type} [DecidableEq α] [DecidableEq β]
structure Tr (nm : α → β) (r : α → α → Bool) (s : β → β → Bool) (L : List α) : Prop where
  inj : ∀ a b, a ∈ L → b ∈ L → nm a = nm b → a = b
  rel : ∀ a b, a ∈ L → b ∈ L → s (nm a) (nm b) = r a b
variable {nm : α → β} {r : α → α → Bool} {s : β → β → Bool} {L : List α}
theorem Tr.sub {M : List α} (t : Tr nm r s L) (h : ∀ a ∈ M, a ∈ L) : Tr nm r s M := ⟨fun a b ha hb => t.inj a b (h a ha) (h b hb), fun a b ha hb => t.rel a b (h a ha) (h b hb)⟩
theorem Tr.ne (t : Tr nm r s L) {a b : α} (ha : a ∈ L) (hb : b ∈ L) : decide (nm a = nm b) = decide (a = b) := decide_eq_decide.mpr ⟨t.inj a b ha hb, fun h => by rw [h]⟩
theorem cov_tr (t : Tr nm r s L) {a b : α} (ha : a ∈ L) (hb : b ∈ L) : covG s (L.map nm) (nm a) (nm b) = covG r L a b := by
  rw [Bool.eq_iff_iff, covG_iff, covG_iff, t.rel a b ha hb]
  constructor
  · rintro ⟨h1, h2, h3⟩
    exact ⟨fun q => h1 (by rw [q]), h2, fun m hm n1 n2 h4 h5 => h3 (nm m) (List.mem_map.mpr ⟨m, hm, rfl⟩) (fun q => n1 (t.inj _ _ hm ha q)) (fun q => n2 (t.inj _ _ hm hb q)) (by rw [t.rel a m ha hm]; exact h4) (by rw [t.rel m b hm hb]; exact h5)⟩
  · rintro ⟨h1, h2, h3⟩
    refine ⟨fun q => h1 (t.inj _ _ ha hb q), h2, fun m hm n1 n2 h4 h5 => ?_⟩
    obtain ⟨m, hm2, rfl⟩ := List.mem_map.mp hm
    exact h3 m hm2 (fun q => n1 (by rw [q])) (fun q => n2 (by rw [q])) (by rw [← t.rel a m ha hm2]; exact h4) (by rw [← t.rel m b hm2 hb]; exact h5)
theorem ups_tr (t : Tr nm r s L) {k : α} (hk : k ∈ L) : upsG s (L.map nm) (nm k) = (upsG r L k).map nm := by
  unfold upsG
  rw [List.filter_map]
  congr 1
  exact List.filter_congr fun z hz => cov_tr t hk hz
theorem dns_tr (t : Tr nm r s L) {k : α} (hk : k ∈ L) : dnsG s (L.map nm) (nm k) = (dnsG r L k).map nm := by
  unfold dnsG
  rw [List.filter_map]
  congr 1
  exact List.filter_congr fun z hz => cov_tr t hz hk
theorem place_tr (t : Tr nm r s L) {k : α} (hk : k ∈ L) : placeG s (L.map nm) (nm k) = (placeG r L k).map nm := by
  unfold placeG
  rw [ups_tr t hk, dns_tr t hk, List.length_map, List.length_map, List.getElem?_map, List.getElem?_map]
  split
  · rfl
  · split <;> rfl
theorem findSome_map {γ : Type} {g : β → Option γ} : ∀ M : List α, (M.map nm).findSome? g = M.findSome? fun a => g (nm a)
  | [] => rfl
  | a :: l => by
    rw [List.map_cons, List.findSome?_cons, List.findSome?_cons, findSome_map l]
theorem findSome_congr {γ : Type} {g h : α → Option γ} : ∀ M : List α, (∀ a ∈ M, g a = h a) → M.findSome? g = M.findSome? h
  | [], _ => rfl
  | a :: l, e => by
    rw [List.findSome?_cons, List.findSome?_cons, e a List.mem_cons_self, findSome_congr l fun b hb => e b (List.mem_cons_of_mem _ hb)]
theorem step_tr (t : Tr nm r s L) {kept : List α} (hk : ∀ a ∈ kept, ∀ b ∈ L, nm a = nm b → a = b) : stepG s (kept.map nm) (L.map nm) = (stepG r kept L).map fun f => (nm f.1, nm f.2) := by
  unfold stepG
  rw [findSome_map, List.map_findSome?]
  refine findSome_congr _ fun k hkL => ?_
  have e : (nm k ∈ kept.map nm) ↔ k ∈ kept := ⟨fun h => by
    obtain ⟨a, ha, q⟩ := List.mem_map.mp h
    rw [← hk a ha k hkL q]
    exact ha, fun h => List.mem_map.mpr ⟨k, h, rfl⟩⟩
  show (if nm k ∈ kept.map nm then none else _) = Option.map _ (if k ∈ kept then none else _)
  by_cases q : k ∈ kept
  · rw [if_pos q, if_pos (e.mpr q)]
    rfl
  · rw [if_neg q, if_neg fun z => q (e.mp z), place_tr t hkL, Option.map_map, Option.map_map]
    rfl
theorem folds_tr {kept : List α} : ∀ (n : Nat) (L : List α), Tr nm r s L → (∀ a ∈ kept, ∀ b ∈ L, nm a = nm b → a = b) → foldsG s (kept.map nm) n (L.map nm) = ((foldsG r kept n L).1.map fun f => (nm f.1, nm f.2), (foldsG r kept n L).2.map nm)
  | 0, L, t, hk => rfl
  | n + 1, L, t, hk => by
    unfold foldsG
    rw [step_tr t hk]
    cases hs : stepG r kept L with
    | none => rfl
    | some f =>
      have h1 := (step_spec hs).1
      have e : (L.map nm).filter (fun z => !decide (z = nm f.1)) = (L.filter fun z => !decide (z = f.1)).map nm := by
        rw [List.filter_map]
        congr 1
        refine List.filter_congr fun z hz => ?_
        show (!decide (nm z = nm f.1)) = _
        rw [t.ne hz h1]
      have sub : ∀ a ∈ L.filter (fun z => !decide (z = f.1)), a ∈ L := fun a ha => (List.mem_filter.mp ha).1
      have ih := folds_tr n (L.filter fun z => !decide (z = f.1)) (t.sub sub) fun a ha b hb => hk a ha b (sub b hb)
      show ((_ :: (foldsG s _ n ((L.map nm).filter fun z => !decide (z = nm f.1))).1), _) = _
      rw [e, ih]
      rfl
theorem img_tr : ∀ (fs : List (α × α)) (k : α), (∀ f ∈ fs, ∀ x, x ∈ L → nm f.1 = nm x → f.1 = x) → k ∈ L → (∀ f ∈ fs, f.2 ∈ L) → imgG (fs.map fun f => (nm f.1, nm f.2)) (nm k) = nm (imgG fs k)
  | [], k, _, _, _ => rfl
  | f :: fs, k, h, hk, hL => by
    rw [List.map_cons, imgG_cons, imgG_cons]
    have hf := h f List.mem_cons_self k hk
    by_cases e : f.1 = k
    · rw [if_pos e, if_pos (show nm f.1 = nm k by rw [e])]
      exact img_tr fs f.2 (fun g hg => h g (List.mem_cons_of_mem _ hg)) (hL f List.mem_cons_self) fun g hg => hL g (List.mem_cons_of_mem _ hg)
    · rw [if_neg e, if_neg fun q => e (hf q)]
      exact img_tr fs k (fun g hg => h g (List.mem_cons_of_mem _ hg)) hk fun g hg => hL g (List.mem_cons_of_mem _ hg)
theorem folds_in {kept : List α} : ∀ (n : Nat) (L : List α), ∀ f ∈ (foldsG r kept n L).1, f.1 ∈ L ∧ f.2 ∈ L
  | 0, L, f, hf => by cases hf
  | n + 1, L, f, hf => by
    unfold foldsG at hf
    cases hs : stepG r kept L with
    | none => rw [hs] at hf; cases hf
    | some g =>
      rw [hs] at hf
      obtain ⟨h1, _, h3⟩ := step_spec hs
      rcases List.mem_cons.mp hf with e | e
      · rw [e]; exact ⟨h1, (place_mem h3).1⟩
      · obtain ⟨g1, g2⟩ := folds_in n _ f e
        exact ⟨(List.mem_filter.mp g1).1, (List.mem_filter.mp g2).1⟩
end
end Kf
end
section
set_option maxRecDepth 100000
set_option maxHeartbeats 1000000
/-! KgB: own operators; an order by a relation: covers, restricted. -/
namespace Kf
open PySem L2
section
variable {X : Cx} {e : Ent} {Γ : Gam} {a b : Expr} {pos : Pos} {op : Operator} {C : Str} {g : Addr} {sp : Sp} {k j : Nat} {W : WX} {U : Wx} {fs gs : List (Str × D)}
/-- a op b, both of the class C, C's own op -/
def tBinW (K : Fg) (C : Addr) (sp : Sp) (W : WX) (ta tb : TE) : TE := fun σ H Q => ta σ H fun x H1 => tb σ H1 fun y H2 => ∃ a' dx fs b' dy gs, x = .ref a' ∧ y = .ref b' ∧ H2 a' = some (.ins C dx fs) ∧ H2 b' = some (.ins C dy gs) ∧ sp [x, y] H2 Q fun c d H3 => W c d σ H3
theorem pe_binW {C : Addr} {ta tb : TE} (hc : PySem.W.selfFirst X.K C = true) (hs : PySem.W.findIn X.K (.ref C) (PySem.dunder op.info.2) = some (some (.ref g))) (hf : PySem.W.isFn X.K (.ref g) = true) (F : FnR X.prog X.w X.K X.mg X.base (L2.CX X.prog X.w) k g sp)
    (hr : Room k X.A) (tk : Takes X W) (ha : PE X a ta) (hb : PE X b tb) : PE X (.BinOp a op b pos) (tBinW X.K C sp W ta tb) := by
  refine ⟨fun pins s σ H Q I h => ?_⟩
  refine wpAny_BinOp (thn (ha.run pins s σ H _ I h) fun v s1 ⟨x, H1, I1, r1, q1⟩ => thn (hb.run pins s1 σ H1 _ I1 q1) fun u s2 ⟨y, H2, I2, r2, q2⟩ => ?_)
  obtain ⟨a', dx, fs, b', dy, gs, ex, ey, ea, eb, q⟩ := q2
  subst ex ey
  obtain rfl : v = Value.ref a' := r1
  obtain rfl : u = Value.ref b' := r2
  obtain ⟨mA, O, _⟩ := ins_get I2.hok ea
  obtain ⟨od, J, _⟩ := O.look
  obtain ⟨mB, O', _⟩ := ins_get I2.hok eb
  obtain ⟨od', J', _⟩ := O'.look
  obtain ⟨m, hF⟩ := I2.fr
  refine PySem.W.binop_K (op := op) hF I2.ok.mod.kin J J'.type hc hs hf ?_
  refine wpAny_mono (run_fnW (us := [.ref a', .ref b']) (vs := [.ref a', .ref b']) F hr tk I2 (.cons rfl (.cons rfl .nil)) q) (fun w s' z => ?_) fun _ _ x => x
  obtain ⟨z', H', I', rz, qz⟩ := z
  exact SlX.cmpback rz ⟨z', H', I', rz, qz⟩
structure Bd (P : Program) (w : World) (K : Fg) (mg : Str → Option Value) (base : Heap) (C : Str) (op : Operator) (k : Nat) (c : Fp) : Prop where
  sf : PySem.W.selfFirst K (He.ga K C) = true
  fn : ∃ g, PySem.W.findIn K (.ref (He.ga K C)) (PySem.dunder op.info.2) = some (some (.ref g)) ∧ PySem.W.isFn K (.ref g) = true ∧ FnR P w K mg base (L2.CX P w) k g (spP K c)
theorem eo_binO {c : Fp} {Φ : O → Gam → Prop} (N : Bd X.prog X.w X.K X.mg X.base C op k c) (hr : Room j X.A) (hj : k ≤ j) (tk : Takes X (wX X.K e U)) (ha : PV X e a Γ (.obj C fs)) (hb : PV X e b Γ (.obj C gs)) (hp : c.pre [.obj C fs, .obj C gs]) (hq : ∀ b, c.post [.obj C fs, .obj C gs] b → ∃ o, b = .ow o ∧ Φ o Γ) (hn : ∀ y fl, c.exn [.obj C fs, .obj C gs] y fl → U y fl Γ) :
    EO X e (.BinOp a op b pos) Γ Φ := by
  obtain ⟨g, g1, g2, F⟩ := N.fn
  exact PE.imp (pe_binW (W := wX X.K e U) N.sf g1 g2 F (hr.mono hj) tk ha hb) fun σ H Q ⟨S, w, q⟩ => ⟨S, w, fun S1 H1 v1 s1 w1 r1 => ⟨S1, w1, fun S2 H2 v2 s2 w2 r2 => by
    cases r1 with
    | obj h1 h2 =>
      cases r2 with
      | obj h3 h4 =>
        refine ⟨_, _, _, _, _, _, rfl, rfl, w2.nx.sh _ _ (s2.ss _ _ h1), w2.nx.sh _ _ h3, S2, _, w2.nx.sh, .cons (.obj (s2.ss _ _ h1) (h2.mono s2.ss)) (.cons (.obj h3 h4) .nil), hp, fun S3 H3 v b hb n3 r3 => ?_, fun S3 H3 y fl cls dd hy n3 ek => ?_⟩
        · obtain ⟨w3, s3⟩ := w2.after n3
          obtain ⟨o3, rfl, hΦ⟩ := hq b hb
          obtain ⟨p3, rfl, sp3, ow3, z0⟩ := r3
          exact q S3 H3 p3 o3 Γ hΦ ((s1.trans s2).trans s3).stp w3 sp3 ow3 ((s1.trans s2).hh.free z0)
        · obtain ⟨w3, _⟩ := w2.after n3
          exact ⟨S3, y, fl, Γ, hn y fl hy, w3, eok_up w2.nx ek⟩⟩⟩
end
/-! ### an order by a relation -/
def subO (r : Str → Str → Bool) (ks : List Str) : Ods := ⟨ks, fun x => ks.filter (r x)⟩
structure OrdG (r : Str → Str → Bool) (ks : List Str) : Prop where
  po : PoG r ks
  nd : ks.Nodup
  kn : ∀ z ∈ ks, KName z
  l1 : 1 ≤ ks.length
  l10 : ks.length ≤ 10
theorem OrdG.sub {r : Str → Str → Bool} {ks ls : List Str} (o : OrdG r ks) (h : ls.Sublist ks) (h1 : 1 ≤ ls.length) : OrdG r ls :=
  ⟨o.po.sub fun a ha => h.subset ha, o.nd.sublist h, fun z hz => o.kn z (h.subset hz), h1, Nat.le_trans h.length_le o.l10⟩
theorem OrdG.rel {r : Str → Str → Bool} {ks : List Str} (o : OrdG r ks) : (relS ks fun x => ks.filter (r x)).length ≤ 100 := by
  unfold relS
  rw [List.length_flatMap]
  have h1 : (ks.map fun x => ((ks.filter (r x)).map fun y => (x, y)).length).sum ≤ ks.length * ks.length := sum_le ks fun x _ => by
    rw [List.length_map]
    exact List.length_filter_le _ _
  exact Nat.le_trans h1 (Nat.le_trans (Nat.mul_le_mul o.l10 o.l10) (by decide))
theorem OrdG.ok {r : Str → Str → Bool} {ks : List Str} (o : OrdG r ks) : OdOk (subO r ks) :=
  ⟨by have := o.l10; show ks.length ≤ 1000; omega, by have := o.rel; show (relS ks fun x => ks.filter (r x)).length ≤ 10000; omega⟩
/-- the law's orders are such -/
noncomputable def relR (prs : List (Str × Str)) : Str → Str → Bool := fun x y => @decide (RchS (succS prs) x y) (Classical.propDecidable _)
theorem lod_sub {ks : List Str} {prs : List (Str × Str)} : lod ks prs = subO (relR prs) ks := rfl
open Classical in
theorem LOrd.ordG {ks : List Str} {prs : List (Str × Str)} (o : LOrd ks prs) : OrdG (relR prs) ks := by
  have tr : ∀ a b, relR prs a b = true ↔ RchS (succS prs) a b := fun a b => by unfold relR; exact decide_eq_true_iff
  refine ⟨⟨fun a _ => (tr a a).mpr (.refl _), fun a b c _ _ _ h1 h2 => (tr a c).mpr (((tr a b).mp h1).trans ((tr b c).mp h2)), fun a b ha hb h1 h2 => ?_⟩, o.nd, o.kn, o.l1, o.l4⟩
  exact anti_of o.rk a b ha (mem_aboveS.mpr ⟨hb, (tr a b).mp h1⟩) (mem_aboveS.mpr ⟨ha, (tr b a).mp h2⟩)
open Classical in
theorem LOrd.relT {ks : List Str} {prs : List (Str × Str)} (o : LOrd ks prs) {a b : Str} (ha : a ∈ ks) (hb : b ∈ ks) : relR prs a b = tabR ks prs (ks.idxOf a) (ks.idxOf b) := by
  rw [← o.tab ha hb, Bool.eq_iff_iff, decide_eq_true_iff, mem_aboveS]
  unfold relR
  rw [decide_eq_true_iff]
  exact ⟨fun h => ⟨hb, h⟩, fun h => h.2⟩
open Classical in
/-- the pairs of a relation close to the relation itself -/
theorem above_rel {r : Str → Str → Bool} {ks ls : List Str} (P : PoG r ks) (hs : ∀ z ∈ ls, z ∈ ks) {x : Str} (hx : x ∈ ls) : aboveS ls ((relS ks fun x => ks.filter (r x)).filter fun p => decide (p.1 ∈ ls) && decide (p.2 ∈ ls)) x = ls.filter (r x) := by
  refine List.filter_congr fun y hy => ?_
  rw [Bool.eq_iff_iff, decide_eq_true_iff]
  have step : ∀ {a b : Str}, b ∈ succS ((relS ks fun x => ks.filter (r x)).filter fun p => decide (p.1 ∈ ls) && decide (p.2 ∈ ls)) a ↔ a ∈ ls ∧ b ∈ ls ∧ r a b = true := fun {a b} => by
    rw [mem_succS, List.mem_filter, mem_relS]
    simp only [Bool.and_eq_true, decide_eq_true_eq, List.mem_filter]
    exact ⟨fun ⟨⟨_, _, h⟩, h1, h2⟩ => ⟨h1, h2, h⟩, fun ⟨h1, h2, h⟩ => ⟨⟨hs _ h1, hs _ h2, h⟩, h1, h2⟩⟩
  constructor
  · intro h
    have key : ∀ {a b : Str}, RchS (succS ((relS ks fun x => ks.filter (r x)).filter fun p => decide (p.1 ∈ ls) && decide (p.2 ∈ ls))) a b → a ∈ ls → b ∈ ls ∧ r a b = true := by
      intro a b q
      induction q with
      | refl => exact fun ha => ⟨ha, P.refl _ (hs _ ha)⟩
      | step _ e ih =>
        intro ha
        obtain ⟨h1, h2⟩ := ih ha
        obtain ⟨_, h4, h5⟩ := step.mp e
        exact ⟨h4, P.trans _ _ _ (hs _ ha) (hs _ h1) (hs _ h4) h2 h5⟩
    exact (key h hx).2
  · intro h
    exact .step (.refl _) (step.mpr ⟨hx, hy, h⟩)
theorem dOrd_congr {ks : List Str} {E F : Str → List Str} (h : ∀ x ∈ ks, E x = F x) : dOrd ks E = dOrd ks F := by
  unfold dOrd
  rw [rowsK_congr h]
theorem flatMap_congr' {α β : Type} {f g : α → List β} : ∀ {l : List α}, (∀ x ∈ l, f x = g x) → l.flatMap f = l.flatMap g
  | [], _ => rfl
  | a :: l, h => by rw [List.flatMap_cons, List.flatMap_cons, h a List.mem_cons_self, flatMap_congr' fun x hx => h x (List.mem_cons_of_mem _ hx)]
theorem flat_if {α : Type} (p : α → Bool) : ∀ l : List α, (l.flatMap fun a => if p a = true then [a] else []) = l.filter p
  | [] => rfl
  | a :: l => by
    rw [List.flatMap_cons, flat_if p l]
    cases h : p a with
    | true => rw [List.filter_cons_of_pos h]; rfl
    | false => rw [List.filter_cons_of_neg (by rw [h]; exact Bool.false_ne_true)]; rfl
/-! covers -/
theorem two_iff {r : Str → Str → Bool} {ks : List Str} (P : PoG r ks) (nd : ks.Nodup) {lo hi : Str} (h1 : lo ∈ ks) (h2 : hi ∈ ks) (h : r lo hi = true) (hne : lo ≠ hi) : decide (((ks.filter (r lo)).filter fun m => decide (hi ∈ ks.filter (r m))).length = 2) = covG r ks lo hi := by
  have e : ((ks.filter (r lo)).filter fun m => decide (hi ∈ ks.filter (r m))) = ks.filter fun m => r lo m && r m hi := by
    rw [List.filter_filter]
    refine List.filter_congr fun m hm => ?_
    have : decide (hi ∈ ks.filter (r m)) = r m hi := by
      rw [Bool.eq_iff_iff, decide_eq_true_iff, List.mem_filter]
      exact ⟨fun q => q.2, fun q => ⟨h2, q⟩⟩
    rw [this, Bool.and_comm]
  rw [e, Bool.eq_iff_iff, decide_eq_true_iff, covG_iff]
  have m1 : lo ∈ ks.filter fun m => r lo m && r m hi := List.mem_filter.mpr ⟨h1, by rw [P.refl lo h1, h]; rfl⟩
  have m2 : hi ∈ ks.filter fun m => r lo m && r m hi := List.mem_filter.mpr ⟨h2, by rw [P.refl hi h2, h]; rfl⟩
  have ndf : (ks.filter fun m => r lo m && r m hi).Nodup := nd.sublist List.filter_sublist
  constructor
  · intro hl
    refine ⟨hne, h, fun m hm n1 n2 h4 h5 => ?_⟩
    have m3 : m ∈ ks.filter fun m => r lo m && r m hi := List.mem_filter.mpr ⟨hm, by rw [h4, h5]; rfl⟩
    have := nodup_le (l := [lo, hi, m]) (m := ks.filter fun m => r lo m && r m hi) (by
      refine List.nodup_cons.mpr ⟨fun q => ?_, List.nodup_cons.mpr ⟨fun q => ?_, List.nodup_cons.mpr ⟨fun q => (by cases q), List.nodup_nil⟩⟩⟩
      · rcases List.mem_cons.mp q with q | q
        · exact hne q
        · exact n1 (List.mem_singleton.mp q).symm
      · exact n2 (List.mem_singleton.mp q).symm) fun x hx => by
        rcases List.mem_cons.mp hx with rfl | hx
        · exact m1
        rcases List.mem_cons.mp hx with rfl | hx
        · exact m2
        rw [List.mem_singleton.mp hx]; exact m3
    rw [hl] at this
    exact absurd this (show ¬ 3 ≤ 2 by decide)
  · rintro ⟨_, _, h3⟩
    have g1 : (ks.filter fun m => r lo m && r m hi).length ≤ 2 := nodup_le (m := [lo, hi]) ndf fun x hx => by
      obtain ⟨hx1, hx2⟩ := List.mem_filter.mp hx
      rw [Bool.and_eq_true] at hx2
      refine Classical.byContradiction fun hno => h3 x hx1 (fun q => hno (by rw [q]; exact List.mem_cons_self)) (fun q => hno (by rw [q]; exact List.mem_cons_of_mem _ (List.mem_singleton.mpr rfl))) hx2.1 hx2.2
    have g2 : 2 ≤ (ks.filter fun m => r lo m && r m hi).length := nodup_le (l := [lo, hi]) (List.nodup_cons.mpr ⟨fun q => hne (List.mem_singleton.mp q), List.nodup_cons.mpr ⟨fun q => (by cases q), List.nodup_nil⟩⟩) fun x hx => by
      rcases List.mem_cons.mp hx with rfl | hx
      · exact m1
      rw [List.mem_singleton.mp hx]; exact m2
    omega
def covL (r : Str → Str → Bool) (ks : List Str) : List (Str × Str) := (relS ks fun x => ks.filter (r x)).filter fun p => covG r ks p.1 p.2
theorem covL_ups {r : Str → Str → Bool} {ks : List Str} (nd : ks.Nodup) {k : Str} (hk : k ∈ ks) : ((covL r ks).filter fun p => decide (p.1 = k)).map (·.2) = upsG r ks k := by
  unfold covL relS
  rw [List.filter_filter, List.filter_flatMap, List.map_flatMap]
  have e : ∀ x ∈ ks, (((ks.filter (r x)).map fun y => (x, y)).filter fun p => decide (p.1 = k) && covG r ks p.1 p.2).map (·.2) = if x = k then upsG r ks k else [] := fun x _ => by
    rw [List.filter_map, List.map_map]
    by_cases q : x = k
    · subst q
      rw [if_pos rfl]
      have e2 : ((fun p : Str × Str => decide (p.1 = x) && covG r ks p.1 p.2) ∘ fun y => (x, y)) = fun y => covG r ks x y := by
        funext y
        show (decide (x = x) && covG r ks x y) = _
        rw [decide_eq_true rfl, Bool.true_and]
      rw [e2, List.filter_filter]
      unfold upsG
      have e3 : (ks.filter fun a => covG r ks x a && r x a) = ks.filter fun z => covG r ks x z := List.filter_congr fun z _ => by
        cases h : covG r ks x z with
        | false => rfl
        | true => rw [(covG_iff.mp h).2.1]; rfl
      rw [e3]
      show List.map (fun y => y) _ = _
      rw [List.map_id']
    · rw [if_neg q]
      have : ((ks.filter (r x)).filter ((fun p : Str × Str => decide (p.1 = k) && covG r ks p.1 p.2) ∘ fun y => (x, y))) = [] := List.filter_eq_nil_iff.mpr fun y _ => by
        show ¬ (decide (x = k) && _) = true
        rw [decide_eq_false q]
        exact Bool.false_ne_true
      rw [this]
      rfl
  rw [show (ks.flatMap fun a => (((ks.filter (r a)).map fun y => (a, y)).filter fun p => decide (p.1 = k) && covG r ks p.1 p.2).map (·.2)) = ks.flatMap fun a => if a = k then upsG r ks k else [] from flatMap_congr' fun x hx => e x hx]
  clear e
  generalize upsG r ks k = u
  induction ks with
  | nil => cases hk
  | cons a l ih =>
    rw [List.flatMap_cons]
    obtain ⟨na, nl⟩ := List.nodup_cons.mp nd
    by_cases q : a = k
    · subst q
      rw [if_pos rfl]
      have : (l.flatMap fun b => if b = a then u else []) = [] := List.flatMap_eq_nil_iff.mpr fun b hb => if_neg fun z => na (by rw [← z]; exact hb)
      rw [this, List.append_nil]
    · rw [if_neg q, List.nil_append]
      exact ih nl ((List.mem_cons.mp hk).resolve_left fun z => q z.symm)
theorem covL_dns {r : Str → Str → Bool} {ks : List Str} (nd : ks.Nodup) {k : Str} (hk : k ∈ ks) : ((covL r ks).filter fun p => decide (p.2 = k)).map (·.1) = dnsG r ks k := by
  unfold covL relS
  rw [List.filter_filter, List.filter_flatMap, List.map_flatMap]
  have e : ∀ x ∈ ks, (((ks.filter (r x)).map fun y => (x, y)).filter fun p => decide (p.2 = k) && covG r ks p.1 p.2).map (·.1) = if covG r ks x k = true then [x] else [] := fun x _ => by
    rw [List.filter_map, List.map_map, List.filter_filter]
    have e2 : (ks.filter fun a => ((fun p : Str × Str => decide (p.2 = k) && covG r ks p.1 p.2) ∘ fun y => (x, y)) a && r x a) = if covG r ks x k = true then [k] else [] := by
      by_cases q : covG r ks x k = true
      · rw [if_pos q]
        have e3 : (ks.filter fun a => ((fun p : Str × Str => decide (p.2 = k) && covG r ks p.1 p.2) ∘ fun y => (x, y)) a && r x a) = ks.filter fun a => decide (a = k) := List.filter_congr fun a _ => by
          show ((decide (a = k) && covG r ks x a) && r x a) = decide (a = k)
          by_cases z : a = k
          · subst z
            rw [q, (covG_iff.mp q).2.1, decide_eq_true rfl]
            rfl
          · rw [decide_eq_false z]
            rfl
        rw [e3]
        have hk' := hk
        have nd' := nd
        clear e3 q hk nd
        rename_i hxk
        clear hxk
        induction ks with
        | nil => cases hk'
        | cons a l ih =>
          obtain ⟨na, nl⟩ := List.nodup_cons.mp nd'
          by_cases q : a = k
          · subst q
            rw [List.filter_cons_of_pos (by simp)]
            have : l.filter (fun b => decide (b = a)) = [] := List.filter_eq_nil_iff.mpr fun b hb => by
              rw [decide_eq_true_eq]
              exact fun z => na (by rw [← z]; exact hb)
            rw [this]
          · rw [List.filter_cons_of_neg (by simpa using q)]
            exact ih ((List.mem_cons.mp hk').resolve_left fun z => q z.symm) nl
      · rw [if_neg q]
        refine List.filter_eq_nil_iff.mpr fun a _ => ?_
        show ¬ ((decide (a = k) && covG r ks x a) && r x a) = true
        intro z
        simp only [Bool.and_eq_true, decide_eq_true_eq] at z
        obtain ⟨⟨z1, z2⟩, _⟩ := z
        rw [z1] at z2
        exact q z2
    rw [e2]
    split <;> rfl
  rw [show (ks.flatMap fun a => (((ks.filter (r a)).map fun y => (a, y)).filter fun p => decide (p.2 = k) && covG r ks p.1 p.2).map (·.1)) = ks.flatMap fun a => if covG r ks a k = true then [a] else [] from flatMap_congr' fun x hx => e x hx]
  exact flat_if (fun z => covG r ks z k) ks
end Kf
end
section
set_option maxRecDepth 100000
set_option maxHeartbeats 1000000
/-! KgC: covers, restricted, folds: walked. -/
namespace Kf
open PySem L2
theorem ne_dec {a b : Str} : (!decide (a = b)) = decide (a ≠ b) := by simp
section
variable {P : Program} {w : World} {K : Fg} {mg : Str → Option Value} {base : Heap} {x qual : Str} {dvs : List V}
/-! ### _covered -/
def cCov (r : Str → Str → Bool) (ks : List Str) (lo hi : Str) : Fp where
  pre ds := ds = [(subO r ks).d, .str lo, .str hi] ∧ OrdG r ks ∧ lo ∈ ks ∧ hi ∈ ks ∧ r lo hi = true
  post ds b := b = .st (.bl (covG r ks lo hi))
  exn _ _ _ := False
abbrev s_cov : Stmt := mem 33 10
abbrev nCov : List Str := ["self", "low", "high", "between", "mid"]
theorem scCov : FnScope nCov ["self", "low", "high"] (defScope s_cov) := ⟨rfl, rfl, rfl, by decide +kernel, rfl, by decide +kernel, by decide +kernel⟩
theorem ok_cov {f : Addr} {fd : FuncData} (F : FunM K x qual dvs s_cov f fd) (b : Bi mg) (oc : OrC K mg) (r : Str → Str → Bool) (ks : List Str) (lo hi : Str) : FnOk P w K mg base (L2.CX P w) 1 f fd ["self", "low", "high"] (spP K (cCov r ks lo hi)) := by
  refine fp_ok F scCov (fun ds ⟨h, _⟩ => by rw [h]; rfl) fun cdv A outer s e Ex ds ho ⟨hd, o, h1, h2, hr'⟩ hr tk => ?_
  subst hd
  have nd := scCov.nd
  have hl := o.l10
  refine bl_ifR (px_cmp op_eq (pv_var 1) (pv_var 2) sc_eqS) (fun h => ?_) fun h => ?_
  · have e1 : lo = hi := of_decide_eq_true h
    refine bl_retP pv_bl ?_
    have : covG r ks lo hi = false := by
      rw [Bool.eq_false_iff]
      intro q
      exact (covG_iff.mp q).1 e1
    show B.st (.bl false) = B.st (.bl (covG r ks lo hi))
    rw [this]
  · have hne : lo ≠ hi := of_decide_eq_false h
    refine bl_letLcA 3 (hz2 := .inl ho) (c := D.str) (u := uS) (l := ks.filter (r lo)) (f := fun z => [sD (subO r ks).d, sD (.str lo), sD (.str hi), none, sD (.str z)]) (own := [("mid", 4)]) (ix := [4]) (bind := bName 4) (fun m => decide (hi ∈ ks.filter (r m))) (fun z => .str z) uS_str (blk nCov (defScope s_cov)) nd
      (wp_list (pv_dget hr (pv_fld oc.cls oc.na (pv_var 0) rfl) (pv_var 1) (rowsK_val h1))) (fun s H C cl fp => gv_name 4 nd (hz := .inl ho)) (bindOk_name 4) (by decide) (.inl ho) (Nat.le_trans (List.length_filter_le _ _) (by omega)) (fun a _ => rfl) (fun a ha s H C cl fp => pts_if (px_inS (ns := ks.filter (r a)) (pv_var 2) (.inl (pv_dget hr (pv_fld oc.cls oc.na (pv_var 0) rfl) (pv_var 4) (rowsK_val (List.mem_filter.mp ha).1))))) (fun a _ _ s H C cl fp => pv_var 4) ?_
    refine bl_frz 3 rfl (.inl ho) (bl_retP (pv_is (pv_c op_eq (pv_lenL (pv_var 3) b.len) pv_int sc_eqI) (d := .bl (covG r ks lo hi)) (congrArg D.bl ?_)) rfl)
    rw [List.length_map, ← two_iff o.po o.nd h1 h2 hr' hne]
    exact decide_eq_decide.mpr (by omega)
/-! ### covers -/
def cCovers (r : Str → Str → Bool) (ks : List Str) : Fp where
  pre ds := ds = [(subO r ks).d] ∧ OrdG r ks
  post ds b := b = .ow (.lst (spairsD (covL r ks)))
  exn _ _ _ := False
abbrev s_covers : Stmt := mem 33 11
abbrev nCovers : List Str := ["self", "low", "high"]
theorem scCovers : FnScope nCovers ["self"] (defScope s_covers) := ⟨rfl, rfl, rfl, by decide +kernel, rfl, by decide +kernel, by decide +kernel⟩
theorem ok_covers {f : Addr} {fd : FuncData} (F : FunM K x qual dvs s_covers f fd) (R : ∀ ks E, Md P w K mg base "Order" "_related" 1 (cRel ks E)) (C : ∀ r ks lo hi, Md P w K mg base "Order" "_covered" 1 (cCov r ks lo hi)) (r : Str → Str → Bool) (ks : List Str) : FnOk P w K mg base (L2.CX P w) 2 f fd ["self"] (spP K (cCovers r ks)) := by
  refine fp_ok F scCovers (fun ds ⟨h, _⟩ => by rw [h]; rfl) fun cdv A outer s e Ex ds ho ⟨hd, o⟩ hr tk => ?_
  subst hd
  have nd := scCovers.nd
  have hrel := o.rel
  refine bl_retO (pn_eo (pn_is (o' := .lst (spairsD (covL r ks))) (pn_lcA (c := spairD) (u := uSP) (l := relS ks fun x => ks.filter (r x)) (f := fun p => [sD (subO r ks).d, sD (.str p.1), sD (.str p.2)]) (own := [("low", 1), ("high", 2)]) (ix := [1, 2]) (bind := bTwo (bName 1) (bName 2)) (fun p => covG r ks p.1 p.2) (fun p => spairD p) uSP_p (blk nCovers (defScope s_covers)) nd
    (wp_list (pn_pv (pn_meth0 (R ks fun x => ks.filter (r x)) hr (by omega) (pv_var 0) rfl ⟨rfl, by omega⟩ (fun _ h => h) (fun _ _ h => h.elim)))) (fun s H C cl fp => gv_two rfl (gv_name 1 nd (hz := .inl ho)) (gv_name 2 nd (hz := .inl ho))) (bindOk_two (bindOk_name 1) (bindOk_name 2)) (by decide) (.inl ho) (by omega) (fun p _ => ⟨_, _, _, rfl, rfl, rfl⟩)
    (fun p hp s H C' cl fp => by
      obtain ⟨p1, p2⟩ := mem_relS.mp hp
      obtain ⟨p3, p4⟩ := List.mem_filter.mp p2
      exact pts_if (px_val (pv_meth (C r ks p.1 p.2) hr (by omega) (pv_var 0) rfl (pvs_cons (pv_var 1) (pvs_cons (pv_var 2) pvs_nil)) ⟨rfl, o, p1, p3, p4⟩ (fun _ h => h) (fun _ _ h => h.elim))))
    (fun p _ _ s H C cl fp => pv_tup (pvs_cons (pv_var 1) (pvs_cons (pv_var 2) pvs_nil)))) rfl)) ?_
  rintro o Γ1 ⟨rfl, rfl⟩
  rfl
/-! ### restricted -/
def cRestr (r : Str → Str → Bool) (ks : List Str) (ns : List Str) : Fp where
  pre ds := ds = [(subO r ks).d, .tup (ns.map .str)] ∧ OrdG r ks ∧ (∀ z ∈ ns, z ∈ ks) ∧ 1 ≤ ns.length
  post ds b := b = .ow (.obj "Order" (dOrd (subO r (ks.filter fun z => decide (z ∈ ns))).ks (subO r (ks.filter fun z => decide (z ∈ ns))).E))
  exn _ _ _ := False
abbrev s_restr : Stmt := mem 33 13
abbrev nRestr : List Str := ["self", "names", "name", "kept", "kind", "low", "high"]
theorem scRestr : FnScope nRestr ((["self"] : List Str) ++ [("names" : Str)]) (defScope s_restr) := ⟨rfl, rfl, rfl, by decide +kernel, rfl, by decide +kernel, by decide +kernel⟩
theorem ok_restr {f fI : Addr} {fd : FuncData} (F : FunM K x qual [] s_restr f fd) (hbd : ∀ (kV doc pm : Value) (an : Option Addr) (cdv ct : Value) (us rest : List Value), us.length = (["self"] : List Str).length → bindArgs (PySem.W.fnOf x qual (defArgs s_restr) (defBody s_restr) (defScope s_restr) .none kV doc pm an cdv ct) ⟨us ++ rest, []⟩ = (newTuple rest >>= fun t => pure ((["self"] : List Str).zip us ++ [(("names" : Str), t)])))
    (oc : OrC K mg) (M : Mk K (He.ga K "Order") fI) (FI : ∀ ks prs, FnR P w K mg base (L2.CX P w) 4 fI (spO K (cOrdI ks prs))) (N2 : ∀ ks z, Dx P w K mg base "check_listed" 3 (cListed ks z)) (R : ∀ ks E, Md P w K mg base "Order" "_related" 1 (cRel ks E)) (r : Str → Str → Bool) (ks ns : List Str) : FnR P w K mg base (L2.CX P w) 6 f (spP K ((cRestr r ks ns).star 1)) := by
  refine fs_ok F scRestr hbd fun cdv A outer s e Ex ds ho ⟨hd, o, hns, hn1⟩ hr tk => ?_
  subst hd
  have nd := scRestr.nd
  have hrel := o.rel
  have hl := o.l10
  refine bl_for (fun ds i Γ => ds = ns.map .str ∧ ∃ a, Γ = [sD (subO r ks).d, sD (.tup (ns.map .str)), a, none, none, none, none]) (wv (wp_tup (pv_var 1))) (gv_name 2 nd (hz := .inl ho)) ?_ ?_ ?_ (passes_of rfl)
  · rintro ds Γ1 ⟨rfl, rfl⟩
    exact ⟨rfl, none, rfl⟩
  · rintro ds i d Γ1 hdi ⟨rfl, a, rfl⟩
    obtain ⟨z, hz, rfl⟩ := strs_at' hdi
    refine ⟨_, rfl, bl_do (pv_ev (pv_call (d := .non) (N2 ks z) hr (by omega) (pvs_cons (pv_fld oc.cls oc.nk (pv_var 0) rfl) (pvs_cons (pv_var 2) pvs_nil)) (.inl rfl) (fun _ h => h.1) (fun _ _ h => h.1 (hns z (List.mem_of_getElem? hz))))) ?_⟩
    rintro d Γ1 ⟨rfl, rfl⟩
    exact bl_nil ⟨rfl, _, rfl⟩
  · rintro ds Γ1 ⟨rfl, a, rfl⟩
    refine bl_letLcA 3 (hz2 := .inl ho) (c := D.str) (u := uS) (l := ks) (f := fun z => [sD (subO r ks).d, sD (.tup (ns.map .str)), a, none, sD (.str z), none, none]) (own := [("kind", 4)]) (ix := [4]) (bind := bName 4) (fun z => decide (z ∈ ns)) (fun z => .str z) uS_str (blk nRestr (defScope s_restr)) nd
      (wp_tup (pv_fld oc.cls oc.nk (pv_var 0) rfl)) (fun s H C cl fp => gv_name 4 nd (hz := .inl ho)) (bindOk_name 4) (by decide) (.inl ho) (by omega) (fun a _ => rfl) (fun a _ s H C cl fp => pts_if (px_inS (ns := ns) (pv_var 4) (.inr (pv_var 1)))) (fun a _ _ s H C cl fp => pv_var 4) ?_
    refine bl_frz 3 rfl (.inl ho) ?_
    generalize hls : ks.filter (fun z => decide (z ∈ ns)) = ls
    have hsub : ls.Sublist ks := by rw [← hls]; exact List.filter_sublist
    have hl1 : 1 ≤ ls.length := by
      match ns, hn1, hns with
      | z :: l, _, hns =>
        refine List.length_pos_of_mem (a := z) ?_
        rw [← hls]
        exact List.mem_filter.mpr ⟨hns z List.mem_cons_self, decide_eq_true List.mem_cons_self⟩
    have ol := o.sub hsub hl1
    have hmem : ∀ z, z ∈ ls ↔ z ∈ ks ∧ z ∈ ns := fun z => by rw [← hls, List.mem_filter, decide_eq_true_iff]
    refine bl_at (Γ' := [sD (subO r ks).d, sD (.tup (ns.map .str)), a, sD (dStrs ls), none, none, none]) rfl ?_
    have hf : ((relS ks fun x => ks.filter (r x)).filter fun p => decide (p.1 ∈ ns) && decide (p.2 ∈ ns)) = (relS ks fun x => ks.filter (r x)).filter fun p => decide (p.1 ∈ ls) && decide (p.2 ∈ ls) := List.filter_congr fun p hp => by
      obtain ⟨p1, p2⟩ := mem_relS.mp hp
      have p3 := (List.mem_filter.mp p2).1
      rw [show decide (p.1 ∈ ls) = decide (p.1 ∈ ns) from decide_eq_decide.mpr ⟨fun h => ((hmem _).mp h).2, fun h => (hmem _).mpr ⟨p1, h⟩⟩, show decide (p.2 ∈ ls) = decide (p.2 ∈ ns) from decide_eq_decide.mpr ⟨fun h => ((hmem _).mp h).2, fun h => (hmem _).mpr ⟨p3, h⟩⟩]
    refine bl_retO (eo_makeI (o := .obj "Order" (dOrd (subO r ls).ks (subO r ls).E)) M (FI ls ((relS ks fun x => ks.filter (r x)).filter fun p => decide (p.1 ∈ ls) && decide (p.2 ∈ ls))) oc.gl hr (by omega) (pvs_cons (pv_var 3) (pvs_cons (pn_pv (pn_is (o' := .lst (spairsD ((relS ks fun x => ks.filter (r x)).filter fun p => decide (p.1 ∈ ls) && decide (p.2 ∈ ls)))) (pn_lcA (c := spairD) (u := uSP) (l := relS ks fun x => ks.filter (r x)) (f := fun p => [sD (subO r ks).d, sD (.tup (ns.map .str)), a, sD (dStrs ls), none, sD (.str p.1), sD (.str p.2)]) (own := [("low", 5), ("high", 6)]) (ix := [5, 6]) (bind := bTwo (bName 5) (bName 6)) (fun p => decide (p.1 ∈ ns) && decide (p.2 ∈ ns)) (fun p => spairD p) uSP_p (blk nRestr (defScope s_restr)) nd
      (wp_list (pn_pv (pn_meth0 (R ks fun x => ks.filter (r x)) hr (by omega) (pv_var 0) rfl ⟨rfl, by omega⟩ (fun _ h => h) (fun _ _ h => h.elim)))) (fun s H C cl fp => gv_two rfl (gv_name 5 nd (hz := .inl ho)) (gv_name 6 nd (hz := .inl ho))) (bindOk_two (bindOk_name 5) (bindOk_name 6)) (by decide) (.inl ho) (by omega) (fun p _ => ⟨_, _, _, rfl, rfl, rfl⟩)
      (fun p hp s H C' cl fp => pts_if (px_w (pw_a (px_inS (ns := ns) (pv_var 5) (.inr (pv_var 1))) fun _ => pw_a1 (px_inS (ns := ns) (pv_var 6) (.inr (pv_var 1))))))
      (fun p _ _ s H C cl fp => pv_tup (pvs_cons (pv_var 5) (pvs_cons (pv_var 6) pvs_nil)))) (congrArg O.lst (by rw [hf]; rfl)))) pvs_nil))
      ⟨rfl, .inl rfl, ol.l1, ol.l10, ol.nd, ol.kn, fun p hp => ?_, ?_, fun a b ha hb hb' => ?_⟩ (fun b o' ⟨g1, g2⟩ => ⟨g1, ?_⟩) (fun _ _ _ h => h)) ?_
    · have := (List.mem_filter.mp hp).2
      rw [Bool.and_eq_true, decide_eq_true_iff, decide_eq_true_iff] at this
      exact this
    · exact Nat.le_trans (List.length_filter_le _ _) (by omega)
    · rw [above_rel o.po (fun z hz => hsub.subset hz) ha] at hb
      have hbl := (List.mem_filter.mp hb).1
      rw [above_rel o.po (fun z hz => hsub.subset hz) hbl] at hb'
      exact ol.po.anti a b ha hbl (List.mem_filter.mp hb).2 (List.mem_filter.mp hb').2
    · rw [g2]
      exact congrArg (O.obj "Order") (dOrd_congr fun x hx => above_rel o.po (fun z hz => hsub.subset hz) hx)
    · rintro o Γ1 ⟨rfl, rfl⟩
      show B.ow _ = B.ow _
      rw [hls]
/-! ### fold_place -/
def optS : Option Str → D
  | none => .non
  | some z => .str z
def cPlace (r : Str → Str → Bool) (ks : List Str) (z : Str) : Fp where
  pre ds := ds = [(subO r ks).d, .str z] ∧ OrdG r ks ∧ z ∈ ks
  post ds b := b = .st (optS (placeG r ks z))
  exn _ _ _ := False
abbrev s_place : Stmt := top 26
abbrev nPlace : List Str := ["order", "kind", "covers", "highs", "lows", "low", "high"]
theorem scPlace : FnScope nPlace ["order", "kind"] (defScope s_place) := ⟨rfl, rfl, rfl, by decide +kernel, rfl, by decide +kernel, by decide +kernel⟩
theorem ok_place {f : Addr} {fd : FuncData} (F : FunS K "fold_place" s_place f fd) (b : Bi mg) (C : ∀ r ks, Md P w K mg base "Order" "covers" 2 (cCovers r ks)) (r : Str → Str → Bool) (ks : List Str) (z : Str) : FnOk P w K mg base (L2.CX P w) 3 f fd ["order", "kind"] (spP K (cPlace r ks z)) := by
  refine fp_ok F scPlace (fun ds ⟨h, _⟩ => by rw [h]; rfl) fun cdv A outer s e Ex ds ho ⟨hd, o, hz⟩ hr tk => ?_
  subst hd
  have nd := scPlace.nd
  have hcl : (covL r ks).length ≤ 100 := Nat.le_trans (List.length_filter_le _ _) o.rel
  refine bl_letO 2 (hz := .inl ho) (pn_eo (pn_meth0 (C r ks) hr (by omega) (pv_var 0) rfl ⟨rfl, o⟩ (fun _ h => h) (fun _ _ h => h.elim))) (bl_frz 2 rfl (.inl ho) ?_)
  refine bl_letLcA 3 (hz2 := .inl ho) (c := spairD) (u := uSP) (l := covL r ks) (f := fun p => [sD (subO r ks).d, sD (.str z), sD (.lst (spairsD (covL r ks))), none, none, sD (.str p.1), sD (.str p.2)]) (own := [("low", 5), ("high", 6)]) (ix := [5, 6]) (bind := bTwo (bName 5) (bName 6)) (fun p => decide (p.1 = z)) (fun p => .str p.2) uSP_p (blk nPlace (defScope s_place)) nd
    (wp_list (pv_var 2)) (fun s H C cl fp => gv_two rfl (gv_name 5 nd (hz := .inl ho)) (gv_name 6 nd (hz := .inl ho))) (bindOk_two (bindOk_name 5) (bindOk_name 6)) (by decide) (.inl ho) (by omega) (fun p _ => ⟨_, _, _, rfl, rfl, rfl⟩) (fun p hp s H C' cl fp => pts_if (px_cmp op_eq (pv_var 5) (pv_var 1) sc_eqS)) (fun p _ _ s H C cl fp => pv_var 6) ?_
  refine bl_frz 3 rfl (.inl ho) ?_
  have e1 : ((covL r ks).filter fun p => decide (p.1 = z)).map (fun p => D.str p.2) = (upsG r ks z).map .str := by
    rw [← covL_ups o.nd hz, List.map_map]
    rfl
  refine bl_at (Γ' := [sD (subO r ks).d, sD (.str z), sD (.lst (spairsD (covL r ks))), sD (dStrs (upsG r ks z)), none, none, none]) (by show [_, _, _, sD (.lst _), _, _, _] = _; rw [e1]; rfl) ?_
  refine bl_letLcA 4 (hz2 := .inl ho) (c := spairD) (u := uSP) (l := covL r ks) (f := fun p => [sD (subO r ks).d, sD (.str z), sD (.lst (spairsD (covL r ks))), sD (dStrs (upsG r ks z)), none, sD (.str p.1), sD (.str p.2)]) (own := [("low", 5), ("high", 6)]) (ix := [5, 6]) (bind := bTwo (bName 5) (bName 6)) (fun p => decide (p.2 = z)) (fun p => .str p.1) uSP_p (blk nPlace (defScope s_place)) nd
    (wp_list (pv_var 2)) (fun s H C cl fp => gv_two rfl (gv_name 5 nd (hz := .inl ho)) (gv_name 6 nd (hz := .inl ho))) (bindOk_two (bindOk_name 5) (bindOk_name 6)) (by decide) (.inl ho) (by omega) (fun p _ => ⟨_, _, _, rfl, rfl, rfl⟩) (fun p hp s H C' cl fp => pts_if (px_cmp op_eq (pv_var 6) (pv_var 1) sc_eqS)) (fun p _ _ s H C cl fp => pv_var 5) ?_
  refine bl_frz 4 rfl (.inl ho) ?_
  have e2 : ((covL r ks).filter fun p => decide (p.2 = z)).map (fun p => D.str p.1) = (dnsG r ks z).map .str := by
    rw [← covL_dns o.nd hz, List.map_map]
    rfl
  refine bl_at (Γ' := [sD (subO r ks).d, sD (.str z), sD (.lst (spairsD (covL r ks))), sD (dStrs (upsG r ks z)), sD (dStrs (dnsG r ks z)), none, none]) (by show [_, _, _, _, sD (.lst _), _, _] = _; rw [e2]) ?_
  have len1 : ∀ (l : List Str), decide (((l.map D.str).length : Int) = 1) = decide (l.length = 1) := fun l => by
    rw [List.length_map]
    exact decide_eq_decide.mpr (by omega)
  have at0 : ∀ {l : List Str}, l.length = 1 → (l.map D.str)[0]? = some (.str (l.getD 0 ⟨#[]⟩)) ∧ l[0]? = some (l.getD 0 ⟨#[]⟩) := fun {l} h => ⟨strs_at (by omega), getD_at (by omega)⟩
  refine bl_ifR (px_is (px_cmp op_eq (pv_lenL (pv_var 3) b.len) pv_int sc_eqI) (len1 _)) (fun h => ?_) fun h => ?_
  · have h' : (upsG r ks z).length = 1 := of_decide_eq_true h
    refine bl_retP (pv_s ix_list (pv_var 3) pv_int (sc_ixL (atI_nat (n := 0) (at0 h').1))) ?_
    show B.st _ = B.st _
    unfold placeG
    rw [if_pos h', (at0 h').2]
    rfl
  · have h' : ¬ (upsG r ks z).length = 1 := of_decide_eq_false h
    refine bl_retP (d := optS (placeG r ks z)) (pv_if (px_is (px_cmp op_eq (pv_lenL (pv_var 4) b.len) pv_int sc_eqI) (len1 _)) (fun h2 => ?_) fun h2 => ?_) rfl
    · have h2' : (dnsG r ks z).length = 1 := of_decide_eq_true h2
      refine pv_is (pv_s ix_list (pv_var 4) pv_int (sc_ixL (atI_nat (n := 0) (at0 h2').1))) ?_
      unfold placeG
      rw [if_neg h', if_pos h2', (at0 h2').2]
      rfl
    · have h2' : ¬ (dnsG r ks z).length = 1 := of_decide_eq_false h2
      refine pv_is pv_non ?_
      unfold placeG
      rw [if_neg h', if_neg h2']
      rfl
end
end Kf
end
section
set_option maxRecDepth 100000
set_option maxHeartbeats 1000000
/-! KgD: next_fold, folds_of: walked. -/
namespace Kf
open PySem L2
theorem filter_self {ls : List Str} (q : Str → Bool) : (ls.filter fun z => decide (z ∈ ls.filter q)) = ls.filter q := List.filter_congr fun z hz => by
  rw [Bool.eq_iff_iff, decide_eq_true_iff, List.mem_filter]
  exact ⟨fun h => h.2, fun h => ⟨hz, h⟩⟩
theorem find_at {α β : Type} {g : α → Option β} : ∀ {l : List α} {i : Nat} {a : α} {b : β}, l[i]? = some a → g a = some b → (∀ x ∈ l.take i, g x = none) → l.findSome? g = some b
  | [], i, a, b, h, _, _ => by cases h
  | c :: l, 0, a, b, h, hg, _ => by
    cases h
    rw [List.findSome?_cons, hg]
  | c :: l, i + 1, a, b, h, hg, hn => by
    rw [List.findSome?_cons, hn c (by rw [List.take_succ_cons]; exact List.mem_cons_self)]
    exact find_at (l := l) (i := i) h hg fun x hx => hn x (by rw [List.take_succ_cons]; exact List.mem_cons_of_mem _ hx)
theorem filter_ne_len {k : Str} : ∀ {L : List Str}, L.Nodup → k ∈ L → (L.filter fun z => !decide (z = k)).length + 1 = L.length
  | [], _, h => by cases h
  | a :: l, nd, h => by
    obtain ⟨na, nl⟩ := List.nodup_cons.mp nd
    by_cases q : a = k
    · subst q
      rw [List.filter_cons_of_neg (by simp)]
      have : (l.filter fun z => !decide (z = a)) = l := List.filter_eq_self.mpr fun z hz => by
        have : z ≠ a := fun e => na (by rw [← e]; exact hz)
        simpa using this
      rw [this]
      rfl
    · rw [List.filter_cons_of_pos (by simpa using q), List.length_cons, List.length_cons, filter_ne_len nl ((List.mem_cons.mp h).resolve_left fun z => q z.symm)]
section
variable {X : Cx}
theorem sc_notN {d : D} (hd : ∀ v d', d ≠ .ids v d' := by intro _ _ h; cases h) : Sc X.K (fun x y H Q => y = .non ∧ Q (.bl (!decide (x = .non))) H) d .non (.bl (!isNon d)) := fun S H v1 v2 Q s r1 r2 q => by
  cases r2
  refine ⟨rfl, ?_⟩
  have : decide (v1 = V.non) = isNon d := by
    cases r1 <;> first | exact absurd rfl (hd _ _) | simp [isNon]
  rw [this]
  exact q _ (.bl _)
end
def optP : Option (Str × Str) → D
  | none => .non
  | some f => spairD f
section
variable {P : Program} {w : World} {K : Fg} {mg : Str → Option Value} {base : Heap} {x qual : Str} {dvs : List V}
/-! ### next_fold -/
def cNext (r : Str → Str → Bool) (ks kept : List Str) : Fp where
  pre ds := ds = [(subO r ks).d, .tup (kept.map .str)] ∧ OrdG r ks
  post ds b := b = .st (optP (stepG r kept ks))
  exn _ _ _ := False
abbrev s_next : Stmt := top 27
abbrev nNext : List Str := ["order", "kept", "kind", "place"]
theorem scNext : FnScope nNext ["order", "kept"] (defScope s_next) := ⟨rfl, rfl, rfl, by decide +kernel, rfl, by decide +kernel, by decide +kernel⟩
theorem ok_next {f : Addr} {fd : FuncData} (F : FunS K "next_fold" s_next f fd) (oc : OrC K mg) (C : ∀ r ks z, Dx P w K mg base "fold_place" 3 (cPlace r ks z)) (r : Str → Str → Bool) (ks kept : List Str) : FnOk P w K mg base (L2.CX P w) 4 f fd ["order", "kept"] (spP K (cNext r ks kept)) := by
  refine fp_ok F scNext (fun ds ⟨h, _⟩ => by rw [h]; rfl) fun cdv A outer s e Ex ds ho ⟨hd, o⟩ hr tk => ?_
  subst hd
  have nd := scNext.nd
  refine bl_for (fun ds i Γ => ds = ks.map .str ∧ (∀ z ∈ ks.take i, (if z ∈ kept then none else (placeG r ks z).map fun p => (z, p)) = none) ∧ ∃ a c, Γ = [sD (subO r ks).d, sD (.tup (kept.map .str)), a, c]) (wv (wp_tup (pv_fld oc.cls oc.nk (pv_var 0) rfl))) (gv_name 2 nd (hz := .inl ho)) ?_ ?_ ?_ (passes_of rfl)
  · rintro ds Γ1 ⟨rfl, rfl⟩
    exact ⟨rfl, (fun z hz => by rw [List.take_zero] at hz; cases hz), none, none, rfl⟩
  · rintro ds i d Γ1 hdi ⟨rfl, hall, a, c, rfl⟩
    obtain ⟨z, hz, rfl⟩ := strs_at' hdi
    have hzm := List.mem_of_getElem? hz
    have more : (if z ∈ kept then none else (placeG r ks z).map fun p => (z, p)) = none → ∀ y ∈ ks.take (i + 1), (if y ∈ kept then none else (placeG r ks y).map fun p => (y, p)) = none := fun h y hy => by
      rw [take_snoc hz] at hy
      rcases List.mem_append.mp hy with q | q
      · exact hall y q
      · rw [List.mem_singleton.mp q]; exact h
    refine ⟨_, rfl, bl_ifP (fun Γ => (∀ y ∈ ks.take (i + 1), (if y ∈ kept then none else (placeG r ks y).map fun p => (y, p)) = none) ∧ ∃ a c, Γ = [sD (subO r ks).d, sD (.tup (kept.map .str)), a, c]) (px_ninS (ns := kept) (pv_var 2) (.inr (pv_var 1))) (fun h => ?_) (fun h => ?_) ?_⟩
    · have hno : z ∉ kept := by simpa using h
      refine bl_let 3 (hz := .inl ho) (pv_call (d := optS (placeG r ks z)) (C r ks z) hr (by omega) (pvs_cons (pv_var 0) (pvs_cons (pv_var 2) pvs_nil)) ⟨rfl, o, hzm⟩ (fun _ h => h) (fun _ _ h => h)) ?_
      refine bl_ifR (px_cmp op_notN (pv_var (d := optS (placeG r ks z)) 3) pv_non (sc_notN (by intro v d' q; cases q2 : placeG r ks z <;> rw [q2] at q <;> cases q))) (fun h2 => ?_) fun h2 => ?_
      · cases hp : placeG r ks z with
        | none => rw [hp] at h2; cases h2
        | some p =>
          refine bl_retP (d := .tup [.str z, .str p]) (pv_tup (pvs_cons (pv_var 2) (pvs_cons (pv_var 3) pvs_nil))) ?_
          have : stepG r kept ks = some (z, p) := find_at hz (by rw [if_neg hno, hp]; rfl) hall
          show B.st _ = B.st _
          rw [this]
          rfl
      · cases hp : placeG r ks z with
        | none => exact bl_nil ⟨more (by rw [if_neg hno, hp]; rfl), _, _, rfl⟩
        | some p => rw [hp] at h2; cases h2
    · have hin : z ∈ kept := by simpa using h
      exact bl_nil ⟨more (by rw [if_pos hin]), _, _, rfl⟩
    · rintro Γ' ⟨h1, a, c, h2⟩
      exact bl_nil ⟨rfl, h1, a, c, h2⟩
  · rintro ds Γ1 ⟨rfl, hall, a, c, rfl⟩
    rw [List.length_map, List.take_length] at hall
    refine bl_retP (d := .non) pv_non ?_
    have : stepG r kept ks = none := List.findSome?_eq_none_iff.mpr hall
    show B.st _ = B.st _
    rw [this]
    rfl
/-! ### folds_of -/
def cFolds (r : Str → Str → Bool) (ks kept : List Str) : Fp where
  pre ds := ds = [(subO r ks).d, .tup (kept.map .str)] ∧ OrdG r ks
  post ds b := (∀ z ∈ kept, z ∈ ks) ∧ b = .ow (.lst (spairsD (foldsG r kept ks.length ks).1))
  exn _ y fl := y = "NotListed" ∧ ∃ z ∈ kept, z ∉ ks ∧ fl = [(("name" : Str), D.str z)]
abbrev s_folds : Stmt := top 28
abbrev nFolds : List Str := ["order", "kept", "kind", "folds", "rest", "fold", "others"]
theorem scFolds : FnScope nFolds ((["order"] : List Str) ++ [("kept" : Str)]) (defScope s_folds) := ⟨rfl, rfl, rfl, by decide +kernel, rfl, by decide +kernel, by decide +kernel⟩
theorem spairsD_app {a b : List (Str × Str)} : spairsD (a ++ b) = spairsD a ++ spairsD b := List.map_append
theorem ok_folds {f : Addr} {fd : FuncData} (F : FunS K "folds_of" s_folds f fd) (hbd : ∀ (kV doc pm : Value) (an : Option Addr) (cdv ct : Value) (us rest : List Value), us.length = (["order"] : List Str).length → bindArgs (PySem.W.fnOf "kindsfill.folding" "folds_of" (defArgs s_folds) (defBody s_folds) (defScope s_folds) .none kV doc pm an cdv ct) ⟨us ++ rest, []⟩ = (newTuple rest >>= fun t => pure ((["order"] : List Str).zip us ++ [(("kept" : Str), t)])))
    (oc : OrC K mg) (N2 : ∀ ks z, Dx P w K mg base "check_listed" 3 (cListed ks z)) (C : ∀ r ks kept, Dx P w K mg base "next_fold" 4 (cNext r ks kept)) (R : ∀ r ks ns, MdS P w K mg base "Order" "restricted" 6 ((cRestr r ks ns).star 1)) (r : Str → Str → Bool) (ks kept : List Str) : FnR P w K mg base (L2.CX P w) 7 f (spP K ((cFolds r ks kept).star 1)) := by
  refine fs_ok F scFolds hbd fun cdv A outer s e Ex ds ho ⟨hd, o⟩ hr tk => ?_
  subst hd
  have nd := scFolds.nd
  refine bl_for (fun ds i Γ => ds = kept.map .str ∧ (∀ z ∈ kept.take i, z ∈ ks) ∧ ∃ a, Γ = [sD (subO r ks).d, sD (.tup (kept.map .str)), a, none, none, none, none]) (wv (wp_tup (pv_var 1))) (gv_name 2 nd (hz := .inl ho)) ?_ ?_ ?_ (passes_of rfl)
  · rintro ds Γ1 ⟨rfl, rfl⟩
    exact ⟨rfl, (fun z hz => by rw [List.take_zero] at hz; cases hz), none, rfl⟩
  · rintro ds i d Γ1 hdi ⟨rfl, hall, a, rfl⟩
    obtain ⟨z, hz, rfl⟩ := strs_at' hdi
    refine ⟨_, rfl, bl_do (Φ := fun d Γ => z ∈ ks ∧ Γ = [sD (subO r ks).d, sD (.tup (kept.map .str)), sD (.str z), none, none, none, none]) (ev_call (N2 ks z) hr (by omega) tk (pvs_av (pvs_cons (pv_fld oc.cls oc.nk (pv_var 0) rfl) (pvs_cons (pv_var 2) pvs_nil))) ?_) ?_⟩
    · rintro ds Γ1 ⟨rfl, rfl⟩
      refine ⟨.inl rfl, ?_, ?_⟩
      · rintro bb ⟨rfl, hzm⟩
        exact ⟨_, .inl rfl, hzm, rfl⟩
      · rintro y fl ⟨g1, g2, g3⟩
        exact ⟨g2, z, List.mem_of_getElem? hz, g1, g3⟩
    · rintro d Γ1 ⟨hzm, rfl⟩
      refine bl_nil ⟨rfl, fun y hy => ?_, _, rfl⟩
      rw [take_snoc hz] at hy
      rcases List.mem_append.mp hy with q | q
      · exact hall y q
      · rw [List.mem_singleton.mp q]; exact hzm
  · rintro ds Γ1 ⟨rfl, hall, a, rfl⟩
    rw [List.length_map, List.take_length] at hall
    refine bl_letO 3 (hz := .inl ho) (pn_eo (pn_lst pvs_nil)) (bl_let 4 (hz := .inl ho) (pv_var 0) (bl_let 5 (hz := .inl ho) (pv_call (d := optP (stepG r kept ks)) (C r ks kept) hr (by omega) (pvs_cons (pv_var 4) (pvs_cons (pv_var 1) pvs_nil)) ⟨rfl, o⟩ (fun _ h => h) (fun _ _ h => h)) ?_))
    refine bl_while (fun m Γ => ∃ (L : List Str) (acc : List (Str × Str)) (q : Option B), Γ = [sD (subO r ks).d, sD (.tup (kept.map .str)), a, sL (spairsD acc), sD (subO r L).d, sD (optP (stepG r kept L)), q] ∧ m = L.length ∧ OrdG r L ∧ acc ++ (foldsG r kept L.length L).1 = (foldsG r kept ks.length ks).1 ∧ acc.length + L.length = ks.length)
      ks.length ⟨ks, [], none, rfl, rfl, o, rfl, by simp⟩ ?_ (passes_of rfl)
    rintro m Γ1 ⟨L, acc, q, rfl, rfl, ol, hacc, hlen⟩
    refine ⟨_, px_tv (px_cmp op_notN (pv_var (d := optP (stepG r kept L)) 5) pv_non (sc_notN (by intro v d' z; cases q2 : stepG r kept L <;> rw [q2] at z <;> cases z))), ?_, ?_⟩
    · rintro Γ2 ⟨h, rfl⟩
      cases hs : stepG r kept L with
      | none => rw [hs] at h; cases h
      | some fo =>
        obtain ⟨k, p⟩ := fo
        obtain ⟨s1, s2, s3⟩ := step_spec hs
        obtain ⟨p1, p2⟩ := place_mem s3
        have h10 := ol.l10
        have k10 := o.l10
        refine bl_appP 3 rfl (by unfold spairsD; rw [List.length_map]; omega) (pv_var (d := .tup [.str k, .str p]) 5) ?_
        refine bl_at (Γ' := [sD (subO r ks).d, sD (.tup (kept.map .str)), a, sL (spairsD (acc ++ [(k, p)])), sD (subO r L).d, sD (.tup [.str k, .str p]), q]) (by rw [spairsD_app]; rfl) ?_
        refine bl_letLcA 6 (hz2 := .inl ho) (c := D.str) (u := uS) (l := L) (f := fun z => [sD (subO r ks).d, sD (.tup (kept.map .str)), sD (.str z), sL (spairsD (acc ++ [(k, p)])), sD (subO r L).d, sD (.tup [.str k, .str p]), q]) (own := [("kind", 2)]) (ix := [2]) (bind := bName 2) (fun z => !decide (z = k)) (fun z => .str z) uS_str (blk nFolds (defScope s_folds)) nd
          (wp_tup (pv_fld oc.cls oc.nk (pv_var 4) rfl)) (fun s H C cl fp => gv_name 2 nd (hz := .inl ho)) (bindOk_name 2) (by decide) (.inl ho) (by omega) (fun z _ => rfl) (fun z hz s H C' cl fp => pts_if (px_cmp op_ne (pv_var 2) (pv_s ix_tup (pv_var 5) pv_int (sc_ixT rfl)) sc_neS)) (fun z _ _ s H C' cl fp => pv_var 2) ?_
        refine bl_frz 6 rfl (.inl ho) ?_
        have hsubl : (L.filter fun z => !decide (z = k)).Sublist L := List.filter_sublist
        have hp : p ∈ L.filter fun z => !decide (z = k) := List.mem_filter.mpr ⟨p1, by simpa using p2⟩
        have hl1 : 1 ≤ (L.filter fun z => !decide (z = k)).length := List.length_pos_of_mem hp
        have hlt : (L.filter fun z => !decide (z = k)).length < L.length := List.length_filter_lt_length_iff_exists.mpr ⟨k, s1, by simp⟩
        have hnd : (L.filter fun z => !decide (z = k)).length + 1 = L.length := by
          exact filter_ne_len ol.nd s1
        generalize hM : (L.filter fun z => !decide (z = k)) = M at hsubl hp hl1 hlt hnd
        have hfold : foldsG r kept L.length L = ((k, p) :: (foldsG r kept M.length M).1, (foldsG r kept M.length M).2) := by
          rw [← hnd]
          rw [foldsG, hs]
          dsimp only
          rw [hM]
        have oM := ol.sub hsubl hl1
        refine bl_at (Γ' := [sD (subO r ks).d, sD (.tup (kept.map .str)), a, sL (spairsD (acc ++ [(k, p)])), sD (subO r L).d, sD (.tup [.str k, .str p]), sD (dStrs M)]) (by rw [← hM]; rfl) ?_
        refine bl_letO 4 (hz := .inl ho) (o := .obj "Order" (dOrd (subO r M).ks (subO r M).E)) (eo_methS (fs := dOrd (subO r L).ks (subO r L).E) (R r L M) hr (by omega) (U := fun _ _ _ => False) takes_none (pv_var 4) rfl (pv_var 6) (.inl rfl) ⟨by show 1 ≤ _ + 1; omega, ?_, rfl, ol, fun z hz => hsubl.subset hz, hl1⟩ (fun b hb => ⟨_, hb, ?_, rfl⟩) (fun _ _ h => h.elim)) (bl_frz 4 rfl (.inl ho) ?_)
        · show (M.map D.str).length + 1 ≤ _
          rw [List.length_map]
          omega
        · rw [← hM, filter_self]
        · refine bl_let 5 (hz := .inl ho) (pv_call (d := optP (stepG r kept M)) (C r M kept) hr (by omega) (pvs_cons (pv_var 4) (pvs_cons (pv_var 1) pvs_nil)) ⟨rfl, oM⟩ (fun _ h => h) (fun _ _ h => h)) (bl_nil ⟨M.length, hlt, M, acc ++ [(k, p)], _, rfl, rfl, oM, ?_, ?_⟩)
          · rw [← hacc, hfold, List.append_assoc]
            rfl
          · rw [List.length_append]
            show _ + 1 + _ = _
            omega
    · rintro Γ2 ⟨h, rfl⟩
      cases hs : stepG r kept L with
      | some fo => rw [hs] at h; cases h
      | none =>
        refine bl_retV 3 rfl (hz := .inl ho) ⟨hall, ?_⟩
        rw [folds_none hs, List.append_nil] at hacc
        rw [← hacc]
end
end Kf
end
section
set_option maxRecDepth 100000
set_option maxHeartbeats 1000000
/-! KgE: trimming, >>: walked. -/
namespace Kf
open PySem L2
section
variable {X : Cx} {e : Ent} {Γ : Gam} {k j : Nat} {C m : Str} {p pos apos : Pos} {a o : Expr} {fs : List (Str × D)}
theorem pn_methS {c : Fp} {l : List D} {d : D} {o1 : O} (N : MdS X.prog X.w X.K X.mg X.base C m k c) (hr : Room j X.A) (hj : k ≤ j) (hx : PV X e o Γ (.obj C fs)) (hf : fs.lookup m = none) (ha : PV X e a Γ d) (hd : d = .lst l ∨ d = .tup l) (hp : c.pre (.obj C fs :: l))
    (hq : ∀ b, c.post (.obj C fs :: l) b → b = .ow o1) (hn : ∀ y fl, ¬ c.exn (.obj C fs :: l) y fl) (hbase : attributeBase o m X.env (eval o X.env) = eval o X.env := by rfl)
    (hst : starEach [.Starred a p] X.env = [(true, eval a X.env)] := by rfl) : PN X e (.Call (.Attribute o m apos) [.Starred a p] [] pos) Γ o1 := by
  obtain ⟨g, hm, F⟩ := N.fn
  refine PE.imp (pe_methS1 (W := wX X.K e fun _ _ _ => False) hx N.cls hm F (hr.mono hj) takes_none ha hbase hst) fun σ H Q ⟨S, w, q⟩ => ⟨S, w, fun S1 H1 v s1 w1 r1 => ?_⟩
  cases r1 with
  | @obj oa odx _ ofs _ h1 h2 =>
    refine ⟨_, _, _, rfl, w1.nx.sh _ _ h1, h2.none hf, fun qa hqa => ⟨S1, w1.own hqa, fun S2 H2 vs s2 w2 r2 => ?_⟩⟩
    have hq2 : H2 qa = some (.met g oa) := s2.hh _ _ upd_same
    have st : Pur S H S2 H2 := s1.trans ((pur_own hqa).trans s2)
    have fin : ∀ b ys, (SqT X.K H2 b ys ∨ SqL X.K H2 b ys) → vs = .ref b → RpL X.K S2 ys l → ∃ b vs', vs = .ref b ∧ (SqT X.K H2 b vs' ∨ SqL X.K H2 b vs') ∧ H2 qa = some (.met g oa) ∧ spP X.K c (.ref oa :: vs') H2 Q fun c d H3 => wX X.K e (fun _ _ _ => False) c d σ H3 := fun b ys hs ev ry => by
      refine ⟨b, ys, ev, hs, hq2, S2, .obj C fs :: l, w2.nx.sh, .cons (.obj (s2.ss _ _ h1) (h2.mono s2.ss)) ry, hp, fun S3 H3 v3 b3 hb3 n3 r3 => ?_, fun S3 H3 y fl cls dd hy n3 ek => (hn y fl hy).elim⟩
      obtain ⟨w3, s3⟩ := w2.after n3
      rw [hq b3 hb3] at r3
      obtain ⟨p3, rfl, sp3, ow3, z0⟩ := r3
      exact q S3 H3 p3 (st.trans s3) w3 sp3 ow3 (st.hh.free z0)
    rcases hd with rfl | rfl
    · cases r2 with
      | lst g1 g2 => exact fin _ _ (.inr (rdq (same_rd w2.nx.sh g1))) rfl g2
    · cases r2 with
      | tup g1 g2 => exact fin _ _ (.inl (same_sqT w2.nx.sh g1)) rfl g2
end
theorem sub_filter {L ks : List Str} : L.Sublist ks → ks.Nodup → (ks.filter fun z => decide (z ∈ L)) = L := by
  intro h
  induction h with
  | slnil => intro _; rfl
  | @cons l1 l2 a h ih =>
    intro nd
    obtain ⟨na, nl⟩ := List.nodup_cons.mp nd
    rw [List.filter_cons_of_neg (by simpa using fun q => na (h.subset q))]
    exact ih nl
  | @cons_cons l1 l2 a h ih =>
    intro nd
    obtain ⟨na, nl⟩ := List.nodup_cons.mp nd
    rw [List.filter_cons_of_pos (by simp)]
    congr 1
    rw [← ih nl]
    refine List.filter_congr fun z hz => ?_
    have : z ≠ a := fun q => na (by rw [← q]; exact hz)
    rw [ih nl]
    exact decide_eq_decide.mpr ⟨fun q => (List.mem_cons.mp q).resolve_left this, fun q => List.mem_cons_of_mem _ q⟩
theorem imgG_app {α : Type} [DecidableEq α] {fs : List (α × α)} {f : α × α} {k : α} : imgG (fs ++ [f]) k = if f.1 = imgG fs k then f.2 else imgG fs k := by
  unfold imgG
  rw [List.foldl_append]
  rfl
theorem putD_rows {ks : List Str} {F : Str → D} {z : Str} {d : D} (h : z ∈ ks) : putD (rowsF ks F) (.inr z) d = rowsF ks fun x => if x = z then d else F x := by
  unfold putD
  rw [if_pos]
  · unfold rowsF
    rw [List.map_map]
    refine List.map_congr_left fun x hx => ?_
    show (if (Sum.inr x : Key) = Sum.inr z then ((Sum.inr x : Key), d) else (Sum.inr x, F x)) = (Sum.inr x, if x = z then d else F x)
    by_cases q : x = z
    · subst q
      rw [if_pos rfl, if_pos rfl]
    · rw [if_neg (fun e => q (Sum.inr.inj e)), if_neg q]
  · refine List.any_eq_true.mpr ⟨(.inr z, F z), List.mem_map.mpr ⟨z, h, rfl⟩, by simp⟩
theorem rowsF_congr {ks : List Str} {F G : Str → D} (h : ∀ x ∈ ks, F x = G x) : rowsF ks F = rowsF ks G := List.map_congr_left fun x hx => by rw [h x hx]
theorem imgOf_map {ks : List Str} {g : Str → Str} {z : Str} (h : z ∈ ks) : imgOf ks (ks.map g) z = g z := by
  unfold imgOf
  have := (idx_first h).1
  rw [List.getD_eq_getElem?_getD, List.getElem?_map, this]
  rfl
/-! the trimming -/
def leftG (r : Str → Str → Bool) (kept ks : List Str) : List Str := (foldsG r kept ks.length ks).2
def imgsG (r : Str → Str → Bool) (kept ks : List Str) : List Str := ks.map (imgG (foldsG r kept ks.length ks).1)
theorem left_sub {r : Str → Str → Bool} {kept ks : List Str} : (leftG r kept ks).Sublist ks := folds_sub _ _
theorem imgs_in {r : Str → Str → Bool} {kept ks : List Str} (o : OrdG r ks) : ∀ z, z ∈ imgsG r kept ks ↔ z ∈ leftG r kept ks := fun z => by
  obtain ⟨g1, g2, g3, _⟩ := folds_spec (kept := kept) ks.length ks o.po
  constructor
  · intro h
    obtain ⟨x, hx, rfl⟩ := List.mem_map.mp h
    exact g2 x hx
  · intro h
    exact List.mem_map.mpr ⟨z, g1 z h, g3 z h⟩
theorem left_ord {r : Str → Str → Bool} {kept ks : List Str} (o : OrdG r ks) : OrdG r (leftG r kept ks) := o.sub left_sub (folds_ne _ _ o.po o.l1)
theorem imgs_filter {r : Str → Str → Bool} {kept ks : List Str} (o : OrdG r ks) : (ks.filter fun z => decide (z ∈ imgsG r kept ks)) = leftG r kept ks := by
  rw [← sub_filter (L := leftG r kept ks) left_sub o.nd]
  refine List.filter_congr fun z hz => decide_eq_decide.mpr (imgs_in o z)
theorem map_made {r : Str → Str → Bool} {ks ls : List Str} {g : Str → Str} (nd : ks.Nodup) (h1 : ∀ x ∈ ks, g x ∈ ls) (h2 : ∀ x y, x ∈ ks → y ∈ ks → r x y = true → r (g x) (g y) = true) : MOutP (subO r ks).ks (subO r ks).R (subO r ls).ks (subO r ls).R (ks.map g) .made := by
  have hin : ∀ z ∈ ks.map g, z ∈ ls := fun z hz => by
    obtain ⟨x, hx, rfl⟩ := List.mem_map.mp hz
    exact h1 x hx
  refine .made hin (List.length_map _) fun x y hx hy => ?_
  have hx' : x < ks.length := hx
  have hy' : y < ks.length := hy
  rw [badS (s := subO r ks) (t := subO r ls) hin (by rw [List.length_map]; exact hx) (by rw [List.length_map]; exact hy)]
  have e : ∀ i, i < ks.length → (ks.map g).getD i ⟨#[]⟩ = g (ks.getD i ⟨#[]⟩) := fun i hi => by
    rw [List.getD_eq_getElem?_getD, List.getElem?_map, List.getElem?_eq_getElem hi, List.getD_eq_getElem?_getD, List.getElem?_eq_getElem hi]
    rfl
  have hmx : ks.getD x ⟨#[]⟩ ∈ ks := getD_mem hx'
  have hmy : ks.getD y ⟨#[]⟩ ∈ ks := getD_mem hy'
  rw [e x hx', e y hy']
  show (decide (ks.getD y ⟨#[]⟩ ∈ ks.filter (r (ks.getD x ⟨#[]⟩))) && !decide (g (ks.getD y ⟨#[]⟩) ∈ ls.filter (r (g (ks.getD x ⟨#[]⟩))))) = false
  by_cases q : r (ks.getD x ⟨#[]⟩) (ks.getD y ⟨#[]⟩) = true
  · rw [decide_eq_true (p := g (ks.getD y ⟨#[]⟩) ∈ _) (List.mem_filter.mpr ⟨h1 _ hmy, h2 _ _ hmx hmy q⟩)]
    simp
  · rw [decide_eq_false (p := ks.getD y ⟨#[]⟩ ∈ _) (fun z => q (List.mem_filter.mp z).2)]
    rfl
section
variable {P : Program} {w : World} {K : Fg} {mg : Str → Option Value} {base : Heap} {x qual : Str} {dvs : List V}
def cTrim (r : Str → Str → Bool) (ks kept : List Str) : Fp where
  pre ds := ds = [(subO r ks).d, .tup (kept.map .str)] ∧ OrdG r ks
  post ds b := (∀ z ∈ kept, z ∈ ks) ∧ b = .ow (.obj "Mapping" (dMap (subO r ks) (subO r (leftG r kept ks)) (imgsG r kept ks)))
  exn _ y fl := y = "NotListed" ∧ ∃ z ∈ kept, z ∉ ks ∧ fl = [(("name" : Str), D.str z)]
abbrev s_trim : Stmt := top 29
abbrev nTrim : List Str := ["order", "kept", "places", "kind", "folded", "place", "images"]
theorem scTrim : FnScope nTrim ((["order"] : List Str) ++ [("kept" : Str)]) (defScope s_trim) := ⟨rfl, rfl, rfl, by decide +kernel, rfl, by decide +kernel, by decide +kernel⟩
theorem ok_trim {f fM : Addr} {fd : FuncData} (F : FunS K "trimming" s_trim f fd) (hbd : ∀ (kV doc pm : Value) (an : Option Addr) (cdv ct : Value) (us rest : List Value), us.length = (["order"] : List Str).length → bindArgs (PySem.W.fnOf "kindsfill.folding" "trimming" (defArgs s_trim) (defBody s_trim) (defScope s_trim) .none kV doc pm an cdv ct) ⟨us ++ rest, []⟩ = (newTuple rest >>= fun t => pure ((["order"] : List Str).zip us ++ [(("kept" : Str), t)])))
    (oc : OrC K mg) (mc : MpC K mg) (M : Mk K (He.ga K "Mapping") fM) (FM : ∀ s t os ot im k, FnR P w K mg base (L2.CX P w) 5 fM (spO K (cMapI s t os ot im k))) (C : ∀ r ks kept, Dx P w K mg base "folds_of" 7 ((cFolds r ks kept).star 1)) (R : ∀ r ks ns, MdS P w K mg base "Order" "restricted" 6 ((cRestr r ks ns).star 1)) (r : Str → Str → Bool) (ks kept : List Str) (hk : kept.length ≤ 9000) : FnR P w K mg base (L2.CX P w) 8 f (spP K ((cTrim r ks kept).star 1)) := by
  refine fs_ok F scTrim hbd fun cdv A outer s e Ex ds ho ⟨hd, o⟩ hr tk => ?_
  subst hd
  have nd := scTrim.nd
  have h10 := o.l10
  refine bl_letO 2 (hz := .inl ho) (pn_eo pn_dK) ?_
  refine bl_for (fun ds i Γ => ds = ks.map .str ∧ ∃ a, Γ = [sD (subO r ks).d, sD (.tup (kept.map .str)), sO (.dK (rowsF (ks.take i) fun x => .str x)), a, none, none, none]) (wv (wp_tup (pv_fld oc.cls oc.nk (pv_var 0) rfl))) (gv_name 3 nd (hz := .inl ho)) ?_ ?_ ?_ (passes_of rfl)
  · rintro ds Γ1 ⟨rfl, rfl⟩
    exact ⟨rfl, none, rfl⟩
  · rintro ds i d Γ1 hdi ⟨rfl, a, rfl⟩
    obtain ⟨z, hz, rfl⟩ := strs_at' hdi
    refine ⟨_, rfl, bl_dput (Φ := Is (.str z) [sD (subO r ks).d, sD (.tup (kept.map .str)), sO (.dK (rowsF (ks.take i) fun x => .str x)), sD (.str z), none, none, none]) 2 hr (pv_ev (pv_var 3)) ?_⟩
    rintro d Γ1 ⟨rfl, rfl⟩
    refine ⟨_, z, rfl, pv_var 3, keyF_new o.nd hz, by rw [rowsF_len, List.length_take]; omega, bl_nil ⟨rfl, sD (.str z), ?_⟩⟩
    rw [take_snoc hz, rowsF_app]
    rfl
  · rintro ds Γ1 ⟨rfl, a, rfl⟩
    rw [List.length_map, List.take_length]
    generalize hfs : (foldsG r kept ks.length ks).1 = fs
    refine bl_for (fun ds i Γ => (∀ z ∈ kept, z ∈ ks) ∧ ds = spairsD fs ∧ ∃ a b c, Γ = [sD (subO r ks).d, sD (.tup (kept.map .str)), sO (.dK (rowsF ks fun x => .str (imgG (fs.take i) x))), a, b, c, none]) (wv_listE (Ψ := fun ds Γ => (∀ z ∈ kept, z ∈ ks) ∧ ds = spairsD fs ∧ Γ = [sD (subO r ks).d, sD (.tup (kept.map .str)), sO (.dK (rowsF ks fun x => .str x)), a, none, none, none]) (eo_ev (Ψ := fun d Γ => ∃ ds, d = .lst ds ∧ (∀ z ∈ kept, z ∈ ks) ∧ ds = spairsD fs ∧ Γ = [sD (subO r ks).d, sD (.tup (kept.map .str)), sO (.dK (rowsF ks fun x => .str x)), a, none, none, none]) (eo_callS (Φ := fun o Γ => (∀ z ∈ kept, z ∈ ks) ∧ o = .lst (spairsD fs) ∧ Γ = [sD (subO r ks).d, sD (.tup (kept.map .str)), sO (.dK (rowsF ks fun x => .str x)), a, none, none, none]) (C r ks kept) hr (by omega) tk (pvs_cons (pv_var 0) (pvs_star (pv_var 1) (.inr rfl) pvs_nil)) ⟨?_, ?_, ?_⟩ ?_ ?_) ?_) fun d Γ1 h => h) (gv_two rfl (gv_name 4 nd (hz := .inl ho)) (gv_name 5 nd (hz := .inl ho))) ?_ ?_ ?_ (passes_of rfl)
    · show 1 ≤ _ + 1
      omega
    · show ((kept.map D.str) ++ []).length + 1 ≤ _
      rw [List.append_nil, List.length_map]
      omega
    · exact ⟨by show [_, D.tup (_ ++ [])] = _; rw [List.append_nil], o⟩
    · rintro b ⟨g1, g2⟩
      exact ⟨_, g2, g1, by rw [hfs], rfl⟩
    · rintro y fl ⟨g1, z, g2, g3, g4⟩
      exact ⟨g1, z, g2, g3, g4⟩
    · rintro o' Γ1 ⟨g1, rfl, g3⟩
      exact ⟨_, rfl, g1, rfl, g3⟩
    · rintro ds Γ1 ⟨g1, rfl, rfl⟩
      exact ⟨g1, rfl, a, none, none, rfl⟩
    · rintro ds i d Γ1 hdi ⟨g1, rfl, a, b, c, rfl⟩
      obtain ⟨f, hf, rfl⟩ : ∃ f, fs[i]? = some f ∧ d = spairD f := by
        unfold spairsD at hdi
        rw [List.getElem?_map] at hdi
        obtain ⟨f, h1, h2⟩ := Option.map_eq_some_iff.mp hdi
        exact ⟨f, h1, h2.symm⟩
      have tk1 : fs.take (i + 1) = fs.take i ++ [f] := by rw [List.take_succ, hf]; rfl
      refine ⟨_, ⟨_, _, _, rfl, rfl, rfl⟩, bl_for (fun ds j Γ => ds = ks.map .str ∧ ∃ a, Γ = [sD (subO r ks).d, sD (.tup (kept.map .str)), sO (.dK (rowsF ks fun x => .str (if x ∈ ks.take j then imgG (fs.take (i + 1)) x else imgG (fs.take i) x))), a, sD (.str f.1), sD (.str f.2), none]) (wv (wp_tup (pv_fld oc.cls oc.nk (pv_var 0) rfl))) (gv_name 3 nd (hz := .inl ho)) ?_ ?_ ?_ (passes_of rfl)⟩
      · rintro ds Γ1 ⟨rfl, rfl⟩
        refine ⟨rfl, a, ?_⟩
        rw [List.take_zero]
        rfl
      · rintro ds j d Γ1 hdj ⟨rfl, a, rfl⟩
        obtain ⟨z, hz, rfl⟩ := strs_at' hdj
        have hzm := List.mem_of_getElem? hz
        have hzn : z ∉ ks.take j := fun q => by
          obtain ⟨i', hi'⟩ := List.getElem?_of_mem q
          have hlt := (List.getElem?_eq_some_iff.mp hi').1
          rw [List.length_take] at hlt
          rw [List.getElem?_take_of_lt (by omega)] at hi'
          have := (List.getElem?_inj (by have := (List.getElem?_eq_some_iff.mp hi').1; exact this) o.nd).mp (hi'.trans hz.symm)
          omega
        have new : ∀ x ∈ ks, (if x ∈ ks.take (j + 1) then imgG (fs.take (i + 1)) x else imgG (fs.take i) x) = if x = z then imgG (fs.take (i + 1)) z else if x ∈ ks.take j then imgG (fs.take (i + 1)) x else imgG (fs.take i) x := fun x hx => by
          rw [take_snoc hz]
          by_cases q : x = z
          · subst q
            rw [if_pos rfl, if_pos (List.mem_append_right _ (List.mem_singleton.mpr rfl))]
          · rw [if_neg q]
            by_cases q2 : x ∈ ks.take j
            · rw [if_pos q2, if_pos (List.mem_append_left _ q2)]
            · rw [if_neg q2, if_neg (fun q3 => (List.mem_append.mp q3).elim q2 fun q4 => q (List.mem_singleton.mp q4))]
        refine ⟨_, rfl, bl_ifP (q := decide (imgG (fs.take i) z = f.1)) (fun Γ => ∃ a, Γ = [sD (subO r ks).d, sD (.tup (kept.map .str)), sO (.dK (rowsF ks fun x => .str (if x ∈ ks.take (j + 1) then imgG (fs.take (i + 1)) x else imgG (fs.take i) x))), a, sD (.str f.1), sD (.str f.2), none]) (px_snap fun _ => px_cmp op_eq (pv_is (pv_dget hr (pv_var 2) (pv_var 3) (rowsF_val hzm)) (by rw [if_neg hzn])) (pv_var 4) sc_eqS) (fun h => ?_) (fun h => ?_) ?_⟩
        · have h' : imgG (fs.take i) z = f.1 := of_decide_eq_true h
          refine bl_dputU (Φ := Is (.str f.2) [sD (subO r ks).d, sD (.tup (kept.map .str)), sO (.dK (rowsF ks fun x => .str (if x ∈ ks.take j then imgG (fs.take (i + 1)) x else imgG (fs.take i) x))), sD (.str z), sD (.str f.1), sD (.str f.2), none]) 2 hr (pv_ev (pv_var 5)) ?_
          rintro d Γ1 ⟨rfl, rfl⟩
          refine ⟨_, z, rfl, pv_var 3, by rw [rowsF_len]; omega, bl_nil ⟨sD (.str z), ?_⟩⟩
          rw [putD_rows hzm]
          show [_, _, sO (.dK _), _, _, _, _] = _
          rw [rowsF_congr (G := fun x => .str (if x ∈ ks.take (j + 1) then imgG (fs.take (i + 1)) x else imgG (fs.take i) x)) fun x hx => by
            rw [new x hx]
            by_cases q : x = z
            · rw [if_pos q, if_pos q, tk1, imgG_app, h', if_pos rfl]
            · rw [if_neg q, if_neg q]]
        · have h' : imgG (fs.take i) z ≠ f.1 := of_decide_eq_false h
          refine bl_nil ⟨sD (.str z), ?_⟩
          rw [rowsF_congr (G := fun x => .str (if x ∈ ks.take (j + 1) then imgG (fs.take (i + 1)) x else imgG (fs.take i) x)) fun x hx => by
            rw [new x hx]
            by_cases q : x = z
            · subst q
              rw [if_pos rfl, if_neg hzn, tk1, imgG_app, if_neg fun q => h' q.symm]
            · rw [if_neg q]]
          rfl
        · rintro Γ' ⟨a, h⟩
          exact bl_nil ⟨rfl, a, h⟩
      · rintro ds Γ1 ⟨rfl, a, rfl⟩
        rw [List.length_map, List.take_length]
        refine bl_nil ⟨g1, rfl, a, sD (.str f.1), sD (.str f.2), ?_⟩
        rw [rowsF_congr (G := fun x => .str (imgG (fs.take (i + 1)) x)) fun x hx => by rw [if_pos hx]]
    · rintro ds Γ1 ⟨g1, rfl, a, b, c, rfl⟩
      have lf : (spairsD fs).length = fs.length := List.length_map _
      rw [lf, List.take_length]
      refine bl_frz 2 rfl (.inl ho) ?_
      refine bl_letLcA 6 (hz2 := .inl ho) (c := D.str) (u := uS) (l := ks) (f := fun z => [sD (subO r ks).d, sD (.tup (kept.map .str)), sD (.dK (rowsF ks fun x => .str (imgG fs x))), sD (.str z), b, c, none]) (own := [("kind", 3)]) (ix := [3]) (bind := bName 3) (fun _ => true) (fun z => .str (imgG fs z)) uS_str (blk nTrim (defScope s_trim)) nd
        (wp_tup (pv_fld oc.cls oc.nk (pv_var 0) rfl)) (fun s H C cl fp => gv_name 3 nd (hz := .inl ho)) (bindOk_name 3) (by decide) (.inl ho) (by omega) (fun z _ => rfl) (fun z hz s H C' cl fp => pts_none) (fun z hz _ s H C' cl fp => pv_dget hr (pv_var 2) (pv_var 3) (rowsF_val (F := fun x => .str (imgG fs x)) hz)) ?_
      refine bl_frz 6 rfl (.inl ho) ?_
      have him : imgsG r kept ks = ks.map (imgG fs) := by unfold imgsG; rw [hfs]
      refine bl_at (Γ' := [sD (subO r ks).d, sD (.tup (kept.map .str)), sD (.dK (rowsF ks fun x => .str (imgG fs x))), a, b, c, sD (dStrs (imgsG r kept ks))]) (by rw [him, filter_true]; show _ = [_, _, _, _, _, _, sD (.lst ((ks.map (imgG fs)).map D.str))]; rw [List.map_map]; rfl) ?_
      have hne : 1 ≤ (imgsG r kept ks).length := by unfold imgsG; rw [List.length_map]; exact o.l1
      have hin : ∀ z ∈ imgsG r kept ks, z ∈ ks := fun z hz => left_sub.subset ((imgs_in o z).mp hz)
      refine bl_retO (eo_makeI (o := .obj "Mapping" (dMap (subO r ks) (subO r (leftG r kept ks)) (imgsG r kept ks))) M (FM (subO r ks) (subO r (leftG r kept ks)) none none (imgsG r kept ks) true) mc.gl hr (by omega) (pvs_cons (pv_var 0) (pvs_cons (pn_pv (pn_methS (o1 := .obj "Order" (dOrd (subO r (leftG r kept ks)).ks (subO r (leftG r kept ks)).E)) (R r ks (imgsG r kept ks)) hr (by omega) (pv_var 0) rfl (pv_var 6) (.inl rfl) ⟨by show 1 ≤ _ + 1; omega, ?_, rfl, o, hin, hne⟩ (fun b hb => ?_) (fun _ _ h => h.elim))) (pvs_cons (pv_var 6) pvs_nil))) ⟨rfl, rfl, o.nd, by show ks.length ≤ 1000; omega⟩ (fun b o' ⟨q1, q2, _⟩ => ⟨q1, q2⟩) (fun y fl o' ⟨m, q1, q2⟩ => ?_)) ?_
      · show ((imgsG r kept ks).map D.str).length + 1 ≤ _
        rw [List.length_map]
        unfold imgsG
        rw [List.length_map]
        omega
      · have hb' : b = .ow (.obj "Order" (dOrd (subO r (ks.filter fun z => decide (z ∈ imgsG r kept ks))).ks (subO r (ks.filter fun z => decide (z ∈ imgsG r kept ks))).E)) := hb
        rw [imgs_filter o] at hb'
        exact hb'
      · obtain ⟨f1, f2, f3, f4, f5⟩ := folds_spec (kept := kept) ks.length ks o.po
        have mm := map_made (r := r) (ks := ks) (ls := leftG r kept ks) (g := imgG (foldsG r kept ks.length ks).1) o.nd f2 f4
        have := q1.det mm
        subst this
        exact q2
      · rintro o' Γ1 ⟨rfl, rfl⟩
        exact ⟨g1, rfl⟩
/-! ### >> -/
def cThen (s t t2 : Ods) (im im2 : List Str) : Fp where
  pre ds := ds = [.obj "Mapping" (dMap s t im), .obj "Mapping" (dMap t t2 im2)] ∧ OdOk t ∧ s.ks.Nodup ∧ s.ks.length ≤ 1000 ∧ im.length ≤ 1000 ∧ (∀ z ∈ im, z ∈ t.ks) ∧ eqO t t = true ∧ MOutP s.ks s.R t2.ks t2.R (im.map (imgOf t.ks im2)) .made
  post ds b := b = .ow (.obj "Mapping" (dMap s t2 (im.map (imgOf t.ks im2))))
  exn _ _ _ := False
abbrev s_then : Stmt := mem 24 7
abbrev nThen : List Str := ["self", "other", "image"]
theorem scThen : FnScope nThen ["self", "other"] (defScope s_then) := ⟨rfl, rfl, rfl, by decide +kernel, rfl, by decide +kernel, by decide +kernel⟩
theorem ok_then {f fM : Addr} {fd : FuncData} (F : FunM K x qual dvs s_then f fd) (b : Bi mg) (mc : MpC K mg) (M : Mk K (He.ga K "Mapping") fM) (FM : ∀ s t os ot im k, FnR P w K mg base (L2.CX P w) 5 fM (spO K (cMapI s t os ot im k))) (Q : ∀ s t, Dx P w K mg base "check_equal" 5 (cEqual s t)) (so to t2 : Ods) (im im2 : List Str) : FnOk P w K mg base (L2.CX P w) 7 f fd ["self", "other"] (spP K (cThen so to t2 im im2)) := by
  refine fp_ok F scThen (fun ds ⟨h, _⟩ => by rw [h]; rfl) fun cdv A outer s e Ex ds ho ⟨hd, ot, hnd, hl, hli, hin, heq, hm⟩ hr tk => ?_
  have nd := scThen.nd
  subst hd
  refine bl_ifR (px_not (px_val (pv_isO mc.ins (pv_var 1) mc.gl b.isinstance))) (fun h => by cases h) fun _ => ?_
  refine bl_do (pv_ev (pv_call (d := .non) (Q to to) hr (by omega) (pvs_cons (pv_fld mc.cls mc.nt (pv_var 0) rfl) (pvs_cons (pv_fld mc.cls mc.ns (pv_var 1) rfl) pvs_nil)) ⟨rfl, ot, ot⟩ (fun _ h => h.1) (fun _ _ h => by cases heq.symm.trans h.1))) ?_
  · rintro d Γ1 ⟨rfl, rfl⟩
    refine bl_retO (eo_makeI (o := .obj "Mapping" (dMap so t2 (im.map (imgOf to.ks im2)))) M (FM so t2 none none (im.map (imgOf to.ks im2)) true) mc.gl hr (by omega) (pvs_cons (pv_fld mc.cls mc.ns (pv_var 0) rfl) (pvs_cons (pv_fld mc.cls mc.nt (pv_var 1) rfl) (pvs_cons (pn_pv (pn_lcA (c := D.str) (u := uS) (l := im) (f := fun z => [sD (.obj "Mapping" (dMap so to im)), sD (.obj "Mapping" (dMap to t2 im2)), sD (.str z)]) (own := [("image", 2)]) (ix := [2]) (bind := bName 2) (fun _ => true) (fun z => .str (imgOf to.ks im2 z)) uS_str (blk nThen (defScope s_then)) nd
      (wp_tup (pv_fld mc.cls mc.ni (pv_var 0) rfl)) (fun s H C cl fp => gv_name 2 nd (hz := .inl ho)) (bindOk_name 2) (by decide) (.inl ho) (by omega) (fun z _ => rfl) (fun z hz s H C' cl fp => pts_none) (fun z hz _ s H C' cl fp => pv_dget hr (pv_fld mc.cls mc.nb (pv_var 1) rfl) (pv_var 2) (rowsF_val (F := fun x => .str (imgOf to.ks im2 x)) (hin z hz)))) (by rw [filter_true]; show D.lst _ = D.lst ((im.map _).map D.str); rw [List.map_map]; rfl)) pvs_nil))) ⟨rfl, rfl, hnd, hl⟩ (fun b o' ⟨q1, q2, _⟩ => ⟨q1, q2⟩) (fun y fl o' ⟨m, q1, q2⟩ => ?_)) ?_
    · have := q1.det hm
      subst this
      exact q2
    · rintro o' Γ1 ⟨rfl, rfl⟩
      rfl
end
end Kf
end
section
set_option maxRecDepth 100000
set_option maxHeartbeats 1000000
/-! KhA: the law's own places and folds: walked. -/
namespace Kf
open PySem L2
theorem neI {a b : Nat} : (!decide ((a : Int) = (b : Int))) = !decide (a = b) := by
  congr 1
  exact decide_eq_decide.mpr (by omega)
section
variable {X : Cx} {e : Ent} {Γ : Gam} {a b : Expr} {pos : Pos}
theorem px_ninN {z : Nat} {ns : List Nat} (ha : PV X e a Γ (.int (z : Int))) (hb : PV X e b Γ (.lst (natsD ns))) (hm : behindInMarks .NotIn b = false := by first | exact nomark _ | rfl) : PX X e (.Compare a [.NotIn] [b] pos) Γ (!decide (z ∈ ns)) := by
  have e1 : natsD ns = (ns.map fun n : Nat => (n : Int)).map D.int := by
    unfold natsD
    rw [List.map_map]
    rfl
  have e2 : decide ((z : Int) ∈ ns.map fun n : Nat => (n : Int)) = decide (z ∈ ns) := by
    refine decide_eq_decide.mpr ⟨fun h => ?_, fun h => List.mem_map.mpr ⟨z, h, rfl⟩⟩
    obtain ⟨y, h1, h2⟩ := List.mem_map.mp h
    have : y = z := by omega
    rwa [this] at h1
  rw [e1] at hb
  rw [← e2]
  exact px_cmp op_notIn_seq ha hb (sc_in (.inl rfl) rfl (flat_ints _) (by rw [inQ_ints]; rfl)) hm
theorem pv_neg {x : Expr} {i : Int} (h : PV X e x Γ (.int i)) : PV X e (.UnaryOp .USub x pos) Γ (.int (-i)) := PE.imp (pe_un un_neg h) fun σ H Q ⟨S, w, q⟩ => ⟨S, w, fun S1 H1 v s1 w1 r1 => by
  cases r1
  exact ⟨i, rfl, q S1 H1 _ s1 w1 (.int _)⟩⟩
/-- rows[a][b] -/
theorem px_row {n i j : Nat} {R : Nat → Nat → Bool} {r x y : Expr} {p1 p2 : Pos} (hr : PV X e r Γ (.lst (rowsD n R))) (hx : PV X e x Γ (.int (i : Int))) (hy : PV X e y Γ (.int (j : Int))) (hi : i < n) (hj : j < n) (h1 : PlainIx x := by exact fun _ _ => rfl) (h2 : PlainIx y := by exact fun _ _ => rfl) (he : ∀ whole, isTrue (.Subscript (.Subscript r x p1) y p2) X.env whole = (do let v ← whole; standAt p2; holding [v] (truthy v)) := by intro _; rfl) : PX X e (.Subscript (.Subscript r x p1) y p2) Γ (R i j) :=
  px_val (pv_s ix_list (pv_s ix_list hr hx (sc_ixL (atI_nat (rowsD_at hi))) h1) hy (sc_ixL (atI_nat (rowB_at hj))) h2) he
end
/-! ### _law_place -/
def optI : Option Nat → Int
  | none => -1
  | some k => (k : Int)
theorem ups8 {R : Nat → Nat → Bool} {L : List Nat} {k : Nat} : ((L.filter fun z => !decide (z = k) && R k z).filter fun z => decide (((L.filter fun z => !decide (z = k) && R k z).filter fun o => !decide (o = z) && R o z).length = 0)) = upsG R L k := by
  unfold upsG
  rw [List.filter_filter]
  refine List.filter_congr fun z hz => ?_
  rw [Bool.eq_iff_iff, covG_iff, Bool.and_eq_true, Bool.and_eq_true, decide_eq_true_iff, List.length_eq_zero_iff, List.filter_eq_nil_iff]
  simp only [Bool.not_eq_true', decide_eq_false_iff_not, List.mem_filter, Bool.and_eq_true, not_and, Bool.not_eq_true, and_imp]
  constructor
  · rintro ⟨h1, h2, h3⟩
    exact ⟨fun q => h2 q.symm, h3, fun m hm n1 n2 h4 h5 => by
      have := h1 m hm n1 h4 n2
      rw [h5] at this
      cases this⟩
  · rintro ⟨h1, h2, h3⟩
    refine ⟨fun m hm n1 h4 n2 => ?_, fun q => h1 q.symm, h2⟩
    cases h5 : R m z with
    | false => rfl
    | true => exact (h3 m hm n1 n2 h4 h5).elim
theorem dns8 {R : Nat → Nat → Bool} {L : List Nat} {k : Nat} : ((L.filter fun z => !decide (z = k) && R z k).filter fun z => decide (((L.filter fun z => !decide (z = k) && R z k).filter fun o => !decide (o = z) && R z o).length = 0)) = dnsG R L k := by
  unfold dnsG
  rw [List.filter_filter]
  refine List.filter_congr fun z hz => ?_
  rw [Bool.eq_iff_iff, covG_iff, Bool.and_eq_true, Bool.and_eq_true, decide_eq_true_iff, List.length_eq_zero_iff, List.filter_eq_nil_iff]
  simp only [Bool.not_eq_true', decide_eq_false_iff_not, List.mem_filter, Bool.and_eq_true, not_and, Bool.not_eq_true, and_imp]
  constructor
  · rintro ⟨h1, h2, h3⟩
    exact ⟨h2, h3, fun m hm n1 n2 h4 h5 => by
      have := h1 m hm n2 h5 n1
      rw [h4] at this
      cases this⟩
  · rintro ⟨h1, h2, h3⟩
    refine ⟨fun m hm n1 h4 n2 => ?_, h1, h2⟩
    cases h5 : R z m with
    | false => rfl
    | true => exact (h3 m hm n2 n1 h5 h4).elim
section
variable {P : Program} {w : World} {K : Fg} {mg : Str → Option Value} {base : Heap}
def cLPl (n : Nat) (R : Nat → Nat → Bool) (L : List Nat) (k : Nat) : Fp where
  pre ds := ds = [.lst (rowsD n R), .lst (natsD L), .int (k : Int)] ∧ (∀ x ∈ L, x < n) ∧ k < n ∧ L.length ≤ 1000
  post ds b := b = .st (.int (optI (placeG R L k)))
  exn _ _ _ := False
abbrev s_lpl : Stmt := top 51
abbrev nLPl : List Str := ["rows", "left", "kind", "above", "below", "highs", "lows", "k", "other"]
theorem scLPl : FnScope nLPl ["rows", "left", "kind"] (defScope s_lpl) := ⟨rfl, rfl, rfl, by decide +kernel, rfl, by decide +kernel, by decide +kernel⟩
def scH1 : Scope := L2.relS { kind := .function, names := [(".0", .local), ("k", .cell), ("len", .globalImplicit), ("above", .free), ("rows", .free)], isGenerator := false, isCoroutine := false } (defScope s_lpl)
def scH2 : Scope := L2.relS { kind := .function, names := [(".0", .local), ("k", .cell), ("len", .globalImplicit), ("below", .free), ("rows", .free)], isGenerator := false, isCoroutine := false } (defScope s_lpl)
theorem ok_lpl {f : Addr} {fd : FuncData} (F : FunS K "_law_place" s_lpl f fd) (b : Bi mg) (n : Nat) (R : Nat → Nat → Bool) (L : List Nat) (k : Nat) : FnOk P w K mg base (L2.CX P w) 1 f fd ["rows", "left", "kind"] (spP K (cLPl n R L k)) := by
  refine fp_ok F scLPl (fun ds ⟨h, _⟩ => by rw [h]; rfl) fun cdv A outer s e Ex ds ho ⟨hd, hL, hk, hl⟩ hr tk => ?_
  subst hd
  have nd := scLPl.nd
  refine bl_letO 3 (hz := .inl ho) (o := .lst (natsD (L.filter fun z => !decide (z = k) && R k z))) (pn_eo (pn_lcA (c := cN) (u := uN) (l := L) (f := fun z => [sD (.lst (rowsD n R)), sD (.lst (natsD L)), sI k, none, none, none, none, sI z, none]) (own := [("k", 7)]) (ix := [7]) (bind := bName 7) (fun z => !decide (z = k) && R k z) cN uN_cN (blk nLPl (defScope s_lpl)) nd
    (wp_list (pv_var 1)) (fun s H C cl fp => gv_name 7 nd (hz := .inl ho)) (bindOk_name 7) (by decide) (.inl ho) (by omega) (fun z _ => rfl) (fun z hz s H C cl fp => pts_if (px_w (pw_a (px_is (px_cmp op_ne (pv_var 7) (pv_var 2) sc_neI) neI) fun _ => pw_a1 (px_row (pv_var 0) (pv_var 2) (pv_var 7) hk (hL z hz))))) (fun z _ _ s H C cl fp => pv_var 7))) (bl_frz 3 rfl (.inl ho) ?_)
  refine bl_letO 4 (hz := .inl ho) (o := .lst (natsD (L.filter fun z => !decide (z = k) && R z k))) (pn_eo (pn_lcA (c := cN) (u := uN) (l := L) (f := fun z => [sD (.lst (rowsD n R)), sD (.lst (natsD L)), sI k, sD (.lst (natsD (L.filter fun z => !decide (z = k) && R k z))), none, none, none, sI z, none]) (own := [("k", 7)]) (ix := [7]) (bind := bName 7) (fun z => !decide (z = k) && R z k) cN uN_cN (blk nLPl (defScope s_lpl)) nd
    (wp_list (pv_var 1)) (fun s H C cl fp => gv_name 7 nd (hz := .inl ho)) (bindOk_name 7) (by decide) (.inl ho) (by omega) (fun z _ => rfl) (fun z hz s H C cl fp => pts_if (px_w (pw_a (px_is (px_cmp op_ne (pv_var 7) (pv_var 2) sc_neI) neI) fun _ => pw_a1 (px_row (pv_var 0) (pv_var 7) (pv_var 2) (hL z hz) hk)))) (fun z _ _ s H C cl fp => pv_var 7))) (bl_frz 4 rfl (.inl ho) ?_)
  have hA : ∀ z ∈ L.filter fun z => !decide (z = k) && R k z, z < n := fun z hz => hL z (List.mem_filter.mp hz).1
  have hB : ∀ z ∈ L.filter fun z => !decide (z = k) && R z k, z < n := fun z hz => hL z (List.mem_filter.mp hz).1
  have lA : (L.filter fun z => !decide (z = k) && R k z).length ≤ 1000 := Nat.le_trans (List.length_filter_le _ _) hl
  have lB : (L.filter fun z => !decide (z = k) && R z k).length ≤ 1000 := Nat.le_trans (List.length_filter_le _ _) hl
  have hU := ups8 (R := R) (L := L) (k := k)
  have hD := dns8 (R := R) (L := L) (k := k)
  refine bl_at (Γ' := [sD (.lst (rowsD n R)), sD (.lst (natsD L)), sI k, sD (.lst (natsD (L.filter fun z => !decide (z = k) && R k z))), sD (.lst (natsD (L.filter fun z => !decide (z = k) && R z k))), none, none, none, none]) rfl ?_
  generalize (L.filter fun z => !decide (z = k) && R k z) = UA at *
  generalize (L.filter fun z => !decide (z = k) && R z k) = DA at *
  have zero : ∀ l : List Nat, decide (((natsD l).length : Int) = 0) = decide (l.length = 0) := fun l => by
    rw [natsD_len]
    exact decide_eq_decide.mpr (by omega)
  refine bl_letLcA 5 (hz2 := .inl ho) (c := cN) (u := uN) (l := UA) (f := fun z => [sD (.lst (rowsD n R)), sD (.lst (natsD L)), sI k, sD (.lst (natsD UA)), sD (.lst (natsD DA)), none, none, sI z, none]) (own := [("k", 7)]) (ix := [7]) (bind := bName 7) (fun z => decide ((UA.filter fun o => !decide (o = z) && R o z).length = 0)) cN uN_cN (blk nLPl (defScope s_lpl)) nd
    (wp_list (pv_var 3)) (fun s H C cl fp => gv_name 7 nd (hz := .inl ho)) (bindOk_name 7) (by decide) (.inl ho) (by omega) (fun z _ => rfl) (fun z hz s H C cl fp => pts_if (px_is (px_cmp op_eq (pv_lenL (pn_pv (pn_is (o' := .lst (natsD (UA.filter fun o => !decide (o = z) && R o z))) (pn_lcA (c := cN) (u := uN) (l := UA) (f := fun o => [sD (.lst (rowsD n R)), sD (.lst (natsD L)), sI k, sD (.lst (natsD UA)), sD (.lst (natsD DA)), none, none, sI z, sI o]) (own := [("other", 8)]) (ix := [8]) (bind := bName 8) (fun o => !decide (o = z) && R o z) cN uN_cN (blk nLPl scH1) nd
      (wp_list (pv_var 3)) (fun s H C cl fp => gv_name 8 nd (hz := .inl ho)) (bindOk_name 8) (by decide) (.inl ho) (by omega) (fun o _ => rfl) (fun o hoL s H C cl fp => pts_if (px_w (pw_a (px_is (px_cmp op_ne (pv_var 8) (pv_var 7) sc_neI) neI) fun _ => pw_a1 (px_row (pv_var 0) (pv_var 8) (pv_var 7) (hA o hoL) (hA z hz))))) (fun o _ _ s H C cl fp => pv_var 8)) rfl)) b.len) pv_int sc_eqI) (zero _))) (fun z _ _ s H C cl fp => pv_var 7) ?_
  refine bl_frz 5 rfl (.inl ho) ?_
  refine bl_at (Γ' := [sD (.lst (rowsD n R)), sD (.lst (natsD L)), sI k, sD (.lst (natsD UA)), sD (.lst (natsD DA)), sD (.lst (natsD (upsG R L k))), none, none, none]) (by rw [← hU]; rfl) ?_
  refine bl_letLcA 6 (hz2 := .inl ho) (c := cN) (u := uN) (l := DA) (f := fun z => [sD (.lst (rowsD n R)), sD (.lst (natsD L)), sI k, sD (.lst (natsD UA)), sD (.lst (natsD DA)), sD (.lst (natsD (upsG R L k))), none, sI z, none]) (own := [("k", 7)]) (ix := [7]) (bind := bName 7) (fun z => decide ((DA.filter fun o => !decide (o = z) && R z o).length = 0)) cN uN_cN (blk nLPl (defScope s_lpl)) nd
    (wp_list (pv_var 4)) (fun s H C cl fp => gv_name 7 nd (hz := .inl ho)) (bindOk_name 7) (by decide) (.inl ho) (by omega) (fun z _ => rfl) (fun z hz s H C cl fp => pts_if (px_is (px_cmp op_eq (pv_lenL (pn_pv (pn_is (o' := .lst (natsD (DA.filter fun o => !decide (o = z) && R z o))) (pn_lcA (c := cN) (u := uN) (l := DA) (f := fun o => [sD (.lst (rowsD n R)), sD (.lst (natsD L)), sI k, sD (.lst (natsD UA)), sD (.lst (natsD DA)), sD (.lst (natsD (upsG R L k))), none, sI z, sI o]) (own := [("other", 8)]) (ix := [8]) (bind := bName 8) (fun o => !decide (o = z) && R z o) cN uN_cN (blk nLPl scH2) nd
      (wp_list (pv_var 4)) (fun s H C cl fp => gv_name 8 nd (hz := .inl ho)) (bindOk_name 8) (by decide) (.inl ho) (by omega) (fun o _ => rfl) (fun o hoL s H C cl fp => pts_if (px_w (pw_a (px_is (px_cmp op_ne (pv_var 8) (pv_var 7) sc_neI) neI) fun _ => pw_a1 (px_row (pv_var 0) (pv_var 7) (pv_var 8) (hB z hz) (hB o hoL))))) (fun o _ _ s H C cl fp => pv_var 8)) rfl)) b.len) pv_int sc_eqI) (zero _))) (fun z _ _ s H C cl fp => pv_var 7) ?_
  refine bl_frz 6 rfl (.inl ho) ?_
  refine bl_at (Γ' := [sD (.lst (rowsD n R)), sD (.lst (natsD L)), sI k, sD (.lst (natsD UA)), sD (.lst (natsD DA)), sD (.lst (natsD (upsG R L k))), sD (.lst (natsD (dnsG R L k))), none, none]) (by rw [← hD]; rfl) ?_
  have len1 : ∀ (l : List Nat), decide (((natsD l).length : Int) = 1) = decide (l.length = 1) := fun l => by
    rw [natsD_len]
    exact decide_eq_decide.mpr (by omega)
  have at0 : ∀ {l : List Nat}, l.length = 1 → (natsD l)[0]? = some (.int ((l.getD 0 0 : Nat) : Int)) ∧ l[0]? = some (l.getD 0 0) := fun {l} h => ⟨natsD_at (by omega), by rw [List.getD_eq_getElem?_getD, List.getElem?_eq_getElem (show 0 < l.length by omega)]; rfl⟩
  refine bl_ifR (px_is (px_cmp op_eq (pv_lenL (pv_var 5) b.len) pv_int sc_eqI) (len1 _)) (fun h => ?_) fun h => ?_
  · have h' : (upsG R L k).length = 1 := of_decide_eq_true h
    refine bl_retP (pv_s ix_list (pv_var 5) pv_int (sc_ixL (atI_nat (n := 0) (at0 h').1))) ?_
    show B.st _ = B.st _
    unfold placeG
    rw [if_pos h', (at0 h').2]
    rfl
  · have h' : ¬ (upsG R L k).length = 1 := of_decide_eq_false h
    refine bl_ifR (px_is (px_cmp op_eq (pv_lenL (pv_var 6) b.len) pv_int sc_eqI) (len1 _)) (fun h2 => ?_) fun h2 => ?_
    · have h2' : (dnsG R L k).length = 1 := of_decide_eq_true h2
      refine bl_retP (pv_s ix_list (pv_var 6) pv_int (sc_ixL (atI_nat (n := 0) (at0 h2').1))) ?_
      show B.st _ = B.st _
      unfold placeG
      rw [if_neg h', if_pos h2', (at0 h2').2]
      rfl
    · have h2' : ¬ (dnsG R L k).length = 1 := of_decide_eq_false h2
      refine bl_retP (d := .int (-1)) (pv_neg pv_int) ?_
      show B.st _ = B.st _
      unfold placeG
      rw [if_neg h', if_neg h2']
      rfl
end
end Kf
end
section
set_option maxRecDepth 100000
set_option maxHeartbeats 1000000
/-! KhB: _law_folds, _law_image, _law_part_pairs: walked. -/
namespace Kf
open PySem L2
def looseB (R : Nat → Nat → Bool) (kept L : List Nat) (k : Nat) : Bool := !decide (k ∈ kept) && decide ((0 : Int) ≤ optI (placeG R L k))
theorem optI_some {o : Option Nat} : decide ((0 : Int) ≤ optI o) = o.isSome := by
  cases o with
  | none => rfl
  | some k => exact decide_eq_true (by show (0 : Int) ≤ (k : Int); omega)
theorem find_loose {α : Type} {g : Nat → Option α} {p : Nat → Bool} (h : ∀ k, p k = (g k).isSome) : ∀ L : List Nat, (∀ k l, L.filter p = k :: l → ∃ a, g k = some a ∧ L.findSome? g = some a) ∧ (L.filter p = [] → L.findSome? g = none)
  | [] => ⟨(fun k l q => by cases q), fun _ => rfl⟩
  | a :: l => by
    obtain ⟨h1, h2⟩ := find_loose h l
    have ha := h a
    cases hg : g a with
    | some v =>
      rw [hg] at ha
      rw [List.filter_cons_of_pos ha, List.findSome?_cons, hg]
      refine ⟨fun k m q => ?_, fun q => by cases q⟩
      cases q
      exact ⟨v, hg, rfl⟩
    | none =>
      rw [hg] at ha
      rw [List.filter_cons_of_neg (by rw [ha]; exact Bool.false_ne_true), List.findSome?_cons, hg]
      exact ⟨h1, h2⟩
theorem loose_step {R : Nat → Nat → Bool} {kept L : List Nat} : (∀ k l, L.filter (looseB R kept L) = k :: l → ∃ p, placeG R L k = some p ∧ stepG R kept L = some (k, p)) ∧ (L.filter (looseB R kept L) = [] → stepG R kept L = none) := by
  have h : ∀ k, looseB R kept L k = (if k ∈ kept then none else (placeG R L k).map fun p => (k, p) : Option (Nat × Nat)).isSome := fun k => by
    unfold looseB
    rw [optI_some]
    by_cases q : k ∈ kept
    · rw [if_pos q, decide_eq_true q]
      rfl
    · rw [if_neg q, decide_eq_false q]
      cases placeG R L k <;> rfl
  obtain ⟨h1, h2⟩ := find_loose h L
  refine ⟨fun k l q => ?_, h2⟩
  obtain ⟨a, g1, g2⟩ := h1 k l q
  split at g1
  · cases g1
  · cases hp : placeG R L k with
    | none => rw [hp] at g1; cases g1
    | some p =>
      rw [hp] at g1
      cases g1
      exact ⟨p, rfl, g2⟩
section
variable {P : Program} {w : World} {K : Fg} {mg : Str → Option Value} {base : Heap}
abbrev foldsN (n : Nat) (R : Nat → Nat → Bool) (kept : List Nat) : List (Nat × Nat) × List Nat := foldsG R kept n (List.range n)
abbrev foundD (F : List (Nat × Nat) × List Nat) : D := .lst [.lst (pairsD F.1), .lst (natsD F.2)]
def cLF (n : Nat) (R : Nat → Nat → Bool) (kept : List Nat) : Fp where
  pre ds := ds = [.lst (rowsD n R), .lst (natsD kept)] ∧ n ≤ 100
  post ds b := b = .ow (.lst [.lst (pairsD (foldsN n R kept).1), .lst (natsD (foldsN n R kept).2)])
  exn _ _ _ := False
abbrev s_lf : Stmt := top 52
abbrev nLF : List Str := ["rows", "kept", "left", "folds", "turn", "loose", "k"]
theorem scLF : FnScope nLF ["rows", "kept"] (defScope s_lf) := ⟨rfl, rfl, rfl, by decide +kernel, rfl, by decide +kernel, by decide +kernel⟩
theorem ok_lf {f : Addr} {fd : FuncData} (F : FunS K "_law_folds" s_lf f fd) (b : Bi mg) (C : ∀ n R L k, Dx P w K mg base "_law_place" 1 (cLPl n R L k)) (n : Nat) (R : Nat → Nat → Bool) (kept : List Nat) : FnOk P w K mg base (L2.CX P w) 2 f fd ["rows", "kept"] (spP K (cLF n R kept)) := by
  refine fp_ok F scLF (fun ds ⟨h, _⟩ => by rw [h]; rfl) fun cdv A outer s e Ex ds ho ⟨hd, hn⟩ hr tk => ?_
  subst hd
  have nd := scLF.nd
  have lr : (rowsD n R).length = n := rowsD_len
  refine bl_letO 2 (hz := .inl ho) (o := .lst (natsD (List.range n))) (pn_eo (pn_is (o' := .lst (natsD (List.range n))) (pn_lcA (c := cN) (u := uN) (l := List.range n) (f := fun z => [sD (.lst (rowsD n R)), sD (.lst (natsD kept)), none, none, none, none, sI z]) (own := [("k", 6)]) (ix := [6]) (bind := bName 6) (fun _ => true) cN uN_cN (blk nLF (defScope s_lf)) nd
    (by rw [← rng_nats]; exact wp_rng (pv_is (pv_lenL (pv_var 0) b.len) (by rw [lr])) (by omega) b.range) (fun s H C cl fp => gv_name 6 nd (hz := .inl ho)) (bindOk_name 6) (by decide) (.inl ho) (by rw [List.length_range]; omega) (fun z _ => rfl) (fun z hz s H C cl fp => pts_none) (fun z _ _ s H C cl fp => pv_var 6)) (by rw [filter_true]; rfl))) (bl_frz 2 rfl (.inl ho) ?_)
  refine bl_letO 3 (hz := .inl ho) (pn_eo (pn_lst pvs_nil)) ?_
  have fin : ∀ (L : List Nat) (acc : List (Nat × Nat)) (a c : Option B), acc = (foldsN n R kept).1 → L = (foldsN n R kept).2 →
      BL (cxOf (L2.CX P w) P w K mg base nLF "_law_folds" (defScope s_lf) f cdv A outer s e.H0 Ex) e ((defBody s_lf).drop 3) [sD (.lst (rowsD n R)), sD (.lst (natsD kept)), sD (.lst (natsD L)), sL (pairsD acc), a, c, none] { nx := fun _ => (cLF n R kept).post [.lst (rowsD n R), .lst (natsD kept)] (.st .non), rt := fun b _ => (cLF n R kept).post [.lst (rowsD n R), .lst (natsD kept)] b } := fun L acc a c h1 h2 => by
    refine bl_frz 3 rfl (.inl ho) (bl_retO (pn_eo (pn_lst (pvs_cons (pv_var 3) (pvs_cons (pv_var 2) pvs_nil)))) ?_)
    rintro o Γ1 ⟨rfl, rfl⟩
    subst h1 h2
    rfl
  refine bl_forB (fun ds i Γ => ds = rng 0 n ∧ ∃ (L : List Nat) (acc : List (Nat × Nat)) (a c : Option B), Γ = [sD (.lst (rowsD n R)), sD (.lst (natsD kept)), sD (.lst (natsD L)), sL (pairsD acc), a, c, none] ∧ i ≤ n ∧ (∀ x ∈ L, x < n) ∧ L.length ≤ n ∧ acc ++ (foldsG R kept (n - i) L).1 = (foldsN n R kept).1 ∧ (foldsG R kept (n - i) L).2 = (foldsN n R kept).2 ∧ acc.length ≤ i)
    (fun Γ => ∃ (L : List Nat) (acc : List (Nat × Nat)) (a c : Option B), Γ = [sD (.lst (rowsD n R)), sD (.lst (natsD kept)), sD (.lst (natsD L)), sL (pairsD acc), a, c, none] ∧ acc = (foldsN n R kept).1 ∧ L = (foldsN n R kept).2)
    (wv (wp_rng (pv_is (pv_lenL (pv_var 0) b.len) (by rw [lr])) (by omega) b.range)) (gv_name 4 nd (hz := .inl ho)) ?_ ?_ ?_ ?_ (passes_of rfl)
  · rintro ds Γ1 ⟨rfl, rfl⟩
    exact ⟨rfl, List.range n, [], none, none, rfl, Nat.zero_le _, fun x hx => List.mem_range.mp hx, by rw [List.length_range]; exact Nat.le_refl _, rfl, rfl, Nat.le_refl _⟩
  · rintro ds i d Γ1 hdi ⟨rfl, L, acc, a, c, rfl, hi, hL, hl, g1, g2, g3⟩
    obtain ⟨hin, rfl⟩ := rng_at0 hdi
    refine ⟨_, rfl, ?_⟩
    refine bl_letO 5 (hz := .inl ho) (o := .lst (natsD (L.filter (looseB R kept L)))) (pn_eo (pn_lcA (c := cN) (u := uN) (l := L) (f := fun z => [sD (.lst (rowsD n R)), sD (.lst (natsD kept)), sD (.lst (natsD L)), sL (pairsD acc), sI i, c, sI z]) (own := [("k", 6)]) (ix := [6]) (bind := bName 6) (looseB R kept L) cN uN_cN (blk nLF (defScope s_lf)) nd
      (wp_list (pv_var 2)) (fun s H C cl fp => gv_name 6 nd (hz := .inl ho)) (bindOk_name 6) (by decide) (.inl ho) (by omega) (fun z _ => rfl) (fun z hz s H C' cl fp => pts_if (px_w (pw_a (px_ninN (pv_var 6) (pv_var 1)) fun _ => pw_a1 (px_cmp op_ge (pv_call (d := .int (optI (placeG R L z))) (C n R L z) hr (by omega) (pvs_cons (pv_var 0) (pvs_cons (pv_var 2) (pvs_cons (pv_var 6) pvs_nil))) ⟨rfl, hL, hL z hz, by omega⟩ (fun _ h => h) (fun _ _ h => h)) pv_int sc_ge)))) (fun z _ _ s H C cl fp => pv_var 6))) (bl_frz 5 rfl (.inl ho) ?_)
    obtain ⟨st1, st2⟩ := loose_step (R := R) (kept := kept) (L := L)
    have hlen0 : decide (((natsD (L.filter (looseB R kept L))).length : Int) = 0) = decide ((L.filter (looseB R kept L)).length = 0) := by
      rw [natsD_len]
      exact decide_eq_decide.mpr (by omega)
    refine bl_ifR (px_is (px_cmp op_eq (pv_lenL (pv_var (d := .lst (natsD (L.filter (looseB R kept L)))) 5) b.len) pv_int sc_eqI) hlen0) (fun h => ?_) fun h => ?_
    · have h0 : L.filter (looseB R kept L) = [] := List.length_eq_zero_iff.mp (of_decide_eq_true h)
      have hs := st2 h0
      rw [folds_none hs, List.append_nil] at g1
      rw [folds_none hs] at g2
      exact bl_break ⟨L, acc, _, _, rfl, g1, g2⟩
    · obtain ⟨k, l, hkl⟩ : ∃ k l, L.filter (looseB R kept L) = k :: l := by
        cases q : L.filter (looseB R kept L) with
        | nil => rw [q] at h; cases h
        | cons k l => exact ⟨k, l, rfl⟩
      obtain ⟨p, hp, hs⟩ := st1 k l hkl
      obtain ⟨s1, s2, s3⟩ := step_spec hs
      refine bl_at (Γ' := [sD (.lst (rowsD n R)), sD (.lst (natsD kept)), sD (.lst (natsD L)), sL (pairsD acc), sI i, sD (.lst (natsD (k :: l))), none]) (by rw [← hkl]; rfl) ?_
      have l0 : (natsD (k :: l))[0]? = some (.int (k : Int)) := rfl
      refine bl_appP 3 rfl (by unfold pairsD; rw [List.length_map]; omega) (pv_tup (ds := [.int (k : Int), .int (p : Int)]) (pvs_cons (pv_s ix_list (pv_var 5) pv_int (sc_ixL (atI_nat (n := 0) l0))) (pvs_cons (pv_call (d := .int (p : Int)) (C n R L k) hr (by omega) (pvs_cons (pv_var 0) (pvs_cons (pv_var 2) (pvs_cons (pv_s ix_list (pv_var 5) pv_int (sc_ixL (atI_nat (n := 0) l0))) pvs_nil))) ⟨rfl, hL, hL k s1, by omega⟩ (fun b h => by rw [show b = .st (.int (optI (placeG R L k))) from h, hp]; rfl) (fun _ _ h => h)) pvs_nil))) ?_
      refine bl_at (Γ' := [sD (.lst (rowsD n R)), sD (.lst (natsD kept)), sD (.lst (natsD L)), sL (pairsD (acc ++ [(k, p)])), sI i, sD (.lst (natsD (k :: l))), none]) (by show [_, _, _, sL (pairsD acc ++ _), _, _, _] = _; unfold pairsD; rw [List.map_append]; rfl) ?_
      refine bl_letO 2 (hz := .inl ho) (o := .lst (natsD (L.filter fun z => !decide (z = k)))) (pn_eo (pn_lcA (c := cN) (u := uN) (l := L) (f := fun z => [sD (.lst (rowsD n R)), sD (.lst (natsD kept)), sD (.lst (natsD L)), sL (pairsD (acc ++ [(k, p)])), sI i, sD (.lst (natsD (k :: l))), sI z]) (own := [("k", 6)]) (ix := [6]) (bind := bName 6) (fun z => !decide (z = k)) cN uN_cN (blk nLF (defScope s_lf)) nd
        (wp_list (pv_var 2)) (fun s H C cl fp => gv_name 6 nd (hz := .inl ho)) (bindOk_name 6) (by decide) (.inl ho) (by omega) (fun z _ => rfl) (fun z hz s H C' cl fp => pts_if (px_is (px_cmp op_ne (pv_var 6) (pv_s ix_list (pv_var 5) pv_int (sc_ixL (atI_nat (n := 0) l0))) sc_neI) neI)) (fun z _ _ s H C cl fp => pv_var 6))) (bl_frz 2 rfl (.inl ho) (bl_nil ⟨rfl, L.filter fun z => !decide (z = k), acc ++ [(k, p)], _, _, rfl, hin, fun x hx => hL x (List.mem_filter.mp hx).1, Nat.le_trans (List.length_filter_le _ _) hl, ?_, ?_, ?_⟩))
      · have : n - i = (n - (i + 1)) + 1 := by omega
        rw [this, foldsG, hs] at g1
        rw [← g1, List.append_assoc]
        rfl
      · have : n - i = (n - (i + 1)) + 1 := by omega
        rw [this, foldsG, hs] at g2
        exact g2
      · rw [List.length_append]
        show _ + 1 ≤ _
        omega
  · rintro ds Γ1 ⟨rfl, L, acc, a, c, rfl, hi, hL, hl, g1, g2, g3⟩
    rw [rng_len] at g1 g2
    rw [Nat.sub_self, foldsG, List.append_nil] at g1
    rw [Nat.sub_self, foldsG] at g2
    exact fin L acc a c g1 g2
  · rintro Γ1 ⟨L, acc, a, c, rfl, g1, g2⟩
    exact fin L acc a c g1 g2
/-! ### _law_image -/
def cLI (fs : List (Nat × Nat)) (k : Nat) : Fp where
  pre ds := ds = [.lst (pairsD fs), .int (k : Int)]
  post ds b := b = .st (.int ((imgG fs k : Nat) : Int))
  exn _ _ _ := False
abbrev s_li : Stmt := top 56
abbrev nLI : List Str := ["folds", "kind", "image", "fold"]
theorem scLI : FnScope nLI ["folds", "kind"] (defScope s_li) := ⟨rfl, rfl, rfl, by decide +kernel, rfl, by decide +kernel, by decide +kernel⟩
theorem ok_li {f : Addr} {fd : FuncData} (F : FunS K "_law_image" s_li f fd) (fs : List (Nat × Nat)) (k : Nat) : FnOk P w K mg base (L2.CX P w) 1 f fd ["folds", "kind"] (spP K (cLI fs k)) := by
  refine fp_ok F scLI (fun ds h => by rw [h]; rfl) fun cdv A outer s e Ex ds ho hd hr tk => ?_
  subst hd
  have nd := scLI.nd
  refine bl_let 2 (hz := .inl ho) (pv_var 1) ?_
  refine bl_for (fun ds i Γ => ds = pairsD fs ∧ ∃ a, Γ = [sD (.lst (pairsD fs)), sI k, sI ((imgG (fs.take i) k : Nat)), a]) (wv (wp_list (pv_var 0))) (gv_name 3 nd (hz := .inl ho)) ?_ ?_ ?_ (passes_of rfl)
  · rintro ds Γ1 ⟨rfl, rfl⟩
    exact ⟨rfl, none, rfl⟩
  · rintro ds i d Γ1 hdi ⟨rfl, a, rfl⟩
    obtain ⟨q, hq, rfl⟩ : ∃ q, fs[i]? = some q ∧ d = pairD q := by
      unfold pairsD at hdi
      rw [List.getElem?_map] at hdi
      obtain ⟨q, h1, h2⟩ := Option.map_eq_some_iff.mp hdi
      exact ⟨q, h1, h2.symm⟩
    have tk1 : imgG (fs.take (i + 1)) k = if q.1 = imgG (fs.take i) k then q.2 else imgG (fs.take i) k := by
      rw [List.take_succ, hq]
      exact imgG_app
    refine ⟨_, rfl, bl_ifP (q := decide (q.1 = imgG (fs.take i) k)) (fun Γ => ∃ a, Γ = [sD (.lst (pairsD fs)), sI k, sI ((imgG (fs.take (i + 1)) k : Nat)), a]) (px_is (px_cmp op_eq (pv_s ix_tup (pv_var (d := .tup [.int (q.1 : Int), .int (q.2 : Int)]) 3) pv_int (sc_ixT rfl)) (pv_var 2) sc_eqI) (decide_eq_decide.mpr (by omega))) (fun h => ?_) (fun h => ?_) ?_⟩
    · refine bl_let 2 (hz := .inl ho) (d := .int (q.2 : Int)) (pv_s ix_tup (pv_var (d := .tup [.int (q.1 : Int), .int (q.2 : Int)]) 3) pv_int (sc_ixT rfl)) (bl_nil ⟨sD (pairD q), ?_⟩)
      rw [tk1, if_pos (of_decide_eq_true h)]
      rfl
    · refine bl_nil ⟨sD (pairD q), ?_⟩
      rw [tk1, if_neg (of_decide_eq_false h)]
      rfl
    · rintro Γ' ⟨a, h⟩
      exact bl_nil ⟨rfl, a, h⟩
  · rintro ds Γ1 ⟨rfl, a, rfl⟩
    have lf : (pairsD fs).length = fs.length := List.length_map _
    rw [lf, List.take_length]
    exact bl_retP (pv_var 2) rfl
/-! ### _law_part_pairs -/
def partP (R : Nat → Nat → Bool) (l : List Nat) : List (Nat × Nat) := l.flatMap fun a => (l.filter (R a)).map fun b => (a, b)
def cLPP (n : Nat) (R : Nat → Nat → Bool) (l : List Nat) : Fp where
  pre ds := ds = [.lst (rowsD n R), .lst (natsD l)] ∧ (∀ x ∈ l, x < n) ∧ l.length ≤ 100
  post ds b := b = .ow (.lst (pairsD (partP R l)))
  exn _ _ _ := False
abbrev s_lpp : Stmt := top 57
abbrev nLPP : List Str := ["rows", "kept", "pairs", "low", "high"]
theorem scLPP : FnScope nLPP ["rows", "kept"] (defScope s_lpp) := ⟨rfl, rfl, rfl, by decide +kernel, rfl, by decide +kernel, by decide +kernel⟩
theorem nats_at' {l : List Nat} {i : Nat} {d : D} (h : (natsD l)[i]? = some d) : ∃ x, l[i]? = some x ∧ d = .int (x : Int) := by
  unfold natsD at h
  rw [List.getElem?_map] at h
  obtain ⟨x, h1, h2⟩ := Option.map_eq_some_iff.mp h
  exact ⟨x, h1, h2.symm⟩
theorem sum_le' {α : Type} {f : α → Nat} {c : Nat} : ∀ (l : List α), (∀ x ∈ l, f x ≤ c) → (l.map f).sum ≤ l.length * c
  | [], _ => by simp
  | a :: l, h => by
    rw [List.map_cons, List.sum_cons, List.length_cons, Nat.add_mul, Nat.one_mul]
    have := sum_le' l fun x hx => h x (List.mem_cons_of_mem _ hx)
    have := h a List.mem_cons_self
    omega
theorem part_len {R : Nat → Nat → Bool} {l m : List Nat} : (m.flatMap fun a => (l.filter (R a)).map fun b => (a, b)).length ≤ m.length * l.length := by
  rw [List.length_flatMap]
  exact sum_le' m fun x _ => by rw [List.length_map]; exact List.length_filter_le _ _
theorem ok_lpp {f : Addr} {fd : FuncData} (F : FunS K "_law_part_pairs" s_lpp f fd) (n : Nat) (R : Nat → Nat → Bool) (l : List Nat) : FnOk P w K mg base (L2.CX P w) 1 f fd ["rows", "kept"] (spP K (cLPP n R l)) := by
  refine fp_ok F scLPP (fun ds ⟨h, _⟩ => by rw [h]; rfl) fun cdv A outer s e Ex ds ho ⟨hd, hin, hl⟩ hr tk => ?_
  subst hd
  have nd := scLPP.nd
  refine bl_letO 2 (hz := .inl ho) (pn_eo (pn_lst pvs_nil)) ?_
  refine bl_for (fun ds i Γ => ds = natsD l ∧ ∃ a c, Γ = [sD (.lst (rowsD n R)), sD (.lst (natsD l)), sL (pairsD ((l.take i).flatMap fun a => (l.filter (R a)).map fun b => (a, b))), a, c]) (wv (wp_list (pv_var 1))) (gv_name 3 nd (hz := .inl ho)) ?_ ?_ ?_ (passes_of rfl)
  · rintro ds Γ1 ⟨rfl, rfl⟩
    exact ⟨rfl, none, none, rfl⟩
  · rintro ds i d Γ1 hdi ⟨rfl, a, c, rfl⟩
    obtain ⟨x, hx, rfl⟩ := nats_at' hdi
    have hxm := List.mem_of_getElem? hx
    have hil := (List.getElem?_eq_some_iff.mp hx).1
    refine ⟨_, rfl, bl_for (fun ds j Γ => ds = natsD l ∧ ∃ c, Γ = [sD (.lst (rowsD n R)), sD (.lst (natsD l)), sL (pairsD (((l.take i).flatMap fun a => (l.filter (R a)).map fun b => (a, b)) ++ ((l.take j).filter (R x)).map fun b => (x, b))), sI x, c]) (wv (wp_list (pv_var 1))) (gv_name 4 nd (hz := .inl ho)) ?_ ?_ ?_ (passes_of rfl)⟩
    · rintro ds Γ1 ⟨rfl, rfl⟩
      refine ⟨rfl, c, ?_⟩
      rw [List.take_zero, List.filter_nil, List.map_nil, List.append_nil]
      rfl
    · rintro ds j d Γ1 hdj ⟨rfl, c, rfl⟩
      obtain ⟨y, hy, rfl⟩ := nats_at' hdj
      have hym := List.mem_of_getElem? hy
      have tk1 : ((l.take (j + 1)).filter (R x)).map (fun b => (x, b)) = ((l.take j).filter (R x)).map (fun b => (x, b)) ++ (if R x y = true then [(x, y)] else []) := by
        rw [List.take_succ, hy, List.filter_append, List.map_append]
        congr 1
        show List.map _ (List.filter _ [y]) = _
        cases q : R x y with
        | true => rw [List.filter_cons_of_pos q]; rfl
        | false => rw [List.filter_cons_of_neg (by rw [q]; exact Bool.false_ne_true)]; rfl
      refine ⟨_, rfl, bl_ifP (q := R x y) (fun Γ => ∃ c, Γ = [sD (.lst (rowsD n R)), sD (.lst (natsD l)), sL (pairsD (((l.take i).flatMap fun a => (l.filter (R a)).map fun b => (a, b)) ++ ((l.take (j + 1)).filter (R x)).map fun b => (x, b))), sI x, c]) (px_row (pv_var 0) (pv_var 3) (pv_var 4) (hin x hxm) (hin y hym)) (fun h => ?_) (fun h => ?_) ?_⟩
      · refine bl_appP 2 rfl ?_ (pv_tup (ds := [.int (x : Int), .int (y : Int)]) (pvs_cons (pv_var 3) (pvs_cons (pv_var 4) pvs_nil))) (bl_nil ⟨sI y, ?_⟩)
        · rw [pairsD_len, List.length_append, List.length_map]
          have h1 := part_len (R := R) (l := l) (m := l.take i)
          have h2 : (l.take i).length * l.length ≤ 100 * 100 := Nat.mul_le_mul (by rw [List.length_take]; omega) hl
          have h3 := List.length_filter_le (R x) (l.take j)
          have h4 : (l.take j).length ≤ 100 := by rw [List.length_take]; omega
          omega
        · rw [tk1, if_pos h, ← List.append_assoc]
          show [_, _, sL (pairsD _ ++ [pairD (x, y)]), _, _] = _
          rw [pairsD_app (b := [(x, y)])]
          rfl
      · refine bl_nil ⟨sI y, ?_⟩
        rw [tk1, if_neg (by rw [h]; exact Bool.false_ne_true), List.append_nil]
        rfl
      · rintro Γ' ⟨c, h⟩
        exact bl_nil ⟨rfl, c, h⟩
    · rintro ds Γ1 ⟨rfl, c, rfl⟩
      rw [natsD_len, List.take_length]
      refine bl_nil ⟨rfl, sI x, c, ?_⟩
      rw [List.take_succ, hx]
      show _ = [_, _, sL (pairsD (List.flatMap _ (List.take i l ++ [x]))), _, _]
      rw [List.flatMap_append, List.flatMap_singleton]
  · rintro ds Γ1 ⟨rfl, a, c, rfl⟩
    rw [natsD_len, List.take_length]
    exact bl_retV 2 rfl (hz := .inl ho) rfl
end
end Kf
end
section
set_option maxRecDepth 100000
set_option maxHeartbeats 1000000
/-! KhC: _law_told_folds, _law_trim: walked (this text is written by gen_told.py). -/
namespace Kf
open PySem L2
section
variable {P : Program} {w : World} {K : Fg} {mg : Str → Option Value} {base : Heap}
def cTF (r : Str → Str → Bool) (ks ns : List Str) : Fp where
  pre ds := ds = [(subO r ks).d, dStrs ns] ∧ OrdG r ks
  post ds b := (∀ z ∈ ns, z ∈ ks) ∧ b = .ow (.lst (spairsD (foldsG r ns ks.length ks).1))
  exn _ y fl := y = "NotListed" ∧ ∃ z ∈ ns, z ∉ ks ∧ fl = [(("name" : Str), D.str z)]
abbrev s_tf : Stmt := top 53
abbrev nTF : List Str := ["order", "names"]
theorem scTF : FnScope nTF ["order", "names"] (defScope s_tf) := ⟨rfl, rfl, rfl, by decide +kernel, rfl, by decide +kernel, by decide +kernel⟩
theorem ok_tf {f : Addr} {fd : FuncData} (F : FunS K "_law_told_folds" s_tf f fd) (b1 : Bi mg) (N : ∀ r ks ns, Dx P w K mg base "folds_of" 7 ((cFolds r ks ns).star 1)) (r : Str → Str → Bool) (ks ns : List Str) (hns : ns.length ≤ 5) : FnOk P w K mg base (L2.CX P w) 8 f fd ["order", "names"] (spP K (cTF r ks ns)) := by
  refine fp_ok F scTF (fun ds ⟨h, _⟩ => by rw [h]; rfl) fun cdv A outer s e Ex ds ho ⟨hd, o⟩ hr tk => ?_
  subst hd
  have nd := scTF.nd
  match ns, hns with
  | [], _ =>
    refine bl_ifR (px_is (l := true) (px_cmp op_eq (pv_lenL (pv_var 1) b1.len) pv_int sc_eqI) rfl) (fun _ => bl_retO (eo_call (Φ := fun o Γ' => (∀ z ∈ ([] : List Str), z ∈ ks) ∧ o = .lst (spairsD (foldsG r [] ks.length ks).1)) (N r ks []) hr (by omega) tk (pvs_av (pvs_cons (pv_var 0) pvs_nil)) ?_) fun o' Γ1 ⟨g1, g2⟩ => ⟨g1, by rw [g2]⟩) (fun h => by cases h)
    rintro ds Γ1 ⟨rfl, rfl⟩
    exact ⟨⟨(show 1 ≤ 1 by decide), (show 1 ≤ 10000 by decide), rfl, o⟩, fun _ ⟨g1, g2⟩ => ⟨_, g2, g1, rfl⟩, fun _ _ h => h⟩
  | [a], _ =>
    refine bl_ifR (px_is (l := false) (px_cmp op_eq (pv_lenL (pv_var 1) b1.len) pv_int sc_eqI) rfl) (fun h => by cases h) fun _ => ?_
    refine bl_ifR (px_is (l := true) (px_cmp op_eq (pv_lenL (pv_var 1) b1.len) pv_int sc_eqI) rfl) (fun _ => bl_retO (eo_call (Φ := fun o Γ' => (∀ z ∈ ([a] : List Str), z ∈ ks) ∧ o = .lst (spairsD (foldsG r [a] ks.length ks).1)) (N r ks [a]) hr (by omega) tk (pvs_av (pvs_cons (pv_var 0) (pvs_cons (pv_s ix_list (pv_var 1) pv_int (sc_ixL rfl)) pvs_nil))) ?_) fun o' Γ1 ⟨g1, g2⟩ => ⟨g1, by rw [g2]⟩) (fun h => by cases h)
    rintro ds Γ1 ⟨rfl, rfl⟩
    exact ⟨⟨(show 1 ≤ 2 by decide), (show 2 ≤ 10000 by decide), rfl, o⟩, fun _ ⟨g1, g2⟩ => ⟨_, g2, g1, rfl⟩, fun _ _ h => h⟩
  | [a, b], _ =>
    refine bl_ifR (px_is (l := false) (px_cmp op_eq (pv_lenL (pv_var 1) b1.len) pv_int sc_eqI) rfl) (fun h => by cases h) fun _ => ?_
    refine bl_ifR (px_is (l := false) (px_cmp op_eq (pv_lenL (pv_var 1) b1.len) pv_int sc_eqI) rfl) (fun h => by cases h) fun _ => ?_
    refine bl_ifR (px_is (l := true) (px_cmp op_eq (pv_lenL (pv_var 1) b1.len) pv_int sc_eqI) rfl) (fun _ => bl_retO (eo_call (Φ := fun o Γ' => (∀ z ∈ ([a, b] : List Str), z ∈ ks) ∧ o = .lst (spairsD (foldsG r [a, b] ks.length ks).1)) (N r ks [a, b]) hr (by omega) tk (pvs_av (pvs_cons (pv_var 0) (pvs_cons (pv_s ix_list (pv_var 1) pv_int (sc_ixL rfl)) (pvs_cons (pv_s ix_list (pv_var 1) pv_int (sc_ixL rfl)) pvs_nil)))) ?_) fun o' Γ1 ⟨g1, g2⟩ => ⟨g1, by rw [g2]⟩) (fun h => by cases h)
    rintro ds Γ1 ⟨rfl, rfl⟩
    exact ⟨⟨(show 1 ≤ 3 by decide), (show 3 ≤ 10000 by decide), rfl, o⟩, fun _ ⟨g1, g2⟩ => ⟨_, g2, g1, rfl⟩, fun _ _ h => h⟩
  | [a, b, c], _ =>
    refine bl_ifR (px_is (l := false) (px_cmp op_eq (pv_lenL (pv_var 1) b1.len) pv_int sc_eqI) rfl) (fun h => by cases h) fun _ => ?_
    refine bl_ifR (px_is (l := false) (px_cmp op_eq (pv_lenL (pv_var 1) b1.len) pv_int sc_eqI) rfl) (fun h => by cases h) fun _ => ?_
    refine bl_ifR (px_is (l := false) (px_cmp op_eq (pv_lenL (pv_var 1) b1.len) pv_int sc_eqI) rfl) (fun h => by cases h) fun _ => ?_
    refine bl_ifR (px_is (l := true) (px_cmp op_eq (pv_lenL (pv_var 1) b1.len) pv_int sc_eqI) rfl) (fun _ => bl_retO (eo_call (Φ := fun o Γ' => (∀ z ∈ ([a, b, c] : List Str), z ∈ ks) ∧ o = .lst (spairsD (foldsG r [a, b, c] ks.length ks).1)) (N r ks [a, b, c]) hr (by omega) tk (pvs_av (pvs_cons (pv_var 0) (pvs_cons (pv_s ix_list (pv_var 1) pv_int (sc_ixL rfl)) (pvs_cons (pv_s ix_list (pv_var 1) pv_int (sc_ixL rfl)) (pvs_cons (pv_s ix_list (pv_var 1) pv_int (sc_ixL rfl)) pvs_nil))))) ?_) fun o' Γ1 ⟨g1, g2⟩ => ⟨g1, by rw [g2]⟩) (fun h => by cases h)
    rintro ds Γ1 ⟨rfl, rfl⟩
    exact ⟨⟨(show 1 ≤ 4 by decide), (show 4 ≤ 10000 by decide), rfl, o⟩, fun _ ⟨g1, g2⟩ => ⟨_, g2, g1, rfl⟩, fun _ _ h => h⟩
  | [a, b, c, d], _ =>
    refine bl_ifR (px_is (l := false) (px_cmp op_eq (pv_lenL (pv_var 1) b1.len) pv_int sc_eqI) rfl) (fun h => by cases h) fun _ => ?_
    refine bl_ifR (px_is (l := false) (px_cmp op_eq (pv_lenL (pv_var 1) b1.len) pv_int sc_eqI) rfl) (fun h => by cases h) fun _ => ?_
    refine bl_ifR (px_is (l := false) (px_cmp op_eq (pv_lenL (pv_var 1) b1.len) pv_int sc_eqI) rfl) (fun h => by cases h) fun _ => ?_
    refine bl_ifR (px_is (l := false) (px_cmp op_eq (pv_lenL (pv_var 1) b1.len) pv_int sc_eqI) rfl) (fun h => by cases h) fun _ => ?_
    refine bl_ifR (px_is (l := true) (px_cmp op_eq (pv_lenL (pv_var 1) b1.len) pv_int sc_eqI) rfl) (fun _ => bl_retO (eo_call (Φ := fun o Γ' => (∀ z ∈ ([a, b, c, d] : List Str), z ∈ ks) ∧ o = .lst (spairsD (foldsG r [a, b, c, d] ks.length ks).1)) (N r ks [a, b, c, d]) hr (by omega) tk (pvs_av (pvs_cons (pv_var 0) (pvs_cons (pv_s ix_list (pv_var 1) pv_int (sc_ixL rfl)) (pvs_cons (pv_s ix_list (pv_var 1) pv_int (sc_ixL rfl)) (pvs_cons (pv_s ix_list (pv_var 1) pv_int (sc_ixL rfl)) (pvs_cons (pv_s ix_list (pv_var 1) pv_int (sc_ixL rfl)) pvs_nil)))))) ?_) fun o' Γ1 ⟨g1, g2⟩ => ⟨g1, by rw [g2]⟩) (fun h => by cases h)
    rintro ds Γ1 ⟨rfl, rfl⟩
    exact ⟨⟨(show 1 ≤ 5 by decide), (show 5 ≤ 10000 by decide), rfl, o⟩, fun _ ⟨g1, g2⟩ => ⟨_, g2, g1, rfl⟩, fun _ _ h => h⟩
  | [a, b, c, d, g], _ =>
    refine bl_ifR (px_is (l := false) (px_cmp op_eq (pv_lenL (pv_var 1) b1.len) pv_int sc_eqI) rfl) (fun h => by cases h) fun _ => ?_
    refine bl_ifR (px_is (l := false) (px_cmp op_eq (pv_lenL (pv_var 1) b1.len) pv_int sc_eqI) rfl) (fun h => by cases h) fun _ => ?_
    refine bl_ifR (px_is (l := false) (px_cmp op_eq (pv_lenL (pv_var 1) b1.len) pv_int sc_eqI) rfl) (fun h => by cases h) fun _ => ?_
    refine bl_ifR (px_is (l := false) (px_cmp op_eq (pv_lenL (pv_var 1) b1.len) pv_int sc_eqI) rfl) (fun h => by cases h) fun _ => ?_
    refine bl_ifR (px_is (l := false) (px_cmp op_eq (pv_lenL (pv_var 1) b1.len) pv_int sc_eqI) rfl) (fun h => by cases h) fun _ => ?_
    refine bl_retO (eo_call (Φ := fun o Γ' => (∀ z ∈ ([a, b, c, d, g] : List Str), z ∈ ks) ∧ o = .lst (spairsD (foldsG r [a, b, c, d, g] ks.length ks).1)) (N r ks [a, b, c, d, g]) hr (by omega) tk (pvs_av (pvs_cons (pv_var 0) (pvs_cons (pv_s ix_list (pv_var 1) pv_int (sc_ixL rfl)) (pvs_cons (pv_s ix_list (pv_var 1) pv_int (sc_ixL rfl)) (pvs_cons (pv_s ix_list (pv_var 1) pv_int (sc_ixL rfl)) (pvs_cons (pv_s ix_list (pv_var 1) pv_int (sc_ixL rfl)) (pvs_cons (pv_s ix_list (pv_var 1) pv_int (sc_ixL rfl)) pvs_nil))))))) ?_) fun o' Γ1 ⟨g1, g2⟩ => ⟨g1, by rw [g2]⟩
    rintro ds Γ1 ⟨rfl, rfl⟩
    exact ⟨⟨(show 1 ≤ 6 by decide), (show 6 ≤ 10000 by decide), rfl, o⟩, fun _ ⟨g1, g2⟩ => ⟨_, g2, g1, rfl⟩, fun _ _ h => h⟩
  | _ :: _ :: _ :: _ :: _ :: _ :: _, h => exact absurd h (by simp)
def cTT (r : Str → Str → Bool) (ks ns : List Str) : Fp where
  pre ds := ds = [(subO r ks).d, dStrs ns] ∧ OrdG r ks
  post ds b := (∀ z ∈ ns, z ∈ ks) ∧ b = .ow (.obj "Mapping" (dMap (subO r ks) (subO r (leftG r ns ks)) (imgsG r ns ks)))
  exn _ y fl := y = "NotListed" ∧ ∃ z ∈ ns, z ∉ ks ∧ fl = [(("name" : Str), D.str z)]
abbrev s_tt : Stmt := top 54
abbrev nTT : List Str := ["order", "names"]
theorem scTT : FnScope nTT ["order", "names"] (defScope s_tt) := ⟨rfl, rfl, rfl, by decide +kernel, rfl, by decide +kernel, by decide +kernel⟩
theorem ok_tt {f : Addr} {fd : FuncData} (F : FunS K "_law_trim" s_tt f fd) (b1 : Bi mg) (N : ∀ r ks ns, ns.length ≤ 9000 → Dx P w K mg base "trimming" 8 ((cTrim r ks ns).star 1)) (r : Str → Str → Bool) (ks ns : List Str) (hns : ns.length ≤ 5) : FnOk P w K mg base (L2.CX P w) 9 f fd ["order", "names"] (spP K (cTT r ks ns)) := by
  refine fp_ok F scTT (fun ds ⟨h, _⟩ => by rw [h]; rfl) fun cdv A outer s e Ex ds ho ⟨hd, o⟩ hr tk => ?_
  subst hd
  have nd := scTT.nd
  match ns, hns with
  | [], _ =>
    refine bl_ifR (px_is (l := true) (px_cmp op_eq (pv_lenL (pv_var 1) b1.len) pv_int sc_eqI) rfl) (fun _ => bl_retO (eo_call (Φ := fun o Γ' => (∀ z ∈ ([] : List Str), z ∈ ks) ∧ o = .obj "Mapping" (dMap (subO r ks) (subO r (leftG r [] ks)) (imgsG r [] ks))) (N r ks [] (by decide)) hr (by omega) tk (pvs_av (pvs_cons (pv_var 0) pvs_nil)) ?_) fun o' Γ1 ⟨g1, g2⟩ => ⟨g1, by rw [g2]⟩) (fun h => by cases h)
    rintro ds Γ1 ⟨rfl, rfl⟩
    exact ⟨⟨(show 1 ≤ 1 by decide), (show 1 ≤ 10000 by decide), rfl, o⟩, fun _ ⟨g1, g2⟩ => ⟨_, g2, g1, rfl⟩, fun _ _ h => h⟩
  | [a], _ =>
    refine bl_ifR (px_is (l := false) (px_cmp op_eq (pv_lenL (pv_var 1) b1.len) pv_int sc_eqI) rfl) (fun h => by cases h) fun _ => ?_
    refine bl_ifR (px_is (l := true) (px_cmp op_eq (pv_lenL (pv_var 1) b1.len) pv_int sc_eqI) rfl) (fun _ => bl_retO (eo_call (Φ := fun o Γ' => (∀ z ∈ ([a] : List Str), z ∈ ks) ∧ o = .obj "Mapping" (dMap (subO r ks) (subO r (leftG r [a] ks)) (imgsG r [a] ks))) (N r ks [a] (show 1 ≤ 9000 by decide)) hr (by omega) tk (pvs_av (pvs_cons (pv_var 0) (pvs_cons (pv_s ix_list (pv_var 1) pv_int (sc_ixL rfl)) pvs_nil))) ?_) fun o' Γ1 ⟨g1, g2⟩ => ⟨g1, by rw [g2]⟩) (fun h => by cases h)
    rintro ds Γ1 ⟨rfl, rfl⟩
    exact ⟨⟨(show 1 ≤ 2 by decide), (show 2 ≤ 10000 by decide), rfl, o⟩, fun _ ⟨g1, g2⟩ => ⟨_, g2, g1, rfl⟩, fun _ _ h => h⟩
  | [a, b], _ =>
    refine bl_ifR (px_is (l := false) (px_cmp op_eq (pv_lenL (pv_var 1) b1.len) pv_int sc_eqI) rfl) (fun h => by cases h) fun _ => ?_
    refine bl_ifR (px_is (l := false) (px_cmp op_eq (pv_lenL (pv_var 1) b1.len) pv_int sc_eqI) rfl) (fun h => by cases h) fun _ => ?_
    refine bl_ifR (px_is (l := true) (px_cmp op_eq (pv_lenL (pv_var 1) b1.len) pv_int sc_eqI) rfl) (fun _ => bl_retO (eo_call (Φ := fun o Γ' => (∀ z ∈ ([a, b] : List Str), z ∈ ks) ∧ o = .obj "Mapping" (dMap (subO r ks) (subO r (leftG r [a, b] ks)) (imgsG r [a, b] ks))) (N r ks [a, b] (show 2 ≤ 9000 by decide)) hr (by omega) tk (pvs_av (pvs_cons (pv_var 0) (pvs_cons (pv_s ix_list (pv_var 1) pv_int (sc_ixL rfl)) (pvs_cons (pv_s ix_list (pv_var 1) pv_int (sc_ixL rfl)) pvs_nil)))) ?_) fun o' Γ1 ⟨g1, g2⟩ => ⟨g1, by rw [g2]⟩) (fun h => by cases h)
    rintro ds Γ1 ⟨rfl, rfl⟩
    exact ⟨⟨(show 1 ≤ 3 by decide), (show 3 ≤ 10000 by decide), rfl, o⟩, fun _ ⟨g1, g2⟩ => ⟨_, g2, g1, rfl⟩, fun _ _ h => h⟩
  | [a, b, c], _ =>
    refine bl_ifR (px_is (l := false) (px_cmp op_eq (pv_lenL (pv_var 1) b1.len) pv_int sc_eqI) rfl) (fun h => by cases h) fun _ => ?_
    refine bl_ifR (px_is (l := false) (px_cmp op_eq (pv_lenL (pv_var 1) b1.len) pv_int sc_eqI) rfl) (fun h => by cases h) fun _ => ?_
    refine bl_ifR (px_is (l := false) (px_cmp op_eq (pv_lenL (pv_var 1) b1.len) pv_int sc_eqI) rfl) (fun h => by cases h) fun _ => ?_
    refine bl_ifR (px_is (l := true) (px_cmp op_eq (pv_lenL (pv_var 1) b1.len) pv_int sc_eqI) rfl) (fun _ => bl_retO (eo_call (Φ := fun o Γ' => (∀ z ∈ ([a, b, c] : List Str), z ∈ ks) ∧ o = .obj "Mapping" (dMap (subO r ks) (subO r (leftG r [a, b, c] ks)) (imgsG r [a, b, c] ks))) (N r ks [a, b, c] (show 3 ≤ 9000 by decide)) hr (by omega) tk (pvs_av (pvs_cons (pv_var 0) (pvs_cons (pv_s ix_list (pv_var 1) pv_int (sc_ixL rfl)) (pvs_cons (pv_s ix_list (pv_var 1) pv_int (sc_ixL rfl)) (pvs_cons (pv_s ix_list (pv_var 1) pv_int (sc_ixL rfl)) pvs_nil))))) ?_) fun o' Γ1 ⟨g1, g2⟩ => ⟨g1, by rw [g2]⟩) (fun h => by cases h)
    rintro ds Γ1 ⟨rfl, rfl⟩
    exact ⟨⟨(show 1 ≤ 4 by decide), (show 4 ≤ 10000 by decide), rfl, o⟩, fun _ ⟨g1, g2⟩ => ⟨_, g2, g1, rfl⟩, fun _ _ h => h⟩
  | [a, b, c, d], _ =>
    refine bl_ifR (px_is (l := false) (px_cmp op_eq (pv_lenL (pv_var 1) b1.len) pv_int sc_eqI) rfl) (fun h => by cases h) fun _ => ?_
    refine bl_ifR (px_is (l := false) (px_cmp op_eq (pv_lenL (pv_var 1) b1.len) pv_int sc_eqI) rfl) (fun h => by cases h) fun _ => ?_
    refine bl_ifR (px_is (l := false) (px_cmp op_eq (pv_lenL (pv_var 1) b1.len) pv_int sc_eqI) rfl) (fun h => by cases h) fun _ => ?_
    refine bl_ifR (px_is (l := false) (px_cmp op_eq (pv_lenL (pv_var 1) b1.len) pv_int sc_eqI) rfl) (fun h => by cases h) fun _ => ?_
    refine bl_ifR (px_is (l := true) (px_cmp op_eq (pv_lenL (pv_var 1) b1.len) pv_int sc_eqI) rfl) (fun _ => bl_retO (eo_call (Φ := fun o Γ' => (∀ z ∈ ([a, b, c, d] : List Str), z ∈ ks) ∧ o = .obj "Mapping" (dMap (subO r ks) (subO r (leftG r [a, b, c, d] ks)) (imgsG r [a, b, c, d] ks))) (N r ks [a, b, c, d] (show 4 ≤ 9000 by decide)) hr (by omega) tk (pvs_av (pvs_cons (pv_var 0) (pvs_cons (pv_s ix_list (pv_var 1) pv_int (sc_ixL rfl)) (pvs_cons (pv_s ix_list (pv_var 1) pv_int (sc_ixL rfl)) (pvs_cons (pv_s ix_list (pv_var 1) pv_int (sc_ixL rfl)) (pvs_cons (pv_s ix_list (pv_var 1) pv_int (sc_ixL rfl)) pvs_nil)))))) ?_) fun o' Γ1 ⟨g1, g2⟩ => ⟨g1, by rw [g2]⟩) (fun h => by cases h)
    rintro ds Γ1 ⟨rfl, rfl⟩
    exact ⟨⟨(show 1 ≤ 5 by decide), (show 5 ≤ 10000 by decide), rfl, o⟩, fun _ ⟨g1, g2⟩ => ⟨_, g2, g1, rfl⟩, fun _ _ h => h⟩
  | [a, b, c, d, g], _ =>
    refine bl_ifR (px_is (l := false) (px_cmp op_eq (pv_lenL (pv_var 1) b1.len) pv_int sc_eqI) rfl) (fun h => by cases h) fun _ => ?_
    refine bl_ifR (px_is (l := false) (px_cmp op_eq (pv_lenL (pv_var 1) b1.len) pv_int sc_eqI) rfl) (fun h => by cases h) fun _ => ?_
    refine bl_ifR (px_is (l := false) (px_cmp op_eq (pv_lenL (pv_var 1) b1.len) pv_int sc_eqI) rfl) (fun h => by cases h) fun _ => ?_
    refine bl_ifR (px_is (l := false) (px_cmp op_eq (pv_lenL (pv_var 1) b1.len) pv_int sc_eqI) rfl) (fun h => by cases h) fun _ => ?_
    refine bl_ifR (px_is (l := false) (px_cmp op_eq (pv_lenL (pv_var 1) b1.len) pv_int sc_eqI) rfl) (fun h => by cases h) fun _ => ?_
    refine bl_retO (eo_call (Φ := fun o Γ' => (∀ z ∈ ([a, b, c, d, g] : List Str), z ∈ ks) ∧ o = .obj "Mapping" (dMap (subO r ks) (subO r (leftG r [a, b, c, d, g] ks)) (imgsG r [a, b, c, d, g] ks))) (N r ks [a, b, c, d, g] (show 5 ≤ 9000 by decide)) hr (by omega) tk (pvs_av (pvs_cons (pv_var 0) (pvs_cons (pv_s ix_list (pv_var 1) pv_int (sc_ixL rfl)) (pvs_cons (pv_s ix_list (pv_var 1) pv_int (sc_ixL rfl)) (pvs_cons (pv_s ix_list (pv_var 1) pv_int (sc_ixL rfl)) (pvs_cons (pv_s ix_list (pv_var 1) pv_int (sc_ixL rfl)) (pvs_cons (pv_s ix_list (pv_var 1) pv_int (sc_ixL rfl)) pvs_nil))))))) ?_) fun o' Γ1 ⟨g1, g2⟩ => ⟨g1, by rw [g2]⟩
    rintro ds Γ1 ⟨rfl, rfl⟩
    exact ⟨⟨(show 1 ≤ 6 by decide), (show 6 ≤ 10000 by decide), rfl, o⟩, fun _ ⟨g1, g2⟩ => ⟨_, g2, g1, rfl⟩, fun _ _ h => h⟩
  | _ :: _ :: _ :: _ :: _ :: _ :: _, h => exact absurd h (by simp)
end
end Kf
end
section
set_option maxRecDepth 100000
set_option maxHeartbeats 1000000
/-! KhD: a new list within a new list: told, looked at, the inner one cleared. -/
namespace Kf
open PySem L2
theorem frz_nw {K : Fg} {e : Ent} {Γ : Gam} {S H : Hp} {σ : L2.St} {p q : Addr} {u : V} {xs : List V} {d : D} {l : List D} (w : Wd K e S H σ Γ) (sp : S p = none) (sq : S q = none) (ne : p ≠ q) (hp : H p = some (.lst [u, .ref q])) (hq : H q = some (.lst xs)) (ru : Rp K S u d) (rx : RpL K S xs l) (p0 : e.H0 p = none) (q0 : e.H0 q = none)
    (np : ∀ (i : Nat) (o' : O), Γ[i]? = some (some (.ow o')) → σ[i]? ≠ some (some (.ref p))) (nq : ∀ (i : Nat) (o' : O), Γ[i]? = some (some (.ow o')) → σ[i]? ≠ some (some (.ref q))) :
    ∃ S', Same S S' ∧ (∀ b, b ≠ p → b ≠ q → S' b = S b) ∧ Wd K e S' H σ Γ ∧ Rp K S' (.ref p) (.lst [d, .lst l]) := by
  obtain ⟨S1, s1, k1, w1, r1⟩ := own_st (o := .lst l) w sq ⟨xs, hq, rx⟩ q0 nq
  obtain ⟨S2, s2, k2, w2, r2⟩ := own_st (o := .lst [d, .lst l]) w1 (by rw [k1 p ne]; exact sp) ⟨_, hp, .cons (ru.mono s1) (.cons r1 .nil)⟩ p0 np
  exact ⟨S2, s1.trans s2, fun b h1 h2 => (k2 b h1).trans (k1 b h2), w2, r2⟩
section
variable {X : Cx} {e : Ent} {Γ : Gam} {k : Kn} {rest : List Stmt} {j n : Nat} {a : Expr} {es : List Expr} {x : Str} {p pos lp : Pos}
/-- return [x, y], y a new list -/
theorem bl_retN {y1 y2 : Expr} {d : D} {Φ : O → Gam → Prop} (h1 : PV X e y1 Γ d) (h2 : EO X e y2 Γ Φ) (hr : ∀ o Γ', Φ o Γ' → ∃ l, o = .lst l ∧ k.rt (.nw d l) Γ') (hs1 : starEach [y1, y2] X.env = (false, eval y1 X.env) :: starEach [y2] X.env := by rfl) (hs2 : starEach [y2] X.env = (false, eval y2 X.env) :: starEach [] X.env := by rfl) :
    BL X e (.Return (some (.List [y1, y2] lp)) pos :: rest) Γ k :=
  bl_cons (fun _ => False) (PS.imp (ps_ret (pe_lst (pa_cons h1 (pa_cons h2 pa_nil hs2) hs1))) fun D σ H ⟨S, w, nx, _, _, rt⟩ => ⟨S, w, fun S1 H1 v1 s1 w1 r1 => ⟨S1, w1, fun S2 H2 q o Γ' ho s2 w2 sq ow hq => by
    obtain ⟨l, rfl, hk⟩ := hr o Γ' ho
    obtain ⟨xs, hx, rx⟩ := ow
    refine ⟨(show 2 ≤ sizeLine from Nat.le_trans (show 2 ≤ 1000 by decide) (by decide)), fun c hc => ?_⟩
    have nc : c ≠ q := fun z => by rw [z, hx] at hc; cases hc
    refine rt S2 σ _ _ _ Γ' hk (s1.ss.trans s2.ss) (w2.own hc) ⟨c, q, v1, xs, rfl, w2.nx.sh.free hc, sq, nc, upd_same, ?_, r1.mono s2.ss, rx, w2.nx.fresh hc, w1.nx.fresh hq⟩
    rw [upd_ne (Ne.symm nc)]
    exact hx⟩⟩) fun _ q => q.elim
/-- f(..), a new list within a new one, looked at -/
theorem pv_callN {c : Fp} {ds : List D} {d : D} {l : List D} (N : XDn X x n (spP X.K c)) (hr : Room j X.A) (hj : n ≤ j) (ha : PVs X e (a :: es) Γ ds) (hp : c.pre ds) (hq : ∀ b, c.post ds b → b = .nw d l) (hx : ∀ y fl, ¬ c.exn ds y fl) (hg : Gl X x := by rfl) (hdb : (x == ("__debug__" : Str)) = false := by decide)
    (he : starEach (a :: es) X.env = (false, eval a X.env) :: starEach es X.env := by rfl) (hpl : (backTo pos (starEach es X.env)).any (·.1) = false := by rfl) : PV X e (.Call (.Name x p) (a :: es) [] pos) Γ (.lst [d, .lst l]) :=
  PE.imp (pe_callW N.fn (hr.mono hj) takes0 hg N.at_ N.kp ha hdb he hpl) fun σ H Q ⟨S, w, q⟩ => ⟨S, w, fun S1 H1 vs s1 w1 r1 => ⟨S1, ds, w1.nx.sh, r1, hp, fun S2 H2 v b hb n2 r2 => by
    obtain ⟨w2, s2⟩ := w1.after n2
    rw [hq b hb] at r2
    obtain ⟨c1, c2, u, xs, rfl, e2, e3, e4, e5, e6, e7, e8, e9, e10⟩ := r2
    obtain ⟨S3, s3, k3, w3, r3⟩ := frz_nw w2 e2 e3 e4 e5 e6 e7 e8 (w1.nx.fresh e9) (w1.nx.fresh e10) (w1.fresh_ne e9) (w1.fresh_ne e10)
    have pu := s1.trans s2
    exact q S3 H2 _ ⟨pu.ss.trans s3, pu.hh, fun b hb => (k3 b (fun z => by rw [z] at hb; exact hb (s1.hh.free e9)) fun z => by rw [z] at hb; exact hb (s1.hh.free e10)).trans (pu.old b hb)⟩ w3 r3, fun S2 H2 y fl cls dd hy => (hx y fl hy).elim⟩⟩
/-- y = f(..); if t: ..; y[1].clear(), y a new list with a new one, the test false -/
theorem bl_told {c : Fp} {ds : List D} {d : D} {l : List D} {nm : Str} {np np2 sp cp cpos ap ip q r : Pos} {ck : Nat} {t : Expr} {body : List Stmt} (i : Nat) (N : XDn X x n (spP X.K c)) (hr : Room j X.A) (hj : n ≤ j) (ha : PVs X e (a :: es) Γ ds) (hp : c.pre ds) (hq : ∀ b, c.post ds b → b = .nw d l) (hx : ∀ y fl, ¬ c.exn ds y fl)
    (hst : ∀ (jj : Nat) (b : B), Γ[jj]? = some (some b) → ∃ d, b = .st d) (hown : e.own = none) (ht : PX X e t (Γ.set i (some (.st (.lst [d, .lst l])))) false) (hrest : BL X e rest (Γ.set i none) k) (hN : X.N.Nodup := by assumption) (hi : X.N[i]? = some nm := by rfl) (hil : i < Γ.length := by decide) (hlo : Loc X.env.scope nm := by first | exact .inl rfl | exact .inr rfl)
    (hv : Vis X.env.scope nm := by first | exact Or.inl rfl | exact Or.inr (Or.inl rfl) | exact Or.inr (Or.inr rfl)) (hd1 : (nm == ("__debug__" : Str)) = false := by decide) (hd2 : (nm == ("__classdict__" : Str)) = false := by decide)
    (hs : swapsWith (.Call (.Name x p) (a :: es) [] cp) (some (.Name nm np)) ap.line X.env = pure false := by rfl) (hf : X.fn nm = true ∨ X.env.scope.names.lookup nm = some .local := by first | exact .inl rfl | exact .inr rfl)
    (hg : Gl X x := by rfl) (hdb : (x == ("__debug__" : Str)) = false := by decide) (he : starEach (a :: es) X.env = (false, eval a X.env) :: starEach es X.env := by rfl) (hpl : (backTo cp (starEach es X.env)).any (·.1) = false := by rfl)
    (hb : attributeBase (.Subscript (.Name nm np2) (.Constant (.int 1) ck cpos) sp) "clear" X.env (eval (.Subscript (.Name nm np2) (.Constant (.int 1) ck cpos) sp) X.env) = eval (.Subscript (.Name nm np2) (.Constant (.int 1) ck cpos) sp) X.env := by rfl) (hl : (q.endLine == r.line) = true := by rfl)
    (hs3 : swapsWith (.Call (.Attribute (.Subscript (.Name nm np2) (.Constant (.int 1) ck cpos) sp) "clear" q) [] [] r) none pos.line X.env = pure false := by rfl) :
    BL X e (.Assign [.Name nm np] (.Call (.Name x p) (a :: es) [] cp) ap :: .If t body [] ip :: .Expr (.Call (.Attribute (.Subscript (.Name nm np2) (.Constant (.int 1) ck cpos) sp) "clear" q) [] [] r) pos :: rest) Γ k := by
  have hcall : PE X (.Call (.Name x p) (a :: es) [] cp) (fun σ H Q => ∃ S, Wd X.K e S H σ Γ ∧ ∀ S2 H2 c1 c2 u xs, Pur S H S2 H2 → Wd X.K e S2 H2 σ Γ → S2 c1 = none → S2 c2 = none → c1 ≠ c2 → H2 c1 = some (.lst [u, .ref c2]) → H2 c2 = some (.lst xs) → Rp X.K S2 u d → RpL X.K S2 xs l → H c1 = none → H c2 = none → Q (.ref c1) H2) :=
    PE.imp (pe_callW N.fn (hr.mono hj) takes0 hg N.at_ N.kp ha hdb he hpl) fun σ H Q ⟨S, w, q⟩ => ⟨S, w, fun S1 H1 vs s1 w1 r1 => ⟨S1, ds, w1.nx.sh, r1, hp, fun S2 H2 v b hb n2 r2 => by
      obtain ⟨w2, s2⟩ := w1.after n2
      rw [hq b hb] at r2
      obtain ⟨c1, c2, u, xs, rfl, e2, e3, e4, e5, e6, e7, e8, e9, e10⟩ := r2
      exact q S2 H2 c1 c2 u xs (s1.trans s2) w2 e2 e3 e4 e5 e6 e7 e8 (s1.hh.free e9) (s1.hh.free e10), fun S2 H2 y fl cls dd hy => (hx y fl hy).elim⟩⟩
  have P1 := ps_set (pos := ap) (pos' := np) hN hi hlo hcall hs hf
  have P2 : PS X (.If t body [] ip) (tIfS (tPX X.K e (Γ.set i (some (.st (.lst [d, .lst l])))) false) (fun _ _ _ => False) tNext) := ps_if ht ⟨fun _ _ _ _ _ _ h => h.elim⟩ pss_nil
  have P3 : PS X (.Expr (.Call (.Attribute (.Subscript (.Name nm np2) (.Constant (.int 1) ck cpos) sp) "clear" q) [] [] r) pos) (tDrop (tBM0 X.K "list" rClear (tOp (rIxL X.K) (tVar i) (tC (.int 1))))) :=
    ps_expr (pe_bm0 PySem.F.plainAttrs_list PySem.F.slot_list_clear PySem.F.type_list_clear mt_clear (pe_ix ix_list (pe_var hi hv hd1 hd2) pe_int (fun _ _ => rfl)) hb hl) hs3
  refine PSs.imp (pss_cons P1 (pss_cons P2 (pss_cons P3 hrest))) fun D σ H ⟨S, w, nx, bk, ct, rt⟩ => ⟨S, w, fun S2 H2 c1 c2 u xs pu w2 e2 e3 e4 e5 e6 e7 e8 e9 e10 => ?_⟩
  obtain ⟨S3, s3, k3, w3, r3⟩ := frz_nw w2 e2 e3 e4 e5 e6 e7 e8 (w.nx.fresh e9) (w.nx.fresh e10) (w.fresh_ne e9) (w.fresh_ne e10)
  refine ⟨S3, w3.set r3 (.inl hown), fun S4 H4 pu4 w4 => ?_⟩
  refine iteF ?_
  have hil' : i < σ.length := by rw [w.sl.len]; exact hil
  have hσ : (σ.set i (some (V.ref c1)))[i]? = some (some (.ref c1)) := by rw [List.getElem?_set_self hil']
  have h41 := pu4.hh _ _ e5
  have h42 := pu4.hh _ _ e6
  refine ⟨.ref c1, hσ, c1, [u, .ref c2], 1, .ref c2, rfl, rfl, SqL.of h41, rfl, .inl ⟨rfl, xs, SqL.of h42⟩, c2, xs, rfl, rfl, h42, ?_⟩
  have n4 : Nx e S2 H4 := ⟨w2.nx.ss, w2.nx.sh.trans pu4.hh, w4.nx.hh, w4.nx.al, w2.nx.old⟩
  refine ⟨S2, ⟨n4.put e3 (.inl (w.nx.fresh e10)), by rw [List.length_set, List.length_set]; exact w2.sl.len, fun jj b hjb => ?_, fun i1 j1 o1 o2 aa g1 => ?_, fun aa z => by rw [hown] at z; cases z⟩, fun S5 σ5 H5 Γ5 g5 s5 w5 => nx S5 σ5 H5 Γ5 g5 (pu.ss.trans s5) w5, fun S5 σ5 H5 Γ5 g5 s5 w5 => bk S5 σ5 H5 Γ5 g5 (pu.ss.trans s5) w5, fun S5 σ5 H5 Γ5 g5 s5 w5 => ct S5 σ5 H5 Γ5 g5 (pu.ss.trans s5) w5, fun S5 σ5 H5 v b Γ5 g5 s5 w5 => rt S5 σ5 H5 v b Γ5 g5 (pu.ss.trans s5) w5⟩
  · rcases get_set hjb with ⟨_, z⟩ | ⟨ne, z⟩
    · cases z
    · obtain ⟨d', rfl⟩ := hst jj b z
      obtain ⟨v, h1, h2⟩ := w2.sl.at_ jj _ z
      exact ⟨v, by rw [List.getElem?_set_ne ne]; exact h1, h2⟩
  · rcases get_set g1 with ⟨_, z⟩ | ⟨ne, z⟩
    · cases z
    · obtain ⟨d', z'⟩ := hst i1 _ z
      cases z'
end
end Kf
end
section
set_option maxRecDepth 100000
set_option maxHeartbeats 1000000
/-! KhE: k80's _law_asked: walked. -/
namespace Kf
open PySem L2
structure Er8 (K : Fg) (mg : Str → Option Value) : Prop where
  gNL : mg "NotListed" = some (.ref (He.ga K "NotListed"))
  gBC : mg "BadCount" = some (.ref (He.ga K "BadCount"))
  gKE : mg "KindError" = some (.ref (He.ga K "KindError"))
  gVE : mg "ValueError" = none
  nl : XkC K "NotListed"
  fNL : PySem.W.findIn K (.ref (He.ga K "NotListed")) "name" = some none
  ve : PySem.W.kitOne K (.ref (He.ga K "NotListed")) (.type "ValueError") = some true
  ke : PySem.W.exmOne K (.ref (He.ga K "NotListed")) (.ref (He.ga K "KindError")) = some true
  nlnl : IsK K "NotListed" "NotListed" true
  nlbc : IsK K "NotListed" "BadCount" false
section
variable {P : Program} {w : World} {K : Fg} {mg : Str → Option Value} {base : Heap}
def cAsk8 (r : Str → Str → Bool) (ks ns : List Str) (way : Int) : Fp where
  pre ds := ds = [(subO r ks).d, dStrs ns, .int way] ∧ OrdG r ks ∧ (way = 0 ∨ ∃ z ∈ ns, z ∉ ks)
  post ds b := ((∀ z ∈ ns, z ∈ ks) ∧ b = .nw (.str "told") (spairsD (foldsG r ns ks.length ks).1)) ∨ (∃ z ∈ ns, z ∉ ks ∧ b = .st (.lst [.str "NotListed", .str z]))
  exn _ _ _ := False
abbrev s_ask8 : Stmt := top 55
abbrev nAsk8 : List Str := ["order", "names", "way", "e"]
theorem scAsk8 : FnScope nAsk8 ["order", "names", "way"] (defScope s_ask8) := ⟨rfl, rfl, rfl, by decide +kernel, rfl, by decide +kernel, by decide +kernel⟩
theorem ok_ask8 {f : Addr} {fd : FuncData} (F : FunS K "_law_asked" s_ask8 f fd) (b : Bi mg) (er : Er8 K mg) (mc : MpC K mg) (N1 : ∀ r ks ns, ns.length ≤ 5 → Dx P w K mg base "_law_told_folds" 8 (cTF r ks ns)) (N2 : ∀ r ks ns, ns.length ≤ 5 → Dx P w K mg base "_law_trim" 9 (cTT r ks ns)) (r : Str → Str → Bool) (ks ns : List Str) (way : Int) (hns : ns.length ≤ 5) : FnOk P w K mg base (L2.CX P w) 10 f fd ["order", "names", "way"] (spP K (cAsk8 r ks ns way)) := by
  refine fp_ok F scAsk8 (fun ds ⟨h, _⟩ => by rw [h]; rfl) fun cdv A outer s e Ex ds ho ⟨hd, o, hw0⟩ hr tk => ?_
  subst hd
  have nd := scAsk8.nd
  refine bl_try 3 (.ref (He.ga K "KindError")) (fun y fl Γ => y = "NotListed" ∧ ∃ z ∈ ns, z ∉ ks ∧ fl = [(("name" : Str), D.str z)] ∧ Γ = [sD (subO r ks).d, sD (dStrs ns), sD (.int way), none]) rfl rfl nd ⟨rfl, by decide, .inl er.gKE⟩ (fun S pn xe tk2 => ?_) (fun y fl Γ1 h => by rw [h.1]; exact er.ke) (fun S a oe d pn y fl Γ1 h hz hf => ?_) (hz := .inl ho)
  · refine bl_ifR (px_cmp op_eq (pv_var 2) pv_int sc_eqI) (fun hw => ?_) fun hw => ?_
    · have hw' : way = 0 := of_decide_eq_true hw
      refine bl_retN (d := .str "told") (Φ := fun o' _ => (∀ z ∈ ns, z ∈ ks) ∧ o' = .lst (spairsD (foldsG r ns ks.length ks).1)) pv_str (eo_call (N1 r ks ns hns) hr (by omega) tk2 (pvs_av (pvs_cons (pv_var 0) (pvs_cons (pv_var 1) pvs_nil))) ?_) ?_
      · rintro ds Γ1 ⟨rfl, rfl⟩
        exact ⟨⟨rfl, o⟩, fun _ ⟨g1, g2⟩ => ⟨_, g2, g1, rfl⟩, fun y fl ⟨g1, z, g2, g3, g4⟩ => ⟨g1, z, g2, g3, g4, rfl⟩⟩
      · rintro o' Γ1 ⟨g1, rfl⟩
        exact ⟨_, rfl, .inl ⟨g1, rfl⟩⟩
    · have hw' : ¬ way = 0 := of_decide_eq_false hw
      obtain ⟨z0, z1, z2⟩ := hw0.resolve_left hw'
      refine bl_ret (Φ := fun _ _ => ∀ z ∈ ns, z ∈ ks) (ev_lst (Φa := fun ds _ => ds.length = 2 ∧ ∀ z ∈ ns, z ∈ ks) (av_two (Φb := fun d Γ => ∀ z ∈ ns, z ∈ ks) pv_str (ev_fld (Φ := fun d Γ => (∀ z ∈ ns, z ∈ ks) ∧ d = .obj "Mapping" (dMap (subO r ks) (subO r (leftG r ns ks)) (imgsG r ns ks))) mc.cls mc.ni (ev_call (N2 r ks ns hns) hr (by omega) tk2 (pvs_av (pvs_cons (pv_var 0) (pvs_cons (pv_var 1) pvs_nil))) ?_) ?_) ?_) ?_) ?_
      · rintro ds Γ1 ⟨rfl, rfl⟩
        exact ⟨⟨rfl, o⟩, fun _ ⟨g1, g2⟩ => ⟨_, .inr ⟨_, g2, rfl⟩, g1, rfl⟩, fun y fl ⟨g1, z, g2, g3, g4⟩ => ⟨g1, z, g2, g3, g4, rfl⟩⟩
      · rintro d Γ1 ⟨g1, rfl⟩
        exact ⟨_, _, rfl, rfl, g1⟩
      · rintro d Γ1 g1
        exact ⟨rfl, g1⟩
      · rintro ds Γ1 ⟨g0, g1⟩
        exact ⟨by rw [g0]; exact Nat.le_trans (show 2 ≤ 1000 by decide) (by decide), g1⟩
      · rintro d Γ1 g1
        exact absurd (g1 z0 z1) z2
  · obtain ⟨rfl, z, z1, z2, rfl, rfl⟩ := h
    refine bl_ifR (px_w (pw_a (k := true) (l := true && !false) (px_val (pv_isX (x := "NotListed") 3 true er.nl.ex hz hf rfl b.isinstance (.inl ⟨er.gNL, er.nlnl⟩))) fun _ => pw_a (k := true) (l := !false) (px_val (pv_isX (x := "NotListed") 3 true er.nl.ex hz hf rfl b.isinstance (.inr ⟨"ValueError", er.gVE, by decide +kernel, by decide, er.ve⟩))) fun _ => pw_a1 (px_not (px_val (pv_isX (x := "NotListed") 3 false er.nl.ex hz hf rfl b.isinstance (.inl ⟨er.gBC, er.nlbc⟩)))))) (fun _ => ?_) fun h => by cases h
    exact bl_retP (d := .lst [.str "NotListed", .str z]) (pv_lst (pvs_cons pv_str (pvs_cons (pv_xf (x := "NotListed") 3 er.nl.xf er.fNL hz hf (dt := .str z) rfl) pvs_nil))) (.inr ⟨z, z1, z2, rfl⟩)
end
end Kf
end
section
set_option maxRecDepth 100000
set_option maxHeartbeats 1000000
/-! KhF: plain: the law's folds by numbers are the program's by names. -/
namespace Kf
open PySem L2
abbrev nmO (ks : List Str) (i : Nat) : Str := ks.getD i ⟨#[]⟩
abbrev nmP (ks : List Str) (f : Nat × Nat) : Str × Str := (nmO ks f.1, nmO ks f.2)
structure Lk (r : Str → Str → Bool) (ks : List Str) (n : Nat) (R : Nat → Nat → Bool) : Prop where
  o : OrdG r ks
  len : ks.length = n
  tr : ∀ a b, a < n → b < n → r (nmO ks a) (nmO ks b) = R a b
section
variable {r : Str → Str → Bool} {ks : List Str} {n : Nat} {R : Nat → Nat → Bool} {kept : List Nat}
theorem Lk.range (l : Lk r ks n R) : (List.range n).map (nmO ks) = ks := by
  have hn := l.len
  refine List.ext_getElem? fun i => ?_
  rw [List.getElem?_map]
  by_cases h : i < n
  · rw [List.getElem?_range h, getD_at (show i < ks.length by omega)]
    rfl
  · rw [List.getElem?_eq_none (by rw [List.length_range]; omega), List.getElem?_eq_none (by omega)]
    rfl
theorem Lk.inj (l : Lk r ks n R) {a b : Nat} (ha : a < n) (hb : b < n) (h : nmO ks a = nmO ks b) : a = b := by
  have hn := l.len
  have h1 := getD_at (show a < ks.length by omega)
  have h2 := getD_at (show b < ks.length by omega)
  rw [show ks.getD a ⟨#[]⟩ = ks.getD b ⟨#[]⟩ from h] at h1
  exact (List.getElem?_inj (show a < ks.length by omega) l.o.nd).mp (h1.trans h2.symm)
theorem Lk.t (l : Lk r ks n R) : Tr (nmO ks) R r (List.range n) := ⟨fun a b ha hb => l.inj (List.mem_range.mp ha) (List.mem_range.mp hb), fun a b ha hb => l.tr a b (List.mem_range.mp ha) (List.mem_range.mp hb)⟩
theorem Lk.mem (l : Lk r ks n R) {a : Nat} (ha : a < n) : nmO ks a ∈ ks := getD_mem (by have := l.len; omega)
theorem Lk.po (l : Lk r ks n R) : PoG R (List.range n) := by
  refine ⟨fun a ha => ?_, fun a b c ha hb hc h1 h2 => ?_, fun a b ha hb h1 h2 => ?_⟩
  · have ha' := List.mem_range.mp ha
    rw [← l.tr a a ha' ha']
    exact l.o.po.refl _ (l.mem ha')
  · have ha' := List.mem_range.mp ha
    have hb' := List.mem_range.mp hb
    have hc' := List.mem_range.mp hc
    rw [← l.tr a b ha' hb'] at h1
    rw [← l.tr b c hb' hc'] at h2
    rw [← l.tr a c ha' hc']
    exact l.o.po.trans _ _ _ (l.mem ha') (l.mem hb') (l.mem hc') h1 h2
  · have ha' := List.mem_range.mp ha
    have hb' := List.mem_range.mp hb
    rw [← l.tr a b ha' hb'] at h1
    rw [← l.tr b a hb' ha'] at h2
    exact l.inj ha' hb' (l.o.po.anti _ _ (l.mem ha') (l.mem hb') h1 h2)
theorem Lk.fold (l : Lk r ks n R) (hk : ∀ k ∈ kept, k < n) : foldsG r (kept.map (nmO ks)) ks.length ks = ((foldsN n R kept).1.map (nmP ks), (foldsN n R kept).2.map (nmO ks)) := by
  have := folds_tr (kept := kept) n (List.range n) l.t fun a ha b hb => l.inj (hk a ha) (List.mem_range.mp hb)
  rw [l.range] at this
  rw [l.len]
  exact this
theorem Lk.left (l : Lk r ks n R) (hk : ∀ k ∈ kept, k < n) : leftG r (kept.map (nmO ks)) ks = (foldsN n R kept).2.map (nmO ks) := by
  unfold leftG
  rw [l.fold hk]
theorem Lk.spec (l : Lk r ks n R) : (∀ x ∈ (foldsN n R kept).2, x < n) ∧ (∀ x, x < n → imgG (foldsN n R kept).1 x ∈ (foldsN n R kept).2) ∧ (∀ x y, x < n → y < n → R x y = true → R (imgG (foldsN n R kept).1 x) (imgG (foldsN n R kept).1 y) = true) ∧ (∀ x, x < n → x ∈ kept → x ∈ (foldsN n R kept).2) := by
  obtain ⟨g1, g2, g3, g4, g5⟩ := folds_spec (kept := kept) n (List.range n) l.po
  exact ⟨fun x hx => List.mem_range.mp (g1 x hx), fun x hx => g2 x (List.mem_range.mpr hx), fun x y hx hy => g4 x y (List.mem_range.mpr hx) (List.mem_range.mpr hy), fun x hx => g5 x (List.mem_range.mpr hx)⟩
theorem foldsN_lt : ∀ f ∈ (foldsN n R kept).1, f.1 < n ∧ f.2 < n := fun f hf => by
  obtain ⟨h1, h2⟩ := folds_in n (List.range n) f hf
  exact ⟨List.mem_range.mp h1, List.mem_range.mp h2⟩
theorem Lk.imgs (l : Lk r ks n R) (hk : ∀ k ∈ kept, k < n) : imgsG r (kept.map (nmO ks)) ks = (List.range n).map fun k => nmO ks (imgG (foldsN n R kept).1 k) := by
  unfold imgsG
  rw [l.fold hk]
  have e : ∀ g : Str → Str, ks.map g = (List.range n).map fun k => g (nmO ks k) := fun g => by
    rw [show (fun k => g (nmO ks k)) = g ∘ nmO ks from rfl, ← List.map_map, l.range]
  rw [e]
  refine List.map_congr_left fun k hk => ?_
  exact img_tr (L := List.range n) _ k (fun f hf x hx q => l.inj (foldsN_lt f hf).1 (List.mem_range.mp hx) q) hk fun f hf => List.mem_range.mpr (foldsN_lt f hf).2
theorem Lk.ends (l : Lk r ks n R) (hk : ∀ k ∈ kept, k < n) : ∀ m, foldsG r (kept.map (nmO ks)) m ((foldsN n R kept).2.map (nmO ks)) = ([], (foldsN n R kept).2.map (nmO ks)) := fun m => by
  have := folds_end (r := r) (kept := kept.map (nmO ks)) ks.length ks (Nat.le_refl _)
  rw [l.fold hk] at this
  exact folds_none this m
theorem Lk.left2 (l : Lk r ks n R) (hk : ∀ k ∈ kept, k < n) : leftG r (kept.map (nmO ks)) ((foldsN n R kept).2.map (nmO ks)) = (foldsN n R kept).2.map (nmO ks) := by
  unfold leftG
  rw [l.ends hk]
theorem Lk.imgs2 (l : Lk r ks n R) (hk : ∀ k ∈ kept, k < n) : imgsG r (kept.map (nmO ks)) ((foldsN n R kept).2.map (nmO ks)) = (foldsN n R kept).2.map (nmO ks) := by
  unfold imgsG
  rw [l.ends hk]
  show List.map (fun k => k) _ = _
  rw [List.map_id']
/-! the part's pairs -/
theorem Lk.part (l : Lk r ks n R) {M : List Nat} (hM : ∀ x ∈ M, x < n) : named ks (partP R M) = relS (M.map (nmO ks)) fun x => (M.map (nmO ks)).filter (r x) := by
  unfold named partP relS
  rw [List.map_flatMap, List.flatMap_map]
  refine flatMap_congr' fun a ha => ?_
  show ((M.filter (R a)).map fun b => (a, b)).map _ = ((M.map (nmO ks)).filter (r (nmO ks a))).map _
  rw [List.map_map, List.filter_map, List.map_map]
  have : M.filter (r (nmO ks a) ∘ nmO ks) = M.filter (R a) := List.filter_congr fun b hb => l.tr a b (hM a ha) (hM b hb)
  rw [this]
  rfl
theorem above_self {ls : List Str} (P : PoG r ls) {x : Str} (hx : x ∈ ls) : aboveS ls (relS ls fun x => ls.filter (r x)) x = ls.filter (r x) := by
  have h := above_rel (ks := ls) P (fun z hz => hz) hx
  have e : ((relS ls fun x => ls.filter (r x)).filter fun p => decide (p.1 ∈ ls) && decide (p.2 ∈ ls)) = relS ls fun x => ls.filter (r x) := List.filter_eq_self.mpr fun p hp => by
    obtain ⟨h1, h2⟩ := mem_relS.mp hp
    rw [decide_eq_true h1, decide_eq_true (List.mem_filter.mp h2).1]
    rfl
  rw [e] at h
  exact h
end
end Kf
end
section
set_option maxRecDepth 100000
set_option maxHeartbeats 2000000
/-! KhG: k80's _law_right: walked. -/
namespace Kf
open PySem L2
section
variable {X : Cx} {e : Ent} {Γ : Gam} {a b : Expr} {op : Operator} {pos : Pos} {k j : Nat} {C : Str} {fs gs : List (Str × D)}
theorem pn_binO {c : Fp} {o : O} (N : Bd X.prog X.w X.K X.mg X.base C op k c) (hr : Room j X.A) (hj : k ≤ j) (ha : PV X e a Γ (.obj C fs)) (hb : PV X e b Γ (.obj C gs)) (hp : c.pre [.obj C fs, .obj C gs]) (hq : ∀ b, c.post [.obj C fs, .obj C gs] b → b = .ow o) (hn : ∀ y fl, ¬ c.exn [.obj C fs, .obj C gs] y fl) :
    PN X e (.BinOp a op b pos) Γ o := by
  obtain ⟨g, g1, g2, F⟩ := N.fn
  exact PE.imp (pe_binW (W := wX X.K e fun _ _ _ => False) N.sf g1 g2 F (hr.mono hj) takes_none ha hb) fun σ H Q ⟨S, w, q⟩ => ⟨S, w, fun S1 H1 v1 s1 w1 r1 => ⟨S1, w1, fun S2 H2 v2 s2 w2 r2 => by
    cases r1 with
    | obj h1 h2 =>
      cases r2 with
      | obj h3 h4 =>
        refine ⟨_, _, _, _, _, _, rfl, rfl, w2.nx.sh _ _ (s2.ss _ _ h1), w2.nx.sh _ _ h3, S2, _, w2.nx.sh, .cons (.obj (s2.ss _ _ h1) (h2.mono s2.ss)) (.cons (.obj h3 h4) .nil), hp, fun S3 H3 v b hb n3 r3 => ?_, fun S3 H3 y fl cls dd hy => (hn y fl hy).elim⟩
        obtain ⟨w3, s3⟩ := w2.after n3
        rw [hq b hb] at r3
        obtain ⟨p3, rfl, sp3, ow3, z0⟩ := r3
        exact q S3 H3 p3 ((s1.trans s2).trans s3) w3 sp3 ow3 ((s1.trans s2).hh.free z0)⟩⟩
end
def allSt (Γ : Gam) : Bool := Γ.all fun x => match x with
  | none => true
  | some (.st _) => true
  | _ => false
theorem allSt_iff {Γ : Gam} (h : allSt Γ = true) : ∀ (jj : Nat) (b : B), Γ[jj]? = some (some b) → ∃ d, b = .st d := fun jj b hb => by
  have := List.all_eq_true.mp h _ (List.mem_of_getElem? hb)
  cases b with
  | st d => exact ⟨d, rfl⟩
  | ow o => cases this
  | xc a d fl => cases this
  | nw d l => cases this
section
variable {P : Program} {w : World} {K : Fg} {mg : Str → Option Value} {base : Heap}
def cRt8 (r : Str → Str → Bool) (ks : List Str) (n : Nat) (R : Nat → Nat → Bool) (kept : List Nat) : Fp where
  pre ds := ds = [(subO r ks).d, dStrs ks, dStrs (kept.map (nmO ks)), .lst (rowsD n R), .lst (natsD kept)] ∧ Lk r ks n R ∧ (∀ k ∈ kept, k < n) ∧ kept.length ≤ 5
  post ds b := b = .st (.bl true)
  exn _ _ _ := False
abbrev s_rt8 : Stmt := top 58
abbrev pRt8 : List Str := ["order", "names", "asked", "rows", "kept"]
abbrev nRt8 : List Str := ["order", "names", "asked", "rows", "kept", "found", "told", "images", "mapping", "part", "low", "high", "again", "fold", "k"]
theorem scRt8 : FnScope nRt8 pRt8 (defScope s_rt8) := ⟨rfl, rfl, rfl, by decide +kernel, rfl, by decide +kernel, by decide +kernel⟩
structure Rt8C (P : Program) (w : World) (K : Fg) (mg : Str → Option Value) (base : Heap) : Prop where
  b : Bi mg
  oc : OrC K mg
  mc : MpC K mg
  lf : ∀ n R kept, Dx P w K mg base "_law_folds" 2 (cLF n R kept)
  li : ∀ fs k, Dx P w K mg base "_law_image" 1 (cLI fs k)
  lp : ∀ n R l, Dx P w K mg base "_law_part_pairs" 1 (cLPP n R l)
  nd : Dx P w K mg base "_law_named" 1 cNamed
  ak : ∀ r ks ns way, ns.length ≤ 5 → Dx P w K mg base "_law_asked" 10 (cAsk8 r ks ns way)
  tt : ∀ r ks ns, ns.length ≤ 5 → Dx P w K mg base "_law_trim" 9 (cTT r ks ns)
  s0 : Dx P w K mg base "_law_same" 1 (cSame 0)
  s1 : Dx P w K mg base "_law_same" 2 (cSame 1)
  s2 : Dx P w K mg base "_law_same" 3 (cSame 2)
  s3 : Dx P w K mg base "_law_same" 4 (cSame 3)
  oe : ∀ ks E ls G, Od P w K mg base "Order" "Order" .Eq 4 (cOrdEq ks E ls G)
  me : ∀ s t im s2 t2 im2, Od P w K mg base "Mapping" "Mapping" .Eq 5 (cMapEq s t im s2 t2 im2)
  th : ∀ s t t2 im im2, Bd P w K mg base "Mapping" .RShift 7 (cThen s t t2 im im2)
  om : ∃ fI, Mk K (He.ga K "Order") fI ∧ ∀ ks prs, FnR P w K mg base (L2.CX P w) 4 fI (spO K (cOrdI ks prs))
theorem ok_rt8 {f : Addr} {fd : FuncData} (F : FunS K "_law_right" s_rt8 f fd) (C : Rt8C P w K mg base) (r : Str → Str → Bool) (ks : List Str) (n : Nat) (R : Nat → Nat → Bool) (kept : List Nat) : FnOk P w K mg base (L2.CX P w) 11 f fd pRt8 (spP K (cRt8 r ks n R kept)) := by
  refine fp_ok F scRt8 (fun ds ⟨h, _⟩ => by rw [h]; rfl) fun cdv A outer s e Ex ds ho ⟨hd, lk, hk, hk5⟩ hr tk => ?_
  subst hd
  have nd := scRt8.nd
  obtain ⟨fI, M, FI⟩ := C.om
  have b := C.b
  have o := lk.o
  have hlen := lk.len
  have h10 := o.l10
  have hkl : (kept.map (nmO ks)).length ≤ 5 := by rw [List.length_map]; exact hk5
  have hin : ∀ z ∈ kept.map (nmO ks), z ∈ ks := fun z hz => by
    obtain ⟨k, h1, rfl⟩ := List.mem_map.mp hz
    exact lk.mem (hk k h1)
  have lr : (rowsD n R).length = n := rowsD_len
  have hfold := lk.fold hk
  have hleft := lk.left hk
  have himgs := lk.imgs hk
  have hends := lk.ends hk
  have hleft2 := lk.left2 hk
  have himgs2 := lk.imgs2 hk
  obtain ⟨sp1, sp2, sp3, sp4⟩ := lk.spec (kept := kept)
  have hlt := foldsN_lt (R := R) (kept := kept) (n := n)
  have ol : OrdG r ((foldsN n R kept).2.map (nmO ks)) := by
    rw [← hleft]
    exact left_ord o
  have hpart := lk.part sp1
  have hl2 : (foldsN n R kept).2.length ≤ 10 := by
    have := ol.l10
    rwa [List.length_map] at this
  have hl1 : (foldsN n R kept).1.length ≤ 10 := by
    have h1 : (foldsG r (kept.map (nmO ks)) ks.length ks).1.length ≤ 10 := Nat.le_trans (folds_len _ _) h10
    rw [hfold, List.length_map] at h1
    exact h1
  refine bl_letO 5 (hz := .inl ho) (pn_eo (pn_call (C.lf n R kept) hr (by omega) (pvs_cons (pv_var 3) (pvs_cons (pv_var 4) pvs_nil)) ⟨rfl, by omega⟩ (fun _ h => h) (fun _ _ h => h))) (bl_frz 5 rfl (.inl ho) ?_)
  generalize foldsN n R kept = FF at *
  obtain ⟨fs, lf⟩ := FF
  dsimp only at sp1 sp2 sp3 sp4 hlt ol hpart hl2 hl1 hfold hleft himgs hends hleft2 himgs2
  refine bl_at (Γ' := [sD (subO r ks).d, sD (dStrs ks), sD (dStrs (kept.map (nmO ks))), sD (.lst (rowsD n R)), sD (.lst (natsD kept)), sD (foundD (fs, lf)), none, none, none, none, none, none, none, none, none]) rfl ?_
  -- told
  refine bl_told 6 (d := .str "told") (l := spairsD (fs.map (nmP ks))) (C.ak r ks (kept.map (nmO ks)) 0 hkl) hr (by omega) (pvs_cons (pv_var 0) (pvs_cons (pv_var 2) (pvs_cons pv_int pvs_nil))) ⟨rfl, o, .inl rfl⟩ ?_ (fun _ _ h => h) (allSt_iff rfl) ho ?_ ?_ (hil := (show 6 < 15 by decide))
  · rintro bb (⟨_, h⟩ | ⟨z, h1, h2, _⟩)
    · rw [h, hfold]
    · exact absurd (hin z h1) h2
  · refine px_is (px_not (px_val (pv_call (ds := [.lst [.str "told", .lst (spairsD (fs.map (nmP ks)))], .lst [.str "told", .lst (spairsD (fs.map (nmP ks)))]]) (d := .bl true) C.s3 hr (by omega) (pvs_cons (pv_var 6) (pvs_cons (pv_lst (pvs_cons pv_str (pvs_cons (pn_pv (pn_is (o' := .lst (spairsD (fs.map (nmP ks)))) (pn_lcA (c := pairD) (u := uP) (l := fs) (f := fun p => [sD (subO r ks).d, sD (dStrs ks), sD (dStrs (kept.map (nmO ks))), sD (.lst (rowsD n R)), sD (.lst (natsD kept)), sD (foundD (fs, lf)), sD (.lst [.str "told", .lst (spairsD (fs.map (nmP ks)))]), none, none, none, none, none, none, sD (pairD p), none]) (own := [("fold", 13)]) (ix := [13]) (bind := bName 13) (fun _ => true) (fun p => spairD (nmO ks p.1, nmO ks p.2)) uP_pairD (blk nRt8 (defScope s_rt8)) nd
      (wp_list (pv_s ix_list (pv_var (d := foundD (fs, lf)) 5) pv_int (sc_ixL rfl))) (fun s H C cl fp => gv_name 13 nd (hz := .inl ho)) (bindOk_name 13) (by decide) (.inl ho) (by omega) (fun p _ => rfl) (fun p hp s H C' cl fp => pts_none)
      (fun p hp _ s H C' cl fp => pv_tup (pvs_cons (pv_s ix_list (pv_var 1) (pv_s ix_tup (pv_var (d := .tup [.int (p.1 : Int), .int (p.2 : Int)]) 13) pv_int (sc_ixT rfl)) (sc_ixL (atI_nat (strs_at (by have := (hlt p hp).1; omega))))) (pvs_cons (pv_s ix_list (pv_var 1) (pv_s ix_tup (pv_var (d := .tup [.int (p.1 : Int), .int (p.2 : Int)]) 13) pv_int (sc_ixT rfl)) (sc_ixL (atI_nat (strs_at (by have := (hlt p hp).2; omega))))) pvs_nil)))) (by rw [filter_true]; unfold spairsD; rw [List.map_map]; rfl))) pvs_nil))) pvs_nil)) ⟨_, rfl, ?_⟩ (fun _ h => h) (fun _ _ h => h.elim)))) rfl
    refine .lst (fun d hd => ?_) (show 2 ≤ 10000 by decide)
    rcases List.mem_cons.mp hd with rfl | hd
    · exact .str _ _
    · rw [List.mem_singleton.mp hd]
      refine .lst (fun d hd => ?_) (by unfold spairsD; rw [List.length_map, List.length_map]; omega)
      obtain ⟨p, _, rfl⟩ := List.mem_map.mp hd
      refine .tup (fun d hd => ?_) (show 2 ≤ 10000 by decide)
      rcases List.mem_cons.mp hd with rfl | hd
      · exact .str _ _
      · rw [List.mem_singleton.mp hd]
        exact .str _ _
  refine bl_at (Γ' := [sD (subO r ks).d, sD (dStrs ks), sD (dStrs (kept.map (nmO ks))), sD (.lst (rowsD n R)), sD (.lst (natsD kept)), sD (foundD (fs, lf)), none, none, none, none, none, none, none, none, none]) rfl ?_
  refine bl_letLcA 7 (hz2 := .inl ho) (c := cN) (u := uN) (l := List.range n) (f := fun k => [sD (subO r ks).d, sD (dStrs ks), sD (dStrs (kept.map (nmO ks))), sD (.lst (rowsD n R)), sD (.lst (natsD kept)), sD (foundD (fs, lf)), none, none, none, none, none, none, none, none, sI k]) (own := [("k", 14)]) (ix := [14]) (bind := bName 14) (fun _ => true) (fun k => cN (imgG fs k)) uN_cN (blk nRt8 (defScope s_rt8)) nd
    (by rw [← rng_nats]; exact wp_rng (pv_is (pv_lenL (pv_var 3) b.len) (by rw [lr])) (by omega) b.range) (fun s H C cl fp => gv_name 14 nd (hz := .inl ho)) (bindOk_name 14) (by decide) (.inl ho) (by simp only [List.length_map, List.length_range]; omega) (fun k _ => rfl) (fun k hk s H C' cl fp => pts_none) (fun k hk _ s H C' cl fp => pv_call (C.li fs k) hr (by omega) (pvs_cons (pv_s ix_list (pv_var (d := foundD (fs, lf)) 5) pv_int (sc_ixL rfl)) (pvs_cons (pv_var 14) pvs_nil)) rfl (fun _ h => h) (fun _ _ h => h)) ?_
  refine bl_frz 7 rfl (.inl ho) ?_
  refine bl_at (Γ' := [sD (subO r ks).d, sD (dStrs ks), sD (dStrs (kept.map (nmO ks))), sD (.lst (rowsD n R)), sD (.lst (natsD kept)), sD (foundD (fs, lf)), none, sD (.lst (natsD ((List.range n).map (imgG fs)))), none, none, none, none, none, none, none]) (by rw [filter_true]; unfold natsD; rw [List.map_map]; rfl) ?_
  -- mapping
  refine bl_letO 8 (hz := .inl ho) (pn_eo (pn_call (C.tt r ks (kept.map (nmO ks)) hkl) hr (by omega) (pvs_cons (pv_var 0) (pvs_cons (pv_var 2) pvs_nil)) ⟨rfl, o⟩ (fun b h => h.2) (fun y fl ⟨_, z, h1, h2, _⟩ => h2 (hin z h1)))) (bl_frz 8 rfl (.inl ho) ?_)
  refine bl_at (Γ' := [sD (subO r ks).d, sD (dStrs ks), sD (dStrs (kept.map (nmO ks))), sD (.lst (rowsD n R)), sD (.lst (natsD kept)), sD (foundD (fs, lf)), none, sD (.lst (natsD ((List.range n).map (imgG fs)))), sD (.obj "Mapping" (dMap (subO r ks) (subO r (lf.map (nmO ks))) ((List.range n).map fun k => nmO ks (imgG fs k)))), none, none, none, none, none, none]) (by rw [hleft, himgs]; rfl) ?_
  have iml : ((List.range n).map fun k => nmO ks (imgG fs k)).length ≤ 10 := by rw [List.length_map, List.length_range]; omega
  have hmg : ∀ k ∈ (List.range n).map (imgG fs), k < n := fun k hk => by
    obtain ⟨x, hx, rfl⟩ := List.mem_map.mp hk
    exact sp1 _ (sp2 x (List.mem_range.mp hx))
  refine bl_ifR (q := !true || !true) (px_w (pw_o (px_not (px_val (pv_call (ds := [.tup (((List.range n).map fun k => nmO ks (imgG fs k)).map .str), .tup (((List.range n).map fun k => nmO ks (imgG fs k)).map .str)]) (d := .bl true) C.s1 hr (by omega) (pvs_cons (pv_fld C.mc.cls C.mc.ni (pv_var 8) rfl) (pvs_cons (pv_tupL (pn_pv (pn_is (o' := .lst (((List.range n).map fun k => nmO ks (imgG fs k)).map .str)) (pn_lcA (c := cN) (u := uN) (l := (List.range n).map (imgG fs)) (f := fun k => [sD (subO r ks).d, sD (dStrs ks), sD (dStrs (kept.map (nmO ks))), sD (.lst (rowsD n R)), sD (.lst (natsD kept)), sD (foundD (fs, lf)), none, sD (.lst (natsD ((List.range n).map (imgG fs)))), sD (.obj "Mapping" (dMap (subO r ks) (subO r (lf.map (nmO ks))) ((List.range n).map fun k => nmO ks (imgG fs k)))), none, none, none, none, none, sI k]) (own := [("k", 14)]) (ix := [14]) (bind := bName 14) (fun _ => true) (fun k => .str (nmO ks k)) uN_cN (blk nRt8 (defScope s_rt8)) nd
    (wp_list (pv_var 7)) (fun s H C cl fp => gv_name 14 nd (hz := .inl ho)) (bindOk_name 14) (by decide) (.inl ho) (by simp only [List.length_map, List.length_range]; omega) (fun k _ => rfl) (fun k hk s H C' cl fp => pts_none) (fun k hk _ s H C' cl fp => pv_s ix_list (pv_var 1) (pv_var 14) (sc_ixL (atI_nat (strs_at (by have := hmg k hk; omega)))))) (by rw [filter_true, List.map_map, List.map_map]; rfl))) b.tuple) pvs_nil)) ⟨_, rfl, pl_tupS 0 _ (by omega)⟩ (fun _ h => h) (fun _ _ h => h.elim)))) fun _ => pw_o1 (px_not (px_own (t := true) (C.oe ks (subO r ks).E ks (subO r ks).E) (fun _ _ => rfl) hr (by omega) (pv_fld C.mc.cls C.mc.ns (pv_var 8) rfl) (pv_var 0) ⟨rfl, o.ok.rl, o.ok.rl⟩ (fun bb h => by rw [h]; exact congrArg (fun z => B.st (.bl z)) (eqO_self (o := subO r ks))) (fun _ _ h => h.elim))))) (fun h => by cases h) fun _ => ?_
  -- part
  have hpl : (partP R lf).length ≤ 100 := Nat.le_trans part_len (Nat.mul_le_mul hl2 hl2)
  have hrel := ol.rel
  refine bl_letO 9 (hz := .inl ho) (o := .obj "Order" (dOrd (lf.map (nmO ks)) (aboveS (lf.map (nmO ks)) (named ks (partP R lf))))) (eo_makeI M (FI (lf.map (nmO ks)) (named ks (partP R lf))) C.oc.gl hr (by omega) (pvs_cons (pn_pv (pn_is (o' := .lst ((lf.map (nmO ks)).map .str)) (pn_lcA (c := cN) (u := uN) (l := lf) (f := fun k => [sD (subO r ks).d, sD (dStrs ks), sD (dStrs (kept.map (nmO ks))), sD (.lst (rowsD n R)), sD (.lst (natsD kept)), sD (foundD (fs, lf)), none, sD (.lst (natsD ((List.range n).map (imgG fs)))), sD (.obj "Mapping" (dMap (subO r ks) (subO r (lf.map (nmO ks))) ((List.range n).map fun k => nmO ks (imgG fs k)))), none, none, none, none, none, sI k]) (own := [("k", 14)]) (ix := [14]) (bind := bName 14) (fun _ => true) (fun k => .str (nmO ks k)) uN_cN (blk nRt8 (defScope s_rt8)) nd
    (wp_list (pv_s ix_list (pv_var (d := foundD (fs, lf)) 5) pv_int (sc_ixL rfl))) (fun s H C cl fp => gv_name 14 nd (hz := .inl ho)) (bindOk_name 14) (by decide) (.inl ho) (by omega) (fun k _ => rfl) (fun k hk s H C' cl fp => pts_none) (fun k hk _ s H C' cl fp => pv_s ix_list (pv_var 1) (pv_var 14) (sc_ixL (atI_nat (strs_at (by have := sp1 k hk; omega)))))) (by rw [filter_true, List.map_map]; rfl))) (pvs_cons (pn_pv (pn_named (ps := partP R lf) C.nd hr (by omega) (pv_var 1) (pn_pv (pn_call (C.lp n R lf) hr (by omega) (pvs_cons (pv_var 3) (pvs_cons (pv_s ix_list (pv_var (d := foundD (fs, lf)) 5) pv_int (sc_ixL rfl)) pvs_nil)) ⟨rfl, sp1, by omega⟩ (fun _ h => h) (fun _ _ h => h))) (by omega) ?_)) pvs_nil)) ⟨rfl, .inl rfl, ol.l1, ol.l10, ol.nd, ol.kn, ?_, ?_, ?_⟩ (fun b o' ⟨g1, g2⟩ => ⟨g1, g2⟩) (fun _ _ _ h => h)) (bl_frz 9 rfl (.inl ho) ?_)
  · intro p hp
    obtain ⟨x, hx, h1⟩ := List.mem_flatMap.mp hp
    obtain ⟨y, hy, rfl⟩ := List.mem_map.mp h1
    have h2 := sp1 x hx
    have h3 := sp1 y (List.mem_filter.mp hy).1
    exact ⟨by show x < _; omega, by show y < _; omega⟩
  · rw [hpart]
    intro p hp
    obtain ⟨h1, h2⟩ := mem_relS.mp hp
    exact ⟨h1, (List.mem_filter.mp h2).1⟩
  · rw [hpart]
    omega
  · rw [hpart]
    intro a c ha hc hc'
    rw [above_self ol.po ha] at hc
    have hcl := (List.mem_filter.mp hc).1
    rw [above_self ol.po hcl] at hc'
    exact ol.po.anti a c ha hcl (List.mem_filter.mp hc).2 (List.mem_filter.mp hc').2
  refine bl_at (Γ' := [sD (subO r ks).d, sD (dStrs ks), sD (dStrs (kept.map (nmO ks))), sD (.lst (rowsD n R)), sD (.lst (natsD kept)), sD (foundD (fs, lf)), none, sD (.lst (natsD ((List.range n).map (imgG fs)))), sD (.obj "Mapping" (dMap (subO r ks) (subO r (lf.map (nmO ks))) ((List.range n).map fun k => nmO ks (imgG fs k)))), sD (subO r (lf.map (nmO ks))).d, none, none, none, none, none]) (by
    rw [hpart]
    show [_, _, _, _, _, _, _, _, _, sD (.obj "Order" (dOrd _ _)), _, _, _, _, _] = _
    rw [dOrd_congr (F := fun x => (lf.map (nmO ks)).filter (r x)) fun x hx => above_self ol.po hx]
    rfl) ?_
  have lsl : (lf.map (nmO ks)).length ≤ 10 := by rw [List.length_map]; omega
  refine bl_ifR (q := !true || !true) (px_w (pw_o (px_not (px_own (t := true) (C.oe (lf.map (nmO ks)) (subO r (lf.map (nmO ks))).E (lf.map (nmO ks)) (subO r (lf.map (nmO ks))).E) (fun _ _ => rfl) hr (by omega) (pv_fld C.mc.cls C.mc.nt (pv_var 8) rfl) (pv_var 9) ⟨rfl, ol.ok.rl, ol.ok.rl⟩ (fun bb h => by rw [h]; exact congrArg (fun z => B.st (.bl z)) (eqO_self (o := subO r (lf.map (nmO ks))))) (fun _ _ h => h.elim))) fun _ => pw_o1 (px_not (px_val (pv_call (ds := [.tup ((lf.map (nmO ks)).map .str), .tup ((lf.map (nmO ks)).map .str)]) (d := .bl true) C.s1 hr (by omega) (pvs_cons (pv_fld C.oc.cls C.oc.nk (pv_fld C.mc.cls C.mc.nt (pv_var 8) rfl) rfl) (pvs_cons (pv_fld C.oc.cls C.oc.nk (pv_var 9) rfl) pvs_nil)) ⟨_, rfl, pl_tupS 0 _ (by omega)⟩ (fun _ h => h) (fun _ _ h => h.elim)))))) (fun h => by cases h) fun _ => ?_
  -- the images keep the order
  refine bl_for (fun ds i Γ => ds = rng 0 n ∧ ∃ a c, Γ = [sD (subO r ks).d, sD (dStrs ks), sD (dStrs (kept.map (nmO ks))), sD (.lst (rowsD n R)), sD (.lst (natsD kept)), sD (foundD (fs, lf)), none, sD (.lst (natsD ((List.range n).map (imgG fs)))), sD (.obj "Mapping" (dMap (subO r ks) (subO r (lf.map (nmO ks))) ((List.range n).map fun k => nmO ks (imgG fs k)))), sD (subO r (lf.map (nmO ks))).d, a, c, none, none, none]) (wv (wp_rng (pv_is (pv_lenL (pv_var 3) b.len) (by rw [lr])) (by omega) b.range)) (gv_name 10 nd (hz := .inl ho)) ?_ ?_ ?_ (passes_of rfl)
  · rintro ds Γ1 ⟨rfl, rfl⟩
    exact ⟨rfl, none, none, rfl⟩
  · rintro ds i d Γ1 hdi ⟨rfl, a, c, rfl⟩
    obtain ⟨hi, rfl⟩ := rng_at0 hdi
    refine ⟨_, rfl, bl_for (fun ds j Γ => ds = rng 0 n ∧ ∃ c, Γ = [sD (subO r ks).d, sD (dStrs ks), sD (dStrs (kept.map (nmO ks))), sD (.lst (rowsD n R)), sD (.lst (natsD kept)), sD (foundD (fs, lf)), none, sD (.lst (natsD ((List.range n).map (imgG fs)))), sD (.obj "Mapping" (dMap (subO r ks) (subO r (lf.map (nmO ks))) ((List.range n).map fun k => nmO ks (imgG fs k)))), sD (subO r (lf.map (nmO ks))).d, sI i, c, none, none, none]) (wv (wp_rng (pv_is (pv_lenL (pv_var 3) b.len) (by rw [lr])) (by omega) b.range)) (gv_name 11 nd (hz := .inl ho)) ?_ ?_ ?_ (passes_of rfl)⟩
    · rintro ds Γ1 ⟨rfl, rfl⟩
      exact ⟨rfl, c, rfl⟩
    · rintro ds j d Γ1 hdj ⟨rfl, c, rfl⟩
      obtain ⟨hj, rfl⟩ := rng_at0 hdj
      have im_at : ∀ x, x < n → (natsD ((List.range n).map (imgG fs)))[x]? = some (.int ((imgG fs x : Nat) : Int)) := fun x hx => by
        unfold natsD
        rw [List.getElem?_map, List.getElem?_map, List.getElem?_range hx]
        rfl
      refine ⟨_, rfl, bl_ifR (q := R i j && !R (imgG fs i) (imgG fs j)) (px_w (pw_a (px_row (pv_var 3) (pv_var 10) (pv_var 11) hi hj) fun _ => pw_a1 (px_not (px_row (pv_var 3) (pv_s ix_list (pv_var 7) (pv_var 10) (sc_ixL (atI_nat (im_at i hi)))) (pv_s ix_list (pv_var 7) (pv_var 11) (sc_ixL (atI_nat (im_at j hj)))) (sp1 _ (sp2 i hi)) (sp1 _ (sp2 j hj)))))) (fun h => ?_) fun _ => bl_nil ⟨rfl, _, rfl⟩⟩
      rw [Bool.and_eq_true] at h
      rw [sp3 i j hi hj h.1] at h
      cases h.2
    · rintro ds Γ1 ⟨rfl, c, rfl⟩
      exact bl_nil ⟨rfl, sI i, c, rfl⟩
  rintro ds Γ1 ⟨rfl, a, c, rfl⟩
  -- once more
  have hin2 : ∀ z ∈ kept.map (nmO ks), z ∈ (lf.map (nmO ks)) := fun z hz => by
    obtain ⟨k, h1, rfl⟩ := List.mem_map.mp hz
    exact List.mem_map.mpr ⟨k, sp4 k (hk k h1) h1, rfl⟩
  refine bl_letO 12 (hz := .inl ho) (pn_eo (pn_call (C.tt r (lf.map (nmO ks)) (kept.map (nmO ks)) hkl) hr (by omega) (pvs_cons (pv_fld C.mc.cls C.mc.nt (pv_var 8) rfl) (pvs_cons (pv_var 2) pvs_nil)) ⟨rfl, ol⟩ (fun b h => h.2) (fun y fl ⟨_, z, h1, h2, _⟩ => h2 (hin2 z h1)))) (bl_frz 12 rfl (.inl ho) ?_)
  refine bl_at (Γ' := [sD (subO r ks).d, sD (dStrs ks), sD (dStrs (kept.map (nmO ks))), sD (.lst (rowsD n R)), sD (.lst (natsD kept)), sD (foundD (fs, lf)), none, sD (.lst (natsD ((List.range n).map (imgG fs)))), sD (.obj "Mapping" (dMap (subO r ks) (subO r (lf.map (nmO ks))) ((List.range n).map fun k => nmO ks (imgG fs k)))), sD (subO r (lf.map (nmO ks))).d, a, c, sD (.obj "Mapping" (dMap (subO r (lf.map (nmO ks))) (subO r (lf.map (nmO ks))) (lf.map (nmO ks)))), none, none]) (by rw [hleft2, himgs2]; rfl) ?_
  refine bl_ifR (q := !true || !true) (px_w (pw_o (px_not (px_val (pv_call (ds := [.lst [.str "told", .lst []], .lst [.str "told", .lst []]]) (d := .bl true) C.s2 hr (by omega) (pvs_cons (pv_callN (d := .str "told") (l := []) (C.ak r (lf.map (nmO ks)) (kept.map (nmO ks)) 0 hkl) hr (by omega) (pvs_cons (pv_fld C.mc.cls C.mc.nt (pv_var 8) rfl) (pvs_cons (pv_var 2) (pvs_cons pv_int pvs_nil))) ⟨rfl, ol, .inl rfl⟩ ?_ (fun _ _ h => h)) (pvs_cons (pv_lst (pvs_cons pv_str (pvs_cons (pv_lst pvs_nil) pvs_nil))) pvs_nil)) ⟨_, rfl, pl_two (.lst (fun d hd => by cases hd) (Nat.zero_le _))⟩ (fun _ h => h) (fun _ _ h => h.elim)))) fun _ => pw_o1 (px_not (px_val (pv_call (ds := [.tup ((lf.map (nmO ks)).map .str), .tup ((lf.map (nmO ks)).map .str)]) (d := .bl true) C.s1 hr (by omega) (pvs_cons (pv_fld C.mc.cls C.mc.ni (pv_var 12) rfl) (pvs_cons (pv_fld C.oc.cls C.oc.nk (pv_var 9) rfl) pvs_nil)) ⟨_, rfl, pl_tupS 0 _ (by omega)⟩ (fun _ h => h) (fun _ _ h => h.elim)))))) (fun h => by cases h) fun _ => ?_
  · rintro bb (⟨_, h⟩ | ⟨z, h1, h2, _⟩)
    · rw [h, hends]
      rfl
    · exact absurd (hin2 z h1) h2
  have him2 : (((List.range n).map fun k => nmO ks (imgG fs k)).map (imgOf (lf.map (nmO ks)) (lf.map (nmO ks)))) = ((List.range n).map fun k => nmO ks (imgG fs k)) := by
    have : ∀ z ∈ ((List.range n).map fun k => nmO ks (imgG fs k)), imgOf (lf.map (nmO ks)) (lf.map (nmO ks)) z = z := fun z hz => by
      obtain ⟨k, h1, rfl⟩ := List.mem_map.mp hz
      have hm : nmO ks (imgG fs k) ∈ (lf.map (nmO ks)) := List.mem_map.mpr ⟨_, sp2 k (List.mem_range.mp h1), rfl⟩
      have := imgOf_map (g := fun x => x) hm
      rwa [List.map_id'] at this
    rw [List.map_congr_left this, List.map_id']
  have imL : ∀ z ∈ ((List.range n).map fun k => nmO ks (imgG fs k)), z ∈ (lf.map (nmO ks)) := fun z hz => by
    obtain ⟨k, h1, rfl⟩ := List.mem_map.mp hz
    exact List.mem_map.mpr ⟨_, sp2 k (List.mem_range.mp h1), rfl⟩
  have made : MOutP (subO r ks).ks (subO r ks).R (subO r (lf.map (nmO ks))).ks (subO r (lf.map (nmO ks))).R (((List.range n).map fun k => nmO ks (imgG fs k)).map (imgOf (lf.map (nmO ks)) (lf.map (nmO ks)))) .made := by
    rw [him2, ← himgs, ← hleft]
    obtain ⟨f1, f2, f3, f4, f5⟩ := folds_spec (kept := kept.map (nmO ks)) ks.length ks o.po
    exact map_made o.nd f2 f4
  refine bl_retP (pv_call (ds := [.bl true, .bl true]) (d := .bl true) C.s0 hr (by omega) (pvs_cons (pv_own (d := .bl true) (C.me (subO r ks) (subO r (lf.map (nmO ks))) (((List.range n).map fun k => nmO ks (imgG fs k)).map (imgOf (lf.map (nmO ks)) (lf.map (nmO ks)))) (subO r ks) (subO r (lf.map (nmO ks))) ((List.range n).map fun k => nmO ks (imgG fs k))) (fun _ _ => rfl) hr (by omega) (pn_pv (pn_binO (o := .obj "Mapping" (dMap (subO r ks) (subO r (lf.map (nmO ks))) (((List.range n).map fun k => nmO ks (imgG fs k)).map (imgOf (lf.map (nmO ks)) (lf.map (nmO ks)))))) (C.th (subO r ks) (subO r (lf.map (nmO ks))) (subO r (lf.map (nmO ks))) ((List.range n).map fun k => nmO ks (imgG fs k)) (lf.map (nmO ks))) hr (by omega) (pv_var 8) (pv_var 12) ⟨rfl, ol.ok, o.nd, by show ks.length ≤ 1000; omega, by omega, imL, eqO_self, made⟩ (fun _ h => h) (fun _ _ h => h))) (pv_var 8) ⟨rfl, o.ok, ol.ok, o.ok, ol.ok⟩ (fun bb h => ?_) (fun _ _ h => h.elim)) (pvs_cons pv_bl pvs_nil)) ⟨_, rfl, .bl _ _⟩ (fun _ h => h) (fun _ _ h => h.elim)) rfl
  rw [h, him2, eqO_self, eqO_self]
  have : ((subO r ks).ks.all fun z => decide (imgOf (subO r ks).ks ((List.range n).map fun k => nmO ks (imgG fs k)) z = imgOf (subO r ks).ks ((List.range n).map fun k => nmO ks (imgG fs k)) z)) = true := List.all_eq_true.mpr fun z _ => decide_eq_true rfl
  rw [this]
  rfl
end
end Kf
end
section
set_option maxRecDepth 100000
set_option maxHeartbeats 1000000
/-! KhH: k80's law: walked. -/
namespace Kf
open PySem L2
section
variable {X : Cx} {e : Ent} {Γ : Gam} {x tg : Expr} {p pos : Pos}
/-- range(x), x not pure -/
theorem wv_rngE {Φ : D → Gam → Prop} {Ψ : List D → Gam → Prop} (h : EV X e x Γ Φ) (k : ∀ d Γ', Φ d Γ' → ∃ n : Nat, d = .int (n : Int) ∧ n < 2 ^ 62 ∧ Ψ (rng 0 n) Γ') (hm : X.mg "range" = none) (hg : Gl X "range" := by rfl) (hs : starEach [x] X.env = [(false, eval x X.env)] := by rfl)
    (hst : starEach [x] X.env = (false, eval x X.env) :: starEach [] X.env := by rfl) : WV X e tg (.Call (.Name "range" p) [x] [] pos) Γ Ψ :=
  PI.imp (pi_range1 hg hm (av_one (Ψ := fun ds Γ' => ∃ d, ds = [d] ∧ Φ d Γ') h (fun d Γ1 hd => ⟨d, rfl, hd⟩) hst) hs) fun σ H R ⟨S, w, q⟩ => ⟨S, w, fun S1 H1 vs ds Γ' ⟨d, hds, hd⟩ s1 w1 r1 => by
    subst hds
    obtain ⟨n, rfl, hn, hΨ⟩ := k d Γ' hd
    cases r1 with
    | cons r2 r3 =>
      cases r3
      cases r2
      exact ⟨_, rfl, by omega, by omega, q S1 H1 _ (rng 0 n) Γ' hΨ s1 w1 (by show ItOk X.K e (Itr 0 ((n : Int)).toNat) (rng 0 n) S1; rw [Int.toNat_natCast]; exact itok_rng)⟩⟩
end
theorem cutD_from (l : List Str) (n : Nat) : cutD (l.map D.str) (some (n : Int)) none = (l.drop n).map D.str := by
  unfold cutD
  rw [show HT.sIx (l.map D.str).length (l.map D.str).length none = (l.map D.str).length from rfl, show HT.sIx (l.map D.str).length 0 (some (n : Int)) = min n (l.map D.str).length from HT.sIx_nat _ _ _, map_drop_str, map_take_str, List.length_map]
  congr 1
  by_cases h : n ≤ l.length
  · rw [Nat.min_eq_left h, List.take_of_length_le (by rw [List.length_drop]; exact Nat.le_refl _)]
  · rw [Nat.min_eq_right (by omega), List.drop_of_length_le (Nat.le_refl _), List.drop_of_length_le (by omega), List.take_nil]
theorem not_name {z : Str} (h : ∀ c t, z.cps.toList = c :: t → ¬ lowC c) : ¬ KName z := fun ⟨_, _, ⟨c, t, h1, h2⟩, _⟩ => h c t h1 h2
theorem lk_of {ks : List Str} {ps : List (Nat × Nat)} {n : Nat} (o : LOrd ks (named ks ps)) (hp : PsOk ks.length ps) (len : ks.length = n) : Lk (relR (named ks ps)) ks n (warsh n ps) := by
  refine ⟨o.ordG, len, fun a b ha hb => ?_⟩
  have ix : ∀ i, i < n → ks.idxOf (nmO ks i) = i := fun i hi => by
    show ks.idxOf (ks.getD i ⟨#[]⟩) = i
    rw [List.getD_eq_getElem?_getD, List.getElem?_eq_getElem (by omega)]
    exact o.nd.idxOf_getElem i _
  rw [o.relT (getD_mem (by omega)) (getD_mem (by omega)), ix a ha, ix b hb, tabR_named o.nd hp, len]
theorem named_take {ns : List Str} {ps : List (Nat × Nat)} {n : Nat} (h : ∀ p ∈ ps, p.1 < n ∧ p.2 < n) : named ns ps = named (ns.take n) ps := List.map_congr_left fun p hp => by
  obtain ⟨h1, h2⟩ := h p hp
  have e : ∀ k, k < n → ns.getD k ⟨#[]⟩ = (ns.take n).getD k ⟨#[]⟩ := fun k hk => by
    rw [List.getD_eq_getElem?_getD, List.getD_eq_getElem?_getD, List.getElem?_take_of_lt hk]
  rw [e _ h1, e _ h2]
structure Law8C (P : Program) (w : World) (K : Fg) (mg : Str → Option Value) (base : Heap) : Prop where
  b : Bi mg
  oc : OrC K mg
  pool : Dx P w K mg base "_law_pool" 1 cPool
  draw : Dy P w K mg base "_law_draw" 1 cDraw
  op : Dy P w K mg base "_law_order_pairs" 4 cShape
  nm : Dy P w K mg base "_law_names" 3 cNames
  nd : Dx P w K mg base "_law_named" 1 cNamed
  ab : Dx P w K mg base "_law_above" 1 cAbove
  s1 : Dx P w K mg base "_law_same" 2 (cSame 1)
  rt : ∀ r ks n R kept, Dx P w K mg base "_law_right" 11 (cRt8 r ks n R kept)
  ak : ∀ r ks ns way, ns.length ≤ 5 → Dx P w K mg base "_law_asked" 10 (cAsk8 r ks ns way)
  om : ∃ f, Mk K (He.ga K "Order") f ∧ ∀ ks prs, FnR P w K mg base (L2.CX P w) 4 f (spO K (cOrdI ks prs))
def cLaw8 : Fp where
  pre ds := ∃ ns : List Int, ds = [.lstK (ns.map .int)]
  post ds b := b = .st (.bl true)
abbrev s_lw8 : Stmt := top 59
abbrev nLw8 : List Str := ["script", "pool", "shape", "kinds", "rows", "names", "order", "chosen", "bad", "spot", "asked", "kept", "way", "k"]
theorem scLw8 : FnScope nLw8 ["script"] (defScope s_lw8) := ⟨rfl, rfl, rfl, by decide +kernel, rfl, by decide +kernel, by decide +kernel⟩
section
variable {P : Program} {w : World} {K : Fg} {mg : Str → Option Value} {base : Heap}
noncomputable abbrev g8 (sc : D) (o : O) (n : Nat) (ps : List (Nat × Nat)) (ns hs : List Str) (a7 a8 a9 a10 a11 a12 a13 : Option B) : Gam :=
  [sD sc, sO o, sD (dSh n ps), sI n, sD (.lst (rowsD n (warsh n ps))), sD (dStrs ns), sD (subO (relR (named hs ps)) hs).d, a7, a8, a9, a10, a11, a12, a13]
theorem ok_lw8 {f : Addr} {fd : FuncData} (F : FunS K "law" s_lw8 f fd) (C : Law8C P w K mg base) : FnOk P w K mg base (L2.CX P w) 12 f fd ["script"] (spP K cLaw8) := by
  refine fp_ok F scLw8 (fun ds ⟨ns, h⟩ => by rw [h]; rfl) fun cdv A outer s e E ds ho ⟨ns0, hd⟩ hr tk => ?_
  subst hd
  have nd := scLw8.nd
  have b := C.b
  obtain ⟨fI, M, FI⟩ := C.om
  refine bl_setO 1 (hz := .inl ho) (Φ := fun o Γ => Pool o ∧ Γ = gam0 nLw8 ([D.lstK (ns0.map .int)].map .st)) (eo_call (U := fun _ _ _ => False) C.pool hr (by omega) takes_none (pvs_av (pvs_one (pv_var 0))) ?_) ?_
  · rintro ds Γ1 ⟨rfl, rfl⟩
    exact ⟨⟨ns0, rfl⟩, fun bb ⟨o, h1, h2⟩ => ⟨o, h1, h2, rfl⟩, fun _ _ z => z.elim⟩
  rintro o Γ1 ⟨hp0, rfl⟩
  refine bl_set 2 (hz := .inl ho) (ev_opairs (m := 8) 1 C.op hr (by omega) rfl hp0 pv_int ⟨by decide, by decide⟩) ?_
  rintro d Γ' ⟨n, ps, o1, rfl, a1, a4, aps, apl, hp1, rfl⟩
  refine bl_let 3 (hz := .inl ho) (pv_s ix_tup (pv_var 2) pv_int (sc_ixT rfl)) ?_
  refine bl_letO 4 (hz := .inl ho) (pn_eo (pn_aboveL (n := n) (ps := ps) C.ab hr (by omega) (pv_var 3) (pv_s ix_tup (pv_var 2) pv_int (sc_ixT rfl)) (by omega) aps.1)) (bl_frz 4 rfl (.inl ho) ?_)
  refine bl_set 5 (hz := .inl ho) (ev_names (m := n + 1) 1 C.nm hr (by omega) rfl hp1 (pv_is (pv_b op_add (pv_var 3) pv_int sc_add) rfl) (by omega)) ?_
  rintro d Γ' ⟨ns, o2, rfl, nnd, nkn, nlen, hp2, rfl⟩
  refine bl_at (Γ' := [sD (.lstK (ns0.map .int)), sO o2, sD (dSh n ps), sI n, sD (.lst (rowsD n (warsh n ps))), sD (dStrs ns), none, none, none, none, none, none, none, none]) rfl ?_
  have hh : (ns.take n).length = n := by rw [List.length_take]; omega
  have hhn : (ns.take n).Nodup := nnd.sublist (List.take_sublist ..)
  have hhk : ∀ z ∈ ns.take n, KName z := fun z hz => nkn z (List.mem_of_mem_take hz)
  have oh : LOrd (ns.take n) (named (ns.take n) ps) := lord_named hhn hhk (by omega) (by omega) (by rw [hh]; exact aps) apl
  have lk := lk_of oh (by rw [hh]; exact aps) hh
  have hget : ∀ k, k < n → ns.getD k ⟨#[]⟩ = (ns.take n).getD k ⟨#[]⟩ := fun k hk => by
    rw [List.getD_eq_getElem?_getD, List.getD_eq_getElem?_getD, List.getElem?_take_of_lt hk]
  -- order
  refine bl_letO 6 (hz := .inl ho) (eo_order oh M FI C.oc.gl hr (by omega) (pn_pv (pn_take (n := n) (pv_var 5) (pp_some (pv_var 3)))) (pv_is (pn_pv (pn_named (ps := ps) C.nd hr (by omega) (pv_var 5) (pv_s ix_tup (pv_var 2) pv_int (sc_ixT rfl)) (by omega) (fun p hp => by have := aps.1 p hp; omega))) (by rw [named_take aps.1]; rfl))) (bl_frz 6 rfl (.inl ho) ?_)
  generalize hhs : ns.take n = hs at *
  refine bl_at (Γ' := g8 (.lstK (ns0.map .int)) o2 n ps ns hs none none none none none none none) rfl ?_
  -- chosen
  refine bl_setLc 7 (hz2 := .inl ho) (own := [("k", 13)]) (ix := [13]) (bind := bName 13) (Φi := fun ds Γ => ∃ m o', m ≤ 4 ∧ ds = rng 0 m ∧ Pool o' ∧ Γ = g8 (.lstK (ns0.map .int)) o' n ps ns hs none none none none none none none)
    (Φ := fun oo Γ1 => ∃ (o' : O) (l : List Nat), oo = .lst (natsD l) ∧ l.length ≤ 4 ∧ (∀ x ∈ l, x < n) ∧ Pool o' ∧ Γ1 = g8 (.lstK (ns0.map .int)) o' n ps ns hs none none none none none none none)
    (fun Γ1 => ∃ (o' : O) (kk : Option B), Pool o' ∧ Γ1 = g8 (.lstK (ns0.map .int)) o' n ps ns hs none none none none none none kk) (fun Γ1 => ∃ (o' : O) (kk : Option B), Pool o' ∧ Γ1 = g8 (.lstK (ns0.map .int)) o' n ps ns hs none none none none none none kk)
    (fun Γ1 c Γ2 => Γ2 = Γ1 ∧ c = true) (fun Γ1 d Γ2 => ∃ (x : Nat) (o' : O) (kk : Option B), d = .int (x : Int) ∧ x < n ∧ Pool o' ∧ Γ2 = g8 (.lstK (ns0.map .int)) o' n ps ns hs none none none none none none kk)
    (fun ds i acc Γ1 => ∃ m, m ≤ 4 ∧ ds = rng 0 m ∧ i ≤ m ∧ ∃ (o' : O) (l : List Nat), acc = natsD l ∧ l.length = i ∧ (∀ x ∈ l, x < n) ∧ Pool o' ∧ Γ1 = g8 (.lstK (ns0.map .int)) o' n ps ns hs none none none none none none none) (blk nLw8 (defScope s_lw8)) nd
    (wv_rngE (ev_draw (m := 5) 1 C.draw hr (by omega) rfl hp2 pv_int (by decide)) ?_ b.range) (fun s H C cl fp => gv_name 13 nd (hz := .inl ho)) (bindOk_name 13) (by decide) (.inl ho) ?_ ?_ ?_ ?_ ?_ ?_
  · rintro d Γ1 ⟨r, o', rfl, g1, g2, hp', rfl⟩
    obtain ⟨r, rfl⟩ := nat_of g1
    exact ⟨r, rfl, by omega, r, o', by omega, rfl, hp', rfl⟩
  · rintro ds Γ1 ⟨m, o', hm, rfl, hp', rfl⟩
    exact ⟨by rw [rng_len]; omega, m, hm, rfl, Nat.zero_le _, o', [], rfl, rfl, (fun x hx => by cases hx), hp', rfl⟩
  · rintro ds i d acc Γ1 hdi ⟨m, hm, rfl, him, o', l, rfl, hi, hx, hp', rfl⟩
    obtain ⟨him', rfl⟩ := rng_at0 hdi
    refine ⟨_, rfl, ⟨o', _, hp', rfl⟩, ?_, ?_⟩
    · rintro Γ3 ⟨rfl, _⟩
      refine ⟨⟨o', _, hp', rfl⟩, ?_⟩
      rintro y Γ4 ⟨z, o6, kk, rfl, hz, hp6, rfl⟩
      exact ⟨m, hm, rfl, him', o6, l ++ [z], by unfold natsD; rw [List.map_append]; rfl, by rw [List.length_append, hi]; rfl, fun x hx' => by
        rcases List.mem_append.mp hx' with g | g
        · exact hx x g
        · rw [List.mem_singleton.mp g]; exact hz, hp6, rfl⟩
    · rintro Γ3 ⟨_, h⟩
      cases h
  · rintro ds acc Γ1 ⟨m, hm, rfl, him, o', l, rfl, hi, hx, hp', rfl⟩
    rw [rng_len] at hi
    exact ⟨o', l, rfl, by omega, hx, hp', rfl⟩
  · rintro Γ1 ⟨o5, kk, hp5, rfl⟩ s H C cl fp
    exact ⟨fun pins s σ H Q I ⟨S, w, q⟩ => pts_nil.run pins s σ H Q I (q S H true _ ⟨rfl, rfl⟩ (Stp.refl _ _ _ _) w)⟩
  · rintro Γ1 ⟨o5, kk, hp5, rfl⟩ s H C' cl fp
    refine ev_weak (ev_draw (m := (n : Int)) 1 C.draw hr (by omega) rfl hp5 (pv_var 3) (by omega)) ?_
    rintro d2 Γ2 ⟨r, o', rfl, g1, g2, hp', rfl⟩
    obtain ⟨r, rfl⟩ := nat_of g1
    exact ⟨r, o', kk, rfl, by omega, hp', rfl⟩
  rintro oo Γ1 ⟨o3, l, rfl, hl4, hln, hp3, rfl⟩
  refine bl_frz 7 rfl (.inl ho) ?_
  refine bl_at (Γ' := g8 (.lstK (ns0.map .int)) o3 n ps ns hs (sD (.lst (natsD l))) none none none none none none) rfl ?_
  -- bad
  have k0 : KName (ns.getD 0 ⟨#[]⟩) := nkn _ (getD_mem (by omega))
  refine bl_set 8 (hz := .inl ho) (Φ := fun d Γ1 => ∃ (z : Str) (o' : O), d = .str z ∧ z ∉ hs ∧ Pool o' ∧ Γ1 = g8 (.lstK (ns0.map .int)) o' n ps ns hs (sD (.lst (natsD l))) none none none none none none) (ev_s1 ix_list (pv_lst (pvs_cons pv_str (pvs_cons (pv_s ix_list (pv_var 5) (pv_var 3) (sc_ixL (atI_nat (strs_at (by omega))))) (pvs_cons pv_str (pvs_cons (pv_b op_add_str pv_str (pv_s ix_list (pv_var 5) pv_int (sc_ixL (atI_nat (n := 0) (strs_at (by omega))))) (sc_addS ?_)) pvs_nil))))) (ev_draw (m := 4) 1 C.draw hr (by omega) rfl hp3 pv_int (by decide)) ?_) ?_
  · exact Nat.le_trans (Nat.add_le_add (Nat.le_refl 1) k0.2.1) (by decide)
  · rintro d2 Γ2 ⟨r, o', rfl, g3, g4, hp', rfl⟩
    obtain ⟨r, rfl⟩ := nat_of g3
    have hr4 : r = 0 ∨ r = 1 ∨ r = 2 ∨ r = 3 := by omega
    rcases hr4 with rfl | rfl | rfl | rfl
    · refine ⟨_, sc_ixL (atI_nat (n := 0) rfl), _, o', rfl, fun hm => not_name (fun c t q => ?_) (hhk _ hm), hp', rfl⟩
      have q' : ([63] : List Nat) = c :: t := q
      cases q'
      unfold lowC
      omega
    · refine ⟨_, sc_ixL (atI_nat (n := 1) rfl), _, o', rfl, fun hm => ?_, hp', rfl⟩
      rw [← hhs] at hm
      obtain ⟨i, hi⟩ := List.getElem?_of_mem hm
      obtain ⟨hi1, _⟩ := List.getElem?_eq_some_iff.mp hi
      rw [List.length_take] at hi1
      rw [List.getElem?_take_of_lt (by omega)] at hi
      have h9 : ns[n]? = some (ns.getD n ⟨#[]⟩) := getD_at (by omega)
      have := (List.getElem?_inj (show i < ns.length by omega) nnd).mp (hi.trans h9.symm)
      omega
    · refine ⟨_, sc_ixL (atI_nat (n := 2) rfl), _, o', rfl, fun hm => ?_, hp', rfl⟩
      exact absurd (hhk _ hm).1 (by decide)
    · refine ⟨_, sc_ixL (atI_nat (n := 3) rfl), _, o', rfl, fun hm => not_name (fun c t q => ?_) (hhk _ hm), hp', rfl⟩
      have q' : cdl (("?" : Str) ++ ns.getD 0 ⟨#[]⟩) = c :: t := q
      rw [cdl_app] at q'
      have q2 : (63 :: cdl (ns.getD 0 ⟨#[]⟩) : List Nat) = c :: t := q'
      cases q2
      unfold lowC
      omega
  rintro d Γ1 ⟨bad, o4, rfl, hbad, hp4, rfl⟩
  -- spot
  refine bl_set 9 (hz := .inl ho) (ev_draw (m := ((l.length + 1 : Nat) : Int)) 1 C.draw hr (by omega) rfl hp4 (pv_is (pv_b op_add (pv_lenL (pv_var (d := .lst (natsD l)) 7) b.len) pv_int sc_add) (by rw [natsD_len]; rfl)) (by omega)) ?_
  rintro d Γ1 ⟨r, o5, rfl, g1, g2, hp5, rfl⟩
  obtain ⟨r, rfl⟩ := nat_of g1
  refine bl_at (Γ' := g8 (.lstK (ns0.map .int)) o5 n ps ns hs (sD (.lst (natsD l))) (sD (.str bad)) (sI r) none none none none) rfl ?_
  -- asked
  refine bl_letLcA 10 (hz2 := .inl ho) (c := cN) (u := uN) (l := l) (f := fun k => g8 (.lstK (ns0.map .int)) o5 n ps ns hs (sD (.lst (natsD l))) (sD (.str bad)) (sI r) none none none (sI k)) (own := [("k", 13)]) (ix := [13]) (bind := bName 13) (fun _ => true) (fun k => .str (ns.getD k ⟨#[]⟩)) uN_cN (blk nLw8 (defScope s_lw8)) nd
    (wp_list (pv_var 7)) (fun s H C cl fp => gv_name 13 nd (hz := .inl ho)) (bindOk_name 13) (by decide) (.inl ho) (by omega) (fun k _ => rfl) (fun k hk s H C' cl fp => pts_none) (fun k hk _ s H C' cl fp => pv_s ix_list (pv_var 5) (pv_var 13) (sc_ixL (atI_nat (strs_at (by have := hln k hk; omega))))) ?_
  refine bl_frz 10 rfl (.inl ho) ?_
  have hmapl : ∀ l' : List Nat, (∀ x ∈ l', x < n) → (l'.map fun k => D.str (ns.getD k ⟨#[]⟩)) = (l'.map (nmO hs)).map D.str := fun l' h => by
    rw [List.map_map]
    exact List.map_congr_left fun k hk => by rw [hget k (h k hk)]; rfl
  refine bl_at (Γ' := g8 (.lstK (ns0.map .int)) o5 n ps ns hs (sD (.lst (natsD l))) (sD (.str bad)) (sI r) (sD (dStrs (l.map (nmO hs)))) none none none) (by
    rw [filter_true]
    show [_, _, _, _, _, _, _, _, _, _, sD (.lst (l.map _)), _, _, _] = _
    rw [hmapl l hln]) ?_
  -- right
  refine bl_for (fun ds i Γ => ds = [.lst (natsD l), .lst (natsD []), .lst (natsD l)] ∧ ∃ a, Γ = g8 (.lstK (ns0.map .int)) o5 n ps ns hs (sD (.lst (natsD l))) (sD (.str bad)) (sI r) (sD (dStrs (l.map (nmO hs)))) a none none) (wv (wp_list (pn_pv (pn_lst (pvs_cons (pv_var 7) (pvs_cons (pv_lst pvs_nil) (pvs_cons (pv_var 7) pvs_nil))))))) (gv_name 11 nd (hz := .inl ho)) ?_ ?_ ?_ (passes_of rfl)
  · rintro ds Γ1 ⟨rfl, rfl⟩
    exact ⟨rfl, none, rfl⟩
  · rintro ds i d Γ1 hdi ⟨rfl, a, rfl⟩
    obtain ⟨l', rfl, h1, h2⟩ : ∃ l', d = .lst (natsD l') ∧ (∀ x ∈ l', x < n) ∧ l'.length ≤ 4 := by
      rcases List.mem_cons.mp (List.mem_of_getElem? hdi) with rfl | h
      · exact ⟨l, rfl, hln, hl4⟩
      rcases List.mem_cons.mp h with rfl | h
      · exact ⟨[], rfl, (fun x hx => by cases hx), Nat.zero_le _⟩
      · rw [List.mem_singleton.mp h]
        exact ⟨l, rfl, hln, hl4⟩
    refine ⟨_, rfl, bl_ifR (q := !true) (px_not (px_val (pv_call (d := .bl true) (C.rt (relR (named hs ps)) hs n (warsh n ps) l') hr (by omega) (pvs_cons (pv_var 6) (pvs_cons (pv_is (pn_pv (pn_take (n := n) (pv_var 5) (pp_some (pv_var 3)))) (d := dStrs hs) (by rw [hhs]; rfl)) (pvs_cons (pn_pv (pn_is (o' := .lst ((l'.map (nmO hs)).map .str)) (pn_lcA (c := cN) (u := uN) (l := l') (f := fun k => g8 (.lstK (ns0.map .int)) o5 n ps ns hs (sD (.lst (natsD l))) (sD (.str bad)) (sI r) (sD (dStrs (l.map (nmO hs)))) (sD (.lst (natsD l'))) none (sI k)) (own := [("k", 13)]) (ix := [13]) (bind := bName 13) (fun _ => true) (fun k => .str (ns.getD k ⟨#[]⟩)) uN_cN (blk nLw8 (defScope s_lw8)) nd
      (wp_list (pv_var 11)) (fun s H C cl fp => gv_name 13 nd (hz := .inl ho)) (bindOk_name 13) (by decide) (.inl ho) (by omega) (fun k _ => rfl) (fun k hk s H C' cl fp => pts_none) (fun k hk _ s H C' cl fp => pv_s ix_list (pv_var 5) (pv_var 13) (sc_ixL (atI_nat (strs_at (by have := h1 k hk; omega)))))) (by rw [filter_true, hmapl l' h1]))) (pvs_cons (pv_var 4) (pvs_cons (pv_var 11) pvs_nil))))) ⟨rfl, lk, h1, by omega⟩ (fun _ h => h) (fun _ _ h => h)))) (fun h => by cases h) fun _ => bl_nil ⟨rfl, _, rfl⟩⟩
  rintro ds Γ1 ⟨rfl, a, rfl⟩
  -- asked for what is no kind
  have hlm : (l.map (nmO hs)).length = l.length := List.length_map _
  refine bl_for (fun ds i Γ => ds = rng 0 2 ∧ ∃ c, Γ = g8 (.lstK (ns0.map .int)) o5 n ps ns hs (sD (.lst (natsD l))) (sD (.str bad)) (sI r) (sD (dStrs (l.map (nmO hs)))) a c none) (wv (wp_rng pv_int (by decide) b.range)) (gv_name 12 nd (hz := .inl ho)) ?_ ?_ ?_ (passes_of rfl)
  · rintro ds Γ1 ⟨rfl, rfl⟩
    exact ⟨rfl, none, rfl⟩
  · rintro ds i d Γ1 hdi ⟨rfl, c, rfl⟩
    obtain ⟨hi, rfl⟩ := rng_at0 hdi
    have h5 : ((l.map (nmO hs)).take r ++ [bad] ++ (l.map (nmO hs)).drop r).length ≤ 5 := by
      rw [List.length_append, List.length_append, List.length_take, List.length_drop, hlm]
      show _ + 1 + _ ≤ 5
      omega
    have hbm : bad ∈ (l.map (nmO hs)).take r ++ [bad] ++ (l.map (nmO hs)).drop r := List.mem_append_left _ (List.mem_append_right _ (List.mem_singleton.mpr rfl))
    refine ⟨_, rfl, bl_ifR (q := !true) (px_not (px_val (pv_call (ds := [.lst [.str "NotListed", .str bad], .lst [.str "NotListed", .str bad]]) (d := .bl true) C.s1 hr (by omega) (pvs_cons (pv_call (d := .lst [.str "NotListed", .str bad]) (C.ak (relR (named hs ps)) hs ((l.map (nmO hs)).take r ++ [bad] ++ (l.map (nmO hs)).drop r) (i : Int) h5) hr (by omega) (pvs_cons (pv_var 6) (pvs_cons (pn_pv (pn_is (o' := .lst (((l.map (nmO hs)).take r ++ [bad] ++ (l.map (nmO hs)).drop r).map .str)) (pn_cat (l := ((l.map (nmO hs)).take r ++ [bad]).map .str) (m := ((l.map (nmO hs)).drop r).map .str) (pn_pv (pn_is (pn_cat (l := ((l.map (nmO hs)).take r).map .str) (m := [.str bad]) (pn_pv (pn_take (n := r) (pv_var 10) (pp_some (pv_var 9)))) (pv_lst (pvs_cons (pv_var 8) pvs_nil)) ?_) (o' := .lst (((l.map (nmO hs)).take r ++ [bad]).map .str)) (by rw [List.map_append]; rfl))) (pn_pv (pn_is (pn_cut (lo' := some (r : Int)) (hi' := none) (pv_var 10) (pp_some (pv_var 9)) pp_none) (o' := .lst (((l.map (nmO hs)).drop r).map .str)) (by rw [cutD_from]))) ?_) (by rw [← List.map_append]))) (pvs_cons (pv_var 12) pvs_nil))) ⟨rfl, lk.o, .inr ⟨bad, hbm, hbad⟩⟩ ?_ (fun _ _ h => h)) (pvs_cons (pv_lst (pvs_cons pv_str (pvs_cons (pv_var 8) pvs_nil))) pvs_nil)) ⟨_, rfl, pl_two (.str _ _)⟩ (fun _ h => h) (fun _ _ h => h.elim)))) (fun h => by cases h) fun _ => bl_nil ⟨rfl, _, rfl⟩⟩
    · rw [List.length_map, List.length_take, hlm]
      exact Nat.le_trans (show _ + 1 ≤ 1000 by omega) (by decide)
    · rw [List.length_map, List.length_map]
      rw [List.length_append] at h5
      exact Nat.le_trans h5 (by decide)
    · rintro bb (⟨h, _⟩ | ⟨z, h1, h2, h3⟩)
      · exact absurd (h bad hbm) hbad
      · have hz : z = bad := by
          have hin : ∀ z ∈ l.map (nmO hs), z ∈ hs := fun z hz => by
            obtain ⟨k, q1, rfl⟩ := List.mem_map.mp hz
            exact lk.mem (hln k q1)
          rcases List.mem_append.mp h1 with q | q
          · rcases List.mem_append.mp q with q | q
            · exact absurd (hin z (List.mem_of_mem_take q)) h2
            · exact List.mem_singleton.mp q
          · exact absurd (hin z (List.mem_of_mem_drop q)) h2
        rw [h3, hz]
  rintro ds Γ1 ⟨rfl, c, rfl⟩
  exact bl_retP pv_bl rfl
end
end Kf
end
section
set_option maxRecDepth 100000
set_option maxHeartbeats 1000000
/-! KfZ0: a head's facts: any test of the frozen part, any def by its address. -/
namespace Kf
open PySem PySem.Spec PyProof.Rows L2

/-- one def: where it stands, its text; clo: a cell __class__ in its closure -/
structure DefZ where
  at_ : Fg → Addr
  name : Str
  qual : Str
  params : Arguments
  body : List Stmt
  scope : Scope
  dfl : List He.Dv := []
  clo : Bool := false
abbrev FnZ : Type := Option (Str × Str × Arguments × FuncBody × Scope × Addr × List Str × Addr)
def fnZ (K : Fg) (a : Addr) : FnZ := match K.lookup a with
  | some ⟨_, _, .func fd, _⟩ => some (fd.name, fd.qualname, fd.params, fd.body, fd.scope, fd.globals, fd.closure.map (·.1), fd.builtins)
  | _ => none
def DefZ.val (d : DefZ) : FnZ := some (d.name, d.qual, d.params, .stmts d.body, d.scope, mainGlobals, if d.clo then ["__class__"] else [], builtinsNs)
def DefZ.dvs (K : Fg) (d : DefZ) : List V := d.dfl.map (He.Dv.v K)
def DefZ.ok (K : Fg) (d : DefZ) : Bool := PySem.W.keepIn K (.ref (d.at_ K)) && (match K.lookup (d.at_ K) with
  | some ⟨_, _, .func fd, _⟩ => PySem.W.codeIn K fd.code d.qual && He.dflB K fd.defaults (d.dvs K)
  | _ => false)
theorem band {a b : Bool} (h : (a && b) = true) : a = true ∧ b = true := Bool.and_eq_true_iff.mp h
theorem DefZ.funD {K : Fg} {d : DefZ} (e : fnZ K (d.at_ K) = d.val) (c : d.ok K = true) (hc : d.clo = false) : ∃ fd, FunD K d.name d.qual d.params d.body d.scope (d.dvs K) [] (d.at_ K) fd := by
  obtain ⟨kp, c2⟩ := band c
  unfold fnZ at e
  cases q : K.lookup (d.at_ K) with
  | none =>
    rw [q] at c2
    cases c2
  | some o =>
    obtain ⟨oc, od, dt, osl⟩ := o
    rw [q] at c2 e
    cases dt with
    | func fd =>
      obtain ⟨n1, n2, n3, n4, n5, n6, n7, n8, n9, n10, n11, n12, n13, n14, n15⟩ := fd
      have e2 : (some (n1, n2, n3, n4, n5, n6, n7.map (·.1), n15) : FnZ) = (some (d.name, d.qual, d.params, FuncBody.stmts d.body, d.scope, mainGlobals, if d.clo then ["__class__"] else [], builtinsNs) : FnZ) := e
      rw [hc] at e2
      simp only [Option.some.injEq, Prod.mk.injEq] at e2
      obtain ⟨h1, h2, h3, h4, h5, h6, h7, h8⟩ := e2
      have h7' : n7 = [] := List.map_eq_nil_iff.mp (by rw [h7]; rfl)
      subst h1 h2 h3 h4 h5 h6 h7' h8
      have c3 : (PySem.W.codeIn K n13 d.qual && He.dflB K n8 (d.dvs K)) = true := c2
      obtain ⟨k1, k2⟩ := band c3
      exact ⟨_, ⟨oc, od, n8, n9, n10, n11, n12, n13, n14, osl, rfl, q, k1, He.dflB_ok k2, .inl rfl⟩, kp⟩
    | _ => cases c2
/-! ### own exceptions -/
def oexB (K : Fg) (C : Addr) : Bool := (match K.lookup C with
  | some ⟨.type t, _, .cls cd, sl⟩ => (match cd.mro, sl.toList with
    | .ref C' :: bm, [_, _, _, _, some (.builtin n), _] => t == "type" && (C' == C && (n == "ValueError.__new__" && (!cd.hasDel && (cd.hasDict && PySem.HandSPX.refsVE bm))))
    | _, _ => false)
  | _ => false) && (decide (PySem.W.findIn K (.ref C) "__setattr__" = some (some (.builtin "object.__setattr__"))) && (decide (PySem.W.subIn K (.ref C) (.type "BaseException") = some true) && (decide (PySem.W.typeIn K (.ref C) = some (.type "type")) && PySem.W.keepIn K (.ref C))))
theorem oexB_ok {K : Fg} {C : Addr} (h : oexB K C = true) : OexC K C := by
  obtain ⟨q, h⟩ := band h
  obtain ⟨h2, h⟩ := band h
  obtain ⟨h3, h⟩ := band h
  obtain ⟨h4, h5⟩ := band h
  refine ⟨?_, of_decide_eq_true h2, of_decide_eq_true h3, of_decide_eq_true h4, h5⟩
  split at q
  · rename_i t dd cd sl ho
    split at q
    · rename_i C' bm k0 k1 k2 k3 n k5 hm hs
      simp only [Bool.and_eq_true, beq_iff_eq, Bool.not_eq_true'] at q
      obtain ⟨rfl, rfl, rfl, hdel, hdct, hbm⟩ := q
      obtain ⟨nm, bs, mro, ns, qn, hd, sn, sub, ab, col, del⟩ := cd
      dsimp only at hm hdel hdct
      subst hm hdel hdct
      have hsl : sl = #[k0, k1, k2, k3, some (.builtin "ValueError.__new__"), k5] := by
        obtain ⟨l⟩ := sl
        simp only at hs
        rw [hs]
      subst hsl
      exact ⟨nm, qn, ns, bs, bm, sn, sub, ab, col, dd, k0, k1, k2, k3, k5, ho, hbm⟩
    · cases q
  · cases q
def iniAt (K : Fg) (C : Addr) : Addr := He.ma K C "__init__"
def excB (file : Str) (K : Fg) (C : Addr) : Bool := oexB K C && (decide (PySem.W.findIn K (.ref C) "__init__" = some (some (.ref (iniAt K C)))) && (decide (PySem.W.typeIn K (.ref (iniAt K C)) = some (.type "function")) &&
  (decide (PySem.W.ks_superIn K C C "__init__" = some (some (.builtin "ValueError.__init__"))) && (decide (PySem.W.subIn K (.ref C) (.type "ValueError") = some true) && (decide (PySem.W.mroIn K C (.ref C) = some true) && (decide (PySem.W.nsIn K cStatics "thirdparty.any" = some none) &&
  (match K.lookup (iniAt K C) with
    | some ⟨_, _, .func fd, _⟩ => (match fd.code, fd.closure, fd.defaults with
      | .ref cda, [(_, cc)], .none => (match K.lookup cda with
        | some ⟨_, _, .fields vs, _⟩ => (match (vs[2]? : Option Value) with
          | some (Value.str f _) => file == f
          | _ => false)
        | _ => false) && (match K.lookup cc with
        | some ⟨_, _, .cell (some (.ref c)), _⟩ => decide (c = C)
        | _ => false)
      | _, _, _ => false)
    | _ => false)))))))
theorem excB_ok {P : Program} {K : Fg} {C : Addr} {d : DefZ} (h : excB P.main.file K C = true) (e : fnZ K (iniAt K C) = d.val) (c : d.ok K = true) (hat : d.at_ K = iniAt K C) (hc : d.clo = true) (top : (P.main.scope.names.lookup ("super" : Str)).isSome = false) : ExC P K C (iniAt K C) d.name d.qual d.params d.body d.scope := by
  obtain ⟨h1, h⟩ := band h
  obtain ⟨h2, h⟩ := band h
  obtain ⟨h3, h⟩ := band h
  obtain ⟨h4, h⟩ := band h
  obtain ⟨h5, h⟩ := band h
  obtain ⟨h6, h⟩ := band h
  obtain ⟨h7, h⟩ := band h
  refine ⟨oexB_ok h1, of_decide_eq_true h2, of_decide_eq_true h3, ?_, of_decide_eq_true h4, of_decide_eq_true h5, of_decide_eq_true h6, of_decide_eq_true h7, top⟩
  obtain ⟨kp, c2⟩ := band c
  rw [hat] at c2
  unfold fnZ at e
  cases q : K.lookup (iniAt K C) with
  | none =>
    rw [q] at c2
    cases c2
  | some o =>
    obtain ⟨oc, od, dt, osl⟩ := o
    rw [q] at c2 e h
    cases dt with
    | func fd =>
      obtain ⟨n1, n2, n3, n4, n5, n6, n7, n8, n9, n10, n11, n12, n13, n14, n15⟩ := fd
      have e2 : (some (n1, n2, n3, n4, n5, n6, n7.map (·.1), n15) : FnZ) = (some (d.name, d.qual, d.params, FuncBody.stmts d.body, d.scope, mainGlobals, if d.clo then ["__class__"] else [], builtinsNs) : FnZ) := e
      rw [hc] at e2
      simp only [Option.some.injEq, Prod.mk.injEq, if_true] at e2
      obtain ⟨g1, g2, g3, g4, g5, g6, g7, g8⟩ := e2
      have c3 : (PySem.W.codeIn K n13 d.qual && He.dflB K n8 (d.dvs K)) = true := c2
      obtain ⟨k1, k2⟩ := band c3
      dsimp only at h
      split at h
      · rename_i cda y cc
        obtain ⟨a1, a2⟩ := band h
        simp only [List.map_cons, List.map_nil, List.cons.injEq, and_true] at g7
        subst g1 g2 g3 g4 g5 g6 g7 g8
        split at a1
        · rename_i ccl cdd vs ccs hcda
          split at a1
          · rename_i f tf hvs
            split at a2
            · rename_i cl cld c csl hcc
              have ec : c = C := of_decide_eq_true a2
              subst ec
              exact ⟨oc, od, n9, n10, n11, n12, cda, n14, cc, osl, ccl, cdd, vs, ccs, f, tf, cl, cld, csl, rfl, k1, hcda, hvs, a1, hcc⟩
            · cases a2
          · cases a1
        · cases a1
      · cases h
    | _ => cases c2
/-! ### the Hook -/
def obsZ (chk : List (Fg → Bool)) (fn : List DefZ) (K : Fg) : Bool × List FnZ := ((chk.all fun f => f K) && fn.all fun d => d.ok K, fn.map fun d => fnZ K (d.at_ K))
def valZ (fn : List DefZ) : Bool × List FnZ := (true, fn.map DefZ.val)
def SaysZ (chk : List (Fg → Bool)) (fn : List DefZ) (K : Fg) : Prop := obsZ chk fn K = valZ fn
def refsZ (o : Obj) : List Addr := match o.data with
  | .seq its _ => its.toList.flatMap He.refV
  | .dict es _ => es.toList.flatMap fun e => He.refV e.val
  | .func fd => He.refV fd.code ++ He.refV fd.defaults ++ fd.closure.map (·.2)
  | .cls cd => cd.ns :: cd.mro.flatMap He.refV
  | .fields vs => vs.toList.flatMap He.refV
  | _ => []
def growZ (g : Addr → Option Obj) : Nat → List Addr → List Addr
  | 0, as => as
  | n + 1, as => as ++ growZ g n (as.flatMap fun a => match g a with
    | some o => refsZ o
    | none => [])
def asZ (g : Addr → Option Obj) (n : Nat) : List Addr := growZ g n [mainGlobals, cStatics]
def obsZG (n : Nat) (chk : List (Fg → Bool)) (fn : List DefZ) (g : Addr → Option Obj) : Bool × List FnZ := obsZ chk fn (He.frG g (asZ g n))
def hookZ (n : Nat) (chk : List (Fg → Bool)) (fn : List DefZ) : PySem.W.Hook where
  α := Bool × List FnZ
  obs := fun s => obsZG n chk fn s.heap.get?
  val := fun _ => valZ fn
  says := fun _ h => ∃ K : Fg, K.In h ∧ SaysZ chk fn K
  of := fun _ _ e => ⟨_, He.frG_in, e⟩
  keeps := fun _ _ _ ⟨K, hK, c⟩ k => ⟨K, PySem.W.Frag.In.keeps hK k, c⟩
theorem obsZG_eq {n : Nat} {chk : List (Fg → Bool)} {fn : List DefZ} {g : Addr → Option Obj} {s : Shared} (h : ∀ a, g a = s.heap.get? a) : obsZG n chk fn g = (hookZ n chk fn).obs s := by
  have e : g = s.heap.get? := funext h
  rw [e] <;> rfl
section
variable {chk : List (Fg → Bool)} {fn : List DefZ} {K : Fg}
theorem SaysZ.fact (c : SaysZ chk fn K) (i : Nat) {f : Fg → Bool} (h : chk[i]? = some f := by rfl) : f K = true := by
  have c1 := (band (show ((chk.all fun f => f K) && fn.all fun d => d.ok K) = true from congrArg (fun z : Bool × List FnZ => z.1) c)).1
  exact List.all_eq_true.mp c1 f (List.mem_of_getElem? h)
theorem SaysZ.def_ (c : SaysZ chk fn K) (i : Nat) {d : DefZ} (h : fn[i]? = some d := by rfl) : fnZ K (d.at_ K) = d.val ∧ d.ok K = true := by
  have c2 := (band (show ((chk.all fun f => f K) && fn.all fun d => d.ok K) = true from congrArg (fun z : Bool × List FnZ => z.1) c)).2
  have e : (fn.map fun d => fnZ K (d.at_ K)) = fn.map DefZ.val := congrArg (fun z : Bool × List FnZ => z.2) c
  have e2 : (fn.map fun d => fnZ K (d.at_ K))[i]? = (fn.map DefZ.val)[i]? := by rw [e]
  rw [List.getElem?_map, List.getElem?_map, h] at e2
  exact ⟨Option.some.inj e2, List.all_eq_true.mp c2 d (List.mem_of_getElem? h)⟩
theorem SaysZ.fun_ (c : SaysZ chk fn K) (i : Nat) {d : DefZ} (h : fn[i]? = some d := by rfl) (hc : d.clo = false := by rfl) : ∃ fd, FunD K d.name d.qual d.params d.body d.scope (d.dvs K) [] (d.at_ K) fd := (d.funD (c.def_ i h).1 (c.def_ i h).2 hc)
end
/-! ### tests -/
def fa (f : He.Fa) : Fg → Bool := fun K => f.ok K
def insB (x : Str) : Fg → Bool := fun K => (He.Fa.cls x).ok K && (decide (PySem.W.findIn K (.ref (He.ga K x)) "__class__" = some (some (.builtin "object.__class__"))) && (decide (PySem.W.specialIn K (.builtin "object.__class__") "__get__" = some (some (.builtin "getset_descriptor.__get__"))) &&
  (decide (PySem.W.takesIn K (.builtin "object.__class__") = some true) && (decide (PySem.W.mroIn K (He.ga K x) (.type "object") = some true) && decide (PySem.W.kitOne K (.ref (He.ga K x)) (.ref (He.ga K x)) = some true)))))
theorem insB_ok {K : Fg} {x : Str} (h : insB x K = true) : C8.InsC K (He.ga K x) := by
  obtain ⟨h1, h⟩ := band h
  obtain ⟨h2, h⟩ := band h
  obtain ⟨h3, h⟩ := band h
  obtain ⟨h4, h⟩ := band h
  obtain ⟨h5, h6⟩ := band h
  exact ⟨He.cls_ok h1, of_decide_eq_true h2, of_decide_eq_true h3, of_decide_eq_true h4, of_decide_eq_true h5, of_decide_eq_true h6⟩
def readB (x : Str) : Fg → Bool := fun K => PySem.W.readsIn K (He.ga K x) (.type "type") && decide (PySem.W.specialIn K (.ref (He.ga K x)) "__getattribute__" = some (some (.builtin "type.__getattribute__")))
theorem readB_ok {K : Fg} {x : Str} (h : readB x K = true) : ClX.CRead K (He.ga K x) (.type "type") := ⟨(band h).1, of_decide_eq_true (band h).2⟩
def cintB (x f : Str) (i : Int) : Fg → Bool := fun K => match PySem.W.findCls K (.ref (He.ga K x)) (.type "type") f with
  | some (.val (.int j _)) => decide (j = i)
  | _ => false
theorem cintB_ok {K : Fg} {x f : Str} {i : Int} (h : cintB x f i K = true) : ∃ t, ClX.CVal K (He.ga K x) (.type "type") f (.int i) (.int i t) := by
  unfold cintB at h
  split at h
  · rename_i j t e
    have : j = i := of_decide_eq_true h
    subst this
    exact ⟨t, e, t, rfl⟩
  · cases h
def xkB (x : Str) : Fg → Bool := fun K => xfB K (He.ga K x) && (decide (PySem.W.findIn K (.ref (He.ga K x)) "__class__" = some (some (.builtin "object.__class__"))) && (decide (PySem.W.specialIn K (.builtin "object.__class__") "__get__" = some (some (.builtin "getset_descriptor.__get__"))) &&
  (decide (PySem.W.takesIn K (.builtin "object.__class__") = some true) && decide (PySem.W.mroIn K (He.ga K x) (.type "object") = some true))))
theorem xkB_ok {K : Fg} {x : Str} (h : xkB x K = true) : XfC K (He.ga K x) ∧ ExcC K (He.ga K x) := by
  obtain ⟨h1, h⟩ := band h
  obtain ⟨h2, h⟩ := band h
  obtain ⟨h3, h⟩ := band h
  obtain ⟨h4, h5⟩ := band h
  have x := xfB_ok h1
  exact ⟨x, x.ga, x.gg, x.exC, x.hdC, of_decide_eq_true h2, of_decide_eq_true h3, of_decide_eq_true h4, of_decide_eq_true h5⟩
def kitB' (x y : Str) (b : Bool) : Fg → Bool := fun K => decide (PySem.W.kitOne K (.ref (He.ga K x)) (.ref (He.ga K y)) = some b)
def kitT (x : Str) (T : String) (b : Bool) : Fg → Bool := fun K => decide (PySem.W.kitOne K (.ref (He.ga K x)) (.type T) = some b)
def callB (x : Str) : Fg → Bool := fun K => decide (PySem.W.findIn K (.ref (He.ga K x)) "__call__" = some (some (.ref (He.ma K (He.ga K x) "__call__")))) && (PySem.W.isFn K (.ref (He.ma K (He.ga K x) "__call__")) && PySem.W.fnIn K (He.ma K (He.ga K x) "__call__"))
theorem callB_ok {K : Fg} {x : Str} (h : callB x K = true) : StX.CallO K (He.ga K x) (He.ma K (He.ga K x) "__call__") := by
  obtain ⟨h1, h⟩ := band h
  obtain ⟨h2, h3⟩ := band h
  exact ⟨of_decide_eq_true h1, h2, h3⟩
/-- the def of a staticmethod -/
def smAt (C m : Str) : Fg → Addr := fun K => match PySem.W.recIn K (He.ma K (He.ga K C) m) "staticmethod" with
  | some (.ref g :: _) => g
  | _ => 0
def notB (x y : Str) : Fg → Bool := fun K => PySem.W.notFirst K (He.ga K x) (.ref (He.ga K y))
end Kf
end
section
set_option maxRecDepth 100000
set_option maxHeartbeats 1000000
/-! KhF1: the facts of the head. Printed by mkfacts80.py. -/
namespace Kf
open PySem PySem.Spec PyProof.Rows L2
theorem kitB_ok {K : Fg} {x y : Str} {b : Bool} (h : kitB' x y b K = true) : IsK K x y b := of_decide_eq_true (p := PySem.W.kitOne K (.ref (He.ga K x)) (.ref (He.ga K y)) = some b) h
theorem star1B {x qual p1 pv : Str} {params : Arguments} {body : List Stmt} {scope : Scope} (h0 : ∀ (kV doc pm : Value) (an : Option Addr) (cdv ct a : Value), bindArgs (PySem.W.fnOf x qual params body scope .none kV doc pm an cdv ct) ⟨[a], []⟩ = (newTuple [] >>= fun t => pure [(p1, a), (pv, t)]))
    (h1 : ∀ (kV doc pm : Value) (an : Option Addr) (cdv ct a r : Value) (rs : List Value), bindArgs (PySem.W.fnOf x qual params body scope .none kV doc pm an cdv ct) ⟨a :: r :: rs, []⟩ = (newTuple (r :: rs) >>= fun t => pure [(p1, a), (pv, t)])) :
    ∀ (kV doc pm : Value) (an : Option Addr) (cdv ct : Value) (us rest : List Value), us.length = ([p1] : List Str).length → bindArgs (PySem.W.fnOf x qual params body scope .none kV doc pm an cdv ct) ⟨us ++ rest, []⟩ = (newTuple rest >>= fun t => pure (([p1] : List Str).zip us ++ [(pv, t)])) :=
  fun kV doc pm an cdv ct us rest hl => by
    match us, hl with
    | [a], _ =>
      cases rest with
      | nil => exact h0 kV doc pm an cdv ct a
      | cons r rs => exact h1 kV doc pm an cdv ct a r rs
/-- a method as a value -/
def bmB (x m : Str) : Fg → Bool := fun K => decide (PySem.W.specialIn K (.ref (He.ma K (He.ga K x) m)) "__get__" = some (some (.builtin "function.__get__"))) && (decide (PySem.W.takesIn K (.ref (He.ma K (He.ga K x) m)) = some false) && PySem.W.fnIn K (He.ma K (He.ga K x) m))
theorem bmB_ok {K : Fg} {x m : Str} (h0 : Meth K (He.ga K x) m (He.ma K (He.ga K x) m)) (h : bmB x m K = true) (hc : PySem.W.copiedNames.contains m = false) : BMeth K (He.ga K x) m (He.ma K (He.ga K x) m) := by
  obtain ⟨h1, h⟩ := band h
  obtain ⟨h2, h3⟩ := band h
  exact ⟨h0, of_decide_eq_true h1, of_decide_eq_true h2, hc, h3⟩
def sfB (x : Str) : Fg → Bool := fun K => PySem.W.selfFirst K (He.ga K x)
theorem dunder_rshift : ("__rshift__" : Str) = PySem.dunder Operator.RShift.info.2 := by decide +kernel

def rwFile : Str := PySem.Challenge.pw_kindsfill_k80_whole_trimmed.main.file
def chk0 : List (Fg → Bool) := [fa (.free "len"),
  fa (.free "abs"),
  fa (.free "int"),
  fa (.free "str"),
  fa (.free "list"),
  fa (.free "tuple"),
  fa (.free "range"),
  fa (.free "enumerate"),
  fa (.free "zip"),
  fa (.free "isinstance"),
  fa (.free "all"),
  fa (.free "any"),
  fa (.free "bool"),
  fa (.int "MOST_LETTERS" 24),
  fa (.str "LETTERS" "abcdefghijklmnopqrstuvwxyz"),
  fa (.str "LATER" "abcdefghijklmnopqrstuvwxyz0123456789."),
  fa (.cls "Order"),
  fa (.noat "Order" "kinds"),
  fa (.noat "Order" "_above"),
  insB "Order"]
def chk1 : List (Fg → Bool) := [fa (.glo "Order"),
  readB "Order",
  cintB "Order" "MOST" 10,
  fa (.cls "Mapping"),
  fa (.noat "Mapping" "source"),
  fa (.noat "Mapping" "target"),
  fa (.noat "Mapping" "images"),
  fa (.noat "Mapping" "_table"),
  insB "Mapping",
  fa (.glo "Mapping"),
  fa (.glo "NotListed"),
  fa (.glo "BadCount"),
  fa (.glo "KindError"),
  fa (.free "ValueError"),
  xkB "NotListed",
  fa (.noat "NotListed" "name"),
  kitT "NotListed" "ValueError" true,
  fa (.exm "NotListed" "KindError" true),
  kitB' "NotListed" "NotListed" true,
  kitB' "NotListed" "BadCount" false]
def chk2 : List (Fg → Bool) := [fun K => excB rwFile K (He.ga K "NotListed"),
  fa (.free "super"),
  fun K => excB rwFile K (He.ga K "BadCount"),
  fa (.noat "BadCount" "number"),
  fun K => excB rwFile K (He.ga K "Broken"),
  fa (.noat "Broken" "pair"),
  fa (.glo "Broken"),
  fun K => excB rwFile K (He.ga K "Unlike"),
  fa (.glo "Unlike"),
  fa (.glo "_law_pool"),
  fa (.glo "_law_draw"),
  fa (.glo "_law_word"),
  fa (.glo "_law_fresh"),
  fa (.glo "_law_names"),
  fa (.glo "_law_mixed_places"),
  fa (.glo "_law_free_pairs"),
  fa (.glo "_law_crown"),
  fa (.glo "_law_tree"),
  fa (.glo "_law_layers"),
  fa (.glo "_law_diamond")]
def chk3 : List (Fg → Bool) := [fa (.glo "_law_shape"),
  fa (.glo "_law_order_pairs"),
  fa (.glo "_law_named"),
  fa (.glo "_law_above"),
  fa (.glo "_law_same"),
  fa (.glo "is_kind_name"),
  fa (.glo "check_listed"),
  fa (.glo "check_kind_names"),
  fa (.glo "spread"),
  fa (.glo "kinds_above"),
  fa (.glo "check_rings"),
  fa (.meth "Order" "below"),
  fa (.meth "Order" "_related"),
  notB "Order" "Order",
  fa (.meth "Order" "__le__"),
  fa (.meth "Order" "__eq__"),
  fa (.glo "check_equal"),
  notB "Mapping" "Mapping",
  fa (.meth "Mapping" "__eq__"),
  fa (.meth "Order" "_covered")]
def chk4 : List (Fg → Bool) := [fa (.meth "Order" "covers"),
  fa (.meth "Order" "restricted"),
  bmB "Order" "restricted",
  fa (.mkr "Order"),
  fa (.glo "fold_place"),
  fa (.glo "next_fold"),
  fa (.glo "folds_of"),
  fa (.glo "trimming"),
  fa (.mkr "Mapping"),
  sfB "Mapping",
  fa (.meth "Mapping" "__rshift__"),
  fa (.glo "_law_place"),
  fa (.glo "_law_folds"),
  fa (.glo "_law_image"),
  fa (.glo "_law_part_pairs"),
  fa (.glo "_law_told_folds"),
  fa (.glo "_law_trim"),
  fa (.glo "_law_asked"),
  fa (.glo "_law_right"),
  fa (.glo "law")]
def chk : List (Fg → Bool) := chk0 ++ chk1 ++ chk2 ++ chk3 ++ chk4
def fns0 : List DefZ := [{ at_ := fun K => iniAt K (He.ga K "NotListed"), name := "__init__", qual := "NotListed.__init__", params := defArgs (mem 5 0), body := defBody (mem 5 0), scope := defScope (mem 5 0), clo := true },
  { at_ := fun K => iniAt K (He.ga K "BadCount"), name := "__init__", qual := "BadCount.__init__", params := defArgs (mem 6 0), body := defBody (mem 6 0), scope := defScope (mem 6 0), clo := true },
  { at_ := fun K => iniAt K (He.ga K "Broken"), name := "__init__", qual := "Broken.__init__", params := defArgs (mem 9 0), body := defBody (mem 9 0), scope := defScope (mem 9 0), clo := true },
  { at_ := fun K => iniAt K (He.ga K "Unlike"), name := "__init__", qual := "Unlike.__init__", params := defArgs (mem 8 0), body := defBody (mem 8 0), scope := defScope (mem 8 0), clo := true },
  { at_ := fun K => He.ga K "_law_pool", name := "_law_pool", qual := "_law_pool", params := defArgs (top 35), body := defBody (top 35), scope := defScope (top 35) },
  { at_ := fun K => He.ga K "_law_draw", name := "_law_draw", qual := "_law_draw", params := defArgs (top 36), body := defBody (top 36), scope := defScope (top 36) },
  { at_ := fun K => He.ga K "_law_word", name := "_law_word", qual := "_law_word", params := defArgs (top 37), body := defBody (top 37), scope := defScope (top 37) },
  { at_ := fun K => He.ga K "_law_fresh", name := "_law_fresh", qual := "_law_fresh", params := defArgs (top 38), body := defBody (top 38), scope := defScope (top 38) },
  { at_ := fun K => He.ga K "_law_names", name := "_law_names", qual := "_law_names", params := defArgs (top 39), body := defBody (top 39), scope := defScope (top 39) },
  { at_ := fun K => He.ga K "_law_mixed_places", name := "_law_mixed_places", qual := "_law_mixed_places", params := defArgs (top 40), body := defBody (top 40), scope := defScope (top 40) },
  { at_ := fun K => He.ga K "_law_free_pairs", name := "_law_free_pairs", qual := "_law_free_pairs", params := defArgs (top 41), body := defBody (top 41), scope := defScope (top 41) },
  { at_ := fun K => He.ga K "_law_crown", name := "_law_crown", qual := "_law_crown", params := defArgs (top 42), body := defBody (top 42), scope := defScope (top 42) },
  { at_ := fun K => He.ga K "_law_tree", name := "_law_tree", qual := "_law_tree", params := defArgs (top 43), body := defBody (top 43), scope := defScope (top 43) },
  { at_ := fun K => He.ga K "_law_layers", name := "_law_layers", qual := "_law_layers", params := defArgs (top 44), body := defBody (top 44), scope := defScope (top 44) },
  { at_ := fun K => He.ga K "_law_diamond", name := "_law_diamond", qual := "_law_diamond", params := defArgs (top 45), body := defBody (top 45), scope := defScope (top 45) },
  { at_ := fun K => He.ga K "_law_shape", name := "_law_shape", qual := "_law_shape", params := defArgs (top 46), body := defBody (top 46), scope := defScope (top 46) },
  { at_ := fun K => He.ga K "_law_order_pairs", name := "_law_order_pairs", qual := "_law_order_pairs", params := defArgs (top 47), body := defBody (top 47), scope := defScope (top 47) },
  { at_ := fun K => He.ga K "_law_named", name := "_law_named", qual := "_law_named", params := defArgs (top 48), body := defBody (top 48), scope := defScope (top 48) },
  { at_ := fun K => He.ga K "_law_above", name := "_law_above", qual := "_law_above", params := defArgs (top 49), body := defBody (top 49), scope := defScope (top 49) },
  { at_ := fun K => He.ga K "_law_same", name := "_law_same", qual := "_law_same", params := defArgs (top 50), body := defBody (top 50), scope := defScope (top 50) }]
def fns1 : List DefZ := [{ at_ := fun K => He.ga K "is_kind_name", name := "is_kind_name", qual := "is_kind_name", params := defArgs (top 14), body := defBody (top 14), scope := defScope (top 14) },
  { at_ := fun K => He.ga K "check_listed", name := "check_listed", qual := "check_listed", params := defArgs (top 16), body := defBody (top 16), scope := defScope (top 16) },
  { at_ := fun K => He.ga K "check_kind_names", name := "check_kind_names", qual := "check_kind_names", params := defArgs (top 15), body := defBody (top 15), scope := defScope (top 15) },
  { at_ := fun K => He.ga K "spread", name := "spread", qual := "spread", params := defArgs (top 18), body := defBody (top 18), scope := defScope (top 18) },
  { at_ := fun K => He.ga K "kinds_above", name := "kinds_above", qual := "kinds_above", params := defArgs (top 31), body := defBody (top 31), scope := defScope (top 31) },
  { at_ := fun K => He.ga K "check_rings", name := "check_rings", qual := "check_rings", params := defArgs (top 32), body := defBody (top 32), scope := defScope (top 32) },
  { at_ := fun K => He.ma K (He.ga K "Order") "__init__", name := "__init__", qual := "Order.__init__", params := defArgs (mem 33 1), body := defBody (mem 33 1), scope := defScope (mem 33 1), dfl := [.adr (He.dflAt ("Order", some "__init__") 0)] },
  { at_ := fun K => He.ma K (He.ga K "Order") "below", name := "below", qual := "Order.below", params := defArgs (mem 33 7), body := defBody (mem 33 7), scope := defScope (mem 33 7) },
  { at_ := fun K => He.ma K (He.ga K "Order") "_related", name := "_related", qual := "Order._related", params := defArgs (mem 33 9), body := defBody (mem 33 9), scope := defScope (mem 33 9) },
  { at_ := fun K => He.ma K (He.ga K "Order") "__le__", name := "__le__", qual := "Order.__le__", params := defArgs (mem 33 19), body := defBody (mem 33 19), scope := defScope (mem 33 19) },
  { at_ := fun K => He.ma K (He.ga K "Order") "__eq__", name := "__eq__", qual := "Order.__eq__", params := defArgs (mem 33 20), body := defBody (mem 33 20), scope := defScope (mem 33 20) },
  { at_ := fun K => He.ga K "check_equal", name := "check_equal", qual := "check_equal", params := defArgs (top 23), body := defBody (top 23), scope := defScope (top 23) },
  { at_ := fun K => He.ma K (He.ga K "Mapping") "__init__", name := "__init__", qual := "Mapping.__init__", params := defArgs (mem 24 0), body := defBody (mem 24 0), scope := defScope (mem 24 0) },
  { at_ := fun K => He.ma K (He.ga K "Mapping") "__eq__", name := "__eq__", qual := "Mapping.__eq__", params := defArgs (mem 24 9), body := defBody (mem 24 9), scope := defScope (mem 24 9) },
  { at_ := fun K => He.ma K (He.ga K "Order") "_covered", name := "_covered", qual := "Order._covered", params := defArgs (mem 33 10), body := defBody (mem 33 10), scope := defScope (mem 33 10) },
  { at_ := fun K => He.ma K (He.ga K "Order") "covers", name := "covers", qual := "Order.covers", params := defArgs (mem 33 11), body := defBody (mem 33 11), scope := defScope (mem 33 11) },
  { at_ := fun K => He.ma K (He.ga K "Order") "restricted", name := "restricted", qual := "Order.restricted", params := defArgs (mem 33 13), body := defBody (mem 33 13), scope := defScope (mem 33 13) },
  { at_ := fun K => He.ga K "fold_place", name := "fold_place", qual := "fold_place", params := defArgs (top 26), body := defBody (top 26), scope := defScope (top 26) },
  { at_ := fun K => He.ga K "next_fold", name := "next_fold", qual := "next_fold", params := defArgs (top 27), body := defBody (top 27), scope := defScope (top 27) },
  { at_ := fun K => He.ga K "folds_of", name := "folds_of", qual := "folds_of", params := defArgs (top 28), body := defBody (top 28), scope := defScope (top 28) }]
def fns2 : List DefZ := [{ at_ := fun K => He.ga K "trimming", name := "trimming", qual := "trimming", params := defArgs (top 29), body := defBody (top 29), scope := defScope (top 29) },
  { at_ := fun K => He.ma K (He.ga K "Mapping") "__rshift__", name := "__rshift__", qual := "Mapping.__rshift__", params := defArgs (mem 24 7), body := defBody (mem 24 7), scope := defScope (mem 24 7) },
  { at_ := fun K => He.ga K "_law_place", name := "_law_place", qual := "_law_place", params := defArgs (top 51), body := defBody (top 51), scope := defScope (top 51) },
  { at_ := fun K => He.ga K "_law_folds", name := "_law_folds", qual := "_law_folds", params := defArgs (top 52), body := defBody (top 52), scope := defScope (top 52) },
  { at_ := fun K => He.ga K "_law_image", name := "_law_image", qual := "_law_image", params := defArgs (top 56), body := defBody (top 56), scope := defScope (top 56) },
  { at_ := fun K => He.ga K "_law_part_pairs", name := "_law_part_pairs", qual := "_law_part_pairs", params := defArgs (top 57), body := defBody (top 57), scope := defScope (top 57) },
  { at_ := fun K => He.ga K "_law_told_folds", name := "_law_told_folds", qual := "_law_told_folds", params := defArgs (top 53), body := defBody (top 53), scope := defScope (top 53) },
  { at_ := fun K => He.ga K "_law_trim", name := "_law_trim", qual := "_law_trim", params := defArgs (top 54), body := defBody (top 54), scope := defScope (top 54) },
  { at_ := fun K => He.ga K "_law_asked", name := "_law_asked", qual := "_law_asked", params := defArgs (top 55), body := defBody (top 55), scope := defScope (top 55) },
  { at_ := fun K => He.ga K "_law_right", name := "_law_right", qual := "_law_right", params := defArgs (top 58), body := defBody (top 58), scope := defScope (top 58) },
  { at_ := fun K => He.ga K "law", name := "law", qual := "law", params := defArgs (top 59), body := defBody (top 59), scope := defScope (top 59) }]
def fns : List DefZ := fns0 ++ fns1 ++ fns2
theorem law_facts {P : Program} {w : World} {K : Fg} {h base : Heap} {mg : Str → Option Value} (X : K.In h) (G : h.Ns mainGlobals mg) (hP : P.main.file = rwFile ∧ (P.main.scope.names.lookup ("super" : Str)).isSome = false) (c : SaysZ chk fns K) : Law8C P w K mg base := by
  have b : Bi mg := ⟨(He.free_ok X G (c.fact 0)), (He.free_ok X G (c.fact 1)), (He.free_ok X G (c.fact 2)), (He.free_ok X G (c.fact 3)), (He.free_ok X G (c.fact 4)), (He.free_ok X G (c.fact 5)), (He.free_ok X G (c.fact 6)), (He.free_ok X G (c.fact 7)), (He.free_ok X G (c.fact 8)), (He.free_ok X G (c.fact 9)), (He.free_ok X G (c.fact 10)), (He.free_ok X G (c.fact 11))⟩
  have bt : BiT mg := ⟨(He.free_ok X G (c.fact 12)), (He.free_ok X G (c.fact 2)), (He.free_ok X G (c.fact 3)), (He.free_ok X G (c.fact 5)), (He.free_ok X G (c.fact 4))⟩
  have gc : Gc mg := ⟨He.int_ok X G (c.fact 13), He.str_ok X G (c.fact 14), He.str_ok X G (c.fact 15)⟩
  have oc : OrC K mg := ⟨(He.cls_ok (c.fact 16)), (He.noat_ok (c.fact 17)), (He.noat_ok (c.fact 18)), (insB_ok (c.fact 19)), (He.glo_ok X G (c.fact 20)), readB_ok (c.fact 21), cintB_ok (c.fact 22)⟩
  have mc : MpC K mg := ⟨(He.cls_ok (c.fact 23)), (He.noat_ok (c.fact 24)), (He.noat_ok (c.fact 25)), (He.noat_ok (c.fact 26)), (He.noat_ok (c.fact 27)), (insB_ok (c.fact 28)), (He.glo_ok X G (c.fact 29))⟩
  have er : Er8 K mg := ⟨(He.glo_ok X G (c.fact 30)), (He.glo_ok X G (c.fact 31)), (He.glo_ok X G (c.fact 32)), (He.free_ok X G (c.fact 33)), ⟨(xkB_ok (c.fact 34)).1, (xkB_ok (c.fact 34)).2⟩, (He.noat_ok (c.fact 35)), of_decide_eq_true (c.fact 36), He.exm_ok (c.fact 37), kitB_ok (c.fact 38), kitB_ok (c.fact 39)⟩
  have e_xNotListed : ExC P K (He.ga K "NotListed") (iniAt K (He.ga K "NotListed")) _ _ _ _ _ := excB_ok (P := P) (hP.1 ▸ (c.fact 40)) (c.def_ 0).1 (c.def_ 0).2 rfl rfl hP.2
  have xNotListed : Xc1 P w K mg base "NotListed" "name" := by
    obtain ⟨fd, h1, h2⟩ := fn_exc1 (w := w) (base := base) (f := "name") (pn := "name") e_xNotListed (He.free_ok X G (c.fact 41)) (He.noat_ok (c.fact 35)) rfl (by decide) ⟨_, rfl, rfl⟩ rfl rfl rfl rfl (by decide) (by decide) rfl rfl rfl (by decide +kernel) (fun _ _ _ _ => rfl) (fun _ _ _ _ => rfl) (fun _ _ _ _ => rfl) (fun _ _ _ _ => ⟨_, rfl⟩) (fun _ _ _ _ _ _ _ us hl => match us, hl with | [_, _], _ => rfl)
    exact ⟨(He.glo_ok X G (c.fact 30)), e_xNotListed.cls, _, fd, _, e_xNotListed.ini, e_xNotListed.ty, h1, h2⟩
  have e_xBadCount : ExC P K (He.ga K "BadCount") (iniAt K (He.ga K "BadCount")) _ _ _ _ _ := excB_ok (P := P) (hP.1 ▸ (c.fact 42)) (c.def_ 1).1 (c.def_ 1).2 rfl rfl hP.2
  have xBadCount : Xc1 P w K mg base "BadCount" "number" := by
    obtain ⟨fd, h1, h2⟩ := fn_exc1 (w := w) (base := base) (f := "number") (pn := "number") e_xBadCount (He.free_ok X G (c.fact 41)) (He.noat_ok (c.fact 43)) rfl (by decide) ⟨_, rfl, rfl⟩ rfl rfl rfl rfl (by decide) (by decide) rfl rfl rfl (by decide +kernel) (fun _ _ _ _ => rfl) (fun _ _ _ _ => rfl) (fun _ _ _ _ => rfl) (fun _ _ _ _ => ⟨_, rfl⟩) (fun _ _ _ _ _ _ _ us hl => match us, hl with | [_, _], _ => rfl)
    exact ⟨(He.glo_ok X G (c.fact 31)), e_xBadCount.cls, _, fd, _, e_xBadCount.ini, e_xBadCount.ty, h1, h2⟩
  have e_xBroken : ExC P K (He.ga K "Broken") (iniAt K (He.ga K "Broken")) _ _ _ _ _ := excB_ok (P := P) (hP.1 ▸ (c.fact 44)) (c.def_ 2).1 (c.def_ 2).2 rfl rfl hP.2
  have xBroken : Xc1 P w K mg base "Broken" "pair" := by
    obtain ⟨fd, h1, h2⟩ := fn_exc1 (w := w) (base := base) (f := "pair") (pn := "pair") e_xBroken (He.free_ok X G (c.fact 41)) (He.noat_ok (c.fact 45)) rfl (by decide) ⟨_, rfl, rfl⟩ rfl rfl rfl rfl (by decide) (by decide) rfl rfl rfl (by decide +kernel) (fun _ _ _ _ => rfl) (fun _ _ _ _ => rfl) (fun _ _ _ _ => rfl) (fun _ _ _ _ => ⟨_, rfl⟩) (fun _ _ _ _ _ _ _ us hl => match us, hl with | [_, _], _ => rfl)
    exact ⟨(He.glo_ok X G (c.fact 46)), e_xBroken.cls, _, fd, _, e_xBroken.ini, e_xBroken.ty, h1, h2⟩
  have e_xUnlike : ExC P K (He.ga K "Unlike") (iniAt K (He.ga K "Unlike")) _ _ _ _ _ := excB_ok (P := P) (hP.1 ▸ (c.fact 47)) (c.def_ 3).1 (c.def_ 3).2 rfl rfl hP.2
  have xUnlike : Xc0 P w K mg base "Unlike" := by
    obtain ⟨fd, h1, h2⟩ := fn_exc0 (w := w) (base := base) e_xUnlike (He.free_ok X G (c.fact 41)) rfl (by decide) ⟨_, rfl, rfl⟩ rfl rfl rfl rfl rfl rfl (by decide +kernel) (fun _ _ _ _ => rfl) (fun _ _ _ _ => rfl) (fun _ _ _ _ => ⟨_, rfl⟩) (fun _ _ _ _ _ _ _ us hl => match us, hl with | [_], _ => rfl)
    exact ⟨(He.glo_ok X G (c.fact 48)), e_xUnlike.cls, _, fd, _, e_xUnlike.ini, e_xUnlike.ty, h1, h2⟩
  obtain ⟨_, F_pool⟩ := c.fun_ 4
  have pool : Dx P w K mg base "_law_pool" 1 cPool := dn_of F_pool (ok_pool F_pool b) (He.glo_ok X G (c.fact 49)) (fun _ _ _ _ _ _ us hl => match us, hl with | [_], _ => rfl)
  obtain ⟨_, F_draw⟩ := c.fun_ 5
  have draw : Dy P w K mg base "_law_draw" 1 cDraw := dn_of F_draw (ok_draw F_draw b) (He.glo_ok X G (c.fact 50)) (fun _ _ _ _ _ _ us hl => match us, hl with | [_, _], _ => rfl)
  obtain ⟨_, F_word⟩ := c.fun_ 6
  have word : Dy P w K mg base "_law_word" 2 cWord := dn_of F_word (ok_word F_word b draw) (He.glo_ok X G (c.fact 51)) (fun _ _ _ _ _ _ us hl => match us, hl with | [_, _], _ => rfl)
  obtain ⟨_, F_fresh⟩ := c.fun_ 7
  have fresh : Dx P w K mg base "_law_fresh" 1 cFresh := dn_of F_fresh (ok_fresh F_fresh b) (He.glo_ok X G (c.fact 52)) (fun _ _ _ _ _ _ us hl => match us, hl with | [_, _], _ => rfl)
  obtain ⟨_, F_nms⟩ := c.fun_ 8
  have nms : Dy P w K mg base "_law_names" 3 cNames := dn_of F_nms (ok_names F_nms b draw word fresh) (He.glo_ok X G (c.fact 53)) (fun _ _ _ _ _ _ us hl => match us, hl with | [_, _], _ => rfl)
  obtain ⟨_, F_plcs⟩ := c.fun_ 9
  have plcs : Dy P w K mg base "_law_mixed_places" 2 cPlaces := dn_of F_plcs (ok_places F_plcs b draw) (He.glo_ok X G (c.fact 54)) (fun _ _ _ _ _ _ us hl => match us, hl with | [_, _], _ => rfl)
  obtain ⟨_, F_freep⟩ := c.fun_ 10
  have freep : Dy P w K mg base "_law_free_pairs" 2 cFree := dn_of F_freep (ok_free F_freep b draw) (He.glo_ok X G (c.fact 55)) (fun _ _ _ _ _ _ us hl => match us, hl with | [_, _], _ => rfl)
  obtain ⟨_, F_crown⟩ := c.fun_ 11
  have crown : Dx P w K mg base "_law_crown" 1 cCrown := dn_of F_crown (ok_crown F_crown b) (He.glo_ok X G (c.fact 56)) (fun _ _ _ _ _ _ us hl => match us, hl with | [_], _ => rfl)
  obtain ⟨_, F_tree⟩ := c.fun_ 12
  have tree : Dy P w K mg base "_law_tree" 2 cTree := dn_of F_tree (ok_tree F_tree b draw) (He.glo_ok X G (c.fact 57)) (fun _ _ _ _ _ _ us hl => match us, hl with | [_, _], _ => rfl)
  obtain ⟨_, F_layers⟩ := c.fun_ 13
  have layers : Dx P w K mg base "_law_layers" 1 cLayers := dn_of F_layers (ok_layers F_layers b) (He.glo_ok X G (c.fact 58)) (fun _ _ _ _ _ _ us hl => match us, hl with | [_, _], _ => rfl)
  obtain ⟨_, F_dia⟩ := c.fun_ 14
  have dia : Dx P w K mg base "_law_diamond" 1 cDia := dn_of F_dia (ok_dia F_dia b) (He.glo_ok X G (c.fact 59)) (fun _ _ _ _ _ _ us hl => match us, hl with | [_], _ => rfl)
  obtain ⟨_, F_shape⟩ := c.fun_ 15
  have shape : Dy P w K mg base "_law_shape" 3 cShape := dn_of F_shape (ok_shape F_shape b draw crown tree layers dia freep) (He.glo_ok X G (c.fact 60)) (fun _ _ _ _ _ _ us hl => match us, hl with | [_, _], _ => rfl)
  obtain ⟨_, F_opairs⟩ := c.fun_ 16
  have opairs : Dy P w K mg base "_law_order_pairs" 4 cShape := dn_of F_opairs (ok_opairs F_opairs b shape plcs) (He.glo_ok X G (c.fact 61)) (fun _ _ _ _ _ _ us hl => match us, hl with | [_, _], _ => rfl)
  obtain ⟨_, F_named_⟩ := c.fun_ 17
  have named_ : Dx P w K mg base "_law_named" 1 cNamed := dn_of F_named_ (ok_named F_named_ b) (He.glo_ok X G (c.fact 62)) (fun _ _ _ _ _ _ us hl => match us, hl with | [_, _], _ => rfl)
  obtain ⟨_, F_above⟩ := c.fun_ 18
  have above : Dx P w K mg base "_law_above" 1 cAbove := dn_of F_above (ok_above F_above b) (He.glo_ok X G (c.fact 63)) (fun _ _ _ _ _ _ us hl => match us, hl with | [_, _], _ => rfl)
  obtain ⟨_, F_same⟩ := c.fun_ 19
  have same : ∀ k, Dx P w K mg base "_law_same" (k + 1) (cSame k) := fun k => by
    induction k with
    | zero => exact dn_of F_same (ok_same F_same b bt fun j h => nomatch h) (He.glo_ok X G (c.fact 64)) (fun _ _ _ _ _ _ us hl => match us, hl with | [_, _], _ => rfl)
    | succ k ih => exact dn_of F_same (ok_same F_same b bt fun j h => by cases h; exact ih) (He.glo_ok X G (c.fact 64)) (fun _ _ _ _ _ _ us hl => match us, hl with | [_, _], _ => rfl)
  obtain ⟨_, F_isname⟩ := c.fun_ 20
  have isname : ∀ z, Dx P w K mg base "is_kind_name" 1 (cIsName z) := fun z => dn_of F_isname (ok_isname F_isname b gc z) (He.glo_ok X G (c.fact 65)) (fun _ _ _ _ _ _ us hl => match us, hl with | [_], _ => rfl)
  obtain ⟨_, F_listed⟩ := c.fun_ 21
  have listed : ∀ ks z, Dx P w K mg base "check_listed" 3 (cListed ks z) := fun ks z => dn_of F_listed (ok_listed F_listed xNotListed ks z) (He.glo_ok X G (c.fact 66)) (fun _ _ _ _ _ _ us hl => match us, hl with | [_, _], _ => rfl)
  obtain ⟨_, F_cknames⟩ := c.fun_ 22
  have cknames : ∀ ks, Dx P w K mg base "check_kind_names" 2 (cNamesOk ks) := fun ks => dn_of F_cknames (ok_cknames F_cknames b isname ks) (He.glo_ok X G (c.fact 67)) (fun _ _ _ _ _ _ us hl => match us, hl with | [_], _ => rfl)
  obtain ⟨_, F_spread⟩ := c.fun_ 23
  have spread : ∀ ks E s, Dx P w K mg base "spread" 2 (cSpread ks E s) := fun ks E s => dn_of F_spread (ok_spread F_spread b ks E s) (He.glo_ok X G (c.fact 68)) (fun _ _ _ _ _ _ us hl => match us, hl with | [_, _], _ => rfl)
  obtain ⟨_, F_aboves⟩ := c.fun_ 24
  have aboves : ∀ ks prs, Dx P w K mg base "kinds_above" 3 (cAboves ks prs) := fun ks prs => dn_of F_aboves (ok_aboves F_aboves b spread ks prs) (He.glo_ok X G (c.fact 69)) (fun _ _ _ _ _ _ us hl => match us, hl with | [_, _], _ => rfl)
  obtain ⟨_, F_rings⟩ := c.fun_ 25
  have rings : ∀ ks E, Dx P w K mg base "check_rings" 1 (cRings ks E) := fun ks E => dn_of F_rings (ok_rings F_rings ks E) (He.glo_ok X G (c.fact 70)) (fun _ _ _ _ _ _ us hl => match us, hl with | [_, _], _ => rfl)
  obtain ⟨_, F_ordI⟩ := c.fun_ 26
  have ordI : ∀ ks prs, FnR P w K mg base (L2.CX P w) 4 (He.ma K (He.ga K "Order") "__init__") (spO K (cOrdI ks prs)) := fun ks prs => by
    obtain ⟨ds, hds, hb⟩ := F_ordI.binds1 (ps := ["self", "kinds", "pairs"]) 3 1 (by simp [DefZ.dvs]) rfl (fun T kV doc pm an cdv ct us its hl hl2 => match us, its, hl, hl2 with
      | [_, _, _], [_], _, _ => ⟨_, rfl, rfl⟩)
    cases hds
    exact ((ok_ordI F_ordI b oc cknames listed aboves rings ks prs).raw hb .nil).imp fun vs H Q E z => by rw [List.append_nil]; exact z
  obtain ⟨_, F_below⟩ := c.fun_ 27
  have below : ∀ ks E lo hi, FnR P w K mg base (L2.CX P w) 4 (He.ma K (He.ga K "Order") "below") (spP K (cBelow ks E lo hi)) := fun ks E lo hi => ((ok_below F_below oc listed ks E lo hi).raw (F_below.bindsN (fun _ _ _ _ _ _ us hl => match us, hl with | [_, _, _], _ => rfl)) .nil).imp fun vs H Q E z => by rw [List.append_nil]; exact z
  have belowM : ∀ ks E lo hi, Md P w K mg base "Order" "below" 4 (cBelow ks E lo hi) := fun ks E lo hi => ⟨oc.cls, _, (He.meth_ok (c.fact 71)), below ks E lo hi⟩
  obtain ⟨_, F_rel⟩ := c.fun_ 28
  have rel : ∀ ks E, FnR P w K mg base (L2.CX P w) 1 (He.ma K (He.ga K "Order") "_related") (spP K (cRel ks E)) := fun ks E => ((ok_rel F_rel oc ks E).raw (F_rel.bindsN (fun _ _ _ _ _ _ us hl => match us, hl with | [_], _ => rfl)) .nil).imp fun vs H Q E z => by rw [List.append_nil]; exact z
  have relM : ∀ ks E, Md P w K mg base "Order" "_related" 1 (cRel ks E) := fun ks E => ⟨oc.cls, _, (He.meth_ok (c.fact 72)), rel ks E⟩
  obtain ⟨_, F_ordLe⟩ := c.fun_ 29
  have ordLe : ∀ ks E ls G, FnR P w K mg base (L2.CX P w) 3 (He.ma K (He.ga K "Order") "__le__") (spP K (cOrdLe ks E ls G)) := fun ks E ls G => ((ok_ordLe F_ordLe b oc relM ks E ls G).raw (F_ordLe.bindsN (fun _ _ _ _ _ _ us hl => match us, hl with | [_, _], _ => rfl)) .nil).imp fun vs H Q E z => by rw [List.append_nil]; exact z
  have ordLeO : ∀ ks E ls G, Od P w K mg base "Order" "Order" .LtE 3 (cOrdLe ks E ls G) := fun ks E ls G => ⟨(c.fact 73), _, (He.meth_ok (c.fact 74)).at_, (He.meth_ok (c.fact 74)).fn, ordLe ks E ls G⟩
  obtain ⟨_, F_ordEq⟩ := c.fun_ 30
  have ordEq : ∀ ks E ls G, FnR P w K mg base (L2.CX P w) 4 (He.ma K (He.ga K "Order") "__eq__") (spP K (cOrdEq ks E ls G)) := fun ks E ls G => ((ok_ordEq F_ordEq b oc ordLeO ks E ls G).raw (F_ordEq.bindsN (fun _ _ _ _ _ _ us hl => match us, hl with | [_, _], _ => rfl)) .nil).imp fun vs H Q E z => by rw [List.append_nil]; exact z
  have ordEqO : ∀ ks E ls G, Od P w K mg base "Order" "Order" .Eq 4 (cOrdEq ks E ls G) := fun ks E ls G => ⟨(c.fact 73), _, (He.meth_ok (c.fact 75)).at_, (He.meth_ok (c.fact 75)).fn, ordEq ks E ls G⟩
  obtain ⟨_, F_equal⟩ := c.fun_ 31
  have equal : ∀ s t, Dx P w K mg base "check_equal" 5 (cEqual s t) := fun s t => dn_of F_equal (ok_equal F_equal ordEqO xUnlike s t) (He.glo_ok X G (c.fact 76)) (fun _ _ _ _ _ _ us hl => match us, hl with | [_, _], _ => rfl)
  obtain ⟨_, F_mapI⟩ := c.fun_ 32
  have mapI : ∀ s t o1 o2 im k, FnR P w K mg base (L2.CX P w) 5 (He.ma K (He.ga K "Mapping") "__init__") (spO K (cMapI s t o1 o2 im k)) := fun s t o1 o2 im k => ((ok_mapI F_mapI b oc mc listed belowM xBadCount xBroken s t o1 o2 im k).raw (F_mapI.bindsN (fun _ _ _ _ _ _ us hl => match us, hl with | [_, _, _, _], _ => rfl)) .nil).imp fun vs H Q E z => by rw [List.append_nil]; exact z
  obtain ⟨_, F_mapEq⟩ := c.fun_ 33
  have mapEq : ∀ s t im s2 t2 im2, FnR P w K mg base (L2.CX P w) 5 (He.ma K (He.ga K "Mapping") "__eq__") (spP K (cMapEq s t im s2 t2 im2)) := fun s t im s2 t2 im2 => ((ok_mapEq F_mapEq b oc mc ordEqO s t im s2 t2 im2).raw (F_mapEq.bindsN (fun _ _ _ _ _ _ us hl => match us, hl with | [_, _], _ => rfl)) .nil).imp fun vs H Q E z => by rw [List.append_nil]; exact z
  have mapEqO : ∀ s t im s2 t2 im2, Od P w K mg base "Mapping" "Mapping" .Eq 5 (cMapEq s t im s2 t2 im2) := fun s t im s2 t2 im2 => ⟨(c.fact 77), _, (He.meth_ok (c.fact 78)).at_, (He.meth_ok (c.fact 78)).fn, mapEq s t im s2 t2 im2⟩
  obtain ⟨_, F_cov⟩ := c.fun_ 34
  have cov : ∀ r ks lo hi, FnR P w K mg base (L2.CX P w) 1 (He.ma K (He.ga K "Order") "_covered") (spP K (cCov r ks lo hi)) := fun r ks lo hi => ((ok_cov F_cov b oc r ks lo hi).raw (F_cov.bindsN (fun _ _ _ _ _ _ us hl => match us, hl with | [_, _, _], _ => rfl)) .nil).imp fun vs H Q E z => by rw [List.append_nil]; exact z
  have covM : ∀ r ks lo hi, Md P w K mg base "Order" "_covered" 1 (cCov r ks lo hi) := fun r ks lo hi => ⟨oc.cls, _, (He.meth_ok (c.fact 79)), cov r ks lo hi⟩
  obtain ⟨_, F_covers⟩ := c.fun_ 35
  have covers : ∀ r ks, FnR P w K mg base (L2.CX P w) 2 (He.ma K (He.ga K "Order") "covers") (spP K (cCovers r ks)) := fun r ks => ((ok_covers F_covers relM covM r ks).raw (F_covers.bindsN (fun _ _ _ _ _ _ us hl => match us, hl with | [_], _ => rfl)) .nil).imp fun vs H Q E z => by rw [List.append_nil]; exact z
  have coversM : ∀ r ks, Md P w K mg base "Order" "covers" 2 (cCovers r ks) := fun r ks => ⟨oc.cls, _, (He.meth_ok (c.fact 80)), covers r ks⟩
  obtain ⟨_, F_restr⟩ := c.fun_ 36
  have restrM : ∀ r ks ns, MdS P w K mg base "Order" "restricted" 6 ((cRestr r ks ns).star 1) := fun r ks ns => ⟨oc.cls, _, (bmB_ok (He.meth_ok (c.fact 81)) (c.fact 82) (by decide +kernel)), ok_restr F_restr (star1B (fun _ _ _ _ _ _ _ => rfl) (fun _ _ _ _ _ _ _ _ _ => rfl)) oc (He.mkr_ok (c.fact 83)) ordI listed relM r ks ns⟩
  obtain ⟨_, F_place⟩ := c.fun_ 37
  have place : ∀ r ks z, Dx P w K mg base "fold_place" 3 (cPlace r ks z) := fun r ks z => dn_of F_place (ok_place F_place b coversM r ks z) (He.glo_ok X G (c.fact 84)) (fun _ _ _ _ _ _ us hl => match us, hl with | [_, _], _ => rfl)
  obtain ⟨_, F_next_⟩ := c.fun_ 38
  have next_ : ∀ r ks kept, Dx P w K mg base "next_fold" 4 (cNext r ks kept) := fun r ks kept => dn_of F_next_ (ok_next F_next_ oc place r ks kept) (He.glo_ok X G (c.fact 85)) (fun _ _ _ _ _ _ us hl => match us, hl with | [_, _], _ => rfl)
  obtain ⟨_, F_folds⟩ := c.fun_ 39
  have folds : ∀ r ks kept, Dx P w K mg base "folds_of" 7 ((cFolds r ks kept).star 1) := fun r ks kept => ⟨(He.glo_ok X G (c.fact 86)), F_folds.kp, ok_folds F_folds (star1B (fun _ _ _ _ _ _ _ => rfl) (fun _ _ _ _ _ _ _ _ _ => rfl)) oc listed next_ restrM r ks kept⟩
  obtain ⟨_, F_trim⟩ := c.fun_ 40
  have trim : ∀ r ks ns, ns.length ≤ 9000 → Dx P w K mg base "trimming" 8 ((cTrim r ks ns).star 1) := fun r ks ns h => ⟨(He.glo_ok X G (c.fact 87)), F_trim.kp, ok_trim F_trim (star1B (fun _ _ _ _ _ _ _ => rfl) (fun _ _ _ _ _ _ _ _ _ => rfl)) oc mc (He.mkr_ok (c.fact 88)) mapI folds restrM r ks ns h⟩
  obtain ⟨_, F_then_⟩ := c.fun_ 41
  have then_ : ∀ s t t2 im im2, FnR P w K mg base (L2.CX P w) 7 (He.ma K (He.ga K "Mapping") "__rshift__") (spP K (cThen s t t2 im im2)) := fun s t t2 im im2 => ((ok_then F_then_ b mc (He.mkr_ok (c.fact 88)) mapI equal s t t2 im im2).raw (F_then_.bindsN (fun _ _ _ _ _ _ us hl => match us, hl with | [_, _], _ => rfl)) .nil).imp fun vs H Q E z => by rw [List.append_nil]; exact z
  have thenB : ∀ s t t2 im im2, Bd P w K mg base "Mapping" .RShift 7 (cThen s t t2 im im2) := fun s t t2 im im2 => ⟨(c.fact 89), _, (show PySem.W.findIn K _ (PySem.dunder Operator.RShift.info.2) = _ from dunder_rshift ▸ (He.meth_ok (c.fact 90)).at_), (He.meth_ok (c.fact 90)).fn, then_ s t t2 im im2⟩
  obtain ⟨_, F_lpl⟩ := c.fun_ 42
  have lpl : ∀ n R L k, Dx P w K mg base "_law_place" 1 (cLPl n R L k) := fun n R L k => dn_of F_lpl (ok_lpl F_lpl b n R L k) (He.glo_ok X G (c.fact 91)) (fun _ _ _ _ _ _ us hl => match us, hl with | [_, _, _], _ => rfl)
  obtain ⟨_, F_lf⟩ := c.fun_ 43
  have lf : ∀ n R kept, Dx P w K mg base "_law_folds" 2 (cLF n R kept) := fun n R kept => dn_of F_lf (ok_lf F_lf b lpl n R kept) (He.glo_ok X G (c.fact 92)) (fun _ _ _ _ _ _ us hl => match us, hl with | [_, _], _ => rfl)
  obtain ⟨_, F_li⟩ := c.fun_ 44
  have li : ∀ fs k, Dx P w K mg base "_law_image" 1 (cLI fs k) := fun fs k => dn_of F_li (ok_li F_li fs k) (He.glo_ok X G (c.fact 93)) (fun _ _ _ _ _ _ us hl => match us, hl with | [_, _], _ => rfl)
  obtain ⟨_, F_lpp⟩ := c.fun_ 45
  have lpp : ∀ n R l, Dx P w K mg base "_law_part_pairs" 1 (cLPP n R l) := fun n R l => dn_of F_lpp (ok_lpp F_lpp n R l) (He.glo_ok X G (c.fact 94)) (fun _ _ _ _ _ _ us hl => match us, hl with | [_, _], _ => rfl)
  obtain ⟨_, F_tf⟩ := c.fun_ 46
  have tf : ∀ r ks ns, ns.length ≤ 5 → Dx P w K mg base "_law_told_folds" 8 (cTF r ks ns) := fun r ks ns h => dn_of F_tf (ok_tf F_tf b folds r ks ns h) (He.glo_ok X G (c.fact 95)) (fun _ _ _ _ _ _ us hl => match us, hl with | [_, _], _ => rfl)
  obtain ⟨_, F_tt⟩ := c.fun_ 47
  have tt : ∀ r ks ns, ns.length ≤ 5 → Dx P w K mg base "_law_trim" 9 (cTT r ks ns) := fun r ks ns h => dn_of F_tt (ok_tt F_tt b trim r ks ns h) (He.glo_ok X G (c.fact 96)) (fun _ _ _ _ _ _ us hl => match us, hl with | [_, _], _ => rfl)
  obtain ⟨_, F_ak⟩ := c.fun_ 48
  have ak : ∀ r ks ns way, ns.length ≤ 5 → Dx P w K mg base "_law_asked" 10 (cAsk8 r ks ns way) := fun r ks ns way h => dn_of F_ak (ok_ask8 F_ak b er mc tf tt r ks ns way h) (He.glo_ok X G (c.fact 97)) (fun _ _ _ _ _ _ us hl => match us, hl with | [_, _, _], _ => rfl)
  have rtC : Rt8C P w K mg base := { b := b, oc := oc, mc := mc, lf := lf, li := li, lp := lpp, nd := named_, ak := ak, tt := tt, s0 := same 0, s1 := same 1, s2 := same 2, s3 := same 3, oe := ordEqO, me := mapEqO, th := thenB, om := ⟨_, (He.mkr_ok (c.fact 83)), ordI⟩ }
  obtain ⟨_, F_rt⟩ := c.fun_ 49
  have rt : ∀ r ks n R kept, Dx P w K mg base "_law_right" 11 (cRt8 r ks n R kept) := fun r ks n R kept => dn_of F_rt (ok_rt8 F_rt rtC r ks n R kept) (He.glo_ok X G (c.fact 98)) (fun _ _ _ _ _ _ us hl => match us, hl with | [_, _, _, _, _], _ => rfl)
  exact { b := b, oc := oc, pool := pool, draw := draw, op := opairs, nm := nms, nd := named_, ab := above, s1 := same 1, rt := rt, ak := ak, om := ⟨_, (He.mkr_ok (c.fact 83)), ordI⟩ }
end Kf
end
section
set_option maxRecDepth 100000
set_option maxHeartbeats 0
/-! KhR1: the run of the top. Printed by mkfacts80.py. -/
namespace Kf
open PySem PySem.W PySem.Calls PyProof.Rows
abbrev RW : OpenRow := OpenLaw.row PySem.Challenge.rw_kindsfill_k80_whole_trimmed
abbrev RQ : Program := view RW.prog [59]
def loose0 : List PySem.Str := ["_wall",
  "__name__",
  "KindError",
  "BadName",
  "Duplicate",
  "NotListed",
  "BadCount",
  "Ring",
  "Unlike",
  "Broken",
  "MOST_LETTERS",
  "LETTERS",
  "LATER",
  "is_kind_name",
  "check_kind_names",
  "check_listed",
  "spread",
  "check_alike",
  "Region",
  "check_equal",
  "Mapping",
  "fold_place",
  "next_fold",
  "folds_of",
  "trimming",
  "kinds_above",
  "check_rings",
  "Order",
  "_law_pool",
  "_law_draw"]
def loose1 : List PySem.Str := ["_law_word",
  "_law_fresh",
  "_law_names",
  "_law_mixed_places",
  "_law_free_pairs",
  "_law_crown",
  "_law_tree",
  "_law_layers",
  "_law_diamond",
  "_law_shape",
  "_law_order_pairs",
  "_law_named",
  "_law_above",
  "_law_same",
  "_law_place",
  "_law_folds",
  "_law_told_folds",
  "_law_trim",
  "_law_asked",
  "_law_image",
  "_law_part_pairs",
  "_law_right"]
def loose : List PySem.Str := loose0 ++ loose1
abbrev hkL : PySem.W.Hook := hookZ 5 chk fns
def obL (s : PySem.W.SharedT) : Bool × List FnZ := obsZG 5 chk fns (HandSHeadRun.getT s)
theorem obL_eq (s : PySem.W.SharedT) : obL s = hkL.obs s.abs := obsZG_eq (HandSHeadRun.getT_eq s)
theorem runL (w : World) : HandSHeadRun.RunEq RW RQ hkL obL 20000 loose w := by
  intro os
  kernel_rfl
end Kf
end
section
set_option maxRecDepth 100000
set_option maxHeartbeats 1000000
/-! KhZ1: a law's end, its exceptions' wish by the world. -/
namespace L2
open PySem PySem.Spec PyProof.Rows
theorem walk_ofW {l : PySem.W.OpenLaw} {n k : Nat} {q : Program} {loose : List Str} {XP : (Str → Option Value) → Heap → Prop} {YP : World → Heap → Prop} {d : DefRec} {CXw : World → CXT} {x : Str}
    (hn : l.most = some n) (hn2 : n ≤ sizeLine) (hdf : d.params.defaults = []) (hr : Room k callerA)
    (F : ∀ (w : World) (mg : Str → Option Value) (fa : Addr) (h : Heap), YP w h → h.Ns mainGlobals mg → mg d.name = some (.ref fa) →
      ∃ (K : PySem.W.Frag) (fd : FuncData) (sp : Sp), K.In h ∧ (∀ (s : Shared) (u : Value), BindsTo s fd ⟨[u], []⟩ [(x, u)]) ∧
        (∀ (H : Hp) (a : Addr) (ns : List Int), ns.length ≤ n → Only H → SqL K H a (ns.map V.int) → sp [.ref a] H (fun v _ => v = .bl true) fun _ _ _ => False) ∧
        ∀ base : Heap, K.In base → base.Ns mainGlobals mg → FnOk l.prog w K mg base (CXw w) k fa fd [x] sp)
    (hCX : ∀ (w : World) (H : Hp) (s : Shared) (e : Value) (s' : Shared), CXw w [] H s (fun _ _ _ => False) e s' → False) :
    PySem.W.WalkO q loose XP YP l.row.toRowW d [] (fun f vs => PySem.call f vs) := by
  refine Att.attach_call hn hdf fun w s₀ s₁ mg mb fa o pm cd doc a vs ns G Y ho hd hcd hmg hobj hints hlen hg => ?_
  obtain ⟨K, fd, sp, KX, hb, hsp, hF⟩ := F w mg fa _ Y G.T.g hmg
  exact law_call KX G.T.g G.T.b G.T.builtins G.T.nolimit hg hobj hints (Nat.le_trans hlen hn2) hr hF hb (fun H hO hS => hsp H a ns hlen hO hS) fun H e s' => hCX w H s₁ e s'
end L2
namespace Kf
open PySem L2
theorem rp_ints {K : Fg} {S : Hp} : ∀ ns : List Int, RpL K S (ns.map V.int) (ns.map D.int)
  | [] => .nil
  | n :: r => .cons (.int n) (rp_ints r)
theorem sp_law {K : Fg} {H : Hp} {a : Addr} {ns : List Int} (hS : SqL K H a (ns.map V.int)) : spP K cLaw8 [.ref a] H (fun v _ => v = .bl true) fun _ _ _ => False :=
  ⟨H, [.lstK (ns.map .int)], Same.refl _, .cons (.lstK hS (rp_ints ns)) .nil, ⟨ns, rfl⟩, fun S' H' v b hb n r => by
    have hb' : b = .st (.bl true) := hb
    subst hb'
    cases r
    rfl, fun _ _ _ _ _ _ z => z.elim⟩
end Kf
end
section
set_option maxRecDepth 100000
set_option maxHeartbeats 1000000
namespace Kf
open PySem PySem.Spec PyProof.Rows L2
theorem facts_end {w : World} {K : Fg} {h : Heap} {mg : Str → Option Value} {f : Addr} (X : K.In h) (G : h.Ns mainGlobals mg) (hfa : mg ("law" : Str) = some (.ref f)) (c : SaysZ chk fns K) :
    ∃ fd : FuncData, (∀ (s : Shared) (v : Value), BindsTo s fd ⟨[v], []⟩ [("script", v)]) ∧ ∀ base : Heap, K.In base → base.Ns mainGlobals mg → FnOk (PySem.Challenge.rw_kindsfill_k80_whole_trimmed).prog w K mg base (L2.CX (PySem.Challenge.rw_kindsfill_k80_whole_trimmed).prog w) 12 f fd ["script"] (spP K cLaw8) := by
  obtain ⟨fd, F⟩ := c.fun_ 50
  have e := hfa.symm.trans (He.glo_ok X G (c.fact 99))
  cases e
  have b := FunD.bindsA (ps := ["script"]) F fun _ _ _ _ _ _ us hl => match us, hl with | [_], _ => rfl
  exact ⟨fd, fun s v => b s [v] rfl, fun base _ _ => ok_lw8 F (law_facts X G ⟨rfl, by decide +kernel⟩ c)⟩
end Kf
open PySem PySem.W PySem.Calls PyProof.Rows
set_option maxHeartbeats 0
theorem PySem.Challenge.cw_kindsfill_k80_whole_trimmed_holds : PySem.Challenge.rw_kindsfill_k80_whole_trimmed.Holds := by
  w_on; o_law
  refine HandSHeadRun.head_any (r := Kf.RW) (q := Kf.RQ) (H := Kf.hkL) (ob := Kf.obL) (M := 20000) (loose := Kf.loose) (d := HandSHeadRun.topDef Kf.RW.prog 59) (kwd := []) Kf.obL_eq
    (by kernel_rfl) (fun s => by kernel_rfl) Kf.runL (by kernel_rfl) (by kernel_rfl) (by kernel_rfl) (by rfl) (by first | assumption | decide +kernel) (by decide +kernel) ⟨rfl, rfl, rfl, rfl, rfl, by decide +kernel⟩ ?hw ?hc
  case hw => w_witness2
  case hc =>
    refine L2.walk_ofW (l := PySem.Challenge.rw_kindsfill_k80_whole_trimmed) (n := 63) (k := 12) (x := "script") (CXw := fun w => L2.CX (PySem.Challenge.rw_kindsfill_k80_whole_trimmed).prog w) rfl (by decide) (by kernel_rfl) ⟨rfl, by decide, by decide⟩ ?F ?X
    case X => exact fun w H s e s' ⟨_, _, _, _, _, _, _, _, _, _, _, _, z⟩ => z
    case F =>
      intro w mg fa h Y G hmg0
      obtain ⟨K, KX, c⟩ := Y
      have hmg : mg ("law" : PySem.Str) = some (.ref fa) := by
        have e : (HandSHeadRun.topDef Kf.RW.prog 59).name = ("law" : PySem.Str) := by kernel_rfl
        rw [← e]
        exact hmg0
      obtain ⟨fd, hb, hF⟩ := Kf.facts_end (w := w) KX G hmg c
      exact ⟨K, fd, Kf.spP K Kf.cLaw8, KX, hb, fun H a ns hl _ hS => Kf.sp_law hS, hF⟩
end
