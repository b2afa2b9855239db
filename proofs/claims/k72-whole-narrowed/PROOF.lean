import PyProof.Rows.All
import Wide.All
import OpenK.AllK
import Wide.FinOn
import KE.KStateDown
import KE.KExcSuper
import KE.KSuper
import HandS.ForMost
import HandS.Exc
import HandS.TryOnly
import HandS.TryMany
import HandS.ExcOwn
import HandS.ExcInit
import HandS.ExcField
import HandS.ExcIs
import HandS.Flow
import HandS.Style
import HandS.Star
import HandS.MethStar
import HandS.Defaults
import HandS.Property
import HandS.ClsMeth
import HandS.IsInst
import HandS.Conv
import HandS.CallSlots
import HandS.Codes
import HandS.RaiseOp
import HandS.FStr
import HandS.Zip
import HandS.Deep
import HandS.Small
import HandS.Wide
import HandS.WideMore
import HandS.SlotsOwn
import HandS.WordsExc
import HandS.Head2
import HandS.HeadHook2
import KE.KExcIs
import KE.GoesMore
import KE.GoesZip
import KE.KExcPX
import HandS.Head0
import HandS.Head1
import HandS.HeadEnd
import PySem.Challenge.RW_kindsfill_k72_whole_narrowed
set_option Elab.async false
set_option linter.all false
section
set_option maxRecDepth 100000
set_option maxHeartbeats 4000000
/-! KfA: data by value, worlds, environments, expressions. -/
namespace Kf
open PySem L2

/-! ### data -/
inductive D where
  | non | bl (b : Bool) | int (i : Int) | str (s : Str)
  | lst (l : List D) | tup (l : List D)
  | dK (l : List (Key × D)) | dT (l : List (List Key × D))
  | obj (C : Str) (fs : List (Str × D))
  | glo (x : Str) | ty (n : String)
  | ids (v : V) (d : D)
  | lstK (l : List D)
  | dKl (l : List (Key × D))

abbrev Fg := PySem.W.Frag

mutual
/-- the value v is the datum d, by what stands in S -/
inductive Rp (K : Fg) (S : Hp) : V → D → Prop
  | non : Rp K S .non .non
  | bl (b : Bool) : Rp K S (.bl b) (.bl b)
  | int (i : Int) : Rp K S (.int i) (.int i)
  | str (x : Str) : Rp K S (.str x) (.str x)
  | lst {a : Addr} {xs : List V} {ds : List D} : Rd S a (.lst xs) → RpL K S xs ds → Rp K S (.ref a) (.lst ds)
  | tup {a : Addr} {xs : List V} {ds : List D} : SqT K S a xs → RpL K S xs ds → Rp K S (.ref a) (.tup ds)
  | dK {a : Addr} {kvs : List (Key × V)} {ds : List (Key × D)} : Rd S a (.dK kvs) → RpK K S kvs ds → Rp K S (.ref a) (.dK ds)
  | dT {a : Addr} {kvs : List (List Key × V)} {ds : List (List Key × D)} : Rd S a (.dT kvs) → RpT K S kvs ds → Rp K S (.ref a) (.dT ds)
  | obj {a dx : Addr} {C : Str} {fs : List (Str × V)} {ds : List (Str × D)} : S a = some (.ins (He.ga K C) dx fs) → RpF K S fs ds → Rp K S (.ref a) (.obj C ds)
  | glo (x : Str) : Rp K S (.ref (He.ga K x)) (.glo x)
  | ty (n : String) : Rp K S (.ty n) (.ty n)
  | ids {v : V} {d : D} : Rp K S v d → Rp K S v (.ids v d)
  | lstK {a : Addr} {xs : List V} {ds : List D} : SqL K S a xs → RpL K S xs ds → Rp K S (.ref a) (.lstK ds)
  | dKl {a : Addr} {od : Obj} {kvs : List (Key × V)} {ds : List (Key × D)} : S a = some (.frz od (.dK kvs)) → RpK K S kvs ds → Rp K S (.ref a) (.dKl ds)
inductive RpL (K : Fg) (S : Hp) : List V → List D → Prop
  | nil : RpL K S [] []
  | cons {v : V} {d : D} {vs : List V} {ds : List D} : Rp K S v d → RpL K S vs ds → RpL K S (v :: vs) (d :: ds)
inductive RpK (K : Fg) (S : Hp) : List (Key × V) → List (Key × D) → Prop
  | nil : RpK K S [] []
  | cons {k : Key} {v : V} {d : D} {vs : List (Key × V)} {ds : List (Key × D)} : Rp K S v d → RpK K S vs ds → RpK K S ((k, v) :: vs) ((k, d) :: ds)
inductive RpT (K : Fg) (S : Hp) : List (List Key × V) → List (List Key × D) → Prop
  | nil : RpT K S [] []
  | cons {k : List Key} {v : V} {d : D} {vs : List (List Key × V)} {ds : List (List Key × D)} : Rp K S v d → RpT K S vs ds → RpT K S ((k, v) :: vs) ((k, d) :: ds)
inductive RpF (K : Fg) (S : Hp) : List (Str × V) → List (Str × D) → Prop
  | nil : RpF K S [] []
  | cons {k : Str} {v : V} {d : D} {vs : List (Str × V)} {ds : List (Str × D)} : Rp K S v d → RpF K S vs ds → RpF K S ((k, v) :: vs) ((k, d) :: ds)
end

theorem same_rd {S S' : Hp} {a : Addr} {u : HO} (e : Same S S') (h : Rd S a u) : Rd S' a u := by
  rcases h with h | ⟨o, h⟩
  · exact .inl (e _ _ h)
  · exact .inr ⟨o, e _ _ h⟩
theorem same_sqT {K : Fg} {S S' : Hp} {a : Addr} {xs : List V} (e : Same S S') (h : SqT K S a xs) : SqT K S' a xs := by
  rcases h with h | h
  · exact .inl (same_rd e h)
  · exact .inr h

theorem rdq {K : Fg} {S : Hp} {a : Addr} {xs : List V} (h : Rd S a (.lst xs)) : SqL K S a xs := .inl h
mutual
theorem Rp.mono {K : Fg} {S S' : Hp} (e : Same S S') {v : V} {d : D} : Rp K S v d → Rp K S' v d
  | .non => .non
  | .bl b => .bl b
  | .int i => .int i
  | .str x => .str x
  | .lst h t => .lst (same_rd e h) (RpL.mono e t)
  | .tup h t => .tup (same_sqT e h) (RpL.mono e t)
  | .dK h t => .dK (same_rd e h) (RpK.mono e t)
  | .dT h t => .dT (same_rd e h) (RpT.mono e t)
  | .obj h t => .obj (e _ _ h) (RpF.mono e t)
  | .glo x => .glo x
  | .ty n => .ty n
  | .ids h => .ids (Rp.mono e h)
  | .lstK h t => .lstK (e.seq h) (RpL.mono e t)
  | .dKl h t => .dKl (e _ _ h) (RpK.mono e t)
theorem RpL.mono {K : Fg} {S S' : Hp} (e : Same S S') {v : List V} {d : List D} : RpL K S v d → RpL K S' v d
  | .nil => .nil
  | .cons h t => .cons (Rp.mono e h) (RpL.mono e t)
theorem RpK.mono {K : Fg} {S S' : Hp} (e : Same S S') {v : List (Key × V)} {d : List (Key × D)} : RpK K S v d → RpK K S' v d
  | .nil => .nil
  | .cons h t => .cons (Rp.mono e h) (RpK.mono e t)
theorem RpT.mono {K : Fg} {S S' : Hp} (e : Same S S') {v : List (List Key × V)} {d : List (List Key × D)} : RpT K S v d → RpT K S' v d
  | .nil => .nil
  | .cons h t => .cons (Rp.mono e h) (RpT.mono e t)
theorem RpF.mono {K : Fg} {S S' : Hp} (e : Same S S') {v : List (Str × V)} {d : List (Str × D)} : RpF K S v d → RpF K S' v d
  | .nil => .nil
  | .cons h t => .cons (Rp.mono e h) (RpF.mono e t)
end

section lists
variable {K : Fg} {S : Hp}
theorem RpL.length : ∀ {xs : List V} {ds : List D}, RpL K S xs ds → xs.length = ds.length
  | _, _, .nil => rfl
  | _, _, .cons _ t => congrArg Nat.succ t.length
theorem RpL.get : ∀ {xs : List V} {ds : List D} {i : Nat} {d : D}, RpL K S xs ds → ds[i]? = some d → ∃ v, xs[i]? = some v ∧ Rp K S v d
  | _, _, i, _, .nil, e => by simp at e
  | _, _, 0, _, .cons h _, e => by
    simp at e
    subst e
    exact ⟨_, rfl, h⟩
  | _, _, i + 1, d, .cons _ t, e => by
    obtain ⟨v, a, b⟩ := t.get (i := i) (d := d) (by simpa using e)
    exact ⟨v, by simpa using a, b⟩
theorem RpL.get' : ∀ {xs : List V} {ds : List D} {i : Nat} {v : V}, RpL K S xs ds → xs[i]? = some v → ∃ d, ds[i]? = some d ∧ Rp K S v d
  | _, _, i, _, .nil, e => by simp at e
  | _, _, 0, _, .cons h _, e => by
    simp at e
    subst e
    exact ⟨_, rfl, h⟩
  | _, _, i + 1, v, .cons _ t, e => by
    obtain ⟨d, a, b⟩ := t.get' (i := i) (v := v) (by simpa using e)
    exact ⟨d, by simpa using a, b⟩
theorem RpL.append : ∀ {xs ys : List V} {ds es : List D}, RpL K S xs ds → RpL K S ys es → RpL K S (xs ++ ys) (ds ++ es)
  | _, _, _, _, .nil, s => s
  | _, _, _, _, .cons h t, s => .cons h (t.append s)
theorem RpL.take : ∀ {xs : List V} {ds : List D} (n : Nat), RpL K S xs ds → RpL K S (xs.take n) (ds.take n)
  | _, _, 0, _ => .nil
  | _, _, _ + 1, .nil => .nil
  | _, _, n + 1, .cons h t => .cons h (t.take n)
theorem RpL.drop : ∀ {xs : List V} {ds : List D} (n : Nat), RpL K S xs ds → RpL K S (xs.drop n) (ds.drop n)
  | _, _, 0, h => h
  | _, _, _ + 1, .nil => .nil
  | _, _, n + 1, .cons _ t => t.drop n
theorem RpL.set {v : V} {d : D} (h : Rp K S v d) : ∀ {xs : List V} {ds : List D} (i : Nat), RpL K S xs ds → RpL K S (xs.set i v) (ds.set i d)
  | _, _, _, .nil => .nil
  | _, _, 0, .cons _ t => .cons h t
  | _, _, i + 1, .cons q t => .cons q (RpL.set h i t)
theorem RpF.lookup : ∀ {fs : List (Str × V)} {ds : List (Str × D)} {f : Str} {d : D}, RpF K S fs ds → ds.lookup f = some d → ∃ v, fs.lookup f = some v ∧ Rp K S v d
  | _, _, f, d, .nil, e => by cases e
  | _, _, f, d, .cons (k := k) h t, e => by
    rw [List.lookup_cons] at e ⊢
    cases q : (f == k) with
    | true =>
      rw [q] at e
      cases e
      exact ⟨_, rfl, h⟩
    | false =>
      rw [q] at e
      exact t.lookup e
theorem RpF.none : ∀ {fs : List (Str × V)} {ds : List (Str × D)} {f : Str}, RpF K S fs ds → ds.lookup f = none → fs.lookup f = none
  | _, _, f, .nil, e => rfl
  | _, _, f, .cons (k := k) h t, e => by
    rw [List.lookup_cons] at e ⊢
    cases q : (f == k) with
    | true =>
      rw [q] at e
      cases e
    | false =>
      rw [q] at e
      exact t.none e
theorem RpF.length : ∀ {xs : List (Str × V)} {ds : List (Str × D)}, RpF K S xs ds → xs.length = ds.length
  | _, _, .nil => rfl
  | _, _, .cons _ t => congrArg Nat.succ t.length
theorem RpK.length : ∀ {xs : List (Key × V)} {ds : List (Key × D)}, RpK K S xs ds → xs.length = ds.length
  | _, _, .nil => rfl
  | _, _, .cons _ t => congrArg Nat.succ t.length
theorem RpT.length : ∀ {xs : List (List Key × V)} {ds : List (List Key × D)}, RpT K S xs ds → xs.length = ds.length
  | _, _, .nil => rfl
  | _, _, .cons _ t => congrArg Nat.succ t.length
end lists

/-- a datum with the very value that stands for it -/
def D.tg : Option V → D → D
  | none, d => d
  | some v, d => .ids v d
theorem Rp.untag {K : Fg} {S : Hp} {v : V} {d : D} : ∀ {o : Option V}, Rp K S v (d.tg o) → Rp K S v d
  | none, h => h
  | some _, .ids h => h

/-! ### what is one's own: objects that change -/
inductive O where
  | lst (l : List D) | dK (l : List (Key × D)) | dT (l : List (List Key × D)) | obj (C : Str) (fs : List (Str × D))
def O.d : O → D
  | .lst l => .lst l
  | .dK l => .dK l
  | .dT l => .dT l
  | .obj C fs => .obj C fs
def Own (K : Fg) (S H : Hp) (a : Addr) : O → Prop
  | .lst l => ∃ xs, H a = some (.lst xs) ∧ RpL K S xs l
  | .dK l => ∃ xs, H a = some (.dK xs) ∧ RpK K S xs l
  | .dT l => ∃ xs, H a = some (.dT xs) ∧ RpT K S xs l
  | .obj C l => ∃ dx fs, H a = some (.ins (He.ga K C) dx fs) ∧ RpF K S fs l
theorem Own.some {K : Fg} {S H : Hp} {a : Addr} {o : O} (h : Own K S H a o) : H a ≠ none := by
  intro e
  cases o with
  | lst l => obtain ⟨xs, h, _⟩ := h; rw [e] at h; cases h
  | dK l => obtain ⟨xs, h, _⟩ := h; rw [e] at h; cases h
  | dT l => obtain ⟨xs, h, _⟩ := h; rw [e] at h; cases h
  | obj C l => obtain ⟨dx, fs, h, _⟩ := h; rw [e] at h; cases h
theorem Own.to {K : Fg} {S S' H H' : Hp} {a : Addr} {o : O} (e : Same S S') (q : H' a = H a) (h : Own K S H a o) : Own K S' H' a o := by
  cases o with
  | lst l => obtain ⟨xs, h, t⟩ := h; exact ⟨xs, q.trans h, t.mono e⟩
  | dK l => obtain ⟨xs, h, t⟩ := h; exact ⟨xs, q.trans h, t.mono e⟩
  | dT l => obtain ⟨xs, h, t⟩ := h; exact ⟨xs, q.trans h, t.mono e⟩
  | obj C l => obtain ⟨dx, fs, h, t⟩ := h; exact ⟨dx, fs, q.trans h, t.mono e⟩

/-! ### the world: S what stands for good, H all; what a call changes -/
structure Ent where
  S0 : Hp
  H0 : Hp
  own : Option Addr
structure Nx (e : Ent) (S H : Hp) : Prop where
  ss : Same e.S0 S
  sh : Same S H
  hh : ∀ a o, e.H0 a = some o → e.own ≠ some a → H a = some o
  al : ∀ a, e.H0 a ≠ none → H a ≠ none
  old : ∀ a, e.H0 a ≠ none → S a = e.S0 a

inductive B where
  | st (d : D) | ow (o : O) | xc (a : Addr) (d : Option Addr) (fl : List (Str × D)) | nw (d : D) (l : List D) | nt (o1 o2 : O)
abbrev Gam := List (Option B)

/-- a caught error's fields -/
def XcS (K : Fg) (S : Hp) (d : Option Addr) (fl : List (Str × D)) : Prop := (d = none ∧ fl = []) ∨ ∃ dd fs, d = some dd ∧ S dd = some (.xd fs) ∧ RpF K S fs fl
theorem XcS.mono {K : Fg} {S S' : Hp} {d : Option Addr} {fl : List (Str × D)} (s : Same S S') (h : XcS K S d fl) : XcS K S' d fl := by
  rcases h with h | ⟨dd, fs, h1, h2, h3⟩
  · exact .inl h
  · exact .inr ⟨dd, fs, h1, s _ _ h2, h3.mono s⟩
/-- a slot's value -/
def BOk (K : Fg) (e : Ent) (S H : Hp) (v : V) : B → Prop
  | .st d => Rp K S v d
  | .ow o => ∃ a, v = .ref a ∧ S a = none ∧ Own K S H a o ∧ (e.H0 a = none ∨ e.own = some a)
  | .xc a d fl => v = .ref a ∧ XcS K S d fl
  | .nw _ _ => False
  | .nt _ _ => False
structure Sl (K : Fg) (e : Ent) (S H : Hp) (σ : L2.St) (Γ : Gam) : Prop where
  len : σ.length = Γ.length
  at_ : ∀ (i : Nat) (b : B), Γ[i]? = some (some b) → ∃ v, σ[i]? = some (some v) ∧ BOk K e S H v b
  dj : ∀ (i j : Nat) (o o' : O) (a : Addr), Γ[i]? = some (some (.ow o)) → Γ[j]? = some (some (.ow o')) → σ[i]? = some (some (.ref a)) → σ[j]? = some (some (.ref a)) → i = j
  z : ∀ (a : Addr), e.own = some a → σ[0]? = some (some (.ref a)) ∧ ∃ o, Γ[0]? = some (some (.ow o))
structure Wd (K : Fg) (e : Ent) (S H : Hp) (σ : L2.St) (Γ : Gam) : Prop where
  nx : Nx e S H
  sl : Sl K e S H σ Γ

section worlds
variable {K : Fg} {e : Ent} {S S' H H' : Hp} {σ : L2.St} {Γ : Gam}
/-- a new object for good -/
theorem Nx.new {p : Addr} {o : HO} (n : Nx e S H) (hp : H p = none) : Nx e (upd S p o) (upd H p o) ∧ Same S (upd S p o) ∧ Same H (upd H p o) := by
  have sp : S p = none := n.sh.free hp
  have e0 : e.H0 p = none := by
    cases q : e.H0 p with
    | none => rfl
    | some u => exact absurd hp (n.al p (by rw [q]; exact fun z => nomatch z))
  have s1 : Same S (upd S p o) := fun b u z => by
    rw [upd_ne (ne_of_none z sp)]
    exact z
  have s2 : Same H (upd H p o) := fun b u z => by
    rw [upd_ne (ne_of_none z hp)]
    exact z
  refine ⟨⟨n.ss.trans s1, fun b u z => ?_, fun b u z w => s2 _ _ (n.hh b u z w), fun b z w => ?_, fun b z => ?_⟩, s1, s2⟩
  · by_cases hb : b = p
    · subst hb
      rw [upd_same] at z ⊢
      exact z
    · rw [upd_ne hb] at z ⊢
      exact n.sh _ _ z
  · by_cases hb : b = p
    · subst hb
      exact z e0
    · rw [upd_ne hb] at w
      exact n.al b z w
  · have hb : b ≠ p := fun q => z (by rw [q]; exact e0)
    rw [upd_ne hb]
    exact n.old b z
/-- a new object that is one's own -/
theorem Nx.own {p : Addr} {o : HO} (n : Nx e S H) (hp : H p = none) : Nx e S (upd H p o) := by
  have s2 : Same H (upd H p o) := fun b u z => by
    rw [upd_ne (ne_of_none z hp)]
    exact z
  exact ⟨n.ss, n.sh.trans s2, fun b u z w => s2 _ _ (n.hh b u z w), fun b z w => by
    by_cases hb : b = p
    · subst hb
      rw [upd_same] at w
      cases w
    · rw [upd_ne hb] at w
      exact n.al b z w, n.old⟩
/-- one's own object changed -/
theorem Nx.put {p : Addr} {o : HO} (n : Nx e S H) (sp : S p = none) (h : e.H0 p = none ∨ e.own = some p) : Nx e S (upd H p o) :=
  ⟨n.ss, fun b u z => by
    rw [upd_ne (ne_of_none z sp)]
    exact n.sh _ _ z, fun b u z w => by
    have hb : b ≠ p := fun q => by
      subst q
      rcases h with h | h
      · rw [h] at z
        cases z
      · exact w h
    rw [upd_ne hb]
    exact n.hh b u z w, fun b z w => by
    by_cases hb : b = p
    · subst hb
      rw [upd_same] at w
      cases w
    · rw [upd_ne hb] at w
      exact n.al b z w, n.old⟩
theorem Nx.fresh {p : Addr} (n : Nx e S H) (hp : H p = none) : e.H0 p = none := by
  cases q : e.H0 p with
  | none => rfl
  | some u => exact absurd hp (n.al p (by rw [q]; exact fun z => nomatch z))
theorem BOk.xcm {v : V} {a : Addr} {d : Option Addr} {fl : List (Str × D)} (s : Same S S') (h : BOk K e S H v (.xc a d fl)) : BOk K e S' H' v (.xc a d fl) := ⟨h.1, h.2.mono s⟩
theorem BOk.to {v : V} {b : B} (s : Same S S') (k : ∀ a, S a = none → H a ≠ none → H' a = H a ∧ S' a = none) (h : BOk K e S H v b) : BOk K e S' H' v b := by
  cases b with
  | st d => exact Rp.mono s h
  | ow o =>
    obtain ⟨a, q, sa, w, z⟩ := h
    obtain ⟨k1, k2⟩ := k a sa w.some
    exact ⟨a, q, k2, w.to s k1, z⟩
  | xc a d fl => exact h.xcm s
  | nw d l => exact h.elim
  | nt o1 o2 => exact h.elim
theorem Sl.to (s : Same S S') (k : ∀ a, S a = none → H a ≠ none → H' a = H a ∧ S' a = none) (h : Sl K e S H σ Γ) : Sl K e S' H' σ Γ :=
  ⟨h.len, fun i b q => let ⟨v, a, c⟩ := h.at_ i b q; ⟨v, a, c.to s k⟩, h.dj, h.z⟩
/-- a new object beside -/
theorem Wd.new {p : Addr} {o : HO} (w : Wd K e S H σ Γ) (hp : H p = none) : Wd K e (upd S p o) (upd H p o) σ Γ ∧ Same S (upd S p o) := by
  obtain ⟨n, s1, s2⟩ := w.nx.new (o := o) hp
  refine ⟨⟨n, w.sl.to s1 fun a sa ha => ?_⟩, s1⟩
  have ne : a ≠ p := fun q => ha (by rw [q]; exact hp)
  rw [upd_ne ne, upd_ne ne]
  exact ⟨rfl, sa⟩
theorem Wd.own {p : Addr} {o : HO} (w : Wd K e S H σ Γ) (hp : H p = none) : Wd K e S (upd H p o) σ Γ :=
  ⟨w.nx.own hp, w.sl.to (Same.refl _) fun a sa ha => by
    have ne : a ≠ p := fun q => ha (by rw [q]; exact hp)
    rw [upd_ne ne]
    exact ⟨rfl, sa⟩⟩
end worlds

/-- what an evaluation does to the world: nothing old changes but what is one's own in a slot -/
structure Stp (σ : L2.St) (Γ : Gam) (S H : Hp) (Γ' : Gam) (S' H' : Hp) : Prop where
  ss : Same S S'
  hh : ∀ p u, H p = some u → (∀ (i : Nat) (o : O), Γ[i]? = some (some (.ow o)) → σ[i]? ≠ some (some (.ref p))) → H' p = some u
  al : ∀ p, H p ≠ none → H' p ≠ none
  old : ∀ p, H p ≠ none → S' p = S p
  sl : ∀ (i : Nat) (o : O), Γ'[i]? = some (some (.ow o)) → ∃ o', Γ[i]? = some (some (.ow o'))
/-- a pure one: nothing old changes -/
structure Pur (S H S' H' : Hp) : Prop where
  ss : Same S S'
  hh : Same H H'
  old : ∀ p, H p ≠ none → S' p = S p
section
variable {σ : L2.St} {Γ Γ1 Γ2 : Gam} {S S1 S2 H H1 H2 : Hp}
theorem Pur.refl (S H : Hp) : Pur S H S H := ⟨Same.refl _, Same.refl _, fun _ _ => rfl⟩
theorem Pur.al (a : Pur S H S1 H1) : ∀ p, H p ≠ none → H1 p ≠ none := fun p h q => h (a.hh.free q)
theorem Pur.trans (a : Pur S H S1 H1) (b : Pur S1 H1 S2 H2) : Pur S H S2 H2 := ⟨a.ss.trans b.ss, a.hh.trans b.hh, fun p h => (b.old p (a.al p h)).trans (a.old p h)⟩
theorem Stp.refl (σ : L2.St) (Γ : Gam) (S H : Hp) : Stp σ Γ S H Γ S H := ⟨Same.refl _, fun _ _ h _ => h, fun _ h => h, fun _ _ => rfl, fun _ o h => ⟨o, h⟩⟩
theorem Stp.trans (a : Stp σ Γ S H Γ1 S1 H1) (b : Stp σ Γ1 S1 H1 Γ2 S2 H2) : Stp σ Γ S H Γ2 S2 H2 :=
  ⟨a.ss.trans b.ss, fun p u h n => b.hh p u (a.hh p u h n) fun i o q => let ⟨o', q'⟩ := a.sl i o q; n i o' q', fun p h => b.al p (a.al p h), fun p h => (b.old p (a.al p h)).trans (a.old p h),
    fun i o q => let ⟨o', q'⟩ := b.sl i o q; a.sl i o' q'⟩
theorem Pur.stp (a : Pur S H S1 H1) : Stp σ Γ S H Γ S1 H1 := ⟨a.ss, fun p u h _ => a.hh p u h, a.al, a.old, fun _ o h => ⟨o, h⟩⟩
theorem pur_new {p : Addr} {o : HO} (hS : S p = none) (hp : H p = none) : Pur S H (upd S p o) (upd H p o) :=
  ⟨fun b u z => by rw [upd_ne (ne_of_none z hS)]; exact z, fun b u z => by rw [upd_ne (ne_of_none z hp)]; exact z, fun b z => by rw [upd_ne fun q => z (by rw [q]; exact hp)]⟩
theorem pur_own {p : Addr} {o : HO} (hp : H p = none) : Pur S H S (upd H p o) := ⟨Same.refl _, fun b u z => by rw [upd_ne (ne_of_none z hp)]; exact z, fun _ _ => rfl⟩
end

/-! ### expressions: the reading by data -/
def tE (K : Fg) (e : Ent) (Γ : Gam) (Φ : D → Gam → Prop) : TE := fun σ H Q => ∃ S, Wd K e S H σ Γ ∧
  ∀ S' H' v d Γ', Φ d Γ' → Stp σ Γ S H Γ' S' H' → Wd K e S' H' σ Γ' → Rp K S' v d → Q v H'
/-- the value is a new object of one's own -/
def tO (K : Fg) (e : Ent) (Γ : Gam) (Φ : O → Gam → Prop) : TE := fun σ H Q => ∃ S, Wd K e S H σ Γ ∧
  ∀ S' H' a o Γ', Φ o Γ' → Stp σ Γ S H Γ' S' H' → Wd K e S' H' σ Γ' → S' a = none → Own K S' H' a o → H a = none → Q (.ref a) H'
def tX (K : Fg) (e : Ent) (Γ : Gam) (Φ : Bool → Gam → Prop) : TT := fun σ H Q => ∃ S, Wd K e S H σ Γ ∧
  ∀ S' H' b Γ', Φ b Γ' → Stp σ Γ S H Γ' S' H' → Wd K e S' H' σ Γ' → Q b H'
def tA (K : Fg) (e : Ent) (Γ : Gam) (Φ : List D → Gam → Prop) : TA := fun σ H Q => ∃ S, Wd K e S H σ Γ ∧
  ∀ S' H' vs ds Γ', Φ ds Γ' → Stp σ Γ S H Γ' S' H' → Wd K e S' H' σ Γ' → RpL K S' vs ds → Q vs H'
abbrev EV (X : Cx) (e : Ent) (x : Expr) (Γ : Gam) (Φ : D → Gam → Prop) : Prop := PE X x (tE X.K e Γ Φ)
abbrev EO (X : Cx) (e : Ent) (x : Expr) (Γ : Gam) (Φ : O → Gam → Prop) : Prop := PE X x (tO X.K e Γ Φ)
abbrev TV (X : Cx) (e : Ent) (x : Expr) (Γ : Gam) (Φ : Bool → Gam → Prop) : Prop := PT X x (tX X.K e Γ Φ)
abbrev AV (X : Cx) (e : Ent) (xs : List Expr) (Γ : Gam) (Φ : List D → Gam → Prop) : Prop := PA X xs (tA X.K e Γ Φ)
/-- no choice, nothing changed -/
abbrev Is {α : Type} (d : α) (Γ : Gam) : α → Gam → Prop := fun d' Γ' => d' = d ∧ Γ' = Γ
theorem PE.imp {X : Cx} {x : Expr} {t t' : TE} (h : PE X x t) (k : ∀ σ H Q, t' σ H Q → t σ H Q) : PE X x t' := ⟨fun pins s σ H Q I q => h.run pins s σ H Q I (k σ H Q q)⟩
theorem PT.imp {X : Cx} {x : Expr} {t t' : TT} (h : PT X x t) (k : ∀ σ H Q, t' σ H Q → t σ H Q) : PT X x t' := ⟨fun pins s σ H Q I q => h.run pins s σ H Q I (k σ H Q q)⟩
theorem PW.imp {X : Cx} {x : Expr} {t t' : TT} (h : PW X x t) (k : ∀ σ H Q, t' σ H Q → t σ H Q) : PW X x t' := ⟨fun wh pins s σ H Q I q => h.run wh pins s σ H Q I (k σ H Q q)⟩
theorem PA.imp {X : Cx} {xs : List Expr} {t t' : TA} (h : PA X xs t) (k : ∀ σ H Q, t' σ H Q → t σ H Q) : PA X xs t' := ⟨fun pos pins s σ H Q I q => h.run pos pins s σ H Q I (k σ H Q q)⟩

/-- freeze -/
theorem own_st {K : Fg} {e : Ent} {Γ : Gam} {S H : Hp} {σ : L2.St} {p : Addr} {o : O} (w : Wd K e S H σ Γ) (sp : S p = none) (ow : Own K S H p o) (h0 : e.H0 p = none) (hn : ∀ (i : Nat) (o' : O), Γ[i]? = some (some (.ow o')) → σ[i]? ≠ some (some (.ref p))) :
    ∃ S', Same S S' ∧ (∀ b, b ≠ p → S' b = S b) ∧ Wd K e S' H σ Γ ∧ Rp K S' (.ref p) o.d := by
  have key : ∀ u, H p = some u → Same S (upd S p u) ∧ Wd K e (upd S p u) H σ Γ := fun u hu => by
    have s1 : Same S (upd S p u) := fun b z q => by
      rw [upd_ne (ne_of_none q sp)]
      exact q
    refine ⟨s1, ⟨w.nx.ss.trans s1, fun b z q => ?_, w.nx.hh, w.nx.al, fun b z => ?_⟩, w.sl.len, fun i bb q => ?_, w.sl.dj, w.sl.z⟩
    · by_cases hb : b = p
      · subst hb
        rw [upd_same] at q
        rw [hu]
        exact q
      · rw [upd_ne hb] at q
        exact w.nx.sh _ _ q
    · have hb : b ≠ p := fun q => z (by rw [q]; exact h0)
      rw [upd_ne hb]
      exact w.nx.old b z
    · obtain ⟨v, q1, q2⟩ := w.sl.at_ i bb q
      refine ⟨v, q1, ?_⟩
      cases bb with
      | st d => exact Rp.mono s1 q2
      | ow o' =>
        obtain ⟨c, ec, sc, oc, zc⟩ := q2
        have nc : c ≠ p := fun z => hn i o' q (by rw [q1, ec, z])
        exact ⟨c, ec, by rw [upd_ne nc]; exact sc, oc.to s1 rfl, zc⟩
      | xc a d fl => exact q2.xcm s1
      | nw d l => exact q2.elim
      | nt o1 o2 => exact q2.elim
  cases o with
  | lst l =>
    obtain ⟨xs, h, t⟩ := ow
    obtain ⟨s1, w1⟩ := key _ h
    exact ⟨_, s1, fun b hb => upd_ne hb, w1, .lst (.inl upd_same) (t.mono s1)⟩
  | dK l =>
    obtain ⟨xs, h, t⟩ := ow
    obtain ⟨s1, w1⟩ := key _ h
    exact ⟨_, s1, fun b hb => upd_ne hb, w1, .dK (.inl upd_same) (t.mono s1)⟩
  | dT l =>
    obtain ⟨xs, h, t⟩ := ow
    obtain ⟨s1, w1⟩ := key _ h
    exact ⟨_, s1, fun b hb => upd_ne hb, w1, .dT (.inl upd_same) (t.mono s1)⟩
  | obj C l =>
    obtain ⟨dx, fs, h, t⟩ := ow
    obtain ⟨s1, w1⟩ := key _ h
    exact ⟨_, s1, fun b hb => upd_ne hb, w1, .obj upd_same (t.mono s1)⟩

/-! ### the operators on data -/
/-- r takes data d1, d2 to d and makes nothing -/
def Sc (K : Fg) (r : R2) (d1 d2 d : D) : Prop := ∀ S H v1 v2 (Q : VK), Same S H → Rp K S v1 d1 → Rp K S v2 d2 → (∀ v, Rp K S v d → Q v H) → r v1 v2 H Q
section scs
variable {K : Fg}
theorem sc_int {g : Int → Int → V} {f : Int → Int → D} (h : ∀ i j S, Rp K S (g i j) (f i j)) {i j : Int} : Sc K (rI0 g) (.int i) (.int j) (f i j) := fun S H v1 v2 Q s r1 r2 q => by
  cases r1
  cases r2
  exact ⟨i, j, rfl, rfl, q _ (h i j S)⟩
theorem sc_intC {C : Int → Int → Prop} {g : Int → Int → V} {f : Int → Int → D} (h : ∀ i j S, Rp K S (g i j) (f i j)) {i j : Int} (c : C i j) : Sc K (rI C g) (.int i) (.int j) (f i j) := fun S H v1 v2 Q s r1 r2 q => by
  cases r1
  cases r2
  exact ⟨i, j, rfl, rfl, c, q _ (h i j S)⟩
theorem sc_add {i j : Int} : Sc K (rI0 fun i j => .int (i + j)) (.int i) (.int j) (.int (i + j)) := sc_int fun _ _ _ => .int _
theorem sc_sub {i j : Int} : Sc K (rI0 fun i j => .int (i - j)) (.int i) (.int j) (.int (i - j)) := sc_int fun _ _ _ => .int _
theorem sc_lt {i j : Int} : Sc K (rI0 fun i j => .bl (decide (i < j))) (.int i) (.int j) (.bl (decide (i < j))) := sc_int fun _ _ _ => .bl _
theorem sc_le {i j : Int} : Sc K (rI0 fun i j => .bl (decide (i ≤ j))) (.int i) (.int j) (.bl (decide (i ≤ j))) := sc_int fun _ _ _ => .bl _
theorem sc_gt {i j : Int} : Sc K (rI0 fun i j => .bl (decide (j < i))) (.int i) (.int j) (.bl (decide (j < i))) := sc_int fun _ _ _ => .bl _
theorem sc_ge {i j : Int} : Sc K (rI0 fun i j => .bl (decide (j ≤ i))) (.int i) (.int j) (.bl (decide (j ≤ i))) := sc_int fun _ _ _ => .bl _
theorem sc_ixL {ds : List D} {i : Int} {d : D} (h : atI ds i = some d) : Sc K (rIxL K) (.lst ds) (.int i) d := fun S H v1 v2 Q s r1 r2 q => by
  cases r2
  cases r1 with
  | lst h1 h2 =>
    unfold atI at h
    rw [← h2.length] at h
    cases e : ixN (List.length _) i with
    | none => rw [e] at h; cases h
    | some j =>
      rw [e] at h
      obtain ⟨v, hv, rv⟩ := h2.get (show _[j]? = some d from h)
      exact ⟨_, _, i, v, rfl, rfl, rdq (same_rd s h1), by unfold atI; rw [e]; exact hv, q v rv⟩
theorem sc_ixT {ds : List D} {i : Int} {d : D} (h : atI ds i = some d) : Sc K (rIxT K) (.tup ds) (.int i) d := fun S H v1 v2 Q s r1 r2 q => by
  cases r2
  cases r1 with
  | tup h1 h2 =>
    unfold atI at h
    rw [← h2.length] at h
    cases e : ixN (List.length _) i with
    | none => rw [e] at h; cases h
    | some j =>
      rw [e] at h
      obtain ⟨v, hv, rv⟩ := h2.get (show _[j]? = some d from h)
      exact ⟨_, _, i, v, rfl, rfl, same_sqT s h1, by unfold atI; rw [e]; exact hv, q v rv⟩
end scs
end Kf
end
section
set_option maxRecDepth 100000
set_option maxHeartbeats 4000000
/-! KfB: expressions: pure ones (one value, nothing changed), others. -/
namespace Kf
open PySem L2

def tP (K : Fg) (e : Ent) (Γ : Gam) (d : D) : TE := fun σ H Q => ∃ S, Wd K e S H σ Γ ∧
  ∀ S' H' v, Pur S H S' H' → Wd K e S' H' σ Γ → Rp K S' v d → Q v H'
def tPX (K : Fg) (e : Ent) (Γ : Gam) (b : Bool) : TT := fun σ H Q => ∃ S, Wd K e S H σ Γ ∧
  ∀ S' H', Pur S H S' H' → Wd K e S' H' σ Γ → Q b H'
def tPA (K : Fg) (e : Ent) (Γ : Gam) (ds : List D) : TA := fun σ H Q => ∃ S, Wd K e S H σ Γ ∧
  ∀ S' H' vs, Pur S H S' H' → Wd K e S' H' σ Γ → RpL K S' vs ds → Q vs H'
abbrev PV (X : Cx) (e : Ent) (x : Expr) (Γ : Gam) (d : D) : Prop := PE X x (tP X.K e Γ d)
abbrev PX (X : Cx) (e : Ent) (x : Expr) (Γ : Gam) (b : Bool) : Prop := PT X x (tPX X.K e Γ b)
abbrev PVs (X : Cx) (e : Ent) (xs : List Expr) (Γ : Gam) (ds : List D) : Prop := PA X xs (tPA X.K e Γ ds)

section pure
variable {X : Cx} {e : Ent} {Γ : Gam} {x a b : Expr} {d d1 d2 : D} {pos : Pos}
theorem pv_ev (h : PV X e x Γ d) : EV X e x Γ (Is d Γ) := PE.imp h fun σ H Q ⟨S, w, q⟩ => ⟨S, w, fun S' H' v s w' r => q S' H' v d Γ ⟨rfl, rfl⟩ s.stp w' r⟩
theorem px_tv {k : Bool} (h : PX X e x Γ k) : TV X e x Γ (Is k Γ) := PT.imp h fun σ H Q ⟨S, w, q⟩ => ⟨S, w, fun S' H' s w' => q S' H' k Γ ⟨rfl, rfl⟩ s.stp w'⟩
theorem pvs_av {xs : List Expr} {ds : List D} (h : PVs X e xs Γ ds) : AV X e xs Γ (Is ds Γ) := PA.imp h fun σ H Q ⟨S, w, q⟩ => ⟨S, w, fun S' H' v s w' r => q S' H' v ds Γ ⟨rfl, rfl⟩ s.stp w' r⟩
theorem pv_var {n : Str} (i : Nat) (hd : Γ[i]? = some (some (.st d)) := by rfl) (hN : X.N[i]? = some n := by rfl) (hv : Vis X.env.scope n := by first | exact Or.inl rfl | exact Or.inr (Or.inl rfl) | exact Or.inr (Or.inr rfl))
    (h1 : (n == ("__debug__" : Str)) = false := by decide) (h2 : (n == ("__classdict__" : Str)) = false := by decide) : PV X e (.Name n pos) Γ d :=
  PE.imp (pe_var hN hv h1 h2) fun σ H Q ⟨S, w, q⟩ => by
    obtain ⟨v, hv, ok⟩ := w.sl.at_ i _ hd
    exact ⟨v, hv, q S H v (Pur.refl _ _) w ok⟩
theorem pv_const {v : V} (h : PE X x (tC v)) (r : ∀ S, Rp X.K S v d) : PV X e x Γ d :=
  PE.imp h fun σ H Q ⟨S, w, q⟩ => q S H v (Pur.refl _ _) w (r S)
theorem pv_int {i : Int} {j} : PV X e (.Constant (.int i) j pos) Γ (.int i) := pv_const pe_int fun _ => .int i
theorem pv_bl {i : Bool} {j} : PV X e (.Constant (.bool i) j pos) Γ (.bl i) := pv_const pe_bl fun _ => .bl i
theorem pv_non {j} : PV X e (.Constant .none j pos) Γ .non := pv_const pe_non fun _ => .non
theorem pv_str {i : Str} {j} : PV X e (.Constant (.str i) j pos) Γ (.str i) := pv_const pe_str fun _ => .str i
/-- a class or a def as a value -/
theorem pv_glo {n : Str} (hg : Gl X n) (hm : X.mg n = some (.ref (He.ga X.K n))) (hd : (n == ("__debug__" : Str)) = false := by decide) : PV X e (.Name n pos) Γ (.glo n) := pv_const (pe_glob (v := .ref (He.ga X.K n)) hg hm rfl hd) fun _ => .glo n
theorem pv_gstr {n z : Str} {t : Tok} (hg : Gl X n) (hm : X.mg n = some (.str z t)) (hd : (n == ("__debug__" : Str)) = false := by decide) : PV X e (.Name n pos) Γ (.str z) := pv_const (pe_glob (v := .str z) hg hm ⟨t, rfl⟩ hd) fun _ => .str z
theorem pv_gint {n : Str} {z : Int} {t : Tok} (hg : Gl X n) (hm : X.mg n = some (.int z t)) (hd : (n == ("__debug__" : Str)) = false := by decide) : PV X e (.Name n pos) Γ (.int z) := pv_const (pe_glob (v := .int z) hg hm ⟨t, rfl⟩ hd) fun _ => .int z
theorem pv_ty {n : Str} {T : String} (hg : Gl X n) (hm : X.mg n = none) (hv : bootBuiltins n = some (.type T)) (hn : n ≠ "__name__" := by decide) (hd : (n == ("__debug__" : Str)) = false := by decide) : PV X e (.Name n pos) Γ (.ty T) := pv_const (pe_bltn (v := .ty T) hg hm hv rfl hn hd) fun _ => .ty T
theorem pv_tg {o : Option V} (h : PV X e x Γ (d.tg o)) : PV X e x Γ d := PE.imp h fun σ H Q ⟨S, w, q⟩ => ⟨S, w, fun S' H' v s w' r => q S' H' v s w' r.untag⟩
theorem pvs_nil : PVs X e [] Γ [] := PA.imp pa_nil fun σ H Q ⟨S, w, q⟩ => q S H [] (Pur.refl _ _) w .nil
theorem pvs_cons {xs : List Expr} {ds : List D} (ha : PV X e a Γ d) (hb : PVs X e xs Γ ds) (hs : starEach (a :: xs) X.env = (false, eval a X.env) :: starEach xs X.env := by rfl) : PVs X e (a :: xs) Γ (d :: ds) :=
  PA.imp (pa_cons ha hb hs) fun σ H Q ⟨S, w, q⟩ => ⟨S, w, fun S1 H1 v1 s1 w1 r1 => ⟨S1, w1, fun S2 H2 vs s2 w2 r2 => q S2 H2 _ (s1.trans s2) w2 (.cons (r1.mono s2.ss) r2)⟩⟩
theorem pvs_star {xs : List Expr} {l ds : List D} {p : Pos} (ha : PV X e a Γ d) (hd : d = .lst l ∨ d = .tup l) (hb : PVs X e xs Γ ds) : PVs X e (.Starred a p :: xs) Γ (l ++ ds) :=
  PA.imp (StX.pa_star ha hb) fun σ H Q ⟨S, w, q⟩ => ⟨S, w, fun S1 H1 v1 s1 w1 r1 => by
    rcases hd with rfl | rfl
    · cases r1 with
      | lst h1 h2 => exact ⟨_, _, rfl, .inr (rdq (same_rd w1.nx.sh h1)), S1, w1, fun S2 H2 vs s2 w2 r2 => q S2 H2 _ (s1.trans s2) w2 ((h2.mono s2.ss).append r2)⟩
    · cases r1 with
      | tup h1 h2 => exact ⟨_, _, rfl, .inl (same_sqT w1.nx.sh h1), S1, w1, fun S2 H2 vs s2 w2 r2 => q S2 H2 _ (s1.trans s2) w2 ((h2.mono s2.ss).append r2)⟩⟩
theorem pv_b {op : Operator} {r : R2} (ho : OpR X (binaryOp op) r) (ha : PV X e a Γ d1) (hb : PV X e b Γ d2) (sc : Sc X.K r d1 d2 d) : PV X e (.BinOp a op b pos) Γ d :=
  PE.imp (pe_op ho ha hb) fun σ H Q ⟨S, w, q⟩ => ⟨S, w, fun S1 H1 v1 s1 w1 r1 => ⟨S1, w1, fun S2 H2 v2 s2 w2 r2 => sc S2 H2 v1 v2 Q w2.nx.sh (r1.mono s2.ss) r2 fun v rv => q S2 H2 v (s1.trans s2) w2 rv⟩⟩
theorem pv_c {op : CmpOp} {r : R2} (ho : OpR X (compareOp op) r) (ha : PV X e a Γ d1) (hb : PV X e b Γ d2) (sc : Sc X.K r d1 d2 d) (hm : behindInMarks op b = false := by first | exact nomark _ | rfl) : PV X e (.Compare a [op] [b] pos) Γ d :=
  PE.imp (pe_cmpR ho ha hb hm) fun σ H Q ⟨S, w, q⟩ => ⟨S, w, fun S1 H1 v1 s1 w1 r1 => ⟨S1, w1, fun S2 H2 v2 s2 w2 r2 => sc S2 H2 v1 v2 Q w2.nx.sh (r1.mono s2.ss) r2 fun v rv => q S2 H2 v (s1.trans s2) w2 rv⟩⟩
theorem pv_s {r : R2} (ho : IxR X r) (ha : PV X e a Γ d1) (hb : PV X e b Γ d2) (sc : Sc X.K r d1 d2 d) (hx : PlainIx b := by exact fun _ _ => rfl) : PV X e (.Subscript a b pos) Γ d :=
  PE.imp (pe_ix ho ha hb hx) fun σ H Q ⟨S, w, q⟩ => ⟨S, w, fun S1 H1 v1 s1 w1 r1 => ⟨S1, w1, fun S2 H2 v2 s2 w2 r2 => sc S2 H2 v1 v2 Q w2.nx.sh (r1.mono s2.ss) r2 fun v rv => q S2 H2 v (s1.trans s2) w2 rv⟩⟩
/-- a chain of two comparisons -/
theorem pv_ch {op op' : CmpOp} {r r' : R2} {c : Expr} {d3 : D} {k l : Bool} (ho : OpR X (compareOp op) r) (ho' : OpR X (compareOp op') r') (ha : PV X e a Γ d1) (hb : PV X e b Γ d2) (hc : PV X e c Γ d3) (sc : Sc X.K r d1 d2 (.bl k)) (sc' : k = true → Sc X.K r' d2 d3 (.bl l))
    (hpe : ∀ {ta tb tc : TE}, PE X a ta → PE X b tb → PE X c tc → PE X (.Compare a [op, op'] [b, c] pos) (tChain r r' ta tb tc) := by exact fun h1 h2 h3 => pe_chain (by assumption) (by assumption) h1 h2 h3) : PV X e (.Compare a [op, op'] [b, c] pos) Γ (.bl (k && l)) :=
  PE.imp (hpe ha hb hc) fun σ H Q ⟨S, w, q⟩ => ⟨S, w, fun S1 H1 v1 s1 w1 r1 => ⟨S1, w1, fun S2 H2 v2 s2 w2 r2 => sc S2 H2 v1 v2 _ w2.nx.sh (r1.mono s2.ss) r2 fun v rv => by
    cases rv
    refine ⟨k, rfl, ?_⟩
    cases k with
    | false => exact iteF (q S2 H2 _ (s1.trans s2) w2 (.bl _))
    | true => exact iteT ⟨S2, w2, fun S3 H3 v3 s3 w3 r3 => sc' rfl S3 H3 v2 v3 Q w3.nx.sh (r2.mono s3.ss) r3 fun v rv => q S3 H3 v ((s1.trans s2).trans s3) w3 rv⟩⟩⟩
/-- a built-in function by data: r takes ds to d and makes nothing -/
def ScL (K : Fg) (r : List V → Hp → VK → Prop) (ds : List D) (d : D) : Prop := ∀ S H vs (Q : VK), Same S H → RpL K S vs ds → (∀ v, Rp K S v d → Q v H) → r vs H Q
theorem pv_cb {n : Str} {id : String} {r : List V → Hp → VK → Prop} {x0 : Expr} {es : List Expr} {p : Pos} {ds : List D} (hc : CallR X (.builtin id) r) (hm : X.mg n = none) (hv : bootBuiltins n = some (.builtin id)) (ha : PVs X e (x0 :: es) Γ ds) (sc : ScL X.K r ds d)
    (hg : Gl X n := by rfl) (hn : n ≠ "__name__" := by decide) (hdb : (n == ("__debug__" : Str)) = false := by decide)
    (he : starEach (x0 :: es) X.env = (false, eval x0 X.env) :: starEach es X.env := by rfl) (hpl : (backTo pos (starEach es X.env)).any (·.1) = false := by rfl) : PV X e (.Call (.Name n p) (x0 :: es) [] pos) Γ d :=
  PE.imp (pe_callB hc hg hm hv ha hn hdb he hpl) fun σ H Q ⟨S, w, q⟩ => ⟨S, w, fun S1 H1 vs s1 w1 r1 => sc S1 H1 vs Q w1.nx.sh r1 fun v rv => q S1 H1 v s1 w1 rv⟩
theorem pv_ct {n : Str} {T : String} {r : List V → Hp → VK → Prop} {x0 : Expr} {es : List Expr} {p : Pos} {ds : List D} (hc : CallR X (.type T) r) (hm : X.mg n = none) (hv : bootBuiltins n = some (.type T)) (ha : PVs X e (x0 :: es) Γ ds) (sc : ScL X.K r ds d)
    (hg : Gl X n := by rfl) (hn : n ≠ "__name__" := by decide) (hdb : (n == ("__debug__" : Str)) = false := by decide)
    (he : starEach (x0 :: es) X.env = (false, eval x0 X.env) :: starEach es X.env := by rfl) (hpl : (backTo pos (starEach es X.env)).any (·.1) = false := by rfl) : PV X e (.Call (.Name n p) (x0 :: es) [] pos) Γ d :=
  PE.imp (pe_callTy hc hg hm hv ha hn hdb he hpl) fun σ H Q ⟨S, w, q⟩ => ⟨S, w, fun S1 H1 vs s1 w1 r1 => sc S1 H1 vs Q w1.nx.sh r1 fun v rv => q S1 H1 v s1 w1 rv⟩
/-! tests -/
theorem px_val {k : Bool} (h : PV X e x Γ (.bl k)) (he : ∀ whole, isTrue x X.env whole = (do let v ← whole; standAt x.pos; holding [v] (truthy v)) := by intro _; rfl) : PX X e x Γ k :=
  PT.imp (pt_val h he) fun σ H Q ⟨S, w, q⟩ => ⟨S, w, fun S1 H1 v s1 w1 r1 => by
    cases r1
    exact ⟨k, rfl, q S1 H1 s1 w1⟩⟩
theorem px_cmp {op : CmpOp} {r : R2} {k : Bool} (ho : OpR X (compareOp op) r) (ha : PV X e a Γ d1) (hb : PV X e b Γ d2) (sc : Sc X.K r d1 d2 (.bl k)) (hm : behindInMarks op b = false := by first | exact nomark _ | rfl) : PX X e (.Compare a [op] [b] pos) Γ k :=
  PT.imp (pt_cmpR ho ha hb hm) fun σ H Q ⟨S, w, q⟩ => ⟨S, w, fun S1 H1 v1 s1 w1 r1 => ⟨S1, w1, fun S2 H2 v2 s2 w2 r2 => sc S2 H2 v1 v2 _ w2.nx.sh (r1.mono s2.ss) r2 fun v rv => by
    cases rv
    exact ⟨k, rfl, q S2 H2 (s1.trans s2) w2⟩⟩⟩
theorem px_not {k : Bool} (h : PX X e x Γ k) : PX X e (.UnaryOp .Not x pos) Γ (!k) :=
  PT.imp (pt_not h) fun σ H Q ⟨S, w, q⟩ => ⟨S, w, fun S1 H1 s1 w1 => q S1 H1 s1 w1⟩
abbrev PW' (X : Cx) (e : Ent) (x : Expr) (Γ : Gam) (b : Bool) : Prop := PW X x (tPX X.K e Γ b)
theorem pw_a1 {k : Bool} (h : PX X e x Γ k) : PW' X e (.BoolOp .And [x] pos) Γ k := pw_and1 h
theorem pw_o1 {k : Bool} (h : PX X e x Γ k) : PW' X e (.BoolOp .Or [x] pos) Γ k := pw_or1 h
theorem pw_a {rest : List Expr} {k l : Bool} (h : PX X e x Γ k) (h2 : k = true → PW' X e (.BoolOp .And (b :: rest) pos) Γ l) : PW' X e (.BoolOp .And (x :: b :: rest) pos) Γ (k && l) := by
  cases k with
  | true => exact PW.imp (pw_and h (h2 rfl)) fun σ H Q ⟨S, w, q⟩ => ⟨S, w, fun S1 H1 s1 w1 => iteT ⟨S1, w1, fun S2 H2 s2 w2 => q S2 H2 (s1.trans s2) w2⟩⟩
  | false =>
    have nev : PW X (.BoolOp .And (b :: rest) pos) (fun _ _ _ => False) := ⟨fun _ _ _ _ _ _ _ z => z.elim⟩
    exact PW.imp (pw_and h nev) fun σ H Q ⟨S, w, q⟩ => ⟨S, w, fun S1 H1 s1 w1 => iteF (q S1 H1 s1 w1)⟩
theorem pw_o {rest : List Expr} {k l : Bool} (h : PX X e x Γ k) (h2 : k = false → PW' X e (.BoolOp .Or (b :: rest) pos) Γ l) : PW' X e (.BoolOp .Or (x :: b :: rest) pos) Γ (k || l) := by
  cases k with
  | false => exact PW.imp (pw_or h (h2 rfl)) fun σ H Q ⟨S, w, q⟩ => ⟨S, w, fun S1 H1 s1 w1 => iteF ⟨S1, w1, fun S2 H2 s2 w2 => q S2 H2 (s1.trans s2) w2⟩⟩
  | true =>
    have nev : PW X (.BoolOp .Or (b :: rest) pos) (fun _ _ _ => False) := ⟨fun _ _ _ _ _ _ _ z => z.elim⟩
    exact PW.imp (pw_or h nev) fun σ H Q ⟨S, w, q⟩ => ⟨S, w, fun S1 H1 s1 w1 => iteT (q S1 H1 s1 w1)⟩
theorem px_w {k : Bool} (h : PW' X e x Γ k) : PX X e x Γ k := h.pt
theorem px_is {k l : Bool} (h : PX X e x Γ k) (q : k = l) : PX X e x Γ l := by rw [← q]; exact h
theorem pv_is (h : PV X e x Γ d1) (q : d1 = d) : PV X e x Γ d := by rw [← q]; exact h
/-- and, or, not as values -/
theorem pv_one {op : BoolOp} (h : PV X e x Γ d) : PV X e (.BoolOp op [x] pos) Γ d := pe_one h
theorem pv_and {rest : List Expr} {k l : Bool} (h : PV X e x Γ (.bl k)) (h2 : k = true → PV X e (.BoolOp .And (b :: rest) pos) Γ (.bl l)) : PV X e (.BoolOp .And (x :: b :: rest) pos) Γ (.bl (k && l)) := by
  cases k with
  | true => exact PE.imp (pe_and h (h2 rfl)) fun σ H Q ⟨S, w, q⟩ => ⟨S, w, fun S1 H1 v s1 w1 r1 => by
      cases r1
      exact ⟨true, rfl, iteT ⟨S1, w1, fun S2 H2 v s2 w2 r2 => q S2 H2 v (s1.trans s2) w2 r2⟩⟩⟩
  | false =>
    have nev : PE X (.BoolOp .And (b :: rest) pos) (fun _ _ _ => False) := ⟨fun _ _ _ _ _ _ z => z.elim⟩
    exact PE.imp (pe_and h nev) fun σ H Q ⟨S, w, q⟩ => ⟨S, w, fun S1 H1 v s1 w1 r1 => by
      cases r1
      exact ⟨false, rfl, iteF (q S1 H1 _ s1 w1 (.bl false))⟩⟩
theorem pv_or {rest : List Expr} {k l : Bool} (h : PV X e x Γ (.bl k)) (h2 : k = false → PV X e (.BoolOp .Or (b :: rest) pos) Γ (.bl l)) : PV X e (.BoolOp .Or (x :: b :: rest) pos) Γ (.bl (k || l)) := by
  cases k with
  | false => exact PE.imp (pe_or h (h2 rfl)) fun σ H Q ⟨S, w, q⟩ => ⟨S, w, fun S1 H1 v s1 w1 r1 => by
      cases r1
      exact ⟨false, rfl, iteF ⟨S1, w1, fun S2 H2 v s2 w2 r2 => q S2 H2 v (s1.trans s2) w2 r2⟩⟩⟩
  | true =>
    have nev : PE X (.BoolOp .Or (b :: rest) pos) (fun _ _ _ => False) := ⟨fun _ _ _ _ _ _ z => z.elim⟩
    exact PE.imp (pe_or h nev) fun σ H Q ⟨S, w, q⟩ => ⟨S, w, fun S1 H1 v s1 w1 r1 => by
      cases r1
      exact ⟨true, rfl, iteT (q S1 H1 _ s1 w1 (.bl true))⟩⟩
theorem pv_not {k : Bool} (h : PV X e x Γ (.bl k)) : PV X e (.UnaryOp .Not x pos) Γ (.bl (!k)) :=
  PE.imp (pe_not h) fun σ H Q ⟨S, w, q⟩ => ⟨S, w, fun S1 H1 v s1 w1 r1 => by
    cases r1
    exact ⟨k, rfl, q S1 H1 _ s1 w1 (.bl _)⟩⟩
theorem pv_if {c : Expr} {k : Bool} (hc : PX X e c Γ k) (h1 : k = true → PV X e a Γ d) (h2 : k = false → PV X e b Γ d) : PV X e (.IfExp c a b pos) Γ d := by
  have nev : ∀ y, PE X y (fun _ _ _ => False) := fun _ => ⟨fun _ _ _ _ _ _ z => z.elim⟩
  cases k with
  | true => exact PE.imp (pe_ifExp hc (h1 rfl) (nev b)) fun σ H Q ⟨S, w, q⟩ => ⟨S, w, fun S1 H1 s1 w1 => iteT ⟨S1, w1, fun S2 H2 v s2 w2 r2 => q S2 H2 v (s1.trans s2) w2 r2⟩⟩
  | false => exact PE.imp (pe_ifExp hc (nev a) (h2 rfl)) fun σ H Q ⟨S, w, q⟩ => ⟨S, w, fun S1 H1 s1 w1 => iteF ⟨S1, w1, fun S2 H2 v s2 w2 r2 => q S2 H2 v (s1.trans s2) w2 r2⟩⟩
/-! displays -/
theorem tP_new {K : Fg} {σ : L2.St} {Q : VK} {S H S1 H1 : Hp} {p : Addr} {o : HO} (q : ∀ S' H' v, Pur S H S' H' → Wd K e S' H' σ Γ → Rp K S' v d → Q v H') (s1 : Pur S H S1 H1) (w1 : Wd K e S1 H1 σ Γ) (hp : H1 p = none)
    (r : Same S1 (upd S1 p o) → Rp K (upd S1 p o) (.ref p) d) : Q (.ref p) (upd H1 p o) := by
  obtain ⟨w2, s2⟩ := w1.new (o := o) hp
  exact q _ _ _ (s1.trans (pur_new (w1.nx.sh.free hp) hp)) w2 (r s2)
theorem pv_tup {es : List Expr} {ds : List D} {c} (h : PVs X e es Γ ds) (hl : ds.length ≤ sizeLine := by first | exact Nat.le_trans (by decide : _ ≤ 1000) (by decide) | exact Nat.le_trans (m := 1000) (by simp only [List.length_cons, List.length_nil]; decide) (by decide)) : PV X e (.Tuple es c pos) Γ (.tup ds) :=
  PE.imp (pe_tup h) fun σ H Q ⟨S, w, q⟩ => ⟨S, w, fun S1 H1 vs s1 w1 r1 => ⟨by rw [r1.length]; exact hl, fun p hp => tP_new q s1 w1 hp fun s2 => .tup (SqT.of upd_same) (r1.mono s2)⟩⟩
theorem pv_lst {es : List Expr} {ds : List D} (h : PVs X e es Γ ds) (hl : ds.length ≤ sizeLine := by first | exact Nat.le_trans (by decide : _ ≤ 1000) (by decide) | exact Nat.le_trans (m := 1000) (by simp only [List.length_cons, List.length_nil]; decide) (by decide)) : PV X e (.List es pos) Γ (.lst ds) :=
  PE.imp (pe_lst h) fun σ H Q ⟨S, w, q⟩ => ⟨S, w, fun S1 H1 vs s1 w1 r1 => ⟨by rw [r1.length]; exact hl, fun p hp => tP_new q s1 w1 hp fun s2 => .lst (.inl upd_same) (r1.mono s2)⟩⟩
/-- a new object of one's own -/
theorem tO_new {K : Fg} {σ : L2.St} {Q : VK} {S H S1 H1 : Hp} {p : Addr} {u : HO} {o : O} {Γ1 : Gam} {Φ : O → Gam → Prop} (q : ∀ S' H' a o Γ', Φ o Γ' → Stp σ Γ S H Γ' S' H' → Wd K e S' H' σ Γ' → S' a = none → Own K S' H' a o → H a = none → Q (.ref a) H')
    (s1 : Stp σ Γ S H Γ1 S1 H1) (w1 : Wd K e S1 H1 σ Γ1) (hΦ : Φ o Γ1) (hp : H1 p = none) (r : Own K S1 (upd H1 p u) p o) : Q (.ref p) (upd H1 p u) :=
  q S1 (upd H1 p u) p o Γ1 hΦ (s1.trans (pur_own hp).stp) (w1.own hp) (w1.nx.sh.free hp) r (by
    cases z : H p with
    | none => rfl
    | some y => exact absurd hp (s1.al p (by rw [z]; exact fun t => nomatch t)))
theorem eo_lst {es : List Expr} {ds : List D} (h : PVs X e es Γ ds) (hl : ds.length ≤ sizeLine := by first | exact Nat.le_trans (by decide : _ ≤ 1000) (by decide) | exact Nat.le_trans (m := 1000) (by simp only [List.length_cons, List.length_nil]; decide) (by decide)) : EO X e (.List es pos) Γ (Is (.lst ds) Γ) :=
  PE.imp (pe_lst h) fun σ H Q ⟨S, w, q⟩ => ⟨S, w, fun S1 H1 vs s1 w1 r1 => ⟨by rw [r1.length]; exact hl, fun p hp => tO_new q s1.stp w1 ⟨rfl, rfl⟩ hp ⟨vs, upd_same, r1⟩⟩⟩
theorem eo_dK : EO X e (.Dict [] [] pos) Γ (Is (.dK []) Γ) := PE.imp pe_dnewK fun σ H Q ⟨S, w, q⟩ p hp => tO_new q (Stp.refl _ _ _ _) w ⟨rfl, rfl⟩ hp ⟨[], upd_same, .nil⟩
theorem eo_dT : EO X e (.Dict [] [] pos) Γ (Is (.dT []) Γ) := PE.imp pe_dnewT fun σ H Q ⟨S, w, q⟩ p hp => tO_new q (Stp.refl _ _ _ _) w ⟨rfl, rfl⟩ hp ⟨[], upd_same, .nil⟩
theorem eo_weak {Φ Φ' : O → Gam → Prop} (h : EO X e x Γ Φ') (k : ∀ d Γ', Φ' d Γ' → Φ d Γ') : EO X e x Γ Φ :=
  PE.imp h fun σ H Q ⟨S, w, q⟩ => ⟨S, w, fun S' H' a o Γ' hd => q S' H' a o Γ' (k o Γ' hd)⟩
theorem ev_weak {Φ Φ' : D → Gam → Prop} (h : EV X e x Γ Φ') (k : ∀ d Γ', Φ' d Γ' → Φ d Γ') : EV X e x Γ Φ :=
  PE.imp h fun σ H Q ⟨S, w, q⟩ => ⟨S, w, fun S' H' v d Γ' hd => q S' H' v d Γ' (k d Γ' hd)⟩
end pure

/-! ### impure ones -/
section impure
variable {X : Cx} {e : Ent} {Γ : Gam} {x a b : Expr} {Φ Φa : D → Gam → Prop} {pos : Pos}
theorem tO_frz {K : Fg} {σ : L2.St} {S H S' H' : Hp} {Γ' : Gam} {p : Addr} {o : O} (s : Stp σ Γ S H Γ' S' H') (w : Wd K e S H σ Γ) (w' : Wd K e S' H' σ Γ') (sp : S' p = none) (ow : Own K S' H' p o) (hp : H p = none) :
    ∃ S2, Stp σ Γ S H Γ' S2 H' ∧ Wd K e S2 H' σ Γ' ∧ Rp K S2 (.ref p) o.d := by
  obtain ⟨S2, s2, k2, w2, r⟩ := own_st w' sp ow (w.nx.fresh hp) fun i o' h1 h2 => by
    obtain ⟨o2, h3⟩ := s.sl i o' h1
    obtain ⟨v, h4, c, h5, _, h6, _⟩ := w.sl.at_ i _ h3
    rw [h2] at h4
    cases h4
    cases h5
    exact h6.some hp
  exact ⟨S2, ⟨s.ss.trans s2, s.hh, s.al, fun b hb => (k2 b fun z => hb (by rw [z]; exact hp)).trans (s.old b hb), s.sl⟩, w2, r⟩
theorem ev_frz {Φo : O → Gam → Prop} (h : EO X e x Γ Φo) (k : ∀ o Γ', Φo o Γ' → Φ o.d Γ') : EV X e x Γ Φ :=
  PE.imp h fun σ H Q ⟨S, w, q⟩ => ⟨S, w, fun S' H' p o Γ' ho s w' sp ow hp => by
    obtain ⟨S2, s2, w2, r⟩ := tO_frz s w w' sp ow hp
    exact q S2 H' _ _ Γ' (k o Γ' ho) s2 w2 r⟩
theorem av_cons {xs : List Expr} {Φb : D → Gam → List D → Gam → Prop} {Ψ : List D → Gam → Prop} (ha : EV X e a Γ Φa) (hb : ∀ d1 Γ1, Φa d1 Γ1 → AV X e xs Γ1 (Φb d1 Γ1)) (k : ∀ d1 Γ1 ds Γ2, Φa d1 Γ1 → Φb d1 Γ1 ds Γ2 → Ψ (d1 :: ds) Γ2)
    (hs : starEach (a :: xs) X.env = (false, eval a X.env) :: starEach xs X.env := by rfl) : AV X e (a :: xs) Γ Ψ := by
  have hb' : PA X xs (fun σ H Q => ∃ d1 Γ1, Φa d1 Γ1 ∧ tA X.K e Γ1 (Φb d1 Γ1) σ H Q) := ⟨fun pos pins s σ H Q I ⟨d1, Γ1, h1, q⟩ => (hb d1 Γ1 h1).run pos pins s σ H Q I q⟩
  refine PA.imp (pa_cons ha hb' hs) fun σ H Q ⟨S, w, q⟩ => ⟨S, w, fun S1 H1 v1 d1 Γ1 h1 s1 w1 r1 => ?_⟩
  exact ⟨d1, Γ1, h1, S1, w1, fun S2 H2 vs ds Γ2 h2 s2 w2 r2 => q S2 H2 _ _ Γ2 (k _ _ _ _ h1 h2) (s1.trans s2) w2 (.cons (r1.mono s2.ss) r2)⟩
/-- the shape of all rules with two operands -/
theorem two {y : Expr} {r : R2} {t : TE} {Φb : D → Gam → D → Gam → Prop} (hpe : ∀ ta tb, PE X a ta → PE X b tb → PE X y (tOp r ta tb)) (ha : EV X e a Γ Φa) (hb : ∀ d1 Γ1, Φa d1 Γ1 → EV X e b Γ1 (Φb d1 Γ1))
    (k : ∀ d1 Γ1 d2 Γ2, Φa d1 Γ1 → Φb d1 Γ1 d2 Γ2 → ∃ d, Sc X.K r d1 d2 d ∧ Φ d Γ2) : EV X e y Γ Φ := by
  have hb' : PE X b (fun σ H Q => ∃ d1 Γ1, Φa d1 Γ1 ∧ tE X.K e Γ1 (Φb d1 Γ1) σ H Q) := ⟨fun pins s σ H Q I ⟨d1, Γ1, h1, q⟩ => (hb d1 Γ1 h1).run pins s σ H Q I q⟩
  refine PE.imp (hpe _ _ ha hb') fun σ H Q ⟨S, w, q⟩ => ⟨S, w, fun S1 H1 v1 d1 Γ1 h1 s1 w1 r1 => ?_⟩
  refine ⟨d1, Γ1, h1, S1, w1, fun S2 H2 v2 d2 Γ2 h2 s2 w2 r2 => ?_⟩
  obtain ⟨d, sc, hd⟩ := k d1 Γ1 d2 Γ2 h1 h2
  exact sc S2 H2 v1 v2 Q w2.nx.sh (r1.mono s2.ss) r2 fun v rv => q S2 H2 v d Γ2 hd (s1.trans s2) w2 rv
theorem ev_bin {op : Operator} {r : R2} {Φb : D → Gam → D → Gam → Prop} (ho : OpR X (binaryOp op) r) (ha : EV X e a Γ Φa) (hb : ∀ d1 Γ1, Φa d1 Γ1 → EV X e b Γ1 (Φb d1 Γ1))
    (k : ∀ d1 Γ1 d2 Γ2, Φa d1 Γ1 → Φb d1 Γ1 d2 Γ2 → ∃ d, Sc X.K r d1 d2 d ∧ Φ d Γ2) : EV X e (.BinOp a op b pos) Γ Φ := two (t := tC .non) (fun ta tb h1 h2 => pe_op ho h1 h2) ha hb k
theorem ev_cmp {op : CmpOp} {r : R2} {Φb : D → Gam → D → Gam → Prop} (ho : OpR X (compareOp op) r) (ha : EV X e a Γ Φa) (hb : ∀ d1 Γ1, Φa d1 Γ1 → EV X e b Γ1 (Φb d1 Γ1))
    (k : ∀ d1 Γ1 d2 Γ2, Φa d1 Γ1 → Φb d1 Γ1 d2 Γ2 → ∃ d, Sc X.K r d1 d2 d ∧ Φ d Γ2) (hm : behindInMarks op b = false := by first | exact nomark _ | rfl) : EV X e (.Compare a [op] [b] pos) Γ Φ := two (t := tC .non) (fun ta tb h1 h2 => pe_cmpR ho h1 h2 hm) ha hb k
theorem ev_sub {r : R2} {Φb : D → Gam → D → Gam → Prop} (ho : IxR X r) (ha : EV X e a Γ Φa) (hb : ∀ d1 Γ1, Φa d1 Γ1 → EV X e b Γ1 (Φb d1 Γ1))
    (k : ∀ d1 Γ1 d2 Γ2, Φa d1 Γ1 → Φb d1 Γ1 d2 Γ2 → ∃ d, Sc X.K r d1 d2 d ∧ Φ d Γ2) (hx : PlainIx b := by exact fun _ _ => rfl) : EV X e (.Subscript a b pos) Γ Φ := two (t := tC .non) (fun ta tb h1 h2 => pe_ix ho h1 h2 hx) ha hb k
theorem tv_val {Ψ : Bool → Gam → Prop} (h : EV X e x Γ Φ) (k : ∀ d Γ', Φ d Γ' → ∃ c, d = .bl c ∧ Ψ c Γ') (he : ∀ whole, isTrue x X.env whole = (do let v ← whole; standAt x.pos; holding [v] (truthy v)) := by intro _; rfl) : TV X e x Γ Ψ :=
  PT.imp (pt_val h he) fun σ H Q ⟨S, w, q⟩ => ⟨S, w, fun S1 H1 v d Γ' hd s1 w1 r1 => by
    obtain ⟨c, rfl, hc⟩ := k d Γ' hd
    cases r1
    exact ⟨c, rfl, q S1 H1 c Γ' hc s1 w1⟩⟩
theorem tv_cmp {op : CmpOp} {r : R2} {Ψ : Bool → Gam → Prop} {Φb : D → Gam → D → Gam → Prop} (ho : OpR X (compareOp op) r) (ha : EV X e a Γ Φa) (hb : ∀ d1 Γ1, Φa d1 Γ1 → EV X e b Γ1 (Φb d1 Γ1))
    (k : ∀ d1 Γ1 d2 Γ2, Φa d1 Γ1 → Φb d1 Γ1 d2 Γ2 → ∃ c, Sc X.K r d1 d2 (.bl c) ∧ Ψ c Γ2) (hm : behindInMarks op b = false := by first | exact nomark _ | rfl) : TV X e (.Compare a [op] [b] pos) Γ Ψ := by
  have hb' : PE X b (fun σ H Q => ∃ d1 Γ1, Φa d1 Γ1 ∧ tE X.K e Γ1 (Φb d1 Γ1) σ H Q) := ⟨fun pins s σ H Q I ⟨d1, Γ1, h1, q⟩ => (hb d1 Γ1 h1).run pins s σ H Q I q⟩
  refine PT.imp (pt_cmpR ho ha hb' hm) fun σ H Q ⟨S, w, q⟩ => ⟨S, w, fun S1 H1 v1 d1 Γ1 h1 s1 w1 r1 => ?_⟩
  refine ⟨d1, Γ1, h1, S1, w1, fun S2 H2 v2 d2 Γ2 h2 s2 w2 r2 => ?_⟩
  obtain ⟨c, sc, hc⟩ := k d1 Γ1 d2 Γ2 h1 h2
  exact sc S2 H2 v1 v2 _ w2.nx.sh (r1.mono s2.ss) r2 fun v rv => by
    cases rv
    exact ⟨c, rfl, q S2 H2 c Γ2 hc (s1.trans s2) w2⟩
end impure

/-! ### one's own objects looked at: all of them as if they stood for good -/
def B.fr : B → B
  | .ow o => .st o.d
  | b => b
def snap (Γ : Gam) : Gam := Γ.map (Option.map B.fr)
def flat : D → Bool
  | .non => true | .bl _ => true | .int _ => true | .str _ => true | _ => false
theorem Rp.flat {K : Fg} {S S' : Hp} {v : V} {d : D} (h : Rp K S v d) (f : flat d = true) : Rp K S' v d := by
  cases h with
  | non => exact .non
  | bl b => exact .bl b
  | int i => exact .int i
  | str s => exact .str s
  | _ => cases f
section snaps
variable {X : Cx} {e : Ent} {Γ : Gam} {x : Expr} {d : D}
theorem snap_get {i : Nat} {b : B} (q : (snap Γ)[i]? = some (some b)) : ∃ b', Γ[i]? = some (some b') ∧ b'.fr = b := by
  unfold snap at q
  rw [List.getElem?_map] at q
  cases h : Γ[i]? with
  | none => rw [h] at q; cases q
  | some b0 =>
    rw [h] at q
    cases b0 with
    | none => cases q
    | some b1 => exact ⟨b1, rfl, Option.some.inj (Option.some.inj q)⟩
theorem own_rp {K : Fg} {S H : Hp} {a : Addr} {o : O} (s : Same S H) (ow : Own K S H a o) : Rp K H (.ref a) o.d := by
  cases o with
  | lst l => obtain ⟨xs, z1, z2⟩ := ow; exact .lst (.inl z1) (z2.mono s)
  | dK l => obtain ⟨xs, z1, z2⟩ := ow; exact .dK (.inl z1) (z2.mono s)
  | dT l => obtain ⟨xs, z1, z2⟩ := ow; exact .dT (.inl z1) (z2.mono s)
  | obj C l => obtain ⟨dx, fs, z1, z2⟩ := ow; exact .obj z1 (z2.mono s)
theorem snap_wd {K : Fg} {S H : Hp} {σ : L2.St} (w : Wd K e S H σ Γ) : Wd K ⟨H, H, none⟩ H H σ (snap Γ) := by
  refine ⟨⟨Same.refl _, Same.refl _, fun _ _ z _ => z, fun _ z => z, fun _ _ => rfl⟩, by rw [w.sl.len]; simp [snap], fun i b q => ?_, fun i j o o' a q => ?_, fun a z => nomatch z⟩
  · obtain ⟨b1, h, eb⟩ := snap_get q
    obtain ⟨v, h1, h2⟩ := w.sl.at_ i b1 h
    refine ⟨v, h1, ?_⟩
    subst eb
    cases b1 with
    | st d => exact Rp.mono w.nx.sh h2
    | xc a d fl => exact ⟨h2.1, h2.2.mono w.nx.sh⟩
    | nw d l => exact h2.elim
    | nt o1 o2 => exact h2.elim
    | ow o =>
      obtain ⟨a, rfl, _, ow, _⟩ := h2
      exact own_rp w.nx.sh ow
  · exfalso
    obtain ⟨b1, h, eb⟩ := snap_get q
    cases b1 <;> cases eb
theorem Wd.same {K : Fg} {S H H' : Hp} {σ : L2.St} (w : Wd K e S H σ Γ) (g : Same H H') : Wd K e S H' σ Γ :=
  ⟨⟨w.nx.ss, w.nx.sh.trans g, fun a o z y => g _ _ (w.nx.hh a o z y), fun a z y => w.nx.al a z (g.free y), w.nx.old⟩, w.sl.to (Same.refl _) fun a sa ha => by
    cases q : H a with
    | none => exact absurd q ha
    | some u => exact ⟨g _ _ q, sa⟩⟩
/-- a flat value of a pure expression, all that is one's own read as data -/
theorem pv_snap (h : ∀ e', PV X e' x (snap Γ) d) (f : flat d = true := by rfl) : PV X e x Γ d := by
  refine ⟨fun pins s σ H Q I ⟨S, w, q⟩ => (h ⟨H, H, none⟩).run pins s σ H Q I ⟨H, snap_wd w, fun S' H' v s1 w1 r1 => ?_⟩⟩
  exact q S H' v ⟨Same.refl _, s1.hh, fun _ _ => rfl⟩ (w.same s1.hh) (r1.flat f)
theorem px_snap {k : Bool} (h : ∀ e', PX X e' x (snap Γ) k) : PX X e x Γ k := by
  refine ⟨fun pins s σ H Q I ⟨S, w, q⟩ => (h ⟨H, H, none⟩).run pins s σ H Q I ⟨H, snap_wd w, fun S' H' s1 w1 => ?_⟩⟩
  exact q S H' ⟨Same.refl _, s1.hh, fun _ _ => rfl⟩ (w.same s1.hh)
end snaps
end Kf
end
section
set_option maxRecDepth 100000
set_option maxHeartbeats 4000000
/-! KfC: statements, loops. -/
namespace Kf
open PySem L2

/-! ### what is wanted behind a statement -/
structure Kn where
  nx : Gam → Prop
  rt : B → Gam → Prop
  bk : Gam → Prop := fun _ => False
  ct : Gam → Prop := fun _ => False
def ROk (K : Fg) (e : Ent) (S H : Hp) (v : V) : B → Prop
  | .st d => Rp K S v d
  | .ow o => ∃ a, v = .ref a ∧ S a = none ∧ Own K S H a o ∧ e.H0 a = none
  | .xc _ _ _ => False
  | .nw d l => ∃ p q u xs, v = .ref p ∧ S p = none ∧ S q = none ∧ p ≠ q ∧ H p = some (.lst [u, .ref q]) ∧ H q = some (.lst xs) ∧ Rp K S u d ∧ RpL K S xs l ∧ e.H0 p = none ∧ e.H0 q = none
  | .nt o1 o2 => ∃ p q1 q2, v = .ref p ∧ S p = none ∧ S q1 = none ∧ S q2 = none ∧ q1 ≠ q2 ∧ H p = some (.tup [.ref q1, .ref q2]) ∧ Own K S H q1 o1 ∧ Own K S H q2 o2 ∧ e.H0 p = none ∧ e.H0 q1 = none ∧ e.H0 q2 = none
structure tS (K : Fg) (e : Ent) (Γ : Gam) (k : Kn) (D : Ends) (σ : L2.St) (H : Hp) : Prop where
  ex : ∃ S, Wd K e S H σ Γ ∧
    (∀ S' σ' H' Γ', k.nx Γ' → Same S S' → Wd K e S' H' σ' Γ' → D.nx σ' H') ∧ (∀ S' σ' H' Γ', k.bk Γ' → Same S S' → Wd K e S' H' σ' Γ' → D.bk σ' H') ∧
    (∀ S' σ' H' Γ', k.ct Γ' → Same S S' → Wd K e S' H' σ' Γ' → D.ct σ' H') ∧ (∀ S' σ' H' v b Γ', k.rt b Γ' → Same S S' → Wd K e S' H' σ' Γ' → ROk K e S' H' v b → D.rt v H')
abbrev BL (X : Cx) (e : Ent) (st : List Stmt) (Γ : Gam) (k : Kn) : Prop := PSs X st (tS X.K e Γ k)
abbrev ST (X : Cx) (e : Ent) (st : Stmt) (Γ : Gam) (k : Kn) : Prop := PS X st (tS X.K e Γ k)

section slots
variable {K : Fg} {e : Ent} {S H : Hp} {σ : L2.St} {Γ : Gam} {i : Nat} {v : V} {d : D}
theorem get_set {α : Type} {l : List α} {i j : Nat} {x y : α} (h : (l.set i x)[j]? = some y) : (i = j ∧ x = y) ∨ (i ≠ j ∧ l[j]? = some y) := by
  rw [List.getElem?_set] at h
  by_cases q : i = j
  · rw [if_pos q] at h
    split at h
    · exact .inl ⟨q, Option.some.inj h⟩
    · cases h
  · rw [if_neg q] at h
    exact .inr ⟨q, h⟩
theorem set_at {α : Type} {l : List α} {i : Nat} {x : α} (h : i < l.length) : (l.set i x)[i]? = some x := by
  rw [List.getElem?_set_self h]
theorem Wd.set (w : Wd K e S H σ Γ) (r : Rp K S v d) (hz : e.own = none ∨ i ≠ 0) : Wd K e S H (σ.set i (some v)) (Γ.set i (some (.st d))) := by
  refine ⟨w.nx, by rw [List.length_set, List.length_set]; exact w.sl.len, fun j b q => ?_, fun j k o o' a q1 q2 q3 q4 => ?_, fun a z => ?_⟩
  · rcases get_set q with ⟨rfl, h⟩ | ⟨n, h⟩
    · have h' := Option.some.inj h
      subst h'
      have hl : i < (Γ.set i (some (.st d))).length := (List.getElem?_eq_some_iff.mp q).1
      rw [List.length_set] at hl
      exact ⟨v, set_at (by rw [w.sl.len]; exact hl), r⟩
    · obtain ⟨u, h1, h2⟩ := w.sl.at_ j b h
      exact ⟨u, by rw [List.getElem?_set_ne n]; exact h1, h2⟩
  · rcases get_set q1 with ⟨_, h⟩ | ⟨n1, h1⟩
    · cases h
    rcases get_set q2 with ⟨_, h⟩ | ⟨n2, h2⟩
    · cases h
    rw [List.getElem?_set_ne n1] at q3
    rw [List.getElem?_set_ne n2] at q4
    exact w.sl.dj j k o o' a h1 h2 q3 q4
  · have n : i ≠ 0 := by
      rcases hz with h | h
      · rw [h] at z; cases z
      · exact h
    obtain ⟨h1, o, h2⟩ := w.sl.z a z
    exact ⟨by rw [List.getElem?_set_ne n]; exact h1, o, by rw [List.getElem?_set_ne n]; exact h2⟩
theorem Wd.setO {a : Addr} {o : O} (w : Wd K e S H σ Γ) (sa : S a = none) (ow : Own K S H a o) (h0 : e.H0 a = none) (hn : ∀ (j : Nat) (o' : O), Γ[j]? = some (some (.ow o')) → σ[j]? ≠ some (some (.ref a))) (hz : e.own = none ∨ i ≠ 0) :
    Wd K e S H (σ.set i (some (.ref a))) (Γ.set i (some (.ow o))) := by
  refine ⟨w.nx, by rw [List.length_set, List.length_set]; exact w.sl.len, fun j b q => ?_, fun j k o1 o2 c q1 q2 q3 q4 => ?_, fun c z => ?_⟩
  · rcases get_set q with ⟨rfl, h⟩ | ⟨n, h⟩
    · have h' := Option.some.inj h
      subst h'
      have hl : i < (Γ.set i (some (.ow o))).length := (List.getElem?_eq_some_iff.mp q).1
      rw [List.length_set] at hl
      exact ⟨_, set_at (by rw [w.sl.len]; exact hl), a, rfl, sa, ow, .inl h0⟩
    · obtain ⟨u, h1, h2⟩ := w.sl.at_ j b h
      exact ⟨u, by rw [List.getElem?_set_ne n]; exact h1, h2⟩
  · rcases get_set q1 with ⟨e1, h⟩ | ⟨n1, h1⟩
    · rcases get_set q2 with ⟨e2, h⟩ | ⟨n2, h2⟩
      · exact e1.symm.trans e2
      · exfalso
        rw [List.getElem?_set_ne n2] at q4
        rcases get_set q3 with ⟨_, h3⟩ | ⟨n3, _⟩
        · cases h3
          exact hn k o2 h2 q4
        · exact n3 e1
    · rw [List.getElem?_set_ne n1] at q3
      rcases get_set q2 with ⟨e2, h⟩ | ⟨n2, h2⟩
      · exfalso
        rcases get_set q4 with ⟨_, h3⟩ | ⟨n3, _⟩
        · cases h3
          exact hn j o1 h1 q3
        · exact n3 e2
      · rw [List.getElem?_set_ne n2] at q4
        exact w.sl.dj j k o1 o2 c h1 h2 q3 q4
  · have n : i ≠ 0 := by
      rcases hz with h | h
      · rw [h] at z; cases z
      · exact h
    obtain ⟨h1, o', h2⟩ := w.sl.z c z
    exact ⟨by rw [List.getElem?_set_ne n]; exact h1, o', by rw [List.getElem?_set_ne n]; exact h2⟩
/-- one's own object in slot i is changed -/
theorem Wd.put {a : Addr} {o o' : O} {u : HO} (w : Wd K e S H σ Γ) (hi : Γ[i]? = some (some (.ow o))) (ha : σ[i]? = some (some (.ref a))) (ow : Own K S (upd H a u) a o') : Wd K e S (upd H a u) σ (Γ.set i (some (.ow o'))) := by
  obtain ⟨v, h1, c, h2, sa, _, hc⟩ := w.sl.at_ i _ hi
  rw [ha] at h1
  cases h1
  cases h2
  refine ⟨w.nx.put sa hc, by rw [List.length_set]; exact w.sl.len, fun j b q => ?_, fun j k o1 o2 x q1 q2 q3 q4 => ?_, fun x z => ?_⟩
  · rcases get_set q with ⟨rfl, h⟩ | ⟨n, h⟩
    · have h' := Option.some.inj h
      subst h'
      exact ⟨_, ha, a, rfl, sa, ow, hc⟩
    · obtain ⟨y, h1, h2⟩ := w.sl.at_ j b h
      refine ⟨y, h1, ?_⟩
      cases b with
      | st d => exact h2
      | xc a d fl => exact h2.xcm (Same.refl _)
      | nw d l => exact h2.elim
      | nt o1 o2 => exact h2.elim
      | ow o1 =>
        obtain ⟨x, h3, h4, h5, h6⟩ := h2
        subst h3
        have nx : x ≠ a := fun z => n (w.sl.dj i j o o1 a hi h ha (by rw [h1, z]))
        exact ⟨x, rfl, h4, h5.to (Same.refl _) (upd_ne nx), h6⟩
  · have g : ∀ {j : Nat} {o1 : O}, (Γ.set i (some (.ow o')))[j]? = some (some (.ow o1)) → ∃ o2, Γ[j]? = some (some (.ow o2)) := fun {j o1} q => by
      rcases get_set q with ⟨rfl, _⟩ | ⟨_, h⟩
      · exact ⟨o, hi⟩
      · exact ⟨o1, h⟩
    obtain ⟨p1, g1⟩ := g q1
    obtain ⟨p2, g2⟩ := g q2
    exact w.sl.dj j k p1 p2 x g1 g2 q3 q4
  · obtain ⟨h1, o1, h2⟩ := w.sl.z x z
    refine ⟨h1, ?_⟩
    by_cases n : i = 0
    · subst n
      exact ⟨o', set_at (List.getElem?_eq_some_iff.mp h2).1⟩
    · exact ⟨o1, by rw [List.getElem?_set_ne n]; exact h2⟩
/-- forget slots -/
theorem Wd.weak {Γ' : Gam} (w : Wd K e S H σ Γ) (hl : Γ'.length = Γ.length) (h : ∀ (i : Nat) (b : B), Γ'[i]? = some (some b) → Γ[i]? = some (some b)) (hz : e.own = none ∨ Γ'[0]? = Γ[0]?) : Wd K e S H σ Γ' :=
  ⟨w.nx, w.sl.len.trans hl.symm, fun j b q => w.sl.at_ j b (h j b q), fun j k o o' a q1 q2 => w.sl.dj j k o o' a (h _ _ q1) (h _ _ q2), fun a z => by
    obtain ⟨h1, o, h2⟩ := w.sl.z a z
    rcases hz with y | y
    · rw [y] at z; cases z
    · exact ⟨h1, o, y.trans h2⟩⟩
theorem Wd.fresh_ne {a : Addr} (w : Wd K e S H σ Γ) (ha : H a = none) : ∀ (j : Nat) (o' : O), Γ[j]? = some (some (.ow o')) → σ[j]? ≠ some (some (.ref a)) := fun j o' h1 h2 => by
  obtain ⟨v, h3, c, h4, _, h5, _⟩ := w.sl.at_ j _ h1
  rw [h2] at h3
  cases h3
  cases h4
  exact h5.some ha
theorem Stp.fresh_ne {a : Addr} {Γ' : Gam} {S' H' : Hp} (s : Stp σ Γ S H Γ' S' H') (w : Wd K e S H σ Γ) (ha : H a = none) : ∀ (j : Nat) (o' : O), Γ'[j]? = some (some (.ow o')) → σ[j]? ≠ some (some (.ref a)) := fun j o' h1 => by
  obtain ⟨o2, h3⟩ := s.sl j o' h1
  exact w.fresh_ne ha j o2 h3
end slots

section rules
variable {X : Cx} {e : Ent} {Γ : Gam} {x a b : Expr} {pos : Pos} {k : Kn} {rest : List Stmt}
theorem PSs.imp {st : List Stmt} {t t' : TS} (h : PSs X st t) (q : ∀ D σ H, t' D σ H → t D σ H) : PSs X st t' := ⟨fun pins s σ H D I z => h.run pins s σ H D I (q D σ H z)⟩
theorem PS.imp {st : Stmt} {t t' : TS} (h : PS X st t) (q : ∀ D σ H, t' D σ H → t D σ H) : PS X st t' := ⟨fun pins s σ H D I z => h.run pins s σ H D I (q D σ H z)⟩
theorem bl_nil (h : k.nx Γ) : BL X e [] Γ k := PSs.imp pss_nil fun D σ H ⟨S, w, n, _⟩ => n S σ H Γ h (Same.refl _) w
theorem bl_cons {st : Stmt} (Ψ : Gam → Prop) (h : ST X e st Γ { k with nx := Ψ }) (hr : ∀ Γ', Ψ Γ' → BL X e rest Γ' k) : BL X e (st :: rest) Γ k := by
  have hr' : PSs X rest (fun D σ H => ∃ Γ', Ψ Γ' ∧ tS X.K e Γ' k D σ H) := ⟨fun pins s σ H D I ⟨Γ', h1, q⟩ => (hr Γ' h1).run pins s σ H D I q⟩
  refine PSs.imp (pss_cons h hr') fun D σ H ⟨S, w, n, bk, ct, rt⟩ => ⟨S, w, fun S' σ' H' Γ' q s w' => ⟨Γ', q, S', w', fun S2 σ2 H2 Γ2 q2 s2 w2 => n S2 σ2 H2 Γ2 q2 (s.trans s2) w2,
    fun S2 σ2 H2 Γ2 q2 s2 w2 => bk S2 σ2 H2 Γ2 q2 (s.trans s2) w2, fun S2 σ2 H2 Γ2 q2 s2 w2 => ct S2 σ2 H2 Γ2 q2 (s.trans s2) w2, fun S2 σ2 H2 v b Γ2 q2 s2 w2 => rt S2 σ2 H2 v b Γ2 q2 (s.trans s2) w2⟩, bk, ct, rt⟩
theorem bl_weak {k' : Kn} {st : List Stmt} (h : BL X e st Γ k') (h1 : ∀ Γ', k'.nx Γ' → k.nx Γ') (h2 : ∀ b Γ', k'.rt b Γ' → k.rt b Γ') (h3 : ∀ Γ', k'.bk Γ' → k.bk Γ') (h4 : ∀ Γ', k'.ct Γ' → k.ct Γ') : BL X e st Γ k :=
  PSs.imp h fun D σ H ⟨S, w, n, bk, ct, rt⟩ => ⟨S, w, fun S2 σ2 H2 Γ2 q => n S2 σ2 H2 Γ2 (h1 _ q), fun S2 σ2 H2 Γ2 q => bk S2 σ2 H2 Γ2 (h3 _ q), fun S2 σ2 H2 Γ2 q => ct S2 σ2 H2 Γ2 (h4 _ q), fun S2 σ2 H2 v b Γ2 q => rt S2 σ2 H2 v b Γ2 (h2 _ _ q)⟩
/-- a slot's own object is looked at as standing for good, from here on -/
theorem bl_frz {st : List Stmt} (i : Nat) {o : O} (hi : Γ[i]? = some (some (.ow o))) (hz : e.own = none ∨ i ≠ 0) (h : BL X e st (Γ.set i (some (.st o.d))) k) : BL X e st Γ k := by
  refine PSs.imp h fun D σ H ⟨S, w, n, bk, ct, rt⟩ => ?_
  obtain ⟨v, h1, p, h2, sp, ow, hp⟩ := w.sl.at_ i _ hi
  subst h2
  have h0 : e.H0 p = none := by
    rcases hp with z | z
    · exact z
    · rcases hz with y | y
      · rw [y] at z; cases z
      · obtain ⟨h3, o', h4⟩ := w.sl.z p z
        exact absurd (w.sl.dj i 0 o o' p hi h4 h1 h3) y
  have wf : Wd X.K e S H σ (Γ.set i none) := w.weak (by rw [List.length_set]) (fun j b q => by
    rcases get_set q with ⟨_, z⟩ | ⟨_, z⟩
    · cases z
    · exact z) (by
    rcases hz with y | y
    · exact .inl y
    · exact .inr (by rw [List.getElem?_set_ne y]))
  obtain ⟨S', s, _, w', r⟩ := own_st wf sp ow h0 fun j o' q1 q2 => by
    rcases get_set q1 with ⟨_, z⟩ | ⟨n1, z⟩
    · cases z
    · exact n1 (w.sl.dj i j o o' p hi z h1 q2)
  have w2 := w'.set (i := i) r hz
  have e1 : σ.set i (some (V.ref p)) = σ := by
    apply List.ext_getElem?
    intro j
    by_cases q : i = j
    · subst q
      rw [set_at (List.getElem?_eq_some_iff.mp h1).1, h1]
    · rw [List.getElem?_set_ne q]
  rw [e1, List.set_set] at w2
  exact ⟨S', w2, fun S2 σ2 H2 Γ2 q2 s2 w2 => n S2 σ2 H2 Γ2 q2 (s.trans s2) w2, fun S2 σ2 H2 Γ2 q2 s2 w2 => bk S2 σ2 H2 Γ2 q2 (s.trans s2) w2, fun S2 σ2 H2 Γ2 q2 s2 w2 => ct S2 σ2 H2 Γ2 q2 (s.trans s2) w2, fun S2 σ2 H2 v b Γ2 q2 s2 w2 => rt S2 σ2 H2 v b Γ2 q2 (s.trans s2) w2⟩
/-! assignments to a name -/
theorem bl_set {n : Str} {p : Pos} {Φ : D → Gam → Prop} (i : Nat) (he : EV X e x Γ Φ) (hr : ∀ d Γ', Φ d Γ' → BL X e rest (Γ'.set i (some (.st d))) k) (hN : X.N.Nodup := by assumption) (hi : X.N[i]? = some n := by rfl) (hx : Loc X.env.scope n := by first | exact .inl rfl | exact .inr rfl)
    (hz : e.own = none ∨ i ≠ 0 := by first | exact .inl rfl | exact .inr (by decide)) (hs : swapsWith x (some (.Name n p)) pos.line X.env = pure false := by rfl) (hf : X.fn n = true ∨ X.env.scope.names.lookup n = some .local := by first | exact .inl rfl | exact .inr rfl) :
    BL X e (.Assign [.Name n p] x pos :: rest) Γ k := by
  refine bl_cons (fun Γ2 => ∃ d Γ', Φ d Γ' ∧ Γ2 = Γ'.set i (some (.st d))) (PS.imp (ps_set hN hi hx he hs hf) fun D σ H ⟨S, w, nx, _⟩ => ⟨S, w, fun S' H' v d Γ' hd s w' r => ?_⟩) fun Γ2 ⟨d, Γ', hd, q⟩ => by subst q; exact hr d Γ' hd
  exact nx S' _ H' _ ⟨d, Γ', hd, rfl⟩ s.ss (w'.set r hz)
theorem bl_setO {n : Str} {p : Pos} {Φ : O → Gam → Prop} (i : Nat) (he : EO X e x Γ Φ) (hr : ∀ o Γ', Φ o Γ' → BL X e rest (Γ'.set i (some (.ow o))) k) (hN : X.N.Nodup := by assumption) (hi : X.N[i]? = some n := by rfl) (hx : Loc X.env.scope n := by first | exact .inl rfl | exact .inr rfl)
    (hz : e.own = none ∨ i ≠ 0 := by first | exact .inl rfl | exact .inr (by decide)) (hs : swapsWith x (some (.Name n p)) pos.line X.env = pure false := by rfl) (hf : X.fn n = true ∨ X.env.scope.names.lookup n = some .local := by first | exact .inl rfl | exact .inr rfl) :
    BL X e (.Assign [.Name n p] x pos :: rest) Γ k := by
  refine bl_cons (fun Γ2 => ∃ o Γ', Φ o Γ' ∧ Γ2 = Γ'.set i (some (.ow o))) (PS.imp (ps_set hN hi hx he hs hf) fun D σ H ⟨S, w, nx, _⟩ => ⟨S, w, fun S' H' a o Γ' ho s w' sa ow ha => ?_⟩) fun Γ2 ⟨d, Γ', hd, q⟩ => by subst q; exact hr d Γ' hd
  exact nx S' _ H' _ ⟨o, Γ', ho, rfl⟩ s.ss (w'.setO sa ow (w.nx.fresh ha) (s.fresh_ne w ha) hz)
/-- by a pure expression -/
theorem bl_let {n : Str} {p : Pos} {d : D} (i : Nat) (he : PV X e x Γ d) (hr : BL X e rest (Γ.set i (some (.st d))) k) (hN : X.N.Nodup := by assumption) (hi : X.N[i]? = some n := by rfl) (hx : Loc X.env.scope n := by first | exact .inl rfl | exact .inr rfl)
    (hz : e.own = none ∨ i ≠ 0 := by first | exact .inl rfl | exact .inr (by decide)) (hs : swapsWith x (some (.Name n p)) pos.line X.env = pure false := by rfl) (hf : X.fn n = true ∨ X.env.scope.names.lookup n = some .local := by first | exact .inl rfl | exact .inr rfl) :
    BL X e (.Assign [.Name n p] x pos :: rest) Γ k := bl_set i (pv_ev he) (fun d' Γ' ⟨h1, h2⟩ => by subst h1 h2; exact hr) hN hi hx hz hs hf
theorem bl_letO {n : Str} {p : Pos} {o : O} (i : Nat) (he : EO X e x Γ (Is o Γ)) (hr : BL X e rest (Γ.set i (some (.ow o))) k) (hN : X.N.Nodup := by assumption) (hi : X.N[i]? = some n := by rfl) (hx : Loc X.env.scope n := by first | exact .inl rfl | exact .inr rfl)
    (hz : e.own = none ∨ i ≠ 0 := by first | exact .inl rfl | exact .inr (by decide)) (hs : swapsWith x (some (.Name n p)) pos.line X.env = pure false := by rfl) (hf : X.fn n = true ∨ X.env.scope.names.lookup n = some .local := by first | exact .inl rfl | exact .inr rfl) :
    BL X e (.Assign [.Name n p] x pos :: rest) Γ k := bl_setO i he (fun d' Γ' ⟨h1, h2⟩ => by subst h1 h2; exact hr) hN hi hx hz hs hf
/-- n += m -/
theorem bl_aug {n : Str} {p : Pos} {op : Operator} {f : Int → Int → Int} {u v : Int} (i : Nat) (ho : PIp X op (ipI f)) (h1 : Γ[i]? = some (some (.st (.int u)))) (he : PV X e x Γ (.int v)) (hr : BL X e rest (Γ.set i (some (.st (.int (f u v))))) k) (hN : X.N.Nodup := by assumption) (hi : X.N[i]? = some n := by rfl)
    (hx : Loc X.env.scope n := by first | exact .inl rfl | exact .inr rfl) (hz : e.own = none ∨ i ≠ 0 := by first | exact .inl rfl | exact .inr (by decide)) (hf : X.fn n = true ∨ X.env.scope.names.lookup n = some .local := by first | exact .inl rfl | exact .inr rfl) :
    BL X e (.AugAssign (.Name n p) op x pos :: rest) Γ k := by
  refine bl_cons (fun Γ2 => Γ2 = Γ.set i (some (.st (.int (f u v))))) (PS.imp (ps_aug hN hi hx he ho hf) fun D σ H ⟨S, w, nx, _⟩ => ?_) fun Γ2 q => by subst q; exact hr
  obtain ⟨y, h2, h3⟩ := w.sl.at_ i _ h1
  cases h3
  exact ⟨_, h2, S, w, fun S' H' z s w' r => by
    cases r
    exact ⟨u, v, rfl, rfl, nx S' _ H' _ rfl s.ss (w'.set (.int _) hz)⟩⟩
/-! expressions dropped, return -/
theorem bl_do {Φ : D → Gam → Prop} (he : EV X e x Γ Φ) (hr : ∀ d Γ', Φ d Γ' → BL X e rest Γ' k) (hs : swapsWith x none pos.line X.env = pure false := by rfl) : BL X e (.Expr x pos :: rest) Γ k :=
  bl_cons (fun Γ2 => ∃ d, Φ d Γ2) (PS.imp (ps_expr he hs) fun D σ H ⟨S, w, nx, _⟩ => ⟨S, w, fun S' H' v d Γ' hd s w' r => nx S' σ H' Γ' ⟨d, hd⟩ s.ss w'⟩) fun Γ2 ⟨d, hd⟩ => hr d Γ2 hd
theorem bl_ret {Φ : D → Gam → Prop} (he : EV X e x Γ Φ) (hr : ∀ d Γ', Φ d Γ' → k.rt (.st d) Γ') : BL X e (.Return (some x) pos :: rest) Γ k :=
  bl_cons (fun _ => False) (PS.imp (ps_ret he) fun D σ H ⟨S, w, nx, _, _, rt⟩ => ⟨S, w, fun S' H' v d Γ' hd s w' r => rt S' σ H' v (.st d) Γ' (hr d Γ' hd) s.ss w' r⟩) fun _ q => q.elim
theorem bl_retP {d : D} (he : PV X e x Γ d) (hr : k.rt (.st d) Γ) : BL X e (.Return (some x) pos :: rest) Γ k := bl_ret (pv_ev he) fun d' Γ' ⟨h1, h2⟩ => by subst h1 h2; exact hr
theorem bl_retO {Φ : O → Gam → Prop} (he : EO X e x Γ Φ) (hr : ∀ o Γ', Φ o Γ' → k.rt (.ow o) Γ') : BL X e (.Return (some x) pos :: rest) Γ k :=
  bl_cons (fun _ => False) (PS.imp (ps_ret he) fun D σ H ⟨S, w, nx, _, _, rt⟩ => ⟨S, w, fun S' H' a o Γ' ho s w' sa ow ha => rt S' σ H' (.ref a) (.ow o) Γ' (hr o Γ' ho) s.ss w' ⟨a, rfl, sa, ow, w.nx.fresh ha⟩⟩) fun _ q => q.elim
/-- return x, x one's own -/
theorem bl_retV {n : Str} {p : Pos} {o : O} (i : Nat) (hi : Γ[i]? = some (some (.ow o))) (hr : k.rt (.ow o) Γ) (hz : e.own = none ∨ i ≠ 0 := by first | exact .inl rfl | exact .inr (by decide)) (hN : X.N[i]? = some n := by rfl) (hv : Vis X.env.scope n := by first | exact Or.inl rfl | exact Or.inr (Or.inl rfl) | exact Or.inr (Or.inr rfl))
    (h1 : (n == ("__debug__" : Str)) = false := by decide) (h2 : (n == ("__classdict__" : Str)) = false := by decide) : BL X e (.Return (some (.Name n p)) pos :: rest) Γ k := by
  refine bl_cons (fun _ => False) (PS.imp (ps_ret (pe_var hN hv h1 h2)) fun D σ H ⟨S, w, nx, _, _, rt⟩ => ?_) fun _ q => q.elim
  obtain ⟨v, h3, q, h4, sp, ow, hp⟩ := w.sl.at_ i _ hi
  subst h4
  refine ⟨_, h3, rt S σ H _ (.ow o) Γ hr (Same.refl _) w ⟨q, rfl, sp, ow, ?_⟩⟩
  rcases hp with z | z
  · exact z
  · rcases hz with y | y
    · rw [y] at z; cases z
    · obtain ⟨h5, o', h6⟩ := w.sl.z q z
      exact absurd (w.sl.dj i 0 o o' q hi h6 h3 h5) y
theorem bl_pass (hr : BL X e rest Γ k) : BL X e (.Pass pos :: rest) Γ k := bl_cons (fun Γ2 => Γ2 = Γ) (PS.imp ps_pass fun D σ H ⟨S, w, nx, _⟩ => nx S σ H Γ rfl (Same.refl _) w) fun Γ2 q => by subst q; exact hr
/-! if -/
theorem bl_if {c : Expr} {t f : List Stmt} {Φ : Bool → Gam → Prop} (Ψ : Gam → Prop) (hc : TV X e c Γ Φ) (ht : ∀ Γ', Φ true Γ' → BL X e t Γ' { k with nx := Ψ }) (hf : ∀ Γ', Φ false Γ' → BL X e f Γ' { k with nx := Ψ }) (hr : ∀ Γ', Ψ Γ' → BL X e rest Γ' k) : BL X e (.If c t f pos :: rest) Γ k := by
  have ht' : PSs X t (fun D σ H => ∃ Γ', Φ true Γ' ∧ tS X.K e Γ' { k with nx := Ψ } D σ H) := ⟨fun pins s σ H D I ⟨Γ', h1, q⟩ => (ht Γ' h1).run pins s σ H D I q⟩
  have hf' : PSs X f (fun D σ H => ∃ Γ', Φ false Γ' ∧ tS X.K e Γ' { k with nx := Ψ } D σ H) := ⟨fun pins s σ H D I ⟨Γ', h1, q⟩ => (hf Γ' h1).run pins s σ H D I q⟩
  refine bl_cons Ψ (PS.imp (ps_if hc ht' hf') fun D σ H ⟨S, w, nx, bk, ct, rt⟩ => ⟨S, w, fun S' H' b Γ' hb s w' => ?_⟩) hr
  have fin : tS X.K e Γ' { k with nx := Ψ } D σ H' := ⟨S', w', fun S2 σ2 H2 Γ2 q2 s2 w2 => nx S2 σ2 H2 Γ2 q2 (s.ss.trans s2) w2, fun S2 σ2 H2 Γ2 q2 s2 w2 => bk S2 σ2 H2 Γ2 q2 (s.ss.trans s2) w2, fun S2 σ2 H2 Γ2 q2 s2 w2 => ct S2 σ2 H2 Γ2 q2 (s.ss.trans s2) w2, fun S2 σ2 H2 v b Γ2 q2 s2 w2 => rt S2 σ2 H2 v b Γ2 q2 (s.ss.trans s2) w2⟩
  cases b with
  | true => exact iteT ⟨Γ', hb, fin⟩
  | false => exact iteF ⟨Γ', hb, fin⟩
/-- by a pure test -/
theorem bl_ifP {c : Expr} {t f : List Stmt} {q : Bool} (Ψ : Gam → Prop) (hc : PX X e c Γ q) (ht : q = true → BL X e t Γ { k with nx := Ψ }) (hf : q = false → BL X e f Γ { k with nx := Ψ }) (hr : ∀ Γ', Ψ Γ' → BL X e rest Γ' k) : BL X e (.If c t f pos :: rest) Γ k :=
  bl_if Ψ (px_tv hc) (fun Γ' ⟨h1, h2⟩ => by subst h2; exact ht h1.symm) (fun Γ' ⟨h1, h2⟩ => by subst h2; exact hf h1.symm) hr
/-- if c: .. that leaves -/
theorem bl_ifR {c : Expr} {t : List Stmt} {q : Bool} (hc : PX X e c Γ q) (ht : q = true → BL X e t Γ { k with nx := fun _ => False }) (hr : q = false → BL X e rest Γ k) : BL X e (.If c t [] pos :: rest) Γ k :=
  bl_ifP (fun Γ' => Γ' = Γ ∧ q = false) hc (fun h => bl_weak (ht h) (fun _ z => z.elim) (fun _ _ z => z) (fun _ z => z) (fun _ z => z)) (fun h => bl_nil ⟨rfl, h⟩) fun Γ' ⟨h1, h2⟩ => by subst h1; exact hr h2
theorem bl_ifRT {c : Expr} {t : List Stmt} {Φ : Bool → Gam → Prop} (hc : TV X e c Γ Φ) (ht : ∀ Γ', Φ true Γ' → BL X e t Γ' { k with nx := fun _ => False }) (hr : ∀ Γ', Φ false Γ' → BL X e rest Γ' k) : BL X e (.If c t [] pos :: rest) Γ k :=
  bl_if (fun Γ' => Φ false Γ') hc (fun Γ' h => bl_weak (ht Γ' h) (fun _ z => z.elim) (fun _ _ z => z) (fun _ z => z) (fun _ z => z)) (fun Γ' h => bl_nil h) hr
/-! lists and dicts of one's own -/
theorem bl_append {n : Str} {p q r : Pos} {Φ : D → Gam → Prop} (i : Nat) {l0 : List D} (h0 : Γ[i]? = some (some (.ow (.lst l0)))) (he : EV X e x Γ Φ) (hr : ∀ d Γ', Φ d Γ' → ∃ l, Γ'[i]? = some (some (.ow (.lst l))) ∧ l.length < 100000 ∧ BL X e rest (Γ'.set i (some (.ow (.lst (l ++ [d]))))) k)
    (hN : X.N[i]? = some n := by rfl) (hv : Vis X.env.scope n := by first | exact Or.inl rfl | exact Or.inr (Or.inl rfl) | exact Or.inr (Or.inr rfl)) (h1 : (n == ("__debug__" : Str)) = false := by decide) (h2 : (n == ("__classdict__" : Str)) = false := by decide)
    (hb : attributeBase (.Name n p) "append" X.env (eval (.Name n p) X.env) = eval (.Name n p) X.env := by rfl) (hl : (q.endLine == r.line) = true := by rfl) (hs : swapsWith (.Call (.Attribute (.Name n p) "append" q) [x] [] r) none pos.line X.env = pure false := by rfl)
    (hst : starEach [x] X.env = (false, eval x X.env) :: starEach [] X.env := by rfl) (hbm : ∀ {t}, PA X [x] t → PE X (.Call (.Attribute (.Name n p) "append" q) [x] [] r) (tBM X.K "list" rAppend (tVar i) t) := by exact fun h => pe_bm PySem.F.plainAttrs_list PySem.F.slot_list_append PySem.F.type_list_append mt_append (pv _) h) :
    BL X e (.Expr (.Call (.Attribute (.Name n p) "append" q) [x] [] r) pos :: rest) Γ k := by
  refine bl_cons (fun Γ2 => ∃ d Γ' l, Φ d Γ' ∧ Γ'[i]? = some (some (.ow (.lst l))) ∧ Γ2 = Γ'.set i (some (.ow (.lst (l ++ [d]))))) (PS.imp (ps_expr (hbm (pa_cons he pa_nil hst)) hs) fun D σ H ⟨S, w, nx, _⟩ => ?_) ?_
  · obtain ⟨v, h3, c, h4, sc, ow, hc⟩ := w.sl.at_ i _ h0
    subst h4
    obtain ⟨xs, h5, h6⟩ := ow
    refine ⟨_, h3, .inl ⟨rfl, xs, SqL.of h5⟩, S, w, fun S' H' y d Γ' hd s w' ry => ?_⟩
    obtain ⟨l, hl, hz, _⟩ := hr d Γ' hd
    obtain ⟨v', g1, c', g2, gs, gw, gc⟩ := w'.sl.at_ i _ hl
    rw [h3] at g1
    cases g1
    cases g2
    obtain ⟨ys, g3, g4⟩ := gw
    refine ⟨c, ys, y, rfl, rfl, g3, ?_, nx S' σ _ _ ⟨d, Γ', l, hd, hl, rfl⟩ s.ss (w'.put hl h3 ⟨ys ++ [y], upd_same, g4.append (.cons ry .nil)⟩)⟩
    rw [g4.length]
    exact Nat.lt_of_lt_of_le hz (by decide)
  · rintro Γ2 ⟨d, Γ', l, hd, hl, rfl⟩
    obtain ⟨l', hl', _, z⟩ := hr d Γ' hd
    rw [hl] at hl'
    cases hl'
    exact z
end rules
end Kf
end
section
set_option maxRecDepth 100000
set_option maxHeartbeats 4000000
/-! KfD: what is walked, targets, loops, comprehensions. -/
namespace Kf
open PySem L2

/-! ### what is walked -/
structure ItOk (K : Fg) (e : Ent) (J : It) (items : List D) (S1 : Hp) : Prop where
  go : ∀ i S H, i < items.length → Same S1 S → Same S H → J.go i H
  yld : ∀ i d S H v H', items[i]? = some d → Same S1 S → Same S H → J.yld i H v H' → ∃ S', Pur S H S' H' ∧ (∀ σ Γ, Wd K e S H σ Γ → Wd K e S' H' σ Γ) ∧ Rp K S' v d
  stop : ∀ i S H, items.length ≤ i → Same S1 S → Same S H → J.stop i H
def tI (K : Fg) (e : Ent) (Γ : Gam) (Φ : List D → Gam → Prop) : TI := fun σ H R => ∃ S, Wd K e S H σ Γ ∧
  ∀ S' H' J items Γ', Φ items Γ' → Stp σ Γ S H Γ' S' H' → Wd K e S' H' σ Γ' → ItOk K e J items S' → R J H'
abbrev WV (X : Cx) (e : Ent) (tg it : Expr) (Γ : Gam) (Φ : List D → Gam → Prop) : Prop := PI X tg it (tI X.K e Γ Φ)
def tIP (K : Fg) (e : Ent) (Γ : Gam) (ds : List D) : TI := fun σ H R => ∃ S, Wd K e S H σ Γ ∧
  ∀ S' H' J, Pur S H S' H' → Wd K e S' H' σ Γ → ItOk K e J ds S' → R J H'
abbrev WP (X : Cx) (e : Ent) (tg it : Expr) (Γ : Gam) (ds : List D) : Prop := PI X tg it (tIP X.K e Γ ds)
/-- lo, lo + 1, .., n of them -/
def rng (lo : Int) (n : Nat) : List D := (List.range n).map fun (i : Nat) => D.int (lo + (i : Int))
theorem rng_len (lo : Int) (n : Nat) : (rng lo n).length = n := by simp [rng]
theorem rng_at {lo : Int} {n i : Nat} {d : D} (h : (rng lo n)[i]? = some d) : i < n ∧ d = .int (lo + (i : Int)) := by
  unfold rng at h
  rw [List.getElem?_map] at h
  cases q : (List.range n)[i]? with
  | none => rw [q] at h; cases h
  | some j =>
    rw [q] at h
    have z := List.getElem?_eq_some_iff.mp q
    obtain ⟨hl, hj⟩ := z
    rw [List.getElem_range] at hj
    rw [List.length_range] at hl
    subst hj
    exact ⟨hl, (Option.some.inj h).symm⟩
section walks
variable {X : Cx} {e : Ent} {Γ : Gam} {x tg : Expr} {pos p : Pos}
theorem PI.imp {t t' : TI} (h : PI X tg x t) (k : ∀ σ H R, t' σ H R → t σ H R) : PI X tg x t' := ⟨fun pins s σ H R I q => h.run pins s σ H R I (k σ H R q)⟩
theorem wv {ds : List D} (h : WP X e tg x Γ ds) : WV X e tg x Γ (Is ds Γ) := PI.imp h fun σ H R ⟨S, w, q⟩ => ⟨S, w, fun S1 H1 J s1 w1 it => q S1 H1 J ds Γ ⟨rfl, rfl⟩ s1.stp w1 it⟩
theorem itok_list {K : Fg} {a : Addr} {xs : List V} {ds : List D} {S1 : Hp} (h : SqL K S1 a xs) (r : RpL K S1 xs ds) : ItOk K e (Itl K a) ds S1 where
  go := fun i S H hi s1 s2 => by
    obtain ⟨v, hv, _⟩ := r.get (List.getElem?_eq_getElem hi)
    exact ⟨xs, v, s2.seq (s1.seq h), hv⟩
  yld := fun i d S H v H' hi s1 s2 y => by
    obtain ⟨rfl, hy⟩ := y
    obtain ⟨v', hv, rv⟩ := r.get hi
    rw [hy xs (s2.seq (s1.seq h))] at hv
    cases hv
    exact ⟨S, Pur.refl _ _, fun _ _ w => w, rv.mono s1⟩
  stop := fun i S H hi s1 s2 => ⟨xs, s2.seq (s1.seq h), by rw [r.length]; exact hi⟩
theorem itok_tup {K : Fg} {a : Addr} {xs : List V} {ds : List D} {S1 : Hp} (h : SqT K S1 a xs) (r : RpL K S1 xs ds) : ItOk K e (Itt K a) ds S1 where
  go := fun i S H hi s1 s2 => by
    obtain ⟨v, hv, _⟩ := r.get (List.getElem?_eq_getElem hi)
    exact ⟨xs, v, same_sqT s2 (same_sqT s1 h), hv⟩
  yld := fun i d S H v H' hi s1 s2 y => by
    obtain ⟨rfl, hy⟩ := y
    obtain ⟨v', hv, rv⟩ := r.get hi
    rw [hy xs (same_sqT s2 (same_sqT s1 h))] at hv
    cases hv
    exact ⟨S, Pur.refl _ _, fun _ _ w => w, rv.mono s1⟩
  stop := fun i S H hi s1 s2 => ⟨xs, same_sqT s2 (same_sqT s1 h), by rw [r.length]; exact hi⟩
theorem itok_rng {K : Fg} {lo : Int} {n : Nat} {S1 : Hp} : ItOk K e (Itr lo n) (rng lo n) S1 where
  go := fun i S H hi _ _ => by rw [rng_len] at hi; exact hi
  yld := fun i d S H v H' hi s1 s2 y => by
    obtain ⟨rfl, rfl⟩ := y
    obtain ⟨_, rfl⟩ := rng_at hi
    exact ⟨S, Pur.refl _ _, fun _ _ w => w, .int _⟩
  stop := fun i S H hi _ _ => by rw [rng_len] at hi; exact hi
theorem wp_list {ds : List D} (h : PV X e x Γ (.lst ds)) : WP X e tg x Γ ds :=
  PI.imp (pi_list h) fun σ H R ⟨S, w, q⟩ => ⟨S, w, fun S1 H1 v s1 w1 r1 => by
    cases r1 with
    | lst h1 h2 => exact ⟨_, rfl, ⟨_, rdq (same_rd w1.nx.sh h1)⟩, q S1 H1 _ s1 w1 (itok_list (rdq h1) h2)⟩⟩
theorem wp_tup {ds : List D} (h : PV X e x Γ (.tup ds)) : WP X e tg x Γ ds :=
  PI.imp (pi_tup h) fun σ H R ⟨S, w, q⟩ => ⟨S, w, fun S1 H1 v s1 w1 r1 => by
    cases r1 with
    | tup h1 h2 => exact ⟨_, rfl, ⟨_, same_sqT w1.nx.sh h1⟩, q S1 H1 _ s1 w1 (itok_tup h1 h2)⟩⟩
theorem wv_listE {Φ : D → Gam → Prop} {Ψ : List D → Gam → Prop} (h : EV X e x Γ Φ) (k : ∀ d Γ', Φ d Γ' → ∃ ds, d = .lst ds ∧ Ψ ds Γ') : WV X e tg x Γ Ψ :=
  PI.imp (pi_list h) fun σ H R ⟨S, w, q⟩ => ⟨S, w, fun S1 H1 v d Γ' hd s1 w1 r1 => by
    obtain ⟨ds, rfl, hds⟩ := k d Γ' hd
    cases r1 with
    | lst h1 h2 => exact ⟨_, rfl, ⟨_, rdq (same_rd w1.nx.sh h1)⟩, q S1 H1 _ ds Γ' hds s1 w1 (itok_list (rdq h1) h2)⟩⟩
/-- range(n) -/
theorem wp_rng {n : Nat} (h : PV X e x Γ (.int (n : Int))) (hn : n < 2 ^ 62) (hm : X.mg "range" = none) (hg : Gl X "range" := by rfl) (hs : starEach [x] X.env = [(false, eval x X.env)] := by rfl)
    (hst : starEach [x] X.env = (false, eval x X.env) :: starEach [] X.env := by rfl) : WP X e tg (.Call (.Name "range" p) [x] [] pos) Γ (rng 0 n) :=
  PI.imp (pi_range1 hg hm (pvs_cons h pvs_nil hst) hs) fun σ H R ⟨S, w, q⟩ => ⟨S, w, fun S1 H1 vs s1 w1 r1 => by
    cases r1 with
    | cons r2 r3 =>
      cases r3
      cases r2
      exact ⟨_, rfl, by omega, by omega, q S1 H1 _ s1 w1 (by show ItOk X.K e (Itr 0 ((n : Int)).toNat) (rng 0 n) S1; rw [Int.toNat_natCast]; exact itok_rng)⟩⟩
/-- range(a, b) -/
theorem wp_rng2 {a b : Expr} {lo hi : Int} (ha : PV X e a Γ (.int lo)) (hb : PV X e b Γ (.int hi)) (h1 : -(2 ^ 62) ≤ lo ∧ lo < 2 ^ 62 ∧ -(2 ^ 62) ≤ hi ∧ hi < 2 ^ 62) (hm : X.mg "range" = none) (hg : Gl X "range" := by rfl)
    (hs : starEach [a, b] X.env = [(false, eval a X.env), (false, eval b X.env)] := by rfl) (hs2 : starEach [b] X.env = [(false, eval b X.env)] := by rfl)
    (hst : starEach [a, b] X.env = (false, eval a X.env) :: starEach [b] X.env := by rfl) (hst2 : starEach [b] X.env = (false, eval b X.env) :: starEach [] X.env := by rfl) : WP X e tg (.Call (.Name "range" p) [a, b] [] pos) Γ (rng lo (hi - lo).toNat) :=
  PI.imp (pi_range2 hg hm (pvs_cons ha (pvs_cons hb pvs_nil hst2) hst) hs hs2) fun σ H R ⟨S, w, q⟩ => ⟨S, w, fun S1 H1 vs s1 w1 r1 => by
    cases r1 with
    | cons r2 r3 =>
      cases r3 with
      | cons r4 r5 =>
        cases r5
        cases r2
        cases r4
        exact ⟨_, _, rfl, h1, q S1 H1 _ s1 w1 itok_rng⟩⟩
/-- the signs of a text -/
def signs (z : Str) : List D := z.cps.toList.map fun c => .str ⟨#[c]⟩
theorem wp_str {z : Str} (h : PV X e x Γ (.str z)) : WP X e tg x Γ (signs z) :=
  PI.imp (pi_str h) fun σ H R ⟨S, w, q⟩ => ⟨S, w, fun S1 H1 v s1 w1 r1 => by
    cases r1
    refine ⟨z, rfl, q S1 H1 _ s1 w1 ⟨fun i S H hi _ _ => ?_, fun i d S H v H' hi s1 s2 y => ?_, fun i S H hi _ _ => ?_⟩⟩
    · show i < z.cps.size
      simpa [signs] using hi
    · obtain ⟨rfl, c, hc, rfl⟩ := y
      unfold signs at hi
      rw [List.getElem?_map, Array.getElem?_toList, hc] at hi
      cases hi
      exact ⟨S, Pur.refl _ _, fun _ _ w => w, .str _⟩
    · show z.cps.size ≤ i
      simpa [signs] using hi⟩
/-- i, x of enumerate -/
def enumD (ds : List D) : List D := ds.zipIdx.map fun q => .tup [.int (q.2 : Int), q.1]
theorem enum_at {ds : List D} {i : Nat} {d : D} (h : (enumD ds)[i]? = some d) : ∃ d', ds[i]? = some d' ∧ d = .tup [.int (i : Int), d'] := by
  unfold enumD at h
  rw [List.getElem?_map, List.getElem?_zipIdx] at h
  cases q : ds[i]? with
  | none => rw [q] at h; cases h
  | some d' =>
    rw [q] at h
    refine ⟨d', rfl, ?_⟩
    have z := Option.some.inj h
    rw [← z]
    simp
theorem enum_len (ds : List D) : (enumD ds).length = ds.length := by simp [enumD]
theorem new_tup {K : Fg} {S H : Hp} {T : Addr} {xs : List V} {ds : List D} (hT : H T = none) (s : Same S H) (r : RpL K S xs ds) :
    ∃ S', Pur S H S' (upd H T (.tup xs)) ∧ (∀ σ Γ, Wd K e S H σ Γ → Wd K e S' (upd H T (.tup xs)) σ Γ) ∧ Rp K S' (.ref T) (.tup ds) :=
  ⟨upd S T (.tup xs), pur_new (s.free hT) hT, fun σ Γ w => (w.new hT).1, .tup (SqT.of upd_same) (r.mono (pur_new (s.free hT) hT).ss)⟩
theorem wp_enum {es : List Expr} {c : Nat} {tp : Pos} {ds : List D} (h : PV X e x Γ (.lst ds)) (hm : X.mg "enumerate" = none) (hg : Gl X "enumerate" := by rfl) (hs : starEach [x] X.env = [(false, eval x X.env)] := by rfl)
    (hst : starEach [x] X.env = (false, eval x X.env) :: starEach [] X.env := by rfl) : WP X e (.Tuple es c tp) (.Call (.Name "enumerate" p) [x] [] pos) Γ (enumD ds) :=
  PI.imp (pi_enum hg hm (pvs_cons h pvs_nil hst) hs) fun σ H R ⟨S, w, q⟩ => ⟨S, w, fun S1 H1 vs s1 w1 r1 => by
    cases r1 with
    | cons r2 r3 =>
      cases r3
      cases r2 with
      | lst h1 h2 =>
        refine ⟨_, _, rfl, rdq (same_rd w1.nx.sh h1), q S1 H1 _ s1 w1 ⟨fun i S H hi s1 s2 => ?_, fun i d S H v H' hi s1 s2 y => ?_, fun i S H hi s1 s2 => ?_⟩⟩
        · rw [enum_len] at hi
          obtain ⟨v, hv, _⟩ := h2.get (List.getElem?_eq_getElem hi)
          exact ⟨_, v, rdq (same_rd s2 (same_rd s1 h1)), hv⟩
        · obtain ⟨T, y0, rfl, hT, rfl, hy⟩ := y
          obtain ⟨d', hd, rfl⟩ := enum_at hi
          obtain ⟨v', hv, rv⟩ := h2.get hd
          rw [hy _ (rdq (same_rd s2 (same_rd s1 h1)))] at hv
          cases hv
          exact new_tup hT s2 (.cons (.int _) (.cons (rv.mono s1) .nil))
        · rw [enum_len] at hi
          exact ⟨_, rdq (same_rd s2 (same_rd s1 h1)), by rw [h2.length]; exact hi⟩⟩
end walks

/-! ### targets -/
def tG (K : Fg) (e : Ent) (ix : List Nat) (bind : D → Gam → Gam → Prop) : TG := fun v σ H Q => ∃ S Γ d Γ', Wd K e S H σ Γ ∧ Rp K S v d ∧ bind d Γ Γ' ∧
  ∀ σ', (∀ j, j ∉ ix → σ'[j]? = σ[j]?) → σ'.length = σ.length → Wd K e S H σ' Γ' → Q σ' H
abbrev GV (X : Cx) (e : Ent) (tg : Expr) (ix : List Nat) (bind : D → Gam → Gam → Prop) : Prop := PG X tg (tG X.K e ix bind)
def bName (i : Nat) : D → Gam → Gam → Prop := fun d Γ Γ' => Γ' = Γ.set i (some (.st d))
def bTwo (b1 b2 : D → Gam → Gam → Prop) : D → Gam → Gam → Prop := fun d Γ Γ' => ∃ d1 d2 Γ1, d = .tup [d1, d2] ∧ b1 d1 Γ Γ1 ∧ b2 d2 Γ1 Γ'
def bThree (b1 b2 b3 : D → Gam → Gam → Prop) : D → Gam → Gam → Prop := fun d Γ Γ' => ∃ d1 d2 d3 Γ1 Γ2, d = .tup [d1, d2, d3] ∧ b1 d1 Γ Γ1 ∧ b2 d2 Γ1 Γ2 ∧ b3 d3 Γ2 Γ'
section targets
variable {X : Cx} {e : Ent} {pos : Pos}
theorem PG.imp {x : Expr} {t t' : TG} (h : PG X x t) (k : ∀ v σ H Q, t' v σ H Q → t v σ H Q) : PG X x t' := ⟨fun pins s σ H v u Q I r q => h.run pins s σ H v u Q I r (k v σ H Q q)⟩
theorem gv_name {n : Str} (i : Nat) (hN : X.N.Nodup) (hi : X.N[i]? = some n := by rfl) (hx : Loc X.env.scope n := by first | exact .inl rfl | exact .inr rfl) (hz : e.own = none ∨ i ≠ 0 := by first | exact .inl rfl | exact .inr (by decide))
    (hf : X.fn n = true ∨ X.env.scope.names.lookup n = some .local := by first | exact .inl rfl | exact .inr rfl) : GV X e (.Name n pos) [i] (bName i) :=
  PG.imp (pg_name hN hi hx hf) fun v σ H Q ⟨S, Γ, d, Γ', w, r, hb, q⟩ => by
    subst hb
    exact q _ (fun j hj => by rw [List.getElem?_set_ne (fun z => hj (by rw [z]; exact List.mem_singleton.mpr rfl))]) (by rw [List.length_set]) (w.set r hz)
theorem gv_two {t1 t2 : Expr} {c : Nat} {ix1 ix2 : List Nat} {b1 b2 : D → Gam → Gam → Prop} (hc : X.calm = true) (h1 : GV X e t1 ix1 b1) (h2 : GV X e t2 ix2 b2)
    (ht : ∀ {u1 u2 : TG}, PG X t1 u1 → PG X t2 u2 → PG X (.Tuple [t1, t2] c pos) (gTup X.K 2 (gCons u1 (gCons u2 gNil))) := by exact fun a b => pg_tup rfl (pgs_cons a (pgs_cons b pgs_nil))) : GV X e (.Tuple [t1, t2] c pos) (ix1 ++ ix2) (bTwo b1 b2) :=
  PG.imp (ht h1 h2) fun v σ H Q ⟨S, Γ, d, Γ', w, r, ⟨d1, d2, Γ1, hd, hb1, hb2⟩, q⟩ => by
    subst hd
    cases r with
    | tup g1 g2 =>
      cases g2 with
      | cons r1 g2 =>
        cases g2 with
        | cons r2 g2 =>
          cases g2
          refine ⟨_, _, rfl, same_sqT w.nx.sh g1, rfl, _, _, rfl, S, Γ, d1, Γ1, w, r1, hb1, fun σ1 k1 l1 w1 => ⟨_, _, rfl, S, Γ1, d2, Γ', w1, r2, hb2, fun σ2 k2 l2 w2 => ⟨rfl, ?_⟩⟩⟩
          exact q σ2 (fun j hj => (k2 j fun z => hj (List.mem_append_right _ z)).trans (k1 j fun z => hj (List.mem_append_left _ z))) (l2.trans l1) w2
theorem gv_three {t1 t2 t3 : Expr} {c : Nat} {ix1 ix2 ix3 : List Nat} {b1 b2 b3 : D → Gam → Gam → Prop} (hc : X.calm = true) (h1 : GV X e t1 ix1 b1) (h2 : GV X e t2 ix2 b2) (h3 : GV X e t3 ix3 b3)
    (ht : ∀ {u1 u2 u3 : TG}, PG X t1 u1 → PG X t2 u2 → PG X t3 u3 → PG X (.Tuple [t1, t2, t3] c pos) (gTup X.K 3 (gCons u1 (gCons u2 (gCons u3 gNil)))) := by exact fun a b d => pg_tup rfl (pgs_cons a (pgs_cons b (pgs_cons d pgs_nil)))) : GV X e (.Tuple [t1, t2, t3] c pos) (ix1 ++ (ix2 ++ ix3)) (bThree b1 b2 b3) :=
  PG.imp (ht h1 h2 h3) fun v σ H Q ⟨S, Γ, d, Γ', w, r, ⟨d1, d2, d3, Γ1, Γ2, hd, hb1, hb2, hb3⟩, q⟩ => by
    subst hd
    cases r with
    | tup g1 g2 =>
      cases g2 with
      | cons r1 g2 =>
        cases g2 with
        | cons r2 g2 =>
          cases g2 with
          | cons r3 g2 =>
            cases g2
            refine ⟨_, _, rfl, same_sqT w.nx.sh g1, rfl, _, _, rfl, S, Γ, d1, Γ1, w, r1, hb1, fun σ1 k1 l1 w1 => ⟨_, _, rfl, S, Γ1, d2, Γ2, w1, r2, hb2, fun σ2 k2 l2 w2 => ⟨_, _, rfl, S, Γ2, d3, Γ', w2, r3, hb3, fun σ3 k3 l3 w3 => ⟨rfl, ?_⟩⟩⟩⟩
            exact q σ3 (fun j hj => (k3 j fun z => hj (List.mem_append_right _ (List.mem_append_right _ z))).trans ((k2 j fun z => hj (List.mem_append_right _ (List.mem_append_left _ z))).trans (k1 j fun z => hj (List.mem_append_left _ z)))) (l3.trans (l2.trans l1)) w3
end targets

/-! ### loops -/
section loops
variable {X : Cx} {e : Ent} {Γ : Gam} {x tg : Expr} {pos : Pos} {k : Kn} {rest : List Stmt}
/-- for: an invariant of the turn and the environment -/
theorem bl_for {body : List Stmt} {ix : List Nat} {bind : D → Gam → Gam → Prop} {Φ : List D → Gam → Prop} (Inv : List D → Nat → Gam → Prop) (hw : WV X e tg x Γ Φ) (hg : GV X e tg ix bind) (h0 : ∀ ds Γ1, Φ ds Γ1 → Inv ds 0 Γ1)
    (hs : ∀ ds i d Γ1, ds[i]? = some d → Inv ds i Γ1 → ∃ Γ2, bind d Γ1 Γ2 ∧ BL X e body Γ2 { nx := Inv ds (i + 1), rt := k.rt, ct := Inv ds (i + 1) }) (hr : ∀ ds Γ1, Inv ds ds.length Γ1 → BL X e rest Γ1 k)
    (hp : PassesOwn (model X.prog X.w) X.A X.env X.xe) (hc : X.calm = true := by rfl) (hf : ∀ y, foldedSetIterable x X.env y = pure y := by intro _; rfl) : BL X e (.For tg x body [] pos :: rest) Γ k := by
  have hb : PSs X body (fun D σ H => ∃ ds i d Γ1 Γ2, ds[i]? = some d ∧ Inv ds i Γ1 ∧ bind d Γ1 Γ2 ∧ BL X e body Γ2 { nx := Inv ds (i + 1), rt := k.rt, ct := Inv ds (i + 1) } ∧ tS X.K e Γ2 { nx := Inv ds (i + 1), rt := k.rt, ct := Inv ds (i + 1) } D σ H) :=
    ⟨fun pins s σ H D I ⟨ds, i, d, Γ1, Γ2, _, _, _, hB, q⟩ => hB.run pins s σ H D I q⟩
  refine bl_cons (fun Γ1 => ∃ ds, Inv ds ds.length Γ1) (PS.imp (ps_for hp hc hw hg hb hf) fun D σ H ⟨S, w, nx, bk, ct, rt⟩ => ⟨S, w, fun S1 H1 J ds Γ1 hd s1 w1 it => ?_⟩) fun Γ1 ⟨ds, h⟩ => hr ds Γ1 h
  refine ⟨fun i m σ H => m = ds.length - i ∧ i ≤ ds.length ∧ ∃ S Γ', Inv ds i Γ' ∧ Same S1 S ∧ Wd X.K e S H σ Γ', ⟨ds.length, by simp, Nat.zero_le _, S1, Γ1, h0 ds Γ1 hd, Same.refl _, w1⟩, ?_⟩
  rintro i m σ2 H2 ⟨rfl, hi, S2, Γ2, hI, s2, w2⟩
  by_cases hlt : i < ds.length
  · refine .inr ⟨it.go i S2 H2 hlt s2 w2.nx.sh, fun σ' H' => i + 1 ≤ ds.length ∧ ∃ S' Γ', Inv ds (i + 1) Γ' ∧ Same S1 S' ∧ Wd X.K e S' H' σ' Γ', fun σ' H' ⟨h1, h2⟩ => ⟨ds.length - (i + 1), by omega, rfl, h1, h2⟩, fun v H' y => ?_⟩
    obtain ⟨S3, p3, k3, r3⟩ := it.yld i _ S2 H2 v H' (List.getElem?_eq_getElem hlt) s2 w2.nx.sh y
    obtain ⟨Γ3, hb3, hB⟩ := hs ds i _ Γ2 (List.getElem?_eq_getElem hlt) hI
    refine ⟨S3, Γ2, _, Γ3, k3 _ _ w2, r3, hb3, fun σ4 _ _ w4 => ⟨ds, i, _, Γ2, Γ3, List.getElem?_eq_getElem hlt, hI, hb3, hB, S3, w4, fun S5 σ5 H5 Γ5 q5 s5 w5 => ⟨hlt, S5, Γ5, q5, (s2.trans p3.ss).trans s5, w5⟩, fun _ _ _ _ z => z.elim,
      fun S5 σ5 H5 Γ5 q5 s5 w5 => ⟨hlt, S5, Γ5, q5, (s2.trans p3.ss).trans s5, w5⟩, fun S5 σ5 H5 v b Γ5 q5 s5 w5 => rt S5 σ5 H5 v b Γ5 q5 (((s1.ss.trans s2).trans p3.ss).trans s5) w5⟩⟩
  · have ei : i = ds.length := by omega
    subst ei
    exact .inl ⟨it.stop _ S2 H2 (Nat.le_refl _) s2 w2.nx.sh, nx S2 σ2 H2 Γ2 ⟨ds, hI⟩ (s1.ss.trans s2) w2⟩
/-- while: an invariant, a measure of the environment that falls -/
theorem bl_while {c : Expr} {body : List Stmt} (Inv : Nat → Gam → Prop) (m0 : Nat) (h0 : Inv m0 Γ) (hs : ∀ m Γ1, Inv m Γ1 → ∃ Φ, TV X e c Γ1 Φ ∧ (∀ Γ2, Φ true Γ2 → BL X e body Γ2 { nx := fun Γ3 => ∃ m', m' < m ∧ Inv m' Γ3, rt := k.rt, ct := fun Γ3 => ∃ m', m' < m ∧ Inv m' Γ3 }) ∧ (∀ Γ2, Φ false Γ2 → BL X e rest Γ2 k))
    (hp : PassesOwn (model X.prog X.w) X.A X.env X.xe) : BL X e (.While c body [] pos :: rest) Γ k := by
  have hcT : PT X c (fun σ H Q => ∃ m Γ1 Φ, Inv m Γ1 ∧ TV X e c Γ1 Φ ∧ tX X.K e Γ1 Φ σ H Q) := ⟨fun pins s σ H Q I ⟨m, Γ1, Φ, _, hT, q⟩ => hT.run pins s σ H Q I q⟩
  have hbT : PSs X body (fun D σ H => ∃ m Γ2, BL X e body Γ2 { nx := fun Γ3 => ∃ m', m' < m ∧ Inv m' Γ3, rt := k.rt, ct := fun Γ3 => ∃ m', m' < m ∧ Inv m' Γ3 } ∧ tS X.K e Γ2 { nx := fun Γ3 => ∃ m', m' < m ∧ Inv m' Γ3, rt := k.rt, ct := fun Γ3 => ∃ m', m' < m ∧ Inv m' Γ3 } D σ H) :=
    ⟨fun pins s σ H D I ⟨m, Γ2, hB, q⟩ => hB.run pins s σ H D I q⟩
  refine bl_cons (fun Γ2 => BL X e rest Γ2 k) (PS.imp (ps_while hp hcT hbT) fun D σ H ⟨S, w, nx, bk, ct, rt⟩ => ?_) fun Γ2 h => h
  refine ⟨fun m σ1 H1 => ∃ S1 Γ1, Inv m Γ1 ∧ Same S S1 ∧ Wd X.K e S1 H1 σ1 Γ1, ⟨m0, S, Γ, h0, Same.refl _, w⟩, ?_⟩
  rintro m σ1 H1 ⟨S1, Γ1, hI, s1, w1⟩
  obtain ⟨Φ, hT, ht, hf⟩ := hs m Γ1 hI
  refine ⟨m, Γ1, Φ, hI, hT, S1, w1, fun S2 H2 b Γ2 hb s2 w2 => ?_⟩
  cases b with
  | true =>
    refine iteT ⟨fun σ' H' => ∃ m', m' < m ∧ ∃ S3 Γ3, Inv m' Γ3 ∧ Same S S3 ∧ Wd X.K e S3 H' σ' Γ3, fun σ' H' ⟨m', h1, h2⟩ => ⟨m', h1, h2⟩, m, Γ2, ht Γ2 hb, S2, w2, ?_, fun _ _ _ _ z => z.elim, ?_, ?_⟩
    · intro S3 σ3 H3 Γ3 ⟨m', h1, h2⟩ s3 w3
      exact ⟨m', h1, S3, Γ3, h2, (s1.trans s2.ss).trans s3, w3⟩
    · intro S3 σ3 H3 Γ3 ⟨m', h1, h2⟩ s3 w3
      exact ⟨m', h1, S3, Γ3, h2, (s1.trans s2.ss).trans s3, w3⟩
    · intro S3 σ3 H3 v b Γ3 h s3 w3
      exact rt S3 σ3 H3 v b Γ3 h ((s1.trans s2.ss).trans s3) w3
  | false => exact iteF (nx S2 σ1 H2 Γ2 (hf Γ2 hb) (s1.trans s2.ss) w2)
end loops

/-! ### list comprehensions -/
def wipeG (Γ : Gam) : List Nat → Gam
  | [] => Γ
  | v :: vs => (wipeG Γ vs).set v none
theorem wipeG_len (Γ : Gam) : ∀ vs : List Nat, (wipeG Γ vs).length = Γ.length
  | [] => rfl
  | v :: vs => by unfold wipeG; rw [List.length_set, wipeG_len Γ vs]
theorem wipeG_get {Γ : Gam} {i : Nat} {b : B} : ∀ {vs : List Nat}, (wipeG Γ vs)[i]? = some (some b) → Γ[i]? = some (some b) ∧ i ∉ vs
  | [], h => ⟨h, by simp⟩
  | v :: vs, h => by
    unfold wipeG at h
    rcases get_set h with ⟨_, z⟩ | ⟨n, z⟩
    · cases z
    · obtain ⟨h1, h2⟩ := wipeG_get z
      exact ⟨h1, by simp only [List.mem_cons, not_or]; exact ⟨fun q => n q.symm, h2⟩⟩
theorem wipeG_ne {Γ : Gam} {i : Nat} : ∀ {vs : List Nat}, i ∉ vs → (wipeG Γ vs)[i]? = Γ[i]?
  | [], _ => rfl
  | v :: vs, h => by
    simp only [List.mem_cons, not_or] at h
    unfold wipeG
    rw [List.getElem?_set_ne (fun q => h.1 q.symm), wipeG_ne h.2]
theorem wipe_ne {σ : L2.St} {i : Nat} : ∀ {vs : List Nat}, i ∉ vs → (wipe σ vs)[i]? = σ[i]?
  | [], _ => rfl
  | v :: vs, h => by
    simp only [List.mem_cons, not_or] at h
    unfold wipe
    rw [List.getElem?_set_ne (fun q => h.1 q.symm), wipe_ne h.2]
theorem wipe_at {σ : L2.St} {i : Nat} : ∀ {vs : List Nat}, i ∈ vs → i < σ.length → (wipe σ vs)[i]? = some none
  | v :: vs, h, hl => by
    unfold wipe
    by_cases q : v = i
    · subst q
      exact set_at (by rw [wipe_length]; exact hl)
    · rw [List.getElem?_set_ne q]
      exact wipe_at ((List.mem_cons.mp h).resolve_left fun z => q z.symm) hl
theorem wipe_eq {σ σ2 : L2.St} {vs ix : List Nat} (hl : σ2.length = σ.length) (h : ∀ j, j ∉ ix → σ2[j]? = (wipe σ vs)[j]?) (hix : ∀ j ∈ ix, j ∈ vs) : wipe σ2 vs = wipe σ vs := by
  apply List.ext_getElem?
  intro j
  by_cases q : j ∈ vs
  · by_cases z : j < σ.length
    · rw [wipe_at q z, wipe_at q (by rw [hl]; exact z)]
    · rw [List.getElem?_eq_none (by rw [wipe_length, hl]; omega), List.getElem?_eq_none (by rw [wipe_length]; omega)]
  · rw [wipe_ne q]
    exact h j fun z => q (hix j z)
section comps
variable {K : Fg} {e : Ent} {S H : Hp} {σ : L2.St} {Γ : Gam}
/-- into the block: its own slots forgotten -/
theorem Wd.wipe {vs : List Nat} (w : Wd K e S H σ Γ) (hz : e.own = none ∨ 0 ∉ vs) : Wd K e S H (L2.wipe σ vs) (wipeG Γ vs) := by
  refine ⟨w.nx, by rw [wipe_length, wipeG_len]; exact w.sl.len, fun i b q => ?_, fun i j o o' a q1 q2 q3 q4 => ?_, fun a z => ?_⟩
  · obtain ⟨h1, h2⟩ := wipeG_get q
    obtain ⟨v, h3, h4⟩ := w.sl.at_ i b h1
    exact ⟨v, by rw [wipe_ne h2]; exact h3, h4⟩
  · obtain ⟨h1, h2⟩ := wipeG_get q1
    obtain ⟨h3, h4⟩ := wipeG_get q2
    rw [wipe_ne h2] at q3
    rw [wipe_ne h4] at q4
    exact w.sl.dj i j o o' a h1 h3 q3 q4
  · have n : 0 ∉ vs := by
      rcases hz with h | h
      · rw [h] at z; cases z
      · exact h
    obtain ⟨h1, o, h2⟩ := w.sl.z a z
    exact ⟨by rw [wipe_ne n]; exact h1, o, by rw [wipeG_ne n]; exact h2⟩
/-- out of the block -/
theorem Wd.back {σ2 : L2.St} {vs : List Nat} {Γ2 : Gam} (w : Wd K e S H σ2 Γ2) (he : L2.wipe σ2 vs = L2.wipe σ vs) (hl : σ2.length = σ.length) (hz : e.own = none ∨ 0 ∉ vs) : Wd K e S H σ (wipeG Γ2 vs) := by
  have g : ∀ i, i ∉ vs → σ2[i]? = σ[i]? := fun i n => by rw [← wipe_ne n, he, wipe_ne n]
  refine ⟨w.nx, by rw [wipeG_len, ← hl]; exact w.sl.len, fun i b q => ?_, fun i j o o' a q1 q2 q3 q4 => ?_, fun a z => ?_⟩
  · obtain ⟨h1, h2⟩ := wipeG_get q
    obtain ⟨v, h3, h4⟩ := w.sl.at_ i b h1
    exact ⟨v, by rw [← g i h2]; exact h3, h4⟩
  · obtain ⟨h1, h2⟩ := wipeG_get q1
    obtain ⟨h3, h4⟩ := wipeG_get q2
    rw [← g i h2] at q3
    rw [← g j h4] at q4
    exact w.sl.dj i j o o' a h1 h3 q3 q4
  · have n : 0 ∉ vs := by
      rcases hz with h | h
      · rw [h] at z; cases z
      · exact h
    obtain ⟨h1, o, h2⟩ := w.sl.z a z
    exact ⟨by rw [← g 0 n]; exact h1, o, by rw [wipeG_ne n]; exact h2⟩
end comps
/-- a binder gives slots values that stand for good, those of ix alone -/
def BindOk (ix : List Nat) (bind : D → Gam → Gam → Prop) : Prop := ∀ d Γ Γ', bind d Γ Γ' → ∀ (j : Nat) (o : O), Γ'[j]? = some (some (.ow o)) → Γ[j]? = some (some (.ow o)) ∧ j ∉ ix
theorem bindOk_name (i : Nat) : BindOk [i] (bName i) := fun d Γ Γ' h j o q => by
  subst h
  rcases get_set q with ⟨_, z⟩ | ⟨n, z⟩
  · cases z
  · exact ⟨z, fun y => n (List.mem_singleton.mp y).symm⟩
theorem bindOk_two {ix1 ix2 : List Nat} {b1 b2 : D → Gam → Gam → Prop} (h1 : BindOk ix1 b1) (h2 : BindOk ix2 b2) : BindOk (ix1 ++ ix2) (bTwo b1 b2) := fun d Γ Γ' ⟨d1, d2, Γ1, _, q1, q2⟩ j o q => by
  obtain ⟨z1, n1⟩ := h2 _ _ _ q2 j o q
  obtain ⟨z2, n2⟩ := h1 _ _ _ q1 j o z1
  exact ⟨z2, fun y => (List.mem_append.mp y).elim n2 n1⟩
theorem bindOk_three {ix1 ix2 ix3 : List Nat} {b1 b2 b3 : D → Gam → Gam → Prop} (h1 : BindOk ix1 b1) (h2 : BindOk ix2 b2) (h3 : BindOk ix3 b3) : BindOk (ix1 ++ (ix2 ++ ix3)) (bThree b1 b2 b3) := fun d Γ Γ' ⟨d1, d2, d3, Γ1, Γ2, _, q1, q2, q3⟩ j o q => by
  obtain ⟨z0, n0⟩ := h3 _ _ _ q3 j o q
  obtain ⟨z1, n1⟩ := h2 _ _ _ q2 j o z0
  obtain ⟨z2, n2⟩ := h1 _ _ _ q1 j o z1
  exact ⟨z2, fun y => (List.mem_append.mp y).elim n2 fun y => (List.mem_append.mp y).elim n1 n0⟩
section lc
variable {K : Fg} {e : Ent} {S S1 S' H H1 H' : Hp} {σ σ2 : L2.St} {Γ Γ' Γ2 Γ4 : Gam} {Dd : Addr} {o : HO}
theorem Stp.tmp (s : Stp σ Γ S H Γ' S' H') (hD : H Dd = none) : Stp σ Γ S H Γ' S' (upd H' Dd o) :=
  ⟨s.ss, fun p u h n => by rw [upd_ne (ne_of_none h hD)]; exact s.hh p u h n, fun p h => by
    by_cases q : p = Dd
    · rw [q, upd_same]; exact fun z => nomatch z
    · rw [upd_ne q]; exact s.al p h, s.old, s.sl⟩
theorem Wd.tmp (w : Wd K e S H σ Γ) (sD : S Dd = none) (h0 : e.H0 Dd = none) (hn : ∀ (j : Nat) (o' : O), Γ[j]? = some (some (.ow o')) → σ[j]? ≠ some (some (.ref Dd))) : Wd K e S (upd H Dd o) σ Γ :=
  ⟨w.nx.put sD (.inl h0), w.sl.len, fun i b q => by
    obtain ⟨v, h1, h2⟩ := w.sl.at_ i b q
    refine ⟨v, h1, ?_⟩
    cases b with
    | st d => exact h2
    | xc a d fl => exact h2.xcm (Same.refl _)
    | nw d l => exact h2.elim
    | nt o1 o2 => exact h2.elim
    | ow o1 =>
      obtain ⟨a, h3, h4, h5, h6⟩ := h2
      have ne : a ≠ Dd := fun z => hn i o1 q (by rw [h1, h3, z])
      exact ⟨a, h3, h4, h5.to (Same.refl _) (upd_ne ne), h6⟩, w.sl.dj, w.sl.z⟩
/-- a step within the block, seen from outside -/
theorem Stp.out {vs ix : List Nat} {bind : D → Gam → Gam → Prop} {d : D} (s : Stp σ2 Γ2 S H Γ4 S' H') (hb : BindOk ix bind) (h : bind d (wipeG Γ vs) Γ2) (he : ∀ j, j ∉ ix → σ2[j]? = (L2.wipe σ vs)[j]?) : Stp σ Γ S H (wipeG Γ4 vs) S' H' :=
  ⟨s.ss, fun p u hp n => s.hh p u hp fun i o q z => by
    obtain ⟨q1, q2⟩ := hb d _ _ h i o q
    obtain ⟨q3, q4⟩ := wipeG_get q1
    rw [he i q2, wipe_ne q4] at z
    exact n i o q3 z, s.al, s.old, fun i o q => by
    obtain ⟨q1, _⟩ := wipeG_get q
    obtain ⟨o', q2⟩ := s.sl i o q1
    exact ⟨o', (wipeG_get (hb d _ _ h i o' q2).1).1⟩⟩
/-- the reading of a comprehension by an invariant of the turn, the list so far, the environment -/
theorem lc_imp {vs ix : List Nat} {bind : D → Gam → Gam → Prop} {Φi : List D → Gam → Prop} {Φ : O → Gam → Prop} {Bt Be : Gam → Prop} {Tt : Gam → Bool → Gam → Prop} {Te : Gam → D → Gam → Prop} (Inv : List D → Nat → List D → Gam → Prop)
    (hb : BindOk ix bind) (hix : ∀ j ∈ ix, j ∈ vs) (hz : e.own = none ∨ 0 ∉ vs) (h0 : ∀ ds Γ1, Φi ds Γ1 → ds.length ≤ 100000 ∧ Inv ds 0 [] Γ1)
    (hs : ∀ ds i d acc Γ1, ds[i]? = some d → Inv ds i acc Γ1 → ∃ Γ2, bind d (wipeG Γ1 vs) Γ2 ∧ Bt Γ2 ∧ (∀ Γ3, Tt Γ2 true Γ3 → Be Γ3 ∧ ∀ y Γ4, Te Γ3 y Γ4 → Inv ds (i + 1) (acc ++ [y]) (wipeG Γ4 vs)) ∧ ∀ Γ3, Tt Γ2 false Γ3 → Inv ds (i + 1) acc (wipeG Γ3 vs))
    (hd : ∀ ds acc Γ1, Inv ds ds.length acc Γ1 → Φ (.lst acc) Γ1) (σ : L2.St) (H : Hp) (Q : VK) (h : tO K e Γ Φ σ H Q) :
    tLc (tI K e Γ Φi) (tG K e ix bind) (fun σ H Q => ∃ Γ', Bt Γ' ∧ tX K e Γ' (Tt Γ') σ H Q) (fun σ H Q => ∃ Γ', Be Γ' ∧ tE K e Γ' (Te Γ') σ H Q) vs σ H Q := by
  obtain ⟨S, w, q⟩ := h
  refine ⟨S, w, fun S1 H1 J ds Γ1 hΦ s1 w1 it Dn hD => ?_⟩
  obtain ⟨hlen, hI0⟩ := h0 ds Γ1 hΦ
  have hDH : H Dn = none := by
    cases z : H Dn with
    | none => rfl
    | some y => exact absurd hD (s1.al Dn (by rw [z]; exact fun t => nomatch t))
  have hD0 : e.H0 Dn = none := w1.nx.fresh hD
  have big : ∀ {n : Nat}, n ≤ ds.length → n < sizeLine := fun {n} h => Nat.lt_of_le_of_lt (Nat.le_trans h hlen) (by decide)
  refine ⟨fun i m H2 => m = ds.length - i ∧ i ≤ ds.length ∧ ∃ S2 acc xs Γ2, Inv ds i acc Γ2 ∧ acc.length ≤ i ∧ Stp σ Γ1 S1 H1 Γ2 S2 H2 ∧ Wd K e S2 H2 σ Γ2 ∧ S2 Dn = none ∧ H2 Dn = some (.lst xs) ∧ RpL K S2 xs acc,
    ⟨ds.length, by simp, Nat.zero_le _, S1, [], [], Γ1, hI0, Nat.le_refl _, (Stp.refl σ Γ1 S1 H1).tmp hD, w1.own hD, w1.nx.sh.free hD, upd_same, .nil⟩, ?_⟩
  rintro i m H2 ⟨rfl, hi, S2, acc, xs, Γ2, hI, hacc, s2, w2, sD, hx, rx⟩
  by_cases hlt : i < ds.length
  · refine .inr ⟨it.go i S2 H2 hlt s2.ss w2.nx.sh, fun H' => i + 1 ≤ ds.length ∧ ∃ S3 acc xs Γ3, Inv ds (i + 1) acc Γ3 ∧ acc.length ≤ i + 1 ∧ Stp σ Γ1 S1 H1 Γ3 S3 H' ∧ Wd K e S3 H' σ Γ3 ∧ S3 Dn = none ∧ H' Dn = some (.lst xs) ∧ RpL K S3 xs acc,
      fun H' ⟨z1, z2⟩ => ⟨ds.length - (i + 1), by omega, rfl, z1, z2⟩, fun v H' y => ?_⟩
    obtain ⟨S3, p3, k3, r3⟩ := it.yld i _ S2 H2 v H' (List.getElem?_eq_getElem hlt) s2.ss w2.nx.sh y
    obtain ⟨Γ3, hb3, hbt, hT, hF⟩ := hs ds i _ acc Γ2 (List.getElem?_eq_getElem hlt) hI
    have w3 := (k3 _ _ w2).wipe (vs := vs) hz
    have s3 : Stp σ Γ1 S1 H1 Γ2 S3 H' := s2.trans p3.stp
    have sD3 : S3 Dn = none := (p3.old Dn (by rw [hx]; exact fun z => nomatch z)).trans sD
    have hx3 : H' Dn = some (.lst xs) := p3.hh _ _ hx
    refine ⟨S3, wipeG Γ2 vs, _, Γ3, w3, r3, hb3, fun σ4 k4 l4 w4 => ?_⟩
    have lw : σ4.length = σ.length := l4.trans (wipe_length σ vs)
    have ew : L2.wipe σ4 vs = L2.wipe σ vs := wipe_eq lw k4 hix
    refine ⟨ew, Γ3, hbt, S3, w4, fun S5 H5 b Γ5 hb5 s5 w5 => ?_⟩
    -- the new list is not a slot's
    have nD : ∀ {Γx : Gam} {Sx Hx : Hp}, Stp σ4 Γ3 S3 H' Γx Sx Hx → Hx Dn = some (.lst xs) ∧ Sx Dn = none := fun {Γx Sx Hx} s => by
      refine ⟨s.hh Dn _ hx3 fun j o' q1 q2 => ?_, (s.old Dn (by rw [hx3]; exact fun z => nomatch z)).trans sD3⟩
      obtain ⟨g1, g2⟩ := hb _ _ _ hb3 j o' q1
      obtain ⟨g3, g4⟩ := wipeG_get g1
      rw [k4 j g2, wipe_ne g4] at q2
      exact s2.fresh_ne w1 hD j o' g3 q2
    cases b with
    | true =>
      refine iteT ?_
      obtain ⟨hbe, hE⟩ := hT Γ5 hb5
      refine ⟨Γ5, hbe, S5, w5, fun S6 H6 yv d6 Γ6 h6 s6 w6 r6 => ?_⟩
      have st := s5.trans s6
      obtain ⟨hx6, sD6⟩ := nD st
      refine ⟨xs, hx6, ?_, hlt, S6, acc ++ [d6], xs ++ [yv], wipeG Γ6 vs, hE d6 Γ6 h6, by rw [List.length_append]; simp only [List.length_singleton]; omega, (s3.trans (st.out hb hb3 k4)).tmp hD, ?_, sD6, upd_same, ((rx.mono (p3.ss.trans st.ss)).append (.cons r6 .nil))⟩
      · rw [rx.length]
        exact big (Nat.le_trans hacc hi)
      · exact (w6.back ew lw hz).tmp sD6 hD0 ((s3.trans (st.out hb hb3 k4)).fresh_ne w1 hD)
    | false =>
      refine iteF ?_
      obtain ⟨hx6, sD6⟩ := nD s5
      exact ⟨hlt, S5, acc, xs, wipeG Γ5 vs, hF Γ5 hb5, by omega, s3.trans (s5.out hb hb3 k4), w5.back ew lw hz, sD6, hx6, rx.mono (p3.ss.trans s5.ss)⟩
  · have ei : i = ds.length := by omega
    subst ei
    exact .inl ⟨it.stop _ S2 H2 (Nat.le_refl _) s2.ss w2.nx.sh, q S2 H2 Dn (.lst acc) Γ2 (hd ds acc Γ2 hI) (s1.trans s2) w2 sD ⟨xs, hx, rx⟩ hDH⟩
end lc
end Kf
end
section
set_option maxRecDepth 100000
set_option maxHeartbeats 4000000
/-! KfE: new objects of pure expressions, comprehensions, what a def promises, calls. -/
namespace Kf
open PySem L2

/-! ### a pure expression that makes one new object -/
def tPN (K : Fg) (e : Ent) (Γ : Gam) (o : O) : TE := fun σ H Q => ∃ S, Wd K e S H σ Γ ∧
  ∀ S' H' a, Pur S H S' H' → Wd K e S' H' σ Γ → S' a = none → Own K S' H' a o → H a = none → Q (.ref a) H'
abbrev PN (X : Cx) (e : Ent) (x : Expr) (Γ : Gam) (o : O) : Prop := PE X x (tPN X.K e Γ o)
section po
variable {X : Cx} {e : Ent} {Γ : Gam} {x a b : Expr} {o : O} {pos p : Pos}
theorem pn_eo (h : PN X e x Γ o) : EO X e x Γ (Is o Γ) := PE.imp h fun σ H Q ⟨S, w, q⟩ => ⟨S, w, fun S' H' c s w' sa ow ha => q S' H' c o Γ ⟨rfl, rfl⟩ s.stp w' sa ow ha⟩
theorem pn_pv {d : D} (h : PN X e x Γ o) (hd : o.d = d := by rfl) : PV X e x Γ d := PE.imp h fun σ H Q ⟨S, w, q⟩ => ⟨S, w, fun S' H' c s w' sa ow ha => by
  obtain ⟨S2, s2, k2, w2, r⟩ := own_st w' sa ow (w.nx.fresh ha) (w.fresh_ne ha)
  exact q S2 H' _ ⟨s.ss.trans s2, s.hh, fun b hb => (k2 b fun z => hb (by rw [z]; exact ha)).trans (s.old b hb)⟩ w2 (by rw [← hd]; exact r)⟩
theorem pn_is {o' : O} (h : PN X e x Γ o) (q : o = o') : PN X e x Γ o' := by rw [← q]; exact h
theorem tPN_new {K : Fg} {σ : L2.St} {Q : VK} {S H S1 H1 : Hp} {c : Addr} {u : HO} (q : ∀ S' H' a, Pur S H S' H' → Wd K e S' H' σ Γ → S' a = none → Own K S' H' a o → H a = none → Q (.ref a) H') (s1 : Pur S H S1 H1) (w1 : Wd K e S1 H1 σ Γ) (hp : H1 c = none) (r : Own K S1 (upd H1 c u) c o) : Q (.ref c) (upd H1 c u) :=
  q S1 (upd H1 c u) c (s1.trans (pur_own hp)) (w1.own hp) (w1.nx.sh.free hp) r (s1.hh.free hp)
theorem pn_lst {es : List Expr} {ds : List D} (h : PVs X e es Γ ds) (hl : ds.length ≤ sizeLine := by first | exact Nat.le_trans (by decide : _ ≤ 1000) (by decide) | exact Nat.le_trans (m := 1000) (by simp only [List.length_cons, List.length_nil]; decide) (by decide)) : PN X e (.List es pos) Γ (.lst ds) :=
  PE.imp (pe_lst h) fun σ H Q ⟨S, w, q⟩ => ⟨S, w, fun S1 H1 vs s1 w1 r1 => ⟨by rw [r1.length]; exact hl, fun c hp => tPN_new q s1 w1 hp ⟨vs, upd_same, r1⟩⟩⟩
theorem pn_dK : PN X e (.Dict [] [] pos) Γ (.dK []) := PE.imp pe_dnewK fun σ H Q ⟨S, w, q⟩ c hp => tPN_new q (Pur.refl _ _) w hp ⟨[], upd_same, .nil⟩
theorem pn_dT : PN X e (.Dict [] [] pos) Γ (.dT []) := PE.imp pe_dnewT fun σ H Q ⟨S, w, q⟩ c hp => tPN_new q (Pur.refl _ _) w hp ⟨[], upd_same, .nil⟩
/-- list(x) -/
theorem pn_list {l : List D} (h : PV X e x Γ (.lst l) ∨ PV X e x Γ (.tup l)) (hm : X.mg "list" = none) (hg : Gl X "list" := by rfl) (he : starEach [x] X.env = (false, eval x X.env) :: starEach [] X.env := by rfl)
    (hpl : (backTo pos (starEach [] X.env)).any (·.1) = false := by rfl) : PN X e (.Call (.Name "list" p) [x] [] pos) Γ (.lst l) := by
  rcases h with h | h
  · exact PE.imp (pe_callTy call_list_of hg hm (by decide +kernel) (pvs_cons h pvs_nil he) (by decide) (by decide) he hpl) fun σ H Q ⟨S, w, q⟩ => ⟨S, w, fun S1 H1 vs s1 w1 r1 => by
      cases r1 with
      | cons r2 r3 =>
        cases r3
        cases r2 with
        | lst h1 h2 => exact ⟨_, _, rfl, .inl (rdq (same_rd w1.nx.sh h1)), fun c hp => tPN_new q s1 w1 hp ⟨_, upd_same, h2⟩⟩⟩
  · exact PE.imp (pe_callTy call_list_of hg hm (by decide +kernel) (pvs_cons h pvs_nil he) (by decide) (by decide) he hpl) fun σ H Q ⟨S, w, q⟩ => ⟨S, w, fun S1 H1 vs s1 w1 r1 => by
      cases r1 with
      | cons r2 r3 =>
        cases r3
        cases r2 with
        | tup h1 h2 => exact ⟨_, _, rfl, .inr (same_sqT w1.nx.sh h1), fun c hp => tPN_new q s1 w1 hp ⟨_, upd_same, h2⟩⟩⟩
/-- list(x), x a list that came from outside -/
theorem pn_listK {l : List D} (h : PV X e x Γ (.lstK l)) (hm : X.mg "list" = none) (hg : Gl X "list" := by rfl) (he : starEach [x] X.env = (false, eval x X.env) :: starEach [] X.env := by rfl)
    (hpl : (backTo pos (starEach [] X.env)).any (·.1) = false := by rfl) : PN X e (.Call (.Name "list" p) [x] [] pos) Γ (.lst l) :=
  PE.imp (pe_callTy call_list_of hg hm (by decide +kernel) (pvs_cons h pvs_nil he) (by decide) (by decide) he hpl) fun σ H Q ⟨S, w, q⟩ => ⟨S, w, fun S1 H1 vs s1 w1 r1 => by
      cases r1 with
      | cons r2 r3 =>
        cases r3
        cases r2 with
        | lstK h1 h2 => exact ⟨_, _, rfl, .inl (w1.nx.sh.seq h1), fun c hp => tPN_new q s1 w1 hp ⟨_, upd_same, h2⟩⟩⟩
/-- xs + ys, lists -/
def rCatQ : R2 := fun x y H Q => ∃ l b xs zs, x = .ref l ∧ y = .ref b ∧ Rd H l (.lst xs) ∧ Rd H b (.lst zs) ∧ xs.length + zs.length ≤ sizeLine ∧ ∀ p, H p = none → Q (.ref p) (upd H p (.lst (xs ++ zs)))
theorem op_catQ : OpR X (binaryOp .Add) rCatQ := by
  intro pins s σ H x y v u Q I rx ry h
  obtain ⟨l, b, xs, zs, rfl, rfl, hH, hB, hz, q⟩ := h
  cases rx
  cases ry
  obtain ⟨z1, its, n, r, g⟩ := hH.ok I.hok
  obtain ⟨z2, its2, n2, r2, g2⟩ := hB.ok I.hok
  have k1 := r.length
  have k2 := r2.length
  refine PySem.P.add_list g g2 ?_ (by rw [List.size_toArray, List.size_toArray]; omega)
  rw [show its.toArray ++ its2.toArray = (its ++ its2).toArray by simp]
  exact ⟨.ref _, _, I.lnew (t' := s.toks) (r.append r2) (by rw [List.length_append]; omega), rfl, q _ I.fresh⟩
theorem pn_cat {l m : List D} (ha : PV X e a Γ (.lst l)) (hb : PV X e b Γ (.lst m)) (hl : l.length + m.length ≤ sizeLine) : PN X e (.BinOp a .Add b pos) Γ (.lst (l ++ m)) :=
  PE.imp (pe_op op_catQ ha hb) fun σ H Q ⟨S, w, q⟩ => ⟨S, w, fun S1 H1 v1 s1 w1 r1 => ⟨S1, w1, fun S2 H2 v2 s2 w2 r2 => by
    cases r1 with
    | lst h1 t1 =>
      cases r2 with
      | lst h2 t2 =>
        have t1' := t1.mono s2.ss
        exact ⟨_, _, _, _, rfl, rfl, same_rd w2.nx.sh (same_rd s2.ss h1), same_rd w2.nx.sh h2, by rw [t1'.length, t2.length]; exact hl, fun c hc => tPN_new q (s1.trans s2) w2 hc ⟨_, upd_same, t1'.append t2⟩⟩⟩⟩
/-! slices -/
def cutD (l : List D) (lo hi : Option Int) : List D := (l.drop (HT.sIx l.length 0 lo)).take (HT.sIx l.length l.length hi - HT.sIx l.length 0 lo)
def tPart' (K : Fg) (e : Ent) (Γ : Gam) (o : Option Int) : TO := fun σ H Q => ∃ S, Wd K e S H σ Γ ∧ ∀ S' H', Pur S H S' H' → Wd K e S' H' σ Γ → Q o H'
abbrev PP (X : Cx) (e : Ent) (x : Option Expr) (Γ : Gam) (o : Option Int) : Prop := L2.PO X x (tPart' X.K e Γ o)
theorem pp_none : PP X e none Γ none := ⟨fun pins s σ H Q I ⟨S, w, q⟩ => L2.po_none.run pins s σ H Q I (q S H (Pur.refl _ _) w)⟩
theorem pp_some {i : Int} (h : PV X e x Γ (.int i)) : PP X e (some x) Γ (some i) := ⟨fun pins s σ H Q I ⟨S, w, q⟩ => (L2.po_some h).run pins s σ H Q I ⟨S, w, fun S1 H1 v s1 w1 r => by
  cases r
  exact ⟨i, rfl, q S1 H1 s1 w1⟩⟩⟩
theorem pn_cut {l : List D} {lo hi : Option Expr} {lo' hi' : Option Int} {p2 : Pos} (h : PV X e x Γ (.lst l)) (h1 : PP X e lo Γ lo') (h2 : PP X e hi Γ hi') : PN X e (.Subscript x (.Slice lo hi none p2) pos) Γ (.lst (cutD l lo' hi')) :=
  PE.imp (pe_slice sl_list h h1 h2) fun σ H Q ⟨S, w, q⟩ => ⟨S, w, fun S1 H1 v1 s1 w1 r1 => ⟨S1, w1, fun S2 H2 s2 w2 => ⟨S2, w2, fun S3 H3 s3 w3 => by
    cases r1 with
    | lst g1 t1 =>
      have t' := t1.mono (s2.ss.trans s3.ss)
      exact ⟨_, _, rfl, rdq (same_rd w3.nx.sh (same_rd (s2.ss.trans s3.ss) g1)), fun c hc => tPN_new q ((s1.trans s2).trans s3) w3 hc ⟨_, upd_same, by
        unfold cutV cutD
        rw [t'.length]
        exact (t'.drop _).take _⟩⟩⟩⟩⟩
theorem pv_cutS {z : Str} {lo hi : Option Expr} {lo' hi' : Option Int} {p2 : Pos} (h : PV X e x Γ (.str z)) (hz : z.length ≤ sizeLine) (h1 : PP X e lo Γ lo') (h2 : PP X e hi Γ hi') : PV X e (.Subscript x (.Slice lo hi none p2) pos) Γ (.str (cutS z lo' hi')) :=
  PE.imp (pe_slice sl_str h h1 h2) fun σ H Q ⟨S, w, q⟩ => ⟨S, w, fun S1 H1 v1 s1 w1 r1 => ⟨S1, w1, fun S2 H2 s2 w2 => ⟨S2, w2, fun S3 H3 s3 w3 => by
    cases r1
    exact ⟨z, rfl, hz, q S3 H3 _ ((s1.trans s2).trans s3) w3 (.str _)⟩⟩⟩⟩
/-- tuple(x) -/
theorem pv_tupL {l : List D} (h : PV X e x Γ (.lst l)) (hm : X.mg "tuple" = none) (hg : Gl X "tuple" := by rfl) (he : starEach [x] X.env = (false, eval x X.env) :: starEach [] X.env := by rfl)
    (hpl : (backTo pos (starEach [] X.env)).any (·.1) = false := by rfl) : PV X e (.Call (.Name "tuple" p) [x] [] pos) Γ (.tup l) :=
  PE.imp (pe_callTy call_tuple_of hg hm (by decide +kernel) (pvs_cons h pvs_nil he) (by decide) (by decide) he hpl) fun σ H Q ⟨S, w, q⟩ => ⟨S, w, fun S1 H1 vs s1 w1 r1 => by
    cases r1 with
    | cons r2 r3 =>
      cases r3
      cases r2 with
      | lst h1 h2 => exact ⟨_, _, rfl, .inl ⟨rdq (same_rd w1.nx.sh h1), fun c hp => tP_new q s1 w1 hp fun s2 => .tup (SqT.of upd_same) (h2.mono s2)⟩⟩⟩
theorem pv_tupT {l : List D} (h : PV X e x Γ (.tup l)) (hm : X.mg "tuple" = none) (hg : Gl X "tuple" := by rfl) (he : starEach [x] X.env = (false, eval x X.env) :: starEach [] X.env := by rfl)
    (hpl : (backTo pos (starEach [] X.env)).any (·.1) = false := by rfl) : PV X e (.Call (.Name "tuple" p) [x] [] pos) Γ (.tup l) :=
  PE.imp (pe_callTy call_tuple_of hg hm (by decide +kernel) (pvs_cons h pvs_nil he) (by decide) (by decide) he hpl) fun σ H Q ⟨S, w, q⟩ => ⟨S, w, fun S1 H1 vs s1 w1 r1 => by
    cases r1 with
    | cons r2 r3 =>
      cases r3
      cases r2 with
      | tup h1 h2 => exact ⟨_, _, rfl, .inr ⟨same_sqT w1.nx.sh h1, q S1 H1 _ s1 w1 (.tup h1 h2)⟩⟩⟩
end po

/-! ### the slices on data -/
/-! ### comprehensions -/
section comps
variable {X : Cx} {e : Ent} {Γ : Gam}
/-- the pure turns of a comprehension: p the test, g the element, by the item -/
theorem lcP_core {K : Fg} {vs ix : List Nat} {bind : D → Gam → Gam → Prop} {ds : List D} {f : D → Gam} {p : D → Bool} {g : D → D} {tg : TG} {tt : TT} {te : TE} {J : It} (hb : BindOk ix bind) (hix : ∀ j ∈ ix, j ∈ vs) (hz : e.own = none ∨ 0 ∉ vs) (hlen : ds.length ≤ 100000) (hs : ∀ d ∈ ds, bind d (wipeG Γ vs) (f d))
    (hgg : ∀ v σ H Q, tG K e ix bind v σ H Q → tg v σ H Q) (htt : ∀ d ∈ ds, ∀ σ H Q, tPX K e (f d) (p d) σ H Q → tt σ H Q) (hte : ∀ d ∈ ds, p d = true → ∀ σ H Q, tP K e (f d) (g d) σ H Q → te σ H Q)
    {σ : L2.St} {S1 H1 : Hp} {Q : VK} (w1 : Wd K e S1 H1 σ Γ) (it : ItOk K e J ds S1) {Dn : Addr} (hD : H1 Dn = none)
    (q : ∀ S' H' a, Pur S1 H1 S' H' → Wd K e S' H' σ Γ → S' a = none → Own K S' H' a (.lst ((ds.filter p).map g)) → H1 a = none → Q (.ref a) H') :
    ∃ W : Nat → Nat → Hp → Prop, (∃ m, W 0 m (upd H1 Dn (.lst []))) ∧ ∀ i m H, W i m H →
  (J.stop i H ∧ Q (.ref Dn) H) ∨ (J.go i H ∧ ∃ Nx : Hp → Prop, (∀ H', Nx H' → ∃ m', m' < m ∧ W (i + 1) m' H') ∧ ∀ x H', J.yld i H x H' → tg x (wipe σ vs) H' fun σ2 H2 => wipe σ2 vs = wipe σ vs ∧ tt σ2 H2 fun b H3 =>
    if b = true then te σ2 H3 fun y H4 => ∃ acc, H4 Dn = some (.lst acc) ∧ acc.length < sizeLine ∧ Nx (upd H4 Dn (.lst (acc ++ [y]))) else Nx H3) := by
  have s1 : Pur S1 H1 S1 H1 := Pur.refl _ _
  have hD0 : e.H0 Dn = none := w1.nx.fresh hD
  have nsl := w1.fresh_ne hD
  refine ⟨fun i m H2 => m = ds.length - i ∧ i ≤ ds.length ∧ ∃ S2 xs, Pur S1 (upd H1 Dn (.lst [])) S2 (upd H2 Dn (.lst [])) ∧ Wd K e S2 H2 σ Γ ∧ S2 Dn = none ∧ H2 Dn = some (.lst xs) ∧ RpL K S2 xs (((ds.take i).filter p).map g),
    ⟨ds.length, by simp, Nat.zero_le _, S1, [], ⟨Same.refl _, by rw [upd_upd]; exact Same.refl _, fun _ _ => rfl⟩, w1.own hD, w1.nx.sh.free hD, upd_same, .nil⟩, ?_⟩
  rintro i m H2 ⟨rfl, hi, S2, xs, s2, w2, sD, hx, rx⟩
  by_cases hlt : i < ds.length
  · have hmem : ds[i] ∈ ds := List.getElem_mem hlt
    refine .inr ⟨it.go i S2 H2 hlt s2.ss w2.nx.sh, fun H' => i + 1 ≤ ds.length ∧ ∃ S3 xs, Pur S1 (upd H1 Dn (.lst [])) S3 (upd H' Dn (.lst [])) ∧ Wd K e S3 H' σ Γ ∧ S3 Dn = none ∧ H' Dn = some (.lst xs) ∧ RpL K S3 xs (((ds.take (i + 1)).filter p).map g),
      fun H' ⟨z1, z2⟩ => ⟨ds.length - (i + 1), by omega, rfl, z1, z2⟩, fun v H' y => ?_⟩
    obtain ⟨S3, p3, k3, r3⟩ := it.yld i _ S2 H2 v H' (List.getElem?_eq_getElem hlt) s2.ss w2.nx.sh y
    have w3 := (k3 _ _ w2).wipe (vs := vs) hz
    have sD3 : S3 Dn = none := (p3.old Dn (by rw [hx]; exact fun z => nomatch z)).trans sD
    have hx3 : H' Dn = some (.lst xs) := p3.hh _ _ hx
    refine hgg _ _ _ _ ⟨S3, wipeG Γ vs, _, _, w3, r3, hs _ hmem, fun σ4 k4 l4 w4 => ?_⟩
    have lw : σ4.length = σ.length := l4.trans (wipe_length σ vs)
    have ew : L2.wipe σ4 vs = L2.wipe σ vs := wipe_eq lw k4 hix
    have bk : ∀ {Sx Hx : Hp}, Wd K e Sx Hx σ4 (f ds[i]) → Pur S3 H' Sx Hx → Wd K e Sx Hx σ Γ := fun {Sx Hx} wx px => by
      refine ⟨wx.nx, w1.sl.len, fun j b z => ?_, w1.sl.dj, w1.sl.z⟩
      obtain ⟨v1, g1, g2⟩ := (k3 _ _ w2).sl.at_ j b z
      refine ⟨v1, g1, ?_⟩
      cases b with
      | st d => exact Rp.mono px.ss g2
      | xc a d fl => exact g2.xcm px.ss
      | nw d l => exact g2.elim
      | nt o1 o2 => exact g2.elim
      | ow o1 =>
        obtain ⟨a, e1, e2, e3, e4⟩ := g2
        cases hz2 : H' a with
        | none => exact absurd hz2 e3.some
        | some u => exact ⟨a, e1, (px.old a (by rw [hz2]; exact fun z => nomatch z)).trans e2, e3.to px.ss ((px.hh _ _ hz2).trans hz2.symm), e4⟩
    have pt : ∀ {Sx Hx : Hp} {u : HO}, Pur S3 H' Sx Hx → Pur S1 (upd H1 Dn (.lst [])) Sx (upd (upd Hx Dn u) Dn (.lst [])) ∧ Sx Dn = none ∧ Hx Dn = some (.lst xs) := fun {Sx Hx u} px => by
      have a1 := p3.trans px
      have a2 : Same (upd H2 Dn (.lst [])) (upd (upd Hx Dn u) Dn (.lst [])) := by
        rw [upd_upd]
        intro c o z
        by_cases hc : c = Dn
        · subst hc
          rw [upd_same] at z ⊢
          exact z
        · rw [upd_ne hc] at z ⊢
          exact a1.hh _ _ z
      exact ⟨⟨s2.ss.trans a1.ss, s2.hh.trans a2, fun c z => (a1.old c (by
        by_cases hc : c = Dn
        · rw [hc, hx]; exact fun z => nomatch z
        · have := s2.al c z
          rw [upd_ne hc] at this
          exact this)).trans (s2.old c z)⟩, (px.old Dn (by rw [hx3]; exact fun z => nomatch z)).trans sD3, px.hh _ _ hx3⟩
    have tk : ds.take (i + 1) = ds.take i ++ [ds[i]] := List.take_succ_eq_append_getElem hlt
    refine ⟨ew, htt _ hmem _ _ _ ⟨S3, w4, fun S5 H5 s5 w5 => ?_⟩⟩
    cases hp : p ds[i] with
    | true =>
      refine iteT (hte _ hmem hp _ _ _ ⟨S5, w5, fun S6 H6 yv s6 w6 r6 => ?_⟩)
      have st := s5.trans s6
      obtain ⟨z1, z2, z3⟩ := pt (u := .lst (xs ++ [yv])) st
      refine ⟨xs, z3, ?_, hlt, S6, xs ++ [yv], z1, (bk w6 st).tmp z2 hD0 nsl, z2, upd_same, ?_⟩
      · rw [rx.length, List.length_map]
        exact Nat.lt_of_le_of_lt (Nat.le_trans (List.length_filter_le _ _) (by rw [List.length_take]; omega)) (by decide : 100000 < sizeLine)
      · rw [tk, List.filter_append, List.filter_cons_of_pos hp, List.filter_nil, List.map_append]
        exact (rx.mono (p3.ss.trans st.ss)).append (.cons r6 .nil)
    | false =>
      refine iteF ?_
      obtain ⟨z1, z2, z3⟩ := pt (u := .lst xs) s5
      refine ⟨hlt, S5, xs, ?_, bk w5 s5, z2, z3, ?_⟩
      · rw [upd_upd] at z1
        exact z1
      · rw [tk, List.filter_append, List.filter_cons_of_neg (by rw [hp]; exact Bool.false_ne_true), List.filter_nil, List.append_nil]
        exact rx.mono (p3.ss.trans s5.ss)
  · have ei : i = ds.length := by omega
    subst ei
    refine .inl ⟨it.stop _ S2 H2 (Nat.le_refl _) s2.ss w2.nx.sh, q S2 H2 Dn ⟨s1.ss.trans s2.ss, fun c u z => ?_, fun c z => ?_⟩ w2 sD ⟨xs, hx, by rw [List.take_length] at rx; exact rx⟩ hD⟩
    · have h1 := s1.hh _ _ z
      have hc : c ≠ Dn := ne_of_none h1 hD
      have h2 := s2.hh c u (by rw [upd_ne hc]; exact h1)
      rw [upd_ne hc] at h2
      exact h2
    · have h1 := s1.al c z
      have hc : c ≠ Dn := fun y => h1 (by rw [y]; exact hD)
      exact (s2.old c (by rw [upd_ne hc]; exact h1)).trans (s1.old c z)
/-- a pure one: p the test, g the element, by the item -/
theorem lcP_imp {K : Fg} {vs ix : List Nat} {bind : D → Gam → Gam → Prop} {ds : List D} {f : D → Gam} {p : D → Bool} {g : D → D} (hb : BindOk ix bind) (hix : ∀ j ∈ ix, j ∈ vs) (hz : e.own = none ∨ 0 ∉ vs) (hlen : ds.length ≤ 100000) (hs : ∀ d ∈ ds, bind d (wipeG Γ vs) (f d))
    (σ : L2.St) (H : Hp) (Q : VK) (h : tPN K e Γ (.lst ((ds.filter p).map g)) σ H Q) :
    tLc (tIP K e Γ ds) (tG K e ix bind) (fun σ H Q => ∃ d ∈ ds, tPX K e (f d) (p d) σ H Q) (fun σ H Q => ∃ d ∈ ds, p d = true ∧ tP K e (f d) (g d) σ H Q) vs σ H Q :=
  let ⟨S, w, q⟩ := h
  ⟨S, w, fun S1 H1 J s1 w1 it Dn hD => lcP_core (tg := tG K e ix bind) (tt := fun σ H Q => ∃ d ∈ ds, tPX K e (f d) (p d) σ H Q) (te := fun σ H Q => ∃ d ∈ ds, p d = true ∧ tP K e (f d) (g d) σ H Q) hb hix hz hlen hs (fun _ _ _ _ h => h) (fun d hd σ H Q h => ⟨d, hd, h⟩) (fun d hd hp σ H Q h => ⟨d, hd, hp, h⟩) w1 it hD fun S' H' a p' w' sa ow ha => q S' H' a (s1.trans p') w' sa ow (s1.hh.free ha)⟩
/-- [elt for tg in it if ..], pure -/
theorem pn_lc {elt tg iter : Expr} {ifs : List Expr} {scope : Scope} {own : List (Str × Nat)} {pos : Pos} {ix : List Nat} {bind : D → Gam → Gam → Prop} {ds : List D} {f : D → Gam} (p : D → Bool) (g : D → D) (ok : BlkOk X.N X.env.scope scope own) (hN : X.N.Nodup) (hw : WP X e tg iter Γ ds)
    (hg : ∀ (s : Shared) (H : Hp) (C : Addr) (cl : List (Str × Addr)) (fp : List Addr), GV (X.blk s H scope (compEnvC scope cl C X.env) fp) e tg ix bind) (hb : BindOk ix bind) (hix : ∀ j ∈ ix, j ∈ own.map (·.2)) (hz : e.own = none ∨ 0 ∉ own.map (·.2)) (hlen : ds.length ≤ 100000)
    (hs : ∀ d ∈ ds, bind d (wipeG Γ (own.map (·.2))) (f d))
    (ht : ∀ d ∈ ds, ∀ (s : Shared) (H : Hp) (C : Addr) (cl : List (Str × Addr)) (fp : List Addr), PTs (X.blk s H scope (compEnvC scope cl C X.env) fp) ifs (tPX X.K e (f d) (p d)))
    (he : ∀ d ∈ ds, p d = true → ∀ (s : Shared) (H : Hp) (C : Addr) (cl : List (Str × Addr)) (fp : List Addr), PV (X.blk s H scope (compEnvC scope cl C X.env) fp) e elt (f d) (g d))
    (hc : X.calm = true := by rfl) (hfs : ∀ x, foldedSetIterable iter X.env x = pure x := by intro _; rfl) : PN X e (.ListComp elt [⟨tg, iter, ifs, 0⟩] scope pos) Γ (.lst ((ds.filter p).map g)) :=
  PE.imp (pe_lc hc hN hw ok hg (fun s H C cl fp => ⟨fun pins s2 σ H2 Q I ⟨d, hd, q⟩ => (ht d hd s H C cl fp).run pins s2 σ H2 Q I q⟩) (fun s H C cl fp => ⟨fun pins s2 σ H2 Q I ⟨d, hd, hp, q⟩ => (he d hd hp s H C cl fp).run pins s2 σ H2 Q I q⟩) hfs) fun σ H Q h => lcP_imp hb hix hz hlen hs σ H Q h
theorem pts_none {X : Cx} {e : Ent} {Γ : Gam} : PTs X [] (tPX X.K e Γ true) := ⟨fun pins s σ H Q I ⟨S, w, q⟩ => pts_nil.run pins s σ H Q I (q S H (Pur.refl _ _) w)⟩
theorem pts_if {X : Cx} {e : Ent} {Γ : Gam} {c : Expr} {b : Bool} (h : PX X e c Γ b) : PTs X [c] (tPX X.K e Γ b) := pts_one h
end comps
end Kf
end
section
set_option maxRecDepth 100000
set_option maxHeartbeats 4000000
/-! KfF: promises by data, calls, defs. -/
namespace Kf
open PySem L2

/-! ### promises -/
/-- a def of arguments that stand for good: what it asks, gives, raises -/
structure Fp where
  pre : List D → Prop
  post : List D → B → Prop
  exn : List D → Str → List (Str × D) → Prop := fun _ _ _ => False
/-- a raised error: its class by name, its fields -/
def EOk (K : Fg) (S H H' : Hp) (x : Str) (fl : List (Str × D)) (cls : Value) (d : Option Addr) : Prop :=
  cls = .ref (He.ga K x) ∧ ((d = none ∧ fl = []) ∨ ∃ dd fs, d = some dd ∧ H' dd = some (.xd fs) ∧ H dd = none ∧ RpF K S fs fl)
def spP (K : Fg) (c : Fp) : Sp := fun vs H Q E => ∃ S ds, Same S H ∧ RpL K S vs ds ∧ c.pre ds ∧
  (∀ S' H' v b, c.post ds b → Nx ⟨S, H, none⟩ S' H' → ROk K ⟨S, H, none⟩ S' H' v b → Q v H') ∧
  (∀ S' H' x fl cls d, c.exn ds x fl → Nx ⟨S, H, none⟩ S' H' → EOk K S' H H' x fl cls d → E cls d H')
/-- a def whose first argument is the caller's own object -/
structure Fo where
  pre : O → List D → Prop
  post : O → List D → B → O → Prop
  exn : O → List D → Str → List (Str × D) → O → Prop := fun _ _ _ _ _ => False
def spO (K : Fg) (c : Fo) : Sp := fun vs H Q E => ∃ S p vs' o ds, vs = .ref p :: vs' ∧ Same S H ∧ S p = none ∧ Own K S H p o ∧ RpL K S vs' ds ∧ c.pre o ds ∧
  (∀ S' H' v b o', c.post o ds b o' → Nx ⟨S, H, some p⟩ S' H' → Own K S' H' p o' → ROk K ⟨S, H, some p⟩ S' H' v b → Q v H') ∧
  (∀ S' H' x fl cls d o', c.exn o ds x fl o' → Nx ⟨S, H, some p⟩ S' H' → Own K S' H' p o' → EOk K S' H H' x fl cls d → E cls d H')
/-- a def of the text: its name, its room, its promise -/
structure Dn (P : Program) (w : World) (K : Fg) (mg : Str → Option Value) (base : Heap) (x : Str) (k : Nat) (sp : Sp) : Prop where
  at_ : mg x = some (.ref (He.ga K x))
  kp : PySem.W.keepIn K (.ref (He.ga K x)) = true
  fn : FnR P w K mg base (L2.CX P w) k (He.ga K x) sp
abbrev XDn (X : Cx) (x : Str) (k : Nat) (sp : Sp) : Prop := Dn X.prog X.w X.K X.mg X.base x k sp

/-! ### worlds put together -/
section worlds
variable {K : Fg} {e : Ent} {S H S' H' : Hp} {σ : L2.St} {Γ : Gam} {q : Option Addr}
theorem Nx.trans (n : Nx e S H) (m : Nx ⟨S, H, q⟩ S' H') (h : ∀ p, q = some p → e.H0 p = none ∨ e.own = some p) : Nx e S' H' where
  ss := n.ss.trans m.ss
  sh := m.sh
  hh := fun a o z y => m.hh a o (n.hh a o z y) fun x => by
    rcases h a x with r | r
    · rw [r] at z; cases z
    · exact y r
  al := fun a z => m.al a (n.al a z)
  old := fun a z => (m.old a (n.al a z)).trans (n.old a z)
/-- behind a call that changes nothing of one's own -/
theorem Wd.after (w : Wd K e S H σ Γ) (m : Nx ⟨S, H, none⟩ S' H') : Wd K e S' H' σ Γ ∧ Pur S H S' H' := by
  have p : Pur S H S' H' := ⟨m.ss, fun a o z => m.hh a o z (fun y => nomatch y), m.old⟩
  refine ⟨⟨w.nx.trans m fun p z => (nomatch z), w.sl.to m.ss fun a sa ha => ?_⟩, p⟩
  cases z : H a with
  | none => exact absurd z ha
  | some u => exact ⟨p.hh _ _ z, (m.old a ha).trans sa⟩
/-- behind a call that has changed the object in slot i -/
theorem Wd.afterO {i : Nat} {p : Addr} {o o' : O} (w : Wd K e S H σ Γ) (hi : Γ[i]? = some (some (.ow o))) (hp : σ[i]? = some (some (.ref p))) (m : Nx ⟨S, H, some p⟩ S' H') (ow : Own K S' H' p o') :
    Wd K e S' H' σ (Γ.set i (some (.ow o'))) ∧ Stp σ Γ S H (Γ.set i (some (.ow o'))) S' H' := by
  obtain ⟨v, h1, c, h2, sc, oc, hc⟩ := w.sl.at_ i _ hi
  rw [hp] at h1
  cases h1
  cases h2
  have sp' : S' p = none := (m.old p oc.some).trans sc
  have g : ∀ {j : Nat} {o1 : O}, (Γ.set i (some (.ow o')))[j]? = some (some (.ow o1)) → ∃ o2, Γ[j]? = some (some (.ow o2)) := fun {j o1} q => by
    rcases get_set q with ⟨rfl, _⟩ | ⟨_, h⟩
    · exact ⟨o, hi⟩
    · exact ⟨o1, h⟩
  refine ⟨⟨w.nx.trans m fun x z => by cases z; exact hc, by rw [List.length_set]; exact w.sl.len, fun j b y => ?_, fun j k o1 o2 x q1 q2 q3 q4 => ?_, fun x z => ?_⟩, ⟨m.ss, fun a u z n => m.hh a u z fun y => ?_, m.al, m.old, fun j o1 y => g y⟩⟩
  · rcases get_set y with ⟨rfl, h⟩ | ⟨n, h⟩
    · have h' := Option.some.inj h
      subst h'
      exact ⟨_, hp, p, rfl, sp', ow, hc⟩
    · obtain ⟨u, h1, h2⟩ := w.sl.at_ j b h
      refine ⟨u, h1, ?_⟩
      cases b with
      | st d => exact Rp.mono m.ss h2
      | xc a d fl => exact h2.xcm m.ss
      | nw d l => exact h2.elim
      | nt o1 o2 => exact h2.elim
      | ow o1 =>
        obtain ⟨x, h3, h4, h5, h6⟩ := h2
        subst h3
        have nx : x ≠ p := fun z => n (w.sl.dj i j o o1 p hi h hp (by rw [h1, z]))
        cases z : H x with
        | none => exact absurd z h5.some
        | some u => exact ⟨x, rfl, (m.old x h5.some).trans h4, h5.to m.ss ((m.hh x u z fun y => nx (Option.some.inj y).symm).trans z.symm), h6⟩
  · obtain ⟨p1, g1⟩ := g q1
    obtain ⟨p2, g2⟩ := g q2
    exact w.sl.dj j k p1 p2 x g1 g2 q3 q4
  · obtain ⟨h1, o1, h2⟩ := w.sl.z x z
    refine ⟨h1, ?_⟩
    by_cases n : i = 0
    · subst n
      exact ⟨o', set_at (List.getElem?_eq_some_iff.mp h2).1⟩
    · exact ⟨o1, by rw [List.getElem?_set_ne n]; exact h2⟩
  · cases y
    exact n i o hi hp
end worlds

/-! ### errors that leave -/
/-- the wish of a body: errors by class name, fields, environment -/
abbrev Wx := Str → List (Str × D) → Gam → Prop
def wX (K : Fg) (e : Ent) (W : Wx) : WX := fun cls d σ H => ∃ S x fl Γ, W x fl Γ ∧ Wd K e S H σ Γ ∧ EOk K S e.H0 H x fl cls d
theorem eok_up {K : Fg} {e : Ent} {S H S' H' : Hp} {x : Str} {fl : List (Str × D)} {cls : Value} {d : Option Addr} (n : Nx e S H) (h : EOk K S' H H' x fl cls d) : EOk K S' e.H0 H' x fl cls d := by
  obtain ⟨h1, h⟩ := h
  rcases h with h | ⟨dd, fs, h2, h3, h4, h5⟩
  · exact ⟨h1, .inl h⟩
  · exact ⟨h1, .inr ⟨dd, fs, h2, h3, n.fresh h4, h5⟩⟩

/-! ### calls -/
section calls
variable {X : Cx} {e : Ent} {Γ : Gam} {f : Addr} {sp : Sp} {k j : Nat} {W : WX} {x : Str} {p pos apos : Pos} {a : Expr} {es : List Expr}
theorem run_fnW {pins : List (Addr × Obj)} {σ : L2.St} {H : Hp} {s : Shared} {Q : VK} {us : List Value} {vs : List V} (F : FnR X.prog X.w X.K X.mg X.base (L2.CX X.prog X.w) k f sp) (hr : Room k X.A) (tk : Takes X W) (I : Inv X pins σ H s) (r : Vals vs us)
    (h : sp vs H Q (fun c d H2 => W c d σ H2)) : wpAny (model X.prog X.w) X.A (call (.ref f) us) (EP X pins σ Q) X.xe s := by
  refine wpAny_call (codeAny_mono (F X.A X.stack s H us vs Q _ hr I.env0 r h) fun r s' hq => ?_)
  cases r with
  | error u => exact tk u s' (XE.of_call I (fun _ _ _ z => z) hq)
  | ok fl =>
    cases fl with
    | ret u => exact I.after hq
    | next => exact False.elim hq
    | brk => exact False.elim hq
    | cont => exact False.elim hq
theorem pe_callW {t : TA} (F : FnR X.prog X.w X.K X.mg X.base (L2.CX X.prog X.w) k f sp) (hr : Room k X.A) (tk : Takes X W) (hg : Gl X x) (hm : X.mg x = some (.ref f)) (hk : PySem.W.keepIn X.K (.ref f) = true) (ha : PA X (a :: es) t) (hdb : (x == ("__debug__" : Str)) = false := by decide)
    (he : starEach (a :: es) X.env = (false, eval a X.env) :: starEach es X.env := by rfl) (hpl : (backTo pos (starEach es X.env)).any (·.1) = false := by rfl) :
    PE X (.Call (.Name x p) (a :: es) [] pos) (fun σ H Q => t σ H fun vs H1 => sp vs H1 Q fun c d H2 => W c d σ H2) := by
  refine ⟨fun pins s σ H Q I h => ?_⟩
  refine wpAny_Call_Name_kw (ld_glob I hg hm ?_ hdb)
  refine PySem.W.callWith_K (h₀ := X.base) I.ok.mod.kin hk (thn (ha.run pos pins s σ H _ I h) fun us s1 ⟨vs, H1, I1, r, q⟩ => ⟨I1.kIn, ?_⟩) he hpl
  exact run_fnW F hr tk I1 r q
theorem pe_callW0 (F : FnR X.prog X.w X.K X.mg X.base (L2.CX X.prog X.w) k f sp) (hr : Room k X.A) (tk : Takes X W) (hg : Gl X x) (hm : X.mg x = some (.ref f)) (hk : PySem.W.keepIn X.K (.ref f) = true) (hdb : (x == ("__debug__" : Str)) = false := by decide) :
    PE X (.Call (.Name x p) [] [] pos) (fun σ H Q => sp [] H Q fun c d H2 => W c d σ H2) := by
  refine ⟨fun pins s σ H Q I h => ?_⟩
  refine wpAny_Call_Name_kw (ld_glob I hg hm ?_ hdb)
  exact PySem.W.callWith_K0 I.kIn hk (run_fnW (us := []) F hr tk I .nil h)
/-- a pure call: one value, nothing raised -/
theorem pv_call {c : Fp} {ds : List D} {d : D} (N : XDn X x k (spP X.K c)) (hr : Room j X.A) (hj : k ≤ j) (ha : PVs X e (a :: es) Γ ds) (hp : c.pre ds) (hq : ∀ b, c.post ds b → b = .st d) (hx : ∀ y fl, ¬ c.exn ds y fl) (hg : Gl X x := by rfl) (hdb : (x == ("__debug__" : Str)) = false := by decide)
    (he : starEach (a :: es) X.env = (false, eval a X.env) :: starEach es X.env := by rfl) (hpl : (backTo pos (starEach es X.env)).any (·.1) = false := by rfl) : PV X e (.Call (.Name x p) (a :: es) [] pos) Γ d :=
  PE.imp (pe_callW N.fn (hr.mono hj) takes0 hg N.at_ N.kp ha hdb he hpl) fun σ H Q ⟨S, w, q⟩ => ⟨S, w, fun S1 H1 vs s1 w1 r1 => ⟨S1, ds, w1.nx.sh, r1, hp, fun S2 H2 v b hb n2 r2 => by
    obtain ⟨w2, s2⟩ := w1.after n2
    rw [hq b hb] at r2
    exact q S2 H2 v (s1.trans s2) w2 r2, fun S2 H2 y fl cls dd hy => (hx y fl hy).elim⟩⟩
/-- .. that makes a new object -/
theorem pn_call {c : Fp} {ds : List D} {o : O} (N : XDn X x k (spP X.K c)) (hr : Room j X.A) (hj : k ≤ j) (ha : PVs X e (a :: es) Γ ds) (hp : c.pre ds) (hq : ∀ b, c.post ds b → b = .ow o) (hx : ∀ y fl, ¬ c.exn ds y fl) (hg : Gl X x := by rfl) (hdb : (x == ("__debug__" : Str)) = false := by decide)
    (he : starEach (a :: es) X.env = (false, eval a X.env) :: starEach es X.env := by rfl) (hpl : (backTo pos (starEach es X.env)).any (·.1) = false := by rfl) : PN X e (.Call (.Name x p) (a :: es) [] pos) Γ o :=
  PE.imp (pe_callW N.fn (hr.mono hj) takes0 hg N.at_ N.kp ha hdb he hpl) fun σ H Q ⟨S, w, q⟩ => ⟨S, w, fun S1 H1 vs s1 w1 r1 => ⟨S1, ds, w1.nx.sh, r1, hp, fun S2 H2 v b hb n2 r2 => by
    obtain ⟨w2, s2⟩ := w1.after n2
    rw [hq b hb] at r2
    obtain ⟨p2, rfl, sp2, ow2, h0⟩ := r2
    exact q S2 H2 p2 (s1.trans s2) w2 sp2 ow2 (s1.hh.free h0), fun S2 H2 y fl cls dd hy => (hx y fl hy).elim⟩⟩
/-- any call of arguments that stand for good; U: the errors taken here -/
theorem ev_call {c : Fp} {Φa : List D → Gam → Prop} {Φ : D → Gam → Prop} {U : Wx} (N : XDn X x k (spP X.K c)) (hr : Room j X.A) (hj : k ≤ j) (tk : Takes X (wX X.K e U)) (ha : AV X e (a :: es) Γ Φa)
    (h : ∀ ds Γ1, Φa ds Γ1 → c.pre ds ∧ (∀ b, c.post ds b → ∃ d, (b = .st d ∨ ∃ o, b = .ow o ∧ o.d = d) ∧ Φ d Γ1) ∧ ∀ y fl, c.exn ds y fl → U y fl Γ1) (hg : Gl X x := by rfl) (hdb : (x == ("__debug__" : Str)) = false := by decide)
    (he : starEach (a :: es) X.env = (false, eval a X.env) :: starEach es X.env := by rfl) (hpl : (backTo pos (starEach es X.env)).any (·.1) = false := by rfl) : EV X e (.Call (.Name x p) (a :: es) [] pos) Γ Φ :=
  PE.imp (pe_callW N.fn (hr.mono hj) tk hg N.at_ N.kp ha hdb he hpl) fun σ H Q ⟨S, w, q⟩ => ⟨S, w, fun S1 H1 vs ds Γ1 hds s1 w1 r1 => by
    obtain ⟨h1, h2, h3⟩ := h ds Γ1 hds
    refine ⟨S1, ds, w1.nx.sh, r1, h1, fun S2 H2 v b hb n2 r2 => ?_, fun S2 H2 y fl cls dd hy n2 r2 => ?_⟩
    · obtain ⟨w2, s2⟩ := w1.after n2
      obtain ⟨d, hd, hΦ⟩ := h2 b hb
      rcases hd with rfl | ⟨o, rfl, rfl⟩
      · exact q S2 H2 v d Γ1 hΦ (s1.trans s2.stp) w2 r2
      · obtain ⟨p2, rfl, sp2, ow2, h0⟩ := r2
        obtain ⟨S3, s3, w3, r3⟩ := tO_frz (s1.trans s2.stp) w w2 sp2 ow2 (by
          cases z : H p2 with
          | none => rfl
          | some u => exact absurd h0 (s1.al p2 (by rw [z]; exact fun t => nomatch t)))
        exact q S3 H2 _ _ Γ1 hΦ s3 w3 r3
    · obtain ⟨w2, _⟩ := w1.after n2
      exact ⟨S2, y, fl, Γ1, h3 y fl hy, w2, eok_up w1.nx r2⟩⟩
theorem eo_call {c : Fp} {Φa : List D → Gam → Prop} {Φ : O → Gam → Prop} {U : Wx} (N : XDn X x k (spP X.K c)) (hr : Room j X.A) (hj : k ≤ j) (tk : Takes X (wX X.K e U)) (ha : AV X e (a :: es) Γ Φa)
    (h : ∀ ds Γ1, Φa ds Γ1 → c.pre ds ∧ (∀ b, c.post ds b → ∃ o, b = .ow o ∧ Φ o Γ1) ∧ ∀ y fl, c.exn ds y fl → U y fl Γ1) (hg : Gl X x := by rfl) (hdb : (x == ("__debug__" : Str)) = false := by decide)
    (he : starEach (a :: es) X.env = (false, eval a X.env) :: starEach es X.env := by rfl) (hpl : (backTo pos (starEach es X.env)).any (·.1) = false := by rfl) : EO X e (.Call (.Name x p) (a :: es) [] pos) Γ Φ :=
  PE.imp (pe_callW N.fn (hr.mono hj) tk hg N.at_ N.kp ha hdb he hpl) fun σ H Q ⟨S, w, q⟩ => ⟨S, w, fun S1 H1 vs ds Γ1 hds s1 w1 r1 => by
    obtain ⟨h1, h2, h3⟩ := h ds Γ1 hds
    refine ⟨S1, ds, w1.nx.sh, r1, h1, fun S2 H2 v b hb n2 r2 => ?_, fun S2 H2 y fl cls dd hy n2 r2 => ?_⟩
    · obtain ⟨w2, s2⟩ := w1.after n2
      obtain ⟨o, rfl, hΦ⟩ := h2 b hb
      obtain ⟨p2, rfl, sp2, ow2, h0⟩ := r2
      exact q S2 H2 p2 o Γ1 hΦ (s1.trans s2.stp) w2 sp2 ow2 (by
          cases z : H p2 with
          | none => rfl
          | some u => exact absurd h0 (s1.al p2 (by rw [z]; exact fun t => nomatch t)))
    · obtain ⟨w2, _⟩ := w1.after n2
      exact ⟨S2, y, fl, Γ1, h3 y fl hy, w2, eok_up w1.nx r2⟩⟩
/-- f(own, ..): the first argument is the object in slot i, changed by the call -/
theorem tCallO {K : Fg} {c : Fo} {n : Str} {np : Pos} {Φa : List D → Gam → Prop} {U : Wx} {i : Nat} {o0 : O} {t : TE} (h0 : Γ[i]? = some (some (.ow o0)))
    {Ψ : O → List D → Gam → Prop} (h : ∀ ds Γ1, Φa ds Γ1 → ∃ o, Γ1[i]? = some (some (.ow o)) ∧ c.pre o ds ∧ (∀ y fl o', c.exn o ds y fl o' → U y fl (Γ1.set i (some (.ow o')))))
    {σ : L2.St} {H : Hp} {Q : VK} (hq : ∃ S, Wd K e S H σ Γ ∧ ∀ S1 H1 ds Γ1 o S2 H2 v b o', Φa ds Γ1 → Γ1[i]? = some (some (.ow o)) → c.post o ds b o' → Stp σ Γ S H (Γ1.set i (some (.ow o'))) S2 H2 → Wd K e S2 H2 σ (Γ1.set i (some (.ow o'))) → (∃ p, ROk K ⟨S1, H1, some p⟩ S2 H2 v b ∧ ∀ q, H1 q = none → H q = none) → Q v H2) :
    tCons (tVar i) (tA K e Γ Φa) σ H fun vs H1 => spO K c vs H1 Q fun cl d H2 => wX K e U cl d σ H2 := by
  obtain ⟨S, w, q⟩ := hq
  obtain ⟨v, h1, p, h2, sp, ow, hp⟩ := w.sl.at_ i _ h0
  subst h2
  refine ⟨_, h1, S, w, fun S1 H1 vs ds Γ1 hds s1 w1 r1 => ?_⟩
  obtain ⟨o, g0, g1, g2⟩ := h ds Γ1 hds
  obtain ⟨v', h3, p', h4, sp1, ow1, hp1⟩ := w1.sl.at_ i _ g0
  rw [h1] at h3
  cases h3
  cases h4
  refine ⟨S1, p, vs, o, ds, rfl, w1.nx.sh, sp1, ow1, r1, g1, fun S2 H2 v b o' hb n2 ow2 r2 => ?_, fun S2 H2 y fl cls dd o' hy n2 ow2 r2 => ?_⟩
  · obtain ⟨w2, s2⟩ := w1.afterO g0 h1 n2 ow2
    exact q S1 H1 ds Γ1 o S2 H2 v b o' hds g0 hb (s1.trans s2) w2 ⟨p, r2, fun c hc => by
      cases z : H c with
      | none => rfl
      | some u => exact absurd hc (s1.al c (by rw [z]; exact fun t => nomatch t))⟩
  · obtain ⟨w2, s2⟩ := w1.afterO g0 h1 n2 ow2
    exact ⟨S2, y, fl, _, g2 y fl o' hy, w2, eok_up w1.nx r2⟩
theorem ev_callO {c : Fo} {n : Str} {np : Pos} {Φa : List D → Gam → Prop} {Φ : D → Gam → Prop} {U : Wx} (i : Nat) {o0 : O} (N : XDn X x k (spO X.K c)) (hr : Room j X.A) (hj : k ≤ j) (tk : Takes X (wX X.K e U)) (h0 : Γ[i]? = some (some (.ow o0))) (ha : AV X e es Γ Φa)
    (h : ∀ ds Γ1, Φa ds Γ1 → ∃ o, Γ1[i]? = some (some (.ow o)) ∧ c.pre o ds ∧ (∀ b o', c.post o ds b o' → ∃ d, (b = .st d ∨ ∃ o, b = .ow o ∧ o.d = d) ∧ Φ d (Γ1.set i (some (.ow o')))) ∧ ∀ y fl o', c.exn o ds y fl o' → U y fl (Γ1.set i (some (.ow o'))))
    (hN : X.N[i]? = some n := by rfl) (hv : Vis X.env.scope n := by first | exact Or.inl rfl | exact Or.inr (Or.inl rfl) | exact Or.inr (Or.inr rfl)) (hg : Gl X x := by rfl) (hdb : (x == ("__debug__" : Str)) = false := by decide)
    (he : starEach (.Name n np :: es) X.env = (false, eval (.Name n np) X.env) :: starEach es X.env := by rfl) (hpl : (backTo pos (starEach es X.env)).any (·.1) = false := by rfl) (h1 : (n == ("__debug__" : Str)) = false := by decide) (h2 : (n == ("__classdict__" : Str)) = false := by decide) :
    EV X e (.Call (.Name x p) (.Name n np :: es) [] pos) Γ Φ :=
  PE.imp (pe_callW N.fn (hr.mono hj) tk hg N.at_ N.kp (pa_cons (pe_var hN hv h1 h2) ha he) hdb he hpl) fun σ H Q ⟨S, w, q⟩ => tCallO (n := n) (np := np) (t := tC .non) (Ψ := fun _ _ _ => True) h0 (fun ds Γ1 hds => let ⟨o, g1, g2, _, g4⟩ := h ds Γ1 hds; ⟨o, g1, g2, g4⟩) ⟨S, w, fun S1 H1 ds Γ1 o S2 H2 v b o' hds g0 hb s2 w2 ⟨pp, r2, fr⟩ => by
    obtain ⟨o2, g1, _, g3, _⟩ := h ds Γ1 hds
    rw [g0] at g1
    cases g1
    obtain ⟨d, hd, hΦ⟩ := g3 b o' hb
    rcases hd with rfl | ⟨o3, rfl, rfl⟩
    · exact q S2 H2 v d _ hΦ s2 w2 r2
    · obtain ⟨p2, rfl, sp2, ow2, z0⟩ := r2
      obtain ⟨S3, s3, w3, r3⟩ := tO_frz s2 w w2 sp2 ow2 (fr p2 z0)
      exact q S3 H2 _ _ _ hΦ s3 w3 r3⟩
theorem eo_callO {c : Fo} {n : Str} {np : Pos} {Φa : List D → Gam → Prop} {Φ : O → Gam → Prop} {U : Wx} (i : Nat) {o0 : O} (N : XDn X x k (spO X.K c)) (hr : Room j X.A) (hj : k ≤ j) (tk : Takes X (wX X.K e U)) (h0 : Γ[i]? = some (some (.ow o0))) (ha : AV X e es Γ Φa)
    (h : ∀ ds Γ1, Φa ds Γ1 → ∃ o, Γ1[i]? = some (some (.ow o)) ∧ c.pre o ds ∧ (∀ b o', c.post o ds b o' → ∃ o2, b = .ow o2 ∧ Φ o2 (Γ1.set i (some (.ow o')))) ∧ ∀ y fl o', c.exn o ds y fl o' → U y fl (Γ1.set i (some (.ow o'))))
    (hN : X.N[i]? = some n := by rfl) (hv : Vis X.env.scope n := by first | exact Or.inl rfl | exact Or.inr (Or.inl rfl) | exact Or.inr (Or.inr rfl)) (hg : Gl X x := by rfl) (hdb : (x == ("__debug__" : Str)) = false := by decide)
    (he : starEach (.Name n np :: es) X.env = (false, eval (.Name n np) X.env) :: starEach es X.env := by rfl) (hpl : (backTo pos (starEach es X.env)).any (·.1) = false := by rfl) (h1 : (n == ("__debug__" : Str)) = false := by decide) (h2 : (n == ("__classdict__" : Str)) = false := by decide) :
    EO X e (.Call (.Name x p) (.Name n np :: es) [] pos) Γ Φ :=
  PE.imp (pe_callW N.fn (hr.mono hj) tk hg N.at_ N.kp (pa_cons (pe_var hN hv h1 h2) ha he) hdb he hpl) fun σ H Q ⟨S, w, q⟩ => tCallO (n := n) (np := np) (t := tC .non) (Ψ := fun _ _ _ => True) h0 (fun ds Γ1 hds => let ⟨o, g1, g2, _, g4⟩ := h ds Γ1 hds; ⟨o, g1, g2, g4⟩) ⟨S, w, fun S1 H1 ds Γ1 o S2 H2 v b o' hds g0 hb s2 w2 ⟨pp, r2, fr⟩ => by
    obtain ⟨o2, g1, _, g3, _⟩ := h ds Γ1 hds
    rw [g0] at g1
    cases g1
    obtain ⟨o3, rfl, hΦ⟩ := g3 b o' hb
    obtain ⟨p2, rfl, sp2, ow2, z0⟩ := r2
    exact q S2 H2 p2 o3 _ hΦ s2 w2 sp2 ow2 (fr p2 z0)⟩
end calls

/-! ### defs -/
section defs
variable {P : Program} {w : World} {K : Fg} {mg : Str → Option Value} {base : Heap} {x qual : Str} {params : Arguments} {body : List Stmt} {scope : Scope} {dvs : List V} {f : Addr} {fd : FuncData}
def gam0 (N : List Str) (bs : List B) : Gam := bs.map some ++ List.replicate (N.length - bs.length) none
theorem start_sl {K : Fg} {S H : Hp} {N : List Str} {vs : List V} {ds : List D} (r : RpL K S vs ds) : Sl K ⟨S, H, none⟩ S H (L2.start N vs) (gam0 N (ds.map .st)) := by
  have hl := r.length
  refine ⟨by unfold L2.start gam0; simp [hl], fun i b q => ?_, fun i j o o' a q => ?_, fun a z => nomatch z⟩
  · unfold gam0 at q
    by_cases hi : i < ds.length
    · rw [List.getElem?_append_left (by simpa using hi), List.getElem?_map, List.getElem?_map] at q
      cases z : ds[i]? with
      | none => rw [z] at q; cases q
      | some d =>
        rw [z] at q
        cases q
        obtain ⟨v, h1, h2⟩ := r.get z
        exact ⟨v, by unfold L2.start; rw [List.getElem?_append_left (by rw [List.length_map, hl]; exact hi), List.getElem?_map, h1]; rfl, h2⟩
    · rw [List.getElem?_append_right (by simp; omega), List.getElem?_replicate] at q
      split at q <;> cases q
  · exfalso
    unfold gam0 at q
    by_cases hi : i < ds.length
    · rw [List.getElem?_append_left (by simpa using hi), List.getElem?_map, List.getElem?_map] at q
      cases z : ds[i]? with
      | none => rw [z] at q; cases q
      | some d => rw [z] at q; cases q
    · rw [List.getElem?_append_right (by simp; omega), List.getElem?_replicate] at q
      split at q <;> cases q
/-- THE RULE for a def of arguments that stand for good -/
theorem fp_ok {N ps : List Str} {k : Nat} {c : Fp} (F : FunD K x qual params body scope dvs [] f fd) (S : FnScope N ps scope) (hlen : ∀ ds, c.pre ds → ds.length = ps.length)
    (hb : ∀ (cdv : Value) (A : Around) (outer : List Env) (s : Shared) (e : Ent) (E : XK) (ds : List D), e.own = none → c.pre ds → Room k (A.deeper (PyProof.Rows.envOfC qual scope s.heap.objs.size f cdv)) →
      Takes (cxOf (L2.CX P w) P w K mg base N qual scope f cdv A outer s e.H0 E) (wX K e fun y fl _ => c.exn ds y fl) →
      BL (cxOf (L2.CX P w) P w K mg base N qual scope f cdv A outer s e.H0 E) e body (gam0 N (ds.map .st)) { nx := fun _ => c.post ds (.st .non), rt := fun b _ => c.post ds b }) :
    FnOk P w K mg base (L2.CX P w) (k + 1) f fd ps (spP K c) := by
  refine F.ok S (fun vs H Q E ⟨S0, ds, _, r, hp, _⟩ => by rw [r.length]; exact hlen ds hp) (fun cdv A outer s H vs Q E hr ⟨S0, ds, sh, r, hp, hq, hE⟩ => ?_)
  have tk : Takes (cxOf (L2.CX P w) P w K mg base N qual scope f cdv A outer s H E) (wX K ⟨S0, H, none⟩ fun y fl _ => c.exn ds y fl) :=
    (takes_of (X := cxOf (L2.CX P w) P w K mg base N qual scope f cdv A outer s H E) (E := E) rfl rfl rfl rfl).imp fun cl d σ H' ⟨S', y, fl, Γ, hy, wd, he⟩ => hE S' H' y fl cl d hy wd.nx he
  refine ⟨_, hb cdv A outer s ⟨S0, H, none⟩ E ds rfl hp hr tk, S0, ⟨⟨Same.refl _, sh, fun _ _ z _ => z, fun _ z => z, fun _ _ => rfl⟩, start_sl r⟩, fun S' σ' H' Γ' q s' w' => ?_, fun _ _ _ _ z => z.elim, fun _ _ _ _ z => z.elim, fun S' σ' H' v b Γ' q s' w' ok => hq S' H' v b q w'.nx ok⟩
  exact hq S' H' .non (.st .non) q w'.nx .non
theorem start_slO {K : Fg} {S H : Hp} {N : List Str} {p : Addr} {o : O} {vs : List V} {ds : List D} (sp : S p = none) (ow : Own K S H p o) (r : RpL K S vs ds) : Sl K ⟨S, H, some p⟩ S H (L2.start N (.ref p :: vs)) (gam0 N (.ow o :: ds.map .st)) := by
  have hl := r.length
  have key : ∀ (i : Nat) (b : B), (gam0 N (.ow o :: ds.map .st))[i]? = some (some b) → (i = 0 ∧ b = .ow o) ∨ ∃ d, ds[i - 1]? = some d ∧ b = .st d ∧ 0 < i := fun i b q => by
    unfold gam0 at q
    cases i with
    | zero =>
      have q' : some (some (B.ow o)) = some (some b) := q
      exact .inl ⟨rfl, (Option.some.inj (Option.some.inj q')).symm⟩
    | succ i =>
      refine .inr ?_
      rw [List.map_cons, List.cons_append, List.getElem?_cons_succ] at q
      by_cases hi : i < ds.length
      · rw [List.getElem?_append_left (by simpa using hi), List.getElem?_map, List.getElem?_map] at q
        cases z : ds[i]? with
        | none => rw [z] at q; cases q
        | some d => rw [z] at q; cases q; exact ⟨d, z, rfl, Nat.succ_pos _⟩
      · rw [List.getElem?_append_right (by simp; omega), List.getElem?_replicate] at q
        split at q <;> cases q
  refine ⟨by unfold L2.start gam0; simp [hl], fun i b q => ?_, fun i j o1 o2 a q1 q2 _ _ => ?_, fun a z => ?_⟩
  · rcases key i b q with ⟨rfl, rfl⟩ | ⟨d, hd, rfl, hi⟩
    · exact ⟨.ref p, rfl, p, rfl, sp, ow, .inr rfl⟩
    · obtain ⟨v, h1, h2⟩ := r.get hd
      refine ⟨v, ?_, h2⟩
      cases i with
      | zero => cases hi
      | succ i =>
        unfold L2.start
        rw [List.map_cons, List.cons_append, List.getElem?_cons_succ, List.getElem?_append_left (by rw [List.length_map]; exact (List.getElem?_eq_some_iff.mp h1).1), List.getElem?_map]
        have h1' : vs[i]? = some v := h1
        rw [h1']
        rfl
  · rcases key i _ q1 with ⟨rfl, _⟩ | ⟨d, _, h, _⟩
    · rcases key j _ q2 with ⟨rfl, _⟩ | ⟨d, _, h, _⟩
      · rfl
      · cases h
    · cases h
  · cases z
    exact ⟨rfl, o, rfl⟩
/-- .. for a def that changes its first argument -/
theorem fo_ok {N ps : List Str} {k : Nat} {c : Fo} (F : FunD K x qual params body scope dvs [] f fd) (S : FnScope N ps scope) (hlen : ∀ o ds, c.pre o ds → ds.length + 1 = ps.length)
    (hb : ∀ (cdv : Value) (A : Around) (outer : List Env) (s : Shared) (e : Ent) (E : XK) (o : O) (ds : List D), c.pre o ds → Room k (A.deeper (PyProof.Rows.envOfC qual scope s.heap.objs.size f cdv)) →
      Takes (cxOf (L2.CX P w) P w K mg base N qual scope f cdv A outer s e.H0 E) (wX K e fun y fl Γ => ∃ o', Γ[0]? = some (some (.ow o')) ∧ c.exn o ds y fl o') →
      BL (cxOf (L2.CX P w) P w K mg base N qual scope f cdv A outer s e.H0 E) e body (gam0 N (.ow o :: ds.map .st)) { nx := fun Γ => ∃ o', Γ[0]? = some (some (.ow o')) ∧ c.post o ds (.st .non) o', rt := fun b Γ => ∃ o', Γ[0]? = some (some (.ow o')) ∧ c.post o ds b o' }) :
    FnOk P w K mg base (L2.CX P w) (k + 1) f fd ps (spO K c) := by
  refine F.ok S (fun vs H Q E ⟨S0, p, vs', o, ds, ev, _, _, _, r, hp, _⟩ => by rw [ev, List.length_cons, r.length]; exact hlen o ds hp) (fun cdv A outer s H vs Q E hr ⟨S0, p, vs', o, ds, ev, sh, sp, ow, r, hp, hq, hE⟩ => ?_)
  subst ev
  have ownAt : ∀ {S' H' : Hp} {σ' : L2.St} {Γ : Gam} {o' : O}, Wd K ⟨S0, H, some p⟩ S' H' σ' Γ → Γ[0]? = some (some (.ow o')) → Own K S' H' p o' := fun {S' H' σ' Γ o'} wd h => by
    obtain ⟨h1, _⟩ := wd.sl.z p rfl
    obtain ⟨v, h2, a, h3, _, h4, _⟩ := wd.sl.at_ 0 _ h
    rw [h1] at h2
    cases h2
    cases h3
    exact h4
  have tk : Takes (cxOf (L2.CX P w) P w K mg base N qual scope f cdv A outer s H E) (wX K ⟨S0, H, some p⟩ fun y fl Γ => ∃ o', Γ[0]? = some (some (.ow o')) ∧ c.exn o ds y fl o') :=
    (takes_of (X := cxOf (L2.CX P w) P w K mg base N qual scope f cdv A outer s H E) (E := E) rfl rfl rfl rfl).imp fun cl d σ H' ⟨S', y, fl, Γ, ⟨o', h1, hy⟩, wd, he⟩ => hE S' H' y fl cl d o' hy wd.nx (ownAt wd h1) he
  refine ⟨_, hb cdv A outer s ⟨S0, H, some p⟩ E o ds hp hr tk, S0, ⟨⟨Same.refl _, sh, fun _ _ z _ => z, fun _ z => z, fun _ _ => rfl⟩, start_slO sp ow r⟩, fun S' σ' H' Γ' ⟨o', h1, q⟩ s' w' => ?_, fun _ _ _ _ z => z.elim, fun _ _ _ _ z => z.elim, fun S' σ' H' v b Γ' ⟨o', h1, q⟩ s' w' ok => ?_⟩
  · exact hq S' H' .non (.st .non) o' q w'.nx (ownAt w' h1) .non
  · exact hq S' H' v b o' q w'.nx (ownAt w' h1) ok
/-- by its name -/
theorem dn_of {k : Nat} {sp : Sp} {ps : List Str} (F : FunD K x qual params body scope [] [] (He.ga K x) fd) (h : FnOk P w K mg base (L2.CX P w) k (He.ga K x) fd ps sp) (hm : mg x = some (.ref (He.ga K x)))
    (hb : ∀ (kV doc pm : Value) (an : Option Addr) (cdv ct : Value) (us : List Value), us.length = ps.length → bindArgs (PySem.W.fnOf x qual params body scope .none kV doc pm an cdv ct) ⟨us, []⟩ = pure (ps.zip us)) : Dn P w K mg base x k sp :=
  ⟨hm, F.kp, (h.raw (F.bindsN hb) .nil).imp fun vs H Q E z => by rw [List.append_nil]; exact z⟩
end defs
end Kf
end
section
set_option maxRecDepth 100000
set_option maxHeartbeats 4000000
/-! KfG: stores, built-ins on data, dicts. -/
namespace Kf
open PySem L2

section stores
variable {X : Cx} {e : Ent} {Γ : Gam} {x y : Expr} {pos : Pos} {k : Kn} {rest : List Stmt}
/-- x[j] = v, x a list of one's own -/
theorem bl_sub {n : Str} {np sp : Pos} {Φ : D → Gam → Prop} (i : Nat) (he : EV X e x Γ Φ) (h : ∀ d Γ', Φ d Γ' → ∃ l j m, Γ'[i]? = some (some (.ow (.lst l))) ∧ PV X e y Γ' (.int j) ∧ ixN l.length j = some m ∧ BL X e rest (Γ'.set i (some (.ow (.lst (l.set m d))))) k)
    (hN : X.N[i]? = some n := by rfl) (hv : Vis X.env.scope n := by first | exact Or.inl rfl | exact Or.inr (Or.inl rfl) | exact Or.inr (Or.inr rfl)) (h1 : (n == ("__debug__" : Str)) = false := by decide) (h2 : (n == ("__classdict__" : Str)) = false := by decide)
    (hpe : ∀ {te ti : TE}, PE X x te → PE X y ti → PS X (.Assign [.Subscript (.Name n np) y sp] x pos) (tAsg te (gSub (tVar i) ti rSetL)) := by exact fun a b => ps_asg a (pg_sub (pv _) b set_list)) :
    BL X e (.Assign [.Subscript (.Name n np) y sp] x pos :: rest) Γ k := by
  have hy : PE X y (fun σ H Q => ∃ d Γ' j, Φ d Γ' ∧ PV X e y Γ' (.int j) ∧ tP X.K e Γ' (.int j) σ H Q) := ⟨fun pins s σ H Q I ⟨d, Γ', j, _, hp, q⟩ => hp.run pins s σ H Q I q⟩
  refine bl_cons (fun Γ2 => ∃ (d : D) (Γ' : Gam) (l : List D) (m : Nat), Φ d Γ' ∧ Γ2 = Γ'.set i (some (.ow (.lst (l.set m d)))) ∧ BL X e rest Γ2 k) (PS.imp (hpe he hy) fun D σ H ⟨S, w, nx, _⟩ => ⟨S, w, fun S1 H1 v d Γ1 hd s1 w1 r1 => ?_⟩) fun Γ2 ⟨_, _, _, _, _, _, z⟩ => z
  obtain ⟨l, j, m, g1, g2, g3, g4⟩ := h d Γ1 hd
  obtain ⟨v0, h3, p, h4, sp1, ow1, hp⟩ := w1.sl.at_ i _ g1
  subst h4
  obtain ⟨xs, h5, h6⟩ := ow1
  refine ⟨_, h3, d, Γ1, j, hd, g2, S1, w1, fun S2 H2 v2 s2 w2 r2 => ?_⟩
  cases r2
  have h5' := s2.hh _ _ h5
  have h6' := h6.mono s2.ss
  exact ⟨p, xs, j, m, rfl, rfl, h5', by rw [h6.length]; exact g3, nx S2 σ _ _ ⟨d, Γ1, l, m, hd, rfl, g4⟩ (s1.ss.trans s2.ss) (w2.put g1 h3 ⟨_, upd_same, RpL.set (r1.mono s2.ss) m h6'⟩)⟩
theorem bl_subP {n : Str} {np sp : Pos} {d : D} {l : List D} {j : Int} {m : Nat} (i : Nat) (he : PV X e x Γ d) (h0 : Γ[i]? = some (some (.ow (.lst l)))) (hi : PV X e y Γ (.int j)) (hm : ixN l.length j = some m) (hr : BL X e rest (Γ.set i (some (.ow (.lst (l.set m d))))) k)
    (hN : X.N[i]? = some n := by rfl) (hv : Vis X.env.scope n := by first | exact Or.inl rfl | exact Or.inr (Or.inl rfl) | exact Or.inr (Or.inr rfl)) (h1 : (n == ("__debug__" : Str)) = false := by decide) (h2 : (n == ("__classdict__" : Str)) = false := by decide)
    (hpe : ∀ {te ti : TE}, PE X x te → PE X y ti → PS X (.Assign [.Subscript (.Name n np) y sp] x pos) (tAsg te (gSub (tVar i) ti rSetL)) := by exact fun a b => ps_asg a (pg_sub (pv _) b set_list)) :
    BL X e (.Assign [.Subscript (.Name n np) y sp] x pos :: rest) Γ k :=
  bl_sub i (pv_ev he) (fun d' Γ' ⟨q1, q2⟩ => by subst q1 q2; exact ⟨l, j, m, h0, hi, hm, hr⟩) hN hv h1 h2 hpe
end stores

section mixed
variable {X : Cx} {e : Ent} {Γ : Gam} {a b : Expr} {d1 : D} {Φ : D → Gam → Prop} {Φb : D → Gam → Prop} {pos : Pos}
theorem ev_s1 {r : R2} (ho : IxR X r) (ha : PV X e a Γ d1) (hb : EV X e b Γ Φb) (k : ∀ d2 Γ2, Φb d2 Γ2 → ∃ d, Sc X.K r d1 d2 d ∧ Φ d Γ2) (hx : PlainIx b := by exact fun _ _ => rfl) : EV X e (.Subscript a b pos) Γ Φ :=
  ev_sub (Φb := fun _ _ => Φb) ho (pv_ev ha) (fun _ _ ⟨_, h⟩ => by subst h; exact hb) (fun _ _ d2 Γ2 ⟨h1, _⟩ h => by subst h1; exact k d2 Γ2 h) hx
theorem ev_b1 {op : Operator} {r : R2} (ho : OpR X (binaryOp op) r) (ha : PV X e a Γ d1) (hb : EV X e b Γ Φb) (k : ∀ d2 Γ2, Φb d2 Γ2 → ∃ d, Sc X.K r d1 d2 d ∧ Φ d Γ2) : EV X e (.BinOp a op b pos) Γ Φ :=
  ev_bin (Φb := fun _ _ => Φb) ho (pv_ev ha) (fun _ _ ⟨_, h⟩ => by subst h; exact hb) (fun _ _ d2 Γ2 ⟨h1, _⟩ h => by subst h1; exact k d2 Γ2 h)
/-- the left one impure, the right one pure -/
theorem tv_c1 {op : CmpOp} {r : R2} {Ψ : Bool → Gam → Prop} {g : D → Gam → D} (ho : OpR X (compareOp op) r) (ha : EV X e a Γ Φb) (hb : ∀ d Γ1, Φb d Γ1 → PV X e b Γ1 (g d Γ1)) (k : ∀ d Γ1, Φb d Γ1 → ∃ c, Sc X.K r d (g d Γ1) (.bl c) ∧ Ψ c Γ1)
    (hm : behindInMarks op b = false := by first | exact nomark _ | rfl) : TV X e (.Compare a [op] [b] pos) Γ Ψ :=
  tv_cmp (Φb := fun d Γ1 => Is (g d Γ1) Γ1) ho ha (fun d Γ1 h => pv_ev (hb d Γ1 h)) (fun d Γ1 d2 Γ2 h ⟨h1, h2⟩ => by subst h1 h2; exact k d _ h) hm
/-- one argument -/
theorem av_one {Φa : D → Gam → Prop} {Ψ : List D → Gam → Prop} (ha : EV X e a Γ Φa) (k : ∀ d Γ1, Φa d Γ1 → Ψ [d] Γ1) (hs : starEach [a] X.env = (false, eval a X.env) :: starEach [] X.env := by rfl) : AV X e [a] Γ Ψ :=
  av_cons (Φb := fun _ Γ1 => Is [] Γ1) ha (fun d Γ1 _ => pvs_av pvs_nil) (fun d Γ1 ds Γ2 h ⟨h1, h2⟩ => by subst h1 h2; exact k d _ h) hs
theorem pvs_one (ha : PV X e a Γ d1) (hs : starEach [a] X.env = (false, eval a X.env) :: starEach [] X.env := by rfl) : PVs X e [a] Γ [d1] := pvs_cons ha pvs_nil hs
end mixed

/-! ### built-ins on data -/
section scl
variable {X : Cx}
theorem scl_lenL {l : List D} : ScL X.K (fun xs H Q => ∃ p ys, xs = [.ref p] ∧ (SqL X.K H p ys ∨ SqT X.K H p ys) ∧ Q (.int ys.length) H) [.lst l] (.int (l.length : Int)) := fun S H vs Q s r q => by
  cases r with
  | cons r1 r2 =>
    cases r2
    cases r1 with
    | lst h1 h2 => exact ⟨_, _, rfl, .inl (rdq (same_rd s h1)), q _ (by rw [h2.length]; exact .int _)⟩
theorem scl_lenT {l : List D} : ScL X.K (fun xs H Q => ∃ p ys, xs = [.ref p] ∧ (SqL X.K H p ys ∨ SqT X.K H p ys) ∧ Q (.int ys.length) H) [.tup l] (.int (l.length : Int)) := fun S H vs Q s r q => by
  cases r with
  | cons r1 r2 =>
    cases r2
    cases r1 with
    | tup h1 h2 => exact ⟨_, _, rfl, .inr (same_sqT s h1), q _ (by rw [h2.length]; exact .int _)⟩
theorem scl_lenS {z : Str} (hz : z.length ≤ sizeLine) : ScL X.K (fun xs H Q => ∃ x n, xs = [x] ∧ LenV X.K x H n ∧ Q (.int n) H) [.str z] (.int (z.length : Int)) := fun S H vs Q s r q => by
  cases r with
  | cons r1 r2 =>
    cases r2
    cases r1
    exact ⟨_, z.length, rfl, ⟨hz, rfl⟩, q _ (.int _)⟩
theorem scl_int {i : Int} : ScL X.K (fun xs H Q => (∃ i, xs = [.int i] ∧ Q (.int i) H) ∨ ∃ k, xs = [.bl k] ∧ Q (.int (if k then 1 else 0)) H) [.int i] (.int i) := fun S H vs Q s r q => by
  cases r with
  | cons r1 r2 =>
    cases r2
    cases r1
    exact .inl ⟨_, rfl, q _ (.int _)⟩
theorem scl_abs {i : Int} : ScL X.K (fun xs H Q => ∃ i, xs = [.int i] ∧ Q (.int (if i < 0 then -i else i)) H) [.int i] (.int (if i < 0 then -i else i)) := fun S H vs Q s r q => by
  cases r with
  | cons r1 r2 =>
    cases r2
    cases r1
    exact ⟨_, rfl, q _ (.int _)⟩
theorem scl_str {i : Int} (h : i.natAbs.log2 < 1920) : ScL X.K (fun xs H Q => ∃ i, xs = [.int i] ∧ i.natAbs.log2 < 1920 ∧ Q (.str (toString i)) H) [.int i] (.str (toString i)) := fun S H vs Q s r q => by
  cases r with
  | cons r1 r2 =>
    cases r2
    cases r1
    exact ⟨_, rfl, h, q _ (.str _)⟩
variable {e : Ent} {Γ : Gam} {x : Expr} {pos p : Pos}
theorem pv_lenL {l : List D} (h : PV X e x Γ (.lst l)) (hm : X.mg "len" = none) (hg : Gl X "len" := by rfl) (he : starEach [x] X.env = (false, eval x X.env) :: starEach [] X.env := by rfl)
    (hpl : (backTo pos (starEach [] X.env)).any (·.1) = false := by rfl) : PV X e (.Call (.Name "len" p) [x] [] pos) Γ (.int (l.length : Int)) := pv_cb call_len_seq hm PySem.boot_len (pvs_cons h pvs_nil he) scl_lenL hg (by decide) (by decide) he hpl
theorem pv_lenT {l : List D} (h : PV X e x Γ (.tup l)) (hm : X.mg "len" = none) (hg : Gl X "len" := by rfl) (he : starEach [x] X.env = (false, eval x X.env) :: starEach [] X.env := by rfl)
    (hpl : (backTo pos (starEach [] X.env)).any (·.1) = false := by rfl) : PV X e (.Call (.Name "len" p) [x] [] pos) Γ (.int (l.length : Int)) := pv_cb call_len_seq hm PySem.boot_len (pvs_cons h pvs_nil he) scl_lenT hg (by decide) (by decide) he hpl
theorem pv_lenS {z : Str} (h : PV X e x Γ (.str z)) (hz : z.length ≤ sizeLine) (hm : X.mg "len" = none) (hg : Gl X "len" := by rfl) (he : starEach [x] X.env = (false, eval x X.env) :: starEach [] X.env := by rfl)
    (hpl : (backTo pos (starEach [] X.env)).any (·.1) = false := by rfl) : PV X e (.Call (.Name "len" p) [x] [] pos) Γ (.int (z.length : Int)) := pv_cb call_len hm PySem.boot_len (pvs_cons h pvs_nil he) (scl_lenS hz) hg (by decide) (by decide) he hpl
theorem pv_intI {i : Int} (h : PV X e x Γ (.int i)) (hm : X.mg "int" = none) (hg : Gl X "int" := by rfl) (he : starEach [x] X.env = (false, eval x X.env) :: starEach [] X.env := by rfl)
    (hpl : (backTo pos (starEach [] X.env)).any (·.1) = false := by rfl) : PV X e (.Call (.Name "int" p) [x] [] pos) Γ (.int i) := pv_ct call_int1 hm (by decide +kernel) (pvs_cons h pvs_nil he) scl_int hg (by decide) (by decide) he hpl
theorem pv_absI {i : Int} (h : PV X e x Γ (.int i)) (hm : X.mg "abs" = none) (hg : Gl X "abs" := by rfl) (he : starEach [x] X.env = (false, eval x X.env) :: starEach [] X.env := by rfl)
    (hpl : (backTo pos (starEach [] X.env)).any (·.1) = false := by rfl) : PV X e (.Call (.Name "abs" p) [x] [] pos) Γ (.int (if i < 0 then -i else i)) := pv_cb call_abs hm (by decide +kernel) (pvs_cons h pvs_nil he) scl_abs hg (by decide) (by decide) he hpl
theorem pv_strI {i : Int} (h : PV X e x Γ (.int i)) (hi : i.natAbs.log2 < 1920) (hm : X.mg "str" = none) (hg : Gl X "str" := by rfl) (he : starEach [x] X.env = (false, eval x X.env) :: starEach [] X.env := by rfl)
    (hpl : (backTo pos (starEach [] X.env)).any (·.1) = false := by rfl) : PV X e (.Call (.Name "str" p) [x] [] pos) Γ (.str (toString i)) := pv_ct call_str_int hm (by decide +kernel) (pvs_cons h pvs_nil he) (scl_str hi) hg (by decide) (by decide) he hpl
end scl

/-! ### operators on data, further -/
section sc
variable {K : Fg}
theorem sc_modN {i j : Int} (h : j ≠ 0) : Sc K (rI (fun _ j => j ≠ 0) fun i j => .int (i.fmod j)) (.int i) (.int j) (.int (i.fmod j)) := sc_intC (fun _ _ _ => .int _) h
theorem sc_divN {i j : Int} (h : j ≠ 0) (h2 : j.natAbs < 1073741824) : Sc K (rI CDivN fun i j => .int (i.fdiv j)) (.int i) (.int j) (.int (i.fdiv j)) := sc_intC (fun _ _ _ => .int _) ⟨h, h2⟩
theorem sc_mulL {i j : Int} (h : -(2 ^ 64) < i ∧ i < 2 ^ 64) : Sc K (rI CMul fun i j => .int (i * j)) (.int i) (.int j) (.int (i * j)) := sc_intC (fun _ _ _ => .int _) (.inl h)
theorem sc_mulR {i j : Int} (h : -(2 ^ 64) < j ∧ j < 2 ^ 64) : Sc K (rI CMul fun i j => .int (i * j)) (.int i) (.int j) (.int (i * j)) := sc_intC (fun _ _ _ => .int _) (.inr h)
theorem sc_pow {i j : Int} (h : 0 ≤ j ∧ j ≤ 1000000 ∧ i.natAbs < 2 ^ 64) : Sc K (rI CPow fun i j => .int (i ^ j.toNat)) (.int i) (.int j) (.int (i ^ j.toNat)) := sc_intC (fun _ _ _ => .int _) h
theorem sc_eqI {i j : Int} : Sc K rEq (.int i) (.int j) (.bl (decide (i = j))) := fun S H v1 v2 Q s r1 r2 q => by
  cases r1
  cases r2
  refine ⟨rfl, ?_⟩
  rw [show decide (V.int i = V.int j) = decide (i = j) by simp]
  exact q _ (.bl _)
theorem sc_neI {i j : Int} : Sc K rNe (.int i) (.int j) (.bl (!decide (i = j))) := fun S H v1 v2 Q s r1 r2 q => by
  cases r1
  cases r2
  refine ⟨rfl, ?_⟩
  rw [show decide (V.int i = V.int j) = decide (i = j) by simp]
  exact q _ (.bl _)
theorem sc_eqS {i j : Str} : Sc K rEq (.str i) (.str j) (.bl (decide (i = j))) := fun S H v1 v2 Q s r1 r2 q => by
  cases r1
  cases r2
  refine ⟨rfl, ?_⟩
  rw [show decide (V.str i = V.str j) = decide (i = j) by simp]
  exact q _ (.bl _)
theorem sc_neS {i j : Str} : Sc K rNe (.str i) (.str j) (.bl (!decide (i = j))) := fun S H v1 v2 Q s r1 r2 q => by
  cases r1
  cases r2
  refine ⟨rfl, ?_⟩
  rw [show decide (V.str i = V.str j) = decide (i = j) by simp]
  exact q _ (.bl _)
theorem sc_eqB {i j : Bool} : Sc K rEq (.bl i) (.bl j) (.bl (decide (i = j))) := fun S H v1 v2 Q s r1 r2 q => by
  cases r1
  cases r2
  refine ⟨rfl, ?_⟩
  rw [show decide (V.bl i = V.bl j) = decide (i = j) by simp]
  exact q _ (.bl _)
theorem sc_neB {i j : Bool} : Sc K rNe (.bl i) (.bl j) (.bl (!decide (i = j))) := fun S H v1 v2 Q s r1 r2 q => by
  cases r1
  cases r2
  refine ⟨rfl, ?_⟩
  rw [show decide (V.bl i = V.bl j) = decide (i = j) by simp]
  exact q _ (.bl _)
theorem sc_ixS {z : Str} {i : Int} {c : Nat} (hz : z.length ≤ sizeLine) (h : atI z.cps.toList i = some c) : Sc K rIxS (.str z) (.int i) (.str ⟨#[c]⟩) := fun S H v1 v2 Q s r1 r2 q => by
  cases r1
  cases r2
  exact ⟨z, i, c, rfl, rfl, hz, h, q _ (.str _)⟩
theorem sc_addS {i j : Str} (h : i.length + j.length ≤ sizeLine) : Sc K (fun x y H Q => ∃ i j, x = .str i ∧ y = .str j ∧ i.length + j.length ≤ sizeLine ∧ Q (.str (i ++ j)) H) (.str i) (.str j) (.str (i ++ j)) := fun S H v1 v2 Q s r1 r2 q => by
  cases r1
  cases r2
  exact ⟨_, _, rfl, rfl, h, q _ (.str _)⟩
end sc
end Kf
end
section
set_option maxRecDepth 100000
set_option maxHeartbeats 4000000
/-! KfI: membership, index, the methods of lists. -/
namespace Kf
open PySem L2

def eqQ : D → D → Bool
  | .non, .non => true
  | .bl a, .bl b => a == b
  | .bl a, .int b => (if a then 1 else 0) == b
  | .int a, .bl b => a == (if b then 1 else 0)
  | .int a, .int b => a == b
  | .str a, .str b => a == b
  | _, _ => false
def inQ (d : D) (ds : List D) : Bool := ds.any fun y => eqQ y d
section
variable {K : Fg} {S : Hp}
theorem flat_v {v : V} {d : D} (r : Rp K S v d) (f : flat d = true) : flatV v = true := by
  cases r <;> first | rfl | cases f
theorem eqQ_v {v u : V} {d c : D} (r : Rp K S v d) (q : Rp K S u c) (f : flat d = true) (g : flat c = true) : eqV v u = eqQ d c := by
  cases r <;> first | exact absurd (show false = true from f) Bool.false_ne_true | (cases q <;> first | rfl | exact absurd (show false = true from g) Bool.false_ne_true)
theorem flats_v : ∀ {vs : List V} {ds : List D}, RpL K S vs ds → ds.all flat = true → vs.all flatV = true
  | _, _, .nil, _ => rfl
  | _, _, .cons r t, f => by
    rw [List.all_cons, Bool.and_eq_true] at f ⊢
    exact ⟨flat_v r f.1, flats_v t f.2⟩
theorem inQ_v {u : V} {c : D} (q : Rp K S u c) (g : flat c = true) : ∀ {vs : List V} {ds : List D}, RpL K S vs ds → ds.all flat = true → inV u vs = inQ c ds
  | _, _, .nil, _ => rfl
  | _, _, .cons r t, f => by
    rw [List.all_cons, Bool.and_eq_true] at f
    have h := inQ_v q g t f.2
    unfold inV inQ at h ⊢
    rw [List.any_cons, List.any_cons, eqQ_v r q f.1 g, h]
end
theorem flat_strs (ns : List Str) : (ns.map D.str).all flat = true := by simp [flat]
theorem flat_ints (ns : List Int) : (ns.map D.int).all flat = true := by simp [flat]
theorem inQ_strs (z : Str) (ns : List Str) : inQ (.str z) (ns.map .str) = decide (z ∈ ns) := by
  unfold inQ
  induction ns with
  | nil => rfl
  | cons a l ih =>
    rw [List.map_cons, List.any_cons, ih]
    by_cases h : a = z
    · subst h; simp [eqQ]
    · have h2 : ¬ z = a := fun q => h q.symm
      simp [eqQ, h, h2]
theorem inQ_ints (z : Int) (ns : List Int) : inQ (.int z) (ns.map .int) = decide (z ∈ ns) := by
  unfold inQ
  induction ns with
  | nil => rfl
  | cons a l ih =>
    rw [List.map_cons, List.any_cons, ih]
    by_cases h : a = z
    · subst h; simp [eqQ]
    · have h2 : ¬ z = a := fun q => h q.symm
      simp [eqQ, h, h2]
section
variable {K : Fg}
theorem sc_in {d c : D} {ds : List D} {neg : Bool} {k : Bool} (hc : c = .lst ds ∨ c = .tup ds) (f : flat d = true) (g : ds.all flat = true) (hk : k = (if neg then !inQ d ds else inQ d ds)) : Sc K (rIn K neg) d c (.bl k) := fun S H v1 v2 Q s r1 r2 q => by
  subst hk
  rcases hc with rfl | rfl
  · cases r2 with
    | lst h1 h2 => exact ⟨_, _, rfl, .inl (rdq (same_rd s h1)), flat_v r1 f, flats_v h2 g, by rw [inQ_v r1 f h2 g]; exact q _ (.bl _)⟩
  · cases r2 with
    | tup h1 h2 => exact ⟨_, _, rfl, .inr (same_sqT s h1), flat_v r1 f, flats_v h2 g, by rw [inQ_v r1 f h2 g]; exact q _ (.bl _)⟩
end
section
variable {X : Cx} {e : Ent} {Γ : Gam} {a b : Expr} {pos : Pos}
/-- a in b, texts -/
theorem px_inS {z : Str} {ns : List Str} (ha : PV X e a Γ (.str z)) (hb : PV X e b Γ (.lst (ns.map .str)) ∨ PV X e b Γ (.tup (ns.map .str))) (hm : behindInMarks .In b = false := by first | exact nomark _ | rfl) : PX X e (.Compare a [.In] [b] pos) Γ (decide (z ∈ ns)) := by
  rcases hb with hb | hb
  · exact px_cmp op_in_seq ha hb (sc_in (.inl rfl) rfl (flat_strs _) (inQ_strs z ns).symm) hm
  · exact px_cmp op_in_seq ha hb (sc_in (.inr rfl) rfl (flat_strs _) (inQ_strs z ns).symm) hm
theorem px_ninS {z : Str} {ns : List Str} (ha : PV X e a Γ (.str z)) (hb : PV X e b Γ (.lst (ns.map .str)) ∨ PV X e b Γ (.tup (ns.map .str))) (hm : behindInMarks .NotIn b = false := by first | exact nomark _ | rfl) : PX X e (.Compare a [.NotIn] [b] pos) Γ (!decide (z ∈ ns)) := by
  rcases hb with hb | hb
  · exact px_cmp op_notIn_seq ha hb (sc_in (.inl rfl) rfl (flat_strs _) (by rw [inQ_strs]; rfl)) hm
  · exact px_cmp op_notIn_seq ha hb (sc_in (.inr rfl) rfl (flat_strs _) (by rw [inQ_strs]; rfl)) hm
theorem px_inI {z : Int} {ns : List Int} (ha : PV X e a Γ (.int z)) (hb : PV X e b Γ (.lst (ns.map .int)) ∨ PV X e b Γ (.tup (ns.map .int))) (hm : behindInMarks .In b = false := by first | exact nomark _ | rfl) : PX X e (.Compare a [.In] [b] pos) Γ (decide (z ∈ ns)) := by
  rcases hb with hb | hb
  · exact px_cmp op_in_seq ha hb (sc_in (.inl rfl) rfl (flat_ints _) (inQ_ints z ns).symm) hm
  · exact px_cmp op_in_seq ha hb (sc_in (.inr rfl) rfl (flat_ints _) (inQ_ints z ns).symm) hm
/-- .. as a value -/
theorem pv_inS {z : Str} {ns : List Str} (ha : PV X e a Γ (.str z)) (hb : PV X e b Γ (.lst (ns.map .str)) ∨ PV X e b Γ (.tup (ns.map .str))) (hm : behindInMarks .In b = false := by first | exact nomark _ | rfl) : PV X e (.Compare a [.In] [b] pos) Γ (.bl (decide (z ∈ ns))) := by
  rcases hb with hb | hb
  · exact pv_c op_in_seq ha hb (sc_in (.inl rfl) rfl (flat_strs _) (inQ_strs z ns).symm) hm
  · exact pv_c op_in_seq ha hb (sc_in (.inr rfl) rfl (flat_strs _) (inQ_strs z ns).symm) hm
/-- xs.index(z), texts -/
theorem pv_indexS {n : Str} {np q r : Pos} {z : Str} {ns : List Str} {j : Nat} (ho : PV X e (.Name n np) Γ (.lst (ns.map .str))) (ha : PV X e a Γ (.str z)) (hz : ns[j]? = some z) (hno : ∀ m, m < j → ns[m]? ≠ some z)
    (hpe : ∀ {to : TE} {t : TA}, PE X (.Name n np) to → PA X [a] t → PE X (.Call (.Attribute (.Name n np) "index" q) [a] [] r) (tBM X.K "list" (rIndex X.K) to t) := by exact fun h1 h2 => pe_bm PySem.F.plainAttrs_list PySem.F.slot_list_index PySem.F.type_list_index mt_index h1 h2)
    (hs : starEach [a] X.env = (false, eval a X.env) :: starEach [] X.env := by rfl) : PV X e (.Call (.Attribute (.Name n np) "index" q) [a] [] r) Γ (.int (j : Int)) :=
  PE.imp (hpe ho (pvs_cons ha pvs_nil hs)) fun σ H Q ⟨S, w, q⟩ => ⟨S, w, fun S1 H1 v s1 w1 r1 => by
    cases r1 with
    | lst h1 h2 =>
      refine ⟨.inl ⟨rfl, _, rdq (same_rd w1.nx.sh h1)⟩, S1, w1, fun S2 H2 vs s2 w2 r2 => ?_⟩
      cases r2 with
      | cons r3 r4 =>
        cases r4
        cases r3
        obtain ⟨u, hu, ru⟩ := h2.get (i := j) (d := .str z) (by rw [List.getElem?_map, hz]; rfl)
        refine ⟨_, _, _, j, u, rfl, rfl, rdq (same_rd w2.nx.sh (same_rd s2.ss h1)), rfl, flats_v h2 (flat_strs _), hu, ?_, fun m z' hm hz' => ?_, q S2 H2 _ (s1.trans s2) w2 (.int _)⟩
        · cases ru
          simp [eqV]
        · obtain ⟨d', hd', rd'⟩ := h2.get' hz'
          rw [List.getElem?_map] at hd'
          cases y : ns[m]? with
          | none => rw [y] at hd'; cases hd'
          | some y' =>
            rw [y] at hd'
            cases hd'
            cases rd'
            have : y' ≠ z := fun t => hno m hm (by rw [y, t])
            simp [eqV, this]⟩
end
section methods
variable {X : Cx} {e : Ent} {Γ : Gam} {pos : Pos} {k : Kn} {rest : List Stmt} {call : Expr}
/-- a method of a list of one's own, called for what it does -/
theorem bl_lm {n : Str} {np : Pos} {args : List Expr} {Φ : List D → Gam → Prop} {r : V → List V → Hp → VK → Prop} {l0 : List D} (i : Nat) (hpe : ∀ {to : TE} {t : TA}, PE X (.Name n np) to → PA X args t → PE X call (tBM X.K "list" r to t)) (h0 : Γ[i]? = some (some (.ow (.lst l0)))) (ha : AV X e args Γ Φ)
    (hr : ∀ ds Γ', Φ ds Γ' → ∃ l l', Γ'[i]? = some (some (.ow (.lst l))) ∧ (∀ S H a xs vs Q, H a = some (.lst xs) → RpL X.K S xs l → RpL X.K S vs ds → Same S H → (∀ xs', RpL X.K S xs' l' → Q .non (upd H a (.lst xs'))) → r (.ref a) vs H Q) ∧ BL X e rest (Γ'.set i (some (.ow (.lst l')))) k)
    (hN : X.N[i]? = some n := by rfl) (hv : Vis X.env.scope n := by first | exact Or.inl rfl | exact Or.inr (Or.inl rfl) | exact Or.inr (Or.inr rfl)) (h1 : (n == ("__debug__" : Str)) = false := by decide) (h2 : (n == ("__classdict__" : Str)) = false := by decide)
    (hs : swapsWith call none pos.line X.env = pure false := by rfl) : BL X e (.Expr call pos :: rest) Γ k := by
  refine bl_cons (fun Γ2 => ∃ ds Γ' l l', Φ ds Γ' ∧ Γ'[i]? = some (some (.ow (.lst l))) ∧ Γ2 = Γ'.set i (some (.ow (.lst l'))) ∧ BL X e rest Γ2 k) (PS.imp (ps_expr (hpe (pe_var hN hv h1 h2) ha) hs) fun D σ H ⟨S, w, nx, _⟩ => ?_) fun Γ2 ⟨_, _, _, _, _, _, _, z⟩ => z
  obtain ⟨v, h3, c, h4, sc, ow, hc⟩ := w.sl.at_ i _ h0
  subst h4
  obtain ⟨xs, h5, h6⟩ := ow
  refine ⟨_, h3, .inl ⟨rfl, xs, SqL.of h5⟩, S, w, fun S' H' vs ds Γ' hd s w' ry => ?_⟩
  obtain ⟨l, l', hl, hk, hB⟩ := hr ds Γ' hd
  obtain ⟨v', g1, c', g2, gs, gw, gc⟩ := w'.sl.at_ i _ hl
  rw [h3] at g1
  cases g1
  cases g2
  obtain ⟨ys, g3, g4⟩ := gw
  exact hk S' H' c ys vs _ g3 g4 ry w'.nx.sh fun xs' r' => nx S' σ _ _ ⟨ds, Γ', l, l', hd, hl, rfl, hB⟩ s.ss (w'.put hl h3 ⟨xs', upd_same, r'⟩)
/-- xs.insert(i, y) -/
theorem bl_insert {n : Str} {np q r : Pos} {a b : Expr} {Φ : List D → Gam → Prop} {l0 : List D} (i : Nat) (h0 : Γ[i]? = some (some (.ow (.lst l0)))) (ha : AV X e [a, b] Γ Φ)
    (hr : ∀ ds Γ', Φ ds Γ' → ∃ l j d, ds = [.int j, d] ∧ Γ'[i]? = some (some (.ow (.lst l))) ∧ l.length < 100000 ∧ 0 ≤ j ∧ j < 100000 ∧ BL X e rest (Γ'.set i (some (.ow (.lst (l.take j.toNat ++ [d] ++ l.drop j.toNat))))) k)
    (hpe : ∀ {to : TE} {t : TA}, PE X (.Name n np) to → PA X [a, b] t → PE X (.Call (.Attribute (.Name n np) "insert" q) [a, b] [] r) (tBM X.K "list" (fun x vs H Q => ∃ (l : Addr) (xs : List V) (i : Int) (y : V), x = .ref l ∧ vs = [.int i, y] ∧ H l = some (.lst xs) ∧ xs.length < sizeLine ∧ 0 ≤ i ∧ i < 2 ^ 63 ∧
    Q .non (upd H l (.lst (xs.take i.toNat ++ [y] ++ xs.drop i.toNat)))) to t) := by exact fun h1 h2 => pe_bm PySem.F.plainAttrs_list PySem.F.slot_list_insert PySem.F.type_list_insert mt_insert h1 h2)
    (hN : X.N[i]? = some n := by rfl) (hv : Vis X.env.scope n := by first | exact Or.inl rfl | exact Or.inr (Or.inl rfl) | exact Or.inr (Or.inr rfl)) (h1 : (n == ("__debug__" : Str)) = false := by decide) (h2 : (n == ("__classdict__" : Str)) = false := by decide)
    (hs : swapsWith (.Call (.Attribute (.Name n np) "insert" q) [a, b] [] r) none pos.line X.env = pure false := by rfl) : BL X e (.Expr (.Call (.Attribute (.Name n np) "insert" q) [a, b] [] r) pos :: rest) Γ k :=
  bl_lm i hpe h0 ha (fun ds Γ' h => by
    obtain ⟨l, j, d, rfl, h3, h4, h5, h6, hB⟩ := hr ds Γ' h
    refine ⟨l, _, h3, fun S H a xs vs Q hx rx rv s q => ?_, hB⟩
    cases rv with
    | cons r1 r2 =>
      cases r2 with
      | cons r3 r4 =>
        cases r4
        cases r1
        refine ⟨a, xs, j, _, rfl, rfl, hx, ?_, h5, by omega, q _ (((rx.take _).append (.cons r3 .nil)).append (rx.drop _))⟩
        rw [rx.length]
        exact Nat.lt_of_lt_of_le h4 (by decide)) hN hv h1 h2 hs
end methods
end Kf
end
section
set_option maxRecDepth 100000
set_option maxHeartbeats 4000000
/-! KfJ: comprehensions further; assigned ones; tuples of what is not pure. -/
namespace Kf
open PySem L2

section
variable {X : Cx} {e : Ent} {Γ : Gam}
/-- the comprehension of what is not pure -/
theorem eo_lc {elt tg iter : Expr} {ifs : List Expr} {scope : Scope} {own : List (Str × Nat)} {pos : Pos} {ix : List Nat} {bind : D → Gam → Gam → Prop} {Φi : List D → Gam → Prop} {Φ : O → Gam → Prop} (Bt Be : Gam → Prop) (Tt : Gam → Bool → Gam → Prop) (Te : Gam → D → Gam → Prop) (Inv : List D → Nat → List D → Gam → Prop)
    (ok : BlkOk X.N X.env.scope scope own) (hN : X.N.Nodup) (hw : WV X e tg iter Γ Φi)
    (hg : ∀ (s : Shared) (H : Hp) (C : Addr) (cl : List (Str × Addr)) (fp : List Addr), GV (X.blk s H scope (compEnvC scope cl C X.env) fp) e tg ix bind)
    (hb : BindOk ix bind) (hix : ∀ j ∈ ix, j ∈ own.map (·.2)) (hz : e.own = none ∨ 0 ∉ own.map (·.2)) (h0 : ∀ ds Γ1, Φi ds Γ1 → ds.length ≤ 100000 ∧ Inv ds 0 [] Γ1)
    (hs : ∀ ds i d acc Γ1, ds[i]? = some d → Inv ds i acc Γ1 → ∃ Γ2, bind d (wipeG Γ1 (own.map (·.2))) Γ2 ∧ Bt Γ2 ∧ (∀ Γ3, Tt Γ2 true Γ3 → Be Γ3 ∧ ∀ y Γ4, Te Γ3 y Γ4 → Inv ds (i + 1) (acc ++ [y]) (wipeG Γ4 (own.map (·.2)))) ∧ ∀ Γ3, Tt Γ2 false Γ3 → Inv ds (i + 1) acc (wipeG Γ3 (own.map (·.2))))
    (hd : ∀ ds acc Γ1, Inv ds ds.length acc Γ1 → Φ (.lst acc) Γ1)
    (ht : ∀ Γ', Bt Γ' → ∀ (s : Shared) (H : Hp) (C : Addr) (cl : List (Str × Addr)) (fp : List Addr), PTs (X.blk s H scope (compEnvC scope cl C X.env) fp) ifs (tX X.K e Γ' (Tt Γ')))
    (he : ∀ Γ', Be Γ' → ∀ (s : Shared) (H : Hp) (C : Addr) (cl : List (Str × Addr)) (fp : List Addr), EV (X.blk s H scope (compEnvC scope cl C X.env) fp) e elt Γ' (Te Γ'))
    (hc : X.calm = true := by rfl) (hfs : ∀ x, foldedSetIterable iter X.env x = pure x := by intro _; rfl) : EO X e (.ListComp elt [⟨tg, iter, ifs, 0⟩] scope pos) Γ Φ :=
  PE.imp (pe_lc hc hN hw ok hg (fun s H C cl fp => ⟨fun pins s2 σ H2 Q I ⟨Γ', hd, q⟩ => (ht Γ' hd s H C cl fp).run pins s2 σ H2 Q I q⟩) (fun s H C cl fp => ⟨fun pins s2 σ H2 Q I ⟨Γ', hd, q⟩ => (he Γ' hd s H C cl fp).run pins s2 σ H2 Q I q⟩) hfs) fun σ H Q h => lc_imp Inv hb hix hz h0 hs hd σ H Q h
variable {k : Kn} {rest : List Stmt}
/-- y = [..], the whole statement -/
theorem bl_asgO {st : Stmt} {te : TE} {Φ : O → Gam → Prop} (i : Nat) (hp : PS X st (tAsg te (gName i))) (hte : ∀ σ H Q, tO X.K e Γ Φ σ H Q → te σ H Q) (hz : e.own = none ∨ i ≠ 0) (hr : ∀ o Γ', Φ o Γ' → BL X e rest (Γ'.set i (some (.ow o))) k) : BL X e (st :: rest) Γ k := by
  refine bl_cons (fun Γ2 => ∃ o Γ', Φ o Γ' ∧ Γ2 = Γ'.set i (some (.ow o))) (PS.imp hp fun D σ H ⟨S, w, nx, _⟩ => hte σ H _ ⟨S, w, fun S' H' a o Γ' ho s w' sa ow ha => ?_⟩) fun Γ2 ⟨d, Γ', hd, q⟩ => by subst q; exact hr d Γ' hd
  exact nx S' _ H' _ ⟨o, Γ', ho, rfl⟩ s.ss (w'.setO sa ow (w.nx.fresh ha) (s.fresh_ne w ha) hz)
theorem bl_setLc {y : Str} {py spos : Pos} {elt tg iter : Expr} {ifs : List Expr} {scope : Scope} {own : List (Str × Nat)} {pos : Pos} {ix : List Nat} {bind : D → Gam → Gam → Prop} {Φi : List D → Gam → Prop} {Φ : O → Gam → Prop} (i : Nat) (Bt Be : Gam → Prop) (Tt : Gam → Bool → Gam → Prop) (Te : Gam → D → Gam → Prop) (Inv : List D → Nat → List D → Gam → Prop)
    (ok : BlkOk X.N X.env.scope scope own) (hN : X.N.Nodup) (hw : WV X e tg iter Γ Φi)
    (hg : ∀ (s : Shared) (H : Hp) (C : Addr) (cl : List (Str × Addr)) (fp : List Addr), GV (X.blk s H scope (compEnvC scope cl C X.env) fp) e tg ix bind)
    (hb : BindOk ix bind) (hix : ∀ j ∈ ix, j ∈ own.map (·.2)) (hz : e.own = none ∨ 0 ∉ own.map (·.2)) (h0 : ∀ ds Γ1, Φi ds Γ1 → ds.length ≤ 100000 ∧ Inv ds 0 [] Γ1)
    (hs : ∀ ds i d acc Γ1, ds[i]? = some d → Inv ds i acc Γ1 → ∃ Γ2, bind d (wipeG Γ1 (own.map (·.2))) Γ2 ∧ Bt Γ2 ∧ (∀ Γ3, Tt Γ2 true Γ3 → Be Γ3 ∧ ∀ y Γ4, Te Γ3 y Γ4 → Inv ds (i + 1) (acc ++ [y]) (wipeG Γ4 (own.map (·.2)))) ∧ ∀ Γ3, Tt Γ2 false Γ3 → Inv ds (i + 1) acc (wipeG Γ3 (own.map (·.2))))
    (hd : ∀ ds acc Γ1, Inv ds ds.length acc Γ1 → Φ (.lst acc) Γ1)
    (ht : ∀ Γ', Bt Γ' → ∀ (s : Shared) (H : Hp) (C : Addr) (cl : List (Str × Addr)) (fp : List Addr), PTs (X.blk s H scope (compEnvC scope cl C X.env) fp) ifs (tX X.K e Γ' (Tt Γ')))
    (he : ∀ Γ', Be Γ' → ∀ (s : Shared) (H : Hp) (C : Addr) (cl : List (Str × Addr)) (fp : List Addr), EV (X.blk s H scope (compEnvC scope cl C X.env) fp) e elt Γ' (Te Γ'))
    (hr : ∀ o Γ', Φ o Γ' → BL X e rest (Γ'.set i (some (.ow o))) k)
    (hy : X.N[i]? = some y := by rfl) (hyl : X.env.scope.names.lookup y = some .local := by rfl) (hz2 : e.own = none ∨ i ≠ 0 := by first | exact .inl rfl | exact .inr (by decide))
    (hsw : swapsWith (.ListComp elt [⟨tg, iter, ifs, 0⟩] scope pos) (some (.Name y py)) spos.line X.env = pure true := by rfl)
    (hc : X.calm = true := by rfl) (hfs : ∀ x, foldedSetIterable iter X.env x = pure x := by intro _; rfl) : BL X e (.Assign [.Name y py] (.ListComp elt [⟨tg, iter, ifs, 0⟩] scope pos) spos :: rest) Γ k :=
  bl_asgO i (ps_setLc hc hN hy hyl hsw hw ok hg (fun s H C cl fp => ⟨fun pins s2 σ H2 Q I ⟨Γ', hd, q⟩ => (ht Γ' hd s H C cl fp).run pins s2 σ H2 Q I q⟩) (fun s H C cl fp => ⟨fun pins s2 σ H2 Q I ⟨Γ', hd, q⟩ => (he Γ' hd s H C cl fp).run pins s2 σ H2 Q I q⟩) hfs)
    (fun σ H Q h => lc_imp Inv hb hix hz h0 hs hd σ H Q h) hz2 hr
/-- y = [..], a pure one -/
theorem bl_letLc {y : Str} {py spos : Pos} {elt tg iter : Expr} {ifs : List Expr} {scope : Scope} {own : List (Str × Nat)} {pos : Pos} {ix : List Nat} {bind : D → Gam → Gam → Prop} {ds : List D} {f : D → Gam} (i : Nat) (p : D → Bool) (g : D → D) (ok : BlkOk X.N X.env.scope scope own) (hN : X.N.Nodup) (hw : WP X e tg iter Γ ds)
    (hg : ∀ (s : Shared) (H : Hp) (C : Addr) (cl : List (Str × Addr)) (fp : List Addr), GV (X.blk s H scope (compEnvC scope cl C X.env) fp) e tg ix bind) (hb : BindOk ix bind) (hix : ∀ j ∈ ix, j ∈ own.map (·.2)) (hz : e.own = none ∨ 0 ∉ own.map (·.2)) (hlen : ds.length ≤ 100000)
    (hs : ∀ d ∈ ds, bind d (wipeG Γ (own.map (·.2))) (f d))
    (ht : ∀ d ∈ ds, ∀ (s : Shared) (H : Hp) (C : Addr) (cl : List (Str × Addr)) (fp : List Addr), PTs (X.blk s H scope (compEnvC scope cl C X.env) fp) ifs (tPX X.K e (f d) (p d)))
    (he : ∀ d ∈ ds, p d = true → ∀ (s : Shared) (H : Hp) (C : Addr) (cl : List (Str × Addr)) (fp : List Addr), PV (X.blk s H scope (compEnvC scope cl C X.env) fp) e elt (f d) (g d))
    (hr : BL X e rest (Γ.set i (some (.ow (.lst ((ds.filter p).map g))))) k)
    (hy : X.N[i]? = some y := by rfl) (hyl : X.env.scope.names.lookup y = some .local := by rfl) (hz2 : e.own = none ∨ i ≠ 0 := by first | exact .inl rfl | exact .inr (by decide))
    (hsw : swapsWith (.ListComp elt [⟨tg, iter, ifs, 0⟩] scope pos) (some (.Name y py)) spos.line X.env = pure true := by rfl)
    (hc : X.calm = true := by rfl) (hfs : ∀ x, foldedSetIterable iter X.env x = pure x := by intro _; rfl) : BL X e (.Assign [.Name y py] (.ListComp elt [⟨tg, iter, ifs, 0⟩] scope pos) spos :: rest) Γ k :=
  bl_asgO (Φ := Is (.lst ((ds.filter p).map g)) Γ) i (ps_setLc hc hN hy hyl hsw hw ok hg (fun s H C cl fp => ⟨fun pins s2 σ H2 Q I ⟨d, hd, q⟩ => (ht d hd s H C cl fp).run pins s2 σ H2 Q I q⟩) (fun s H C cl fp => ⟨fun pins s2 σ H2 Q I ⟨d, hd, hp, q⟩ => (he d hd hp s H C cl fp).run pins s2 σ H2 Q I q⟩) hfs)
    (fun σ H Q ⟨S, w, q⟩ => lcP_imp hb hix hz hlen hs σ H Q ⟨S, w, fun S' H' a s w' sa ow ha => q S' H' a _ Γ ⟨rfl, rfl⟩ s.stp w' sa ow ha⟩) hz2 fun o Γ' ⟨h1, h2⟩ => by subst h1 h2; exact hr
/-- (.., ..) of what is not pure -/
theorem ev_tup {es : List Expr} {c : Nat} {pos : Pos} {Φa : List D → Gam → Prop} {Φ : D → Gam → Prop} (h : AV X e es Γ Φa) (q : ∀ ds Γ1, Φa ds Γ1 → ds.length ≤ 1000 ∧ Φ (.tup ds) Γ1) : EV X e (.Tuple es c pos) Γ Φ :=
  PE.imp (pe_tup h) fun σ H Q ⟨S, w, k⟩ => ⟨S, w, fun S1 H1 vs ds Γ1 hd s1 w1 r1 => by
    obtain ⟨q1, q2⟩ := q ds Γ1 hd
    refine ⟨by rw [r1.length]; exact Nat.le_trans q1 (by decide), fun p hp => ?_⟩
    obtain ⟨w2, s2⟩ := w1.new (o := .tup vs) hp
    exact k _ _ _ _ Γ1 q2 (s1.trans (pur_new (w1.nx.sh.free hp) hp).stp) w2 (.tup (SqT.of upd_same) (r1.mono s2))⟩
/-- [.., ..] of what is not pure -/
theorem ev_lst {es : List Expr} {pos : Pos} {Φa : List D → Gam → Prop} {Φ : D → Gam → Prop} (h : AV X e es Γ Φa) (q : ∀ ds Γ1, Φa ds Γ1 → ds.length ≤ 1000 ∧ Φ (.lst ds) Γ1) : EV X e (.List es pos) Γ Φ :=
  PE.imp (pe_lst h) fun σ H Q ⟨S, w, k⟩ => ⟨S, w, fun S1 H1 vs ds Γ1 hd s1 w1 r1 => by
    obtain ⟨q1, q2⟩ := q ds Γ1 hd
    refine ⟨by rw [r1.length]; exact Nat.le_trans q1 (by decide), fun p hp => ?_⟩
    obtain ⟨w2, s2⟩ := w1.new (o := .lst vs) hp
    exact k _ _ _ _ Γ1 q2 (s1.trans (pur_new (w1.nx.sh.free hp) hp).stp) w2 (.lst (.inl upd_same) (r1.mono s2))⟩
theorem eo_lstE {es : List Expr} {pos : Pos} {Φa : List D → Gam → Prop} {Φ : O → Gam → Prop} (h : AV X e es Γ Φa) (q : ∀ ds Γ1, Φa ds Γ1 → ds.length ≤ 1000 ∧ Φ (.lst ds) Γ1) : EO X e (.List es pos) Γ Φ :=
  PE.imp (pe_lst h) fun σ H Q ⟨S, w, k⟩ => ⟨S, w, fun S1 H1 vs ds Γ1 hd s1 w1 r1 => by
    obtain ⟨q1, q2⟩ := q ds Γ1 hd
    exact ⟨by rw [r1.length]; exact Nat.le_trans q1 (by decide), fun p hp => tO_new k s1 w1 q2 hp ⟨vs, upd_same, r1⟩⟩⟩
/-- two arguments, the first pure -/
theorem av_two {a b : Expr} {d1 : D} {Φb : D → Gam → Prop} {Ψ : List D → Gam → Prop} (ha : PV X e a Γ d1) (hb : EV X e b Γ Φb) (q : ∀ d Γ1, Φb d Γ1 → Ψ [d1, d] Γ1) (hs : starEach [a, b] X.env = (false, eval a X.env) :: starEach [b] X.env := by rfl) (hs2 : starEach [b] X.env = (false, eval b X.env) :: starEach [] X.env := by rfl) : AV X e [a, b] Γ Ψ :=
  av_cons (Φb := fun _ _ ds Γ2 => ∃ d, ds = [d] ∧ Φb d Γ2) (pv_ev ha) (fun d1' Γ1 ⟨_, h⟩ => by subst h; exact av_one hb (fun d Γ2 hd => ⟨d, rfl, hd⟩) hs2) (fun d1' Γ1 ds Γ2 ⟨h1, _⟩ ⟨d, h2, h3⟩ => by subst h1 h2; exact q d Γ2 h3) hs
end
/-! the items told by a list of another kind -/
section lcA
variable {X : Cx} {e : Ent} {Γ : Gam} {α : Type}
theorem map_inv {c : α → D} {u : D → α} (h : ∀ a, u (c a) = a) (p : α → Bool) (g : α → D) : ∀ l : List α, ((l.map c).filter (fun d => p (u d))).map (fun d => g (u d)) = (l.filter p).map g
  | [] => rfl
  | a :: l => by
    rw [List.map_cons]
    cases hp : p a with
    | true =>
      rw [List.filter_cons_of_pos (by rw [h]; exact hp), List.filter_cons_of_pos hp, List.map_cons, List.map_cons, h, map_inv h p g l]
    | false =>
      rw [List.filter_cons_of_neg (by rw [h, hp]; exact Bool.false_ne_true), List.filter_cons_of_neg (by rw [hp]; exact Bool.false_ne_true), map_inv h p g l]
theorem lcA_imp {K : Fg} {vs ix : List Nat} {bind : D → Gam → Gam → Prop} {c : α → D} {u : D → α} {Ψ : List α → Gam → Prop} {f : List α → Gam → α → Gam} {p : List α → Gam → α → Bool} {g : List α → Gam → α → D} {Φ : O → Gam → Prop} (hu : ∀ a, u (c a) = a) (hb : BindOk ix bind) (hix : ∀ j ∈ ix, j ∈ vs) (hz : e.own = none ∨ 0 ∉ vs)
    (hlen : ∀ l Γ1, Ψ l Γ1 → l.length ≤ 100000) (hs : ∀ l Γ1, Ψ l Γ1 → ∀ a ∈ l, bind (c a) (wipeG Γ1 vs) (f l Γ1 a)) (hd : ∀ l Γ1, Ψ l Γ1 → Φ (.lst ((l.filter (p l Γ1)).map (g l Γ1))) Γ1)
    (σ : L2.St) (H : Hp) (Q : VK) (h : tO K e Γ Φ σ H Q) :
    tLc (tI K e Γ fun ds Γ1 => ∃ l, ds = l.map c ∧ Ψ l Γ1) (tG K e ix bind) (fun σ H Q => ∃ l Γ1 a, Ψ l Γ1 ∧ a ∈ l ∧ tPX K e (f l Γ1 a) (p l Γ1 a) σ H Q) (fun σ H Q => ∃ l Γ1 a, Ψ l Γ1 ∧ a ∈ l ∧ p l Γ1 a = true ∧ tP K e (f l Γ1 a) (g l Γ1 a) σ H Q) vs σ H Q :=
  let ⟨S, w, q⟩ := h
  ⟨S, w, fun S1 H1 J ds Γ1 ⟨l, hds, hl⟩ s1 w1 it Dn hD => by
    subst hds
    refine lcP_core (f := fun d => f l Γ1 (u d)) (p := fun d => p l Γ1 (u d)) (g := fun d => g l Γ1 (u d)) (tg := tG K e ix bind) (tt := fun σ H Q => ∃ l Γ1 a, Ψ l Γ1 ∧ a ∈ l ∧ tPX K e (f l Γ1 a) (p l Γ1 a) σ H Q) (te := fun σ H Q => ∃ l Γ1 a, Ψ l Γ1 ∧ a ∈ l ∧ p l Γ1 a = true ∧ tP K e (f l Γ1 a) (g l Γ1 a) σ H Q) hb hix hz (by rw [List.length_map]; exact hlen l Γ1 hl) ?_ (fun _ _ _ _ h => h) ?_ ?_ w1 it hD ?_
    · intro d hd
      obtain ⟨a, ha, rfl⟩ := List.mem_map.mp hd
      show bind _ _ (f l Γ1 (u (c a)))
      rw [hu]
      exact hs l Γ1 hl a ha
    · intro d hd σ H Q h
      obtain ⟨a, ha, rfl⟩ := List.mem_map.mp hd
      rw [hu] at h
      exact ⟨l, Γ1, a, hl, ha, h⟩
    · intro d hd hp σ H Q h
      obtain ⟨a, ha, rfl⟩ := List.mem_map.mp hd
      rw [hu] at h hp
      exact ⟨l, Γ1, a, hl, ha, hp, h⟩
    · intro S' H' a p' w' sa ow ha
      rw [map_inv hu] at ow
      exact q S' H' a _ Γ1 (hd l Γ1 hl) (s1.trans p'.stp) w' sa ow (by
        cases z : H a with
        | none => rfl
        | some y => exact absurd ha (s1.al a (by rw [z]; exact fun t => nomatch t)))⟩
variable {elt tg iter : Expr} {ifs : List Expr} {scope : Scope} {own : List (Str × Nat)} {pos spos : Pos} {ix : List Nat} {bind : D → Gam → Gam → Prop} {c : α → D} {u : D → α} {Ψ : List α → Gam → Prop} {f : List α → Gam → α → Gam} {Φ : O → Gam → Prop}
/-- what is walked is not pure, the rest is -/
theorem eo_lcA (p : List α → Gam → α → Bool) (g : List α → Gam → α → D) (hu : ∀ a, u (c a) = a) (ok : BlkOk X.N X.env.scope scope own) (hN : X.N.Nodup) (hw : WV X e tg iter Γ fun ds Γ1 => ∃ l, ds = l.map c ∧ Ψ l Γ1)
    (hg : ∀ (s : Shared) (H : Hp) (C : Addr) (cl : List (Str × Addr)) (fp : List Addr), GV (X.blk s H scope (compEnvC scope cl C X.env) fp) e tg ix bind) (hb : BindOk ix bind) (hix : ∀ j ∈ ix, j ∈ own.map (·.2)) (hz : e.own = none ∨ 0 ∉ own.map (·.2))
    (hlen : ∀ l Γ1, Ψ l Γ1 → l.length ≤ 100000) (hs : ∀ l Γ1, Ψ l Γ1 → ∀ a ∈ l, bind (c a) (wipeG Γ1 (own.map (·.2))) (f l Γ1 a))
    (ht : ∀ l Γ1 a, Ψ l Γ1 → a ∈ l → ∀ (s : Shared) (H : Hp) (C : Addr) (cl : List (Str × Addr)) (fp : List Addr), PTs (X.blk s H scope (compEnvC scope cl C X.env) fp) ifs (tPX X.K e (f l Γ1 a) (p l Γ1 a)))
    (he : ∀ l Γ1 a, Ψ l Γ1 → a ∈ l → p l Γ1 a = true → ∀ (s : Shared) (H : Hp) (C : Addr) (cl : List (Str × Addr)) (fp : List Addr), PV (X.blk s H scope (compEnvC scope cl C X.env) fp) e elt (f l Γ1 a) (g l Γ1 a))
    (hd : ∀ l Γ1, Ψ l Γ1 → Φ (.lst ((l.filter (p l Γ1)).map (g l Γ1))) Γ1)
    (hc : X.calm = true := by rfl) (hfs : ∀ x, foldedSetIterable iter X.env x = pure x := by intro _; rfl) : EO X e (.ListComp elt [⟨tg, iter, ifs, 0⟩] scope pos) Γ Φ :=
  PE.imp (pe_lc hc hN hw ok hg (fun s H C cl fp => ⟨fun pins s2 σ H2 Q I ⟨l, Γ1, a, h1, h2, q⟩ => (ht l Γ1 a h1 h2 s H C cl fp).run pins s2 σ H2 Q I q⟩) (fun s H C cl fp => ⟨fun pins s2 σ H2 Q I ⟨l, Γ1, a, h1, h2, h3, q⟩ => (he l Γ1 a h1 h2 h3 s H C cl fp).run pins s2 σ H2 Q I q⟩) hfs)
    fun σ H Q h => lcA_imp hu hb hix hz hlen hs hd σ H Q h
theorem bl_lcA {y : Str} {py : Pos} {k : Kn} {rest : List Stmt} (i : Nat) (p : List α → Gam → α → Bool) (g : List α → Gam → α → D) (hu : ∀ a, u (c a) = a) (ok : BlkOk X.N X.env.scope scope own) (hN : X.N.Nodup) (hw : WV X e tg iter Γ fun ds Γ1 => ∃ l, ds = l.map c ∧ Ψ l Γ1)
    (hg : ∀ (s : Shared) (H : Hp) (C : Addr) (cl : List (Str × Addr)) (fp : List Addr), GV (X.blk s H scope (compEnvC scope cl C X.env) fp) e tg ix bind) (hb : BindOk ix bind) (hix : ∀ j ∈ ix, j ∈ own.map (·.2)) (hz : e.own = none ∨ 0 ∉ own.map (·.2))
    (hlen : ∀ l Γ1, Ψ l Γ1 → l.length ≤ 100000) (hs : ∀ l Γ1, Ψ l Γ1 → ∀ a ∈ l, bind (c a) (wipeG Γ1 (own.map (·.2))) (f l Γ1 a))
    (ht : ∀ l Γ1 a, Ψ l Γ1 → a ∈ l → ∀ (s : Shared) (H : Hp) (C : Addr) (cl : List (Str × Addr)) (fp : List Addr), PTs (X.blk s H scope (compEnvC scope cl C X.env) fp) ifs (tPX X.K e (f l Γ1 a) (p l Γ1 a)))
    (he : ∀ l Γ1 a, Ψ l Γ1 → a ∈ l → p l Γ1 a = true → ∀ (s : Shared) (H : Hp) (C : Addr) (cl : List (Str × Addr)) (fp : List Addr), PV (X.blk s H scope (compEnvC scope cl C X.env) fp) e elt (f l Γ1 a) (g l Γ1 a))
    (hr : ∀ l Γ1, Ψ l Γ1 → BL X e rest (Γ1.set i (some (.ow (.lst ((l.filter (p l Γ1)).map (g l Γ1)))))) k)
    (hy : X.N[i]? = some y := by rfl) (hyl : X.env.scope.names.lookup y = some .local := by rfl) (hz2 : e.own = none ∨ i ≠ 0 := by first | exact .inl rfl | exact .inr (by decide))
    (hsw : swapsWith (.ListComp elt [⟨tg, iter, ifs, 0⟩] scope pos) (some (.Name y py)) spos.line X.env = pure true := by rfl)
    (hc : X.calm = true := by rfl) (hfs : ∀ x, foldedSetIterable iter X.env x = pure x := by intro _; rfl) : BL X e (.Assign [.Name y py] (.ListComp elt [⟨tg, iter, ifs, 0⟩] scope pos) spos :: rest) Γ k :=
  bl_asgO (Φ := fun o Γ1 => ∃ l, Ψ l Γ1 ∧ o = .lst ((l.filter (p l Γ1)).map (g l Γ1))) i (ps_setLc hc hN hy hyl hsw hw ok hg (fun s H C cl fp => ⟨fun pins s2 σ H2 Q I ⟨l, Γ1, a, h1, h2, q⟩ => (ht l Γ1 a h1 h2 s H C cl fp).run pins s2 σ H2 Q I q⟩) (fun s H C cl fp => ⟨fun pins s2 σ H2 Q I ⟨l, Γ1, a, h1, h2, h3, q⟩ => (he l Γ1 a h1 h2 h3 s H C cl fp).run pins s2 σ H2 Q I q⟩) hfs)
    (fun σ H Q h => lcA_imp hu hb hix hz hlen hs (fun l Γ1 hl => ⟨l, hl, rfl⟩) σ H Q h) hz2 fun o Γ1 ⟨l, h1, h2⟩ => by subst h2; exact hr l Γ1 h1
/-- .. all pure -/
theorem pn_lcA {l : List α} {f : α → Gam} (p : α → Bool) (g : α → D) (hu : ∀ a, u (c a) = a) (ok : BlkOk X.N X.env.scope scope own) (hN : X.N.Nodup) (hw : WP X e tg iter Γ (l.map c))
    (hg : ∀ (s : Shared) (H : Hp) (C : Addr) (cl : List (Str × Addr)) (fp : List Addr), GV (X.blk s H scope (compEnvC scope cl C X.env) fp) e tg ix bind) (hb : BindOk ix bind) (hix : ∀ j ∈ ix, j ∈ own.map (·.2)) (hz : e.own = none ∨ 0 ∉ own.map (·.2)) (hlen : l.length ≤ 100000)
    (hs : ∀ a ∈ l, bind (c a) (wipeG Γ (own.map (·.2))) (f a))
    (ht : ∀ a ∈ l, ∀ (s : Shared) (H : Hp) (C : Addr) (cl : List (Str × Addr)) (fp : List Addr), PTs (X.blk s H scope (compEnvC scope cl C X.env) fp) ifs (tPX X.K e (f a) (p a)))
    (he : ∀ a ∈ l, p a = true → ∀ (s : Shared) (H : Hp) (C : Addr) (cl : List (Str × Addr)) (fp : List Addr), PV (X.blk s H scope (compEnvC scope cl C X.env) fp) e elt (f a) (g a))
    (hc : X.calm = true := by rfl) (hfs : ∀ x, foldedSetIterable iter X.env x = pure x := by intro _; rfl) : PN X e (.ListComp elt [⟨tg, iter, ifs, 0⟩] scope pos) Γ (.lst ((l.filter p).map g)) := by
  rw [← map_inv hu p g l]
  refine pn_lc (f := fun d => f (u d)) (fun d => p (u d)) (fun d => g (u d)) ok hN hw hg hb hix hz (by rw [List.length_map]; exact hlen) (fun d hd => ?_) (fun d hd => ?_) (fun d hd hp => ?_) hc hfs
  · obtain ⟨a, ha, rfl⟩ := List.mem_map.mp hd
    show bind _ _ (f (u (c a)))
    rw [hu]
    exact hs a ha
  · obtain ⟨a, ha, rfl⟩ := List.mem_map.mp hd
    rw [hu]
    exact ht a ha
  · obtain ⟨a, ha, rfl⟩ := List.mem_map.mp hd
    rw [hu] at hp ⊢
    exact he a ha hp
theorem bl_letLcA {y : Str} {py : Pos} {k : Kn} {rest : List Stmt} {l : List α} {f : α → Gam} (i : Nat) (p : α → Bool) (g : α → D) (hu : ∀ a, u (c a) = a) (ok : BlkOk X.N X.env.scope scope own) (hN : X.N.Nodup) (hw : WP X e tg iter Γ (l.map c))
    (hg : ∀ (s : Shared) (H : Hp) (C : Addr) (cl : List (Str × Addr)) (fp : List Addr), GV (X.blk s H scope (compEnvC scope cl C X.env) fp) e tg ix bind) (hb : BindOk ix bind) (hix : ∀ j ∈ ix, j ∈ own.map (·.2)) (hz : e.own = none ∨ 0 ∉ own.map (·.2)) (hlen : l.length ≤ 100000)
    (hs : ∀ a ∈ l, bind (c a) (wipeG Γ (own.map (·.2))) (f a))
    (ht : ∀ a ∈ l, ∀ (s : Shared) (H : Hp) (C : Addr) (cl : List (Str × Addr)) (fp : List Addr), PTs (X.blk s H scope (compEnvC scope cl C X.env) fp) ifs (tPX X.K e (f a) (p a)))
    (he : ∀ a ∈ l, p a = true → ∀ (s : Shared) (H : Hp) (C : Addr) (cl : List (Str × Addr)) (fp : List Addr), PV (X.blk s H scope (compEnvC scope cl C X.env) fp) e elt (f a) (g a))
    (hr : BL X e rest (Γ.set i (some (.ow (.lst ((l.filter p).map g))))) k)
    (hy : X.N[i]? = some y := by rfl) (hyl : X.env.scope.names.lookup y = some .local := by rfl) (hz2 : e.own = none ∨ i ≠ 0 := by first | exact .inl rfl | exact .inr (by decide))
    (hsw : swapsWith (.ListComp elt [⟨tg, iter, ifs, 0⟩] scope pos) (some (.Name y py)) spos.line X.env = pure true := by rfl)
    (hc : X.calm = true := by rfl) (hfs : ∀ x, foldedSetIterable iter X.env x = pure x := by intro _; rfl) : BL X e (.Assign [.Name y py] (.ListComp elt [⟨tg, iter, ifs, 0⟩] scope pos) spos :: rest) Γ k := by
  rw [← map_inv hu p g l] at hr
  refine bl_letLc (f := fun d => f (u d)) i (fun d => p (u d)) (fun d => g (u d)) ok hN hw hg hb hix hz (by rw [List.length_map]; exact hlen) (fun d hd => ?_) (fun d hd => ?_) (fun d hd hp => ?_) hr hy hyl hz2 hsw hc hfs
  · obtain ⟨a, ha, rfl⟩ := List.mem_map.mp hd
    show bind _ _ (f (u (c a)))
    rw [hu]
    exact hs a ha
  · obtain ⟨a, ha, rfl⟩ := List.mem_map.mp hd
    rw [hu]
    exact ht a ha
  · obtain ⟨a, ha, rfl⟩ := List.mem_map.mp hd
    rw [hu] at hp ⊢
    exact he a ha hp
end lcA
/-- the block of a comprehension, told by tables -/
theorem blk_of {N : List Str} {sc scope : Scope} {own : List (Str × Nat)} (h : L2.blkC N sc scope own = true := by decide +kernel) : BlkOk N sc scope own := L2.blkOk_by h
end Kf
end
section
set_option maxRecDepth 100000
set_option maxHeartbeats 4000000
/-! KfX: own exceptions whose __init__ says super().__init__(text). -/
namespace Kf
open PySem PySem.Spec PyProof.Rows PySem.Calls

/-- what is told of such a class -/
structure ExC (P : Program) (K : Fg) (C fI : Addr) (name qual : Str) (params : Arguments) (body : List Stmt) (scope : Scope) : Prop where
  cls : L2.OexC K C
  ini : W.findIn K (.ref C) "__init__" = some (some (.ref fI))
  ty : W.typeIn K (.ref fI) = some (.type "function")
  fn : ∃ (oc od : _) (kV doc pm : Value) (an : Option Addr) (cda : Addr) (ct : Value) (cc : Addr) (osl : Array (Option Value)) (ccl : Value) (cdd : Option Addr) (vs : Array Value) (ccs : Array (Option Value)) (file : Str) (tf : Tok) (cl : Value) (cld : Option Addr) (csl : Array (Option Value)),
    K.lookup fI = some ⟨oc, od, .func (W.ksFn name qual params body scope .none kV doc pm an (.ref cda) ct cc), osl⟩ ∧ W.codeIn K (.ref cda) qual = true ∧ K.lookup cda = some ⟨ccl, cdd, .fields vs, ccs⟩ ∧ vs[2]? = some (.str file tf) ∧ ((P.main.file : Str) == file) = true ∧
    K.lookup cc = some ⟨cl, cld, .cell (some (.ref C)), csl⟩
  sup : W.ks_superIn K C C "__init__" = some (some (.builtin "ValueError.__init__"))
  sub : W.subIn K (.ref C) (.type "ValueError") = some true
  mro : W.mroIn K C (.ref C) = some true
  opq : W.nsIn K cStatics "thirdparty.any" = some none
  top : (P.main.scope.names.lookup ("super" : Str)).isSome = false
abbrev eo (C t0 : Addr) (d : Option Addr) : Obj := { cls := .ref C, dict := d, data := .fields #[.ref t0, .none, .none, .none, .bool false, .none] }

section
open PySem.W
variable {prog : Program} {w : World} {A : Around} {E : Value → Shared → Prop} {h : Heap} {g : Array GenState} {d : Drawn} {t : Nat} {os : OsState}
variable {nm q : Str} {C N : Addr} {bs bm : List Value} {hdct : Bool} {sn : List Str} {sub : List Value} {ab : Bool} {col : Option Bool} {dd : Option Addr} {k0 k1 k2 k3 k5 : Option Value}
/-- the bound built-in __init__ called -/
theorem call_mw {u e t0 : Addr} {rest : List Value} {Q : Value → Shared → Prop}
    (hC : h.get? C = some (excClassObj nm q C N bs bm hdct sn sub ab col dd k0 k1 k2 k3 k5 "ValueError.__new__")) (he : h.get? e = some (eo C t0 none)) (hu : h.get? u = some (kxs_mw "ValueError.__init__" e)) (hrest : rest.length ≤ sizeLine)
    (hq : ∀ h' t1, (∀ b o, b ≠ e → h.get? b = some o → h'.get? b = some o) → h'.get? e = some (eo C t1 none) → Q .none ⟨h', g, d, t, os⟩) :
    wpAny (model prog w) A (call (.ref u) rest) Q E ⟨h, g, d, t, os⟩ := by
  refine wpAny_call (codeAny_of_tree ?_)
  show wpAny _ A.in1 (callAny (.ref u) ⟨rest, []⟩) _ _ _
  simp only [callAny]
  refine wpAny_bind (wpAny_load hu ?_)
  simp only [kxs_mw, show (Value.type "method-wrapper" == Value.type "method" || Value.type "method-wrapper" == Value.type "builtin_function_or_method" || Value.type "method-wrapper" == Value.type "method-wrapper") = true by decide, if_true]
  refine KFB.if_so (by decide) ?_
  refine wpAny_bind (check_bound_init F.excBase_ValueError.toExcCallFacts hC he rfl ?_)
  refine wpAny_bind (wpAny_pure (wpAny_pure ?_))
  refine ⟨plainId_quiet F.excBase_ValueError.init.plain _, codeAny_builtin F.excBase_ValueError.initEntry ?_⟩
  exact exc_init_tree (cls := .ref C) (t0 := t0) (dv := none) (c2 := .none) (c3 := .none) (b4 := .bool false) he hrest fun h' k e' _ => hq h' _ k e'
/-- super().__init__(text) -/
theorem super_stmt {body : List Stmt} {name qual txt : Str} {params : Arguments} {scope : Scope} {dV kV doc pm ct oc ccl cl : Value} {an od cdd cld : Option Addr} {osl ccs csl : Array (Option Value)} {x fI cc cda L t0 : Addr} {ar : Arg} {vs : Array Value} {file : Str} {tf : Tok} {p0 p1 p2 p3 p4 p5 : Pos} {j : Nat} {K : Fg} {mg m : Str → Option Value} {base : Heap} {Q : Flow → Shared → Prop}
    (KX : K.In h) (M : L2.Mod K mg base) (bk : ∀ b o, base.get? b = some o → h.get? b = some o) (hms : mg "super" = none) (lim : txt.length ≤ 1000)
    (hC : K.lookup C = some (excClassObj nm q C N bs bm hdct sn sub ab col dd k0 k1 k2 k3 k5 "ValueError.__new__"))
    (hf : K.lookup fI = some ⟨oc, od, .func (ksFn name qual params body scope dV kV doc pm an (.ref cda) ct cc), osl⟩) (hcode : K.lookup cda = some ⟨ccl, cdd, .fields vs, ccs⟩) (hvs : vs[2]? = some (.str file tf)) (hfile : ((prog.main.file : Str) == file) = true)
    (hcell : K.lookup cc = some ⟨cl, cld, .cell (some (.ref C)), csl⟩) (sup : ks_superIn K C C "__init__" = some (some (.builtin "ValueError.__init__"))) (sub1 : subIn K (.ref C) (.type "ValueError") = some true) (mro1 : mroIn K C (.ref C) = some true) (opq : nsIn K cStatics "thirdparty.any" = some none)
    (top : (prog.main.scope.names.lookup ("super" : Str)).isSome = false) (hp : (params.posonlyargs ++ params.args).head? = some ar)
    (hks : scope.names.lookup ("super" : Str) = some .globalImplicit) (hkc : scope.names.lookup ("__class__" : Str) = some .free) (hka : scope.names.lookup ar.arg = some .local) (hk : scope.kind = .function)
    (hns : h.Ns L m) (hv : m ar.arg = some (.ref x)) (hx : h.get? x = some (eo C t0 none))
    (hsw : swapsWith (.Call (.Attribute (.Call (.Name "super" p0) [] [] p1) "__init__" p2) [.Constant (.str txt) j p3] [] p4) none p5.line (ksEnv qual scope L fI (.ref cda) cc) = pure false := by rfl)
    (hin : interactive (ksEnv qual scope L fI (.ref cda) cc) = false := by rfl) {pl : Sem Bool}
    (hev : eval (.Call (.Attribute (.Call (.Name "super" p0) [] [] p1) "__init__" p2) [.Constant (.str txt) j p3] [] p4) (ksEnv qual scope L fI (.ref cda) cc) = (do
      let ov ← attributeBase (.Call (.Name "super" p0) [] [] p1) "__init__" (ksEnv qual scope L fI (.ref cda) cc) (eval (.Call (.Name "super" p0) [] [] p1) (ksEnv qual scope L fI (.ref cda) cc))
      standAt p2.atName
      let (f, first) ← holding [ov] (getMethod ov "__init__" pl)
      callWith p4 f first (backTo p4 (starEach [.Constant (.str txt) j p3] (ksEnv qual scope L fI (.ref cda) cc))) []) := by rfl)
    (hq : ∀ h' tk' t1, (∀ b o, b ≠ x → h.get? b = some o → h'.get? b = some o) → h'.get? x = some (eo C t1 none) → Q .next ⟨h', g, d, tk', os⟩) :
    _root_.PySem.wpAt (model prog w) A (.func body (ksEnv qual scope L fI (.ref cda) cc)) (exec (.Expr (.Call (.Attribute (.Call (.Name "super" p0) [] [] p1) "__init__" p2) [.Constant (.str txt) j p3] [] p4) p5) (ksEnv qual scope L fI (.ref cda) cc)) Q E ⟨h, g, d, t, os⟩ := by
  obtain ⟨mb, hb1, hb2⟩ := M.blt
  have hCd : (excClassObj nm q C N bs bm hdct sn sub ab col dd k0 k1 k2 k3 k5 "ValueError.__new__").data = .cls { name := nm, bases := bs, mro := .ref C :: bm, ns := N, qualname := q, hasDict := hdct, slotNames := sn, subclasses := sub, abstract := ab, collection := col, hasDel := false } := rfl
  have hcl : clsIn K C = some { name := nm, bases := bs, mro := .ref C :: bm, ns := N, qualname := q, hasDict := hdct, slotNames := sn, subclasses := sub, abstract := ab, collection := col, hasDel := false } := by unfold clsIn; rw [hC] <;> rfl
  refine ks_wpAt_Expr_any (ks_wpAt_MethodCall ?_ hev) hin hsw
  refine ks_wpAt_super_base (env := ksEnv qual scope L fI (.ref cda) cc) hks hkc (by decide) rfl (KX _ _ hf) rfl hp rfl (KX _ _ hcode) rfl hvs hfile top ?_
  refine ks_loadName_global hk hks (loadGlobal_builtin (env := ksEnv qual scope L fI (.ref cda) cc) (M.glob.keeps bk) hms (hb1.keeps bk) ((hb2 _ (by decide)).trans (show bootBuiltins "super" = some (.type "super") by decide +kernel)) ⟨rfl, ?_⟩)
  refine wpAny_loadName_free hk hkc rfl ⟨_, KX _ _ hcell, rfl⟩ ?_
  refine wpAny_loadName_local hk hka hns hv ?_
  refine ks_wpAny_isType_cls (KX _ _ hC) hCd ⟨rfl, ?_⟩
  refine ks_wpAny_call_super (KX _ _ hC) hCd hx rfl (fun c e => by cases e) (looks_mroIn KX mro1) (fun h1 e1 k1 => ?_)
  have KX1 : K.In h1 := KX.keeps k1
  have hx1 := k1 _ _ hx
  have I1 : InstAt h1 x (eo C t0 none) C none := ⟨hx1, rfl, rfl, trivial⟩
  have hxC : x ≠ C := ks_ne KX1 I1 hcl
  have sup' : alongIn K "__init__" (((.ref C :: bm : List Value).dropWhile (· != .ref C)).drop 1) = some (some (.builtin "ValueError.__init__")) := by
    unfold ks_superIn at sup
    rw [hcl] at sup
    exact sup
  refine kxs_getMethod kxs_ValueError e1 (looks_opaque KX1 opq) (l₀ := .ref C :: bm) (fun A Q E s k q => wpAny_bind ((looks_clsIn KX1 hcl) A _ E s k (wpAny_pure q))) rfl KX1 sup' (I1.type.andThen (looks_subIn KX1 sub1)) hxC (by decide) ?_
  have hu : (h1.push (kxs_mw "ValueError.__init__" x)).get? h1.objs.size = some (kxs_mw "ValueError.__init__" x) := Heap.get?_push_at rfl rfl
  have up : ∀ b o, h1.get? b = some o → (h1.push (kxs_mw "ValueError.__init__" x)).get? b = some o := fun b o e => Heap.get?_push_of_some _ e
  refine kxs_callWith (i := "ValueError.__init__") (x := x) rfl (evalArgs_plain (spliced_cons (Constant_str (pos := p3) (k := j) (spliced_nil ⟨hu, ?_⟩))))
  have hC1 := KX1 _ _ hC
  refine call_mw (h := h1.push (kxs_mw "ValueError.__init__" x)) (up _ _ hC1) (up _ _ hx1) hu (by show 1 ≤ _; decide) fun h' t1 k' e' => ?_
  exact hq h' _ t1 (fun b o hb e => k' b o hb (up b o (k1 b o e))) e'
end
end Kf
end
section
set_option maxRecDepth 100000
set_option maxHeartbeats 4000000
/-! KfX2: such an __init__ as a def that keeps its promise. -/
namespace Kf
open PySem PySem.Spec PyProof.Rows PySem.Calls
open L2 (exo exd HOk ObjOk Room Env0 RelV Vals upd upd_ne upd_same Sp VK XK HO ne_of_none frs)

theorem ldL {M : Model} {A : Around} {E : Value → Shared → Prop} {s : Shared} {env : Env} {m : Str → Option Value} {x : Str} {pos : Pos} {v : Value} {Q : Value → Shared → Prop} (hn : s.heap.Ns env.locals m) (hv : m x = some v) (h : Q v s)
    (hk : env.scope.kind = .function) (hl : env.kindOf x = some .local) (hd : (x == ("__debug__" : Str)) = false) : wpAny M A (eval (.Name x pos) env) Q E s := wpAny_Name (wpAny_loadName_local hk hl hn hv h) hd
abbrev superCall (txt : Str) (j : Nat) (p0 p1 p2 p3 p4 : Pos) : Expr := .Call (.Attribute (.Call (.Name "super" p0) [] [] p1) "__init__" p2) [.Constant (.str txt) j p3] [] p4
/-- the entry, common to all -/
def spI1 (C : Addr) (f : Str) : Sp := fun vs H Q E => ∃ a y, vs = [.ref a, y] ∧ H a = some (exo a C none) ∧ ∀ dx, H dx = none → dx ≠ a → Q .non (upd (upd H dx (exd dx [(f, y)])) a (exo a C (some dx)))
def spI0 (C : Addr) : Sp := fun vs H Q E => ∃ a, vs = [.ref a] ∧ H a = some (exo a C none) ∧ Q .non H
section
variable {P : Program} {w : World} {K : Fg} {mg : Str → Option Value} {base : Heap} {C fI : Addr} {name qual : Str} {params : Arguments} {body : List Stmt} {scope : Scope}
theorem fn_exc1 {f pn txt : Str} {j : Nat} {p0 p1 p2 p3 p4 p5 p6 p7 p8 p9 : Pos} (X : ExC P K C fI name qual params body scope) (hms : mg "super" = none) (hno : W.findIn K (.ref C) f = some none)
    (hbody : body = [.Expr (superCall txt j p0 p1 p2 p3 p4) p5, .Assign [.Attribute (.Name "self" p6) f p7] (.Name pn p8) p9]) (lim : txt.length ≤ 1000)
    (hp : ∃ an1 : Arg, (params.posonlyargs ++ params.args).head? = some an1 ∧ an1.arg = "self") (hks : scope.names.lookup ("super" : Str) = some .globalImplicit) (hkc : scope.names.lookup ("__class__" : Str) = some .free) (hka : scope.names.lookup ("self" : Str) = some .local) (hkp : scope.names.lookup pn = some .local) (hps : pn ≠ "self") (hpd : (pn == ("__debug__" : Str)) = false)
    (hk : scope.kind = .function) (hco : scope.isCoroutine = false) (hgen : scope.isGenerator = false) (hcells : ∀ x ∈ scope.names, x.2 ≠ .cell)
    (hsw : ∀ L f cda cc, swapsWith (superCall txt j p0 p1 p2 p3 p4) none p5.line (W.ksEnv qual scope L f (.ref cda) cc) = pure false) (hin : ∀ L f cda cc, interactive (W.ksEnv qual scope L f (.ref cda) cc) = false)
    (hsw2 : ∀ L fa cda cc, swapsWith (.Name pn p8) (some (.Attribute (.Name "self" p6) f p7)) p9.line (W.ksEnv qual scope L fa (.ref cda) cc) = pure false)
    (hev : ∀ L fa cda cc, ∃ pl, eval (superCall txt j p0 p1 p2 p3 p4) (W.ksEnv qual scope L fa (.ref cda) cc) = (do
      let ov ← attributeBase (.Call (.Name "super" p0) [] [] p1) "__init__" (W.ksEnv qual scope L fa (.ref cda) cc) (eval (.Call (.Name "super" p0) [] [] p1) (W.ksEnv qual scope L fa (.ref cda) cc))
      standAt p2.atName
      let (f, first) ← holding [ov] (getMethod ov "__init__" pl)
      callWith p4 f first (backTo p4 (starEach [.Constant (.str txt) j p3] (W.ksEnv qual scope L fa (.ref cda) cc))) []))
    (hbd : ∀ (kV doc pm : Value) (an : Option Addr) (cdv ct : Value) (cc : Addr) (us : List Value), us.length = 2 → bindArgs (W.ksFn name qual params body scope .none kV doc pm an cdv ct cc) ⟨us, []⟩ = pure ((["self", pn] : List Str).zip us)) :
    ∃ fd, L2.FnOk P w K mg base (L2.CX P w) 1 fI fd ["self", pn] (spI1 C f) ∧ L2.Binds K fd ["self", pn] [] := by
  obtain ⟨oc, od, kV, doc, pm, an, cda, ct, cc, osl, ccl, cdd, vsc, ccs, file, tf, cl, cld, csl, lk, hcd, hcode, hvs, hfile, hcell⟩ := X.fn
  obtain ⟨an1, hp1, hp2⟩ := hp
  refine ⟨W.ksFn name qual params body scope .none kV doc pm an (.ref cda) ct cc, ⟨fun vs H Q E ⟨a, y, h, _⟩ => by rw [h]; rfl, fun A outer s H args us vs Q E hr e0 hb r ⟨a, y, hvs', ha, hq⟩ => ?_⟩, .all fun us hl => hbd kV doc pm an (.ref cda) ct cc us hl⟩
  subst hvs'
  obtain ⟨ua, uy, rfl, ra, ry⟩ := r.two
  obtain rfl : ua = Value.ref a := ra
  obtain ⟨nm, q, N, bs, bm, sn, sub, ab, col, dd, k0, k1, k2, k3, k5, hC, hbm⟩ := X.cls.cls
  obtain ⟨t0, hx⟩ := L2.exo_at e0.hok ha
  have KXs : K.In s.heap := e0.mod.kin.keeps fun b o e => (e0.bs b o e).1
  have limh : s.heap.NoLimit := e0.mod.nolimit.keeps fun b o e => (e0.bs b o e).1
  refine ks_codeAny_call_defAt (fd := W.ksFn name qual params body scope .none kV doc pm an (.ref cda) ct cc) (body := body) (binds := (["self", pn] : List Str).zip [.ref a, uy]) hr.depth (KXs _ _ lk) rfl limh (W.codeRec_of KXs hcd) rfl hb hcells ?_ (fun h₁ hns hk₁ => ?_) hco hgen hk
  · intro x hx
    rcases List.mem_cons.mp hx with rfl | hx
    · exact hka
    · rcases List.mem_cons.mp hx with rfl | hx
      · exact hkp
      · cases hx
  obtain ⟨hp', g, d, t, os⟩ := s
  subst hbody
  have KX1 : K.In h₁ := KXs.keeps hk₁
  have hxa := hk₁ _ _ hx
  have hLa : hp'.objs.size ≠ a := fun z => by
    have : a < hp'.objs.size := Heap.lt_size hx
    rw [z] at this
    exact Nat.lt_irrefl _ this
  obtain ⟨pl, hev'⟩ := hev hp'.objs.size fI cda cc
  have lkS : ∀ {z : Str} {v : Value}, ((["self", pn] : List Str).zip [Value.ref a, uy]).reverse.lookup ("self" : Str) = some (Value.ref a) := fun {z v} => by
    show List.lookup ("self" : Str) [(pn, uy), (("self" : Str), Value.ref a)] = _
    have : (("self" : Str) == pn) = false := by simpa using fun z => hps z.symm
    rw [List.lookup_cons, this, List.lookup_cons]
    simp
  have lkP : ((["self", pn] : List Str).zip [Value.ref a, uy]).reverse.lookup pn = some uy := by
    show List.lookup pn [(pn, uy), (("self" : Str), Value.ref a)] = _
    rw [List.lookup_cons]
    simp
  refine ks_wpAt_execs_cons (super_stmt KX1 e0.mod (fun b o e => hk₁ b o (e0.bs b o e).1) hms lim hC lk hcode hvs hfile hcell X.sup X.sub X.mro X.opq X.top hp1 hks hkc (by rw [hp2]; exact hka) hk hns (by rw [hp2]; exact lkS (z := pn) (v := uy)) hxa (hsw _ _ _ _) (hin _ _ _ _) hev' fun h2 tk2 t1 k2' e2 => ?_)
  have hns2 := hns.at fun o q => k2' _ _ hLa q
  have KX2 : K.In h2 := fun b o q => k2' b o (fun z => by
    have := L2.exo_at e0.hok ha
    have hb1 := (e0.mod.kin b o q)
    rw [z] at hb1
    have := (e0.bs a o hb1).2
    rw [ha] at this
    cases this) (KX1 b o q)
  refine ks_wpAt_execs_cons (PyProof.Rows.wpAt_of_any (plainObj_wpAny_Assign_Attribute (ldL hns2 lkP (ldL hns2 (lkS (z := pn) (v := uy)) ?_ hk hka (by decide)) hk hkp hpd) (hsw2 _ _ _ _)))
  have hcl : W.clsIn K C = some { name := nm, bases := bs, mro := .ref C :: bm, ns := N, qualname := q, hasDict := true, slotNames := sn, subclasses := sub, abstract := ab, collection := col, hasDel := false } := by unfold W.clsIn; rw [hC] <;> rfl
  refine W.set_plain KX2 (ox := eo C t1 none) (od := none) ⟨e2, rfl, rfl, trivial⟩ X.cls.sa ?_
  refine HandSPX.exc_osa KX2 e2 hcl (show HandSPX.refsVE (.ref C :: bm) = true from hbm) rfl hno (fun h3 tk3 dx k3' dn dne hx3 hn3 => ?_)
  show _root_.PySem.wpAt _ _ _ (execs [] _) _ _ _
  refine PyProof.Rows.wpAt_of_any (wpAny_execs_nil ?_)
  have hL2 : hp'.objs.size < h2.objs.size := by
    obtain ⟨o, es, ep, ho, _⟩ := hns2
    exact Heap.lt_size ho
  have big : ∀ {b : Addr} {o : Obj}, hp'.get? b = some o → b ≠ dx := fun {b o} z e => by
    have h1 : b < hp'.objs.size := Heap.lt_size z
    rw [e] at h1
    exact Nat.lt_irrefl _ (Nat.lt_of_lt_of_le (Nat.lt_trans h1 hL2) dn)
  have hnd : H dx = none := by
    cases z : H dx with
    | none => rfl
    | some u =>
      have h1 : dx < hp'.objs.size := (e0.hok dx u z).lt
      exact absurd (Nat.lt_of_lt_of_le (Nat.lt_trans h1 hL2) dn) (Nat.lt_irrefl _)
  have kk : ∀ b o, b ≠ a → hp'.get? b = some o → h3.get? b = some o := fun b o hb z => k3' b o hb (k2' b o hb (hk₁ b o z))
  have na : ∀ {b : Addr}, H b = none → b ≠ a := fun {b} n z => by
    rw [z, ha] at n
    cases n
  have Un1 : L2.Un (frs outer) [] H (upd (upd H dx (exd dx [(f, y)])) a (exo a C (some dx))) hp' h3 := {
    keep := fun b o q n _ _ => kk b o (na n) q
    slot := fun b o q n _ _ => ⟨o.slots, kk b o (na n) q⟩
    free := fun b o q n _ => by rw [upd_ne (na n), upd_ne (big q)]; exact n
    there := fun b o q _ => by
      by_cases hb : b = a
      · exact ⟨_, by rw [hb]; exact hx3⟩
      · exact ⟨o, kk b o hb q⟩
    tups := fun b xs q => by rw [upd_ne (L2.at_ne ha q L2.exo_tup), upd_ne (ne_of_none q hnd)]; exact q
    frzs := fun b o v q => by rw [upd_ne (L2.at_ne ha q L2.exo_frz), upd_ne (ne_of_none q hnd)]; exact q
    tbls := fun b ps q => ⟨#[], by rw [upd_ne (L2.at_ne ha q L2.exo_tbl), upd_ne (ne_of_none q hnd), q]; simp⟩ }
  refine ⟨.non, _, rfl, e0.bare, Un1, fun b o q => ?_, rfl, hq dx hnd dne⟩
  by_cases hb : b = a
  · subst hb
    rw [upd_same] at q
    cases q
    exact L2.exo_ok hx3
  · rw [upd_ne hb] at q
    by_cases hd : b = dx
    · subst hd
      rw [upd_same] at q
      cases q
      exact L2.exd_ok hn3 (L2.relO_put (fs := []) ry fun g => True.intro)
    · rw [upd_ne hd] at q
      exact (e0.hok b o q).stay (fun c v hc z => kk c v (by
          rcases hc with hc | hc
          · rw [hc]
            exact hb
          · exact L2.at_ne ha hc L2.exo_own) z)
        (fun c hc => by rw [upd_ne (L2.at_ne ha hc L2.exo_own), upd_ne (ne_of_none hc hnd)]; exact hc) (fun c xs hc => by rw [upd_ne (L2.at_ne ha hc L2.exo_tup), upd_ne (ne_of_none hc hnd)]; exact hc)
theorem fn_exc0 {txt : Str} {j : Nat} {p0 p1 p2 p3 p4 p5 : Pos} (X : ExC P K C fI name qual params body scope) (hms : mg "super" = none)
    (hbody : body = [.Expr (superCall txt j p0 p1 p2 p3 p4) p5]) (lim : txt.length ≤ 1000)
    (hp : ∃ an1 : Arg, (params.posonlyargs ++ params.args).head? = some an1 ∧ an1.arg = "self") (hks : scope.names.lookup ("super" : Str) = some .globalImplicit) (hkc : scope.names.lookup ("__class__" : Str) = some .free) (hka : scope.names.lookup ("self" : Str) = some .local)
    (hk : scope.kind = .function) (hco : scope.isCoroutine = false) (hgen : scope.isGenerator = false) (hcells : ∀ x ∈ scope.names, x.2 ≠ .cell)
    (hsw : ∀ L f cda cc, swapsWith (superCall txt j p0 p1 p2 p3 p4) none p5.line (W.ksEnv qual scope L f (.ref cda) cc) = pure false) (hin : ∀ L f cda cc, interactive (W.ksEnv qual scope L f (.ref cda) cc) = false)
    (hev : ∀ L fa cda cc, ∃ pl, eval (superCall txt j p0 p1 p2 p3 p4) (W.ksEnv qual scope L fa (.ref cda) cc) = (do
      let ov ← attributeBase (.Call (.Name "super" p0) [] [] p1) "__init__" (W.ksEnv qual scope L fa (.ref cda) cc) (eval (.Call (.Name "super" p0) [] [] p1) (W.ksEnv qual scope L fa (.ref cda) cc))
      standAt p2.atName
      let (f, first) ← holding [ov] (getMethod ov "__init__" pl)
      callWith p4 f first (backTo p4 (starEach [.Constant (.str txt) j p3] (W.ksEnv qual scope L fa (.ref cda) cc))) []))
    (hbd : ∀ (kV doc pm : Value) (an : Option Addr) (cdv ct : Value) (cc : Addr) (us : List Value), us.length = 1 → bindArgs (W.ksFn name qual params body scope .none kV doc pm an cdv ct cc) ⟨us, []⟩ = pure ((["self"] : List Str).zip us)) :
    ∃ fd, L2.FnOk P w K mg base (L2.CX P w) 1 fI fd ["self"] (spI0 C) ∧ L2.Binds K fd ["self"] [] := by
  obtain ⟨oc, od, kV, doc, pm, an, cda, ct, cc, osl, ccl, cdd, vsc, ccs, file, tf, cl, cld, csl, lk, hcd, hcode, hvs, hfile, hcell⟩ := X.fn
  obtain ⟨an1, hp1, hp2⟩ := hp
  refine ⟨W.ksFn name qual params body scope .none kV doc pm an (.ref cda) ct cc, ⟨fun vs H Q E ⟨a, h, _⟩ => by rw [h]; rfl, fun A outer s H args us vs Q E hr e0 hb r ⟨a, hvs', ha, hq⟩ => ?_⟩, .all fun us hl => hbd kV doc pm an (.ref cda) ct cc us hl⟩
  subst hvs'
  obtain ⟨ua, rfl, ra⟩ := L2.vals1 r
  obtain rfl : ua = Value.ref a := ra
  obtain ⟨nm, q, N, bs, bm, sn, sub, ab, col, dd, k0, k1, k2, k3, k5, hC, hbm⟩ := X.cls.cls
  obtain ⟨t0, hx⟩ := L2.exo_at e0.hok ha
  have KXs : K.In s.heap := e0.mod.kin.keeps fun b o e => (e0.bs b o e).1
  have limh : s.heap.NoLimit := e0.mod.nolimit.keeps fun b o e => (e0.bs b o e).1
  refine ks_codeAny_call_defAt (fd := W.ksFn name qual params body scope .none kV doc pm an (.ref cda) ct cc) (body := body) (binds := (["self"] : List Str).zip [.ref a]) hr.depth (KXs _ _ lk) rfl limh (W.codeRec_of KXs hcd) rfl hb hcells ?_ (fun h₁ hns hk₁ => ?_) hco hgen hk
  · intro x hx
    rcases List.mem_cons.mp hx with rfl | hx
    · exact hka
    · cases hx
  obtain ⟨hp', g, d, t, os⟩ := s
  subst hbody
  have KX1 : K.In h₁ := KXs.keeps hk₁
  have hxa := hk₁ _ _ hx
  have hLa : hp'.objs.size ≠ a := fun z => by
    have : a < hp'.objs.size := Heap.lt_size hx
    rw [z] at this
    exact Nat.lt_irrefl _ this
  obtain ⟨pl, hev'⟩ := hev hp'.objs.size fI cda cc
  have lkS : (((["self"] : List Str)).zip [Value.ref a]).reverse.lookup ("self" : Str) = some (Value.ref a) := by
    show List.lookup ("self" : Str) [(("self" : Str), Value.ref a)] = _
    rw [List.lookup_cons]
    simp
  refine ks_wpAt_execs_cons (super_stmt KX1 e0.mod (fun b o e => hk₁ b o (e0.bs b o e).1) hms lim hC lk hcode hvs hfile hcell X.sup X.sub X.mro X.opq X.top hp1 hks hkc (by rw [hp2]; exact hka) hk hns (by rw [hp2]; exact lkS) hxa (hsw _ _ _ _) (hin _ _ _ _) hev' fun h2 tk2 t1 k2' e2 => ?_)
  show _root_.PySem.wpAt _ _ _ (execs [] _) _ _ _
  refine PyProof.Rows.wpAt_of_any (wpAny_execs_nil ?_)
  have kk : ∀ b o, b ≠ a → hp'.get? b = some o → h2.get? b = some o := fun b o hb z => k2' b o hb (hk₁ b o z)
  have na : ∀ {b : Addr}, H b = none → b ≠ a := fun {b} n z => by
    rw [z, ha] at n
    cases n
  have Un1 : L2.Un (frs outer) [] H H hp' h2 := {
    keep := fun b o q n _ _ => kk b o (na n) q
    slot := fun b o q n _ _ => ⟨o.slots, kk b o (na n) q⟩
    free := fun b o q n _ => n
    there := fun b o q _ => by
      by_cases hb : b = a
      · exact ⟨_, by rw [hb]; exact e2⟩
      · exact ⟨o, kk b o hb q⟩
    tups := fun b xs q => q
    frzs := fun b o v q => q
    tbls := fun b ps q => ⟨#[], by rw [q]; simp⟩ }
  refine ⟨.non, _, rfl, e0.bare, Un1, fun b o q => ?_, rfl, hq⟩
  by_cases hb : b = a
  · subst hb
    rw [ha] at q
    cases q
    exact L2.exo_ok e2
  · exact (e0.hok b o q).stay (fun c v hc z => kk c v (by
          rcases hc with hc | hc
          · rw [hc]
            exact hb
          · exact L2.at_ne ha hc L2.exo_own) z) (fun c hc => hc) (fun c xs hc => hc)
end
end Kf
end
section
set_option maxRecDepth 100000
set_option maxHeartbeats 4000000
/-! KfX3: C(..) of such a class, raise. -/
namespace L2
open PySem PySem.Spec PyProof.Rows
section
variable {X : Cx} {p pos : Pos}
/-- the end of C(): the exception is let go, it has no dict -/
theorem mk_endN {pins : List (Addr × Obj)} {σ : St} {H1 H2 : Hp} {hp hp2 h2 : Heap} {g1 g2 : Array GenState} {d1 d2 : Drawn} {t1 t2 : Nat} {os1 os2 : OsState} {a C : Addr} (I1 : Inv X pins σ H1 ⟨hp, g1, d1, t1, os1⟩)
    (ha : hp.objs.size ≤ a) (k : ∀ b o, hp.get? b = some o → hp2.get? b = some o) (un : Un (frs X.stack) [] (upd H1 a (exo a C none)) H2 hp2 h2) (hok : HOk X.prog X.w H2 h2) (ho : os2 = os1) (hb : AllBare g2)
    (ea : H2 a = some (exo a C none)) (e2 : ∀ b, b ≠ a → H2 b = H1 b) :
    ∃ (t0 : Addr) (G : Heap), Inv X pins σ H1 ⟨G, g2, d2, t2, os2⟩ ∧ (∀ b o, G.get? b = some o → h2.get? b = some o) ∧ G.get? a = none ∧
      h2.get? a = some ({ cls := .ref C, dict := none, data := .fields #[.ref t0, .none, .none, .none, .bool false, .none] } : Obj) ∧ H1 a = none := by
  obtain ⟨t0, hoe⟩ := exo_at hok ea
  have hn : H1 a = none := I1.hok.fresh ha
  obtain ⟨G, g1', g2'⟩ := restrict h2 fun b => decide (b ≠ a)
  have gk : ∀ b, b ≠ a → G.get? b = h2.get? b := fun b hb => g1' b (decide_eq_true hb)
  have ge : G.get? a = none := g2' a (by simp)
  have nha : ∀ {b : Addr} {o : Obj}, hp.get? b = some o → b ≠ a := fun {b o} z => Nat.ne_of_lt (Nat.lt_of_lt_of_le (Heap.lt_size z) ha)
  have up : ∀ {b : Addr}, b ≠ a → H1 b = none → upd H1 a (exo a C none) b = none := fun {b} hb n => by rw [upd_ne hb]; exact n
  have U : Un (frs X.stack) [] H1 H1 hp G := {
    keep := fun b o z n hf hx => by
      rw [gk b (nha z)]
      exact un.keep b o (k b o z) (up (nha z) n) hf hx
    slot := fun b o z n hf hx => by
      rw [gk b (nha z)]
      exact un.slot b o (k b o z) (up (nha z) n) hf hx
    free := fun b o z n hx => n
    there := fun b o z hx => by
      rw [gk b (nha z)]
      exact un.there b o (k b o z) hx
    tups := fun b xs z => z
    frzs := fun b o v z => z
    tbls := fun b ps z => ⟨#[], by rw [z]; simp⟩ }
  have hok3 : HOk X.prog X.w H1 G := fun b o z => by
    have hba : b ≠ a := fun e => by
      rw [e, hn] at z
      cases z
    have z2 : H2 b = some o := by rw [e2 b hba]; exact z
    have noa : ∀ {c : Addr}, H2 c = some (.own b) → c ≠ a := fun {c} hc => at_ne ea hc exo_own
    exact (hok b o z2).stay (fun c v hc y => by
        have hca : c ≠ a := by
          rcases hc with hc | hc
          · rw [hc]
            exact hba
          · exact noa hc
        rw [gk c hca]
        exact y)
      (fun c hc => by rw [← e2 c (noa hc)]; exact hc) (fun c xs hc => by rw [← e2 c (at_ne ea hc exo_tup)]; exact hc)
  have J : Inv X pins σ H1 ⟨G, g2, d2, t2, os2⟩ := I1.call' (ch := []) ho U hok3 hb (fun b z => absurd z (by simp))
  refine ⟨t0, G, J, fun b o z => ?_, ge, hoe, hn⟩
  by_cases hba : b = a
  · rw [hba, ge] at z
    cases z
  · exact (gk b hba).symm.trans z
/-- C(), C's own __init__ keeping sp -/
def tMkO0 (C : Addr) (sp : Sp) : St → Hp → XK → Prop := fun σ H Q => ∀ a, H a = none → sp [.ref a] (upd H a (exo a C none))
  (fun v H2 => v = .non ∧ H2 a = some (exo a C none) ∧ (∀ b, b ≠ a → H2 b = H b) ∧ Q (.ref C) none H) (fun _ _ _ => False)
theorem pmk_oex0 {CX : CXT} {x : Str} {C fI : Addr} {k : Nat} {fd : FuncData} {ps : List Str} {sp : Sp} (T : OexC X.K C) (iC : PySem.W.findIn X.K (.ref C) "__init__" = some (some (.ref fI))) (tI : PySem.W.typeIn X.K (.ref fI) = some (.type "function"))
    (F1 : FnOk X.prog X.w X.K X.mg X.base CX k fI fd ps sp) (hr : Room (k + 1) X.A) (hb : Binds X.K fd ps []) (hx : Passes CX X (fun _ _ _ => False)) (hg : Gl X x) (hm : X.mg x = some (.ref C)) (hdb : (x == ("__debug__" : Str)) = false := by decide) :
    PMk X (.Call (.Name x p) [] [] pos) (tMkO0 C sp) := by
  intro pins s σ H Q I h
  obtain ⟨nm, q, N, bs, bm, sn, sub, ab, col, dd, k0, k1, k2, k3, k5, hC, hbm⟩ := T.cls
  refine wpAny_Call_Name_kw (ld_glob I hg hm ?_ hdb)
  refine PySem.W.callWith_K0 I.kIn T.kC ?_
  show wpAny _ _ (call (.ref C) []) _ _ _
  obtain ⟨hp, g, dr, tk, os⟩ := s
  have hsz : hp.objs.size ≤ hp.objs.size + 1 := Nat.le_succ _
  have hn : H (hp.objs.size + 1) = none := I.hok.fresh hsz
  have hq := h (hp.objs.size + 1) hn
  have kk : ∀ b o, hp.get? b = some o → ((hp.push (PySem.W.kdv_tup [])).push (PySem.HandSPX.excO C hp.objs.size)).get? b = some o := fun b o e => Heap.get?_push_of_some _ (Heap.get?_push_of_some _ e)
  have hget : ((hp.push (PySem.W.kdv_tup [])).push (PySem.HandSPX.excO C hp.objs.size)).get? (hp.objs.size + 1) = some (PySem.HandSPX.excO C hp.objs.size) := by heap_get
  have I2 : Inv X pins σ (upd H (hp.objs.size + 1) (exo (hp.objs.size + 1) C none)) ⟨(hp.push (PySem.W.kdv_tup [])).push (PySem.HandSPX.excO C hp.objs.size), g, dr, tk, os⟩ :=
    I.laid (t' := tk) (a := hp.objs.size + 1) (o := exo (hp.objs.size + 1) C none) (h' := (hp.push (PySem.W.kdv_tup [])).push (PySem.HandSPX.excO C hp.objs.size)) kk hsz (exo_ok hget)
  have r2 : Vals [V.ref (hp.objs.size + 1)] [Value.ref (hp.objs.size + 1)] := .cons rfl .nil
  have hl : ([Value.ref (hp.objs.size + 1)] ++ []).length = ps.length := (F1.len _ _ _ _ hq)
  refine wpAny_call (PySem.HandSPX.call_own F.excBase_ValueError (fun Y => PySem.HandSPX.refsVE_contains Y bm hbm) (I.kIn _ _ hC) (PySem.W.looks_findIn I.kIn iC) (fun self => PySem.W.bind_fn I.kIn self tI) (Nat.zero_le _)
    (codeAny_mono (F1.run _ X.stack _ _ ⟨[Value.ref (hp.objs.size + 1)], []⟩ [Value.ref (hp.objs.size + 1)] _ _ (fun _ _ _ => False) (hr.make C [] []) (I2.env0.make C [] []) (hb _ [Value.ref (hp.objs.size + 1)] I2.kIn hl) r2 hq) fun r s' hq' => ?_))
  cases r with
  | error er => exact hx pins σ _ _ er s' I2 hq'
  | ok fl =>
    cases fl with
    | ret u =>
      obtain ⟨v, H2, os2, bare2, un2, hok2, rv, ev, ea, e2, q2⟩ := hq'
      subst ev
      obtain ⟨h2, g2, d2, t2, os'⟩ := s'
      obtain ⟨t0, G, J, kG, ge, hoe, na⟩ := mk_endN (d2 := d2) (t2 := t2) I hsz kk un2 hok2 os2 bare2 ea e2
      exact ⟨rv, _, _, _, ⟨G, g2, d2, t2, os'⟩, H, .ref C, none, rfl, J, kG, ge, hoe, ⟨rfl, rfl⟩, rfl, rfl, na, rfl, bare2, raises_own T.exC T.tyC, q2⟩
    | next => exact False.elim hq'
    | brk => exact False.elim hq'
    | cont => exact False.elim hq'
end
end L2

namespace Kf
open PySem L2
/-- an exception class of the text, by its name: C(y) has the field f | C() has none -/
structure Xc1 (P : Program) (w : World) (K : Fg) (mg : Str → Option Value) (base : Heap) (x f : Str) : Prop where
  at_ : mg x = some (.ref (He.ga K x))
  cls : OexC K (He.ga K x)
  fn : ∃ fI fd ps, PySem.W.findIn K (.ref (He.ga K x)) "__init__" = some (some (.ref fI)) ∧ PySem.W.typeIn K (.ref fI) = some (.type "function") ∧ FnOk P w K mg base (L2.CX P w) 1 fI fd ps (spI1 (He.ga K x) f) ∧ Binds K fd ps []
structure Xc0 (P : Program) (w : World) (K : Fg) (mg : Str → Option Value) (base : Heap) (x : Str) : Prop where
  at_ : mg x = some (.ref (He.ga K x))
  cls : OexC K (He.ga K x)
  fn : ∃ fI fd ps, PySem.W.findIn K (.ref (He.ga K x)) "__init__" = some (some (.ref fI)) ∧ PySem.W.typeIn K (.ref fI) = some (.type "function") ∧ FnOk P w K mg base (L2.CX P w) 1 fI fd ps (spI0 (He.ga K x)) ∧ Binds K fd ps []
section
variable {X : Cx} {e : Ent} {Γ : Gam} {a : Expr} {pos p rpos : Pos} {k : Kn} {rest : List Stmt} {U : Wx}
/-- raise C(a) -/
theorem bl_raise1 {x f : Str} {d : D} {j : Nat} (C : Xc1 X.prog X.w X.K X.mg X.base x f) (hr : Room j X.A) (hj : 2 ≤ j) (ha : PV X e a Γ d) (tk : Takes X (wX X.K e U)) (hU : U x [(f, d)] Γ) (hg : Gl X x := by rfl) (hdb : (x == ("__debug__" : Str)) = false := by decide) (hc : X.calm = true := by rfl)
    (he : starEach [a] X.env = (false, eval a X.env) :: starEach [] X.env := by rfl) (hpl : (backTo pos (starEach [] X.env)).any (·.1) = false := by rfl) : BL X e (.Raise (some (.Call (.Name x p) [a] [] pos)) none rpos :: rest) Γ k := by
  obtain ⟨fI, fd, ps, iC, tI, F1, hb⟩ := C.fn
  refine bl_cons (fun _ => False) (PS.imp (ps_raise hc tk (pmk_oex (dvs := []) C.cls iC tI F1 (hr.mono hj) hb .nil (passes_call takes0 fun _ _ _ _ z => z.elim) hg C.at_ (pvs_one ha he) hdb he hpl)) fun D σ H ⟨S, w, nx, _⟩ => ?_) fun _ q => q.elim
  refine ⟨S, w, fun S1 H1 vs s1 w1 r1 => ?_⟩
  cases r1 with
  | cons r2 r3 =>
    rename_i v _
    cases r3
    refine ⟨by show 1 ≤ 1000; decide, fun c hc => ⟨c, v, rfl, upd_same, fun dx hdx ne => ⟨rfl, dx, [(f, v)], upd_same, by rw [upd_ne ne, upd_same], ?_, ?_⟩⟩⟩
    · rw [upd_ne ne] at hdx
      exact hdx
    · have hd0 : H1 dx = none := by rw [upd_ne ne] at hdx; exact hdx
      have e1 : upd (del (upd (upd (upd H1 c (exo c (He.ga X.K x) none)) dx (exd dx [(f, v)])) c (exo c (He.ga X.K x) (some dx))) c) dx (.xd [(f, v)]) = upd H1 dx (.xd [(f, v)]) := by
        funext b
        by_cases hb : b = dx
        · rw [hb, upd_same, upd_same]
        · rw [upd_ne hb, upd_ne hb]
          by_cases hbc : b = c
          · rw [hbc, del_same, hc]
          · rw [del_ne hbc, upd_ne hbc, upd_ne hb, upd_ne hbc]
      rw [e1]
      exact ⟨S1, x, _, Γ, hU, w1.own hd0, rfl, .inr ⟨dx, _, rfl, upd_same, w1.nx.fresh hd0, .cons r2 .nil⟩⟩
/-- raise C() -/
theorem bl_raise0 {x : Str} {j : Nat} (C : Xc0 X.prog X.w X.K X.mg X.base x) (hr : Room j X.A) (hj : 2 ≤ j) (tk : Takes X (wX X.K e U)) (hU : U x [] Γ) (hg : Gl X x := by rfl) (hdb : (x == ("__debug__" : Str)) = false := by decide) (hc : X.calm = true := by rfl) : BL X e (.Raise (some (.Call (.Name x p) [] [] pos)) none rpos :: rest) Γ k := by
  obtain ⟨fI, fd, ps, iC, tI, F1, hb⟩ := C.fn
  refine bl_cons (fun _ => False) (PS.imp (ps_raise hc tk (pmk_oex0 C.cls iC tI F1 (hr.mono hj) hb (passes_call takes0 fun _ _ _ _ z => z.elim) hg C.at_ hdb)) fun D σ H ⟨S, w, nx, _⟩ => ?_) fun _ q => q.elim
  refine fun c hc => ⟨c, rfl, upd_same, rfl, upd_same, fun b hb => upd_ne hb, S, x, [], Γ, hU, w, rfl, .inl ⟨rfl, rfl⟩⟩
end
end Kf
end
section
set_option maxRecDepth 100000
set_option maxHeartbeats 4000000
/-! KfK: isinstance on data, is None. -/
namespace Kf
open PySem L2

/-- the name of a datum's type -/
def tyD : D → String
  | .non => "NoneType"
  | .bl _ => "bool"
  | .int _ => "int"
  | .str _ => "str"
  | .lst _ => "list"
  | .tup _ => "tuple"
  | .dK _ => "dict"
  | .dT _ => "dict"
  | _ => "object"
def plainD : D → Bool
  | .ids _ _ => false
  | .lstK _ => false
  | .dKl _ => false
  | .obj _ _ => false
  | .glo _ => false
  | .ty _ => false
  | _ => true
theorem rp_tyx {K : Fg} {S H : Hp} {v : V} {d : D} (s : Same S H) (r : Rp K S v d) (p : plainD d = true) : TyX K H v (.type (tyD d)) ∨ ((∃ l, d = .dK l) ∨ ∃ l, d = .dT l) := by
  cases r with
  | non => exact .inl (.base .non)
  | bl b => exact .inl (.base (.bl b))
  | int b => exact .inl (.base (.int b))
  | str b => exact .inl (.base (.str b))
  | lst h t =>
    rcases h with h | ⟨o, h⟩
    · exact .inl (.base (.lst (s _ _ h)))
    · exact .inl (.base (.frz (s _ _ h)))
  | tup h t =>
    rcases same_sqT s h with h | h
    · rcases h with h | ⟨o, h⟩
      · exact .inl (.base (.tup h))
      · exact .inl (.fTuple h)
    · obtain ⟨o, its, n, h0, h1, _⟩ := h
      exact .inl (.kTuple h0 h1)
  | dK h t => exact .inr (.inl ⟨_, rfl⟩)
  | dT h t => exact .inr (.inr ⟨_, rfl⟩)
  | obj h t => cases p
  | glo x => cases p
  | ty n => cases p
  | ids h => cases p
  | lstK h t => cases p
  | dKl h t => cases p
section
variable {X : Cx} {e : Ent} {Γ : Gam} {a b : Expr} {pos p : Pos} {d : D}
def noDict : D → Bool
  | .ids _ _ => false
  | .lstK _ => false
  | .dKl _ => false
  | .dK _ => false
  | .dT _ => false
  | .obj _ _ => false
  | .glo _ => false
  | .ty _ => false
  | _ => true
theorem scl_isi {T : String} {k : Bool} (hp : noDict d = true) (hk : kitB (tyD d) T = some k) : ScL X.K (rIsi X.K) [d, .ty T] (.bl k) := fun S H vs Q s r q => by
  cases r with
  | cons r1 r2 =>
    cases r2 with
    | cons r2 r3 =>
      cases r3
      cases r2
      have hpl : plainD d = true := by cases d <;> first | rfl | cases hp
      rcases rp_tyx s r1 hpl with h | h
      · exact ⟨_, _, _, _, k, rfl, .ty T, h, kit_ty hk, q _ (.bl _)⟩
      · exfalso
        rcases h with ⟨l, rfl⟩ | ⟨l, rfl⟩ <;> cases hp
/-- isinstance(x, T) -/
theorem pv_isi {T : String} {n : Str} {np : Pos} (k : Bool) (ha : PV X e a Γ d) (hp : noDict d = true) (hk : kitB (tyD d) T = some k) (hm : X.mg "isinstance" = none) (hmT : X.mg n = none) (hv : bootBuiltins n = some (.type T) := by decide +kernel) (hg : Gl X "isinstance" := by rfl) (hgT : Gl X n := by rfl) (hn : n ≠ "__name__" := by decide) (hd : (n == ("__debug__" : Str)) = false := by decide)
    (he : starEach [a, .Name n np] X.env = (false, eval a X.env) :: starEach [.Name n np] X.env := by rfl) (he2 : starEach [.Name n np] X.env = (false, eval (.Name n np) X.env) :: starEach [] X.env := by rfl) (hpl : (backTo pos (starEach [.Name n np] X.env)).any (·.1) = false := by rfl) :
    PV X e (.Call (.Name "isinstance" p) [a, .Name n np] [] pos) Γ (.bl k) :=
  pv_cb call_isi hm (by decide +kernel) (pvs_cons ha (pvs_cons (pv_ty hgT hmT hv hn hd) pvs_nil he2) he) (scl_isi hp hk) hg (by decide) (by decide) he hpl
/-- x is None -/
def isNon : D → Bool
  | .non => true
  | _ => false
theorem sc_isN (hd : ∀ v d', d ≠ .ids v d' := by intro _ _ h; cases h) : Sc X.K (fun x y H Q => y = .non ∧ Q (.bl (decide (x = .non))) H) d .non (.bl (isNon d)) := fun S H v1 v2 Q s r1 r2 q => by
  cases r2
  refine ⟨rfl, ?_⟩
  have : decide (v1 = V.non) = isNon d := by
    cases r1 <;> first | exact absurd rfl (hd _ _) | simp [isNon]
  rw [this]
  exact q _ (.bl _)
end
end Kf
end
section
set_option maxRecDepth 100000
set_option maxHeartbeats 4000000
/-! KfY: try, except C as e; isinstance(e, C); e.f. -/
namespace Kf
open PySem L2

/-- isinstance(e, c), e the error that the suite holds, with or without a dict -/
def rIsX (K : Fg) (D a : Addr) (d : Option Addr) : List V → Hp → VK → Prop := fun xs H Q => ∃ (c : V) (cv : Value) (b : Bool), xs = [.ref a, c] ∧ (∀ u, RelV c u → u = cv) ∧ (d = none ∨ ∃ dd fs, d = some dd ∧ H dd = some (.xd fs)) ∧ PySem.W.kitOne K (.ref D) cv = some b ∧ Q (.bl b) H
theorem call_isX {X : Cx} {a D : Addr} {d : Option Addr} {oe : Obj} {pn : List (Addr × Obj)} (C : ExcC X.K D) (hz : Zc (.ref D) d oe) (hf : ∃ vs, oe.data = .fields vs) : CallR (X.suite a ((a, oe) :: pn)) (.builtin "isinstance") (rIsX X.K D a d) := by
  intro pins s σ H xs us Q I r h
  obtain ⟨c, cv, b, rfl, hcv, hd, e, q⟩ := h
  cases r with
  | cons rx rr =>
    cases rr with
    | cons rt rr =>
      cases rr
      cases rx
      have ec := hcv _ rt
      subst ec
      obtain ⟨hget, _⟩ := I.pin (a, oe) (List.mem_append.mpr (.inl List.mem_cons_self))
      obtain ⟨vs, hv⟩ := hf
      obtain ⟨cd, hcd, _⟩ := PySem.W.any_some C.hd
      have J : ∃ od, PySem.W.InstAt s.heap a oe D od := by
        obtain ⟨oc, od, oda, osl⟩ := oe
        obtain ⟨h1, h2⟩ := hz
        dsimp only at h1 h2 hv
        subst h1 h2 hv
        rcases hd with hd | ⟨dd, fs, hd, hx⟩
        · subst hd
          exact ⟨none, hget, rfl, rfl, trivial⟩
        · subst hd
          obtain ⟨mA, ⟨o, es, ep, ho, _⟩, _⟩ := (show ObjOk X.prog X.w H s.heap dd (.xd fs) from I.hok dd _ hx)
          exact ⟨some o, hget, rfl, rfl, ho⟩
      obtain ⟨od, J⟩ := J
      exact PySem.W.kia_one (PySem.W.kitx_exc (od := od) (by rw [hcd]; rfl) C.hg C.hk C.hs C.ha C.hn C.ht C.hm) I.kIn J e (fun z => nomatch z) fun tk => ⟨.bl b, H, I.kept (t' := tk) fun _ _ z => z, rfl, q⟩
section
variable {X : Cx} {e : Ent} {Γ : Gam} {pos p p1 p2 : Pos} {a : Addr} {oe : Obj} {x : Str} {d : Option Addr} {fl : List (Str × D)} {pn : List (Addr × Obj)} {n : Str}
theorem xcs_at {K : Fg} {S H : Hp} (s : Same S H) (h : XcS K S d fl) : d = none ∨ ∃ dd fs, d = some dd ∧ H dd = some (.xd fs) := by
  rcases h with ⟨h, _⟩ | ⟨dd, fs, h1, h2, _⟩
  · exact .inl h
  · exact .inr ⟨dd, fs, h1, s _ _ h2⟩
/-- isinstance(e, c), c a class of the text | a built-in one -/
theorem pv_isX {c : Str} (i : Nat) (b : Bool) (C : ExcC X.K (He.ga X.K x)) (hz : Zc (.ref (He.ga X.K x)) d oe) (hf : ∃ vs, oe.data = .fields vs) (hΓ : Γ[i]? = some (some (.xc a d fl)) := by rfl) (hm : X.mg "isinstance" = none)
    (hc : (X.mg c = some (.ref (He.ga X.K c)) ∧ PySem.W.kitOne X.K (.ref (He.ga X.K x)) (.ref (He.ga X.K c)) = some b) ∨ ∃ T, X.mg c = none ∧ bootBuiltins c = some (.type T) ∧ c ≠ "__name__" ∧ PySem.W.kitOne X.K (.ref (He.ga X.K x)) (.type T) = some b)
    (hN : X.N[i]? = some n := by rfl) (hv : Vis X.env.scope n := by first | exact Or.inl rfl | exact Or.inr (Or.inl rfl) | exact Or.inr (Or.inr rfl)) (hgi : Gl X "isinstance" := by rfl) (hgc : Gl X c := by rfl) (hdc : (c == ("__debug__" : Str)) = false := by decide) (h1 : (n == ("__debug__" : Str)) = false := by decide) (h2 : (n == ("__classdict__" : Str)) = false := by decide)
    (he : starEach [.Name n p1, .Name c p2] X.env = (false, eval (.Name n p1) X.env) :: starEach [.Name c p2] X.env := by rfl) (he2 : starEach [.Name c p2] X.env = (false, eval (.Name c p2) X.env) :: starEach [] X.env := by rfl) (hpl : (backTo pos (starEach [.Name c p2] X.env)).any (·.1) = false := by rfl) :
    PV (X.suite a ((a, oe) :: pn)) e (.Call (.Name "isinstance" p) [.Name n p1, .Name c p2] [] pos) Γ (.bl b) := by
  have key : ∀ (u : V) (cv : Value), (∀ w, RelV u w → w = cv) → PySem.W.kitOne X.K (.ref (He.ga X.K x)) cv = some b → PE (X.suite a ((a, oe) :: pn)) (.Name c p2) (tC u) → PV (X.suite a ((a, oe) :: pn)) e (.Call (.Name "isinstance" p) [.Name n p1, .Name c p2] [] pos) Γ (.bl b) := fun u cv hu hk hpe =>
    PE.imp (pe_callB (X := X.suite a ((a, oe) :: pn)) (call_isX C hz hf) hgi hm (by decide +kernel) (pa_cons (pe_var (X := X.suite a ((a, oe) :: pn)) hN hv h1 h2) (pa_cons hpe pa_nil he2) he) (by decide) (by decide) he hpl) fun σ H Q ⟨S, w, q⟩ => by
      obtain ⟨v, hv, e1, e2⟩ := w.sl.at_ i _ hΓ
      subst e1
      exact ⟨_, hv, u, cv, b, rfl, hu, xcs_at w.nx.sh e2, hk, q S H _ (Pur.refl _ _) w (.bl b)⟩
  rcases hc with ⟨g1, g2⟩ | ⟨T, g1, g2, g3, g4⟩
  · exact key (.ref (He.ga X.K c)) (.ref (He.ga X.K c)) (fun w h => h) g2 (pe_glob (X := X.suite a ((a, oe) :: pn)) hgc g1 rfl hdc)
  · exact key (.ty T) (.type T) (fun w h => h) g4 (pe_bltn (X := X.suite a ((a, oe) :: pn)) hgc g1 g2 rfl g3 hdc)
/-- e.f -/
theorem pv_xf {f : Str} {dt : D} (i : Nat) (T : XfC X.K (He.ga X.K x)) (hno : PySem.W.findIn X.K (.ref (He.ga X.K x)) f = some none) (hz : Zc (.ref (He.ga X.K x)) d oe) (hf : ∃ vs, oe.data = .fields vs) (hl : fl.lookup f = some dt) (hΓ : Γ[i]? = some (some (.xc a d fl)) := by rfl)
    (hN : X.N[i]? = some n := by rfl) (hv : Vis X.env.scope n := by first | exact Or.inl rfl | exact Or.inr (Or.inl rfl) | exact Or.inr (Or.inr rfl)) (h1 : (n == ("__debug__" : Str)) = false := by decide) (h2 : (n == ("__classdict__" : Str)) = false := by decide)
    (hb : attributeBase (.Name n p1) f X.env (eval (.Name n p1) X.env) = eval (.Name n p1) X.env := by rfl) : PV (X.suite a ((a, oe) :: pn)) e (.Attribute (.Name n p1) f pos) Γ dt :=
  PE.imp (L2.pe_xf T hno hz hf (pe_var (X := X.suite a ((a, oe) :: pn)) hN hv h1 h2) hb) fun σ H Q ⟨S, w, q⟩ => by
    obtain ⟨v, hv, e1, e2⟩ := w.sl.at_ i _ hΓ
    subst e1
    rcases e2 with ⟨_, e2⟩ | ⟨dd, fs, g1, g2, g3⟩
    · rw [e2] at hl; cases hl
    · obtain ⟨u, hu, ru⟩ := g3.lookup hl
      exact ⟨_, hv, rfl, rfl, dd, fs, u, g1, w.nx.sh _ _ g2, hu, q S H u (Pur.refl _ _) w ru⟩
end
/-! ### try -/
theorem wd_xc {K : Fg} {e : Ent} {S H : Hp} {σ : L2.St} {Γ : Gam} {x : Str} {fl : List (Str × D)} {cls : Value} {d : Option Addr} (w : Wd K e S H σ Γ) (h : EOk K S e.H0 H x fl cls d) : ∃ S', Same S S' ∧ Wd K e S' H σ Γ ∧ XcS K S' d fl := by
  obtain ⟨_, h⟩ := h
  rcases h with h | ⟨dd, fs, h1, h2, h3, h4⟩
  · exact ⟨S, Same.refl _, w, .inl h⟩
  · cases z : S dd with
    | some u =>
      have := w.nx.sh _ _ z
      rw [h2] at this
      cases this
      exact ⟨S, Same.refl _, w, .inr ⟨dd, fs, h1, z, h4⟩⟩
    | none =>
      have s1 : Same S (upd S dd (.xd fs)) := fun b u q => by
        rw [upd_ne (ne_of_none q z)]
        exact q
      refine ⟨upd S dd (.xd fs), s1, ⟨⟨w.nx.ss.trans s1, fun b u q => ?_, w.nx.hh, w.nx.al, fun b q => ?_⟩, w.sl.len, fun i bb q => ?_, w.sl.dj, w.sl.z⟩, .inr ⟨dd, fs, h1, upd_same, h4.mono s1⟩⟩
      · by_cases hb : b = dd
        · subst hb
          rw [upd_same] at q
          rw [h2]
          exact q
        · rw [upd_ne hb] at q
          exact w.nx.sh _ _ q
      · have hb : b ≠ dd := fun y => q (by rw [y]; exact h3)
        rw [upd_ne hb]
        exact w.nx.old b q
      · obtain ⟨v, q1, q2⟩ := w.sl.at_ i bb q
        refine ⟨v, q1, ?_⟩
        cases bb with
        | st d => exact Rp.mono s1 q2
        | xc a d fl => exact q2.xcm s1
        | nw d l => exact q2.elim
        | nt o1 o2 => exact q2.elim
        | ow o' =>
          obtain ⟨c, ec, sc, oc, zc⟩ := q2
          have nc : c ≠ dd := fun y => by
            subst y
            cases o' with
            | lst l => obtain ⟨xs, y1, _⟩ := oc; rw [h2] at y1; cases y1
            | dK l => obtain ⟨xs, y1, _⟩ := oc; rw [h2] at y1; cases y1
            | dT l => obtain ⟨xs, y1, _⟩ := oc; rw [h2] at y1; cases y1
            | obj C l => obtain ⟨dx, fs, y1, _⟩ := oc; rw [h2] at y1; cases y1
          exact ⟨c, ec, by rw [upd_ne nc]; exact sc, oc.to s1 rfl, zc⟩
theorem Wd.setX {K : Fg} {e : Ent} {S H : Hp} {σ : L2.St} {Γ : Gam} {i : Nat} {a : Addr} {d : Option Addr} {fl : List (Str × D)} (w : Wd K e S H σ Γ) (h : XcS K S d fl) (hz : e.own = none ∨ i ≠ 0) : Wd K e S H (σ.set i (some (.ref a))) (Γ.set i (some (.xc a d fl))) := by
  refine ⟨w.nx, by rw [List.length_set, List.length_set]; exact w.sl.len, fun j b q => ?_, fun j k o o' c q1 q2 q3 q4 => ?_, fun c z => ?_⟩
  · rcases get_set q with ⟨rfl, h'⟩ | ⟨n, h'⟩
    · have h2 := Option.some.inj h'
      subst h2
      have hl : i < (Γ.set i (some (.xc a d fl))).length := (List.getElem?_eq_some_iff.mp q).1
      rw [List.length_set] at hl
      exact ⟨_, set_at (by rw [w.sl.len]; exact hl), rfl, h⟩
    · obtain ⟨u, h1, h2⟩ := w.sl.at_ j b h'
      exact ⟨u, by rw [List.getElem?_set_ne n]; exact h1, h2⟩
  · rcases get_set q1 with ⟨_, h'⟩ | ⟨n1, h1⟩
    · cases h'
    rcases get_set q2 with ⟨_, h'⟩ | ⟨n2, h2⟩
    · cases h'
    rw [List.getElem?_set_ne n1] at q3
    rw [List.getElem?_set_ne n2] at q4
    exact w.sl.dj j k o o' c h1 h2 q3 q4
  · have n : i ≠ 0 := by
      rcases hz with h' | h'
      · rw [h'] at z; cases z
      · exact h'
    obtain ⟨h1, o, h2⟩ := w.sl.z c z
    exact ⟨by rw [List.getElem?_set_ne n]; exact h1, o, by rw [List.getElem?_set_ne n]; exact h2⟩
/-- the same entry, S what stood at a later time -/
def Ent.at_ (e : Ent) (S : Hp) : Ent := ⟨S, e.H0, e.own⟩
theorem Wd.into {K : Fg} {e : Ent} {S H : Hp} {σ : L2.St} {Γ : Gam} (w : Wd K e S H σ Γ) : Wd K (e.at_ S) S H σ Γ :=
  ⟨⟨Same.refl _, w.nx.sh, w.nx.hh, w.nx.al, fun _ _ => rfl⟩, w.sl.len, fun i b q => let ⟨v, h1, h2⟩ := w.sl.at_ i b q; ⟨v, h1, by cases b <;> exact h2⟩, w.sl.dj, w.sl.z⟩
theorem Wd.outof {K : Fg} {e : Ent} {S S1 H H1 : Hp} {σ : L2.St} {Γ : Gam} (n : Nx e S H) (w : Wd K (e.at_ S) S1 H1 σ Γ) : Wd K e S1 H1 σ Γ :=
  ⟨⟨n.ss.trans w.nx.ss, w.nx.sh, w.nx.hh, w.nx.al, fun a z => (w.nx.old a z).trans (n.old a z)⟩, w.sl.len, fun i b q => let ⟨v, h1, h2⟩ := w.sl.at_ i b q; ⟨v, h1, by cases b <;> exact h2⟩, w.sl.dj, w.sl.z⟩
theorem ROk.outof {K : Fg} {e : Ent} {S S1 H1 : Hp} {v : V} {b : B} (h : ROk K (e.at_ S) S1 H1 v b) : ROk K e S1 H1 v b := by cases b <;> exact h
section
variable {X : Cx} {e : Ent} {Γ : Gam} {k : Kn} {rest body suite : List Stmt} {b0 : Stmt} {x n : Str} {np pos pos' : Pos}
/-- try: body  except x as n: suite, all of U caught, both ends leaving -/
theorem bl_try (i : Nat) (c : Value) (U : Wx) (hs : X.stack = X.env :: X.outer) (hf : X.env.frame = some X.env.locals) (hN : X.N.Nodup) (hc : Names X x c)
    (hb : ∀ (S : Hp) (pn : List (Addr × Obj)) (xe : Value → Shared → Prop), Takes (X.tr pn xe) (wX X.K (e.at_ S) U) → BL (X.tr pn xe) (e.at_ S) body Γ { nx := fun _ => False, rt := k.rt })
    (hU : ∀ y fl Γ1, U y fl Γ1 → PySem.W.exmOne X.K (.ref (He.ga X.K y)) c = some true)
    (hS : ∀ (S : Hp) (a : Addr) (oe : Obj) (d : Option Addr) (pn : List (Addr × Obj)) (y : Str) (fl : List (Str × D)) (Γ1 : Gam), U y fl Γ1 → Zc (.ref (He.ga X.K y)) d oe → (∃ vs, oe.data = .fields vs) → BL (X.suite a ((a, oe) :: pn)) (e.at_ S) (b0 :: suite) (Γ1.set i (some (.xc a d fl))) { nx := fun _ => False, rt := k.rt })
    (hi : X.N[i]? = some n := by rfl) (hln : X.env.kindOf n = some .local := by rfl) (hz : e.own = none ∨ i ≠ 0 := by first | exact .inl rfl | exact .inr (by decide)) : BL X e (.Try body [.ExceptHandler (some (.Name x np)) (some n) (b0 :: suite) pos'] [] [] pos :: rest) Γ k := by
  have hp := ps_try_as (X := X) (x := x) (n := n) (np := np) (pos := pos) (pos' := pos') (b₀ := b0) (suite := suite) (body := body) (Wout := fun _ _ _ _ => False)
    (tb := fun W D σ H => ∃ S, (∀ cls d σ' H', wX X.K (e.at_ S) U cls d σ' H' → W cls d σ' H') ∧ tS X.K (e.at_ S) Γ { nx := fun _ => False, rt := k.rt } D σ H)
    (ts := fun a cls d D σ H => ∃ S y fl Γ1, U y fl Γ1 ∧ cls = .ref (He.ga X.K y) ∧ tS X.K (e.at_ S) (Γ1.set i (some (.xc a d fl))) { nx := fun _ => False, rt := k.rt } D σ H) (c := c) (i := i) hs hf hN hi hln hc takes0
    (fun W pn xe tk hp => ⟨fun pins s σ H D I ⟨S, h1, h2⟩ => (hb S pn xe (tk.imp fun cls d σ' H' z => h1 cls d σ' H' z)).run pins s σ H D I h2⟩)
    (fun a oe cls d pn hzc hfl => ⟨fun pins s σ H D I ⟨S, y, fl, Γ1, h1, h2, h3⟩ => by
      subst h2
      exact (hS S a oe d pn y fl Γ1 h1 hzc hfl).run pins s σ H D I h3⟩)
  refine bl_cons (fun _ => False) (PS.imp hp fun D σ H ⟨S, w, nx, bk, ct, rt⟩ => ?_) fun _ z => z.elim
  refine ⟨S, fun cls d σ' H' ⟨S1, y, fl, Γ1, hu, w1, ek⟩ => ?_, S, w.into, fun _ _ _ _ z => z.elim, fun _ _ _ _ z => z.elim, fun _ _ _ _ z => z.elim, fun S' σ' H' v b Γ' q s' w' ok => rt S' σ' H' v b Γ' q s' (w'.outof w.nx) ok.outof⟩
  obtain ⟨S2, s2, w2, xcs⟩ := wd_xc w1 ek
  refine ⟨true, by rw [ek.1]; exact hU y fl Γ1 hu, fun _ a ha => ⟨S, y, fl, Γ1, hu, ek.1, S2, w2.setX xcs hz, fun _ _ _ _ z => z.elim, fun _ _ _ _ z => z.elim, fun _ _ _ _ z => z.elim, fun S' σ' H' v b Γ' q s' w' ok => ?_⟩, fun z => by cases z⟩
  exact rt S' σ' H' v b Γ' q w'.nx.ss (w'.outof w.nx) ok.outof
end
end Kf
end
section
namespace Kf
open PySem L2
def top (i : Nat) : Stmt := PySem.Challenge.pw_kindsfill_k72_whole_narrowed.main.body.getD i (.Pass ⟨0, 0, 0, 0⟩)
abbrev s_draw : Stmt := top 42
abbrev s_pool : Stmt := top 41
abbrev s_word : Stmt := top 43
abbrev s_fresh : Stmt := top 44
abbrev s_names : Stmt := top 45
end Kf
end
section
set_option maxRecDepth 100000
set_option maxHeartbeats 4000000
namespace Kf
open PySem L2
/-- the built-in names are still the built-ins -/
structure Bi (mg : Str → Option Value) : Prop where
  len : mg "len" = none
  abs : mg "abs" = none
  int : mg "int" = none
  str : mg "str" = none
  list : mg "list" = none
  tuple : mg "tuple" = none
  range : mg "range" = none
  enumerate : mg "enumerate" = none
  zip : mg "zip" = none
  isinstance : mg "isinstance" = none
  all : mg "all" = none
  any : mg "any" = none
abbrev FunS (K : Fg) (x : Str) (st : Stmt) (f : Addr) (fd : FuncData) : Prop := FunD K x x (defArgs st) (defBody st) (defScope st) [] [] f fd
section
variable {P : Program} {w : World} {K : Fg} {mg : Str → Option Value} {base : Heap}
/-! ### the pool -/
def Pool (o : O) : Prop := ∃ (ns : List Int) (a v l m : Int), o = .lst [.lst (ns.map .int), .int a, .int v, .int l, .int m] ∧ 0 ≤ a
def cDraw : Fo where
  pre o ds := Pool o ∧ ∃ b : Int, ds = [.int b] ∧ b < 1000000000
  post o ds b o' := Pool o' ∧ ∃ (n : Int) (r : Int), ds = [.int n] ∧ b = .st (.int r) ∧ 0 ≤ r ∧ (r < n ∨ r = 0)
theorem scDraw : FnScope ["pool", "bound", "found", "near", "mixed"] ["pool", "bound"] (defScope s_draw) := ⟨rfl, rfl, rfl, by decide +kernel, rfl, by decide +kernel, by decide +kernel⟩
theorem fmod_in {a b : Int} (hb : 2 ≤ b) : 0 ≤ a.fmod b ∧ a.fmod b < b := by
  constructor
  · exact Int.fmod_nonneg_of_pos _ (by omega)
  · exact Int.fmod_lt_of_pos _ (by omega)
theorem ok_draw {f : Addr} {fd : FuncData} (F : FunS K "_law_draw" s_draw f fd) (b : Bi mg) : FnOk P w K mg base (L2.CX P w) 1 f fd ["pool", "bound"] (spO K cDraw) := by
  refine fo_ok F scDraw (fun o ds ⟨_, b, h, _⟩ => by rw [h]; rfl) fun cdv A outer s e E o ds ⟨⟨ns, a, v, l, m, ho, ha⟩, n, hds, hn⟩ hr tk => ?_
  subst ho hds
  have nd := scDraw.nd
  -- if bound < 2: return 0
  -- if bound < 2: return 0
  refine bl_ifR (px_cmp op_lt (pv_var 1) pv_int sc_lt) (fun _ => bl_retP pv_int ⟨_, rfl, ⟨ns, a, v, l, m, rfl, ha⟩, n, 0, rfl, rfl, by omega, .inr rfl⟩) fun hb2 => ?_
  have h2 : 2 ≤ n := by
    have := of_decide_eq_false hb2
    omega
  -- if pool[3] < 1: ..
  refine bl_ifP (fun Γ => ∃ a v l m, 0 ≤ a ∧ Γ = [some (.ow (.lst [.lst (ns.map .int), .int a, .int v, .int l, .int m])), some (.st (.int n)), none, none, none])
    (px_cmp op_lt (pv_snap fun _ => pv_s ix_list (pv_var 0) pv_int (sc_ixL rfl)) pv_int sc_lt) (fun _ => ?_) (fun _ => bl_nil ⟨a, v, l, m, ha, rfl⟩) ?_
  · refine bl_ifR (px_cmp op_ge (pv_snap fun _ => pv_s ix_list (pv_var 0) pv_int (sc_ixL rfl)) (pv_snap fun _ => pv_lenL (pv_s ix_list (pv_var 0) pv_int (sc_ixL rfl)) b.len) sc_ge) (fun _ => bl_retP pv_int ⟨_, rfl, ⟨ns, a, v, l, m, rfl, ha⟩, n, 0, rfl, rfl, by omega, .inr rfl⟩) fun hlt => ?_
    have hlt' : a < (ns.length : Int) := by
      have := of_decide_eq_false hlt
      rw [List.length_map] at this
      omega
    have ha2 : a.toNat < ns.length := by omega
    -- pool[2] = abs(int(pool[0][pool[1]]))
    refine bl_subP 0 (pv_absI (pv_intI (pv_snap fun _ => pv_s ix_list (pv_s ix_list (pv_var 0) pv_int (sc_ixL rfl)) (pv_s ix_list (pv_var 0) pv_int (sc_ixL rfl)) (sc_ixL (d := .int ns[a.toNat]) ?_)) b.int) b.abs) rfl pv_int rfl ?_
    · unfold atI ixN
      rw [if_pos ha, if_pos (by rw [List.length_map]; exact hlt')]
      show (ns.map D.int)[a.toNat]? = some (D.int ns[a.toNat])
      rw [List.getElem?_map, List.getElem?_eq_getElem ha2]
      rfl
    generalize (if ns[a.toNat] < 0 then -ns[a.toNat] else ns[a.toNat]) = v'
    -- pool[1] = pool[1] + 1; pool[3] = 6; pool[4] = 0
    refine bl_subP 0 (pv_b op_add (pv_snap fun _ => pv_s ix_list (pv_var 0) pv_int (sc_ixL rfl)) pv_int sc_add) rfl pv_int rfl ?_
    refine bl_subP 0 pv_int rfl pv_int rfl (bl_subP 0 pv_int rfl pv_int rfl ?_)
    refine bl_ifP (fun Γ => ∃ a v l m, 0 ≤ a ∧ Γ = [some (.ow (.lst [.lst (ns.map .int), .int a, .int v, .int l, .int m])), some (.st (.int n)), none, none, none])
      (px_cmp op_ge (pv_snap fun _ => pv_s ix_list (pv_var 0) pv_int (sc_ixL rfl)) (pv_b op_pow pv_int pv_int (sc_pow ⟨by decide, by decide, by decide⟩)) sc_ge) (fun _ => ?_) (fun _ => bl_nil ⟨a + 1, v', 6, 0, by omega, rfl⟩) fun Γ h => bl_nil h
    exact bl_subP 0 pv_int rfl pv_int rfl (bl_subP 0 pv_int rfl pv_int rfl (bl_nil ⟨a + 1, v', 60, 1, by omega, rfl⟩))
  · rintro Γ ⟨a, v, l, m, ha, rfl⟩
    -- pool[3] = pool[3] - 1
    refine bl_subP 0 (pv_b op_sub (pv_snap fun _ => pv_s ix_list (pv_var 0) pv_int (sc_ixL rfl)) pv_int sc_sub) rfl pv_int rfl ?_
    have nz : n ≠ 0 := by omega
    refine bl_ifR (px_cmp op_eq (pv_snap fun _ => pv_s ix_list (pv_var 0) pv_int (sc_ixL rfl)) pv_int sc_eqI) (fun _ => ?_) fun _ => ?_
    · -- found = int(pool[2]) % bound; pool[2] = pool[2] // bound
      refine bl_let 2 (pv_b op_modN (pv_intI (pv_snap fun _ => pv_s ix_list (pv_var 0) pv_int (sc_ixL rfl)) b.int) (pv_var 1) (sc_modN nz)) ?_
      refine bl_subP 0 (pv_b op_fdivN (pv_snap fun _ => pv_s ix_list (pv_var 0) pv_int (sc_ixL rfl)) (pv_var 1) (sc_divN nz (by omega))) rfl pv_int rfl ?_
      refine bl_ifP (fun Γ => ∃ a v l m, 0 ≤ a ∧ Γ = [some (.ow (.lst [.lst (ns.map .int), .int a, .int v, .int l, .int m])), some (.st (.int n)), some (.st (.int (Int.fmod _ _))), none, none])
        (px_cmp op_lt (pv_snap fun _ => pv_s ix_list (pv_var 0) pv_int (sc_ixL rfl)) pv_int sc_lt) (fun _ => bl_subP 0 pv_int rfl pv_int rfl (bl_nil ⟨_, _, _, _, ha, rfl⟩)) (fun _ => bl_nil ⟨_, _, _, _, ha, rfl⟩) ?_
      rintro Γ ⟨a, v, l, m, ha, rfl⟩
      exact bl_retP (pv_var 2) ⟨_, rfl, ⟨ns, a, v, l, m, rfl, ha⟩, n, _, rfl, rfl, (fmod_in h2).1, .inl (fmod_in h2).2⟩
    · have small : ∀ x : Int, -(2 ^ 64) < x.fmod 1000003 ∧ x.fmod 1000003 < 2 ^ 64 := fun x => by
        have := fmod_in (a := x) (b := 1000003) (by decide)
        omega
      have small2 : ∀ x : Int, -(2 ^ 64) < x.fmod 2147483647 ∧ x.fmod 2147483647 < 2 ^ 64 := fun x => by
        have := fmod_in (a := x) (b := 2147483647) (by decide)
        omega
      refine bl_let 3 (pv_b op_modN (pv_intI (pv_snap fun _ => pv_s ix_list (pv_var 0) pv_int (sc_ixL rfl)) b.int) pv_int (sc_modN (by decide))) ?_
      refine bl_let 4 (pv_b op_modN (pv_intI (pv_b op_add (pv_b op_add (pv_b op_mul (pv_var 3) pv_int (sc_mulL (small _))) (pv_b op_mul (pv_snap fun _ => pv_s ix_list (pv_var 0) pv_int (sc_ixL rfl)) pv_int (sc_mulR (by decide))) sc_add)
        (pv_b op_mul (pv_snap fun _ => pv_s ix_list (pv_var 0) pv_int (sc_ixL rfl)) pv_int (sc_mulR (by decide))) sc_add) b.int) pv_int (sc_modN (by decide))) ?_
      refine bl_let 4 (pv_b op_modN (pv_intI (pv_b op_add (pv_b op_add (pv_b op_mul (pv_var 4) pv_int (sc_mulL (small2 _))) (pv_b op_mul (pv_var 3) pv_int (sc_mulL (small _))) sc_add) pv_int sc_add) b.int) pv_int (sc_modN (by decide))) ?_
      exact bl_retP (pv_b op_modN (pv_intI (pv_b op_fdivN (pv_var 4) pv_int (sc_divN (by decide) (by decide))) b.int) (pv_var 1) (sc_modN nz)) ⟨_, rfl, ⟨ns, a, v, _, m, rfl, ha⟩, n, _, rfl, rfl, (fmod_in h2).1, .inl (fmod_in h2).2⟩
end
end Kf
end
section
set_option maxRecDepth 100000
set_option maxHeartbeats 4000000
/-! KfL1: the law's pool, words, names. -/
namespace Kf
open PySem L2

/-! ### names: mathematics -/
def lowC (c : Nat) : Prop := 97 ≤ c ∧ c ≤ 122
def latC (c : Nat) : Prop := (97 ≤ c ∧ c ≤ 122) ∨ (48 ≤ c ∧ c ≤ 57) ∨ c = 46
def KName (z : Str) : Prop := 1 ≤ z.length ∧ z.length ≤ 24 ∧ (∃ c t, z.cps.toList = c :: t ∧ lowC c) ∧ ∀ c ∈ z.cps.toList, latC c
abbrev cdl (z : Str) : List Nat := z.cps.toList
theorem cdl_app (a b : Str) : cdl (a ++ b) = cdl a ++ cdl b := by
  show (a.cps ++ b.cps).toList = a.cps.toList ++ b.cps.toList
  simp
theorem cdl_len (a : Str) : (cdl a).length = a.length := by
  show a.cps.toList.length = a.cps.size
  simp
theorem cdl_inj {a b : Str} (h : cdl a = cdl b) : a = b := by
  cases a
  cases b
  congr
  exact Array.toList_inj.mp h
theorem nodup_le {α : Type} : ∀ {l m : List α}, l.Nodup → (∀ x ∈ l, x ∈ m) → l.length ≤ m.length
  | [], m, _, _ => Nat.zero_le _
  | a :: l, m, hn, hs => by
    obtain ⟨p, q, hm⟩ := List.append_of_mem (hs a (List.mem_cons_self ..))
    rw [List.nodup_cons] at hn
    have h := nodup_le (l := l) (m := p ++ q) hn.2 fun x hx => by
      have h1 := hs x (List.mem_cons_of_mem _ hx)
      rw [hm] at h1
      have hne : x ≠ a := fun z => hn.1 (z ▸ hx)
      rcases List.mem_append.mp h1 with h2 | h2
      · exact List.mem_append_left _ h2
      · rcases List.mem_cons.mp h2 with h3 | h3
        · exact absurd h3 hne
        · exact List.mem_append_right _ h3
    rw [hm, List.length_append, List.length_cons]
    rw [List.length_append] at h
    rw [List.length_cons]
    omega

theorem takes_none {X : Cx} {e : Ent} : Takes X (wX X.K e fun _ _ _ => False) := takes0.imp fun _ _ _ _ ⟨_, _, _, _, z, _⟩ => z.elim
section calls
variable {X : Cx} {e : Ent} {Γ : Gam} {k j : Nat} {x : Str} {p pos : Pos} {a : Expr}
/-- f(e, own): e any expression, own looked at; a flat value comes out -/
theorem ev_callB {c : Fp} {n : Str} {np : Pos} {Φa : D → Gam → Prop} {Φ : D → Gam → Prop} (i : Nat) (N : XDn X x k (spP X.K c)) (hr : Room j X.A) (hj : k ≤ j) (ha : EV X e a Γ Φa)
    (h : ∀ d Γ1, Φa d Γ1 → ∃ o, Γ1[i]? = some (some (.ow o)) ∧ c.pre [d, o.d] ∧ (∀ b, c.post [d, o.d] b → ∃ d', b = .st d' ∧ flat d' = true ∧ Φ d' Γ1) ∧ ∀ y fl, ¬ c.exn [d, o.d] y fl)
    (hN : X.N[i]? = some n := by rfl) (hv : Vis X.env.scope n := by first | exact Or.inl rfl | exact Or.inr (Or.inl rfl) | exact Or.inr (Or.inr rfl)) (hg : Gl X x := by rfl) (hdb : (x == ("__debug__" : Str)) = false := by decide)
    (he : starEach [a, .Name n np] X.env = (false, eval a X.env) :: starEach [.Name n np] X.env := by rfl) (he2 : starEach [.Name n np] X.env = (false, eval (.Name n np) X.env) :: starEach [] X.env := by rfl) (hpl : (backTo pos (starEach [.Name n np] X.env)).any (·.1) = false := by rfl)
    (h1 : (n == ("__debug__" : Str)) = false := by decide) (h2 : (n == ("__classdict__" : Str)) = false := by decide) : EV X e (.Call (.Name x p) [a, .Name n np] [] pos) Γ Φ :=
  PE.imp (pe_callW N.fn (hr.mono hj) takes0 hg N.at_ N.kp (pa_cons ha (pa_cons (pe_var hN hv h1 h2) pa_nil he2) he) hdb he hpl) fun σ H Q ⟨S, w, q⟩ => ⟨S, w, fun S1 H1 v d Γ1 hd s1 w1 r1 => by
    obtain ⟨o, g0, g1, g2, g3⟩ := h d Γ1 hd
    obtain ⟨u, h3, pp, h4, sp, ow, hp⟩ := w1.sl.at_ i _ g0
    subst h4
    refine ⟨_, h3, H1, [d, o.d], Same.refl _, .cons (r1.mono w1.nx.sh) (.cons (own_rp w1.nx.sh ow) .nil), g1, fun S2 H2 v2 b hb n2 r2 => ?_, fun S2 H2 y fl cls dd hy => (g3 y fl hy).elim⟩
    obtain ⟨d', rfl, hf, hΦ⟩ := g2 b hb
    have g : Same H1 H2 := fun z u y => n2.hh z u y fun t => nomatch t
    exact q S1 H2 v2 d' Γ1 hΦ (s1.trans (Pur.stp ⟨Same.refl _, g, fun _ _ => rfl⟩)) (w1.same g) (Rp.flat (S := S2) r2 hf)⟩
end calls

section
variable {P : Program} {w : World} {K : Fg} {mg : Str → Option Value} {base : Heap}
abbrev Dx (P : Program) (w : World) (K : Fg) (mg : Str → Option Value) (base : Heap) (x : Str) (k : Nat) (c : Fp) : Prop := Dn P w K mg base x k (spP K c)
abbrev Dy (P : Program) (w : World) (K : Fg) (mg : Str → Option Value) (base : Heap) (x : Str) (k : Nat) (c : Fo) : Prop := Dn P w K mg base x k (spO K c)
/-- draw -/
theorem ev_draw {X : Cx} {e : Ent} {Γ : Gam} {n : Str} {np p pos : Pos} {a : Expr} {j : Nat} {m : Int} (i : Nat) {o0 : O} (N : XDn X "_law_draw" 1 (spO X.K cDraw)) (hr : Room j X.A) (hj : 1 ≤ j) (h0 : Γ[i]? = some (some (.ow o0))) (hp : Pool o0) (ha : PV X e a Γ (.int m)) (hm : m < 1000000000)
    (hN : X.N[i]? = some n := by rfl) (hv : Vis X.env.scope n := by first | exact Or.inl rfl | exact Or.inr (Or.inl rfl) | exact Or.inr (Or.inr rfl)) (hg : Gl X "_law_draw" := by rfl)
    (he : starEach [.Name n np, a] X.env = (false, eval (.Name n np) X.env) :: starEach [a] X.env := by rfl) (he2 : starEach [a] X.env = (false, eval a X.env) :: starEach [] X.env := by rfl) (hpl : (backTo pos (starEach [a] X.env)).any (·.1) = false := by rfl) (h1 : (n == ("__debug__" : Str)) = false := by decide) (h2 : (n == ("__classdict__" : Str)) = false := by decide) :
    EV X e (.Call (.Name "_law_draw" p) [.Name n np, a] [] pos) Γ (fun d Γ' => ∃ r o', d = .int r ∧ 0 ≤ r ∧ (r < m ∨ r = 0) ∧ Pool o' ∧ Γ' = Γ.set i (some (.ow o'))) :=
  ev_callO (U := fun _ _ _ => False) i N hr hj takes_none h0 (pvs_av (pvs_one ha he2)) (fun ds Γ1 ⟨q1, q2⟩ => by
    subst q1 q2
    exact ⟨o0, h0, ⟨hp, m, rfl, hm⟩, fun b o' ⟨g1, n', r, g2, g3, g4, g5⟩ => by
      cases g2
      exact ⟨.int r, .inl g3, r, o', rfl, g4, g5, g1, rfl⟩, fun _ _ _ z => z.elim⟩) hN hv hg (by decide) he hpl h1 h2
/-! ### _law_pool -/
def cPool : Fp where
  pre ds := ∃ ns : List Int, ds = [.lstK (ns.map .int)]
  post ds b := ∃ o, b = .ow o ∧ Pool o
theorem scPool : FnScope ["script"] ["script"] (defScope s_pool) := ⟨rfl, rfl, rfl, by decide +kernel, rfl, by decide +kernel, by decide +kernel⟩
theorem ok_pool {f : Addr} {fd : FuncData} (F : FunS K "_law_pool" s_pool f fd) (b : Bi mg) : FnOk P w K mg base (L2.CX P w) 1 f fd ["script"] (spP K cPool) := by
  refine fp_ok F scPool (fun ds ⟨ns, h⟩ => by rw [h]; rfl) fun cdv A outer s e E ds ho ⟨ns, hd⟩ hr tk => ?_
  subst hd
  exact bl_retO (pn_eo (pn_lst (pvs_cons (pn_pv (pn_listK (pv_var 0) b.list)) (pvs_cons pv_int (pvs_cons pv_int (pvs_cons pv_int (pvs_cons pv_int pvs_nil))))) (by show 5 ≤ _; decide))) fun o Γ' h => by
    rw [h.1]
    exact ⟨_, rfl, ns, 0, 0, 0, 0, rfl, by omega⟩
/-! ### _law_word -/
def cWord : Fo where
  pre o ds := Pool o ∧ ∃ n : Nat, ds = [.int (n : Int)] ∧ 1 ≤ n ∧ n ≤ 24
  post o ds b o' := Pool o' ∧ ∃ z : Str, b = .st (.str z) ∧ KName z ∧ ds = [.int (z.length : Int)]
theorem scWord : FnScope ["pool", "size", "first", "later", "word", "k"] ["pool", "size"] (defScope s_word) := ⟨rfl, rfl, rfl, by decide +kernel, rfl, by decide +kernel, by decide +kernel⟩
abbrev sLow : Str := "abcdefghijklmnopqrstuvwxyz"
abbrev sLat : Str := "abcdefghijklmnopqrstuvwxyz.0123456789"
theorem low_at {r : Int} (h0 : 0 ≤ r) (h : r < 26 ∨ r = 0) : ∃ c, atI sLow.cps.toList r = some c ∧ lowC c := by
  obtain ⟨n, rfl⟩ := Int.eq_ofNat_of_zero_le h0
  have h1 : n < 26 := by omega
  have key : ∀ n : Fin 26, ∃ c, atI sLow.cps.toList (n.val : Int) = some c ∧ lowC c := by
    intro n
    have : ∀ n : Fin 26, atI sLow.cps.toList (n.val : Int) = some (97 + n.val) := by decide +kernel
    exact ⟨_, this n, by unfold lowC; omega⟩
  exact key ⟨n, h1⟩
theorem lat_at {r : Int} (h0 : 0 ≤ r) (h : r < 37 ∨ r = 0) : ∃ c, atI sLat.cps.toList r = some c ∧ latC c := by
  obtain ⟨n, rfl⟩ := Int.eq_ofNat_of_zero_le h0
  have h1 : n < 37 := by omega
  have key : ∀ n : Fin 37, ∃ c, atI sLat.cps.toList (n.val : Int) = some c ∧ latC c := by
    intro n
    have : ∀ n : Fin 37, ∃ c : Fin 123, atI sLat.cps.toList (n.val : Int) = some c.val ∧ ((97 ≤ c.val ∧ c.val ≤ 122) ∨ (48 ≤ c.val ∧ c.val ≤ 57) ∨ c.val = 46) := by decide +kernel
    obtain ⟨c, h1, h2⟩ := this n
    exact ⟨c.val, h1, h2⟩
  exact key ⟨n, h1⟩
theorem low_lat {c : Nat} (h : lowC c) : latC c := .inl h
theorem kname_one {c : Nat} (h : lowC c) : KName ⟨#[c]⟩ := ⟨by show 1 ≤ 1; omega, by show 1 ≤ 24; omega, ⟨c, [], rfl, h⟩, fun x hx => by
  have : x = c := by simpa using hx
  rw [this]
  exact .inl h⟩
theorem kname_app {z y : Str} (h : KName z) (hl : z.length + y.length ≤ 24) (hy : ∀ c ∈ cdl y, latC c) : KName (z ++ y) := by
  obtain ⟨h1, h2, ⟨c, t, h3, h4⟩, h5⟩ := h
  have e : cdl (z ++ y) = cdl z ++ cdl y := cdl_app z y
  have l : (z ++ y).length = z.length + y.length := by rw [← cdl_len, e, List.length_append, cdl_len, cdl_len]
  refine ⟨by omega, by omega, ⟨c, t ++ cdl y, by show cdl (z ++ y) = _; rw [e]; show z.cps.toList ++ _ = _; rw [h3]; rfl, h4⟩, fun x hx => ?_⟩
  have hx' : x ∈ cdl (z ++ y) := hx
  rw [e] at hx'
  rcases List.mem_append.mp hx' with q | q
  · exact h5 x q
  · exact hy x q
theorem slen_app (a b : Str) : (a ++ b).length = a.length + b.length := by rw [← cdl_len, cdl_app, List.length_append, cdl_len, cdl_len]
theorem ok_word {f : Addr} {fd : FuncData} (F : FunS K "_law_word" s_word f fd) (b : Bi mg) (N : Dy P w K mg base "_law_draw" 1 cDraw) : FnOk P w K mg base (L2.CX P w) 2 f fd ["pool", "size"] (spO K cWord) := by
  refine fo_ok F scWord (fun o ds ⟨_, n, h, _⟩ => by rw [h]; rfl) fun cdv A outer s e E o ds ⟨hp, n, hd, n1, n2⟩ hr tk => ?_
  subst hd
  have nd := scWord.nd
  refine bl_let 2 pv_str (bl_let 3 pv_str (bl_set 4 (Φ := fun d Γ => ∃ c o', lowC c ∧ d = .str ⟨#[c]⟩ ∧ Pool o' ∧ Γ = [some (.ow o'), some (.st (.int (n : Int))), some (.st (.str sLow)), some (.st (.str sLat)), none, none]) (ev_s1 ix_str (pv_var 2) (ev_draw 0 N hr (by omega) rfl hp pv_int (by decide)) ?_) ?_))
  · rintro d2 Γ2 ⟨r, o', rfl, g1, g2, g3, rfl⟩
    obtain ⟨c, h1, h2⟩ := low_at g1 g2
    exact ⟨_, sc_ixS (by decide) h1, c, o', h2, rfl, g3, rfl⟩
  · rintro d Γ' ⟨c, o', hc, rfl, ho', rfl⟩
    refine bl_for (fun ds i Γ => ds.length = n - 1 ∧ ∃ o' z, Pool o' ∧ KName z ∧ z.length = i + 1 ∧ ∃ kk, Γ = [some (.ow o'), some (.st (.int (n : Int))), some (.st (.str sLow)), some (.st (.str sLat)), some (.st (.str z)), kk])
      (wv (wp_rng (n := n - 1) (pv_is (pv_b op_sub (pv_var 1) pv_int sc_sub) (by congr 1; omega)) (by omega) b.range)) (gv_name 5 nd) ?_ ?_ ?_ (passes_of rfl)
    · rintro ds Γ1 ⟨rfl, rfl⟩
      exact ⟨rng_len _ _, o', _, ho', kname_one hc, rfl, _, rfl⟩
    · rintro ds i d Γ1 hdi ⟨hl, o1, z, hp1, hz, hzl, kk, rfl⟩
      have hi : i < n - 1 := by
        have := (List.getElem?_eq_some_iff.mp hdi).1
        omega
      refine ⟨_, rfl, bl_set 4 (Φ := fun d Γ => ∃ c o', latC c ∧ d = .str (z ++ ⟨#[c]⟩) ∧ Pool o' ∧ ∃ kk, Γ = [some (.ow o'), some (.st (.int (n : Int))), some (.st (.str sLow)), some (.st (.str sLat)), some (.st (.str z)), kk]) (ev_b1 op_add_str (pv_var 4) (ev_s1 (Φ := fun d Γ => ∃ c o', latC c ∧ d = .str ⟨#[c]⟩ ∧ Pool o' ∧ ∃ kk, Γ = [some (.ow o'), some (.st (.int (n : Int))), some (.st (.str sLow)), some (.st (.str sLat)), some (.st (.str z)), kk]) ix_str (pv_var 3) (ev_draw 0 N hr (by omega) rfl hp1 pv_int (by decide)) ?_) ?_) ?_⟩
      · rintro d2 Γ2 ⟨r, o', rfl, g1, g2, g3, rfl⟩
        obtain ⟨c, h1, h2⟩ := lat_at g1 g2
        exact ⟨_, sc_ixS (by decide) h1, c, o', h2, rfl, g3, _, rfl⟩
      · rintro d2 Γ2 ⟨c, o', g1, rfl, g3, kk, rfl⟩
        exact ⟨_, sc_addS (Nat.le_trans (Nat.add_le_add hz.2.1 (Nat.le_refl 1)) (by decide)), c, o', g1, rfl, g3, kk, rfl⟩
      · rintro d Γ' ⟨c, o', g1, rfl, g3, kk, rfl⟩
        have l1 : (⟨#[c]⟩ : Str).length = 1 := rfl
        refine bl_nil ⟨hl, o', _, g3, kname_app hz (by rw [l1, hzl]; omega) (fun x hx => ?_), by rw [slen_app, l1, hzl], kk, rfl⟩
        have : x = c := by simpa [cdl] using hx
        rw [this]
        exact g1
    · rintro ds Γ1 ⟨hl, o1, z, hp1, hz, hzl, kk, rfl⟩
      exact bl_retP (pv_var 4) ⟨o1, rfl, hp1, z, rfl, hz, by rw [hzl, hl]; congr 3; omega⟩
end
end Kf
end
section
set_option maxRecDepth 100000
set_option maxHeartbeats 4000000
/-! KfO: methods, making, calling instances, own comparisons, with errors let out by Takes. -/
namespace Kf
open PySem L2

section raw
variable {X : Cx} {W : WX} {k : Nat} {f C g : Addr} {sp : Sp} {m x : Str} {o e a b fe : Expr} {es : List Expr} {ta tb tf : TE} {t : TA} {pos apos p : Pos} {pl : Sem Bool} {op : CmpOp}
def tMethW (C : Addr) (m : Str) (sp : Sp) (W : WX) (ta : TE) (t : TA) : TE := fun σ H Q => ta σ H fun x H1 => ∃ a dx fs, x = .ref a ∧ H1 a = some (.ins C dx fs) ∧ fs.lookup m = none ∧ t σ H1 fun vs H2 => sp (x :: vs) H2 Q fun c d H3 => W c d σ H3
/-- o.m(e, ..) -/
theorem pe_methW (he : PE X o ta) (c : Cls X.K C) (hm : Meth X.K C m f) (F : FnR X.prog X.w X.K X.mg X.base (L2.CX X.prog X.w) k f sp) (hr : Room k X.A) (tk : Takes X W) (ha : PA X (e :: es) t)
    (hst : starEach (e :: es) X.env = (false, eval e X.env) :: starEach es X.env := by rfl) (hpl : (backTo pos (starEach es X.env)).any (·.1) = false := by rfl)
    (ht : eval (.Call (.Attribute o m apos) (e :: es) [] pos) X.env = (do
      let ov ← eval o X.env
      standAt apos.atName
      let (f, first) ← holding [ov] (getMethod ov m pl)
      callWith pos f first (backTo pos (starEach (e :: es) X.env)) (backToKw pos (keywordEach [] X.env))) := by rfl) :
    PE X (.Call (.Attribute o m apos) (e :: es) [] pos) (tMethW C m sp W ta t) := by
  refine ⟨fun pins s σ H Q I h => ?_⟩
  refine PySem.W.methodCall_KW (pl := pl) (thn (he.run pins s σ H _ I h) fun u s1 ⟨x, H1, I1, rx, a, dx, fs, ex, ea, l, q⟩ => ?_) ht
  subst ex
  obtain rfl : u = Value.ref a := rx
  refine getmeth_ok I1 ea c hm l ?_
  refine PySem.W.callWith_K (first := [.ref a]) (h₀ := X.base) I.ok.mod.kin hm.kp (thn (ha.run pos pins s1 σ H1 _ I1 q) fun us s2 ⟨vs, H2, I2, r, q2⟩ => ⟨I2.kIn, ?_⟩) hst hpl
  exact run_fnW (us := .ref a :: us) (vs := .ref a :: vs) F hr tk I2 (.cons rfl r) q2
/-- o.m() -/
theorem pe_methW0 (he : PE X o ta) (c : Cls X.K C) (hm : Meth X.K C m f) (F : FnR X.prog X.w X.K X.mg X.base (L2.CX X.prog X.w) k f sp) (hr : Room k X.A) (tk : Takes X W)
    (ht : eval (.Call (.Attribute o m apos) [] [] pos) X.env = (do
      let ov ← eval o X.env
      standAt apos.atName
      let (f, first) ← holding [ov] (getMethod ov m pl)
      callWith pos f first (backTo pos (starEach [] X.env)) (backToKw pos (keywordEach [] X.env))) := by rfl) :
    PE X (.Call (.Attribute o m apos) [] [] pos) (tMethW C m sp W ta tNil) := by
  refine ⟨fun pins s σ H Q I h => ?_⟩
  refine PySem.W.methodCall_KW (pl := pl) (thn (he.run pins s σ H _ I h) fun u s1 ⟨x, H1, I1, rx, a, dx, fs, ex, ea, l, q⟩ => ?_) ht
  subst ex
  obtain rfl : u = Value.ref a := rx
  refine getmeth_ok I1 ea c hm l ?_
  exact PySem.W.callWith_K0 (first := [.ref a]) I1.kIn hm.kp (run_fnW (us := [.ref a]) (vs := [.ref a]) F hr tk I1 (.cons rfl .nil) q)
/-- C(e, ..) -/
def tMakeW (C : Addr) (sp : Sp) (W : WX) (t : TA) : TE := fun σ H Q => t σ H fun vs H1 => ∀ x dx, H1 x = none → H1 dx = none → dx ≠ x →
  sp (.ref x :: vs) (upd (upd H1 dx (.own x)) x (.ins C dx [])) (fun v H2 => v = .non ∧ Q (.ref x) H2) fun c d H3 => W c d σ H3
theorem run_makeW {pins : List (Addr × Obj)} {σ : L2.St} {H : Hp} {s : Shared} {Q : VK} {us : List Value} {vs : List V} (M : Mk X.K C f) (F : FnR X.prog X.w X.K X.mg X.base (L2.CX X.prog X.w) k f sp) (hr : Room (k + 1) X.A) (tk : Takes X W) (I : Inv X pins σ H s) (r : Vals vs us)
    (h : ∀ x dx, H x = none → H dx = none → dx ≠ x → sp (.ref x :: vs) (upd (upd H dx (.own x)) x (.ins C dx [])) (fun v H2 => v = .non ∧ Q (.ref x) H2) fun c d H3 => W c d σ H3) :
    wpAny (model X.prog X.w) X.A (call (.ref C) us) (EP X pins σ Q) X.xe s := by
  have hq := h (s.heap.objs.size + 1) s.heap.objs.size (I.hok.fresh (Nat.le_succ _)) (I.hok.fresh (Nat.le_refl _)) (Nat.ne_of_lt (Nat.lt_succ_self _))
  have I2 := Inv.made (C := C) I
  have r2 : Vals (V.ref (s.heap.objs.size + 1) :: vs) (Value.ref (s.heap.objs.size + 1) :: us) := .cons rfl r
  refine wpAny_call (make_map (f := f) I.kIn M.makes M.init (beq_iff_eq.mp M.fn) (codeAny_mono (F _ X.stack _ _ (Value.ref (s.heap.objs.size + 1) :: us) _ _ _ (hr.make C us []) (I2.env0.make C us []) r2 hq) fun r s' hq' => ?_))
  cases r with
  | error u => exact tk u s' (XE.of_call I2 (fun _ _ _ z => z) hq')
  | ok fl =>
    cases fl with
    | ret u =>
      obtain ⟨v, H', I3, rv, ev, q3⟩ := I2.after hq'
      subst ev
      exact ⟨rv, ⟨V.ref (s.heap.objs.size + 1), H', I3, rfl, q3⟩⟩
    | next => exact False.elim hq'
    | brk => exact False.elim hq'
    | cont => exact False.elim hq'
theorem pe_makeW (M : Mk X.K C f) (F : FnR X.prog X.w X.K X.mg X.base (L2.CX X.prog X.w) k f sp) (hr : Room (k + 1) X.A) (tk : Takes X W) (hg : Gl X x) (hm : X.mg x = some (.ref C)) (ha : PA X (e :: es) t) (hdb : (x == ("__debug__" : Str)) = false := by decide)
    (he : starEach (e :: es) X.env = (false, eval e X.env) :: starEach es X.env := by rfl) (hpl : (backTo pos (starEach es X.env)).any (·.1) = false := by rfl) : PE X (.Call (.Name x p) (e :: es) [] pos) (tMakeW C sp W t) := by
  refine ⟨fun pins s σ H Q I h => ?_⟩
  refine wpAny_Call_Name_kw (ld_glob I hg hm ?_ hdb)
  refine PySem.W.callWith_K (h₀ := X.base) I.ok.mod.kin M.kp (thn (ha.run pos pins s σ H _ I h) fun us s1 ⟨vs, H1, I1, r, q⟩ => ⟨I1.kIn, ?_⟩) he hpl
  exact run_makeW M F hr tk I1 r q
/-- f(e, ..), f an instance of C -/
def tCallOW (C : Addr) (sp : Sp) (W : WX) (tf : TE) (t : TA) : TE := fun σ H Q => tf σ H fun y H1 => ∃ a, y = V.ref a ∧ t σ H1 fun vs H2 => (∃ dx fs, H2 a = some (.ins C dx fs)) ∧ sp (V.ref a :: vs) H2 Q fun c d H3 => W c d σ H3
theorem pe_callOW (hf : PE X fe tf) (c : StX.CallO X.K C g) (F : FnR X.prog X.w X.K X.mg X.base (L2.CX X.prog X.w) k g sp) (hr : Room k X.A) (tk : Takes X W) (ha : PA X (e :: es) t)
    (ht : eval (.Call fe (e :: es) [] pos) X.env = (do callWith pos (← eval fe X.env) [] (backTo pos (starEach (e :: es) X.env)) (backToKw pos (keywordEach [] X.env))) := by rfl)
    (he : starEach (e :: es) X.env = (false, eval e X.env) :: starEach es X.env := by rfl) (hpl : (backTo pos (starEach es X.env)).any (·.1) = false := by rfl) : PE X (.Call fe (e :: es) [] pos) (tCallOW C sp W tf t) := by
  refine ⟨fun pins s σ H Q I h => ?_⟩
  refine PyProof.Rows.Call_ (thn (hf.run pins s σ H _ I h) fun u s1 ⟨y, H1, I1, ry, a, ey, q⟩ => ?_) ht
  subst ey
  obtain rfl : u = Value.ref a := ry
  refine StX.callO_with (thn (ha.run pos pins s1 σ H1 _ I1 q) fun us s2 ⟨vs, H2, I2, r, hi, q2⟩ => ?_) he hpl
  obtain ⟨dx, fs, hx⟩ := hi
  obtain ⟨ox, od, J, hd⟩ := StX.insC_at (X := X) I2 (.inr ⟨dx, fs, hx⟩)
  refine ⟨⟨C, ox, od, J, hd⟩, ?_⟩
  refine wpAny_call (PySem.W.kco_code I2.kIn J hd c.at_ c.fn c.fi ?_)
  refine codeAny_mono (F X.A X.stack s2 H2 (.ref a :: us) (V.ref a :: vs) Q _ hr I2.env0 (.cons rfl r) q2) fun r s' hq => ?_
  cases r with
  | error u => exact tk u s' (XE.of_call I2 (fun _ _ _ z => z) hq)
  | ok fl =>
    cases fl with
    | ret u => exact I2.after hq
    | next => exact False.elim hq
    | brk => exact False.elim hq
    | cont => exact False.elim hq
/-- a op b, a's class has its own -/
def tCmpW (K : Fg) (C : Addr) (sp : Sp) (W : WX) (ta tb : TE) : TE := fun σ H Q => ta σ H fun x H1 => tb σ H1 fun y H2 => ∃ a' dx fs b' dy gs C', x = .ref a' ∧ y = .ref b' ∧ H2 a' = some (.ins C dx fs) ∧ H2 b' = some (.ins C' dy gs) ∧ PySem.W.notFirst K C (.ref C') = true ∧ sp [x, y] H2 Q fun c d H3 => W c d σ H3
theorem cmpW_run {pins : List (Addr × Obj)} {s2 : Shared} {σ : L2.St} {H2 : Hp} {Q : VK} {a' dx b' dy C' : Addr} {fs gs : List (Str × V)} (hop : ∀ a b, compareOp op a b = richCompare op a b) (hs : PySem.W.findIn X.K (.ref C) (cmpInfo op).2.1 = some (some (.ref g))) (hf : PySem.W.isFn X.K (.ref g) = true) (F : FnR X.prog X.w X.K X.mg X.base (L2.CX X.prog X.w) k g sp)
    (hr : Room k X.A) (tk : Takes X W) (I2 : Inv X pins σ H2 s2) (ea : H2 a' = some (.ins C dx fs)) (eb : H2 b' = some (.ins C' dy gs)) (hn : PySem.W.notFirst X.K C (.ref C') = true) (q : sp [.ref a', .ref b'] H2 Q fun c d H3 => W c d σ H3) :
    wpAny (model X.prog X.w) X.A (compareOp op (.ref a') (.ref b')) (EP X pins σ Q) X.xe s2 := by
  obtain ⟨mA, O, _⟩ := ins_get I2.hok ea
  obtain ⟨od, J, _⟩ := O.look
  obtain ⟨mB, O', _⟩ := ins_get I2.hok eb
  obtain ⟨od', J', _⟩ := O'.look
  obtain ⟨m, hF⟩ := I2.fr
  rw [hop]
  refine PySem.W.cmp_K (op := op) (tb := .ref C') hr.units0 hF I2.ok.mod.kin J J'.type hn hs hf ?_
  refine wpAny_mono (run_fnW (us := [.ref a', .ref b']) (vs := [.ref a', .ref b']) F hr tk I2 (.cons rfl (.cons rfl .nil)) q) (fun w s' z => ?_) fun _ _ x => x
  obtain ⟨z', H', I', rz, qz⟩ := z
  exact SlX.cmpback rz ⟨z', H', I', rz, qz⟩
theorem pe_cmpW (hop : ∀ a b, compareOp op a b = richCompare op a b) (hs : PySem.W.findIn X.K (.ref C) (cmpInfo op).2.1 = some (some (.ref g))) (hf : PySem.W.isFn X.K (.ref g) = true) (F : FnR X.prog X.w X.K X.mg X.base (L2.CX X.prog X.w) k g sp)
    (hr : Room k X.A) (tk : Takes X W) (ha : PE X a ta) (hb : PE X b tb) (hm : behindInMarks op b = false) : PE X (.Compare a [op] [b] pos) (tCmpW X.K C sp W ta tb) := by
  refine ⟨fun pins s σ H Q I h => ?_⟩
  refine wpAny_Compare1 (thn (ha.run pins s σ H _ I h) fun v s1 ⟨x, H1, I1, r1, q1⟩ => thn (hb.run pins s1 σ H1 _ I1 q1) fun u s2 ⟨y, H2, I2, r2, q2⟩ => ?_) hm
  obtain ⟨a', dx, fs, b', dy, gs, C', ex, ey, ea, eb, hn, q⟩ := q2
  subst ex ey
  obtain rfl : v = Value.ref a' := r1
  obtain rfl : u = Value.ref b' := r2
  exact cmpW_run hop hs hf F hr tk I2 ea eb hn q
theorem pt_cmpW (hop : ∀ a b, compareOp op a b = richCompare op a b) (hs : PySem.W.findIn X.K (.ref C) (cmpInfo op).2.1 = some (some (.ref g))) (hf : PySem.W.isFn X.K (.ref g) = true) (F : FnR X.prog X.w X.K X.mg X.base (L2.CX X.prog X.w) k g sp)
    (hr : Room k X.A) (tk : Takes X W) (ha : PE X a ta) (hb : PE X b tb) (hm : behindInMarks op b = false) : PT X (.Compare a [op] [b] pos) (tTest (tCmpW X.K C sp W ta tb)) := by
  refine ⟨fun pins s σ H Q I h => ?_⟩
  refine wpAny_isTrue_Compare1 (thn (ha.run pins s σ H _ I h) fun v s1 ⟨x, H1, I1, r1, q1⟩ => thn (hb.run pins s1 σ H1 _ I1 q1) fun u s2 ⟨y, H2, I2, r2, q2⟩ => ?_) hm
  obtain ⟨a', dx, fs, b', dy, gs, C', ex, ey, ea, eb, hn, q⟩ := q2
  subst ex ey
  obtain rfl : v = Value.ref a' := r1
  obtain rfl : u = Value.ref b' := r2
  refine thn (cmpW_run hop hs hf F hr tk I2 ea eb hn q) fun c s3 ⟨z, H3, I3, r3, k, e, q3⟩ => ?_
  subst e
  cases r3
  exact wpAny_truthy_bool ⟨H3, I3, q3⟩
end raw
end Kf
end
section
set_option maxRecDepth 100000
set_option maxHeartbeats 4000000
/-! KfP: objects by value: fields, methods, making, comparisons, dicts. -/
namespace Kf
open PySem L2

theorem putF_new {f : Str} {v : V} : ∀ {fs : List (Str × V)}, fs.lookup f = none → putF f v fs = fs ++ [(f, v)]
  | [], _ => rfl
  | (g, x) :: r, h => by
    rw [List.lookup_cons] at h
    cases q : (f == g) with
    | true => rw [q] at h; cases h
    | false =>
      rw [q] at h
      have ne : ¬ g = f := fun z => by rw [z] at q; simp at q
      show (if g = f then (g, v) :: r else (g, x) :: putF f v r) = _
      rw [if_neg ne, putF_new h]
      rfl
theorem RpF.snoc {K : Fg} {S : Hp} {v : V} {d : D} {f : Str} (h : Rp K S v d) : ∀ {fs : List (Str × V)} {ds : List (Str × D)}, RpF K S fs ds → RpF K S (fs ++ [(f, v)]) (ds ++ [(f, d)])
  | _, _, .nil => .cons h .nil
  | _, _, .cons q t => .cons q (RpF.snoc h t)
/-- behind a call that was given the new object p -/
theorem Wd.afterP {K : Fg} {e : Ent} {S H S' H' : Hp} {σ : L2.St} {Γ : Gam} {p : Addr} (w : Wd K e S H σ Γ) (hn : ∀ (j : Nat) (o' : O), Γ[j]? = some (some (.ow o')) → σ[j]? ≠ some (some (.ref p))) (h0 : e.H0 p = none) (m : Nx ⟨S, H, some p⟩ S' H') : Wd K e S' H' σ Γ := by
  refine ⟨w.nx.trans m fun q z => by cases z; exact .inl h0, w.sl.len, fun i b q => ?_, w.sl.dj, w.sl.z⟩
  obtain ⟨v, h1, h2⟩ := w.sl.at_ i b q
  refine ⟨v, h1, ?_⟩
  cases b with
  | st d => exact Rp.mono m.ss h2
  | xc a d fl => exact h2.xcm m.ss
  | nw d l => exact h2.elim
  | nt o1 o2 => exact h2.elim
  | ow o1 =>
    obtain ⟨x, h3, h4, h5, h6⟩ := h2
    subst h3
    have nx : x ≠ p := fun z => hn i o1 q (by rw [h1, z])
    cases z : H x with
    | none => exact absurd z h5.some
    | some u => exact ⟨x, rfl, (m.old x h5.some).trans h4, h5.to m.ss ((m.hh x u z fun y => nx (Option.some.inj y).symm).trans z.symm), h6⟩
section
variable {X : Cx} {e : Ent} {Γ : Gam} {x a b : Expr} {es : List Expr} {d : D} {fs : List (Str × D)} {C f m : Str} {pos p p1 p2 apos : Pos} {k : Kn} {rest : List Stmt} {j n : Nat} {W : WX} {U : Wx}
/-- x.f -/
theorem pv_fld (c : Cls X.K (He.ga X.K C)) (na : NoAttr X.K (He.ga X.K C) f) (he : PV X e x Γ (.obj C fs)) (hl : fs.lookup f = some d) (hb : attributeBase x f X.env (eval x X.env) = eval x X.env := by rfl) : PV X e (.Attribute x f pos) Γ d :=
  PE.imp (pe_fld he hb) fun σ H Q ⟨S, w, q⟩ => ⟨S, w, fun S1 H1 v s1 w1 r1 => by
    cases r1 with
    | obj h1 h2 =>
      obtain ⟨u, hu, ru⟩ := h2.lookup hl
      exact ⟨_, _, _, _, u, rfl, w1.nx.sh _ _ h1, c, na, hu, q S1 H1 u s1 w1 ru⟩⟩
/-- self.f = v, self one's own, the field new -/
theorem bl_fld {nm : Str} {np pos' : Pos} {value : Expr} {Φ : D → Gam → Prop} {fs0 : List (Str × D)} (i : Nat) (c : Cls X.K (He.ga X.K C)) (na : NoAttr X.K (He.ga X.K C) f) (he : EV X e value Γ Φ)
    (h : ∀ d Γ1, Φ d Γ1 → ∃ fs, Γ1[i]? = some (some (.ow (.obj C fs))) ∧ fs.lookup f = none ∧ fs.length < 900 ∧ BL X e rest (Γ1.set i (some (.ow (.obj C (fs ++ [(f, d)]))))) k)
    (hN : X.N[i]? = some nm := by rfl) (hv : Vis X.env.scope nm := by first | exact Or.inl rfl | exact Or.inr (Or.inl rfl) | exact Or.inr (Or.inr rfl)) (h1 : (nm == ("__debug__" : Str)) = false := by decide) (h2 : (nm == ("__classdict__" : Str)) = false := by decide)
    (hs : swapsWith value (some (.Attribute (.Name nm np) f pos')) pos.line X.env = pure false := by rfl) : BL X e (.Assign [.Attribute (.Name nm np) f pos'] value pos :: rest) Γ k := by
  refine bl_cons (fun Γ2 => ∃ d Γ1 fs, Φ d Γ1 ∧ Γ1[i]? = some (some (.ow (.obj C fs))) ∧ Γ2 = Γ1.set i (some (.ow (.obj C (fs ++ [(f, d)])))) ∧ BL X e rest Γ2 k) (PS.imp (ps_fld (pe_var hN hv h1 h2) he hs) fun D σ H ⟨S, w, nx, _⟩ => ⟨S, w, fun S1 H1 y d Γ1 hd s1 w1 r1 => ?_⟩) fun Γ2 ⟨_, _, _, _, _, _, z⟩ => z
  obtain ⟨fs, g1, g2, g3, hB⟩ := h d Γ1 hd
  obtain ⟨v, g4, c', g5, sc, ow, hc⟩ := w1.sl.at_ i _ g1
  subst g5
  obtain ⟨dx, fv, g6, g7⟩ := ow
  refine ⟨_, g4, c', _, dx, fv, rfl, g6, c, na, by rw [g7.length]; omega, ?_⟩
  rw [putF_new (g7.none g2)]
  exact nx S1 σ _ _ ⟨d, Γ1, fs, hd, g1, rfl, hB⟩ s1.ss (w1.put g1 g4 ⟨dx, _, upd_same, RpF.snoc r1 g7⟩)
/-- C(..): one's own -/
theorem eo_make {c : Fo} {fI : Addr} {Φa : List D → Gam → Prop} {Φ : O → Gam → Prop} (M : Mk X.K (He.ga X.K C) fI) (F : FnR X.prog X.w X.K X.mg X.base (L2.CX X.prog X.w) n fI (spO X.K c)) (hm : X.mg C = some (.ref (He.ga X.K C))) (hr : Room j X.A) (hj : n + 1 ≤ j) (tk : Takes X (wX X.K e U)) (ha : AV X e (a :: es) Γ Φa)
    (h : ∀ ds Γ1, Φa ds Γ1 → c.pre (.obj C []) ds ∧ (∀ b o', c.post (.obj C []) ds b o' → b = .st .non ∧ Φ o' Γ1) ∧ ∀ y fl o', c.exn (.obj C []) ds y fl o' → U y fl Γ1) (hg : Gl X C := by rfl) (hdb : (C == ("__debug__" : Str)) = false := by decide)
    (he : starEach (a :: es) X.env = (false, eval a X.env) :: starEach es X.env := by rfl) (hpl : (backTo pos (starEach es X.env)).any (·.1) = false := by rfl) : EO X e (.Call (.Name C p) (a :: es) [] pos) Γ Φ :=
  PE.imp (pe_makeW M F (hr.mono hj) tk hg hm ha hdb he hpl) fun σ H Q ⟨S, w, q⟩ => ⟨S, w, fun S1 H1 vs ds Γ1 hds s1 w1 r1 p dx hp hdx ne => by
    obtain ⟨h1, h2, h3⟩ := h ds Γ1 hds
    have wa : Wd X.K e S1 (upd H1 dx (.own p)) σ Γ1 := w1.own hdx
    have hp2 : upd H1 dx (.own p) p = none := by rw [upd_ne (Ne.symm ne)]; exact hp
    have wb : Wd X.K e S1 (upd (upd H1 dx (.own p)) p (.ins (He.ga X.K C) dx [])) σ Γ1 := wa.own hp2
    have hpf : ∀ (j : Nat) (o' : O), Γ1[j]? = some (some (.ow o')) → σ[j]? ≠ some (some (.ref p)) := w1.fresh_ne hp
    have h0 : e.H0 p = none := w1.nx.fresh hp
    have old : ∀ b u, H1 b = some u → upd (upd H1 dx (.own p)) p (.ins (He.ga X.K C) dx []) b = some u := fun b u z => by
      rw [upd_ne (ne_of_none z hp), upd_ne (ne_of_none z hdx)]; exact z
    refine ⟨S1, p, vs, .obj C [], ds, rfl, wb.nx.sh, w1.nx.sh.free hp, ⟨dx, [], upd_same, .nil⟩, r1, h1, fun S2 H2 v b o' hb n2 ow2 ok2 => ?_, fun S2 H2 y fl cls dd o' hy n2 ow2 ek => ?_⟩
    · obtain ⟨rfl, hΦ⟩ := h2 b o' hb
      cases ok2
      refine ⟨rfl, ?_⟩
      have w2 := wb.afterP hpf h0 n2
      have st : Stp σ Γ1 S1 H1 Γ1 S2 H2 := ⟨n2.ss, fun b u z _ => n2.hh b u (old b u z) fun y => ne_of_none z hp (Option.some.inj y).symm, fun b z => by
        cases q : H1 b with
        | none => exact absurd q z
        | some u => exact n2.al b (fun t => by have := (old b u q).symm.trans t; cases this), fun b z => by
        cases q : H1 b with
        | none => exact absurd q z
        | some u => exact n2.old b (fun t => by have := (old b u q).symm.trans t; cases this), fun i o hi => ⟨o, hi⟩⟩
      have sp2 : S2 p = none := (n2.old p (fun t => by have := (upd_same (H := upd H1 dx (.own p)) (a := p) (o := .ins (He.ga X.K C) dx [])).symm.trans t; cases this)).trans (w1.nx.sh.free hp)
      exact q S2 H2 p o' Γ1 hΦ (s1.trans st) w2 sp2 ow2 (by
        cases z : H p with
        | none => rfl
        | some y => exact absurd hp (s1.al p (by rw [z]; exact fun t => nomatch t)))
    · have w2 := wb.afterP hpf h0 n2
      exact ⟨S2, y, fl, Γ1, h3 y fl o' hy, w2, eok_up wb.nx ek⟩⟩
/-! methods of objects that stand for good -/
/-- a method of the text: its promise speaks of self first -/
structure Md (P : Program) (w : World) (K : Fg) (mg : Str → Option Value) (base : Heap) (C m : Str) (k : Nat) (c : Fp) : Prop where
  cls : Cls K (He.ga K C)
  fn : ∃ g, Meth K (He.ga K C) m g ∧ FnR P w K mg base (L2.CX P w) k g (spP K c)
abbrev XMd (X : Cx) (C m : Str) (k : Nat) (c : Fp) : Prop := Md X.prog X.w X.K X.mg X.base C m k c
theorem pv_meth {c : Fp} {ds : List D} {pl : Sem Bool} (N : XMd X C m n c) (hr : Room j X.A) (hj : n ≤ j) (hx : PV X e x Γ (.obj C fs)) (hf : fs.lookup m = none) (ha : PVs X e (a :: es) Γ ds) (hp : c.pre (.obj C fs :: ds)) (hq : ∀ b, c.post (.obj C fs :: ds) b → b = .st d) (hn : ∀ y fl, ¬ c.exn (.obj C fs :: ds) y fl)
    (hst : starEach (a :: es) X.env = (false, eval a X.env) :: starEach es X.env := by rfl) (hpl : (backTo pos (starEach es X.env)).any (·.1) = false := by rfl)
    (ht : eval (.Call (.Attribute x m apos) (a :: es) [] pos) X.env = (do
      let ov ← eval x X.env
      standAt apos.atName
      let (f, first) ← holding [ov] (getMethod ov m pl)
      callWith pos f first (backTo pos (starEach (a :: es) X.env)) (backToKw pos (keywordEach [] X.env))) := by rfl) : PV X e (.Call (.Attribute x m apos) (a :: es) [] pos) Γ d := by
  obtain ⟨g, hm, F⟩ := N.fn
  exact PE.imp (pe_methW (W := fun _ _ _ _ => False) hx N.cls hm F (hr.mono hj) takes0 ha hst hpl ht) fun σ H Q ⟨S, w, q⟩ => ⟨S, w, fun S1 H1 v s1 w1 r1 => by
    cases r1 with
    | obj h1 h2 =>
      refine ⟨_, _, _, rfl, w1.nx.sh _ _ h1, h2.none hf, S1, w1, fun S2 H2 vs s2 w2 r2 => ?_⟩
      refine ⟨S2, .obj C fs :: ds, w2.nx.sh, .cons (.obj (s2.ss _ _ h1) (h2.mono s2.ss)) r2, hp, fun S3 H3 v b hb n3 r3 => ?_, fun S3 H3 y fl cls dd hy => (hn y fl hy).elim⟩
      obtain ⟨w3, s3⟩ := w2.after n3
      rw [hq b hb] at r3
      exact q S3 H3 v ((s1.trans s2).trans s3) w3 r3⟩
theorem pn_meth0 {c : Fp} {o : O} {pl : Sem Bool} (N : XMd X C m n c) (hr : Room j X.A) (hj : n ≤ j) (hx : PV X e x Γ (.obj C fs)) (hf : fs.lookup m = none) (hp : c.pre [.obj C fs]) (hq : ∀ b, c.post [.obj C fs] b → b = .ow o) (hn : ∀ y fl, ¬ c.exn [.obj C fs] y fl)
    (ht : eval (.Call (.Attribute x m apos) [] [] pos) X.env = (do
      let ov ← eval x X.env
      standAt apos.atName
      let (f, first) ← holding [ov] (getMethod ov m pl)
      callWith pos f first (backTo pos (starEach [] X.env)) (backToKw pos (keywordEach [] X.env))) := by rfl) : PN X e (.Call (.Attribute x m apos) [] [] pos) Γ o := by
  obtain ⟨g, hm, F⟩ := N.fn
  exact PE.imp (pe_methW0 (W := fun _ _ _ _ => False) hx N.cls hm F (hr.mono hj) takes0 ht) fun σ H Q ⟨S, w, q⟩ => ⟨S, w, fun S1 H1 v s1 w1 r1 => by
    cases r1 with
    | obj h1 h2 =>
      refine ⟨_, _, _, rfl, w1.nx.sh _ _ h1, h2.none hf, ?_⟩
      refine ⟨S1, [.obj C fs], w1.nx.sh, .cons (.obj h1 h2) .nil, hp, fun S3 H3 v b hb n3 r3 => ?_, fun S3 H3 y fl cls dd hy => (hn y fl hy).elim⟩
      obtain ⟨w3, s3⟩ := w1.after n3
      rw [hq b hb] at r3
      obtain ⟨p3, rfl, sp3, ow3, z0⟩ := r3
      exact q S3 H3 p3 (s1.trans s3) w3 sp3 ow3 (s1.hh.free z0)⟩
/-- with errors; a value that stands for good, or new -/
theorem ev_meth0 {c : Fp} {Φ : D → Gam → Prop} {pl : Sem Bool} (N : XMd X C m n c) (hr : Room j X.A) (hj : n ≤ j) (tk : Takes X (wX X.K e U)) (hx : PV X e x Γ (.obj C fs)) (hf : fs.lookup m = none) (hp : c.pre [.obj C fs]) (hq : ∀ b, c.post [.obj C fs] b → ∃ d, (b = .st d ∨ ∃ o, b = .ow o ∧ o.d = d) ∧ Φ d Γ) (hn : ∀ y fl, c.exn [.obj C fs] y fl → U y fl Γ)
    (ht : eval (.Call (.Attribute x m apos) [] [] pos) X.env = (do
      let ov ← eval x X.env
      standAt apos.atName
      let (f, first) ← holding [ov] (getMethod ov m pl)
      callWith pos f first (backTo pos (starEach [] X.env)) (backToKw pos (keywordEach [] X.env))) := by rfl) : EV X e (.Call (.Attribute x m apos) [] [] pos) Γ Φ := by
  obtain ⟨g, hm, F⟩ := N.fn
  exact PE.imp (pe_methW0 (W := wX X.K e U) hx N.cls hm F (hr.mono hj) tk ht) fun σ H Q ⟨S, w, q⟩ => ⟨S, w, fun S1 H1 v s1 w1 r1 => by
    cases r1 with
    | obj h1 h2 =>
      refine ⟨_, _, _, rfl, w1.nx.sh _ _ h1, h2.none hf, ?_⟩
      refine ⟨S1, [.obj C fs], w1.nx.sh, .cons (.obj h1 h2) .nil, hp, fun S3 H3 v b hb n3 r3 => ?_, fun S3 H3 y fl cls dd hy n3 ek => ?_⟩
      · obtain ⟨w3, s3⟩ := w1.after n3
        obtain ⟨d, hd, hΦ⟩ := hq b hb
        rcases hd with rfl | ⟨o, rfl, rfl⟩
        · exact q S3 H3 v d Γ hΦ (s1.trans s3).stp w3 r3
        · obtain ⟨p3, rfl, sp3, ow3, z0⟩ := r3
          obtain ⟨S4, s4, w4, r4⟩ := tO_frz (s1.trans s3).stp w w3 sp3 ow3 (s1.hh.free z0)
          exact q S4 H3 _ _ Γ hΦ s4 w4 r4
      · obtain ⟨w3, _⟩ := w1.after n3
        exact ⟨S3, y, fl, Γ, hn y fl hy, w3, eok_up w1.nx ek⟩⟩
/-- f(a, ..), f an instance -/
theorem ev_inst {c : Fp} {g : Addr} {ds : List D} {Φ : D → Gam → Prop} (co : StX.CallO X.K (He.ga X.K C) g) (F : FnR X.prog X.w X.K X.mg X.base (L2.CX X.prog X.w) n g (spP X.K c)) (hr : Room j X.A) (hj : n ≤ j) (tk : Takes X (wX X.K e U)) (hx : PV X e x Γ (.obj C fs)) (ha : PVs X e (a :: es) Γ ds)
    (hp : c.pre (.obj C fs :: ds)) (hq : ∀ b, c.post (.obj C fs :: ds) b → ∃ d, b = .st d ∧ Φ d Γ) (hn : ∀ y fl, c.exn (.obj C fs :: ds) y fl → U y fl Γ)
    (ht : eval (.Call x (a :: es) [] pos) X.env = (do callWith pos (← eval x X.env) [] (backTo pos (starEach (a :: es) X.env)) (backToKw pos (keywordEach [] X.env))) := by rfl)
    (he : starEach (a :: es) X.env = (false, eval a X.env) :: starEach es X.env := by rfl) (hpl : (backTo pos (starEach es X.env)).any (·.1) = false := by rfl) : EV X e (.Call x (a :: es) [] pos) Γ Φ :=
  PE.imp (pe_callOW (W := wX X.K e U) hx co F (hr.mono hj) tk ha ht he hpl) fun σ H Q ⟨S, w, q⟩ => ⟨S, w, fun S1 H1 v s1 w1 r1 => by
    cases r1 with
    | obj h1 h2 =>
      refine ⟨_, rfl, S1, w1, fun S2 H2 vs s2 w2 r2 => ⟨⟨_, _, w2.nx.sh _ _ (s2.ss _ _ h1)⟩, ?_⟩⟩
      refine ⟨S2, .obj C fs :: ds, w2.nx.sh, .cons (.obj (s2.ss _ _ h1) (h2.mono s2.ss)) r2, hp, fun S3 H3 v b hb n3 r3 => ?_, fun S3 H3 y fl cls dd hy n3 ek => ?_⟩
      · obtain ⟨w3, s3⟩ := w2.after n3
        obtain ⟨d, rfl, hΦ⟩ := hq b hb
        exact q S3 H3 v d Γ hΦ ((s1.trans s2).trans s3).stp w3 r3
      · obtain ⟨w3, _⟩ := w2.after n3
        exact ⟨S3, y, fl, Γ, hn y fl hy, w3, eok_up w2.nx ek⟩⟩
/-! own comparisons -/
/-- C's own op between two objects (of C and C') -/
structure Od (P : Program) (w : World) (K : Fg) (mg : Str → Option Value) (base : Heap) (C C' : Str) (op : CmpOp) (k : Nat) (c : Fp) : Prop where
  nf : PySem.W.notFirst K (He.ga K C) (.ref (He.ga K C')) = true
  fn : ∃ g, PySem.W.findIn K (.ref (He.ga K C)) (cmpInfo op).2.1 = some (some (.ref g)) ∧ PySem.W.isFn K (.ref g) = true ∧ FnR P w K mg base (L2.CX P w) k g (spP K c)
abbrev XOd (X : Cx) (C C' : Str) (op : CmpOp) (k : Nat) (c : Fp) : Prop := Od X.prog X.w X.K X.mg X.base C C' op k c
theorem tCmp_read {c : Fp} {C' : Str} {gs : List (Str × D)} {op : CmpOp} (N : XOd X C C' op n c) {Φ : D → Gam → Prop} (hp : c.pre [.obj C fs, .obj C' gs]) (hq : ∀ b, c.post [.obj C fs, .obj C' gs] b → ∃ d, b = .st d ∧ Φ d Γ) (hn : ∀ y fl, c.exn [.obj C fs, .obj C' gs] y fl → U y fl Γ)
    {σ : L2.St} {H : Hp} {Q : VK} (h : ∃ S, Wd X.K e S H σ Γ ∧ ∀ S' H' v d, Φ d Γ → Pur S H S' H' → Wd X.K e S' H' σ Γ → Rp X.K S' v d → Q v H') : tCmpW X.K (He.ga X.K C) (spP X.K c) (wX X.K e U) (tP X.K e Γ (.obj C fs)) (tP X.K e Γ (.obj C' gs)) σ H Q :=
  let ⟨S, w, q⟩ := h
  ⟨S, w, fun S1 H1 v1 s1 w1 r1 => ⟨S1, w1, fun S2 H2 v2 s2 w2 r2 => by
    cases r1 with
    | obj h1 h2 =>
      cases r2 with
      | obj h3 h4 =>
        refine ⟨_, _, _, _, _, _, _, rfl, rfl, w2.nx.sh _ _ (s2.ss _ _ h1), w2.nx.sh _ _ h3, N.nf, S2, _, w2.nx.sh, .cons (.obj (s2.ss _ _ h1) (h2.mono s2.ss)) (.cons (.obj h3 h4) .nil), hp, fun S3 H3 v b hb n3 r3 => ?_, fun S3 H3 y fl cls dd hy n3 ek => ?_⟩
        · obtain ⟨w3, s3⟩ := w2.after n3
          obtain ⟨d, rfl, hΦ⟩ := hq b hb
          exact q S3 H3 v d hΦ ((s1.trans s2).trans s3) w3 r3
        · obtain ⟨w3, _⟩ := w2.after n3
          exact ⟨S3, y, fl, Γ, hn y fl hy, w3, eok_up w2.nx ek⟩⟩⟩
theorem ev_own {c : Fp} {C' : Str} {gs : List (Str × D)} {op : CmpOp} {Φ : D → Gam → Prop} (N : XOd X C C' op n c) (hop : ∀ a b, compareOp op a b = richCompare op a b) (hr : Room j X.A) (hj : n ≤ j) (tk : Takes X (wX X.K e U)) (ha : PV X e a Γ (.obj C fs)) (hb : PV X e b Γ (.obj C' gs))
    (hp : c.pre [.obj C fs, .obj C' gs]) (hq : ∀ b, c.post [.obj C fs, .obj C' gs] b → ∃ d, b = .st d ∧ Φ d Γ) (hn : ∀ y fl, c.exn [.obj C fs, .obj C' gs] y fl → U y fl Γ) (hm : behindInMarks op b = false := by first | exact nomark _ | rfl) : EV X e (.Compare a [op] [b] pos) Γ Φ := by
  obtain ⟨g, g1, g2, F⟩ := N.fn
  exact PE.imp (pe_cmpW (W := wX X.K e U) hop g1 g2 F (hr.mono hj) tk ha hb hm) fun σ H Q ⟨S, w, q⟩ => tCmp_read N hp hq hn ⟨S, w, fun S' H' v d hd s w' r => q S' H' v d Γ hd s.stp w' r⟩
theorem pv_own {c : Fp} {C' : Str} {gs : List (Str × D)} {op : CmpOp} (N : XOd X C C' op n c) (hop : ∀ a b, compareOp op a b = richCompare op a b) (hr : Room j X.A) (hj : n ≤ j) (ha : PV X e a Γ (.obj C fs)) (hb : PV X e b Γ (.obj C' gs))
    (hp : c.pre [.obj C fs, .obj C' gs]) (hq : ∀ b, c.post [.obj C fs, .obj C' gs] b → b = .st d) (hn : ∀ y fl, ¬ c.exn [.obj C fs, .obj C' gs] y fl) (hm : behindInMarks op b = false := by first | exact nomark _ | rfl) : PV X e (.Compare a [op] [b] pos) Γ d := by
  obtain ⟨g, g1, g2, F⟩ := N.fn
  exact PE.imp (pe_cmpW (W := wX X.K e fun _ _ _ => False) hop g1 g2 F (hr.mono hj) takes_none ha hb hm) fun σ H Q ⟨S, w, q⟩ => tCmp_read (Φ := fun d' _ => d' = d) N hp (fun b hb => ⟨d, hq b hb, rfl⟩) (fun y fl z => (hn y fl z).elim) ⟨S, w, fun S' H' v d' hd s w' r => by subst hd; exact q S' H' v s w' r⟩
theorem px_own {c : Fp} {C' : Str} {gs : List (Str × D)} {op : CmpOp} {t : Bool} (N : XOd X C C' op n c) (hop : ∀ a b, compareOp op a b = richCompare op a b) (hr : Room j X.A) (hj : n ≤ j) (ha : PV X e a Γ (.obj C fs)) (hb : PV X e b Γ (.obj C' gs))
    (hp : c.pre [.obj C fs, .obj C' gs]) (hq : ∀ b, c.post [.obj C fs, .obj C' gs] b → b = .st (.bl t)) (hn : ∀ y fl, ¬ c.exn [.obj C fs, .obj C' gs] y fl) (hm : behindInMarks op b = false := by first | exact nomark _ | rfl) : PX X e (.Compare a [op] [b] pos) Γ t := by
  obtain ⟨g, g1, g2, F⟩ := N.fn
  exact PT.imp (pt_cmpW (W := wX X.K e fun _ _ _ => False) hop g1 g2 F (hr.mono hj) takes_none ha hb hm) fun σ H Q ⟨S, w, q⟩ => tCmp_read (Φ := fun d' _ => d' = .bl t) N hp (fun b hb => ⟨_, hq b hb, rfl⟩) (fun y fl z => (hn y fl z).elim) ⟨S, w, fun S' H' v d' hd s w' r => by
    subst hd
    cases r
    exact ⟨t, rfl, q S' H' s w'⟩⟩
end
end Kf
end
section
set_option maxRecDepth 100000
set_option maxHeartbeats 4000000
/-! KfQ: dicts, all, isinstance of objects, class constants. -/
namespace Kf
open PySem L2

def valD (ds : List (Key × D)) (k : Key) : Option D := (ds.find? fun kv => decide (kv.1 = k)).map (·.2)
theorem RpK.val {K : Fg} {S : Hp} {k : Key} {d : D} : ∀ {vs : List (Key × V)} {ds : List (Key × D)}, RpK K S vs ds → valD ds k = some d → ∃ v, valV vs k = some v ∧ Rp K S v d
  | _, _, .nil, h => by cases h
  | _, _, .cons (k := k') (v := v') (d := d') (vs := vs) (ds := ds) r t, h => by
    by_cases q : k' = k
    · subst q
      have e : valD ((k', d') :: ds) k' = some d' := by unfold valD; rw [List.find?_cons_of_pos (by simp)]; rfl
      rw [e] at h
      cases h
      exact ⟨_, by unfold valV; rw [List.find?_cons_of_pos (by simp)]; rfl, r⟩
    · have e : valD ((k', d') :: ds) k = valD ds k := by unfold valD; rw [List.find?_cons_of_neg (by simpa using q)]
      rw [e] at h
      obtain ⟨v, h1, h2⟩ := RpK.val t h
      exact ⟨v, by unfold valV at h1 ⊢; rw [List.find?_cons_of_neg (by simpa using q)]; exact h1, h2⟩
theorem RpK.keys {K : Fg} {S : Hp} : ∀ {vs : List (Key × V)} {ds : List (Key × D)}, RpK K S vs ds → vs.map (·.1) = ds.map (·.1)
  | _, _, .nil => rfl
  | _, _, .cons _ t => by rw [List.map_cons, List.map_cons, t.keys]
theorem RpK.snoc {K : Fg} {S : Hp} {v : V} {d : D} {k : Key} (h : Rp K S v d) : ∀ {vs : List (Key × V)} {ds : List (Key × D)}, RpK K S vs ds → RpK K S (vs ++ [(k, v)]) (ds ++ [(k, d)])
  | _, _, .nil => .cons h .nil
  | _, _, .cons q t => .cons q (RpK.snoc h t)
section
variable {X : Cx} {e : Ent} {Γ : Gam} {x i : Expr} {pos : Pos} {k : Kn} {rest : List Stmt} {j : Nat}
/-- x[z], a text the key -/
theorem pv_dget {ds : List (Key × D)} {z : Str} {d : D} (hr : Room j X.A) (hx : PV X e x Γ (.dK ds)) (hi : PV X e i Γ (.str z)) (h : valD ds (.inr z) = some d) (hs : NoSl i := by first | exact fun _ _ => rfl | exact rfl | decide) : PV X e (.Subscript x i pos) Γ d :=
  PE.imp (L2.pe_dget (by have := hr.units; omega) hx hi hs) fun σ H Q ⟨S, w, q⟩ => ⟨S, w, fun S1 H1 v s1 w1 r1 => ⟨S1, w1, fun S2 H2 y s2 w2 r2 => by
    cases r1 with
    | dK h1 h2 =>
      cases r2
      obtain ⟨u, hu, ru⟩ := (h2.mono s2.ss).val h
      exact ⟨_, u, rfl, .inl ⟨_, .inr z, same_rd w2.nx.sh (same_rd s2.ss h1), rfl, hu.symm⟩, q S2 H2 u (s1.trans s2) w2 ru⟩⟩⟩
/-- d[z] = v, d one's own, the key new -/
theorem bl_dput {nm : Str} {np sp : Pos} {value : Expr} {Φ : D → Gam → Prop} (ix : Nat) (hr : Room j X.A) (hv : EV X e value Γ Φ) (h0 : ∀ d Γ1, Φ d Γ1 → ∃ l z, Γ1[ix]? = some (some (.ow (.dK l))) ∧ PV X e i Γ1 (.str z) ∧ (Sum.inr z : Key) ∉ l.map (·.1) ∧ l.length < 100000 ∧ BL X e rest (Γ1.set ix (some (.ow (.dK (l ++ [(.inr z, d)]))))) k)
    (hN : X.N[ix]? = some nm := by rfl) (hvs : Vis X.env.scope nm := by first | exact Or.inl rfl | exact Or.inr (Or.inl rfl) | exact Or.inr (Or.inr rfl)) (h1 : (nm == ("__debug__" : Str)) = false := by decide) (h2 : (nm == ("__classdict__" : Str)) = false := by decide)
    (hs : swapsWith value (some (.Subscript (.Name nm np) i sp)) pos.line X.env = pure false := by rfl) : BL X e (.Assign [.Subscript (.Name nm np) i sp] value pos :: rest) Γ k := by
  have hiT : PE X i (fun σ H Q => ∃ d Γ1 z, Φ d Γ1 ∧ PV X e i Γ1 (.str z) ∧ tP X.K e Γ1 (.str z) σ H Q) := ⟨fun pins s σ H Q I ⟨d, Γ1, z, _, hp, q⟩ => hp.run pins s σ H Q I q⟩
  refine bl_cons (fun Γ2 => ∃ d Γ1 l z, Φ d Γ1 ∧ Γ1[ix]? = some (some (.ow (.dK l))) ∧ Γ2 = Γ1.set ix (some (.ow (.dK (l ++ [(.inr z, d)])))) ∧ BL X e rest Γ2 k) (PS.imp (L2.ps_dput (by have := hr.units; omega) (pe_var hN hvs h1 h2) hiT hv hs) fun D σ H ⟨S, w, nx, _⟩ => ⟨S, w, fun S1 H1 v d Γ1 hd s1 w1 r1 => ?_⟩) fun Γ2 ⟨_, _, _, _, _, _, _, z⟩ => z
  obtain ⟨l, z, g1, g2, g3, g4, hB⟩ := h0 d Γ1 hd
  obtain ⟨u, g5, p, g6, sp1, ow1, hp⟩ := w1.sl.at_ ix _ g1
  subst g6
  refine ⟨_, g5, d, Γ1, z, hd, g2, S1, w1, fun S2 H2 y s2 w2 r2 => ?_⟩
  cases r2
  obtain ⟨u', g5', p', g6', sp2, ow2, hp2⟩ := w2.sl.at_ ix _ g1
  rw [g5] at g5'
  cases g5'
  cases g6'
  obtain ⟨kvs, g7, g8⟩ := ow2
  have hkeys := g8.keys
  have hno : (kvs.any fun kv => decide (kv.1 = (Sum.inr z : Key))) = false := by
    rw [List.any_eq_false]
    intro kv hkv hh
    rw [decide_eq_true_eq] at hh
    exact g3 (by rw [← hkeys]; exact List.mem_map.mpr ⟨kv, hkv, hh⟩)
  refine ⟨p, upd H2 p (.dK (putK kvs (.inr z) v)), rfl, .inl ⟨kvs, .inr z, g7, rfl, ?_, rfl⟩, ?_⟩
  · rw [g8.length]; exact Nat.lt_of_lt_of_le g4 (by decide)
  · have e1 : putK kvs (.inr z) v = kvs ++ [(.inr z, v)] := by unfold putK; rw [hno]; rfl
    rw [e1]
    exact nx S2 σ _ _ ⟨d, Γ1, l, z, hd, g1, rfl, hB⟩ (s1.ss.trans s2.ss) (w2.put g1 g5 ⟨_, upd_same, (RpK.snoc (r1.mono s2.ss) g8)⟩)
/-- all([..]) of answers -/
theorem rpl_bls {K : Fg} {S : Hp} : ∀ {vs : List V} {bs : List Bool}, RpL K S vs (bs.map .bl) → vs = bs.map V.bl
  | _, [], .nil => rfl
  | _, b :: bs, .cons r t => by
    cases r
    rw [List.map_cons, rpl_bls t]
theorem pv_all {bs : List Bool} {p : Pos} (hx : PV X e x Γ (.lst (bs.map .bl))) (hm : X.mg "all" = none) (hc : X.calm = true := by rfl) (hg : Gl X "all" := by rfl) (he : starEach [x] X.env = (false, eval x X.env) :: starEach [] X.env := by rfl) (hpl : (backTo pos (starEach [] X.env)).any (·.1) = false := by rfl) :
    PV X e (.Call (.Name "all" p) [x] [] pos) Γ (.bl (bs.all id)) :=
  pv_cb (cr_all hc) hm (by decide +kernel) (pvs_cons hx pvs_nil he) (fun S H vs Q s r q => by
    cases r with
    | cons r1 r2 =>
      cases r2
      cases r1 with
      | lst h1 h2 =>
        have e := rpl_bls h2
        subst e
        exact ⟨_, bs, rfl, rdq (same_rd s h1), q _ (.bl _)⟩) hg (by decide) (by decide) he hpl
/-- isinstance(x, C), x an object of C -/
theorem pv_isO {C : Str} {fs : List (Str × D)} {p p2 : Pos} (c : C8.InsC X.K (He.ga X.K C)) (hx : PV X e x Γ (.obj C fs)) (hmC : X.mg C = some (.ref (He.ga X.K C))) (hm : X.mg "isinstance" = none) (hg : Gl X "isinstance" := by rfl) (hgC : Gl X C := by rfl) (hd : (C == ("__debug__" : Str)) = false := by decide)
    (he : starEach [x, .Name C p2] X.env = (false, eval x X.env) :: starEach [.Name C p2] X.env := by rfl) (he2 : starEach [.Name C p2] X.env = (false, eval (.Name C p2) X.env) :: starEach [] X.env := by rfl) (hpl : (backTo pos (starEach [.Name C p2] X.env)).any (·.1) = false := by rfl) :
    PV X e (.Call (.Name "isinstance" p) [x, .Name C p2] [] pos) Γ (.bl true) :=
  pv_cb (C8.call_isC c) hm (by decide +kernel) (pvs_cons hx (pvs_cons (pv_glo hgC hmC hd) pvs_nil he2) he) (fun S H vs Q s r q => by
    cases r with
    | cons r1 r2 =>
      cases r2 with
      | cons r2 r3 =>
        cases r3
        cases r2
        cases r1 with
        | obj h1 h2 => exact ⟨_, _, _, rfl, s _ _ h1, q _ (.bl true)⟩) hg (by decide) (by decide) he hpl
/-- C.f, a number of the class -/
theorem pv_con {C f : Str} {i : Int} {p : Pos} (r : ClX.CRead X.K (He.ga X.K C) (.type "type")) (c : ∃ t, ClX.CVal X.K (He.ga X.K C) (.type "type") f (.int i) (.int i t)) (hmC : X.mg C = some (.ref (He.ga X.K C))) (hgC : Gl X C := by rfl) (hd : (C == ("__debug__" : Str)) = false := by decide)
    (hb : attributeBase (.Name C p) f X.env (eval (.Name C p) X.env) = eval (.Name C p) X.env := by rfl) : PV X e (.Attribute (.Name C p) f pos) Γ (.int i) := by
  obtain ⟨t, c⟩ := c
  exact PE.imp (ClX.pe_cval (pe_glob (v := .ref (He.ga X.K C)) hgC hmC rfl hd) hb) fun σ H Q ⟨S, w, q⟩ => ⟨_, _, _, _, rfl, r, c, q S H _ (Pur.refl _ _) w (.int i)⟩
end
end Kf
end
section
set_option maxRecDepth 100000
set_option maxHeartbeats 4000000
/-! KfL2: fresh words, names. -/
namespace Kf
open PySem L2

def numS (i : Int) : Str := toString i
theorem numS_ok : ∀ k : Fin 60, (cdl (numS (k.val : Int))).length ≤ 2 ∧ 1 ≤ (cdl (numS (k.val : Int))).length ∧ ∀ c ∈ cdl (numS (k.val : Int)), 48 ≤ c ∧ c ≤ 57 := by decide +kernel
theorem numS_inj : ∀ j k : Fin 60, cdl (numS (j.val : Int)) = cdl (numS (k.val : Int)) → j = k := by decide +kernel
theorem cdl_take (z : Str) (p : Nat) : cdl (cutS z none (some (p : Int))) = (cdl z).take p := by
  have h : z.length = (cdl z).length := (cdl_len z).symm
  show ((z.cps.toList.drop (HT.sIx z.length 0 none)).take (HT.sIx z.length z.length (some (p : Int)) - HT.sIx z.length 0 none)).toArray.toList = _
  rw [show HT.sIx z.length 0 none = 0 from rfl, show HT.sIx z.length z.length (some (p : Int)) = min p z.length from HT.sIx_nat _ _ _, List.drop_zero, Nat.sub_zero]
  show List.take (min p z.length) (cdl z) = _
  rw [h]
  exact List.take_eq_take_iff.mpr (by omega)
theorem cdl_drop (z : Str) (p : Nat) : cdl (cutS z (some (p : Int)) none) = (cdl z).drop p := by
  have h : z.length = (cdl z).length := (cdl_len z).symm
  show ((z.cps.toList.drop (HT.sIx z.length 0 (some (p : Int)))).take (HT.sIx z.length z.length none - HT.sIx z.length 0 (some (p : Int)))).toArray.toList = _
  rw [show HT.sIx z.length z.length none = z.length from rfl, show HT.sIx z.length 0 (some (p : Int)) = min p z.length from HT.sIx_nat _ _ _]
  show List.take (z.length - min p z.length) (List.drop (min p z.length) (cdl z)) = _
  rw [h]
  by_cases q : p ≤ (cdl z).length
  · rw [Nat.min_eq_left q, List.take_of_length_le (by rw [List.length_drop]; omega)]
  · rw [Nat.min_eq_right (by omega), List.drop_length, List.drop_of_length_le (by omega)]
    simp
def cand (w : Str) (k : Nat) : Str := if k = 0 then w else cutS w none (some 20) ++ numS (k : Int)
def wordOk (w : Str) : Prop := KName w ∧ (w.length ≤ 6 ∨ w.length = 24)
theorem cand_name {w : Str} (h : KName w) {k : Nat} (hk : k < 60) : KName (cand w k) := by
  unfold cand
  split
  · exact h
  · obtain ⟨d1, d2, d3⟩ := numS_ok ⟨k, hk⟩
    have e : cdl (cutS w none (some 20)) = (cdl w).take 20 := cdl_take w 20
    obtain ⟨h1, h2, ⟨c, t, h3, h4⟩, h5⟩ := h
    have h3' : cdl w = c :: t := h3
    have nm : KName (cutS w none (some 20)) := by
      refine ⟨by rw [← cdl_len, e, List.length_take, cdl_len]; omega, by rw [← cdl_len, e, List.length_take, cdl_len]; omega, ⟨c, t.take 19, by show cdl _ = _; rw [e, h3']; rfl, h4⟩, fun x hx => ?_⟩
      have hx' : x ∈ cdl (cutS w none (some 20)) := hx
      rw [e] at hx'
      exact h5 x (List.mem_of_mem_take hx')
    refine kname_app nm ?_ fun c hc => .inr (.inl (d3 c hc))
    rw [← cdl_len, ← cdl_len, e, List.length_take]
    have : (cdl (numS (k : Int))).length ≤ 2 := d1
    omega
theorem cand_inj {w : Str} (h : wordOk w) {j k : Nat} (hj : j < 60) (hk : k < 60) (q : cand w j = cand w k) : j = k := by
  have e : cdl (cutS w none (some 20)) = (cdl w).take 20 := cdl_take w 20
  have hl : (cdl w).length = w.length := cdl_len w
  have key : ∀ m : Nat, m < 60 → m ≠ 0 → cand w m ≠ w := fun m hm m0 z => by
    unfold cand at z
    rw [if_neg m0] at z
    have z' := congrArg (fun s => (cdl s).length) z
    simp only [cdl_app, e, List.length_append, List.length_take] at z'
    obtain ⟨d1, d2, _⟩ := numS_ok ⟨m, hm⟩
    have a1 : (cdl (numS (m : Int))).length ≤ 2 := d1
    have a2 : 1 ≤ (cdl (numS (m : Int))).length := d2
    rcases h.2 with y | y <;> omega
  by_cases j0 : j = 0
  · by_cases k0 : k = 0
    · omega
    · exact absurd (by rw [← q]; unfold cand; rw [if_pos j0]) (key k hk k0)
  · by_cases k0 : k = 0
    · exact absurd (by rw [q]; unfold cand; rw [if_pos k0]) (key j hj j0)
    · unfold cand at q
      rw [if_neg j0, if_neg k0] at q
      have q' := congrArg cdl q
      rw [cdl_app, cdl_app] at q'
      have := numS_inj ⟨j, hj⟩ ⟨k, hk⟩ (List.append_cancel_left q')
      exact congrArg Fin.val this
theorem cand_out {w : Str} {ns : List Str} (h : wordOk w) (hn : ns.length < 50) : ¬ ∀ j, j < ns.length + 1 → cand w j ∈ ns := fun q => by
  have nd : ((List.range (ns.length + 1)).map (cand w)).Nodup := by
    refine List.pairwise_map.mpr (List.Pairwise.imp_of_mem ?_ List.pairwise_lt_range)
    intro a b ha hb hab z
    rw [List.mem_range] at ha hb
    have := cand_inj h (by omega) (by omega) z
    omega
  have := nodup_le nd (m := ns) fun x hx => by
    obtain ⟨j, hj, rfl⟩ := List.mem_map.mp hx
    exact q j (List.mem_range.mp hj)
  rw [List.length_map, List.length_range] at this
  omega
theorem strs_inj {a b : List Str} (h : a.map D.str = b.map D.str) : a = b := by
  induction a generalizing b with
  | nil => cases b with
    | nil => rfl
    | cons => cases h
  | cons x a ih => cases b with
    | nil => cases h
    | cons y b =>
      rw [List.map_cons, List.map_cons] at h
      injection h with h1 h2
      injection h1 with h1
      rw [h1, ih h2]
section
variable {P : Program} {w : World} {K : Fg} {mg : Str → Option Value} {base : Heap}
def cFresh : Fp where
  pre ds := ∃ (wd : Str) (ns : List Str), ds = [.str wd, .lst (ns.map .str)] ∧ wordOk wd ∧ ns.length < 50
  post ds b := ∃ (wd : Str) (ns : List Str) (z : Str), ds = [.str wd, .lst (ns.map .str)] ∧ b = .st (.str z) ∧ KName z ∧ z ∉ ns
theorem scFresh : FnScope ["word", "names", "k", "found"] ["word", "names"] (defScope s_fresh) := ⟨rfl, rfl, rfl, by decide +kernel, rfl, by decide +kernel, by decide +kernel⟩
theorem ok_fresh {f : Addr} {fd : FuncData} (F : FunS K "_law_fresh" s_fresh f fd) (b : Bi mg) : FnOk P w K mg base (L2.CX P w) 1 f fd ["word", "names"] (spP K cFresh) := by
  refine fp_ok F scFresh (fun ds ⟨w, ns, h, _⟩ => by rw [h]; rfl) fun cdv A outer s e E ds ho ⟨wd, ns, hd, hw, hn⟩ hr tk => ?_
  subst hd
  have nd := scFresh.nd
  refine bl_for (fun ds i Γ => ds = rng 0 (ns.length + 1) ∧ (∀ j, j < i → cand wd j ∈ ns) ∧ ∃ kk ff, Γ = [some (.st (.str wd)), some (.st (.lst (ns.map .str))), kk, ff])
    (wv (wp_rng (n := ns.length + 1) (pv_is (pv_b op_add (pv_lenL (pv_var 1) b.len) pv_int sc_add) (by congr 1; simp)) (by omega) b.range)) (gv_name 2 nd (hz := .inl ho)) ?_ ?_ ?_ (passes_of rfl)
  · rintro ds Γ1 ⟨rfl, rfl⟩
    exact ⟨rfl, fun j hj => absurd hj (Nat.not_lt_zero _), _, _, rfl⟩
  · rintro ds i d Γ1 hdi ⟨rfl, hall, kk, ff, rfl⟩
    obtain ⟨hi, rfl⟩ := rng_at hdi
    refine ⟨_, rfl, bl_let 3 (hz := .inl ho) (pv_var 0) (bl_ifP (fun Γ => Γ = [some (.st (.str wd)), some (.st (.lst (ns.map .str))), some (.st (.int (0 + (i : Int)))), some (.st (.str (cand wd i)))]) (px_cmp op_gt (pv_var 2) pv_int sc_gt) (fun h => ?_) (fun h => bl_nil ?_) ?_)⟩
    · have h0 : 0 < 0 + (i : Int) := of_decide_eq_true h
      refine bl_let 3 (hz := .inl ho) (pv_b op_add_str (pv_cutS (pv_var 0) (Nat.le_trans hw.1.2.1 (by decide)) pp_none (pp_some pv_int)) (pv_strI (pv_var 2) ?_ b.str) (sc_addS ?_)) (bl_nil ?_)
      · have : (0 + (i : Int)).natAbs < 2 ^ 10 := by omega
        by_cases z : (0 + (i : Int)).natAbs = 0
        · rw [z]; decide
        · have := (Nat.log2_lt z).mpr this
          omega
      · have e : (cutS wd none (some 20)).length ≤ 20 := by
          rw [← cdl_len, show cdl (cutS wd none (some 20)) = _ from cdl_take wd 20, List.length_take]
          omega
        obtain ⟨d1, _, _⟩ := numS_ok ⟨i, by omega⟩
        have a1 : (numS (0 + (i : Int))).length ≤ 2 := by rw [← cdl_len, Int.zero_add]; exact d1
        exact Nat.le_trans (Nat.add_le_add e a1) (by decide)
      · have e : cand wd i = cutS wd none (some 20) ++ numS (0 + (i : Int)) := by
          unfold cand
          rw [if_neg (by omega), Int.zero_add]
        rw [e]
        rfl
    · have h0 : ¬ 0 < 0 + (i : Int) := of_decide_eq_false h
      have : i = 0 := by omega
      subst this
      rfl
    · rintro Γ rfl
      refine bl_ifR (px_ninS (pv_var 3) (.inl (pv_var 1))) (fun h => bl_retP (pv_var 3) ⟨wd, ns, _, rfl, rfl, cand_name hw.1 (by omega), fun z => ?_⟩) fun h => bl_nil ⟨rfl, fun j hj => ?_, _, _, rfl⟩
      · rw [decide_eq_true z] at h
        cases h
      · have hm : cand wd i ∈ ns := by
          by_cases z : cand wd i ∈ ns
          · exact z
          · rw [decide_eq_false z] at h
            cases h
        by_cases q : j = i
        · rw [q]; exact hm
        · exact hall j (by omega)
  · rintro ds Γ1 ⟨rfl, hall, kk, ff, rfl⟩
    rw [rng_len] at hall
    exact absurd hall (cand_out hw hn)
end
end Kf
end
section
set_option maxRecDepth 100000
set_option maxHeartbeats 4000000
/-! KfL3: names. -/
namespace Kf
open PySem L2

/-- a stem with a letter put in -/
theorem stem_name {z : Str} (h : KName z) (hl : z.length ≤ 6) {p : Nat} (hp : p ≤ z.length) {c : Nat} (hc : lowC c) {y : Str} (hy : cdl y = (cdl z).take p ++ c :: (cdl z).drop p) : KName y := by
  obtain ⟨h1, h2, ⟨c0, t, h3, h4⟩, h5⟩ := h
  have h3' : cdl z = c0 :: t := h3
  have hl' : (cdl z).length = z.length := cdl_len z
  have ly : y.length = z.length + 1 := by
    rw [← cdl_len, hy, List.length_append, List.length_cons, List.length_take, List.length_drop]
    omega
  refine ⟨by omega, by omega, ?_, fun x hx => ?_⟩
  · cases p with
    | zero => exact ⟨c, (cdl z).drop 0, by show cdl y = _; rw [hy]; rfl, hc⟩
    | succ p => exact ⟨c0, t.take p ++ c :: (cdl z).drop (p + 1), by show cdl y = _; rw [hy, h3']; rfl, h4⟩
  · have hx' : x ∈ cdl y := hx
    rw [hy] at hx'
    rcases List.mem_append.mp hx' with q | q
    · exact h5 x (List.mem_of_mem_take q)
    · rcases List.mem_cons.mp q with q | q
      · rw [q]; exact .inl hc
      · exact h5 x (List.mem_of_mem_drop q)
def letN (k s : Nat) : Nat := 97 + (3 * k + s) % 26
theorem letN_inj {j k s : Nat} (hj : j < 26) (hk : k < 26) (h : letN j s = letN k s) : j = k := by
  unfold letN at h
  omega
theorem low_at' (n : Nat) (h : n < 26) : atI sLow.cps.toList (n : Int) = some (97 + n) := by
  have : ∀ n : Fin 26, atI sLow.cps.toList (n.val : Int) = some (97 + n.val) := by decide +kernel
  exact this ⟨n, h⟩
section
variable {P : Program} {w : World} {K : Fg} {mg : Str → Option Value} {base : Heap}
def cNames : Fo where
  pre o ds := Pool o ∧ ∃ n : Nat, ds = [.int (n : Int)] ∧ n ≤ 26
  post o ds b o' := Pool o' ∧ ∃ ns : List Str, b = .ow (.lst (ns.map .str)) ∧ ns.Nodup ∧ (∀ z ∈ ns, KName z) ∧ ds = [.int (ns.length : Int)]
theorem scNames : FnScope ["pool", "count", "letters", "names", "stem", "place", "shift", "k", "size"] ["pool", "count"] (defScope s_names) := ⟨rfl, rfl, rfl, by decide +kernel, rfl, by decide +kernel, by decide +kernel⟩
theorem nat_of {r : Int} (h : 0 ≤ r) : ∃ n : Nat, r = (n : Int) := Int.eq_ofNat_of_zero_le h
theorem ok_names {f : Addr} {fd : FuncData} (F : FunS K "_law_names" s_names f fd) (b : Bi mg) (Nd : Dy P w K mg base "_law_draw" 1 cDraw) (Nw : Dy P w K mg base "_law_word" 2 cWord) (Nf : Dx P w K mg base "_law_fresh" 1 cFresh) :
    FnOk P w K mg base (L2.CX P w) 3 f fd ["pool", "count"] (spO K cNames) := by
  refine fo_ok F scNames (fun o ds ⟨_, n, h, _⟩ => by rw [h]; rfl) fun cdv A outer s e E o ds ⟨hp, n, hd, n26⟩ hr tk => ?_
  subst hd
  have nd := scNames.nd
  refine bl_let 2 pv_str (bl_letO 3 (pn_eo (pn_lst pvs_nil)) ?_)
  refine bl_ifRT (Φ := fun _ Γ => ∃ o', Pool o' ∧ Γ = [some (.ow o'), some (.st (.int (n : Int))), some (.st (.str sLow)), some (.ow (.lst [])), none, none, none, none, none]) (tv_c1 (g := fun _ _ => .int 1) op_eq (ev_draw 0 Nd hr (by omega) rfl hp pv_int (by decide)) (fun _ _ _ => pv_int) ?_) ?_ ?_
  · rintro d Γ1 ⟨r, o', rfl, _, _, hp', rfl⟩
    exact ⟨_, sc_eqI, o', hp', rfl⟩
  · rintro Γ' ⟨o1, hp1, rfl⟩
    -- stem
    refine bl_set 4 (Φ := fun d Γ => ∃ z o', d = .str z ∧ KName z ∧ z.length ≤ 6 ∧ Pool o' ∧ Γ = [some (.ow o'), some (.st (.int (n : Int))), some (.st (.str sLow)), some (.ow (.lst [])), none, none, none, none, none])
      (ev_callO (U := fun _ _ _ => False) 0 Nw hr (by omega) takes_none rfl (av_one (Ψ := fun ds Γ => ∃ (r : Nat) (o' : O), r ≤ 5 ∧ ds = [.int ((1 + r : Nat) : Int)] ∧ Pool o' ∧ Γ = [some (.ow o'), some (.st (.int (n : Int))), some (.st (.str sLow)), some (.ow (.lst [])), none, none, none, none, none])
        (ev_b1 (Φ := fun d Γ => ∃ (r : Nat) (o' : O), r ≤ 5 ∧ d = .int ((1 + r : Nat) : Int) ∧ Pool o' ∧ Γ = [some (.ow o'), some (.st (.int (n : Int))), some (.st (.str sLow)), some (.ow (.lst [])), none, none, none, none, none]) op_add pv_int (ev_draw 0 Nd hr (by omega) rfl hp1 pv_int (by decide)) ?_) ?_) ?_) ?_
    · rintro d2 Γ2 ⟨r, o', rfl, g1, g2, g3, rfl⟩
      obtain ⟨m, rfl⟩ := nat_of g1
      exact ⟨_, sc_add, m, o', by omega, by congr 1, g3, rfl⟩
    · rintro d Γ1 ⟨r, o', g1, rfl, g3, rfl⟩
      exact ⟨r, o', g1, rfl, g3, rfl⟩
    · rintro ds Γ1 ⟨r, o', g1, rfl, g3, rfl⟩
      refine ⟨o', rfl, ⟨g3, 1 + r, rfl, by omega, by omega⟩, ?_, fun _ _ _ z => z.elim⟩
      rintro bb o2 ⟨h1, z, rfl, h3, h4⟩
      injection h4 with h4 _
      injection h4 with h4
      exact ⟨_, .inl rfl, z, o2, rfl, h3, by omega, h1, rfl⟩
    · rintro d Γ' ⟨z, o2, rfl, hz, hzl, hp2, rfl⟩
      -- place
      refine bl_set 5 (ev_draw (m := (z.length : Int) + 1) 0 Nd hr (by omega) rfl hp2 (pv_b op_add (pv_lenS (pv_var 4) (Nat.le_trans hz.2.1 (by decide)) b.len) pv_int sc_add) (by omega)) ?_
      rintro d Γ' ⟨r, o3, rfl, g1, g2, hp3, rfl⟩
      obtain ⟨p, rfl⟩ := nat_of g1
      have hpl : p ≤ z.length := by omega
      -- shift
      refine bl_set 6 (ev_draw (m := 26) 0 Nd hr (by omega) rfl hp3 pv_int (by decide)) ?_
      rintro d Γ' ⟨r, o4, rfl, g1, g2, hp4, rfl⟩
      obtain ⟨sh, rfl⟩ := nat_of g1
      -- for
      refine bl_for (fun ds i Γ => ds = rng 0 n ∧ ∃ (ns : List Str) (kk : Option B), ns.length = i ∧ (∀ (j : Nat) (y : Str), ns[j]? = some y → cdl y = (cdl z).take p ++ letN j sh :: (cdl z).drop p) ∧ Γ = [some (.ow o4), some (.st (.int (n : Int))), some (.st (.str sLow)), some (.ow (.lst (ns.map .str))), some (.st (.str z)), some (.st (.int (p : Int))), some (.st (.int (sh : Int))), kk, none])
        (wv (wp_rng (pv_var 1) (by omega) b.range)) (gv_name 7 nd) ?_ ?_ ?_ (passes_of rfl)
      · rintro ds Γ1 ⟨rfl, rfl⟩
        exact ⟨rfl, [], _, rfl, (fun j y h => by cases h), rfl⟩
      · rintro ds i d Γ1 hdi ⟨rfl, ns, kk, hns, hall, rfl⟩
        obtain ⟨hi, rfl⟩ := rng_at hdi
        have hm : (3 * (0 + (i : Int)) + (sh : Int)).fmod 26 = (((3 * i + sh) % 26 : Nat) : Int) := by
          rw [Int.fmod_eq_emod_of_nonneg _ (by decide)]
          omega
        have c1 : (cutS z none (some (p : Int))).length ≤ 6 := by
          rw [← cdl_len, cdl_take, List.length_take, cdl_len]; omega
        have c2 : (cutS z (some (p : Int)) none).length ≤ 6 := by
          rw [← cdl_len, cdl_drop, List.length_drop, cdl_len]; omega
        have c3 : (cutS z none (some (p : Int)) ++ (⟨#[97 + (3 * i + sh) % 26]⟩ : Str)).length ≤ 7 := by
          rw [slen_app]
          have : (⟨#[97 + (3 * i + sh) % 26]⟩ : Str).length = 1 := rfl
          omega
        refine ⟨_, rfl, bl_append (Φ := Is (.str (cutS z none (some (p : Int)) ++ (⟨#[97 + (3 * i + sh) % 26]⟩ : Str) ++ cutS z (some (p : Int)) none)) _) 3 rfl (pv_ev (pv_b op_add_str (pv_b op_add_str (pv_cutS (pv_var 4) (Nat.le_trans hz.2.1 (by decide)) pp_none (pp_some (pv_var 5)))
          (pv_s ix_str (pv_var 2) (pv_is (pv_b op_modN (pv_intI (pv_b op_add (pv_b op_mul pv_int (pv_var 7) (sc_mulL (by decide))) (pv_var 6) sc_add) b.int) pv_int (sc_modN (by decide))) (congrArg D.int hm)) (sc_ixS (by decide) (low_at' _ (Nat.mod_lt _ (by decide))))) (sc_addS (Nat.le_trans (Nat.add_le_add c1 (Nat.le_refl 1)) (by decide))))
          (pv_cutS (pv_var 4) (Nat.le_trans hz.2.1 (by decide)) (pp_some (pv_var 5)) pp_none) (sc_addS (Nat.le_trans (Nat.add_le_add c3 c2) (by decide))))) ?_⟩
        rintro d Γ' ⟨rfl, rfl⟩
        refine ⟨_, rfl, by rw [List.length_map]; omega, bl_nil ⟨rfl, ns ++ [_], _, by rw [List.length_append, hns]; rfl, fun j y h => ?_, by rw [List.map_append]; rfl⟩⟩
        by_cases q : j < ns.length
        · rw [List.getElem?_append_left q] at h
          exact hall j y h
        · rw [List.getElem?_append_right (by omega)] at h
          have jz : j - ns.length = 0 := by
            by_cases t : j - ns.length = 0
            · exact t
            · rw [List.getElem?_eq_none (by simp; omega)] at h
              cases h
          rw [jz] at h
          cases h
          have : j = i := by omega
          subst this
          rw [cdl_app, cdl_app, cdl_take, cdl_drop]
          show _ ++ [97 + (3 * j + sh) % 26] ++ _ = _
          rw [List.append_assoc]
          rfl
      · rintro ds Γ1 ⟨rfl, ns, kk, hns, hall, rfl⟩
        rw [rng_len] at hns
        refine bl_retV 3 rfl ⟨o4, rfl, hp4, ns, rfl, ?_, fun y hy => ?_, by rw [hns]⟩
        · refine List.pairwise_iff_getElem.mpr fun i j hi hj hij q => ?_
          have h1 := hall i _ (List.getElem?_eq_getElem hi)
          have h2 := hall j _ (List.getElem?_eq_getElem hj)
          rw [q, h2] at h1
          have h3 := List.append_cancel_left h1
          injection h3 with h3 _
          have := letN_inj (by omega) (by omega) h3
          omega
        · obtain ⟨j, hj⟩ := List.getElem?_of_mem hy
          exact stem_name hz hzl hpl ⟨by unfold letN; omega, by unfold letN; omega⟩ (hall j y hj)
  · rintro Γ' ⟨o1, hp1, rfl⟩
    refine bl_for (fun ds i Γ => ds = rng 0 n ∧ ∃ (ns : List Str) (o' : O) (kk sz : Option B), Pool o' ∧ ns.length = i ∧ ns.Nodup ∧ (∀ z ∈ ns, KName z) ∧ Γ = [some (.ow o'), some (.st (.int (n : Int))), some (.st (.str sLow)), some (.ow (.lst (ns.map .str))), none, none, none, kk, sz])
      (wv (wp_rng (pv_var 1) (by omega) b.range)) (gv_name 7 nd) ?_ ?_ ?_ (passes_of rfl)
    · rintro ds Γ1 ⟨rfl, rfl⟩
      exact ⟨rfl, [], o1, _, _, hp1, rfl, .nil, (fun j y => by cases y), rfl⟩
    · rintro ds i d Γ1 hdi ⟨rfl, ns, o2, kk, sz, hp2, hns, hnd, hall, rfl⟩
      obtain ⟨hi, rfl⟩ := rng_at hdi
      refine ⟨_, rfl, bl_set 8 (Φ := fun d Γ => ∃ (r : Nat) (o' : O), r ≤ 4 ∧ d = .int ((1 + r : Nat) : Int) ∧ Pool o' ∧ Γ = [some (.ow o'), some (.st (.int (n : Int))), some (.st (.str sLow)), some (.ow (.lst (ns.map .str))), none, none, none, some (.st (.int (0 + (i : Int)))), sz])
        (ev_b1 op_add pv_int (ev_draw 0 Nd hr (by omega) rfl hp2 pv_int (by decide)) ?_) ?_⟩
      · rintro d2 Γ2 ⟨r, o', rfl, g1, g2, g3, rfl⟩
        obtain ⟨m, rfl⟩ := nat_of g1
        exact ⟨_, sc_add, m, o', by omega, by congr 1, g3, rfl⟩
      · rintro d Γ' ⟨r, o3, hr5, rfl, hp3, rfl⟩
        refine bl_if (Φ := fun _ Γ => ∃ o', Pool o' ∧ Γ = [some (.ow o'), some (.st (.int (n : Int))), some (.st (.str sLow)), some (.ow (.lst (ns.map .str))), none, none, none, some (.st (.int (0 + (i : Int)))), some (.st (.int ((1 + r : Nat) : Int)))])
          (fun Γ => ∃ (o' : O) (m : Nat), Pool o' ∧ 1 ≤ m ∧ (m ≤ 5 ∨ m = 24) ∧ Γ = [some (.ow o'), some (.st (.int (n : Int))), some (.st (.str sLow)), some (.ow (.lst (ns.map .str))), none, none, none, some (.st (.int (0 + (i : Int)))), some (.st (.int (m : Int)))])
          (tv_c1 (g := fun _ _ => .int 8) op_eq (ev_draw 0 Nd hr (by omega) rfl hp3 pv_int (by decide)) (fun _ _ _ => pv_int) ?_) ?_ ?_ ?_
        · rintro d Γ1 ⟨r', o', rfl, _, _, hp', rfl⟩
          exact ⟨_, sc_eqI, o', hp', rfl⟩
        · rintro Γ' ⟨o', hp', rfl⟩
          exact bl_let 8 pv_int (bl_nil ⟨o', 24, hp', by omega, .inr rfl, rfl⟩)
        · rintro Γ' ⟨o', hp', rfl⟩
          exact bl_nil ⟨o', 1 + r, hp', by omega, .inl (by omega), rfl⟩
        · rintro Γ' ⟨o4, m, hp4, m1, m2, rfl⟩
          refine bl_append (Φ := fun d Γ => ∃ z o', d = .str z ∧ KName z ∧ z ∉ ns ∧ Pool o' ∧ Γ = [some (.ow o'), some (.st (.int (n : Int))), some (.st (.str sLow)), some (.ow (.lst (ns.map .str))), none, none, none, some (.st (.int (0 + (i : Int)))), some (.st (.int (m : Int)))]) 3 rfl
            (ev_callB 3 Nf hr (by omega) (ev_callO (U := fun _ _ _ => False) (Φ := fun d Γ => ∃ z o', d = .str z ∧ KName z ∧ z.length = m ∧ Pool o' ∧ Γ = [some (.ow o'), some (.st (.int (n : Int))), some (.st (.str sLow)), some (.ow (.lst (ns.map .str))), none, none, none, some (.st (.int (0 + (i : Int)))), some (.st (.int (m : Int)))]) 0 Nw hr (by omega) takes_none rfl (pvs_av (pvs_one (pv_var 8))) ?_) ?_) ?_
          · rintro ds Γ1 ⟨rfl, rfl⟩
            refine ⟨o4, rfl, ⟨hp4, m, rfl, by omega, by omega⟩, ?_, fun _ _ _ z => z.elim⟩
            rintro bb o2 ⟨h1, z, rfl, h3, h4⟩
            injection h4 with h4 _
            injection h4 with h4
            exact ⟨_, .inl rfl, z, o2, rfl, h3, by omega, h1, rfl⟩
          · rintro d Γ1 ⟨z, o', rfl, hz, hzm, hp', rfl⟩
            refine ⟨_, rfl, ⟨z, ns, rfl, ⟨hz, by omega⟩, by omega⟩, ?_, fun _ _ z => z.elim⟩
            rintro bb ⟨z', ns', y, h1, rfl, h3, h4⟩
            injection h1 with _ h1
            injection h1 with h1 _
            injection h1 with h1
            have := strs_inj h1
            subst this
            exact ⟨_, rfl, rfl, y, o', rfl, h3, h4, hp', rfl⟩
          · rintro d Γ' ⟨y, o', rfl, hy, hyn, hp', rfl⟩
            refine ⟨_, rfl, by rw [List.length_map]; omega, bl_nil ⟨rfl, ns ++ [y], o', _, _, hp', by rw [List.length_append, hns]; rfl, ?_, fun x hx => ?_, by rw [List.map_append]; rfl⟩⟩
            · exact List.nodup_append.mpr ⟨hnd, by simp, fun a ha c hc q => hyn (by rw [← List.mem_singleton.mp hc, ← q]; exact ha)⟩
            · rcases List.mem_append.mp hx with q | q
              · exact hall x q
              · rw [List.mem_singleton.mp q]; exact hy
    · rintro ds Γ1 ⟨rfl, ns, o2, kk, sz, hp2, hns, hnd, hall, rfl⟩
      rw [rng_len] at hns
      exact bl_retV 3 rfl ⟨o2, rfl, hp2, ns, rfl, hnd, hall, by rw [hns]⟩
end
end Kf
end
section
set_option maxRecDepth 100000
set_option maxHeartbeats 4000000
/-! KfL4: the generators of pairs. -/
namespace Kf
open PySem L2

abbrev sI (n : Int) : Option B := some (.st (.int n))
abbrev sD (d : D) : Option B := some (.st d)
abbrev sO (o : O) : Option B := some (.ow o)
abbrev sL (l : List D) : Option B := some (.ow (.lst l))
def natsD (l : List Nat) : List D := l.map fun (n : Nat) => D.int (n : Int)
def pairD (p : Nat × Nat) : D := .tup [.int (p.1 : Int), .int (p.2 : Int)]
def pairsD (ps : List (Nat × Nat)) : List D := ps.map pairD
theorem natsD_app (a b : List Nat) : natsD (a ++ b) = natsD a ++ natsD b := List.map_append
theorem pairsD_app (a b : List (Nat × Nat)) : pairsD (a ++ b) = pairsD a ++ pairsD b := List.map_append
theorem natsD_len (a : List Nat) : (natsD a).length = a.length := List.length_map _
theorem pairsD_len (a : List (Nat × Nat)) : (pairsD a).length = a.length := List.length_map _
/-- in range, with a rank -/
theorem rng_at0 {n i : Nat} {d : D} (h : (rng 0 n)[i]? = some d) : i < n ∧ d = .int (i : Int) := by
  obtain ⟨h1, h2⟩ := rng_at h
  exact ⟨h1, by rw [h2, Int.zero_add]⟩
theorem rng_atN {lo n i : Nat} {d : D} (h : (rng (lo : Int) n)[i]? = some d) : i < n ∧ d = .int ((lo + i : Nat) : Int) := by
  obtain ⟨h1, h2⟩ := rng_at h
  exact ⟨h1, by rw [h2]; rfl⟩
def PsOk (n : Nat) (ps : List (Nat × Nat)) : Prop := (∀ p ∈ ps, p.1 < n ∧ p.2 < n) ∧ ∃ rk : Nat → Int, ∀ p ∈ ps, rk p.1 < rk p.2
def PsUp (n : Nat) (ps : List (Nat × Nat)) : Prop := ∀ p ∈ ps, p.1 < p.2 ∧ p.2 < n
theorem psOk_up {n : Nat} {ps : List (Nat × Nat)} (h : PsUp n ps) : PsOk n ps := ⟨fun p hp => ⟨by have := h p hp; omega, (h p hp).2⟩, fun x => (x : Int), fun p hp => by have := (h p hp).1; show (p.1 : Int) < (p.2 : Int); omega⟩
theorem psUp_nil {n : Nat} : PsUp n [] := fun p hp => by cases hp
theorem psUp_app {n : Nat} {ps : List (Nat × Nat)} (h : PsUp n ps) {a b : Nat} (h1 : a < b) (h2 : b < n) : PsUp n (ps ++ [(a, b)]) := fun p hp => by
  rcases List.mem_append.mp hp with q | q
  · exact h p q
  · rw [List.mem_singleton.mp q]; exact ⟨h1, h2⟩
section
variable {P : Program} {w : World} {K : Fg} {mg : Str → Option Value} {base : Heap}
/-! ### mixed places -/
def cPlaces : Fo where
  pre o ds := Pool o ∧ ∃ n : Nat, ds = [.int (n : Int)] ∧ n ≤ 100
  post o ds b o' := Pool o' ∧ ∃ l : List Nat, b = .ow (.lst (natsD l)) ∧ l.Nodup ∧ (∀ x ∈ l, x < l.length) ∧ ds = [.int (l.length : Int)]
abbrev s_places : Stmt := top 47
theorem scPlaces : FnScope ["pool", "count", "places", "k"] ["pool", "count"] (defScope s_places) := ⟨rfl, rfl, rfl, by decide +kernel, rfl, by decide +kernel, by decide +kernel⟩
theorem ok_places {f : Addr} {fd : FuncData} (F : FunS K "_law_mixed_places" s_places f fd) (b : Bi mg) (Nd : Dy P w K mg base "_law_draw" 1 cDraw) : FnOk P w K mg base (L2.CX P w) 2 f fd ["pool", "count"] (spO K cPlaces) := by
  refine fo_ok F scPlaces (fun o ds ⟨_, n, h, _⟩ => by rw [h]; rfl) fun cdv A outer s e E o ds ⟨hp, n, hd, n26⟩ hr tk => ?_
  subst hd
  have nd := scPlaces.nd
  refine bl_letO 2 (pn_eo (pn_lst pvs_nil)) ?_
  refine bl_for (fun ds i Γ => ds = rng 0 n ∧ ∃ (l : List Nat) (o' : O) (kk : Option B), Pool o' ∧ l.length = i ∧ l.Nodup ∧ (∀ x ∈ l, x < i) ∧ Γ = [sO o', sI n, sL (natsD l), kk]) (wv (wp_rng (pv_var 1) (by omega) b.range)) (gv_name 3 nd) ?_ ?_ ?_ (passes_of rfl)
  · rintro ds Γ1 ⟨rfl, rfl⟩
    exact ⟨rfl, [], o, _, hp, rfl, .nil, (fun j y => by cases y), rfl⟩
  · rintro ds i d Γ1 hdi ⟨rfl, l, o2, kk, hp2, hl, hnd, hall, rfl⟩
    obtain ⟨hi, rfl⟩ := rng_at0 hdi
    refine ⟨_, rfl, bl_insert (Φ := fun ds Γ => ∃ (r : Nat) (o' : O), r ≤ i ∧ ds = [.int (r : Int), .int ((i : Int))] ∧ Pool o' ∧ Γ = [sO o', sI n, sL (natsD l), sI ((i : Int))]) 2 rfl (av_cons (Φb := fun d Γ => Is [.int ((i : Int))] Γ) (ev_draw (m := (i : Int) + 1) 0 Nd hr (by omega) rfl hp2 (pv_b op_add (pv_var 3) pv_int sc_add) (by omega)) ?_ ?_) ?_⟩
    · rintro d Γ1 ⟨r, o', rfl, g1, g2, g3, rfl⟩
      exact pvs_av (pvs_one (pv_var 3))
    · rintro d Γ1 ds Γ2 ⟨r, o', rfl, g1, g2, g3, rfl⟩ ⟨rfl, rfl⟩
      obtain ⟨m, rfl⟩ := nat_of g1
      exact ⟨m, o', by omega, rfl, g3, rfl⟩
    · rintro ds Γ' ⟨r, o', hri, rfl, hp', rfl⟩
      refine ⟨_, _, _, rfl, rfl, by rw [natsD_len]; omega, by omega, by omega, bl_nil ⟨rfl, l.take r ++ [i] ++ l.drop r, o', sI ((i : Int)), hp', by simp; omega, ?_, fun x hx => ?_, ?_⟩⟩
      · have hp : (l.take r ++ [i] ++ l.drop r).Perm (i :: l) := by
          rw [List.append_assoc]
          have := List.perm_middle (l₁ := l.take r) (a := i) (l₂ := l.drop r)
          rw [List.take_append_drop] at this
          exact this
        rw [hp.nodup_iff, List.nodup_cons]
        exact ⟨fun z => by have := hall i z; omega, hnd⟩
      · rcases List.mem_append.mp hx with q | q
        · rcases List.mem_append.mp q with q | q
          · have := hall x (List.mem_of_mem_take q); omega
          · rw [List.mem_singleton.mp q]; omega
        · have := hall x (List.mem_of_mem_drop q); omega
      · rw [natsD_app, natsD_app]
        show [sO o', sI n, sL ((natsD l).take r ++ [D.int ((i : Int))] ++ (natsD l).drop r), sI ((i : Int))] = _
        unfold natsD
        rw [List.map_take, List.map_drop]
        rfl
  · rintro ds Γ1 ⟨rfl, l, o2, kk, hp2, hl, hnd, hall, rfl⟩
    rw [rng_len] at hl hall
    exact bl_retV 2 rfl ⟨o2, rfl, hp2, l, rfl, hnd, by rw [hl]; exact hall, by rw [hl]⟩
/-! ### free pairs -/
def cFree : Fo where
  pre o ds := Pool o ∧ ∃ n : Nat, ds = [.int (n : Int)] ∧ 1 ≤ n ∧ n ≤ 100
  post o ds b o' := Pool o' ∧ ∃ (n : Nat) (ps : List (Nat × Nat)), ds = [.int (n : Int)] ∧ b = .ow (.lst (pairsD ps)) ∧ PsUp n ps ∧ ps.length ≤ n * n
abbrev s_free : Stmt := top 48
theorem scFree : FnScope ["pool", "count", "pairs", "dense", "high", "low"] ["pool", "count"] (defScope s_free) := ⟨rfl, rfl, rfl, by decide +kernel, rfl, by decide +kernel, by decide +kernel⟩
theorem ok_free {f : Addr} {fd : FuncData} (F : FunS K "_law_free_pairs" s_free f fd) (b : Bi mg) (Nd : Dy P w K mg base "_law_draw" 1 cDraw) : FnOk P w K mg base (L2.CX P w) 2 f fd ["pool", "count"] (spO K cFree) := by
  refine fo_ok F scFree (fun o ds ⟨_, n, h, _⟩ => by rw [h]; rfl) fun cdv A outer s e E o ds ⟨hp, n, hd, n1, n2⟩ hr tk => ?_
  subst hd
  have nd := scFree.nd
  refine bl_letO 2 (pn_eo (pn_lst pvs_nil)) (bl_set 3 (Φ := fun d Γ => ∃ (r : Int) (o' : O), d = .int r ∧ Pool o' ∧ Γ = [sO o', sI n, sL [], none, none, none]) (ev_b1 op_add pv_int (ev_draw 0 Nd hr (by omega) rfl hp pv_int (by decide)) ?_) ?_)
  · rintro d2 Γ2 ⟨r, o', rfl, g1, g2, g3, rfl⟩
    exact ⟨_, sc_add, _, o', rfl, g3, rfl⟩
  rintro d Γ' ⟨dn, o1, rfl, hp1, rfl⟩
  refine bl_for (fun ds i Γ => ds = rng 1 (n - 1) ∧ ∃ (ps : List (Nat × Nat)) (o' : O) (kk k2 : Option B), Pool o' ∧ PsUp n ps ∧ ps.length ≤ i * n ∧ Γ = [sO o', sI n, sL (pairsD ps), sI dn, kk, k2]) (wv (wp_rng2 pv_int (pv_var 1) (by omega) b.range)) (gv_name 4 nd) ?_ ?_ ?_ (passes_of rfl)
  · rintro ds Γ1 ⟨rfl, rfl⟩
    exact ⟨by congr 1; omega, [], o1, _, _, hp1, psUp_nil, by simp, rfl⟩
  · rintro ds i d Γ1 hdi ⟨rfl, ps, o2, kk, k2, hp2, hu, hl, rfl⟩
    obtain ⟨hi, rfl⟩ := rng_atN (lo := 1) hdi
    refine ⟨_, rfl, bl_for (fun ds j Γ => ds = rng 0 (1 + i) ∧ ∃ (ps : List (Nat × Nat)) (o' : O) (k2 : Option B), Pool o' ∧ PsUp n ps ∧ ps.length ≤ i * n + j ∧ Γ = [sO o', sI n, sL (pairsD ps), sI dn, sI ((1 + i : Nat) : Int), k2]) (wv (wp_rng (n := 1 + i) (pv_var 4) (by omega) b.range)) (gv_name 5 nd) ?_ ?_ ?_ (passes_of rfl)⟩
    · rintro ds Γ1 ⟨rfl, rfl⟩
      exact ⟨rfl, ps, o2, _, hp2, hu, by omega, rfl⟩
    · rintro ds j d Γ1 hdj ⟨rfl, ps, o3, k2, hp3, hu3, hl3, rfl⟩
      obtain ⟨hj, rfl⟩ := rng_at0 hdj
      refine ⟨_, rfl, bl_if (Φ := fun _ Γ => ∃ o', Pool o' ∧ Γ = [sO o', sI n, sL (pairsD ps), sI dn, sI ((1 + i : Nat) : Int), sI ((j : Int))]) (fun Γ => ∃ (ps : List (Nat × Nat)) (o' : O) (k2 : Option B), Pool o' ∧ PsUp n ps ∧ ps.length ≤ i * n + (j + 1) ∧ Γ = [sO o', sI n, sL (pairsD ps), sI dn, sI ((1 + i : Nat) : Int), k2]) (tv_c1 (g := fun _ _ => .int dn) op_lt (ev_draw 0 Nd hr (by omega) rfl hp3 pv_int (by decide)) ?_ ?_) ?_ ?_ ?_⟩
      · rintro d Γ1 ⟨r, o', rfl, _, _, hp', rfl⟩
        exact pv_var 3
      · rintro d Γ1 ⟨r, o', rfl, _, _, hp', rfl⟩
        exact ⟨_, sc_lt, o', hp', rfl⟩
      · rintro Γ' ⟨o', hp', rfl⟩
        have hin : i * n + (j + 1) ≤ n * n := by
          have : (i + 1) * n ≤ n * n := Nat.mul_le_mul_right n (by omega)
          have e : (i + 1) * n = i * n + n := by rw [Nat.add_mul, Nat.one_mul]
          omega
        have hnn : n * n ≤ 10000 := Nat.mul_le_mul n2 n2
        refine bl_append (Φ := Is (.tup [.int ((j : Int)), .int ((1 + i : Nat) : Int)]) _) 2 rfl (pv_ev (pv_tup (pvs_cons (pv_var 5) (pvs_cons (pv_var 4) pvs_nil)))) ?_
        rintro d Γ' ⟨rfl, rfl⟩
        refine ⟨_, rfl, by rw [pairsD_len]; omega, bl_nil ⟨ps ++ [(j, 1 + i)], o', sI (j : Int), hp', psUp_app hu3 (by omega) (by omega), by rw [List.length_append, List.length_singleton]; omega, ?_⟩⟩
        rw [pairsD_app]
        rfl
      · rintro Γ' ⟨o', hp', rfl⟩
        exact bl_nil ⟨ps, o', _, hp', hu3, by omega, rfl⟩
      · rintro Γ' ⟨ps, o', k2, z⟩
        exact bl_nil ⟨rfl, ps, o', k2, z⟩
    · rintro ds Γ1 ⟨rfl, ps, o3, k2, hp3, hu3, hl3, rfl⟩
      rw [rng_len] at hl3
      refine bl_nil ⟨rfl, ps, o3, _, _, hp3, hu3, ?_, rfl⟩
      rw [Nat.add_mul, Nat.one_mul]
      omega
  · rintro ds Γ1 ⟨rfl, ps, o2, kk, k2, hp2, hu, hl, rfl⟩
    rw [rng_len] at hl
    exact bl_retV 2 rfl ⟨o2, rfl, hp2, n, ps, rfl, rfl, hu, Nat.le_trans hl (Nat.mul_le_mul_right n (by omega))⟩
end
end Kf
end
section
set_option maxRecDepth 100000
set_option maxHeartbeats 4000000
/-! KfL5: crown, tree, layers, diamond. -/
namespace Kf
open PySem L2

section
variable {X : Cx} {e : Ent} {Γ : Gam} {x : Expr} {pos : Pos} {k : Kn} {rest : List Stmt}
theorem bl_appP {n : Str} {p q r : Pos} {d : D} (i : Nat) {l : List D} (h0 : Γ[i]? = some (some (.ow (.lst l)))) (hl : l.length < 100000) (he : PV X e x Γ d) (hr : BL X e rest (Γ.set i (some (.ow (.lst (l ++ [d]))))) k)
    (hN : X.N[i]? = some n := by rfl) (hv : Vis X.env.scope n := by first | exact Or.inl rfl | exact Or.inr (Or.inl rfl) | exact Or.inr (Or.inr rfl)) (h1 : (n == ("__debug__" : Str)) = false := by decide) (h2 : (n == ("__classdict__" : Str)) = false := by decide)
    (hb : attributeBase (.Name n p) "append" X.env (eval (.Name n p) X.env) = eval (.Name n p) X.env := by rfl) (hl2 : (q.endLine == r.line) = true := by rfl) (hs : swapsWith (.Call (.Attribute (.Name n p) "append" q) [x] [] r) none pos.line X.env = pure false := by rfl)
    (hst : starEach [x] X.env = (false, eval x X.env) :: starEach [] X.env := by rfl) (hbm : ∀ {t}, PA X [x] t → PE X (.Call (.Attribute (.Name n p) "append" q) [x] [] r) (tBM X.K "list" rAppend (tVar i) t) := by exact fun h => pe_bm PySem.F.plainAttrs_list PySem.F.slot_list_append PySem.F.type_list_append mt_append (pv _) h) :
    BL X e (.Expr (.Call (.Attribute (.Name n p) "append" q) [x] [] r) pos :: rest) Γ k :=
  bl_append i h0 (pv_ev he) (fun d' Γ' ⟨q1, q2⟩ => by subst q1 q2; exact ⟨l, h0, hl, hr⟩) hN hv h1 h2 hb hl2 hs hst hbm
end
section
variable {P : Program} {w : World} {K : Fg} {mg : Str → Option Value} {base : Heap}
/-! ### crown -/
def cCrown : Fp where
  pre ds := ∃ n : Nat, ds = [.int (n : Int)] ∧ 1 ≤ n ∧ n ≤ 100
  post ds b := ∃ (n : Nat) (ps : List (Nat × Nat)), ds = [.int (n : Int)] ∧ b = .ow (.lst (pairsD ps)) ∧ PsUp (2 * n) ps ∧ ps.length = 2 * n
abbrev s_crown : Stmt := top 49
theorem scCrown : FnScope ["half", "pairs", "k"] ["half"] (defScope s_crown) := ⟨rfl, rfl, rfl, by decide +kernel, rfl, by decide +kernel, by decide +kernel⟩
theorem ok_crown {f : Addr} {fd : FuncData} (F : FunS K "_law_crown" s_crown f fd) (b : Bi mg) : FnOk P w K mg base (L2.CX P w) 1 f fd ["half"] (spP K cCrown) := by
  refine fp_ok F scCrown (fun ds ⟨n, h, _⟩ => by rw [h]; rfl) fun cdv A outer s e E ds ho ⟨n, hd, n1, n2⟩ hr tk => ?_
  subst hd
  have nd := scCrown.nd
  refine bl_letO 1 (pn_eo (pn_lst pvs_nil)) ?_
  refine bl_for (fun ds i Γ => ds = rng 0 n ∧ ∃ (ps : List (Nat × Nat)) (kk : Option B), PsUp (2 * n) ps ∧ ps.length = 2 * i ∧ Γ = [sI n, sL (pairsD ps), kk]) (wv (wp_rng (pv_var 0) (by omega) b.range)) (gv_name 2 nd) ?_ ?_ ?_ (passes_of rfl)
  · rintro ds Γ1 ⟨rfl, rfl⟩
    exact ⟨rfl, [], none, psUp_nil, rfl, rfl⟩
  · rintro ds i d Γ1 hdi ⟨rfl, ps, kk, hu, hl, rfl⟩
    obtain ⟨hi, rfl⟩ := rng_at0 hdi
    have hm : ((i : Int) + 1).fmod (n : Int) = (((i + 1) % n : Nat) : Int) := by
      rw [Int.fmod_eq_emod_of_nonneg _ (by omega)]
      rfl
    have hmn : (i + 1) % n < n := Nat.mod_lt _ (by omega)
    refine ⟨_, rfl, bl_appP 1 rfl (by rw [pairsD_len]; omega) (pv_tup (pvs_cons (pv_var 2) (pvs_cons (pv_b op_add (pv_var 0) (pv_var 2) sc_add) pvs_nil))) ?_⟩
    refine bl_appP 1 rfl (by rw [List.length_append, pairsD_len]; simp; omega) (pv_tup (pvs_cons (pv_is (pv_b op_modN (pv_intI (pv_b op_add (pv_var 2) pv_int sc_add) b.int) (pv_var 0) (sc_modN (by omega))) (congrArg D.int hm)) (pvs_cons (pv_b op_add (pv_var 0) (pv_var 2) sc_add) pvs_nil))) ?_
    refine bl_nil ⟨rfl, ps ++ [(i, n + i)] ++ [((i + 1) % n, n + i)], sI (i : Int), psUp_app (psUp_app hu (by omega) (by omega)) (by omega) (by omega), by rw [List.length_append, List.length_append, List.length_singleton, List.length_singleton]; omega, ?_⟩
    rw [pairsD_app, pairsD_app]
    rfl
  · rintro ds Γ1 ⟨rfl, ps, kk, hu, hl, rfl⟩
    rw [rng_len] at hl
    exact bl_retV 1 rfl (hz := .inl ho) ⟨n, ps, rfl, rfl, hu, hl⟩
/-! ### tree -/
def cTree : Fo where
  pre o ds := Pool o ∧ ∃ n : Nat, ds = [.int (n : Int)] ∧ 1 ≤ n ∧ n ≤ 100
  post o ds b o' := Pool o' ∧ ∃ (n : Nat) (ps : List (Nat × Nat)), ds = [.int (n : Int)] ∧ b = .ow (.lst (pairsD ps)) ∧ PsOk n ps ∧ ps.length ≤ n
abbrev s_tree : Stmt := top 50
theorem scTree : FnScope ["pool", "count", "pairs", "k", "other"] ["pool", "count"] (defScope s_tree) := ⟨rfl, rfl, rfl, by decide +kernel, rfl, by decide +kernel, by decide +kernel⟩
theorem psOk_new {n : Nat} {ps : List (Nat × Nat)} (h : PsOk n ps) {r : Nat} (hr : r < n) : PsOk (n + 1) (ps ++ [(r, n)]) ∧ PsOk (n + 1) (ps ++ [(n, r)]) := by
  obtain ⟨h1, rk, h2⟩ := h
  constructor
  · refine ⟨fun p hp => ?_, fun x => if x = n then rk r + 1 else rk x, fun p hp => ?_⟩
    · rcases List.mem_append.mp hp with q | q
      · have := h1 p q; omega
      · rw [List.mem_singleton.mp q]; exact ⟨by show r < n + 1; omega, by show n < n + 1; omega⟩
    · rcases List.mem_append.mp hp with q | q
      · have := h1 p q
        have := h2 p q
        show (if p.1 = n then rk r + 1 else rk p.1) < (if p.2 = n then rk r + 1 else rk p.2)
        rw [if_neg (by omega), if_neg (by omega)]
        assumption
      · rw [List.mem_singleton.mp q]
        show (if r = n then rk r + 1 else rk r) < (if n = n then rk r + 1 else rk n)
        rw [if_neg (by omega), if_pos rfl]
        omega
  · refine ⟨fun p hp => ?_, fun x => if x = n then rk r - 1 else rk x, fun p hp => ?_⟩
    · rcases List.mem_append.mp hp with q | q
      · have := h1 p q; omega
      · rw [List.mem_singleton.mp q]; exact ⟨by show n < n + 1; omega, by show r < n + 1; omega⟩
    · rcases List.mem_append.mp hp with q | q
      · have := h1 p q
        have := h2 p q
        show (if p.1 = n then rk r - 1 else rk p.1) < (if p.2 = n then rk r - 1 else rk p.2)
        rw [if_neg (by omega), if_neg (by omega)]
        assumption
      · rw [List.mem_singleton.mp q]
        show (if n = n then rk r - 1 else rk n) < (if r = n then rk r - 1 else rk r)
        rw [if_neg (by omega : ¬ r = n), if_pos rfl]
        omega
theorem ok_tree {f : Addr} {fd : FuncData} (F : FunS K "_law_tree" s_tree f fd) (b : Bi mg) (Nd : Dy P w K mg base "_law_draw" 1 cDraw) : FnOk P w K mg base (L2.CX P w) 2 f fd ["pool", "count"] (spO K cTree) := by
  refine fo_ok F scTree (fun o ds ⟨_, n, h, _⟩ => by rw [h]; rfl) fun cdv A outer s e E o ds ⟨hp, n, hd, n1, n2⟩ hr tk => ?_
  subst hd
  have nd := scTree.nd
  refine bl_letO 2 (pn_eo (pn_lst pvs_nil)) ?_
  refine bl_for (fun ds i Γ => ds = rng (1 : Nat) (n - 1) ∧ ∃ (ps : List (Nat × Nat)) (o' : O) (kk k2 : Option B), Pool o' ∧ PsOk (1 + i) ps ∧ ps.length = i ∧ Γ = [sO o', sI n, sL (pairsD ps), kk, k2]) (wv (wp_rng2 pv_int (pv_var 1) (by omega) b.range)) (gv_name 3 nd) ?_ ?_ ?_ (passes_of rfl)
  · rintro ds Γ1 ⟨rfl, rfl⟩
    exact ⟨by congr 1; omega, [], o, none, none, hp, psOk_up psUp_nil, rfl, rfl⟩
  · rintro ds i d Γ1 hdi ⟨rfl, ps, o2, kk, k2, hp2, hu, hl, rfl⟩
    obtain ⟨hi, rfl⟩ := rng_atN hdi
    refine ⟨_, rfl, bl_set 4 (ev_draw (m := ((1 + i : Nat) : Int)) 0 Nd hr (by omega) rfl hp2 (pv_var 3) (by omega)) ?_⟩
    rintro d Γ' ⟨r, o3, rfl, g1, g2, hp3, rfl⟩
    obtain ⟨r, rfl⟩ := nat_of g1
    have hri : r < 1 + i := by omega
    obtain ⟨ha, hb⟩ := psOk_new hu hri
    refine bl_if (Φ := fun _ Γ => ∃ o', Pool o' ∧ Γ = [sO o', sI n, sL (pairsD ps), sI ((1 + i : Nat) : Int), sI (r : Int)]) (fun Γ => ∃ (ps : List (Nat × Nat)) (o' : O) (kk k2 : Option B), Pool o' ∧ PsOk (1 + (i + 1)) ps ∧ ps.length = i + 1 ∧ Γ = [sO o', sI n, sL (pairsD ps), kk, k2]) (tv_c1 (g := fun _ _ => .int 1) op_eq (ev_draw 0 Nd hr (by omega) rfl hp3 pv_int (by decide)) (fun _ _ _ => pv_int) ?_) ?_ ?_ ?_
    · rintro d Γ1 ⟨r, o', rfl, _, _, hp', rfl⟩
      exact ⟨_, sc_eqI, o', hp', rfl⟩
    · rintro Γ' ⟨o', hp', rfl⟩
      refine bl_appP 2 rfl (by rw [pairsD_len]; omega) (pv_tup (pvs_cons (pv_var 4) (pvs_cons (pv_var 3) pvs_nil))) (bl_nil ⟨ps ++ [(r, 1 + i)], o', sI ((1 + i : Nat) : Int), sI (r : Int), hp', ha, by rw [List.length_append, hl]; rfl, ?_⟩)
      rw [pairsD_app]
      rfl
    · rintro Γ' ⟨o', hp', rfl⟩
      refine bl_appP 2 rfl (by rw [pairsD_len]; omega) (pv_tup (pvs_cons (pv_var 3) (pvs_cons (pv_var 4) pvs_nil))) (bl_nil ⟨ps ++ [(1 + i, r)], o', sI ((1 + i : Nat) : Int), sI (r : Int), hp', hb, by rw [List.length_append, hl]; rfl, ?_⟩)
      rw [pairsD_app]
      rfl
    · rintro Γ' h
      exact bl_nil ⟨rfl, h⟩
  · rintro ds Γ1 ⟨rfl, ps, o2, kk, k2, hp2, hu, hl, rfl⟩
    rw [rng_len] at hl hu
    exact bl_retV 2 rfl ⟨o2, rfl, hp2, n, ps, rfl, rfl, by rw [show 1 + (n - 1) = n by omega] at hu; exact hu, by omega⟩
/-! ### layers -/
def cLayers : Fp where
  pre ds := ∃ n m : Nat, ds = [.int (n : Int), .int (m : Int)] ∧ n ≤ 100 ∧ m ≤ 100
  post ds b := ∃ (n m : Nat) (ps : List (Nat × Nat)), ds = [.int (n : Int), .int (m : Int)] ∧ b = .ow (.lst (pairsD ps)) ∧ PsUp (n + m) ps ∧ ps.length = n * m
abbrev s_layers : Stmt := top 51
theorem scLayers : FnScope ["one", "two", "pairs", "low", "high"] ["one", "two"] (defScope s_layers) := ⟨rfl, rfl, rfl, by decide +kernel, rfl, by decide +kernel, by decide +kernel⟩
theorem ok_layers {f : Addr} {fd : FuncData} (F : FunS K "_law_layers" s_layers f fd) (b : Bi mg) : FnOk P w K mg base (L2.CX P w) 1 f fd ["one", "two"] (spP K cLayers) := by
  refine fp_ok F scLayers (fun ds ⟨n, m, h, _⟩ => by rw [h]; rfl) fun cdv A outer s e E ds ho ⟨n, m, hd, n1, n2⟩ hr tk => ?_
  subst hd
  have nd := scLayers.nd
  refine bl_letO (hz := .inl ho) 2 (pn_eo (pn_lst pvs_nil)) ?_
  refine bl_for (fun ds i Γ => ds = rng 0 n ∧ ∃ (ps : List (Nat × Nat)) (kk k2 : Option B), PsUp (n + m) ps ∧ ps.length = i * m ∧ Γ = [sI n, sI m, sL (pairsD ps), kk, k2]) (wv (wp_rng (pv_var 0) (by omega) b.range)) (gv_name 3 nd) ?_ ?_ ?_ (passes_of rfl)
  · rintro ds Γ1 ⟨rfl, rfl⟩
    exact ⟨rfl, [], none, none, psUp_nil, by simp, rfl⟩
  · rintro ds i d Γ1 hdi ⟨rfl, ps, kk, k2, hu, hl, rfl⟩
    obtain ⟨hi, rfl⟩ := rng_at0 hdi
    refine ⟨_, rfl, bl_for (fun ds j Γ => ds = rng 0 m ∧ ∃ (ps : List (Nat × Nat)) (k2 : Option B), PsUp (n + m) ps ∧ ps.length = i * m + j ∧ Γ = [sI n, sI m, sL (pairsD ps), sI (i : Int), k2]) (wv (wp_rng (pv_var 1) (by omega) b.range)) (gv_name 4 nd) ?_ ?_ ?_ (passes_of rfl)⟩
    · rintro ds Γ1 ⟨rfl, rfl⟩
      exact ⟨rfl, ps, k2, hu, hl, rfl⟩
    · rintro ds j d Γ1 hdj ⟨rfl, ps, k2, hu, hl, rfl⟩
      obtain ⟨hj, rfl⟩ := rng_at0 hdj
      have : i * m ≤ 10000 := Nat.mul_le_mul (show i ≤ 100 by omega) n2
      refine ⟨_, rfl, bl_appP 2 rfl (by rw [pairsD_len]; omega) (pv_tup (pvs_cons (pv_var 3) (pvs_cons (pv_b op_add (pv_var 0) (pv_var 4) sc_add) pvs_nil))) ?_⟩
      refine bl_nil ⟨rfl, ps ++ [(i, n + j)], sI (j : Int), psUp_app hu (by omega) (by omega), by rw [List.length_append, List.length_singleton]; omega, ?_⟩
      rw [pairsD_app]
      rfl
    · rintro ds Γ1 ⟨rfl, ps, k2, hu, hl, rfl⟩
      rw [rng_len] at hl
      exact bl_nil ⟨rfl, ps, _, k2, hu, by rw [hl, Nat.add_mul, Nat.one_mul], rfl⟩
  · rintro ds Γ1 ⟨rfl, ps, kk, k2, hu, hl, rfl⟩
    rw [rng_len] at hl
    exact bl_retV 2 rfl (hz := .inl ho) ⟨n, m, ps, rfl, rfl, hu, hl⟩
/-! ### diamond -/
def cDia : Fp where
  pre ds := ∃ n : Nat, ds = [.int (n : Int)] ∧ 1 ≤ n ∧ n ≤ 100
  post ds b := ∃ (n : Nat) (ps : List (Nat × Nat)), ds = [.int (n : Int)] ∧ b = .ow (.lst (pairsD ps)) ∧ (∀ p ∈ ps, p.1 ≤ p.2 ∧ p.2 < n) ∧ ps.length ≤ 2 * n
abbrev s_dia : Stmt := top 52
theorem scDia : FnScope ["count", "pairs", "k"] ["count"] (defScope s_dia) := ⟨rfl, rfl, rfl, by decide +kernel, rfl, by decide +kernel, by decide +kernel⟩
theorem ok_dia {f : Addr} {fd : FuncData} (F : FunS K "_law_diamond" s_dia f fd) (b : Bi mg) : FnOk P w K mg base (L2.CX P w) 1 f fd ["count"] (spP K cDia) := by
  refine fp_ok F scDia (fun ds ⟨n, h, _⟩ => by rw [h]; rfl) fun cdv A outer s e E ds ho ⟨n, hd, n1, n2⟩ hr tk => ?_
  subst hd
  have nd := scDia.nd
  refine bl_letO (hz := .inl ho) 1 (pn_eo (pn_lst pvs_nil)) ?_
  refine bl_for (fun ds i Γ => ds = rng (1 : Nat) (n - 1) ∧ ∃ (ps : List (Nat × Nat)) (kk : Option B), (∀ p ∈ ps, p.1 ≤ p.2 ∧ p.2 < n) ∧ ps.length = 2 * i ∧ Γ = [sI n, sL (pairsD ps), kk]) (wv (wp_rng2 pv_int (pv_var 0) (by omega) b.range)) (gv_name 2 nd) ?_ ?_ ?_ (passes_of rfl)
  · rintro ds Γ1 ⟨rfl, rfl⟩
    exact ⟨by congr 1; omega, [], none, (fun p hp => by cases hp), rfl, rfl⟩
  · rintro ds i d Γ1 hdi ⟨rfl, ps, kk, hu, hl, rfl⟩
    obtain ⟨hi, rfl⟩ := rng_atN hdi
    refine ⟨_, rfl, bl_appP 1 rfl (by rw [pairsD_len]; omega) (pv_tup (pvs_cons pv_int (pvs_cons (pv_var 2) pvs_nil))) ?_⟩
    refine bl_appP 1 rfl (by rw [List.length_append, pairsD_len]; simp; omega) (pv_tup (pvs_cons (pv_var 2) (pvs_cons (pv_is (d := .int ((n - 1 : Nat) : Int)) (pv_b op_sub (pv_var 0) pv_int sc_sub) (by congr 1; omega)) pvs_nil))) ?_
    refine bl_nil ⟨rfl, ps ++ [(0, 1 + i)] ++ [(1 + i, n - 1)], sI ((1 + i : Nat) : Int), fun p hp => ?_, by rw [List.length_append, List.length_append, List.length_singleton, List.length_singleton]; omega, ?_⟩
    · rcases List.mem_append.mp hp with q | q
      · rcases List.mem_append.mp q with q | q
        · exact hu p q
        · rw [List.mem_singleton.mp q]; exact ⟨by show 0 ≤ 1 + i; omega, by show 1 + i < n; omega⟩
      · rw [List.mem_singleton.mp q]; exact ⟨by show 1 + i ≤ n - 1; omega, by show n - 1 < n; omega⟩
    · rw [pairsD_app, pairsD_app]
      rfl
  · rintro ds Γ1 ⟨rfl, ps, kk, hu, hl, rfl⟩
    rw [rng_len] at hl
    exact bl_retV 1 rfl (hz := .inl ho) ⟨n, ps, rfl, rfl, hu, by omega⟩
end
end Kf
end
section
set_option maxRecDepth 100000
set_option maxHeartbeats 4000000
/-! KfL6: shape, order_pairs. -/
namespace Kf
open PySem L2

def cN (n : Nat) : D := .int (n : Int)
def uN : D → Nat
  | .int i => i.toNat
  | _ => 0
theorem uN_cN (n : Nat) : uN (cN n) = n := Int.toNat_natCast n
def uP : D → Nat × Nat
  | .tup [.int a, .int b] => (a.toNat, b.toNat)
  | _ => (0, 0)
theorem uP_pairD (p : Nat × Nat) : uP (pairD p) = p := by
  show (((p.1 : Int)).toNat, ((p.2 : Int)).toNat) = p
  rw [Int.toNat_natCast, Int.toNat_natCast]
def uS : D → Str
  | .str z => z
  | _ => ⟨#[]⟩
theorem uS_str (z : Str) : uS (.str z) = z := rfl
theorem rng_nats (n : Nat) : rng 0 n = (List.range n).map cN := by
  unfold rng cN
  apply List.map_congr_left
  intro a _
  show D.int (0 + (a : Int)) = D.int (a : Int)
  rw [Int.zero_add]
theorem blk (N : List Str) (sc : Scope) {scope : Scope} {own : List (Str × Nat)} (h : blkC N sc scope own = true := by decide +kernel) : BlkOk N sc scope own := blkOk_by h
theorem filter_true {α : Type} (l : List α) : l.filter (fun _ => true) = l := List.filter_eq_self.mpr fun _ _ => rfl
section
variable {P : Program} {w : World} {K : Fg} {mg : Str → Option Value} {base : Heap}
def cShape : Fo where
  pre o ds := Pool o ∧ ∃ m : Nat, ds = [.int (m : Int)] ∧ 1 ≤ m ∧ m ≤ 10
  post o ds b o' := Pool o' ∧ ∃ (m n : Nat) (ps : List (Nat × Nat)), ds = [.int (m : Int)] ∧ b = .st (.tup [.int (n : Int), .lst (pairsD ps)]) ∧ 1 ≤ n ∧ n ≤ m ∧ PsOk n ps ∧ ps.length ≤ 200
abbrev s_shape : Stmt := top 53
abbrev nShape : List Str := ["pool", "most", "count", "form", "half", "one", "k", "pair"]
theorem scShape : FnScope nShape ["pool", "most"] (defScope s_shape) := ⟨rfl, rfl, rfl, by decide +kernel, rfl, by decide +kernel, by decide +kernel⟩
theorem ok_shape {f : Addr} {fd : FuncData} (F : FunS K "_law_shape" s_shape f fd) (b : Bi mg) (Nd : Dy P w K mg base "_law_draw" 1 cDraw) (Nc : Dx P w K mg base "_law_crown" 1 cCrown) (Nt : Dy P w K mg base "_law_tree" 2 cTree) (Nl : Dx P w K mg base "_law_layers" 1 cLayers) (Ni : Dx P w K mg base "_law_diamond" 1 cDia) (Nf : Dy P w K mg base "_law_free_pairs" 2 cFree) :
    FnOk P w K mg base (L2.CX P w) 3 f fd ["pool", "most"] (spO K cShape) := by
  refine fo_ok F scShape (fun o ds ⟨_, n, h, _⟩ => by rw [h]; rfl) fun cdv A outer s e E o ds ⟨hp, m, hd, m1, m2⟩ hr tk => ?_
  subst hd
  have nd := scShape.nd
  -- count
  refine bl_set 2 (Φ := fun d Γ => ∃ (r : Nat) (o' : O), d = .int ((1 + r : Nat) : Int) ∧ 1 + r ≤ m ∧ Pool o' ∧ Γ = [sO o', sI m, none, none, none, none, none, none]) (ev_b1 op_add pv_int (ev_draw (m := (m : Int)) 0 Nd hr (by omega) rfl hp (pv_var 1) (by omega)) ?_) ?_
  · rintro d2 Γ2 ⟨r, o', rfl, g1, g2, g3, rfl⟩
    obtain ⟨r, rfl⟩ := nat_of g1
    exact ⟨_, sc_add, r, o', by congr 1, by omega, g3, rfl⟩
  rintro d Γ' ⟨r, o1, rfl, hrm, hp1, rfl⟩
  obtain ⟨n, hn⟩ : ∃ n, n = 1 + r := ⟨_, rfl⟩
  rw [← hn] at hrm ⊢
  have n1 : 1 ≤ n := by omega
  -- form
  refine bl_set 3 (ev_draw (m := 9) 0 Nd hr (by omega) rfl hp1 pv_int (by decide)) ?_
  rintro d Γ' ⟨fm, o2, rfl, _, _, hp2, rfl⟩
  have fin : ∀ (o' : O) (ps : List (Nat × Nat)), Pool o' → PsOk n ps → ps.length ≤ 200 → cShape.post o [.int (m : Int)] (.st (.tup [.int (n : Int), .lst (pairsD ps)])) o' := fun o' ps h1 h2 h3 => ⟨h1, m, n, ps, rfl, rfl, n1, hrm, h2, h3⟩
  -- form == 3
  refine bl_ifR (px_cmp op_eq (pv_var 3) pv_int sc_eqI) (fun _ => bl_retP (d := .tup [.int (n : Int), .lst (pairsD ((List.range (n - 1)).map fun k => (k, k + 1)))]) (pv_tup (pvs_cons (pv_var 2) (pvs_cons (pn_pv (pn_is (o' := .lst (pairsD ((List.range (n - 1)).map fun k => (k, k + 1)))) (pn_lcA (c := cN) (u := uN) (l := List.range (n - 1)) (f := fun k => [sO o2, sI m, sI n, sI fm, none, none, sI k, none]) (own := [("k", 6)]) (ix := [6]) (bind := bName 6) (fun _ => true) (fun k => pairD (k, k + 1)) uN_cN (blk nShape (defScope s_shape)) nd
    (by rw [← rng_nats]; exact wp_rng (pv_is (pv_b op_sub (pv_var 2) pv_int sc_sub) (by congr 1; omega)) (by omega) b.range) (fun s H C cl fp => gv_name 6 nd) (bindOk_name 6) (by decide) (.inr (by decide)) (by rw [List.length_range]; omega) (fun a _ => rfl) (fun a _ s H C cl fp => pts_none) (fun a _ _ s H C cl fp => pv_tup (pvs_cons (pv_var 6) (pvs_cons (pv_b op_add (pv_var 6) pv_int sc_add) pvs_nil)))) ?_)) pvs_nil))) ⟨o2, rfl, fin o2 _ hp2 (psOk_up fun p hp => ?_) ?_⟩) fun _ => ?_
  · rw [filter_true]
    unfold pairsD
    rw [List.map_map]
    rfl
  · obtain ⟨k, hk, rfl⟩ := List.mem_map.mp hp
    rw [List.mem_range] at hk
    exact ⟨Nat.lt_succ_self k, by show k + 1 < n; omega⟩
  · rw [List.length_map, List.length_range]; omega
  -- form == 4 and most >= 4
  refine bl_ifR (px_w (pw_a (px_cmp op_eq (pv_var 3) pv_int sc_eqI) fun _ => pw_a1 (px_cmp op_ge (pv_var 1) pv_int sc_ge))) (fun hc => ?_) fun _ => ?_
  · rw [Bool.and_eq_true] at hc
    have hm4 : (4 : Int) ≤ (m : Int) := of_decide_eq_true hc.2
    refine bl_set 4 (Φ := fun d Γ => ∃ (r : Nat) (o' : O), d = .int ((2 + r : Nat) : Int) ∧ 2 * (2 + r) ≤ m ∧ Pool o' ∧ Γ = [sO o', sI m, sI n, sI fm, none, none, none, none]) (ev_b1 op_add pv_int (ev_draw (m := (m : Int).fdiv 2 - 1) 0 Nd hr (by omega) rfl hp2 (pv_b op_sub (pv_b op_fdivN (pv_var 1) pv_int (sc_divN (by decide) (by decide))) pv_int sc_sub) ?_) ?_) ?_
    · rw [Int.fdiv_eq_ediv_of_nonneg _ (by decide)]; omega
    · rintro d2 Γ2 ⟨r, o', rfl, g1, g2, g3, rfl⟩
      rw [Int.fdiv_eq_ediv_of_nonneg _ (by decide)] at g2
      obtain ⟨r, rfl⟩ := nat_of g1
      exact ⟨_, sc_add, r, o', by congr 1, by omega, g3, rfl⟩
    rintro d Γ' ⟨r, o3, rfl, hr2, hp3, rfl⟩
    refine bl_ret (Φ := fun d Γ => ∃ ps, d = .tup [.int ((2 * (2 + r) : Nat) : Int), .lst (pairsD ps)] ∧ PsUp (2 * (2 + r)) ps ∧ ps.length = 2 * (2 + r) ∧ Γ = [sO o3, sI m, sI n, sI fm, sI ((2 + r : Nat) : Int), none, none, none]) (ev_tup (Φa := fun ds Γ => ∃ ps, ds = [.int ((2 * (2 + r) : Nat) : Int), .lst (pairsD ps)] ∧ PsUp (2 * (2 + r)) ps ∧ ps.length = 2 * (2 + r) ∧ Γ = [sO o3, sI m, sI n, sI fm, sI ((2 + r : Nat) : Int), none, none, none]) (av_two (pv_is (pv_b op_mul pv_int (pv_var 4) (sc_mulL (by decide))) (by congr 1))
      (ev_call (Φ := fun d Γ => ∃ ps, d = .lst (pairsD ps) ∧ PsUp (2 * (2 + r)) ps ∧ ps.length = 2 * (2 + r) ∧ Γ = [sO o3, sI m, sI n, sI fm, sI ((2 + r : Nat) : Int), none, none, none]) (U := fun _ _ _ => False) Nc hr (by omega) takes_none (pvs_av (pvs_one (pv_var 4))) ?_) ?_) ?_) ?_
    · rintro ds Γ1 ⟨rfl, rfl⟩
      refine ⟨⟨2 + r, rfl, by omega, by omega⟩, ?_, fun _ _ z => z.elim⟩
      rintro bb ⟨n', ps, h1, rfl, h3, h4⟩
      injection h1 with h1 _
      injection h1 with h1
      have : 2 + r = n' := by omega
      subst this
      exact ⟨_, .inr ⟨_, rfl, rfl⟩, ps, rfl, h3, h4, rfl⟩
    · rintro d Γ1 ⟨ps, rfl, h3, h4, rfl⟩
      exact ⟨ps, rfl, h3, h4, rfl⟩
    · rintro ds Γ1 ⟨ps, rfl, h3, h4, rfl⟩
      exact ⟨by show 2 ≤ 1000; omega, ps, rfl, h3, h4, rfl⟩
    · rintro d Γ1 ⟨ps, rfl, h3, h4, rfl⟩
      exact ⟨o3, rfl, hp3, m, 2 * (2 + r), ps, rfl, rfl, by omega, hr2, psOk_up h3, by omega⟩
  -- form == 5
  refine bl_ifR (px_cmp op_eq (pv_var 3) pv_int sc_eqI) (fun _ => ?_) fun _ => ?_
  · refine bl_ret (Φ := fun d Γ => ∃ ps o', d = .tup [.int (n : Int), .lst (pairsD ps)] ∧ PsOk n ps ∧ ps.length ≤ 200 ∧ Pool o' ∧ Γ[0]? = some (sO o')) (ev_tup (Φa := fun ds Γ => ∃ ps o', ds = [.int (n : Int), .lst (pairsD ps)] ∧ PsOk n ps ∧ ps.length ≤ 200 ∧ Pool o' ∧ Γ[0]? = some (sO o')) (av_two (pv_var 2)
      (ev_callO (Φ := fun d Γ => ∃ ps o', d = .lst (pairsD ps) ∧ PsOk n ps ∧ ps.length ≤ 200 ∧ Pool o' ∧ Γ[0]? = some (sO o')) (U := fun _ _ _ => False) 0 Nt hr (by omega) takes_none rfl (pvs_av (pvs_one (pv_var 2))) ?_) ?_) ?_) ?_
    · rintro ds Γ1 ⟨rfl, rfl⟩
      refine ⟨o2, rfl, ⟨hp2, n, rfl, n1, by omega⟩, ?_, fun _ _ _ z => z.elim⟩
      rintro bb o' ⟨hp', n', ps, h1, rfl, h3, h4⟩
      injection h1 with h1 _
      injection h1 with h1
      have : n = n' := by omega
      subst this
      exact ⟨_, .inr ⟨_, rfl, rfl⟩, ps, o', rfl, h3, by omega, hp', rfl⟩
    · rintro d Γ1 ⟨ps, o', rfl, h⟩
      exact ⟨ps, o', rfl, h⟩
    · rintro ds Γ1 ⟨ps, o', rfl, h⟩
      exact ⟨by show 2 ≤ 1000; omega, ps, o', rfl, h⟩
    · rintro d Γ1 ⟨ps, o', rfl, h3, h4, h5, h6⟩
      exact ⟨o', h6, fin o' ps h5 h3 h4⟩
  -- form == 6
  refine bl_ifR (px_w (pw_a (px_cmp op_eq (pv_var 3) pv_int sc_eqI) fun _ => pw_a1 (px_cmp op_ge (pv_var 2) pv_int sc_ge))) (fun hc => ?_) fun _ => ?_
  · rw [Bool.and_eq_true] at hc
    have hn2 : (2 : Int) ≤ (n : Int) := of_decide_eq_true hc.2
    refine bl_set 5 (Φ := fun d Γ => ∃ (r : Nat) (o' : O), d = .int ((1 + r : Nat) : Int) ∧ 1 + r ≤ n ∧ Pool o' ∧ Γ = [sO o', sI m, sI n, sI fm, none, none, none, none]) (ev_b1 op_add pv_int (ev_draw (m := (n : Int) - 1) 0 Nd hr (by omega) rfl hp2 (pv_b op_sub (pv_var 2) pv_int sc_sub) (by omega)) ?_) ?_
    · rintro d2 Γ2 ⟨r, o', rfl, g1, g2, g3, rfl⟩
      obtain ⟨r, rfl⟩ := nat_of g1
      exact ⟨_, sc_add, r, o', by congr 1, by omega, g3, rfl⟩
    rintro d Γ' ⟨r, o3, rfl, hr2, hp3, rfl⟩
    refine bl_ret (Φ := fun d Γ => ∃ ps, d = .tup [.int (n : Int), .lst (pairsD ps)] ∧ PsUp n ps ∧ ps.length ≤ 200 ∧ Γ[0]? = some (sO o3)) (ev_tup (Φa := fun ds Γ => ∃ ps, ds = [.int (n : Int), .lst (pairsD ps)] ∧ PsUp n ps ∧ ps.length ≤ 200 ∧ Γ[0]? = some (sO o3)) (av_two (pv_var 2)
      (ev_call (Φ := fun d Γ => ∃ ps, d = .lst (pairsD ps) ∧ PsUp n ps ∧ ps.length ≤ 200 ∧ Γ[0]? = some (sO o3)) (U := fun _ _ _ => False) Nl hr (by omega) takes_none (pvs_av (pvs_cons (pv_var 5) (pvs_cons (pv_is (d := .int ((n - (1 + r) : Nat) : Int)) (pv_b op_sub (pv_var 2) (pv_var 5) sc_sub) (by congr 1; omega)) pvs_nil))) ?_) ?_) ?_) ?_
    · rintro ds Γ1 ⟨rfl, rfl⟩
      refine ⟨⟨1 + r, n - (1 + r), rfl, by omega, by omega⟩, ?_, fun _ _ z => z.elim⟩
      rintro bb ⟨a, c, ps, h1, rfl, h3, h4⟩
      injection h1 with h1 h2
      injection h1 with h1
      injection h2 with h2 _
      injection h2 with h2
      have e1 : 1 + r = a := by omega
      have e2 : n - (1 + r) = c := by omega
      subst e1 e2
      refine ⟨_, .inr ⟨_, rfl, rfl⟩, ps, rfl, by rw [show 1 + r + (n - (1 + r)) = n by omega] at h3; exact h3, ?_, rfl⟩
      rw [h4]
      have := Nat.mul_le_mul (show 1 + r ≤ 10 by omega) (show n - (1 + r) ≤ 10 by omega)
      omega
    · rintro d Γ1 ⟨ps, rfl, h⟩
      exact ⟨ps, rfl, h⟩
    · rintro ds Γ1 ⟨ps, rfl, h⟩
      exact ⟨by show 2 ≤ 1000; omega, ps, rfl, h⟩
    · rintro d Γ1 ⟨ps, rfl, h3, h4, h6⟩
      exact ⟨o3, h6, fin o3 ps hp3 (psOk_up h3) h4⟩
  -- form == 7
  refine bl_ifR (px_w (pw_a (px_cmp op_eq (pv_var 3) pv_int sc_eqI) fun _ => pw_a1 (px_cmp op_ge (pv_var 2) pv_int sc_ge))) (fun hc => ?_) fun _ => ?_
  · rw [Bool.and_eq_true] at hc
    have hn2 : (2 : Int) ≤ (n : Int) := of_decide_eq_true hc.2
    refine bl_ret (Φ := fun d Γ => ∃ ps, d = .tup [.int (n : Int), .lst (pairsD ps)] ∧ PsUp n ps ∧ ps.length ≤ 200 ∧ Γ[0]? = some (sO o2)) (ev_tup (Φa := fun ds Γ => ∃ ps, ds = [.int (n : Int), .lst (pairsD ps)] ∧ PsUp n ps ∧ ps.length ≤ 200 ∧ Γ[0]? = some (sO o2)) (av_two (Φb := fun d Γ => ∃ ps, d = .lst (pairsD ps) ∧ PsUp n ps ∧ ps.length ≤ 200 ∧ Γ[0]? = some (sO o2)) (pv_var 2)
      (ev_frz (Φo := fun o Γ => ∃ ps, o = .lst (pairsD ps) ∧ PsUp n ps ∧ ps.length ≤ 200 ∧ Γ[0]? = some (sO o2)) (eo_lcA (α := Nat × Nat) (c := pairD) (u := uP) (Ψ := fun l Γ1 => (∀ p ∈ l, p.1 ≤ p.2 ∧ p.2 < n) ∧ l.length ≤ 2 * n ∧ Γ1 = [sO o2, sI m, sI n, sI fm, none, none, none, none]) (f := fun _ _ p => [sO o2, sI m, sI n, sI fm, none, none, none, sD (pairD p)]) (own := [("pair", 7)]) (ix := [7]) (bind := bName 7) (fun _ _ p => !decide ((p.1 : Int) = (p.2 : Int))) (fun _ _ p => pairD p) uP_pairD (blk nShape (defScope s_shape)) nd
        (wv_listE (ev_call (Φ := fun d Γ => ∃ l, d = .lst (pairsD l) ∧ (∀ p ∈ l, p.1 ≤ p.2 ∧ p.2 < n) ∧ l.length ≤ 2 * n ∧ Γ = [sO o2, sI m, sI n, sI fm, none, none, none, none]) (U := fun _ _ _ => False) Ni hr (by omega) takes_none (pvs_av (pvs_one (pv_var 2))) ?_) ?_) (fun s H C cl fp => gv_name 7 nd) (bindOk_name 7) (by decide) (.inr (by decide)) ?_ ?_ ?_ ?_ ?_) ?_) ?_) ?_) ?_
    · rintro ds Γ1 ⟨rfl, rfl⟩
      refine ⟨⟨n, rfl, n1, by omega⟩, ?_, fun _ _ z => z.elim⟩
      rintro bb ⟨n', ps, h1, rfl, h3, h4⟩
      injection h1 with h1 _
      injection h1 with h1
      have : n = n' := by omega
      subst this
      exact ⟨_, .inr ⟨_, rfl, rfl⟩, ps, rfl, h3, h4, rfl⟩
    · rintro d Γ1 ⟨l, rfl, h⟩
      exact ⟨_, rfl, l, rfl, h⟩
    · rintro l Γ1 ⟨_, h, _⟩
      omega
    · rintro l Γ1 ⟨_, _, rfl⟩ a ha
      rfl
    · rintro l Γ1 a ⟨_, _, rfl⟩ ha s H C cl fp
      exact pts_if (px_cmp op_ne (pv_s ix_tup (pv_var 7) pv_int (sc_ixT rfl)) (pv_s ix_tup (pv_var 7) pv_int (sc_ixT rfl)) sc_neI)
    · rintro l Γ1 a ⟨_, _, rfl⟩ ha hpa s H C cl fp
      exact pv_var 7
    · rintro l Γ1 ⟨h1, h2, rfl⟩
      refine ⟨l.filter fun p => !decide ((p.1 : Int) = (p.2 : Int)), rfl, fun p hp => ?_, ?_, rfl⟩
      · obtain ⟨h3, h4⟩ := List.mem_filter.mp hp
        have h5 := h1 p h3
        simp at h4
        exact ⟨by omega, h5.2⟩
      · have := List.length_filter_le (fun p : Nat × Nat => !decide ((p.1 : Int) = (p.2 : Int))) l
        omega
    · rintro o Γ1 ⟨ps, rfl, h⟩
      exact ⟨ps, rfl, h⟩
    · rintro d Γ1 ⟨ps, rfl, h⟩
      exact ⟨ps, rfl, h⟩
    · rintro ds Γ1 ⟨ps, rfl, h⟩
      exact ⟨by show 2 ≤ 1000; omega, ps, rfl, h⟩
    · rintro d Γ1 ⟨ps, rfl, h3, h4, h6⟩
      exact ⟨o2, h6, fin o2 ps hp2 (psOk_up h3) h4⟩
  -- form == 8
  refine bl_ifR (px_cmp op_eq (pv_var 3) pv_int sc_eqI) (fun _ => ?_) fun _ => ?_
  · refine bl_ret (Φ := fun d Γ => ∃ ps o', d = .tup [.int (n : Int), .lst (pairsD ps)] ∧ PsUp n ps ∧ ps.length ≤ 200 ∧ Pool o' ∧ Γ[0]? = some (sO o')) (ev_tup (Φa := fun ds Γ => ∃ ps o', ds = [.int (n : Int), .lst (pairsD ps)] ∧ PsUp n ps ∧ ps.length ≤ 200 ∧ Pool o' ∧ Γ[0]? = some (sO o')) (av_two (Φb := fun d Γ => ∃ ps o', d = .lst (pairsD ps) ∧ PsUp n ps ∧ ps.length ≤ 200 ∧ Pool o' ∧ Γ[0]? = some (sO o')) (pv_var 2)
      (ev_frz (Φo := fun o Γ => ∃ ps o', o = .lst (pairsD ps) ∧ PsUp n ps ∧ ps.length ≤ 200 ∧ Pool o' ∧ Γ[0]? = some (sO o')) (eo_lc (own := [("k", 6)]) (ix := [6]) (bind := bName 6) (Φi := Is (rng 0 (n - 1)) [sO o2, sI m, sI n, sI fm, none, none, none, none])
        (fun Γ => ∃ o' i, Pool o' ∧ i < n - 1 ∧ Γ = [sO o', sI m, sI n, sI fm, none, none, sI (i : Nat), none]) (fun Γ => ∃ o' i, Pool o' ∧ i < n - 1 ∧ Γ = [sO o', sI m, sI n, sI fm, none, none, sI (i : Nat), none])
        (fun Γ _ Γ' => ∃ o' kk, Pool o' ∧ Γ = [Γ[0]?.getD none, sI m, sI n, sI fm, none, none, kk, none] ∧ Γ' = [sO o', sI m, sI n, sI fm, none, none, kk, none]) (fun Γ d Γ' => Γ' = Γ ∧ ∃ i : Nat, Γ[6]? = some (sI (i : Int)) ∧ d = pairD (i, i + 1))
        (fun ds i acc Γ => ds = rng 0 (n - 1) ∧ ∃ ps o', acc = pairsD ps ∧ PsUp n ps ∧ ps.length ≤ i ∧ Pool o' ∧ Γ = [sO o', sI m, sI n, sI fm, none, none, none, none]) (blk nShape (defScope s_shape)) nd
        (wv (wp_rng (pv_is (pv_b op_sub (pv_var 2) pv_int sc_sub) (by congr 1; omega)) (by omega) b.range)) (fun s H C cl fp => gv_name 6 nd) (bindOk_name 6) (by decide) (.inr (by decide)) ?_ ?_ ?_ ?_ ?_) ?_) ?_) ?_) ?_
    · rintro ds Γ1 ⟨rfl, rfl⟩
      exact ⟨by rw [rng_len]; omega, rfl, [], o2, rfl, psUp_nil, Nat.le_refl _, hp2, rfl⟩
    · rintro ds i d acc Γ1 hdi ⟨rfl, ps, o3, rfl, hu, hl, hp3, rfl⟩
      obtain ⟨hi, rfl⟩ := rng_at0 hdi
      refine ⟨_, rfl, ⟨o3, i, hp3, hi, rfl⟩, ?_, ?_⟩
      · rintro Γ3 ⟨o4, kk, hp4, h1, rfl⟩
        have hk : kk = sI (i : Int) := by
          injection h1 with _ h1
          injection h1 with _ h1
          injection h1 with _ h1
          injection h1 with _ h1
          injection h1 with _ h1
          injection h1 with _ h1
          injection h1 with h1 _
          exact h1.symm
        subst hk
        refine ⟨⟨o4, i, hp4, hi, rfl⟩, ?_⟩
        rintro y Γ4 ⟨rfl, i', h2, rfl⟩
        have h2' : (i : Int) = (i' : Int) := by
          injection h2 with h2
          injection h2 with h2
          injection h2 with h2
          injection h2 with h2
        have : i = i' := by omega
        subst this
        exact ⟨rfl, ps ++ [(i, i + 1)], o4, by rw [pairsD_app]; rfl, psUp_app hu (by omega) (by omega), by rw [List.length_append, List.length_singleton]; omega, hp4, rfl⟩
      · rintro Γ3 ⟨o4, kk, hp4, h1, rfl⟩
        exact ⟨rfl, ps, o4, rfl, hu, by omega, hp4, rfl⟩
    · rintro ds acc Γ1 ⟨rfl, ps, o3, rfl, hu, hl, hp3, rfl⟩
      rw [rng_len] at hl
      exact ⟨ps, o3, rfl, hu, by omega, hp3, rfl⟩
    · rintro Γ' ⟨o3, i, hp3, hi, rfl⟩ s H C cl fp
      refine pts_one (tv_c1 (g := fun _ _ => .int 0) op_eq (ev_draw 0 Nd hr (by omega) rfl hp3 pv_int (by decide)) (fun _ _ _ => pv_int) ?_)
      rintro d Γ1 ⟨r, o', rfl, _, _, hp', rfl⟩
      exact ⟨_, sc_eqI, o', _, hp', rfl, rfl⟩
    · rintro Γ' ⟨o3, i, hp3, hi, rfl⟩ s H C cl fp
      exact ev_weak (Φ' := Is (pairD (i, i + 1)) [sO o3, sI m, sI n, sI fm, none, none, sI (i : Nat), none]) (pv_ev (pv_tup (pvs_cons (pv_var 6) (pvs_cons (pv_b op_add (pv_var 6) pv_int sc_add) pvs_nil)))) fun d Γ1 ⟨h1, h2⟩ => by
        subst h1 h2
        exact ⟨rfl, i, rfl, rfl⟩
    · rintro o Γ1 ⟨ps, o', rfl, h⟩
      exact ⟨ps, o', rfl, h⟩
    · rintro d Γ1 ⟨ps, o', rfl, h⟩
      exact ⟨ps, o', rfl, h⟩
    · rintro ds Γ1 ⟨ps, o', rfl, h⟩
      exact ⟨by show 2 ≤ 1000; omega, ps, o', rfl, h⟩
    · rintro d Γ1 ⟨ps, o', rfl, h3, h4, h5, h6⟩
      exact ⟨o', h6, fin o' ps h5 (psOk_up h3) h4⟩
  -- else
  · refine bl_ret (Φ := fun d Γ => ∃ ps o', d = .tup [.int (n : Int), .lst (pairsD ps)] ∧ PsUp n ps ∧ ps.length ≤ 200 ∧ Pool o' ∧ Γ[0]? = some (sO o')) (ev_tup (Φa := fun ds Γ => ∃ ps o', ds = [.int (n : Int), .lst (pairsD ps)] ∧ PsUp n ps ∧ ps.length ≤ 200 ∧ Pool o' ∧ Γ[0]? = some (sO o')) (av_two (pv_var 2)
      (ev_callO (Φ := fun d Γ => ∃ ps o', d = .lst (pairsD ps) ∧ PsUp n ps ∧ ps.length ≤ 200 ∧ Pool o' ∧ Γ[0]? = some (sO o')) (U := fun _ _ _ => False) 0 Nf hr (by omega) takes_none rfl (pvs_av (pvs_one (pv_var 2))) ?_) ?_) ?_) ?_
    · rintro ds Γ1 ⟨rfl, rfl⟩
      refine ⟨o2, rfl, ⟨hp2, n, rfl, n1, by omega⟩, ?_, fun _ _ _ z => z.elim⟩
      rintro bb o' ⟨hp', n', ps, h1, rfl, h3, h4⟩
      injection h1 with h1 _
      injection h1 with h1
      have : n = n' := by omega
      subst this
      have := Nat.mul_le_mul (show n ≤ 10 by omega) (show n ≤ 10 by omega)
      exact ⟨_, .inr ⟨_, rfl, rfl⟩, ps, o', rfl, h3, by omega, hp', rfl⟩
    · rintro d Γ1 ⟨ps, o', rfl, h⟩
      exact ⟨ps, o', rfl, h⟩
    · rintro ds Γ1 ⟨ps, o', rfl, h⟩
      exact ⟨by show 2 ≤ 1000; omega, ps, o', rfl, h⟩
    · rintro d Γ1 ⟨ps, o', rfl, h3, h4, h5, h6⟩
      exact ⟨o', h6, fin o' ps h5 (psOk_up h3) h4⟩
end
end Kf
end
section
set_option maxRecDepth 100000
set_option maxHeartbeats 4000000
/-! KfL7: order_pairs, named. -/
namespace Kf
open PySem L2

theorem atI_nat {α : Type} {l : List α} {n : Nat} {d : α} (h : l[n]? = some d) : atI l (n : Int) = some d := by
  have hl : n < l.length := (List.getElem?_eq_some_iff.mp h).1
  unfold atI ixN
  rw [if_pos (by omega), if_pos (by omega)]
  show l[(n : Int).toNat]? = some d
  rw [Int.toNat_natCast]
  exact h
theorem natsD_at {l : List Nat} {i : Nat} (h : i < l.length) : (natsD l)[i]? = some (.int ((l.getD i 0 : Nat) : Int)) := by
  unfold natsD
  rw [List.getElem?_map, List.getElem?_eq_getElem h, List.getD_eq_getElem?_getD, List.getElem?_eq_getElem h]
  rfl
theorem strs_at {l : List Str} {i : Nat} (h : i < l.length) : (l.map D.str)[i]? = some (.str (l.getD i ⟨#[]⟩)) := by
  rw [List.getElem?_map, List.getElem?_eq_getElem h, List.getD_eq_getElem?_getD, List.getElem?_eq_getElem h]
  rfl
theorem idx_getD {l : List Nat} (h : l.Nodup) {i : Nat} (hi : i < l.length) : l.idxOf (l.getD i 0) = i := by
  rw [List.getD_eq_getElem?_getD, List.getElem?_eq_getElem hi]
  exact h.idxOf_getElem i hi
def mixed (l : List Nat) (ps : List (Nat × Nat)) : List (Nat × Nat) := ps.map fun p => (l.getD p.1 0, l.getD p.2 0)
theorem mixed_ok {n : Nat} {l : List Nat} {ps : List (Nat × Nat)} (h : PsOk n ps) (hn : l.length = n) (hd : l.Nodup) (hl : ∀ x ∈ l, x < n) : PsOk n (mixed l ps) := by
  obtain ⟨h1, rk, h2⟩ := h
  have key : ∀ i, i < n → l.getD i 0 < n := fun i hi => by
    rw [List.getD_eq_getElem?_getD, List.getElem?_eq_getElem (by omega)]
    exact hl _ (List.getElem_mem _)
  refine ⟨fun p hp => ?_, fun x => rk (l.idxOf x), fun p hp => ?_⟩
  · obtain ⟨q, hq, rfl⟩ := List.mem_map.mp hp
    exact ⟨key _ (h1 q hq).1, key _ (h1 q hq).2⟩
  · obtain ⟨q, hq, rfl⟩ := List.mem_map.mp hp
    have := h1 q hq
    show rk (l.idxOf (l.getD q.1 0)) < rk (l.idxOf (l.getD q.2 0))
    rw [idx_getD hd (by omega), idx_getD hd (by omega)]
    exact h2 q hq
section
variable {P : Program} {w : World} {K : Fg} {mg : Str → Option Value} {base : Heap}
abbrev s_opairs : Stmt := top 54
abbrev nOpairs : List Str := ["pool", "most", "shape", "places", "pair"]
theorem scOpairs : FnScope nOpairs ["pool", "most"] (defScope s_opairs) := ⟨rfl, rfl, rfl, by decide +kernel, rfl, by decide +kernel, by decide +kernel⟩
theorem ok_opairs {f : Addr} {fd : FuncData} (F : FunS K "_law_order_pairs" s_opairs f fd) (b : Bi mg) (Ns : Dy P w K mg base "_law_shape" 3 cShape) (Nm : Dy P w K mg base "_law_mixed_places" 2 cPlaces) :
    FnOk P w K mg base (L2.CX P w) 4 f fd ["pool", "most"] (spO K cShape) := by
  refine fo_ok F scOpairs (fun o ds ⟨_, n, h, _⟩ => by rw [h]; rfl) fun cdv A outer s e E o ds ⟨hp, m, hd, m1, m2⟩ hr tk => ?_
  subst hd
  have nd := scOpairs.nd
  refine bl_set 2 (Φ := fun d Γ => ∃ (n : Nat) (ps : List (Nat × Nat)) (o' : O), d = .tup [.int (n : Int), .lst (pairsD ps)] ∧ 1 ≤ n ∧ n ≤ m ∧ PsOk n ps ∧ ps.length ≤ 200 ∧ Pool o' ∧ Γ = [sO o', sI m, none, none, none]) (ev_callO (U := fun _ _ _ => False) 0 Ns hr (by omega) takes_none rfl (pvs_av (pvs_one (pv_var 1))) ?_) ?_
  · rintro ds Γ1 ⟨rfl, rfl⟩
    refine ⟨o, rfl, ⟨hp, m, rfl, m1, m2⟩, ?_, fun _ _ _ z => z.elim⟩
    rintro bb o' ⟨hp', m', n, ps, h1, rfl, h3, h4, h5, h6⟩
    injection h1 with h1 _
    injection h1 with h1
    have : m = m' := by omega
    subst this
    exact ⟨_, .inl rfl, n, ps, o', rfl, h3, h4, h5, h6, hp', rfl⟩
  rintro d Γ' ⟨n, ps, o1, rfl, n1, n2, hps, hpl, hp1, rfl⟩
  refine bl_set 3 (Φ := fun d Γ => ∃ (l : List Nat) (o' : O), d = .lst (natsD l) ∧ l.length = n ∧ l.Nodup ∧ (∀ x ∈ l, x < n) ∧ Pool o' ∧ Γ = [sO o', sI m, sD (.tup [.int (n : Int), .lst (pairsD ps)]), none, none]) (ev_callO (U := fun _ _ _ => False) 0 Nm hr (by omega) takes_none rfl (pvs_av (pvs_one (pv_s ix_tup (pv_var 2) pv_int (sc_ixT rfl)))) ?_) ?_
  · rintro ds Γ1 ⟨rfl, rfl⟩
    refine ⟨o1, rfl, ⟨hp1, n, rfl, by omega⟩, ?_, fun _ _ _ z => z.elim⟩
    rintro bb o' ⟨hp', l, rfl, h3, h4, h5⟩
    injection h5 with h5 _
    injection h5 with h5
    have : l.length = n := by omega
    subst this
    exact ⟨_, .inr ⟨_, rfl, rfl⟩, l, o', rfl, rfl, h3, h4, hp', rfl⟩
  rintro d Γ' ⟨l, o2, rfl, hl, hld, hlx, hp2, rfl⟩
  refine bl_retP (d := .tup [.int (n : Int), .lst (pairsD (mixed l ps))]) (pv_tup (pvs_cons (pv_s ix_tup (pv_var 2) pv_int (sc_ixT rfl)) (pvs_cons (pn_pv (pn_is (o' := .lst (pairsD (mixed l ps))) (pn_lcA (c := pairD) (u := uP) (l := ps) (f := fun p => [sO o2, sI m, sD (.tup [.int (n : Int), .lst (pairsD ps)]), sD (.lst (natsD l)), sD (pairD p)]) (own := [("pair", 4)]) (ix := [4]) (bind := bName 4) (fun _ => true) (fun p => pairD (l.getD p.1 0, l.getD p.2 0)) uP_pairD (blk nOpairs (defScope s_opairs)) nd
    (wp_list (pv_s ix_tup (pv_var 2) pv_int (sc_ixT rfl))) (fun s H C cl fp => gv_name 4 nd) (bindOk_name 4) (by decide) (.inr (by decide)) (by omega) (fun a _ => rfl) (fun a _ s H C cl fp => pts_none) (fun a ha _ s H C cl fp => ?_)) ?_)) pvs_nil))) ⟨o2, rfl, hp2, m, n, mixed l ps, rfl, rfl, n1, n2, mixed_ok hps hl hld hlx, by unfold mixed; rw [List.length_map]; exact hpl⟩
  · have := hps.1 a ha
    exact pv_tup (pvs_cons (pv_s ix_list (pv_var 3) (pv_s ix_tup (pv_var 4) pv_int (sc_ixT rfl)) (sc_ixL (atI_nat (natsD_at (by omega))))) (pvs_cons (pv_s ix_list (pv_var 3) (pv_s ix_tup (pv_var 4) pv_int (sc_ixT rfl)) (sc_ixL (atI_nat (natsD_at (by omega))))) pvs_nil))
  · rw [filter_true]
    unfold pairsD mixed
    rw [List.map_map]
    rfl
/-! ### named -/
def spairD (p : Str × Str) : D := .tup [.str p.1, .str p.2]
def spairsD (ps : List (Str × Str)) : List D := ps.map spairD
def named (ns : List Str) (ps : List (Nat × Nat)) : List (Str × Str) := ps.map fun p => (ns.getD p.1 ⟨#[]⟩, ns.getD p.2 ⟨#[]⟩)
def cNamed : Fp where
  pre ds := ∃ (ns : List Str) (ps : List (Nat × Nat)), ds = [.lst (ns.map .str), .lst (pairsD ps)] ∧ ps.length ≤ 1000 ∧ ∀ p ∈ ps, p.1 < ns.length ∧ p.2 < ns.length
  post ds b := ∃ (ns : List Str) (ps : List (Nat × Nat)), ds = [.lst (ns.map .str), .lst (pairsD ps)] ∧ b = .ow (.lst (spairsD (named ns ps)))
abbrev s_named : Stmt := top 55
abbrev nNamed : List Str := ["names", "pairs", "pair"]
theorem scNamed : FnScope nNamed ["names", "pairs"] (defScope s_named) := ⟨rfl, rfl, rfl, by decide +kernel, rfl, by decide +kernel, by decide +kernel⟩
theorem ok_named {f : Addr} {fd : FuncData} (F : FunS K "_law_named" s_named f fd) (b : Bi mg) : FnOk P w K mg base (L2.CX P w) 1 f fd ["names", "pairs"] (spP K cNamed) := by
  refine fp_ok F scNamed (fun ds ⟨ns, ps, h, _⟩ => by rw [h]; rfl) fun cdv A outer s e E ds ho ⟨ns, ps, hd, hpl, hps⟩ hr tk => ?_
  subst hd
  have nd := scNamed.nd
  refine bl_retO (pn_eo (pn_lcA (c := pairD) (u := uP) (l := ps) (f := fun p => [sD (.lst (ns.map .str)), sD (.lst (pairsD ps)), sD (pairD p)]) (own := [("pair", 2)]) (ix := [2]) (bind := bName 2) (fun _ => true) (fun p => spairD (ns.getD p.1 ⟨#[]⟩, ns.getD p.2 ⟨#[]⟩)) uP_pairD (blk nNamed (defScope s_named)) nd
    (wp_list (pv_var 1)) (fun s H C cl fp => gv_name 2 nd (hz := .inl ho)) (bindOk_name 2) (by decide) (.inl ho) (by omega) (fun a _ => rfl) (fun a _ s H C cl fp => pts_none) (fun a ha _ s H C cl fp => ?_))) ?_
  · have := hps a ha
    exact pv_tup (pvs_cons (pv_s ix_list (pv_var 0) (pv_s ix_tup (pv_var 2) pv_int (sc_ixT rfl)) (sc_ixL (atI_nat (strs_at this.1)))) (pvs_cons (pv_s ix_list (pv_var 0) (pv_s ix_tup (pv_var 2) pv_int (sc_ixT rfl)) (sc_ixL (atI_nat (strs_at this.2)))) pvs_nil))
  · rintro o Γ' ⟨rfl, rfl⟩
    refine ⟨ns, ps, rfl, ?_⟩
    rw [filter_true]
    unfold spairsD named
    rw [List.map_map]
    rfl
end
end Kf
end
section
set_option maxRecDepth 100000
set_option maxHeartbeats 4000000
/-! KfM: the law's own table of what lies above: rows that change. -/
namespace Kf
open PySem L2

/-! ### plain: the table -/
def WM (m : Nat → Nat → Bool) : Nat → Nat → Nat → Bool
  | 0 => m
  | k + 1 => fun a b => WM m k a b || (WM m k a k && WM m k k b)
def base0 (ps : List (Nat × Nat)) : Nat → Nat → Bool := fun a b => a == b || decide ((a, b) ∈ ps)
def warsh (n : Nat) (ps : List (Nat × Nat)) : Nat → Nat → Bool := WM (base0 ps) n
inductive Rch (ps : List (Nat × Nat)) : Nat → Nat → Prop
  | refl (a : Nat) : Rch ps a a
  | step {a b c : Nat} : Rch ps a b → (b, c) ∈ ps → Rch ps a c
theorem Rch.trans {ps : List (Nat × Nat)} {a b c : Nat} (h : Rch ps a b) (q : Rch ps b c) : Rch ps a c := by
  induction q with
  | refl => exact h
  | step _ e ih => exact .step ih e
theorem WM_up {m : Nat → Nat → Bool} {k a b : Nat} (h : WM m k a b = true) : WM m (k + 1) a b = true := by
  show (WM m k a b || _) = true
  rw [h]; rfl
theorem WM_up0 {m : Nat → Nat → Bool} {a b : Nat} (h : m a b = true) : ∀ k, WM m k a b = true
  | 0 => h
  | k + 1 => WM_up (WM_up0 h k)
theorem WM_trans {m : Nat → Nat → Bool} : ∀ k a b c, b < k → WM m k a b = true → WM m k b c = true → WM m k a c = true
  | 0, _, _, _, h, _, _ => absurd h (Nat.not_lt_zero _)
  | k + 1, a, b, c, h, p, q => by
    have ih := WM_trans (m := m) k
    have p' : (WM m k a b || (WM m k a k && WM m k k b)) = true := p
    have q' : (WM m k b c || (WM m k b k && WM m k k c)) = true := q
    show (WM m k a c || (WM m k a k && WM m k k c)) = true
    simp only [Bool.or_eq_true, Bool.and_eq_true] at p' q' ⊢
    by_cases e : b = k
    · subst e
      rcases p' with p' | ⟨p1, p2⟩
      · rcases q' with q' | ⟨q1, q2⟩
        · exact .inr ⟨p', q'⟩
        · exact .inr ⟨p', q2⟩
      · rcases q' with q' | ⟨q1, q2⟩
        · exact .inr ⟨p1, q'⟩
        · exact .inr ⟨p1, q2⟩
    · have hb : b < k := by omega
      rcases p' with p' | ⟨p1, p2⟩
      · rcases q' with q' | ⟨q1, q2⟩
        · exact .inl (ih a b c hb p' q')
        · exact .inr ⟨ih a b k hb p' q1, q2⟩
      · rcases q' with q' | ⟨q1, q2⟩
        · exact .inr ⟨p1, ih k b c hb p2 q'⟩
        · exact .inr ⟨p1, q2⟩
theorem WM_sound {ps : List (Nat × Nat)} : ∀ k a b, WM (base0 ps) k a b = true → Rch ps a b
  | 0, a, b, h => by
    have h' : (a == b || decide ((a, b) ∈ ps)) = true := h
    simp only [Bool.or_eq_true, beq_iff_eq, decide_eq_true_eq] at h'
    rcases h' with h' | h'
    · subst h'; exact .refl _
    · exact .step (.refl _) h'
  | k + 1, a, b, h => by
    have h' : (WM (base0 ps) k a b || (WM (base0 ps) k a k && WM (base0 ps) k k b)) = true := h
    simp only [Bool.or_eq_true, Bool.and_eq_true] at h'
    rcases h' with h' | ⟨h1, h2⟩
    · exact WM_sound k a b h'
    · exact (WM_sound k a k h1).trans (WM_sound k k b h2)
theorem warsh_iff {n : Nat} {ps : List (Nat × Nat)} (hp : ∀ p ∈ ps, p.1 < n ∧ p.2 < n) {a b : Nat} : warsh n ps a b = true ↔ Rch ps a b := by
  refine ⟨WM_sound n a b, fun h => ?_⟩
  induction h with
  | refl => exact WM_up0 (by unfold base0; simp) n
  | step _ e ih => exact WM_trans n _ _ _ (hp _ e).1 ih (WM_up0 (by unfold base0; simp [e]) n)
/-- amid the turns for k, row l, place h -/
def cur (m : Nat → Nat → Bool) (k l h : Nat) : Nat → Nat → Bool := fun a b => m a b || (decide (a < l ∨ (a = l ∧ b < h)) && (m a k && m k b))
theorem cur_row {m : Nat → Nat → Bool} {k l h b : Nat} : cur m k l h k b = m k b := by
  unfold cur
  cases m k b <;> simp
theorem cur_col {m : Nat → Nat → Bool} {k l h a : Nat} : cur m k l h a k = m a k := by
  unfold cur
  cases m a k <;> simp

/-! ### the walk, by triples -/
structure Gh where
  S : Hp
  H1 : Hp
  v : V
def rowV (n : Nat) (r : Nat → Bool) : List V := (List.range n).map fun b => .bl (r b)
theorem rowV_congr {n : Nat} {r q : Nat → Bool} (h : ∀ b, b < n → r b = q b) : rowV n r = rowV n q := List.map_congr_left fun b hb => by rw [h b (List.mem_range.mp hb)]
theorem rowV_len {n : Nat} {r : Nat → Bool} : (rowV n r).length = n := by unfold rowV; rw [List.length_map, List.length_range]
theorem rowV_at {n : Nat} {r : Nat → Bool} {b : Nat} (h : b < n) : (rowV n r)[b]? = some (.bl (r b)) := by
  unfold rowV
  rw [List.getElem?_map, List.getElem?_range h]
  rfl
theorem rowV_set {n : Nat} {r : Nat → Bool} {h : Nat} : (rowV n r).set h (.bl true) = rowV n fun b => r b || b == h := by
  apply List.ext_getElem?
  intro i
  by_cases q : i < n
  · rw [rowV_at q]
    by_cases e : h = i
    · subst e
      rw [List.getElem?_set_self (by rw [rowV_len]; exact q)]
      simp
    · rw [List.getElem?_set_ne e, rowV_at q]
      have : (i == h) = false := by simp; omega
      rw [this, Bool.or_false]
  · rw [List.getElem?_eq_none (by rw [List.length_set, rowV_len]; omega), List.getElem?_eq_none (by rw [rowV_len]; omega)]
structure Mt (n : Nat) (g : Gh) (R : Addr) (as : List Addr) (m : Nat → Nat → Bool) (H : Hp) : Prop where
  kp : ∀ p o, g.H1 p = some o → H p = some o
  fR : g.H1 R = none
  fa : ∀ x ∈ as, g.H1 x = none
  nd : as.Nodup
  ne : R ∉ as
  ln : as.length = n
  hR : H R = some (.lst (as.map V.ref))
  rw_ : ∀ (a : Nat) (x : Addr), as[a]? = some x → H x = some (.lst (rowV n (m a)))
theorem Mt.congr {n : Nat} {g : Gh} {R : Addr} {as : List Addr} {m m' : Nat → Nat → Bool} {H : Hp} (h : Mt n g R as m H) (e : ∀ a b, a < n → b < n → m a b = m' a b) : Mt n g R as m' H :=
  ⟨h.kp, h.fR, h.fa, h.nd, h.ne, h.ln, h.hR, fun a x q => by
    have ha : a < n := by rw [← h.ln]; exact (List.getElem?_eq_some_iff.mp q).1
    rw [h.rw_ a x q, rowV_congr fun b hb => e a b ha hb]⟩
theorem nodup_at {as : List Addr} (h : as.Nodup) {i j : Nat} {x : Addr} (hi : as[i]? = some x) (hj : as[j]? = some x) : i = j := by
  obtain ⟨h1, h2⟩ := List.getElem?_eq_some_iff.mp hi
  obtain ⟨h3, h4⟩ := List.getElem?_eq_some_iff.mp hj
  have e1 := h.idxOf_getElem i h1
  have e2 := h.idxOf_getElem j h3
  rw [h2] at e1
  rw [h4] at e2
  omega
/-- row a, place b stored -/
theorem Mt.put {n : Nat} {g : Gh} {R : Addr} {as : List Addr} {m : Nat → Nat → Bool} {H : Hp} {a b : Nat} {x : Addr} (h : Mt n g R as m H) (q : as[a]? = some x) : Mt n g R as (fun i j => m i j || (i == a && j == b)) (upd H x (.lst ((rowV n (m a)).set b (.bl true)))) := by
  have hx : x ∈ as := List.mem_of_getElem? q
  have hxR : R ≠ x := fun z => h.ne (z ▸ hx)
  refine ⟨fun p o z => ?_, h.fR, h.fa, h.nd, h.ne, h.ln, by rw [upd_ne hxR]; exact h.hR, fun i y qi => ?_⟩
  · have : p ≠ x := fun e => by rw [e, h.fa x hx] at z; cases z
    rw [upd_ne this]
    exact h.kp p o z
  · by_cases e : y = x
    · subst e
      have := nodup_at h.nd qi q
      subst this
      rw [upd_same, rowV_set]
      simp
    · have ia : i ≠ a := fun z => e (by rw [z, q] at qi; exact (Option.some.inj qi).symm)
      rw [upd_ne e, h.rw_ i y qi]
      have : (i == a) = false := by simp [ia]
      exact congrArg (fun r => some (HO.lst r)) (rowV_congr fun b _ => by rw [this, Bool.false_and, Bool.or_false])
section
variable {X : Cx}
def RS (X : Cx) (st : List Stmt) (A B : Gh → L2.St → Hp → Prop) : Prop := PSs X st fun D σ H => ∃ g, A g σ H ∧ ∀ σ' H', B g σ' H' → D.nx σ' H'
def R1 (X : Cx) (st : Stmt) (A B : Gh → L2.St → Hp → Prop) : Prop := PS X st fun D σ H => ∃ g, A g σ H ∧ ∀ σ' H', B g σ' H' → D.nx σ' H'
theorem rs_nil {A B : Gh → L2.St → Hp → Prop} (h : ∀ g σ H, A g σ H → B g σ H) : RS X [] A B := PSs.imp pss_nil fun D σ H ⟨g, a, q⟩ => q σ H (h g σ H a)
theorem rs_cons {st : Stmt} {rest : List Stmt} {A B C : Gh → L2.St → Hp → Prop} (h : R1 X st A B) (q : RS X rest B C) : RS X (st :: rest) A C :=
  PSs.imp (pss_cons h q) fun D σ H ⟨g, a, z⟩ => ⟨g, a, fun σ' H' b => ⟨g, b, z⟩⟩
theorem rs_one {st : Stmt} {A B : Gh → L2.St → Hp → Prop} (h : R1 X st A B) : RS X [st] A B := rs_cons h (rs_nil fun _ _ _ z => z)
theorem rs_pre {st : List Stmt} {A A' B : Gh → L2.St → Hp → Prop} (h : RS X st A B) (q : ∀ g σ H, A' g σ H → A g σ H) : RS X st A' B := PSs.imp h fun D σ H ⟨g, a, z⟩ => ⟨g, q g σ H a, z⟩
/-- for i in range(n) -/
theorem r1_rng {n : Nat} {body : List Stmt} {nm : Str} {np cp p pos fpos : Pos} {cn : Str} {c : Nat} {A : Gh → L2.St → Hp → Prop} (i : Nat) (Inv : Nat → Gh → L2.St → Hp → Prop) (hn : n ≤ 1000) (h0 : ∀ g σ H, A g σ H → Inv 0 g σ H) (hc0 : ∀ g σ H, A g σ H → σ[c]? = some (some (.int (n : Int))))
    (hb : ∀ k, k < n → RS X body (fun g σ H => ∃ σ0, Inv k g σ0 H ∧ σ = σ0.set i (some (.int (k : Int)))) (Inv (k + 1))) (hp : PassesOwn (model X.prog X.w) X.A X.env X.xe) (hm : X.mg "range" = none)
    (hN : X.N.Nodup) (hi : X.N[i]? = some nm) (hci : X.N[c]? = some cn := by rfl) (hx : Loc X.env.scope nm := by first | exact .inl rfl | exact .inr rfl) (hv : Vis X.env.scope cn := by first | exact Or.inl rfl | exact Or.inr (Or.inl rfl) | exact Or.inr (Or.inr rfl)) (hg : Gl X "range" := by rfl)
    (hst : starEach [.Name cn cp] X.env = (false, eval (.Name cn cp) X.env) :: starEach [] X.env := by rfl) (hs : starEach [.Name cn cp] X.env = [(false, eval (.Name cn cp) X.env)] := by rfl)
    (hf : X.fn nm = true ∨ X.env.scope.names.lookup nm = some .local := by first | exact .inl rfl | exact .inr rfl) (h1 : (cn == ("__debug__" : Str)) = false := by decide) (h2 : (cn == ("__classdict__" : Str)) = false := by decide) (hcalm : X.calm = true := by rfl) :
    R1 X (.For (.Name nm np) (.Call (.Name "range" p) [.Name cn cp] [] pos) body [] fpos) A (Inv n) := by
  have hbT : PSs X body (fun D σ H => ∃ k, k < n ∧ ∃ g, (∃ σ0, Inv k g σ0 H ∧ σ = σ0.set i (some (.int (k : Int)))) ∧ ∀ σ' H', Inv (k + 1) g σ' H' → D.nx σ' H') := ⟨fun pins s σ H D I ⟨k, hk, q⟩ => (hb k hk).run pins s σ H D I q⟩
  refine PS.imp (ps_for hp hcalm (pi_range1 hg hm (pa_cons (pe_var hci hv h1 h2) pa_nil hst) hs) (pg_name hN hi hx hf) hbT) fun D σ H ⟨g, a, q⟩ => ?_
  refine ⟨_, hc0 g σ H a, (n : Int), rfl, by omega, by omega, fun j m σ1 H1 => m = n - j ∧ j ≤ n ∧ Inv j g σ1 H1, ⟨n, by simp, Nat.zero_le _, h0 g σ H a⟩, ?_⟩
  rintro j m σ1 H1 ⟨rfl, hj, hI⟩
  by_cases hlt : j < n
  · refine .inr ⟨by show j < (n : Int).toNat; omega, fun σ' H' => j + 1 ≤ n ∧ Inv (j + 1) g σ' H', fun σ' H' ⟨z1, z2⟩ => ⟨n - (j + 1), by omega, rfl, z1, z2⟩, fun x H' y => ?_⟩
    obtain ⟨rfl, rfl⟩ := y
    exact ⟨j, hlt, g, ⟨σ1, hI, by rw [Int.zero_add]⟩, fun σ' H' z => ⟨hlt, z⟩⟩
  · have ej : j = n := by omega
    subst ej
    exact .inl ⟨by show (j : Int).toNat ≤ j; omega, q σ1 H1 hI⟩
/-- if a test that changes nothing -/
theorem r1_if {c : Expr} {t : List Stmt} {pos : Pos} {tt : TT} {A B : Gh → L2.St → Hp → Prop} (k : Gh → L2.St → Hp → Bool) (hc : PT X c tt) (ht : ∀ g σ H, A g σ H → ∀ Q : Bool → Hp → Prop, Q (k g σ H) H → tt σ H Q) (h1 : RS X t (fun g σ H => A g σ H ∧ k g σ H = true) B) (h2 : ∀ g σ H, A g σ H → k g σ H = false → B g σ H) : R1 X (.If c t [] pos) A B := by
  have h2' : PSs X [] (fun D σ H => ∃ g, (A g σ H ∧ k g σ H = false) ∧ ∀ σ' H', B g σ' H' → D.nx σ' H') := PSs.imp pss_nil fun D σ H ⟨g, a, q⟩ => q σ H (h2 g σ H a.1 a.2)
  refine PS.imp (ps_if hc h1 h2') fun D σ H ⟨g, a, q⟩ => ht g σ H a _ ?_
  cases hk : k g σ H with
  | true => exact iteT ⟨g, ⟨a, hk⟩, q⟩
  | false => exact iteF ⟨g, ⟨a, hk⟩, q⟩
end
end Kf
end
section
set_option maxRecDepth 100000
set_option maxHeartbeats 4000000
/-! KfM2: _law_above walked. -/
namespace Kf
open PySem L2

section
variable {X : Cx}
/-- for x in a list that stands for good -/
theorem r1_lst {ds : List D} {body : List Stmt} {nm cn : Str} {np cp fpos : Pos} {A : Gh → L2.St → Hp → Prop} (c i : Nat) (Inv : Nat → Gh → L2.St → Hp → Prop) (h0 : ∀ g σ H, A g σ H → Inv 0 g σ H)
    (hc0 : ∀ g σ H, A g σ H → ∃ v, σ[c]? = some (some v) ∧ Rp X.K g.S v (.lst ds)) (hS : ∀ k g σ H, Inv k g σ H → Same g.S H)
    (hb : ∀ k d, ds[k]? = some d → RS X body (fun g σ H => ∃ σ0 v, Inv k g σ0 H ∧ Rp X.K g.S v d ∧ σ = σ0.set i (some v)) (Inv (k + 1))) (hp : PassesOwn (model X.prog X.w) X.A X.env X.xe)
    (hN : X.N.Nodup) (hi : X.N[i]? = some nm := by rfl) (hci : X.N[c]? = some cn := by rfl) (hx : Loc X.env.scope nm := by first | exact .inl rfl | exact .inr rfl) (hv : Vis X.env.scope cn := by first | exact Or.inl rfl | exact Or.inr (Or.inl rfl) | exact Or.inr (Or.inr rfl))
    (hf : X.fn nm = true ∨ X.env.scope.names.lookup nm = some .local := by first | exact .inl rfl | exact .inr rfl) (h1 : (cn == ("__debug__" : Str)) = false := by decide) (h2 : (cn == ("__classdict__" : Str)) = false := by decide) (hcalm : X.calm = true := by rfl) :
    R1 X (.For (.Name nm np) (.Name cn cp) body [] fpos) A (Inv ds.length) := by
  have hbT : PSs X body (fun D σ H => ∃ k d, ds[k]? = some d ∧ ∃ g, (∃ σ0 v, Inv k g σ0 H ∧ Rp X.K g.S v d ∧ σ = σ0.set i (some v)) ∧ ∀ σ' H', Inv (k + 1) g σ' H' → D.nx σ' H') := ⟨fun pins s σ H D I ⟨k, d, hk, q⟩ => (hb k d hk).run pins s σ H D I q⟩
  refine PS.imp (ps_for hp hcalm (pi_list (pe_var hci hv h1 h2)) (pg_name hN hi hx hf) hbT) fun D σ H ⟨g, a, q⟩ => ?_
  obtain ⟨v, hvc, rv⟩ := hc0 g σ H a
  have hI0 := h0 g σ H a
  cases rv with
  | lst g1 g2 =>
    rename_i ad xs
    have sq : ∀ {H'}, Same g.S H' → SqL X.K H' ad xs := fun z => rdq (same_rd z g1)
    refine ⟨_, hvc, ad, rfl, ⟨_, sq (hS _ _ _ _ hI0)⟩, fun j m σ1 H1 => m = ds.length - j ∧ j ≤ ds.length ∧ Inv j g σ1 H1, ⟨ds.length, by simp, Nat.zero_le _, hI0⟩, ?_⟩
    rintro j m σ1 H1 ⟨rfl, hj, hI⟩
    by_cases hlt : j < ds.length
    · obtain ⟨u, hu, ru⟩ := g2.get (List.getElem?_eq_getElem hlt)
      refine .inr ⟨⟨xs, u, sq (hS _ _ _ _ hI), hu⟩, fun σ' H' => j + 1 ≤ ds.length ∧ Inv (j + 1) g σ' H', fun σ' H' ⟨z1, z2⟩ => ⟨ds.length - (j + 1), by omega, rfl, z1, z2⟩, fun x H' y => ?_⟩
      obtain ⟨rfl, hy⟩ := y
      have e := hy xs (sq (hS _ _ _ _ hI))
      rw [hu] at e
      cases e
      exact ⟨j, _, List.getElem?_eq_getElem hlt, g, ⟨σ1, u, hI, ru, rfl⟩, fun σ' H' z => ⟨hlt, z⟩⟩
    · have ej : j = ds.length := by omega
      subst ej
      exact .inl ⟨⟨xs, sq (hS _ _ _ _ hI), by rw [g2.length]; exact Nat.le_refl _⟩, q σ1 H1 hI⟩
/-- rows[a][b] = True -/
theorem r1_store {n : Nat} {e1 e2 : Expr} {st : Stmt} {t1 t2 : TE} {A B : Gh → L2.St → Hp → Prop} {rn : Str} {rp : Pos} (ia ib : Gh → L2.St → Hp → Nat) (h1 : PE X e1 t1) (h2 : PE X e2 t2) (hr : PE X (.Name rn rp) (tVar 2))
    (ht1 : ∀ g σ H, A g σ H → ∀ Q : VK, Q (.int (ia g σ H : Nat)) H → t1 σ H Q) (ht2 : ∀ g σ H, A g σ H → ∀ Q : VK, Q (.int (ib g σ H : Nat)) H → t2 σ H Q)
    (hm : ∀ g σ H, A g σ H → ∃ m R as, σ[2]? = some (some (.ref R)) ∧ Mt n g R as m H ∧ ia g σ H < n ∧ ib g σ H < n ∧ ∀ H', Mt n g R as (fun i j => m i j || (i == ia g σ H && j == ib g σ H)) H' → B g σ H')
    (hpe : ∀ {t0 to ti : TE}, PE X (.Name rn rp) t0 → PE X e1 to → PE X e2 ti → PS X st (tAsg (tC (.bl true)) (gSub (tOp (rIxL X.K) t0 to) ti rSetL))) : R1 X st A B :=
  PS.imp (hpe hr h1 h2) fun D σ H ⟨g, a, q⟩ => by
    obtain ⟨m, R, as, hR, M, ha, hb, k⟩ := hm g σ H a
    refine ⟨_, hR, ht1 g σ H a _ ?_⟩
    obtain ⟨x, hx⟩ : ∃ x, as[ia g σ H]? = some x := ⟨_, List.getElem?_eq_getElem (by rw [M.ln]; exact ha)⟩
    refine ⟨R, as.map V.ref, (ia g σ H : Nat), .ref x, rfl, rfl, SqL.of M.hR, atI_nat (by rw [List.getElem?_map, hx]; rfl), ht2 g σ H a _ ?_⟩
    refine ⟨_, rowV n (m (ia g σ H)), (ib g σ H : Nat), ib g σ H, rfl, rfl, M.rw_ _ _ hx, ?_, q _ _ (k _ (M.put hx))⟩
    unfold ixN
    rw [if_pos (by omega), if_pos (by rw [rowV_len]; omega), Int.toNat_natCast]
/-- rows[a][b], looked at -/
theorem rd_at {n : Nat} {g : Gh} {R : Addr} {as : List Addr} {m : Nat → Nat → Bool} {H : Hp} {σ : L2.St} {t1 t2 : TE} {a b : Nat} {Q : VK} (M : Mt n g R as m H) (hR : σ[2]? = some (some (.ref R))) (ha : a < n) (hb : b < n)
    (h1 : ∀ Q : VK, Q (.int (a : Nat)) H → t1 σ H Q) (h2 : ∀ Q : VK, Q (.int (b : Nat)) H → t2 σ H Q) (q : Q (.bl (m a b)) H) : tOp (rIxL X.K) (tOp (rIxL X.K) (tVar 2) t1) t2 σ H Q := by
  obtain ⟨x, hx⟩ : ∃ x, as[a]? = some x := ⟨_, List.getElem?_eq_getElem (by rw [M.ln]; exact ha)⟩
  refine ⟨_, hR, h1 _ ⟨R, as.map V.ref, (a : Nat), .ref x, rfl, rfl, SqL.of M.hR, atI_nat (by rw [List.getElem?_map, hx]; rfl), h2 _ ?_⟩⟩
  exact ⟨_, rowV n (m a), (b : Nat), _, rfl, rfl, SqL.of (M.rw_ _ _ hx), atI_nat (rowV_at hb), q⟩
end
section
variable {P : Program} {w : World} {K : Fg} {mg : Str → Option Value} {base : Heap}
theorem base0_succ {ps : List (Nat × Nat)} {k : Nat} (hk : k < ps.length) {a c : Nat} : (base0 (ps.take k) a c || (a == ps[k].1 && c == ps[k].2)) = base0 (ps.take (k + 1)) a c := by
  rw [Bool.eq_iff_iff]
  simp only [base0, Bool.or_eq_true, Bool.and_eq_true, beq_iff_eq, decide_eq_true_eq]
  rw [List.take_succ_eq_append_getElem hk, List.mem_append, List.mem_singleton, Prod.ext_iff]
  exact or_assoc
def rowsD (n : Nat) (m : Nat → Nat → Bool) : List D := (List.range n).map fun a => .lst ((List.range n).map fun b => .bl (m a b))
def cAbove : Fp where
  pre ds := ∃ (n : Nat) (ps : List (Nat × Nat)), ds = [.int (n : Int), .lst (pairsD ps)] ∧ n ≤ 100 ∧ ∀ p ∈ ps, p.1 < n ∧ p.2 < n
  post ds b := ∃ (n : Nat) (ps : List (Nat × Nat)), ds = [.int (n : Int), .lst (pairsD ps)] ∧ b = .ow (.lst (rowsD n (warsh n ps)))
abbrev s_above : Stmt := top 56
abbrev nAbove : List Str := ["count", "pairs", "rows", "pair", "mid", "low", "high", "a", "b"]
theorem scAbove : FnScope nAbove ["count", "pairs"] (defScope s_above) := ⟨rfl, rfl, rfl, by decide +kernel, rfl, by decide +kernel, by decide +kernel⟩
theorem pvar {X : Cx} {n : Str} {pos : Pos} (i : Nat) (hN : X.N[i]? = some n := by rfl) (hv : Vis X.env.scope n := by first | exact Or.inl rfl | exact Or.inr (Or.inl rfl) | exact Or.inr (Or.inr rfl)) (h1 : (n == ("__debug__" : Str)) = false := by decide) (h2 : (n == ("__classdict__" : Str)) = false := by decide) : PE X (.Name n pos) (tVar i) := pe_var hN hv h1 h2
def scA : Scope := L2.relS { kind := .function, names := [(".0", .local), ("a", .cell), ("range", .globalImplicit), ("count", .free)], isGenerator := false, isCoroutine := false } (defScope s_above)
def St0 (n : Nat) (g : Gh) (R : Addr) (a b c d u z : Option V) : L2.St := [some (.int (n : Int)), some g.v, some (.ref R), a, b, c, d, u, z]
theorem yes_go {A B : Hp → Prop} {σ : L2.St} {H : Hp} (h : A H) : tYes σ H fun b H3 => if b = true then A H3 else B H3 := by
  unfold tYes
  exact iteT h
/-- the inner row -/
theorem inner_imp {n : Nat} {a : Nat} {σ : L2.St} {H : Hp} {Q : VK} (hn : n ≤ 1000) (h0 : σ[0]? = some (some (.int (n : Int)))) (h7 : σ[7]? = some (some (.int (a : Int)))) (h8 : σ.length = 9) (q : ∀ D, H D = none → Q (.ref D) (upd H D (.lst (rowV n fun b => a == b)))) :
    tLc (iRng1 (tCons (tVar 0) tNil)) (gName 8) tYes (tOp rEq (tVar 7) (tVar 8)) [8] σ H Q := by
  refine ⟨_, h0, (n : Int), rfl, by omega, by omega, fun D hD => ⟨fun i m H2 => m = n - i ∧ i ≤ n ∧ H2 = upd H D (.lst (rowV i fun b => a == b)), ⟨n, by simp, Nat.zero_le _, rfl⟩, ?_⟩⟩
  rintro i m H2 ⟨rfl, hi, rfl⟩
  by_cases hlt : i < n
  · refine .inr ⟨by show i < (n : Int).toNat; omega, fun H' => i + 1 ≤ n ∧ H' = upd H D (.lst (rowV (i + 1) fun b => a == b)), fun H' ⟨z1, z2⟩ => ⟨n - (i + 1), by omega, rfl, z1, z2⟩, fun x H' y => ?_⟩
    obtain ⟨rfl, rfl⟩ := y
    have ew : ∀ x, L2.wipe ((L2.wipe σ [8]).set 8 x) [8] = L2.wipe σ [8] := fun x => by
      show ((σ.set 8 none).set 8 x).set 8 none = σ.set 8 none
      rw [List.set_set, List.set_set]
    refine ⟨ew _, yes_go ?_⟩
    refine ⟨.int (a : Int), ?_, .int (i : Int), ?_, rfl, ?_⟩
    · show ((σ.set 8 none).set 8 _)[7]? = _
      rw [List.getElem?_set_ne (by decide), List.getElem?_set_ne (by decide)]
      exact h7
    · show ((σ.set 8 none).set 8 (some (V.int (0 + (i : Int)))))[8]? = _
      rw [Int.zero_add]
      exact set_at (by rw [List.length_set, h8]; decide)
    · refine ⟨_, upd_same, by rw [rowV_len]; exact Nat.lt_of_lt_of_le hlt (Nat.le_trans hn (by decide)), hlt, ?_⟩
      rw [upd_upd]
      congr 2
      unfold rowV
      rw [List.range_succ, List.map_append]
      congr 1
      show [V.bl (decide (V.int (a : Int) = V.int (i : Int)))] = [V.bl (a == i)]
      congr 2
      by_cases e : a = i
      · subst e; simp
      · have e2 : ¬ (a : Int) = (i : Int) := by omega
        have e3 : (a == i) = false := by simp [e]
        rw [e3, dec_int]
        simp [e2]
  · have ei : i = n := by omega
    subst ei
    exact .inl ⟨by show (i : Int).toNat ≤ i; omega, q D hD⟩
theorem ok_above {f : Addr} {fd : FuncData} (F : FunS K "_law_above" s_above f fd) (b : Bi mg) : FnOk P w K mg base (L2.CX P w) 1 f fd ["count", "pairs"] (spP K cAbove) := by
  refine fp_ok F scAbove (fun ds ⟨n, ps, h, _⟩ => by rw [h]; rfl) fun cdv A outer s e E ds ho ⟨n, ps, hd, hn, hps⟩ hr tk => ?_
  subst hd
  have nd := scAbove.nd
  let X := cxOf (L2.CX P w) P w K mg base nAbove "_law_above" (defScope s_above) f cdv A outer s e.H0 E
  have pw : PassesOwn (model X.prog X.w) X.A X.env X.xe := passes_of rfl
  -- the start, the first rows
  let A0 : Gh → L2.St → Hp → Prop := fun g σ H => (∃ a2 a3 a4 a5 a6 a7 a8, σ = [some (.int (n : Int)), some g.v, a2, a3, a4, a5, a6, a7, a8]) ∧ H = g.H1 ∧ Same g.S g.H1 ∧ Rp K g.S g.v (.lst (pairsD ps))
  let St : (Nat → Nat → Bool) → (Option V → Option V → Option V → Option V → Prop) → Gh → L2.St → Hp → Prop := fun m c g σ H => Same g.S g.H1 ∧ Rp K g.S g.v (.lst (pairsD ps)) ∧ ∃ R as p q r t u8 u9, σ = St0 n g R p q r t u8 u9 ∧ c p q r t ∧ Mt n g R as m H
  let any : Option V → Option V → Option V → Option V → Prop := fun _ _ _ _ => True
  have s1 : R1 X ((defBody s_above).getD 0 (.Pass ⟨0, 0, 0, 0⟩)) A0 (St (fun a b => a == b) any) := by
    refine PS.imp (ps_setLc (X := X) (i := 2) (own := [("a", 7)]) rfl nd rfl rfl rfl (pi_range1 rfl b.range (pa_cons (pvar 0) pa_nil rfl)) (blk nAbove (defScope s_above)) (fun s H C cl fp => pg_name (i := 7) nd rfl (.inr rfl)) (fun s H C cl fp => pts_nil)
      (fun s H C cl fp => pe_lc (own := [("b", 8)]) rfl nd (pi_range1 rfl b.range (pa_cons (pvar 0) pa_nil rfl)) (blk nAbove scA) (fun s H C cl fp => pg_name (i := 8) nd rfl (.inl rfl)) (fun s H C cl fp => pts_nil) (fun s H C cl fp => pe_cmpR op_eq (pvar 7) (pvar 8) (nomark _)))) fun D σ H ⟨g, ⟨⟨a2, a3, a4, a5, a6, a7, a8, hσ⟩, hH, hS, hv⟩, q⟩ => ?_
    subst hσ hH
    refine ⟨_, rfl, (n : Int), rfl, by omega, by omega, fun D hD => ⟨fun i m H2 => m = n - i ∧ i ≤ n ∧ ∃ as : List Addr, as.length = i ∧ as.Nodup ∧ D ∉ as ∧ (∀ x ∈ as, g.H1 x = none) ∧ (∀ p o, g.H1 p = some o → H2 p = some o) ∧ H2 D = some (.lst (as.map V.ref)) ∧ ∀ (a : Nat) (x : Addr), as[a]? = some x → H2 x = some (.lst (rowV n fun b => a == b)),
      ⟨n, by simp, Nat.zero_le _, [], rfl, .nil, by simp, by simp, fun p o z => by rw [upd_ne (ne_of_none z hD)]; exact z, upd_same, fun a x z => by cases z⟩, ?_⟩⟩
    rintro i m H2 ⟨rfl, hi, as, hl, hnd, hne, hfr, hkp, hDl, hrw⟩
    by_cases hlt : i < n
    · refine .inr ⟨by show i < (n : Int).toNat; omega, fun H2 => i + 1 ≤ n ∧ ∃ as : List Addr, as.length = i + 1 ∧ as.Nodup ∧ D ∉ as ∧ (∀ x ∈ as, g.H1 x = none) ∧ (∀ p o, g.H1 p = some o → H2 p = some o) ∧ H2 D = some (.lst (as.map V.ref)) ∧ ∀ (a : Nat) (x : Addr), as[a]? = some x → H2 x = some (.lst (rowV n fun b => a == b)),
        fun H' ⟨z1, z2⟩ => ⟨n - (i + 1), by omega, rfl, z1, z2⟩, fun x H' y => ?_⟩
      obtain ⟨rfl, rfl⟩ := y
      refine ⟨rfl, yes_go (inner_imp (a := i) (by omega) rfl (by rw [Int.zero_add]; rfl) rfl fun C hC => ?_)⟩
      have hDC : D ≠ C := fun z => by rw [← z, hDl] at hC; cases hC
      have hCn : C ∉ as := fun z => by
        obtain ⟨j, hj⟩ := List.getElem?_of_mem z
        rw [hrw j C hj] at hC
        cases hC
      have h1C : g.H1 C = none := by
        cases z : g.H1 C with
        | none => rfl
        | some o => rw [hkp C o z] at hC; cases hC
      have hD1 : g.H1 D = none := hD
      refine ⟨as.map V.ref, by rw [upd_ne hDC]; exact hDl, by rw [List.length_map, hl]; exact Nat.lt_of_lt_of_le hlt (by exact Nat.le_trans hn (by decide)), hlt, as ++ [C], by rw [List.length_append, hl]; rfl, ?_, ?_, ?_, ?_, ?_, ?_⟩
      · exact List.nodup_append.mpr ⟨hnd, by simp, fun a ha c hc q => hCn (by rw [← List.mem_singleton.mp hc, ← q]; exact ha)⟩
      · rw [List.mem_append, List.mem_singleton]
        exact fun z => z.elim hne hDC
      · intro x hx
        rcases List.mem_append.mp hx with z | z
        · exact hfr x z
        · rw [List.mem_singleton.mp z]; exact h1C
      · intro p o z
        rw [upd_ne (ne_of_none z hD1), upd_ne (ne_of_none z h1C)]
        exact hkp p o z
      · rw [upd_same, List.map_append]
        rfl
      · intro a x z
        have hxD : x ≠ D := fun q => by
          have hm := List.mem_of_getElem? z
          rw [q] at hm
          rcases List.mem_append.mp hm with y | y
          · exact hne y
          · exact hDC (List.mem_singleton.mp y)
        rw [upd_ne hxD]
        by_cases ha : a < as.length
        · rw [List.getElem?_append_left ha] at z
          have hxC : x ≠ C := fun q => hCn (q ▸ List.mem_of_getElem? z)
          rw [upd_ne hxC]
          exact hrw a x z
        · rw [List.getElem?_append_right (by omega)] at z
          have ha0 : a - as.length = 0 := by
            by_cases t : a - as.length = 0
            · exact t
            · rw [List.getElem?_eq_none (by simp; omega)] at z; cases z
          rw [ha0] at z
          cases z
          have : a = i := by omega
          subst this
          rw [upd_same]
    · have ei : i = n := by omega
      subst ei
      refine .inl ⟨by show (i : Int).toNat ≤ i; omega, q _ _ ⟨hS, hv, D, as, a3, a4, a5, a6, a7, a8, rfl, trivial, hkp, hD, hfr, hnd, hne, hl, hDl, hrw⟩⟩
  -- pairs
  have iv : ∀ {m : Nat → Nat → Bool} {g : Gh} {σ : L2.St} {H : Hp} {c}, St m c g σ H → σ[0]? = some (some (.int (n : Int))) := fun {m g σ H c} ⟨_, _, R, as, p, q, r, t, u8, u9, h, _⟩ => by rw [h]; rfl
  have iS : ∀ {m : Nat → Nat → Bool} {g : Gh} {σ : L2.St} {H : Hp} {c}, St m c g σ H → Same g.S H := fun {m g σ H c} ⟨h1, _, R, as, p, q, r, t, u8, u9, h, _, M⟩ a o z => M.kp a o (h1 a o z)
  have s2 : R1 X ((defBody s_above).getD 1 (.Pass ⟨0, 0, 0, 0⟩)) (St (fun a b => a == b) any) (St (base0 (ps.take (pairsD ps).length)) any) := by
    refine r1_lst (ds := pairsD ps) 1 3 (fun k => St (base0 (ps.take k)) any) ?_ ?_ ?_ ?_ pw nd
    · rintro g σ H ⟨h1, h2, R, as, p, q, r, t, u8, u9, h3, h4, M⟩
      exact ⟨h1, h2, R, as, p, q, r, t, u8, u9, h3, h4, M.congr fun a b _ _ => by unfold base0; simp⟩
    · rintro g σ H ⟨h1, h2, R, as, p, q, r, t, u8, u9, rfl, h4, M⟩
      exact ⟨g.v, rfl, h2⟩
    · intro k g σ H h
      exact iS h
    · intro k d hk
      have hk' : k < ps.length := by
        have := (List.getElem?_eq_some_iff.mp hk).1
        rwa [pairsD_len] at this
      have hd : d = pairD ps[k] := by
        unfold pairsD at hk
        rw [List.getElem?_map, List.getElem?_eq_getElem hk'] at hk
        exact (Option.some.inj hk).symm
      have hin := hps ps[k] (List.getElem_mem hk')
      subst hd
      have tp : ∀ {Aq : Gh → L2.St → Hp → Prop} {g : Gh} {σ : L2.St} {H : Hp} (h : ∃ σ0 v, St (base0 (ps.take k)) any g σ0 H ∧ Rp X.K g.S v (pairD ps[k]) ∧ σ = σ0.set 3 (some v)), (∀ Q : VK, Q (.int (ps[k].1 : Nat)) H → tOp (rIxT X.K) (tVar 3) (tC (.int 0)) σ H Q) ∧ (∀ Q : VK, Q (.int (ps[k].2 : Nat)) H → tOp (rIxT X.K) (tVar 3) (tC (.int 1)) σ H Q) := by
        rintro Aq g σ H ⟨σ0, v, hI, rv, rfl⟩
        have sS := iS hI
        obtain ⟨h1, h2, R, as, p, q, r, t, u8, u9, rfl, h4, M⟩ := hI
        cases rv with
        | tup g1 g2 =>
          cases g2 with
          | cons r1 g2 =>
            cases g2 with
            | cons r2 g2 =>
              cases g2
              cases r1
              cases r2
              exact ⟨fun Q z => ⟨_, rfl, _, _, 0, _, rfl, rfl, same_sqT sS g1, rfl, z⟩, fun Q z => ⟨_, rfl, _, _, 1, _, rfl, rfl, same_sqT sS g1, rfl, z⟩⟩
      refine rs_one (r1_store (n := n) (fun _ _ _ => ps[k].1) (fun _ _ _ => ps[k].2) (pe_ix ix_tup (pvar 3) pe_int (fun _ _ => rfl)) (pe_ix ix_tup (pvar 3) pe_int (fun _ _ => rfl)) (pvar 2) (fun g σ H h Q z => (tp (Aq := fun _ _ _ => True) h).1 Q z) (fun g σ H h Q z => (tp (Aq := fun _ _ _ => True) h).2 Q z) ?_ (fun a b c => ps_asg pe_bl (pg_sub (pe_ix ix_list a b (fun _ _ => rfl)) c set_list)))
      rintro g σ H ⟨σ0, v, ⟨h1, h2, R, as, p, q, r, t, u8, u9, rfl, h4, M⟩, rv, rfl⟩
      refine ⟨_, R, as, rfl, M, hin.1, hin.2, fun H' M' => ⟨h1, h2, R, as, some v, q, r, t, u8, u9, rfl, trivial, M'.congr fun a c _ _ => ?_⟩⟩
      exact base0_succ hk'
  -- the three loops
  have s3 : R1 X ((defBody s_above).getD 2 (.Pass ⟨0, 0, 0, 0⟩)) (St (base0 ps) any) (St (warsh n ps) any) := by
    let mk := WM (base0 ps)
    refine r1_rng (n := n) (c := 0) 4 (fun k => St (mk k) any) (by omega) (fun g σ H h => h) (fun g σ H h => iv h) ?_ pw b.range nd rfl
    intro k hk
    refine rs_one ?_
    refine (PS.imp (r1_rng (n := n) (c := 0) (A := fun g σ H => ∃ σ0, St (mk k) any g σ0 H ∧ σ = σ0.set 4 (some (.int (k : Int)))) 5 (fun l => St (cur (mk k) k l 0) (fun _ q _ _ => q = some (.int (k : Int)))) (by omega) ?_ ?_ ?_ pw b.range nd rfl) fun D σ H ⟨g, a, q⟩ => ⟨g, a, fun σ' H' ⟨h1, h2, R, as, p, q', r, t, u8, u9, h3, h4, M⟩ => q σ' H' ⟨h1, h2, R, as, p, q', r, t, u8, u9, h3, trivial, M.congr fun a c ha hc => ?_⟩⟩)
    · rintro g σ H ⟨σ0, ⟨h1, h2, R, as, p, q, r, t, u8, u9, rfl, _, M⟩, rfl⟩
      exact ⟨h1, h2, R, as, p, _, r, t, u8, u9, rfl, rfl, M.congr fun a c _ _ => by unfold cur; simp⟩
    · rintro g σ H ⟨σ0, ⟨h1, h2, R, as, p, q, r, t, u8, u9, rfl, _, M⟩, rfl⟩
      rfl
    · intro l hl
      refine rs_one (r1_if (fun _ _ _ => mk k l k) (pt_val (pe_ix ix_list (pe_ix ix_list (pvar 2) (pvar 5) (fun _ _ => rfl)) (pvar 4) (fun _ _ => rfl))) ?_ ?_ ?_)
      · rintro g σ H ⟨σ0, ⟨h1, h2, R, as, p, q, r, t, u8, u9, rfl, rfl, M⟩, rfl⟩ Q z
        refine rd_at (X := X) M rfl hl hk (fun Q z => ⟨_, rfl, z⟩) (fun Q z => ⟨_, rfl, z⟩) ⟨_, rfl, ?_⟩
        rw [cur_col]
        exact z
      · refine rs_one (PS.imp (r1_rng (n := n) (c := 0) (A := fun g σ H => (∃ σ0, St (cur (mk k) k l 0) (fun _ q _ _ => q = some (.int (k : Int))) g σ0 H ∧ σ = σ0.set 5 (some (.int (l : Int)))) ∧ mk k l k = true) 6 (fun h g σ H => St (cur (mk k) k l h) (fun _ q r _ => q = some (.int (k : Int)) ∧ r = some (.int (l : Int))) g σ H ∧ mk k l k = true) (by omega) ?_ ?_ ?_ pw b.range nd rfl) fun D σ H ⟨g, a, q⟩ => ⟨g, a, fun σ' H' ⟨⟨h1, h2, R, as, p, q', r, t, u8, u9, h3, h4, M⟩, _⟩ => q σ' H' ⟨h1, h2, R, as, p, q', r, t, u8, u9, h3, h4.1, M.congr fun a c ha hc => ?_⟩⟩)
        · rintro g σ H ⟨⟨σ0, ⟨h1, h2, R, as, p, q, r, t, u8, u9, rfl, rfl, M⟩, rfl⟩, ht⟩
          exact ⟨⟨h1, h2, R, as, p, _, _, t, u8, u9, rfl, ⟨rfl, rfl⟩, M⟩, ht⟩
        · rintro g σ H ⟨⟨σ0, ⟨h1, h2, R, as, p, q, r, t, u8, u9, rfl, rfl, M⟩, rfl⟩, ht⟩
          rfl
        · intro h hh
          refine rs_one (r1_if (fun _ _ _ => mk k k h) (pt_val (pe_ix ix_list (pe_ix ix_list (pvar 2) (pvar 4) (fun _ _ => rfl)) (pvar 6) (fun _ _ => rfl))) ?_ ?_ ?_)
          · rintro g σ H ⟨σ0, ⟨⟨h1, h2, R, as, p, q, r, t, u8, u9, rfl, ⟨rfl, rfl⟩, M⟩, ht⟩, rfl⟩ Q z
            refine rd_at (X := X) M rfl hk hh (fun Q z => ⟨_, rfl, z⟩) (fun Q z => ⟨_, rfl, z⟩) ⟨_, rfl, ?_⟩
            rw [cur_row]
            exact z
          · refine rs_one (r1_store (n := n) (fun _ _ _ => l) (fun _ _ _ => h) (pvar 5) (pvar 6) (pvar 2) ?_ ?_ ?_ (fun a b c => ps_asg pe_bl (pg_sub (pe_ix ix_list a b (fun _ _ => rfl)) c set_list)))
            · rintro g σ H ⟨⟨σ0, ⟨⟨h1, h2, R, as, p, q, r, t, u8, u9, rfl, ⟨rfl, rfl⟩, M⟩, ht⟩, rfl⟩, _⟩ Q z
              exact ⟨_, rfl, z⟩
            · rintro g σ H ⟨⟨σ0, ⟨⟨h1, h2, R, as, p, q, r, t, u8, u9, rfl, ⟨rfl, rfl⟩, M⟩, ht⟩, rfl⟩, _⟩ Q z
              exact ⟨_, rfl, z⟩
            · rintro g σ H ⟨⟨σ0, ⟨⟨h1, h2, R, as, p, q, r, t, u8, u9, rfl, ⟨rfl, rfl⟩, M⟩, ht⟩, rfl⟩, hkh⟩
              refine ⟨_, R, as, rfl, M, hl, hh, fun H' M' => ⟨⟨h1, h2, R, as, p, _, _, _, u8, u9, rfl, ⟨rfl, rfl⟩, M'.congr fun a c _ _ => ?_⟩, ht⟩⟩
              unfold cur
              by_cases e1 : a = l
              · subst e1
                by_cases e2 : c = h
                · subst e2; simp [ht, hkh]
                · have : (c < h + 1) ↔ c < h := by omega
                  simp [e2, this]
              · simp [e1]
          · rintro g σ H ⟨σ0, ⟨⟨h1, h2, R, as, p, q, r, t, u8, u9, rfl, ⟨rfl, rfl⟩, M⟩, ht⟩, rfl⟩ hkh
            refine ⟨⟨h1, h2, R, as, p, _, _, _, u8, u9, rfl, ⟨rfl, rfl⟩, M.congr fun a c _ _ => ?_⟩, ht⟩
            unfold cur
            by_cases e1 : a = l
            · subst e1
              by_cases e2 : c = h
              · subst e2; simp [hkh]
              · have : (c < h + 1) ↔ c < h := by omega
                simp [this]
            · simp [e1]
        · unfold cur
          by_cases e1 : a = l
          · subst e1
            simp [hc]
          · have : (a < l + 1) ↔ a < l := by omega
            simp [e1, this]
      · rintro g σ H ⟨σ0, ⟨h1, h2, R, as, p, q, r, t, u8, u9, rfl, rfl, M⟩, rfl⟩ hlk
        refine ⟨h1, h2, R, as, p, _, _, t, u8, u9, rfl, rfl, M.congr fun a c ha hc => ?_⟩
        unfold cur
        by_cases e1 : a = l
        · subst e1
          simp [hlk]
        · have : (a < l + 1) ↔ a < l := by omega
          simp [e1, this]
    · show cur (mk k) k n 0 a c = WM (base0 ps) (k + 1) a c
      unfold cur
      simp [ha, mk, WM]
  -- all together
  refine PSs.imp (pss_cons s1 (pss_cons s2 (pss_cons s3 (pss_cons (ps_ret (pvar 2)) pss_nil)))) fun D σ H ⟨S, w, nx, bk, ct, rt⟩ => ?_
  have hsig : ∃ v a2 a3 a4 a5 a6 a7 a8, σ = [some (.int (n : Int)), some v, a2, a3, a4, a5, a6, a7, a8] ∧ Rp K S v (.lst (pairsD ps)) := by
    obtain ⟨v0, h0, r0⟩ := w.sl.at_ 0 (.st (.int (n : Int))) rfl
    obtain ⟨v1, h1, r1⟩ := w.sl.at_ 1 (.st (.lst (pairsD ps))) rfl
    have hl : σ.length = 9 := w.sl.len
    cases r0
    match σ, hl, h0, h1 with
    | [b0, b1, b2, b3, b4, b5, b6, b7, b8], _, h0, h1 =>
      cases h0
      cases h1
      exact ⟨v1, b2, b3, b4, b5, b6, b7, b8, rfl, r1⟩
  obtain ⟨v, a2, a3, a4, a5, a6, a7, a8, rfl, rv⟩ := hsig
  refine ⟨⟨S, H, v⟩, ⟨⟨a2, a3, a4, a5, a6, a7, a8, rfl⟩, rfl, w.nx.sh, rv⟩, fun σ1 H1 h => ⟨⟨S, H, v⟩, h, fun σ2 H2 h => ⟨⟨S, H, v⟩, ?_, fun σ3 H3 ⟨h1, h2, R, as, p, q, r, t, u8, u9, h3, h4, M⟩ => ?_⟩⟩⟩
  · rw [pairsD_len, List.take_length] at h
    exact h
  · subst h3
    refine ⟨_, rfl, ?_⟩
    -- the world behind
    have M1 : ∀ p o, H p = some o → H3 p = some o := M.kp
    let S' : Hp := fun p => if p ∈ as then H3 p else S p
    have hSas : ∀ x ∈ as, S x = none := fun x hx => w.nx.sh.free (M.fa x hx)
    have ss : Same S S' := fun a o z => by
      show (if a ∈ as then H3 a else S a) = some o
      by_cases ha : a ∈ as
      · rw [hSas a ha] at z; cases z
      · rw [if_neg ha]; exact z
    have sh : Same S' H3 := fun a o z => by
      have z' : (if a ∈ as then H3 a else S a) = some o := z
      by_cases ha : a ∈ as
      · rw [if_pos ha] at z'; exact z'
      · rw [if_neg ha] at z'; exact M1 a o (w.nx.sh a o z')
    have n' : Nx e S' H3 := by
      refine ⟨w.nx.ss.trans ss, sh, fun a o z y => M1 a o (w.nx.hh a o z y), fun a z y => ?_, fun a z => ?_⟩
      · have := w.nx.al a z
        cases q : H a with
        | none => exact this q
        | some o => rw [M1 a o q] at y; cases y
      · show (if a ∈ as then H3 a else S a) = _
        by_cases ha : a ∈ as
        · exact absurd (M.fa a ha) (w.nx.al a z)
        · rw [if_neg ha]; exact w.nx.old a z
    have hR0 : S' R = none := by
      show (if R ∈ as then H3 R else S R) = none
      rw [if_neg M.ne]
      exact w.nx.sh.free M.fR
    have own : Own K S' H3 R (.lst (rowsD n (warsh n ps))) := by
      refine ⟨as.map V.ref, M.hR, ?_⟩
      have key : ∀ (l : List Addr) (i0 : Nat), (∀ (i : Nat) (x : Addr), l[i]? = some x → as[i0 + i]? = some x) → RpL K S' (l.map V.ref) ((List.range' i0 l.length).map fun a => .lst ((List.range n).map fun c => .bl (warsh n ps a c))) := by
        intro l
        induction l with
        | nil => intro i0 _; exact .nil
        | cons x l ih =>
          intro i0 hl
          have hx : as[i0]? = some x := hl 0 x rfl
          rw [List.length_cons, List.range'_succ, List.map_cons, List.map_cons]
          refine .cons (.lst (.inl (show (if x ∈ as then H3 x else S x) = _ by rw [if_pos (List.mem_of_getElem? hx)]; exact M.rw_ _ _ hx)) ?_) (ih (i0 + 1) fun i y hy => by rw [show i0 + 1 + i = i0 + (i + 1) by omega]; exact hl (i + 1) y hy)
          have kb : ∀ l : List Nat, RpL K S' (l.map fun c => V.bl (warsh n ps i0 c)) (l.map fun c => Kf.D.bl (warsh n ps i0 c)) := by
            intro l
            induction l with
            | nil => exact .nil
            | cons c l ih => exact .cons (.bl _) ih
          exact kb _
      have := key as 0 fun i x h => by rw [Nat.zero_add]; exact h
      rw [M.ln] at this
      unfold rowsD
      rw [List.range_eq_range'] at this ⊢
      exact this
    refine rt S' (List.replicate 9 none) H3 (.ref R) (.ow (.lst (rowsD n (warsh n ps)))) (List.replicate 9 none) ⟨n, ps, rfl, rfl⟩ ss ⟨n', ⟨rfl, fun i b z => ?_, fun i j o o' a z => ?_, fun a z => ?_⟩⟩ ⟨R, rfl, hR0, own, w.nx.fresh M.fR⟩
    · rw [List.getElem?_replicate] at z
      split at z <;> cases z
    · rw [List.getElem?_replicate] at z
      split at z <;> cases z
    · rw [ho] at z; cases z
end
end Kf
end
section
set_option maxRecDepth 100000
set_option maxHeartbeats 4000000
/-! KfN1: assignments, maps. -/
namespace Kf
open PySem L2

def allRows (k : Nat) : Nat → List (List Nat)
  | 0 => [[]]
  | u + 1 => (allRows k u).flatMap fun r => (List.range k).map fun x => r ++ [x]
def rowD (r : List Nat) : D := .lst (natsD r)
def rowLL (rs : List (List Nat)) : List D := rs.map rowD
theorem rowLL_app (a b : List (List Nat)) : rowLL (a ++ b) = rowLL a ++ rowLL b := List.map_append
theorem rowLL_len (a : List (List Nat)) : (rowLL a).length = a.length := List.length_map _
theorem allRows_len (k : Nat) : ∀ u, (allRows k u).length = k ^ u
  | 0 => rfl
  | u + 1 => by
    show ((allRows k u).flatMap fun r => (List.range k).map fun x => r ++ [x]).length = _
    rw [List.length_flatMap]
    simp only [List.length_map, List.length_range]
    rw [List.map_const', List.sum_replicate_nat, allRows_len k u, Nat.pow_succ]
theorem allRows_mem {k : Nat} : ∀ {u : Nat} {r : List Nat}, r ∈ allRows k u ↔ r.length = u ∧ ∀ x ∈ r, x < k
  | 0, r => by
    show r ∈ [[]] ↔ _
    rw [List.mem_singleton]
    constructor
    · rintro rfl; exact ⟨rfl, fun x hx => by cases hx⟩
    · rintro ⟨h, _⟩; exact List.length_eq_zero_iff.mp h
  | u + 1, r => by
    show r ∈ (allRows k u).flatMap _ ↔ _
    rw [List.mem_flatMap]
    constructor
    · rintro ⟨q, hq, hr⟩
      obtain ⟨x, hx, rfl⟩ := List.mem_map.mp hr
      obtain ⟨h1, h2⟩ := allRows_mem.mp hq
      refine ⟨by rw [List.length_append, h1]; rfl, fun y hy => ?_⟩
      rcases List.mem_append.mp hy with z | z
      · exact h2 y z
      · rw [List.mem_singleton.mp z]; exact List.mem_range.mp hx
    · rintro ⟨h1, h2⟩
      have hne : r ≠ [] := fun z => by rw [z] at h1; cases h1
      refine ⟨r.dropLast, allRows_mem.mpr ⟨by rw [List.length_dropLast, h1]; rfl, fun x hx => h2 x ((List.dropLast_sublist r).subset hx)⟩, List.mem_map.mpr ⟨r.getLast hne, List.mem_range.mpr (h2 _ (List.getLast_mem hne)), List.dropLast_concat_getLast hne⟩⟩
def keeps (n : Nat) (R T : Nat → Nat → Bool) (row : List Nat) : Bool := (List.range n).all fun a => (List.range n).all fun b => !(R a b && !T (row.getD a 0) (row.getD b 0))
theorem keeps_iff {n : Nat} {R T : Nat → Nat → Bool} {row : List Nat} : keeps n R T row = true ↔ ∀ a b, a < n → b < n → R a b = true → T (row.getD a 0) (row.getD b 0) = true := by
  unfold keeps
  simp only [List.all_eq_true, List.mem_range]
  constructor
  · intro h a b ha hb hR
    have := h a ha b hb
    rw [hR] at this
    simpa using this
  · intro h a ha b hb
    cases hR : R a b with
    | false => rfl
    | true => rw [h a b ha hb hR]; rfl
section
variable {P : Program} {w : World} {K : Fg} {mg : Str → Option Value} {base : Heap}
def cAsg : Fp where
  pre ds := ∃ k u : Nat, ds = [.int (k : Int), .int (u : Int)] ∧ 1 ≤ k ∧ k ^ u ≤ 5000 ∧ k ≤ 1000 ∧ u ≤ 1000
  post ds b := ∃ k u : Nat, ds = [.int (k : Int), .int (u : Int)] ∧ b = .st (.lst (rowLL (allRows k u)))
abbrev nAsg : List Str := ["kinds", "unknowns", "rows", "k", "grown", "row", "kind"]
/-! ### maps -/
theorem rowsD_len {n : Nat} {R : Nat → Nat → Bool} : (rowsD n R).length = n := by unfold rowsD; rw [List.length_map, List.length_range]
theorem rowsD_at {n : Nat} {R : Nat → Nat → Bool} {a : Nat} (h : a < n) : (rowsD n R)[a]? = some (.lst ((List.range n).map fun b => .bl (R a b))) := by
  unfold rowsD
  rw [List.getElem?_map, List.getElem?_range h]
  rfl
theorem rowB_at {n : Nat} {r : Nat → Bool} {b : Nat} (h : b < n) : ((List.range n).map fun b => D.bl (r b))[b]? = some (.bl (r b)) := by
  rw [List.getElem?_map, List.getElem?_range h]
  rfl
def goodMaps (n m : Nat) (R T : Nat → Nat → Bool) : List (List Nat) := (allRows m n).filter (keeps n R T)
def cMaps : Fp where
  pre ds := ∃ (n m : Nat) (R T : Nat → Nat → Bool), ds = [.lst (rowsD n R), .lst (rowsD m T)] ∧ 1 ≤ m ∧ m ^ n ≤ 5000 ∧ m ≤ 1000 ∧ n ≤ 1000
  post ds b := ∃ (n m : Nat) (R T : Nat → Nat → Bool), ds = [.lst (rowsD n R), .lst (rowsD m T)] ∧ b = .ow (.lst (rowLL (goodMaps n m R T)))
theorem rowB_inj {n : Nat} {r q : Nat → Bool} (h : (List.range n).map (fun b => D.bl (r b)) = (List.range n).map (fun b => D.bl (q b))) : ∀ b, b < n → r b = q b := fun b hb => by
  have e := congrArg (fun l => l[b]?) h
  simp only [rowB_at hb] at e
  injection e with e
  injection e with e
theorem rowsD_inj {n m : Nat} {R T : Nat → Nat → Bool} (h : rowsD n R = rowsD m T) : n = m ∧ ∀ a b, a < n → b < n → R a b = T a b := by
  have hl : n = m := by rw [← rowsD_len (n := n) (R := R), h, rowsD_len]
  subst hl
  refine ⟨rfl, fun a b ha hb => ?_⟩
  have e := congrArg (fun l => l[a]?) h
  simp only [rowsD_at ha] at e
  injection e with e
  injection e with e
  exact rowB_inj e b hb
theorem rowsD_congr {n : Nat} {R T : Nat → Nat → Bool} (h : ∀ a b, a < n → b < n → R a b = T a b) : rowsD n R = rowsD n T :=
  List.map_congr_left fun a ha => congrArg D.lst (List.map_congr_left fun b hb => by rw [h a b (List.mem_range.mp ha) (List.mem_range.mp hb)])
theorem good_congr {n m : Nat} {R T R' T' : Nat → Nat → Bool} (h : ∀ a b, a < n → b < n → R a b = R' a b) (h2 : ∀ a b, a < m → b < m → T a b = T' a b) : goodMaps n m R T = goodMaps n m R' T' := by
  refine List.filter_congr fun r hr => ?_
  obtain ⟨h3, h4⟩ := allRows_mem.mp hr
  have key : ∀ a, a < n → r.getD a 0 < m := fun a ha => by
    rw [List.getD_eq_getElem?_getD, List.getElem?_eq_getElem (by omega)]
    exact h4 _ (List.getElem_mem _)
  rw [Bool.eq_iff_iff, keeps_iff, keeps_iff]
  constructor
  · intro q a b ha hb z
    rw [← h2 _ _ (key a ha) (key b hb)]
    exact q a b ha hb (by rw [h a b ha hb]; exact z)
  · intro q a b ha hb z
    rw [h2 _ _ (key a ha) (key b hb)]
    exact q a b ha hb (by rw [← h a b ha hb]; exact z)
abbrev nMaps : List Str := ["here", "there", "found", "row", "lost", "low", "high"]
end
end Kf
end
section
set_option maxRecDepth 100000
set_option maxHeartbeats 4000000
/-! KfN2: same. -/
namespace Kf
open PySem L2

/-- plain data of depth at most k -/
inductive Pl : Nat → D → Prop
  | non (k : Nat) : Pl k .non
  | bl (k : Nat) (b : Bool) : Pl k (.bl b)
  | int (k : Nat) (i : Int) : Pl k (.int i)
  | str (k : Nat) (z : Str) : Pl k (.str z)
  | lst {k : Nat} {l : List D} : (∀ d ∈ l, Pl k d) → l.length ≤ 10000 → Pl (k + 1) (.lst l)
  | tup {k : Nat} {l : List D} : (∀ d ∈ l, Pl k d) → l.length ≤ 10000 → Pl (k + 1) (.tup l)
theorem Pl.up {k : Nat} {d : D} (h : Pl k d) : ∀ {m}, k ≤ m → Pl m d := by
  induction h with
  | non k => exact fun _ => .non _
  | bl k b => exact fun _ => .bl _ _
  | int k b => exact fun _ => .int _ _
  | str k b => exact fun _ => .str _ _
  | lst h l ih =>
    intro m hm
    obtain ⟨m, rfl⟩ : ∃ j, m = j + 1 := ⟨m - 1, by omega⟩
    exact .lst (fun d hd => ih d hd (by omega)) l
  | tup h l ih =>
    intro m hm
    obtain ⟨m, rfl⟩ : ∃ j, m = j + 1 := ⟨m - 1, by omega⟩
    exact .tup (fun d hd => ih d hd (by omega)) l
theorem pl_strs {ns : List Str} (h : ns.length ≤ 10000) : Pl 1 (.lst (ns.map .str)) := .lst (fun d hd => by obtain ⟨z, _, rfl⟩ := List.mem_map.mp hd; exact .str _ _) (by rw [List.length_map]; exact h)
theorem pl_strsT {ns : List Str} (h : ns.length ≤ 10000) : Pl 1 (.tup (ns.map .str)) := .tup (fun d hd => by obtain ⟨z, _, rfl⟩ := List.mem_map.mp hd; exact .str _ _) (by rw [List.length_map]; exact h)
theorem kt_bool_bool : kitB "bool" "bool" = some true := by decide +kernel
theorem kt_bool_int : kitB "bool" "int" = some true := by decide +kernel
theorem kt_bool_str : kitB "bool" "str" = some false := by decide +kernel
theorem kt_bool_tuple : kitB "bool" "tuple" = some false := by decide +kernel
theorem kt_bool_list : kitB "bool" "list" = some false := by decide +kernel
theorem kt_int_bool : kitB "int" "bool" = some false := by decide +kernel
theorem kt_int_int : kitB "int" "int" = some true := by decide +kernel
theorem kt_int_str : kitB "int" "str" = some false := by decide +kernel
theorem kt_int_tuple : kitB "int" "tuple" = some false := by decide +kernel
theorem kt_int_list : kitB "int" "list" = some false := by decide +kernel
theorem kt_str_bool : kitB "str" "bool" = some false := by decide +kernel
theorem kt_str_int : kitB "str" "int" = some false := by decide +kernel
theorem kt_str_str : kitB "str" "str" = some true := by decide +kernel
theorem kt_str_tuple : kitB "str" "tuple" = some false := by decide +kernel
theorem kt_str_list : kitB "str" "list" = some false := by decide +kernel
theorem kt_list_bool : kitB "list" "bool" = some false := by decide +kernel
theorem kt_list_int : kitB "list" "int" = some false := by decide +kernel
theorem kt_list_str : kitB "list" "str" = some false := by decide +kernel
theorem kt_list_tuple : kitB "list" "tuple" = some false := by decide +kernel
theorem kt_list_list : kitB "list" "list" = some true := by decide +kernel
theorem kt_tuple_bool : kitB "tuple" "bool" = some false := by decide +kernel
theorem kt_tuple_int : kitB "tuple" "int" = some false := by decide +kernel
theorem kt_tuple_str : kitB "tuple" "str" = some false := by decide +kernel
theorem kt_tuple_tuple : kitB "tuple" "tuple" = some true := by decide +kernel
theorem kt_tuple_list : kitB "tuple" "list" = some false := by decide +kernel
section
variable {P : Program} {w : World} {K : Fg} {mg : Str → Option Value} {base : Heap}
def cSame (k : Nat) : Fp where
  pre ds := ∃ d, ds = [d, d] ∧ Pl k d
  post ds b := b = .st (.bl true)
structure BiT (mg : Str → Option Value) : Prop where
  bool : mg "bool" = none
  int : mg "int" = none
  str : mg "str" = none
  tuple : mg "tuple" = none
  list : mg "list" = none
abbrev s_same : Stmt := top 58
abbrev nSame : List Str := ["actual", "due", "k"]
theorem scSame : FnScope nSame ["actual", "due"] (defScope s_same) := ⟨rfl, rfl, rfl, by decide +kernel, rfl, by decide +kernel, by decide +kernel⟩
theorem ok_same {f : Addr} {fd : FuncData} {k : Nat} (F : FunS K "_law_same" s_same f fd) (b : Bi mg) (bt : BiT mg) (N : ∀ j, k = j + 1 → Dx P w K mg base "_law_same" (j + 1) (cSame j)) : FnOk P w K mg base (L2.CX P w) (k + 1) f fd ["actual", "due"] (spP K (cSame k)) := by
  refine fp_ok F scSame (fun ds ⟨d, h, _⟩ => by rw [h]; rfl) fun cdv A outer s e E ds ho ⟨d, hd, hpl⟩ hr tk => ?_
  subst hd
  have nd := scSame.nd
  cases hpl with
  | non => exact bl_ifR (px_cmp op_isN (pv_var 1) pv_non sc_isN) (fun h => bl_retP (d := .bl true) (pv_c op_isN (pv_var (d := .non) 0) pv_non sc_isN) rfl) (fun h => by cases h)
  | bl k x =>
    refine bl_ifR (px_cmp op_isN (pv_var 1) pv_non sc_isN) (fun h => by cases h) fun _ => ?_
    refine bl_ifR (q := true || true) (px_w (pw_o (px_val (pv_isi (d := .bl x) true (pv_var 1) rfl kt_bool_bool b.isinstance bt.bool)) fun h => by cases h)) (fun _ => ?_) (fun h => by cases h)
    exact bl_retP (pv_is (pv_and (pv_isi (d := .bl x) true (pv_var 1) rfl kt_bool_bool b.isinstance bt.bool) fun _ => pv_and (pv_isi (d := .bl x) true (pv_var 0) rfl kt_bool_bool b.isinstance bt.bool) fun _ => pv_one (pv_c op_eq (pv_var 0) (pv_var 1) sc_eqB)) (d := .bl true) (by simp)) rfl
  | int k x =>
    refine bl_ifR (px_cmp op_isN (pv_var 1) pv_non sc_isN) (fun h => by cases h) fun _ => ?_
    refine bl_ifR (px_w (pw_o (px_val (pv_isi (d := .int x) false (pv_var 1) rfl kt_int_bool b.isinstance bt.bool)) fun _ => pw_o1 (px_val (pv_isi (d := .int x) false (pv_var 0) rfl kt_int_bool b.isinstance bt.bool)))) (fun h => by cases h) fun _ => ?_
    refine bl_ifR (px_val (pv_isi (d := .int x) true (pv_var 1) rfl kt_int_int b.isinstance bt.int)) (fun _ => ?_) (fun h => by cases h)
    exact bl_retP (pv_is (pv_and (pv_isi (d := .int x) true (pv_var 0) rfl kt_int_int b.isinstance bt.int) fun _ => pv_one (pv_c op_eq (pv_var 0) (pv_var 1) sc_eqI)) (d := .bl true) (by simp)) rfl
  | str k x =>
    refine bl_ifR (px_cmp op_isN (pv_var 1) pv_non sc_isN) (fun h => by cases h) fun _ => ?_
    refine bl_ifR (px_w (pw_o (px_val (pv_isi (d := .str x) false (pv_var 1) rfl kt_str_bool b.isinstance bt.bool)) fun _ => pw_o1 (px_val (pv_isi (d := .str x) false (pv_var 0) rfl kt_str_bool b.isinstance bt.bool)))) (fun h => by cases h) fun _ => ?_
    refine bl_ifR (px_val (pv_isi (d := .str x) false (pv_var 1) rfl kt_str_int b.isinstance bt.int)) (fun h => by cases h) fun _ => ?_
    refine bl_ifR (px_val (pv_isi (d := .str x) true (pv_var 1) rfl kt_str_str b.isinstance bt.str)) (fun _ => ?_) (fun h => by cases h)
    exact bl_retP (pv_is (pv_and (pv_isi (d := .str x) true (pv_var 0) rfl kt_str_str b.isinstance bt.str) fun _ => pv_one (pv_c op_eq (pv_var 0) (pv_var 1) sc_eqS)) (d := .bl true) (by simp)) rfl
  | @lst j l hall hl =>
    have Nj := N j rfl
    refine bl_ifR (px_cmp op_isN (pv_var 1) pv_non sc_isN) (fun h => by cases h) fun _ => ?_
    refine bl_ifR (px_w (pw_o (px_val (pv_isi (d := .lst l) false (pv_var 1) rfl kt_list_bool b.isinstance bt.bool)) fun _ => pw_o1 (px_val (pv_isi (d := .lst l) false (pv_var 0) rfl kt_list_bool b.isinstance bt.bool)))) (fun h => by cases h) fun _ => ?_
    refine bl_ifR (px_val (pv_isi (d := .lst l) false (pv_var 1) rfl kt_list_int b.isinstance bt.int)) (fun h => by cases h) fun _ => ?_
    refine bl_ifR (px_val (pv_isi (d := .lst l) false (pv_var 1) rfl kt_list_str b.isinstance bt.str)) (fun h => by cases h) fun _ => ?_
    refine bl_ifR (px_w (pw_o (px_cmp op_ne (pv_isi (d := .lst l) false (pv_var 1) rfl kt_list_tuple b.isinstance bt.tuple) (pv_isi (d := .lst l) false (pv_var 0) rfl kt_list_tuple b.isinstance bt.tuple) sc_neB) fun _ => pw_o1 (px_cmp op_ne (pv_isi (d := .lst l) true (pv_var 1) rfl kt_list_list b.isinstance bt.list) (pv_isi (d := .lst l) true (pv_var 0) rfl kt_list_list b.isinstance bt.list) sc_neB))) (fun h => by simp at h) fun _ => ?_
    refine bl_ifR (px_cmp op_ne (pv_lenL (pv_var 0) b.len) (pv_lenL (pv_var 1) b.len) sc_neI) (fun h => by simp at h) fun _ => ?_
    refine bl_for (fun ds i Γ => ds = rng 0 l.length ∧ ∃ kk, Γ = [sD (.lst l), sD (.lst l), kk]) (wv (wp_rng (pv_lenL (pv_var 1) b.len) (by omega) b.range)) (gv_name 2 nd (hz := .inl ho)) ?_ ?_ ?_ (passes_of rfl)
    · rintro ds Γ1 ⟨rfl, rfl⟩
      exact ⟨rfl, none, rfl⟩
    · rintro ds i d Γ1 hdi ⟨rfl, kk, rfl⟩
      obtain ⟨hi, rfl⟩ := rng_at0 hdi
      obtain ⟨x, hx⟩ : ∃ x, l[i]? = some x := ⟨_, List.getElem?_eq_getElem hi⟩
      refine ⟨_, rfl, bl_ifR (px_not (px_val (pv_call (ds := [x, x]) (d := .bl true) Nj hr (by omega) (pvs_cons (pv_s ix_list (pv_var 0) (pv_var 2) (sc_ixL (atI_nat hx))) (pvs_cons (pv_s ix_list (pv_var 1) (pv_var 2) (sc_ixL (atI_nat hx))) pvs_nil)) ⟨x, rfl, hall x (List.mem_of_getElem? hx)⟩ (fun bb hb => hb) (fun _ _ z => z.elim)))) (fun h => by cases h) fun _ => bl_nil ⟨rfl, _, rfl⟩⟩
    · rintro ds Γ1 ⟨rfl, kk, rfl⟩
      exact bl_retP pv_bl rfl
  | @tup j l hall hl =>
    have Nj := N j rfl
    refine bl_ifR (px_cmp op_isN (pv_var 1) pv_non sc_isN) (fun h => by cases h) fun _ => ?_
    refine bl_ifR (px_w (pw_o (px_val (pv_isi (d := .tup l) false (pv_var 1) rfl kt_tuple_bool b.isinstance bt.bool)) fun _ => pw_o1 (px_val (pv_isi (d := .tup l) false (pv_var 0) rfl kt_tuple_bool b.isinstance bt.bool)))) (fun h => by cases h) fun _ => ?_
    refine bl_ifR (px_val (pv_isi (d := .tup l) false (pv_var 1) rfl kt_tuple_int b.isinstance bt.int)) (fun h => by cases h) fun _ => ?_
    refine bl_ifR (px_val (pv_isi (d := .tup l) false (pv_var 1) rfl kt_tuple_str b.isinstance bt.str)) (fun h => by cases h) fun _ => ?_
    refine bl_ifR (px_w (pw_o (px_cmp op_ne (pv_isi (d := .tup l) true (pv_var 1) rfl kt_tuple_tuple b.isinstance bt.tuple) (pv_isi (d := .tup l) true (pv_var 0) rfl kt_tuple_tuple b.isinstance bt.tuple) sc_neB) fun _ => pw_o1 (px_cmp op_ne (pv_isi (d := .tup l) false (pv_var 1) rfl kt_tuple_list b.isinstance bt.list) (pv_isi (d := .tup l) false (pv_var 0) rfl kt_tuple_list b.isinstance bt.list) sc_neB))) (fun h => by simp at h) fun _ => ?_
    refine bl_ifR (px_cmp op_ne (pv_lenT (pv_var 0) b.len) (pv_lenT (pv_var 1) b.len) sc_neI) (fun h => by simp at h) fun _ => ?_
    refine bl_for (fun ds i Γ => ds = rng 0 l.length ∧ ∃ kk, Γ = [sD (.tup l), sD (.tup l), kk]) (wv (wp_rng (pv_lenT (pv_var 1) b.len) (by omega) b.range)) (gv_name 2 nd (hz := .inl ho)) ?_ ?_ ?_ (passes_of rfl)
    · rintro ds Γ1 ⟨rfl, rfl⟩
      exact ⟨rfl, none, rfl⟩
    · rintro ds i d Γ1 hdi ⟨rfl, kk, rfl⟩
      obtain ⟨hi, rfl⟩ := rng_at0 hdi
      obtain ⟨x, hx⟩ : ∃ x, l[i]? = some x := ⟨_, List.getElem?_eq_getElem hi⟩
      refine ⟨_, rfl, bl_ifR (px_not (px_val (pv_call (ds := [x, x]) (d := .bl true) Nj hr (by omega) (pvs_cons (pv_s ix_tup (pv_var 0) (pv_var 2) (sc_ixT (atI_nat hx))) (pvs_cons (pv_s ix_tup (pv_var 1) (pv_var 2) (sc_ixT (atI_nat hx))) pvs_nil)) ⟨x, rfl, hall x (List.mem_of_getElem? hx)⟩ (fun bb hb => hb) (fun _ _ z => z.elim)))) (fun h => by cases h) fun _ => bl_nil ⟨rfl, _, rfl⟩⟩
    · rintro ds Γ1 ⟨rfl, kk, rfl⟩
      exact bl_retP pv_bl rfl
end
end Kf
end
section
set_option maxRecDepth 100000
set_option maxHeartbeats 4000000
/-! KfN3: alike, due, spoilt. -/
namespace Kf
open PySem L2

abbrev dStrs (ns : List Str) : D := .lst (ns.map .str)
abbrev dRows (n : Nat) (R : Nat → Nat → Bool) : D := .lst (rowsD n R)
def AlikeP (hs : List Str) (R : Nat → Nat → Bool) (ts : List Str) (T : Nat → Nat → Bool) : Prop :=
  hs.length = ts.length ∧ (∀ z ∈ hs, z ∈ ts) ∧ ∀ a b, a < hs.length → b < hs.length → R a b = T (ts.idxOf (hs.getD a ⟨#[]⟩)) (ts.idxOf (hs.getD b ⟨#[]⟩))
theorem getD_at {l : List Str} {i : Nat} (h : i < l.length) : l[i]? = some (l.getD i ⟨#[]⟩) := by
  rw [List.getD_eq_getElem?_getD, List.getElem?_eq_getElem h]
  rfl
theorem getD_mem {l : List Str} {i : Nat} (h : i < l.length) : l.getD i ⟨#[]⟩ ∈ l := List.mem_of_getElem? (getD_at h)
theorem idx_first {ns : List Str} {z : Str} (h : z ∈ ns) : ns[ns.idxOf z]? = some z ∧ ∀ m, m < ns.idxOf z → ns[m]? ≠ some z := by
  refine ⟨?_, fun m hm q => ?_⟩
  · rw [List.getElem?_eq_getElem (List.idxOf_lt_length_of_mem h), List.getElem_idxOf]
  · obtain ⟨h1, h2⟩ := List.getElem?_eq_some_iff.mp q
    have hm' : m < ns.findIdx (· == z) := hm
    have := List.not_of_lt_findIdx hm'
    rw [h2] at this
    simp at this
theorem idx_lt {ns : List Str} {z : Str} (h : z ∈ ns) : ns.idxOf z < ns.length := List.idxOf_lt_length_of_mem h
/-- what Mapping answers -/
inductive MOut where
  | notL (z : Str) | badC (n : Nat) | broken (a b : Str) | made
def badP (R T : Nat → Nat → Bool) (ts im : List Str) (a b : Nat) : Bool := R a b && !T (ts.idxOf (im.getD a ⟨#[]⟩)) (ts.idxOf (im.getD b ⟨#[]⟩))
def lexB (a b x y : Nat) : Prop := x < a ∨ (x = a ∧ y < b)
inductive MOutP (hs : List Str) (R : Nat → Nat → Bool) (ts : List Str) (T : Nat → Nat → Bool) (im : List Str) : MOut → Prop
  | notL {i : Nat} {z : Str} : im[i]? = some z → z ∉ ts → (∀ j y, j < i → im[j]? = some y → y ∈ ts) → MOutP hs R ts T im (.notL z)
  | badC : (∀ z ∈ im, z ∈ ts) → im.length ≠ hs.length → MOutP hs R ts T im (.badC im.length)
  | broken {a b : Nat} : (∀ z ∈ im, z ∈ ts) → im.length = hs.length → a < hs.length → b < hs.length → badP R T ts im a b = true → (∀ x y, x < hs.length → y < hs.length → lexB a b x y → badP R T ts im x y = false) → MOutP hs R ts T im (.broken (hs.getD a ⟨#[]⟩) (hs.getD b ⟨#[]⟩))
  | made : (∀ z ∈ im, z ∈ ts) → im.length = hs.length → (∀ x y, x < hs.length → y < hs.length → badP R T ts im x y = false) → MOutP hs R ts T im .made
theorem MOutP.det {hs : List Str} {R : Nat → Nat → Bool} {ts : List Str} {T : Nat → Nat → Bool} {im : List Str} {o o' : MOut} (h : MOutP hs R ts T im o) (q : MOutP hs R ts T im o') : o = o' := by
  cases h with
  | @notL i z h1 h2 h3 =>
    cases q with
    | @notL j y g1 g2 g3 =>
      have : i = j := by
        rcases Nat.lt_trichotomy i j with l | l | l
        · exact absurd (g3 i z l h1) h2
        · exact l
        · exact absurd (h3 j y l g1) g2
      subst this
      rw [h1] at g1
      cases g1
      rfl
    | badC g1 _ => exact absurd (g1 z (List.mem_of_getElem? h1)) h2
    | broken g1 => exact absurd (g1 z (List.mem_of_getElem? h1)) h2
    | made g1 => exact absurd (g1 z (List.mem_of_getElem? h1)) h2
  | badC h1 h2 =>
    cases q with
    | notL g1 g2 _ => exact absurd (h1 _ (List.mem_of_getElem? g1)) g2
    | badC => rfl
    | broken _ g2 => exact absurd g2 h2
    | made _ g2 => exact absurd g2 h2
  | @broken a b h1 h2 h3 h4 h5 h6 =>
    cases q with
    | notL g1 g2 _ => exact absurd (h1 _ (List.mem_of_getElem? g1)) g2
    | badC _ g2 => exact absurd h2 g2
    | @broken c d _ _ g3 g4 g5 g6 =>
      have : a = c ∧ b = d := by
        rcases Nat.lt_trichotomy a c with l | l | l
        · rw [g6 a b h3 h4 (.inl l)] at h5; cases h5
        · rcases Nat.lt_trichotomy b d with k | k | k
          · rw [g6 a b h3 h4 (.inr ⟨l, k⟩)] at h5; cases h5
          · exact ⟨l, k⟩
          · rw [h6 c d g3 g4 (.inr ⟨l.symm, k⟩)] at g5; cases g5
        · rw [h6 c d g3 g4 (.inl l)] at g5; cases g5
      rw [this.1, this.2]
    | made _ _ g3 => rw [g3 a b h3 h4] at h5; cases h5
  | made h1 h2 h3 =>
    cases q with
    | notL g1 g2 _ => exact absurd (h1 _ (List.mem_of_getElem? g1)) g2
    | badC _ g2 => exact absurd h2 g2
    | broken _ _ g3 g4 g5 _ => rw [h3 _ _ g3 g4] at g5; cases g5
    | made => rfl
def dueD : MOut → D
  | .notL z => .lst [.str "NotListed", .str z]
  | .badC n => .lst [.str "BadCount", .int (n : Int)]
  | .broken a b => .lst [.str "Broken", .tup [.str a, .str b]]
  | .made => .lst [.str "made"]
section
variable {P : Program} {w : World} {K : Fg} {mg : Str → Option Value} {base : Heap}
def cAlike (hs : List Str) (R : Nat → Nat → Bool) (ts : List Str) (T : Nat → Nat → Bool) : Fp where
  pre ds := ds = [dStrs hs, dRows hs.length R, dStrs ts, dRows ts.length T] ∧ hs.length ≤ 1000 ∧ ts.length ≤ 1000
  post ds b := ∃ c, b = .st (.bl c) ∧ (c = true ↔ AlikeP hs R ts T)
abbrev nAlike : List Str := ["heads", "here", "tails", "there", "low", "high", "name"]
/-! ### due -/
def cDue (hs : List Str) (R : Nat → Nat → Bool) (ts : List Str) (T : Nat → Nat → Bool) (im : List Str) : Fp where
  pre ds := ds = [dStrs im, dStrs hs, dRows hs.length R, dStrs ts, dRows ts.length T] ∧ hs.length ≤ 1000 ∧ ts.length ≤ 1000
  post ds b := ∃ o, MOutP hs R ts T im o ∧ b = .st (dueD o)
abbrev nDue : List Str := ["images", "heads", "here", "tails", "there", "image", "low", "high"]
theorem strs_at' {l : List Str} {i : Nat} {d : D} (h : (l.map D.str)[i]? = some d) : ∃ z, l[i]? = some z ∧ d = .str z := by
  rw [List.getElem?_map] at h
  cases q : l[i]? with
  | none => rw [q] at h; cases h
  | some z => rw [q] at h; exact ⟨z, rfl, (Option.some.inj h).symm⟩
end
end Kf
end
section
set_option maxRecDepth 100000
set_option maxHeartbeats 4000000
/-! KfN4: spoilt. -/
namespace Kf
open PySem L2

abbrev SOk (z : Str) : Prop := PyData.strOk z = true
theorem strOk_name {z : Str} (h : KName z) : PyData.strOk z = true := by
  unfold PyData.strOk
  rw [← Array.all_toList, List.all_eq_true]
  intro c hc
  have := h.2.2.2 c hc
  unfold latC at this
  exact decide_eq_true (by omega)
theorem sok_app {a b : Str} (ha : SOk a) (hb : SOk b) : SOk (a ++ b) := by
  unfold SOk PyData.strOk at ha hb ⊢
  show (a.cps ++ b.cps).all _ = true
  rw [Array.all_append, ha, hb]
  rfl
section
variable {P : Program} {w : World} {K : Fg} {mg : Str → Option Value} {base : Heap}
def cSpoilt (im ts : List Str) (far : Str) : Fo where
  pre o ds := Pool o ∧ ds = [dStrs im, dStrs ts, .str far] ∧ 1 ≤ im.length ∧ 1 ≤ ts.length ∧ im.length ≤ 100 ∧ ts.length ≤ 1000 ∧ (∀ z ∈ ts, z.length ≤ 100) ∧ (∀ z ∈ im, SOk z) ∧ (∀ z ∈ ts, SOk z) ∧ SOk far
  post o ds b o' := Pool o' ∧ ∃ im' : List Str, b = .ow (.lst (im'.map .str)) ∧ im'.length ≤ im.length + 1 ∧ ∀ z ∈ im', SOk z
abbrev nSpoilt : List Str := ["pool", "images", "tails", "far", "found", "fault", "at"]
theorem map_take_str (l : List Str) (n : Nat) : (l.map D.str).take n = (l.take n).map D.str := (List.map_take ..).symm
theorem map_drop_str (l : List Str) (n : Nat) : (l.map D.str).drop n = (l.drop n).map D.str := (List.map_drop ..).symm
theorem map_set_str (l : List Str) (n : Nat) (z : Str) : (l.map D.str).set n (.str z) = (l.set n z).map D.str := (List.map_set ..).symm
theorem cutD_take (l : List Str) (n : Nat) : ∃ l' : List Str, cutD (l.map D.str) none (some (n : Int)) = l'.map D.str ∧ l'.length ≤ l.length ∧ l'.length ≤ n ∧ ∀ z ∈ l', z ∈ l := by
  refine ⟨(l.drop 0).take (min n (l.map D.str).length - 0), ?_, ?_, ?_, fun z hz => List.mem_of_mem_drop (List.mem_of_mem_take hz)⟩
  · unfold cutD
    rw [show HT.sIx (l.map D.str).length 0 none = 0 from rfl, show HT.sIx (l.map D.str).length (l.map D.str).length (some (n : Int)) = min n (l.map D.str).length from HT.sIx_nat _ _ _, map_drop_str, map_take_str]
  · rw [List.length_take, List.length_drop]; omega
  · rw [List.length_take, List.length_drop, List.length_map]; omega
theorem cutD_drop (l : List Str) (n : Nat) : ∃ l' : List Str, cutD (l.map D.str) (some (n : Int)) none = l'.map D.str ∧ l'.length + min n l.length ≤ l.length ∧ ∀ z ∈ l', z ∈ l := by
  refine ⟨(l.drop (min n (l.map D.str).length)).take ((l.map D.str).length - min n (l.map D.str).length), ?_, ?_, fun z hz => List.mem_of_mem_drop (List.mem_of_mem_take hz)⟩
  · unfold cutD
    rw [show HT.sIx (l.map D.str).length (l.map D.str).length none = (l.map D.str).length from rfl, show HT.sIx (l.map D.str).length 0 (some (n : Int)) = min n (l.map D.str).length from HT.sIx_nat _ _ _, map_drop_str, map_take_str]
  · rw [List.length_take, List.length_drop, List.length_map]; omega
theorem ixN_nat {n i : Nat} (h : i < n) : ixN n (i : Int) = some i := by
  unfold ixN
  rw [if_pos (by omega), if_pos (by omega), Int.toNat_natCast]
end
end Kf
end
section
set_option maxRecDepth 100000
set_option maxHeartbeats 4000000
/-! KfS1: the program's names and reach. -/
namespace Kf
open PySem L2

section
variable {X : Cx} {e : Ent} {Γ : Gam} {a b c : Expr} {d1 d2 d3 : D} {pos : Pos}
theorem px_ch {op op' : CmpOp} {r r' : R2} {k l : Bool} (ho : OpR X (compareOp op) r) (ho' : OpR X (compareOp op') r') (ha : PV X e a Γ d1) (hb : PV X e b Γ d2) (hc : PV X e c Γ d3) (sc : Sc X.K r d1 d2 (.bl k)) (sc' : k = true → Sc X.K r' d2 d3 (.bl l))
    (hm : lastMarks [op, op'] [b, c] = false := by with_unfolding_all rfl) : PX X e (.Compare a [op, op'] [b, c] pos) Γ (k && l) :=
  PT.imp (pt_chain ho ho' ha hb hc hm) fun σ H Q ⟨S, w, q⟩ => ⟨S, w, fun S1 H1 v1 s1 w1 r1 => ⟨S1, w1, fun S2 H2 v2 s2 w2 r2 => sc S2 H2 v1 v2 _ w2.nx.sh (r1.mono s2.ss) r2 fun v rv => by
    cases rv
    refine ⟨k, rfl, ?_⟩
    cases k with
    | false => exact iteF ⟨false, rfl, q S2 H2 (s1.trans s2) w2⟩
    | true =>
      refine iteT ⟨S2, w2, fun S3 H3 v3 s3 w3 r3 => sc' rfl S3 H3 v2 v3 _ w3.nx.sh (r2.mono s3.ss) r3 fun u ru => ?_⟩
      cases ru
      exact ⟨l, rfl, q S3 H3 ((s1.trans s2).trans s3) w3⟩⟩⟩
theorem sc_inSign {K : Fg} {z : Str} {n : Nat} : Sc K (fun x y H Q => ∃ (c : Nat) (z : Str), x = .str ⟨#[c]⟩ ∧ y = .str z ∧ Q (.bl (decide (c ∈ z.cps.toList))) H) (.str ⟨#[n]⟩) (.str z) (.bl (decide (n ∈ z.cps.toList))) := fun S H v1 v2 Q s r1 r2 q => by
  cases r1
  cases r2
  exact ⟨n, z, rfl, rfl, q _ (.bl _)⟩
theorem sc_ninSign {K : Fg} {z : Str} {n : Nat} : Sc K (fun x y H Q => ∃ (c : Nat) (z : Str), x = .str ⟨#[c]⟩ ∧ y = .str z ∧ Q (.bl (!decide (c ∈ z.cps.toList))) H) (.str ⟨#[n]⟩) (.str z) (.bl (!decide (n ∈ z.cps.toList))) := fun S H v1 v2 Q s r1 r2 q => by
  cases r1
  cases r2
  exact ⟨n, z, rfl, rfl, q _ (.bl _)⟩
end
/-- the module's constants -/
structure Gc (mg : Str → Option Value) : Prop where
  most : ∃ t, mg "MOST_LETTERS" = some (.int 24 t)
  letters : ∃ t, mg "LETTERS" = some (.str "abcdefghijklmnopqrstuvwxyz" t)
  later : ∃ t, mg "LATER" = some (.str "abcdefghijklmnopqrstuvwxyz0123456789." t)
theorem low_in {n : Nat} (h : lowC n) : n ∈ (("abcdefghijklmnopqrstuvwxyz" : Str)).cps.toList := by
  have key : ∀ k : Fin 26, (97 + k.val) ∈ (("abcdefghijklmnopqrstuvwxyz" : Str)).cps.toList := by decide +kernel
  have := key ⟨n - 97, by unfold lowC at h; omega⟩
  unfold lowC at h
  rwa [show 97 + (n - 97) = n by omega] at this
theorem lat_in {n : Nat} (h : latC n) : n ∈ (("abcdefghijklmnopqrstuvwxyz0123456789." : Str)).cps.toList := by
  rcases h with h | h | h
  · have key : ∀ k : Fin 26, (97 + k.val) ∈ (("abcdefghijklmnopqrstuvwxyz0123456789." : Str)).cps.toList := by decide +kernel
    have := key ⟨n - 97, by omega⟩
    rwa [show 97 + (n - 97) = n by omega] at this
  · have key : ∀ k : Fin 10, (48 + k.val) ∈ (("abcdefghijklmnopqrstuvwxyz0123456789." : Str)).cps.toList := by decide +kernel
    have := key ⟨n - 48, by omega⟩
    rwa [show 48 + (n - 48) = n by omega] at this
  · subst h
    decide +kernel
section
variable {P : Program} {w : World} {K : Fg} {mg : Str → Option Value} {base : Heap}
/-! ### is_kind_name -/
def cIsName (z : Str) : Fp where
  pre ds := ds = [.str z] ∧ KName z
  post ds b := b = .st (.bl true)
abbrev s_isname : Stmt := top 17
abbrev nIsname : List Str := ["text", "char"]
theorem scIsname : FnScope nIsname ["text"] (defScope s_isname) := ⟨rfl, rfl, rfl, by decide +kernel, rfl, by decide +kernel, by decide +kernel⟩
def cC (n : Nat) : D := .str ⟨#[n]⟩
def uC : D → Nat
  | .str z => z.cps.toList.headD 0
  | _ => 0
theorem uC_cC (n : Nat) : uC (cC n) = n := rfl
theorem ok_isname {f : Addr} {fd : FuncData} (F : FunS K "is_kind_name" s_isname f fd) (b : Bi mg) (gc : Gc mg) (z : Str) : FnOk P w K mg base (L2.CX P w) 1 f fd ["text"] (spP K (cIsName z)) := by
  refine fp_ok F scIsname (fun ds ⟨h, _⟩ => by rw [h]; rfl) fun cdv A outer s e E ds ho ⟨hd, hz⟩ hr tk => ?_
  subst hd
  have nd := scIsname.nd
  obtain ⟨h1, h2, ⟨c, t, h3, h4⟩, h5⟩ := hz
  obtain ⟨tm, gm⟩ := gc.most
  obtain ⟨tl, gl⟩ := gc.letters
  obtain ⟨ta, ga⟩ := gc.later
  have hsz : z.length ≤ sizeLine := Nat.le_trans h2 (by decide)
  refine bl_ifR (q := (!(true && true)) || false) (px_w (pw_o (px_not (px_is (px_ch op_le op_le pv_int (pv_lenS (pv_var 0) hsz b.len) (pv_gint rfl gm) sc_le (fun _ => sc_le)) ?_)) fun _ => pw_o1 (px_is (px_cmp op_notIn_sign (pv_s ix_str (pv_var 0) pv_int (sc_ixS (c := c) hsz (by
    have hh : z.cps.toList[0]? = some c := by rw [h3]; rfl
    exact atI_nat (n := 0) hh))) (pv_gstr rfl gl) sc_ninSign) (by rw [decide_eq_true (low_in h4)]; rfl)))) (fun h => by cases h) fun _ => ?_
  · have a1 : decide ((1 : Int) ≤ (z.length : Int)) = true := decide_eq_true (by omega)
    have a2 : decide ((z.length : Int) ≤ 24) = true := decide_eq_true (by omega)
    rw [a1, a2]
  · refine bl_retP (pv_is (pv_all (bs := (z.cps.toList.filter (fun _ => true)).map fun n => decide (n ∈ (("abcdefghijklmnopqrstuvwxyz0123456789." : Str)).cps.toList)) (pn_pv (pn_is (o' := .lst (((z.cps.toList.filter (fun _ => true)).map fun n => decide (n ∈ (("abcdefghijklmnopqrstuvwxyz0123456789." : Str)).cps.toList)).map .bl)) (pn_lcA (c := cC) (u := uC) (l := z.cps.toList) (f := fun n => [sD (.str z), sD (cC n)]) (own := [("char", 1)]) (ix := [1]) (bind := bName 1) (fun _ => true) (fun n => .bl (decide (n ∈ (("abcdefghijklmnopqrstuvwxyz0123456789." : Str)).cps.toList))) uC_cC (blk nIsname (defScope s_isname)) nd
      (wp_str (pv_var 0)) (fun s H C cl fp => gv_name 1 nd (hz := .inl ho)) (bindOk_name 1) (by decide) (.inl ho) (by rw [Array.length_toList]; exact Nat.le_trans h2 (by decide)) (fun a _ => rfl) (fun a _ s H C cl fp => pts_none) (fun a ha _ s H C cl fp => pv_c op_in_sign (pv_var 1) (pv_gstr rfl ga) sc_inSign)) (by rw [List.map_map]; rfl)) rfl) b.all) (d := .bl true) (congrArg D.bl ?_)) rfl
    rw [List.all_map, List.all_eq_true]
    intro n hn
    exact decide_eq_true (lat_in (h5 n ((List.mem_filter.mp hn).1)))
/-! ### check_listed -/
def cListed (ks : List Str) (z : Str) : Fp where
  pre ds := ds = [.tup (ks.map .str), .str z] ∨ ds = [.lst (ks.map .str), .str z]
  post ds b := b = .st .non ∧ z ∈ ks
  exn ds y fl := z ∉ ks ∧ y = "NotListed" ∧ fl = [(("name" : Str), D.str z)]
abbrev s_listed : Stmt := top 20
abbrev nListed : List Str := ["kinds", "name"]
theorem scListed : FnScope nListed nListed (defScope s_listed) := ⟨rfl, rfl, rfl, by decide +kernel, rfl, by decide +kernel, by decide +kernel⟩
theorem ok_listed {f : Addr} {fd : FuncData} (F : FunS K "check_listed" s_listed f fd) (C : Xc1 P w K mg base "NotListed" "name") (ks : List Str) (z : Str) : FnOk P w K mg base (L2.CX P w) 3 f fd nListed (spP K (cListed ks z)) := by
  refine fp_ok F scListed (fun ds h => by rcases h with h | h <;> rw [h] <;> rfl) fun cdv A outer s e E ds ho hd hr tk => ?_
  have go : ∀ d, d = .tup (ks.map .str) ∨ d = .lst (ks.map .str) → ds = [d, .str z] → BL (cxOf (L2.CX P w) P w K mg base nListed "check_listed" (defScope s_listed) f cdv A outer s e.H0 E) e (defBody s_listed) (gam0 nListed (ds.map .st)) { nx := fun _ => (cListed ks z).post ds (.st .non), rt := fun b _ => (cListed ks z).post ds b } := fun d hdd hds => by
    clear hd
    subst hds
    refine bl_ifR (px_ninS (ns := ks) (pv_var 1) (by
      rcases hdd with rfl | rfl
      · exact .inr (pv_var 0)
      · exact .inl (pv_var 0))) (fun h => ?_) fun h => bl_nil ⟨rfl, by simpa using h⟩
    exact bl_raise1 C hr (by omega) (pv_var 1) tk ⟨by simpa using h, rfl, rfl⟩
  rcases hd with h | h
  · exact go _ (.inl rfl) h
  · exact go _ (.inr rfl) h
/-! ### check_kind_names -/
def cNamesOk (ks : List Str) : Fp where
  pre ds := ds = [dStrs ks] ∧ ks.Nodup ∧ (∀ z ∈ ks, KName z) ∧ ks.length ≤ 1000
  post ds b := b = .st .non
abbrev s_cknames : Stmt := top 19
abbrev nCknames : List Str := ["kinds", "at", "kind"]
theorem scCknames : FnScope nCknames ["kinds"] (defScope s_cknames) := ⟨rfl, rfl, rfl, by decide +kernel, rfl, by decide +kernel, by decide +kernel⟩
theorem ok_cknames {f : Addr} {fd : FuncData} (F : FunS K "check_kind_names" s_cknames f fd) (b : Bi mg) (N : ∀ z, Dx P w K mg base "is_kind_name" 1 (cIsName z)) (ks : List Str) : FnOk P w K mg base (L2.CX P w) 2 f fd ["kinds"] (spP K (cNamesOk ks)) := by
  refine fp_ok F scCknames (fun ds ⟨h, _⟩ => by rw [h]; rfl) fun cdv A outer s e E ds ho ⟨hd, hnd, hnm, hl⟩ hr tk => ?_
  subst hd
  have nd := scCknames.nd
  refine bl_for (fun ds i Γ => ds = enumD (ks.map .str) ∧ ∃ x y, Γ = [sD (dStrs ks), x, y]) (wv (wp_enum (pv_var 0) b.enumerate)) (gv_two rfl (gv_name 1 nd (hz := .inl ho)) (gv_name 2 nd (hz := .inl ho))) ?_ ?_ ?_ (passes_of rfl)
  · rintro ds Γ1 ⟨rfl, rfl⟩
    exact ⟨rfl, none, none, rfl⟩
  · rintro ds i d Γ1 hdi ⟨rfl, x, y, rfl⟩
    obtain ⟨d', hd', rfl⟩ := enum_at hdi
    obtain ⟨z, hz, rfl⟩ := strs_at' hd'
    have hzm := List.mem_of_getElem? hz
    refine ⟨_, ⟨_, _, _, rfl, rfl, rfl⟩, bl_ifR (px_not (px_val (pv_call (ds := [.str z]) (d := .bl true) (N z) hr (by omega) (pvs_cons (pv_var 2) pvs_nil) ⟨rfl, hnm z hzm⟩ (fun _ h => h) (fun _ _ h => h.elim)))) (fun h => by cases h) fun _ => ?_⟩
    obtain ⟨l', e1, k1, k2⟩ := cutD_take ks i
    have hl' : l' = ks.take i := by
      have h1 : cutD (ks.map D.str) none (some (i : Int)) = (ks.take i).map .str := by
        unfold cutD
        rw [show HT.sIx (ks.map D.str).length 0 none = 0 from rfl, show HT.sIx (ks.map D.str).length (ks.map D.str).length (some (i : Int)) = min i (ks.map D.str).length from HT.sIx_nat _ _ _, List.drop_zero, Nat.sub_zero, ← map_take_str]
        exact List.take_eq_take_iff.mpr (by omega)
      rw [e1] at h1
      exact strs_inj h1
    refine bl_ifR (px_inS (ns := ks.take i) (pv_var 2) (.inl (pn_pv (pn_is (pn_cut (pv_var 0) pp_none (pp_some (pv_var 1))) (by rw [e1, hl']))))) (fun h => ?_) fun _ => bl_nil ⟨rfl, _, _, rfl⟩
    exfalso
    have hm : z ∈ ks.take i := of_decide_eq_true h
    obtain ⟨j, hj⟩ := List.getElem?_of_mem hm
    obtain ⟨hj1, hj2⟩ := List.getElem?_eq_some_iff.mp hj
    rw [List.length_take] at hj1
    have hj3 : ks[j]? = some z := by
      rw [List.getElem?_take_of_lt (by omega)] at hj
      exact hj
    have e2 := hnd.idxOf_getElem j (List.getElem?_eq_some_iff.mp hj3).1
    have e3 := hnd.idxOf_getElem i (List.getElem?_eq_some_iff.mp hz).1
    rw [(List.getElem?_eq_some_iff.mp hj3).2] at e2
    rw [(List.getElem?_eq_some_iff.mp hz).2] at e3
    omega
  · rintro ds Γ1 ⟨rfl, x, y, rfl⟩
    exact bl_nil rfl
end
end Kf
end
section
set_option maxRecDepth 100000
set_option maxHeartbeats 4000000
/-! KfS2: spread, kinds_above, check_rings. -/
namespace Kf
open PySem L2

inductive RchS (E : Str → List Str) : Str → Str → Prop
  | refl (a : Str) : RchS E a a
  | step {a b c : Str} : RchS E a b → c ∈ E b → RchS E a c
def rowsK (ks : List Str) (E : Str → List Str) : List (Key × D) := ks.map fun x => (.inr x, dStrs (E x))
theorem rowsK_val {ks : List Str} {E : Str → List Str} {x : Str} (h : x ∈ ks) : valD (rowsK ks E) (.inr x) = some (dStrs (E x)) := by
  unfold rowsK valD
  induction ks with
  | nil => cases h
  | cons a l ih =>
    rw [List.map_cons]
    by_cases q : a = x
    · subst q
      rw [List.find?_cons_of_pos (by simp)]
      rfl
    · rw [List.find?_cons_of_neg (by simpa using q)]
      exact ih ((List.mem_cons.mp h).resolve_left fun z => q z.symm)
theorem rowsK_app {a b : List Str} {E : Str → List Str} : rowsK (a ++ b) E = rowsK a E ++ rowsK b E := List.map_append
theorem rowsK_len {a : List Str} {E : Str → List Str} : (rowsK a E).length = a.length := List.length_map _
theorem rowsK_keys {a : List Str} {E : Str → List Str} : (rowsK a E).map (·.1) = a.map fun x => (.inr x : Key) := by
  unfold rowsK
  rw [List.map_map]
  rfl
theorem rowsK_congr {ks : List Str} {E F : Str → List Str} (h : ∀ x ∈ ks, E x = F x) : rowsK ks E = rowsK ks F := List.map_congr_left fun x hx => by rw [h x hx]
theorem key_new {ks : List Str} {i : Nat} {z : Str} (nd : ks.Nodup) (hz : ks[i]? = some z) {E : Str → List Str} : (Sum.inr z : Key) ∉ (rowsK (ks.take i) E).map (·.1) := by
  rw [rowsK_keys]
  intro h
  obtain ⟨x, hx, he⟩ := List.mem_map.mp h
  injection he with he
  subst he
  obtain ⟨j, hj⟩ := List.getElem?_of_mem hx
  obtain ⟨hj1, _⟩ := List.getElem?_eq_some_iff.mp hj
  rw [List.length_take] at hj1
  rw [List.getElem?_take_of_lt (by omega)] at hj
  have e2 := nd.idxOf_getElem j (List.getElem?_eq_some_iff.mp hj).1
  have e3 := nd.idxOf_getElem i (List.getElem?_eq_some_iff.mp hz).1
  rw [(List.getElem?_eq_some_iff.mp hj).2] at e2
  rw [(List.getElem?_eq_some_iff.mp hz).2] at e3
  omega
theorem take_snoc {α : Type} {l : List α} {i : Nat} {x : α} (h : l[i]? = some x) : l.take (i + 1) = l.take i ++ [x] := by rw [List.take_succ, h]; rfl
section
variable {P : Program} {w : World} {K : Fg} {mg : Str → Option Value} {base : Heap}
def cSpread (ks : List Str) (E : Str → List Str) (s : Str) : Fp where
  pre ds := ds = [.dK (rowsK ks E), .str s] ∧ s ∈ ks ∧ (∀ x ∈ ks, ∀ y ∈ E x, y ∈ ks) ∧ ks.length ≤ 1000
  post ds b := ∃ fs : List Str, b = .ow (.lst (fs.map .str)) ∧ ∀ y, y ∈ fs ↔ RchS E s y
abbrev s_spread : Stmt := top 2
abbrev nSpread : List Str := ["links", "start", "found", "at", "name"]
theorem scSpread : FnScope nSpread ["links", "start"] (defScope s_spread) := ⟨rfl, rfl, rfl, by decide +kernel, rfl, by decide +kernel, by decide +kernel⟩
theorem ok_spread {f : Addr} {fd : FuncData} (F : FunS K "spread" s_spread f fd) (b : Bi mg) (ks : List Str) (E : Str → List Str) (st : Str) : FnOk P w K mg base (L2.CX P w) 2 f fd ["links", "start"] (spP K (cSpread ks E st)) := by
  refine fp_ok F scSpread (fun ds ⟨h, _⟩ => by rw [h]; rfl) fun cdv A outer s e Ex ds ho ⟨hd, hs, hE, hl⟩ hr tk => ?_
  subst hd
  have nd := scSpread.nd
  refine bl_letO 2 (hz := .inl ho) (o := .lst (([st] : List Str).map .str)) (pn_eo (pn_lst (pvs_cons (pv_var 1) pvs_nil) (by show 1 ≤ _; decide))) (bl_let 3 (hz := .inl ho) pv_int ?_)
  refine bl_while (fun m Γ => ∃ (fs : List Str) (at_ : Nat) (nm : Option B), Γ = [sD (.dK (rowsK ks E)), sD (.str st), sL (fs.map .str), sI at_, nm] ∧ m = ks.length - at_ ∧ fs.Nodup ∧ (∀ y ∈ fs, y ∈ ks ∧ RchS E st y) ∧ st ∈ fs ∧ at_ ≤ fs.length ∧ ∀ (i : Nat) (x : Str), i < at_ → fs[i]? = some x → ∀ y ∈ E x, y ∈ fs)
    ks.length ⟨[st], 0, none, rfl, by simp, by simp, fun y hy => by rw [List.mem_singleton.mp hy]; exact ⟨hs, .refl _⟩, by simp, Nat.zero_le _, fun i x hi => absurd hi (Nat.not_lt_zero _)⟩ ?_ (passes_of rfl)
  rintro m Γ1 ⟨fs, at_, nm, rfl, rfl, hnd, hin, hst, hat, hcl⟩
  refine ⟨_, px_tv (px_cmp op_lt (pv_var 3) (pv_snap fun _ => pv_lenL (pv_var 2) b.len) sc_lt), ?_, ?_⟩
  · rintro Γ2 ⟨hlt, rfl⟩
    have hlt' : at_ < fs.length := by
      have := of_decide_eq_true hlt.symm
      rw [List.length_map] at this
      omega
    obtain ⟨x, hx⟩ : ∃ x, fs[at_]? = some x := ⟨_, List.getElem?_eq_getElem hlt'⟩
    have hxm := hin x (List.mem_of_getElem? hx)
    refine bl_for (fun ds j Γ => ds = (E x).map .str ∧ ∃ (gs : List Str) (nm : Option B), Γ = [sD (.dK (rowsK ks E)), sD (.str st), sL (gs.map .str), sI at_, nm] ∧ gs.Nodup ∧ (∀ y ∈ gs, y ∈ ks ∧ RchS E st y) ∧ (∃ t, gs = fs ++ t) ∧ ∀ y ∈ (E x).take j, y ∈ gs)
      (wv (wp_list (pv_dget hr (pv_var 0) (pv_snap fun _ => pv_s ix_list (pv_var 2) (pv_var 3) (sc_ixL (atI_nat (show (fs.map D.str)[at_]? = some (.str x) by rw [List.getElem?_map, hx]; rfl)))) (rowsK_val hxm.1)))) (gv_name 4 nd (hz := .inl ho)) ?_ ?_ ?_ (passes_of rfl)
    · rintro ds Γ1 ⟨rfl, rfl⟩
      exact ⟨rfl, fs, nm, rfl, hnd, hin, ⟨[], by simp⟩, fun y hy => by simp at hy⟩
    · rintro ds j d Γ1 hdj ⟨rfl, gs, nm, rfl, gnd, gin, ⟨t, gt⟩, gcl⟩
      obtain ⟨z, hz, rfl⟩ := strs_at' hdj
      have hzE : z ∈ E x := List.mem_of_getElem? hz
      refine ⟨_, rfl, bl_ifP (fun Γ => ∃ (gs : List Str) (nm : Option B), Γ = [sD (.dK (rowsK ks E)), sD (.str st), sL (gs.map .str), sI at_, nm] ∧ gs.Nodup ∧ (∀ y ∈ gs, y ∈ ks ∧ RchS E st y) ∧ (∃ t, gs = fs ++ t) ∧ ∀ y ∈ (E x).take (j + 1), y ∈ gs) (px_snap fun _ => px_ninS (pv_var 4) (.inl (pv_var 2))) (fun h => ?_) (fun h => ?_) ?_⟩
      · have hno : z ∉ gs := by simpa using h
        have hsz : gs.length < 100000 := by
          have := nodup_le gnd (m := ks) fun y hy => (gin y hy).1
          omega
        refine bl_appP 2 rfl (by rw [List.length_map]; exact hsz) (pv_var 4) (bl_nil ⟨gs ++ [z], sD (.str z), ?_, ?_, fun y hy => ?_, ⟨t ++ [z], by rw [gt, List.append_assoc]⟩, fun y hy => ?_⟩)
        · rw [List.map_append]; rfl
        · exact List.nodup_append.mpr ⟨gnd, by simp, fun a ha c hc q => hno (by rw [← List.mem_singleton.mp hc, ← q]; exact ha)⟩
        · rcases List.mem_append.mp hy with q | q
          · exact gin y q
          · rw [List.mem_singleton.mp q]
            exact ⟨hE x hxm.1 z hzE, .step hxm.2 hzE⟩
        · rw [take_snoc hz] at hy
          rcases List.mem_append.mp hy with q | q
          · exact List.mem_append_left _ (gcl y q)
          · exact List.mem_append_right _ q
      · refine bl_nil ⟨gs, _, rfl, gnd, gin, ⟨t, gt⟩, fun y hy => ?_⟩
        rw [take_snoc hz] at hy
        rcases List.mem_append.mp hy with q | q
        · exact gcl y q
        · rw [List.mem_singleton.mp q]; simpa using h
      · rintro Γ' ⟨gs, nm, h1, h2⟩
        exact bl_nil ⟨rfl, gs, nm, h1, h2⟩
    · rintro ds Γ1 ⟨rfl, gs, nm, rfl, gnd, gin, ⟨t, gt⟩, gcl⟩
      rw [List.length_map, List.take_length] at gcl
      refine bl_let 3 (hz := .inl ho) (d := .int ((at_ + 1 : Nat) : Int)) (pv_b op_add (pv_var 3) pv_int sc_add) (bl_nil ⟨ks.length - (at_ + 1), ?_, gs, at_ + 1, nm, rfl, rfl, gnd, gin, by rw [gt]; exact List.mem_append_left _ hst, by rw [gt, List.length_append]; omega, fun i y hi hy => ?_⟩)
      · have := nodup_le hnd (m := ks) fun y hy => (hin y hy).1
        omega
      · by_cases q : i = at_
        · subst q
          rw [gt, List.getElem?_append_left hlt', hx] at hy
          cases hy
          exact gcl
        · rw [gt, List.getElem?_append_left (by omega)] at hy
          intro v hv
          rw [gt]
          exact List.mem_append_left _ (hcl i y (by omega) hy v hv)
  · rintro Γ2 ⟨hge, rfl⟩
    have hge' : fs.length ≤ at_ := by
      have := of_decide_eq_false hge.symm
      rw [List.length_map] at this
      omega
    refine bl_retV 2 rfl (hz := .inl ho) ⟨fs, rfl, fun y => ⟨fun h => (hin y h).2, fun h => ?_⟩⟩
    induction h with
    | refl => exact hst
    | step _ hc ih =>
      obtain ⟨i, hi⟩ := List.getElem?_of_mem ih
      exact hcl i _ (by have := (List.getElem?_eq_some_iff.mp hi).1; omega) hi _ hc
/-! ### kinds_above -/
def succS (prs : List (Str × Str)) (x : Str) : List Str := (prs.filter fun p => decide (p.1 = x)).map (·.2)
open Classical in
noncomputable def aboveS (ks : List Str) (prs : List (Str × Str)) (x : Str) : List Str := ks.filter fun y => decide (RchS (succS prs) x y)
def uSP : D → Str × Str
  | .tup [.str a, .str b] => (a, b)
  | _ => (⟨#[]⟩, ⟨#[]⟩)
theorem uSP_p (p : Str × Str) : uSP (spairD p) = p := rfl
noncomputable def cAboves (ks : List Str) (prs : List (Str × Str)) : Fp where
  pre ds := ds = [dStrs ks, .lst (spairsD prs)] ∧ ks.Nodup ∧ (∀ p ∈ prs, p.1 ∈ ks ∧ p.2 ∈ ks) ∧ ks.length ≤ 1000 ∧ prs.length ≤ 10000
  post ds b := b = .ow (.dK (rowsK ks (aboveS ks prs)))
abbrev s_aboves : Stmt := top 37
abbrev nAboves : List Str := ["kinds", "pairs", "links", "kind", "above", "reached", "low", "high", "other"]
theorem scAboves : FnScope nAboves ["kinds", "pairs"] (defScope s_aboves) := ⟨rfl, rfl, rfl, by decide +kernel, rfl, by decide +kernel, by decide +kernel⟩
theorem ok_aboves {f : Addr} {fd : FuncData} (F : FunS K "kinds_above" s_aboves f fd) (b : Bi mg) (N : ∀ ks E s, Dx P w K mg base "spread" 2 (cSpread ks E s)) (ks : List Str) (prs : List (Str × Str)) : FnOk P w K mg base (L2.CX P w) 3 f fd ["kinds", "pairs"] (spP K (cAboves ks prs)) := by
  refine fp_ok F scAboves (fun ds ⟨h, _⟩ => by rw [h]; rfl) fun cdv A outer s e Ex ds ho ⟨hd, hnd, hpr, hl, hpl⟩ hr tk => ?_
  subst hd
  have nd := scAboves.nd
  have hsucc : ∀ x ∈ ks, ∀ y ∈ succS prs x, y ∈ ks := fun x _ y hy => by
    obtain ⟨p, hp, rfl⟩ := List.mem_map.mp hy
    exact (hpr p (List.mem_filter.mp hp).1).2
  refine bl_letO 2 (hz := .inl ho) (pn_eo pn_dK) ?_
  refine bl_for (fun ds i Γ => ds = ks.map .str ∧ ∃ x, Γ = [sD (dStrs ks), sD (.lst (spairsD prs)), sO (.dK (rowsK (ks.take i) (succS prs))), x, none, none, none, none, none]) (wv (wp_list (pv_var 0))) (gv_name 3 nd (hz := .inl ho)) ?_ ?_ ?_ (passes_of rfl)
  · rintro ds Γ1 ⟨rfl, rfl⟩
    exact ⟨rfl, none, rfl⟩
  · rintro ds i d Γ1 hdi ⟨rfl, x, rfl⟩
    obtain ⟨z, hz, rfl⟩ := strs_at' hdi
    refine ⟨_, rfl, bl_dput (Φ := Is (dStrs (succS prs z)) [sD (dStrs ks), sD (.lst (spairsD prs)), sO (.dK (rowsK (ks.take i) (succS prs))), sD (.str z), none, none, none, none, none]) 2 hr (pv_ev (pn_pv (pn_is (o' := .lst ((succS prs z).map .str)) (pn_lcA (c := spairD) (u := uSP) (l := prs) (f := fun p => [sD (dStrs ks), sD (.lst (spairsD prs)), sO (.dK (rowsK (ks.take i) (succS prs))), sD (.str z), none, none, sD (.str p.1), sD (.str p.2), none]) (own := [("low", 6), ("high", 7)]) (ix := [6, 7]) (bind := bTwo (bName 6) (bName 7)) (fun p => decide (p.1 = z)) (fun p => .str p.2) uSP_p (blk nAboves (defScope s_aboves)) nd
      (wp_list (pv_var 1)) (fun s H C cl fp => gv_two rfl (gv_name 6 nd (hz := .inl ho)) (gv_name 7 nd (hz := .inl ho))) (bindOk_two (bindOk_name 6) (bindOk_name 7)) (by decide) (.inl ho) (by omega) (fun p _ => ⟨_, _, _, rfl, rfl, rfl⟩) (fun p _ s H C cl fp => pts_if (px_cmp op_eq (pv_var 6) (pv_var 3) sc_eqS)) (fun p _ _ s H C cl fp => pv_var 7)) ?_))) ?_⟩
    · unfold succS
      rw [List.map_map]
      rfl
    · rintro d Γ1 ⟨rfl, rfl⟩
      refine ⟨_, z, rfl, pv_var 3, key_new hnd hz, by rw [rowsK_len, List.length_take]; omega, bl_nil ⟨rfl, sD (.str z), ?_⟩⟩
      rw [take_snoc hz, rowsK_app]
      rfl
  · rintro ds Γ1 ⟨rfl, x, rfl⟩
    rw [List.length_map, List.take_length]
    refine bl_frz 2 rfl (.inl ho) (bl_letO 4 (hz := .inl ho) (pn_eo pn_dK) ?_)
    refine bl_for (fun ds i Γ => ds = ks.map .str ∧ ∃ x r, Γ = [sD (dStrs ks), sD (.lst (spairsD prs)), sD (.dK (rowsK ks (succS prs))), x, sO (.dK (rowsK (ks.take i) (aboveS ks prs))), r, none, none, none]) (wv (wp_list (pv_var 0))) (gv_name 3 nd (hz := .inl ho)) ?_ ?_ ?_ (passes_of rfl)
    · rintro ds Γ1 ⟨rfl, rfl⟩
      exact ⟨rfl, x, none, rfl⟩
    · rintro ds i d Γ1 hdi ⟨rfl, x, r, rfl⟩
      obtain ⟨z, hz, rfl⟩ := strs_at' hdi
      have hzk := List.mem_of_getElem? hz
      refine ⟨_, rfl, bl_set 5 (hz := .inl ho) (Φ := fun d Γ => ∃ fs : List Str, d = dStrs fs ∧ (∀ y, y ∈ fs ↔ RchS (succS prs) z y) ∧ Γ = [sD (dStrs ks), sD (.lst (spairsD prs)), sD (.dK (rowsK ks (succS prs))), sD (.str z), sO (.dK (rowsK (ks.take i) (aboveS ks prs))), r, none, none, none]) (ev_call (U := fun _ _ _ => False) (N ks (succS prs) z) hr (by omega) takes_none (pvs_av (pvs_cons (pv_var 2) (pvs_cons (pv_var 3) pvs_nil))) ?_) ?_⟩
      · rintro ds Γ1 ⟨rfl, rfl⟩
        refine ⟨⟨rfl, hzk, hsucc, hl⟩, ?_, fun _ _ z => z.elim⟩
        rintro bb ⟨fs, rfl, hfs⟩
        exact ⟨_, .inr ⟨_, rfl, rfl⟩, fs, rfl, hfs, rfl⟩
      · rintro d Γ' ⟨fs, rfl, hfs, rfl⟩
        refine bl_dput (Φ := Is (dStrs (aboveS ks prs z)) [sD (dStrs ks), sD (.lst (spairsD prs)), sD (.dK (rowsK ks (succS prs))), sD (.str z), sO (.dK (rowsK (ks.take i) (aboveS ks prs))), sD (dStrs fs), none, none, none]) 4 hr (pv_ev (pn_pv (pn_is (o' := .lst ((aboveS ks prs z).map .str)) (pn_lcA (c := D.str) (u := uS) (l := ks) (f := fun p => [sD (dStrs ks), sD (.lst (spairsD prs)), sD (.dK (rowsK ks (succS prs))), sD (.str z), sO (.dK (rowsK (ks.take i) (aboveS ks prs))), sD (dStrs fs), none, none, sD (.str p)]) (own := [("other", 8)]) (ix := [8]) (bind := bName 8) (fun p => decide (p ∈ fs)) (fun p => .str p) uS_str (blk nAboves (defScope s_aboves)) nd
          (wp_list (pv_var 0)) (fun s H C cl fp => gv_name 8 nd (hz := .inl ho)) (bindOk_name 8) (by decide) (.inl ho) (by omega) (fun p _ => rfl) (fun p _ s H C cl fp => pts_if (px_inS (pv_var 8) (.inl (pv_var 5)))) (fun p _ _ s H C cl fp => pv_var 8)) ?_))) ?_
        · unfold aboveS
          congr 2
          exact List.filter_congr fun y _ => decide_eq_decide.mpr (hfs y)
        · rintro d Γ1 ⟨rfl, rfl⟩
          refine ⟨_, z, rfl, pv_var 3, key_new hnd hz, by rw [rowsK_len, List.length_take]; omega, bl_nil ⟨rfl, sD (.str z), sD (dStrs fs), ?_⟩⟩
          rw [take_snoc hz, rowsK_app]
          rfl
    · rintro ds Γ1 ⟨rfl, x, r, rfl⟩
      rw [List.length_map, List.take_length]
      exact bl_retV 4 rfl (hz := .inl ho) rfl
/-! ### check_rings -/
def cRings (ks : List Str) (E : Str → List Str) : Fp where
  pre ds := ds = [dStrs ks, .dK (rowsK ks E)] ∧ (∀ x ∈ ks, ∀ y ∈ E x, y ∈ ks) ∧ (∀ x y, x ∈ ks → y ∈ E x → x ∈ E y → x = y)
  post ds b := b = .st .non
abbrev s_rings : Stmt := top 38
abbrev nRings : List Str := ["kinds", "above", "low", "high"]
theorem scRings : FnScope nRings ["kinds", "above"] (defScope s_rings) := ⟨rfl, rfl, rfl, by decide +kernel, rfl, by decide +kernel, by decide +kernel⟩
theorem ok_rings {f : Addr} {fd : FuncData} (F : FunS K "check_rings" s_rings f fd) (ks : List Str) (E : Str → List Str) : FnOk P w K mg base (L2.CX P w) 1 f fd ["kinds", "above"] (spP K (cRings ks E)) := by
  refine fp_ok F scRings (fun ds ⟨h, _⟩ => by rw [h]; rfl) fun cdv A outer s e Ex ds ho ⟨hd, hE, hanti⟩ hr tk => ?_
  subst hd
  have nd := scRings.nd
  refine bl_for (fun ds i Γ => ds = ks.map .str ∧ ∃ x y, Γ = [sD (dStrs ks), sD (.dK (rowsK ks E)), x, y]) (wv (wp_list (pv_var 0))) (gv_name 2 nd (hz := .inl ho)) ?_ ?_ ?_ (passes_of rfl)
  · rintro ds Γ1 ⟨rfl, rfl⟩
    exact ⟨rfl, none, none, rfl⟩
  · rintro ds i d Γ1 hdi ⟨rfl, x, y, rfl⟩
    obtain ⟨z, hz, rfl⟩ := strs_at' hdi
    have hzk := List.mem_of_getElem? hz
    refine ⟨_, rfl, bl_for (fun ds j Γ => ds = (E z).map .str ∧ ∃ y, Γ = [sD (dStrs ks), sD (.dK (rowsK ks E)), sD (.str z), y]) (wv (wp_list (pv_dget hr (pv_var 1) (pv_var 2) (rowsK_val hzk)))) (gv_name 3 nd (hz := .inl ho)) ?_ ?_ ?_ (passes_of rfl)⟩
    · rintro ds Γ1 ⟨rfl, rfl⟩
      exact ⟨rfl, y, rfl⟩
    · rintro ds j d Γ1 hdj ⟨rfl, y, rfl⟩
      obtain ⟨v, hv, rfl⟩ := strs_at' hdj
      have hvE := List.mem_of_getElem? hv
      refine ⟨_, rfl, bl_ifR (px_w (pw_a (px_cmp op_ne (pv_var 2) (pv_var 3) sc_neS) fun _ => pw_a1 (px_inS (ns := E v) (pv_var 2) (.inl (pv_dget hr (pv_var 1) (pv_var 3) (rowsK_val (hE z hzk v hvE))))))) (fun h => ?_) fun _ => bl_nil ⟨rfl, _, rfl⟩⟩
      exfalso
      rw [Bool.and_eq_true] at h
      have h1 : z ≠ v := by simpa using h.1
      exact h1 (hanti z v hzk hvE (of_decide_eq_true h.2))
    · rintro ds Γ1 ⟨rfl, y, rfl⟩
      exact bl_nil ⟨rfl, _, _, rfl⟩
  · rintro ds Γ1 ⟨rfl, x, y, rfl⟩
    exact bl_nil rfl
end
end Kf
end
section
set_option maxRecDepth 100000
set_option maxHeartbeats 4000000
/-! KfR: a pure comprehension of two clauses. -/
namespace Kf
open PySem L2

section
variable {K : Fg} {e : Ent} {Γ : Gam}
/-- the world of the frame, seen behind what a block did -/
theorem Wd.bk {S2 S3 Sx H2 H' Hx : Hp} {σ σ4 : L2.St} {Γx : Gam} (w2 : Wd K e S2 H2 σ Γ) (k3 : Wd K e S3 H' σ Γ) (wx : Wd K e Sx Hx σ4 Γx) (px : Pur S3 H' Sx Hx) : Wd K e Sx Hx σ Γ := by
  refine ⟨wx.nx, w2.sl.len, fun j b z => ?_, w2.sl.dj, w2.sl.z⟩
  obtain ⟨v1, g1, g2⟩ := k3.sl.at_ j b z
  refine ⟨v1, g1, ?_⟩
  cases b with
  | st d => exact Rp.mono px.ss g2
  | xc a d fl => exact g2.xcm px.ss
  | nw d l => exact g2.elim
  | nt o1 o2 => exact g2.elim
  | ow o1 =>
    obtain ⟨a, e1, e2, e3, e4⟩ := g2
    cases hz2 : H' a with
    | none => exact absurd hz2 e3.some
    | some u => exact ⟨a, e1, (px.old a (by rw [hz2]; exact fun z => nomatch z)).trans e2, e3.to px.ss ((px.hh _ _ hz2).trans hz2.symm), e4⟩
theorem pur_tmp {S1 S2 Sx H1 H2 Hx : Hp} {Dn : Addr} {xs : List V} {u : HO} (s2 : Pur S1 (upd H1 Dn (.lst [])) S2 (upd H2 Dn (.lst []))) (hx : H2 Dn = some (.lst xs)) (a1 : Pur S2 H2 Sx Hx) : Pur S1 (upd H1 Dn (.lst [])) Sx (upd (upd Hx Dn u) Dn (.lst [])) := by
  have a2 : Same (upd H2 Dn (.lst [])) (upd (upd Hx Dn u) Dn (.lst [])) := by
    rw [upd_upd]
    intro c o z
    by_cases hc : c = Dn
    · subst hc
      rw [upd_same] at z ⊢
      exact z
    · rw [upd_ne hc] at z ⊢
      exact a1.hh _ _ z
  refine ⟨s2.ss.trans a1.ss, s2.hh.trans a2, fun c z => (a1.old c ?_).trans (s2.old c z)⟩
  by_cases hc : c = Dn
  · rw [hc, hx]; exact fun z => nomatch z
  · have := s2.al c z
    rw [upd_ne hc] at this
    exact this
def flat2 (es : D → List D) (g : D → D → D) (l : List D) : List D := l.flatMap fun d => (es d).map (g d)
theorem lc2_imp {vs vs1 ix ix1 : List Nat} {bind bind1 : D → Gam → Gam → Prop} {ds : List D} {f : D → Gam} {es : D → List D} {f2 : D → D → Gam} {g : D → D → D} (hb : BindOk ix bind) (hix : ∀ j ∈ ix, j ∈ vs) (hb1 : BindOk ix1 bind1) (hix1 : ∀ j ∈ ix1, j ∈ vs1) (hz : e.own = none)
    (hlen : (flat2 es g ds).length ≤ 100000) (hs : ∀ d ∈ ds, bind d (wipeG Γ vs) (f d)) (hs1 : ∀ d ∈ ds, ∀ c ∈ es d, bind1 c (wipeG (f d) vs1) (f2 d c))
    (σ : L2.St) (H : Hp) (Q : VK) (h : tPN K e Γ (.lst (flat2 es g ds)) σ H Q) :
    tLc2 (tIP K e Γ ds) (tG K e ix bind) (fun σ H Q => ∃ d ∈ ds, tPX K e (f d) true σ H Q) (fun σ H R => ∃ d ∈ ds, tIP K e (f d) (es d) σ H R) (tG K e ix1 bind1) (fun σ H Q => ∃ d ∈ ds, ∃ c ∈ es d, tPX K e (f2 d c) true σ H Q) (fun σ H Q => ∃ d ∈ ds, ∃ c ∈ es d, tP K e (f2 d c) (g d c) σ H Q) vs vs1 σ H Q := by
  obtain ⟨S, w, q⟩ := h
  refine ⟨S, w, fun S1 H1 J s1 w1 it Dn hD => ?_⟩
  have hD0 : e.H0 Dn = none := w1.nx.fresh hD
  have nsl := w1.fresh_ne hD
  have fl : ∀ i d, ds[i]? = some d → flat2 es g (ds.take (i + 1)) = flat2 es g (ds.take i) ++ (es d).map (g d) := fun i d hd => by
    have tk : ds.take (i + 1) = ds.take i ++ [d] := by rw [List.take_succ, hd]; rfl
    unfold flat2
    rw [tk, List.flatMap_append, List.flatMap_singleton]
  have fll : ∀ i d, ds[i]? = some d → ∀ j, (flat2 es g (ds.take i)).length + min j (es d).length ≤ 100000 := fun i d hd j => by
    have h1 := fl i d hd
    have h2 : flat2 es g ds = flat2 es g (ds.take (i + 1)) ++ flat2 es g (ds.drop (i + 1)) := by
      unfold flat2
      rw [← List.flatMap_append, List.take_append_drop]
    rw [h2, h1, List.length_append, List.length_append, List.length_map] at hlen
    omega
  refine ⟨fun i m H2 => m = ds.length - i ∧ i ≤ ds.length ∧ ∃ S2 xs, Pur S1 (upd H1 Dn (.lst [])) S2 (upd H2 Dn (.lst [])) ∧ Wd K e S2 H2 σ Γ ∧ S2 Dn = none ∧ H2 Dn = some (.lst xs) ∧ RpL K S2 xs (flat2 es g (ds.take i)),
    ⟨ds.length, by simp, Nat.zero_le _, S1, [], ⟨Same.refl _, by rw [upd_upd]; exact Same.refl _, fun _ _ => rfl⟩, w1.own hD, w1.nx.sh.free hD, upd_same, .nil⟩, ?_⟩
  rintro i m H2 ⟨rfl, hi, S2, xs, s2, w2, sD, hx, rx⟩
  by_cases hlt : i < ds.length
  · have hmem : ds[i] ∈ ds := List.getElem_mem hlt
    have hdi : ds[i]? = some ds[i] := List.getElem?_eq_getElem hlt
    refine .inr ⟨it.go i S2 H2 hlt s2.ss w2.nx.sh, fun H' => i + 1 ≤ ds.length ∧ ∃ S3 xs, Pur S1 (upd H1 Dn (.lst [])) S3 (upd H' Dn (.lst [])) ∧ Wd K e S3 H' σ Γ ∧ S3 Dn = none ∧ H' Dn = some (.lst xs) ∧ RpL K S3 xs (flat2 es g (ds.take (i + 1))),
      fun H' ⟨z1, z2⟩ => ⟨ds.length - (i + 1), by omega, rfl, z1, z2⟩, fun v H' y => ?_⟩
    obtain ⟨S3, p3, k3, r3⟩ := it.yld i _ S2 H2 v H' hdi s2.ss w2.nx.sh y
    have kk := k3 _ _ w2
    have w3 := kk.wipe (vs := vs) (.inl hz)
    have sD3 : S3 Dn = none := (p3.old Dn (by rw [hx]; exact fun z => nomatch z)).trans sD
    have hx3 : H' Dn = some (.lst xs) := p3.hh _ _ hx
    refine ⟨S3, wipeG Γ vs, _, _, w3, r3, hs _ hmem, fun σ4 k4 l4 w4 => ?_⟩
    have lw : σ4.length = σ.length := l4.trans (wipe_length σ vs)
    have ew : L2.wipe σ4 vs = L2.wipe σ vs := wipe_eq lw k4 hix
    refine ⟨ew, ds[i], hmem, S3, w4, fun S5 H5 s5 w5 => ?_⟩
    refine iteT ⟨ds[i], hmem, S5, w5, fun S6 H6 J1 s6 w6 it1 => ?_⟩
    have s36 := s5.trans s6
    have nDf : ∀ (j : Nat) (o' : O), (f ds[i])[j]? = some (some (.ow o')) → σ4[j]? ≠ some (some (.ref Dn)) := fun j o' h1 h2 => by
      obtain ⟨g1, g2⟩ := hb _ _ _ (hs _ hmem) j o' h1
      obtain ⟨g3, g4⟩ := wipeG_get g1
      rw [k4 j g2, wipe_ne g4] at h2
      exact nsl j o' g3 h2
    refine ⟨fun j m H7 => m = (es ds[i]).length - j ∧ j ≤ (es ds[i]).length ∧ ∃ S7 ys, Pur S1 (upd H1 Dn (.lst [])) S7 (upd H7 Dn (.lst [])) ∧ Wd K e S7 H7 σ4 (f ds[i]) ∧ Wd K e S7 H7 σ Γ ∧ Same S6 S7 ∧ S7 Dn = none ∧ H7 Dn = some (.lst ys) ∧ RpL K S7 ys (flat2 es g (ds.take i) ++ ((es ds[i]).take j).map (g ds[i])),
      ⟨(es ds[i]).length, by simp, Nat.zero_le _, S6, xs, ?_, w6, w2.bk kk w6 s36, Same.refl _, (s36.old Dn (by rw [hx3]; exact fun z => nomatch z)).trans sD3, s36.hh _ _ hx3, by rw [List.take_zero, List.map_nil, List.append_nil]; exact rx.mono (p3.ss.trans s36.ss)⟩, ?_⟩
    · have := pur_tmp (u := .lst xs) s2 hx (p3.trans s36)
      rw [upd_upd] at this
      exact this
    rintro j m H7 ⟨rfl, hj, S7, ys, s7, w7, v7, s67, sD7, hy7, ry⟩
    by_cases hlt2 : j < (es ds[i]).length
    · have hmem2 : (es ds[i])[j] ∈ es ds[i] := List.getElem_mem hlt2
      refine .inr ⟨it1.go j S7 H7 hlt2 s67 w7.nx.sh, fun H8 => j + 1 ≤ (es ds[i]).length ∧ ∃ S7 ys, Pur S1 (upd H1 Dn (.lst [])) S7 (upd H8 Dn (.lst [])) ∧ Wd K e S7 H8 σ4 (f ds[i]) ∧ Wd K e S7 H8 σ Γ ∧ Same S6 S7 ∧ S7 Dn = none ∧ H8 Dn = some (.lst ys) ∧ RpL K S7 ys (flat2 es g (ds.take i) ++ ((es ds[i]).take (j + 1)).map (g ds[i])),
        fun H8 ⟨z1, z2⟩ => ⟨(es ds[i]).length - (j + 1), by omega, rfl, z1, z2⟩, fun c H8 y8 => ?_⟩
      obtain ⟨S8, p8, k8, r8⟩ := it1.yld j _ S7 H7 c H8 (List.getElem?_eq_getElem hlt2) s67 w7.nx.sh y8
      have k84 := k8 _ _ w7
      have k8σ := k8 _ _ v7
      have w8 := k84.wipe (vs := vs1) (.inl hz)
      refine ⟨S8, wipeG (f ds[i]) vs1, _, _, w8, r8, hs1 _ hmem _ hmem2, fun σ9 k9 l9 w9 => ?_⟩
      have lw9 : σ9.length = σ4.length := l9.trans (wipe_length σ4 vs1)
      have ew9 : L2.wipe σ9 vs1 = L2.wipe σ4 vs1 := wipe_eq lw9 k9 hix1
      have sD8 : S8 Dn = none := (p8.old Dn (by rw [hy7]; exact fun z => nomatch z)).trans sD7
      have hy8 : H8 Dn = some (.lst ys) := p8.hh _ _ hy7
      refine ⟨ew9, ds[i], hmem, _, hmem2, S8, w9, fun S10 H10 s10 w10 => iteT ⟨ds[i], hmem, _, hmem2, S10, w10, fun S11 H11 yv s11 w11 r11 => ?_⟩⟩
      have st := s10.trans s11
      have sD11 : S11 Dn = none := (st.old Dn (by rw [hy8]; exact fun z => nomatch z)).trans sD8
      have tk2 : (es ds[i]).take (j + 1) = (es ds[i]).take j ++ [(es ds[i])[j]] := List.take_succ_eq_append_getElem hlt2
      refine ⟨ys, st.hh _ _ hy8, ?_, hlt2, S11, ys ++ [yv], ?_, ?_, ?_, s67.trans (p8.ss.trans st.ss), sD11, upd_same, ?_⟩
      · rw [ry.length, List.length_append, List.length_map, List.length_take]
        exact Nat.lt_of_le_of_lt (fll i _ hdi j) (by decide)
      · exact pur_tmp s7 hy7 (p8.trans st)
      · exact (w7.bk k84 w11 st).tmp sD11 hD0 nDf
      · exact (v7.bk k8σ w11 st).tmp sD11 hD0 nsl
      · rw [tk2, List.map_append, ← List.append_assoc]
        exact (ry.mono (p8.ss.trans st.ss)).append (.cons r11 .nil)
    · have ej : j = (es ds[i]).length := by omega
      subst ej
      rw [List.take_length, ← fl i _ hdi] at ry
      exact .inl ⟨it1.stop _ S7 H7 (Nat.le_refl _) s67 w7.nx.sh, hlt, S7, ys, s7, v7, sD7, hy7, ry⟩
  · have ei : i = ds.length := by omega
    subst ei
    rw [List.take_length] at rx
    have fin : Pur S H S2 H2 := by
      refine ⟨s1.ss.trans s2.ss, fun c u z => ?_, fun c z => ?_⟩
      · have h1 := s1.hh _ _ z
        have hc : c ≠ Dn := ne_of_none h1 hD
        have h2 := s2.hh c u (by rw [upd_ne hc]; exact h1)
        rw [upd_ne hc] at h2
        exact h2
      · have h1 := s1.al c z
        have hc : c ≠ Dn := fun y => h1 (by rw [y]; exact hD)
        exact (s2.old c (by rw [upd_ne hc]; exact h1)).trans (s1.old c z)
    exact .inl ⟨it.stop _ S2 H2 (Nat.le_refl _) s2.ss w2.nx.sh, q S2 H2 Dn fin w2 sD ⟨xs, hx, rx⟩ (s1.hh.free hD)⟩
end
section
variable {X : Cx} {e : Ent} {Γ : Gam}
/-- [elt for tg in it for tg1 in it1], pure -/
theorem pn_lc2 {elt tg iter tg1 iter1 : Expr} {scope : Scope} {own : List (Str × Nat)} {vs1 : List Nat} {pos : Pos} {ix ix1 : List Nat} {bind bind1 : D → Gam → Gam → Prop} {ds : List D} {f : D → Gam} {es : D → List D} {f2 : D → D → Gam} (g : D → D → D) (ok : BlkOk X.N X.env.scope scope own) (hN : X.N.Nodup) (hw : WP X e tg iter Γ ds)
    (hg : ∀ (s : Shared) (H : Hp) (C : Addr) (cl : List (Str × Addr)) (fp : List Addr), GV (X.blk s H scope (compEnvC scope cl C X.env) fp) e tg ix bind) (hb : BindOk ix bind) (hix : ∀ j ∈ ix, j ∈ own.map (·.2))
    (hw1 : ∀ d ∈ ds, ∀ (s : Shared) (H : Hp) (C : Addr) (cl : List (Str × Addr)) (fp : List Addr), WP (X.blk s H scope (compEnvC scope cl C X.env) fp) e tg1 iter1 (f d) (es d))
    (hg1 : ∀ (s : Shared) (H : Hp) (C : Addr) (cl : List (Str × Addr)) (fp : List Addr), GV (X.blk s H scope (compEnvC scope cl C X.env) fp) e tg1 ix1 bind1) (hb1 : BindOk ix1 bind1) (hix1 : ∀ j ∈ ix1, j ∈ vs1) (hv : ∀ i ∈ vs1, i ∈ own.map (·.2)) (hz : e.own = none) (hlen : (flat2 es g ds).length ≤ 100000)
    (hs : ∀ d ∈ ds, bind d (wipeG Γ (own.map (·.2))) (f d)) (hs1 : ∀ d ∈ ds, ∀ c ∈ es d, bind1 c (wipeG (f d) vs1) (f2 d c))
    (he : ∀ d ∈ ds, ∀ c ∈ es d, ∀ (s : Shared) (H : Hp) (C : Addr) (cl : List (Str × Addr)) (fp : List Addr), PV (X.blk s H scope (compEnvC scope cl C X.env) fp) e elt (f2 d c) (g d c))
    (hc : X.calm = true := by rfl) (hfs : ∀ x, foldedSetIterable iter X.env x = pure x := by intro _; rfl) (hfs1 : ∀ env x, foldedSetIterable iter1 env x = pure x := by intro _ _; rfl) : PN X e (.ListComp elt [⟨tg, iter, [], 0⟩, ⟨tg1, iter1, [], 0⟩] scope pos) Γ (.lst (flat2 es g ds)) :=
  PE.imp (pe_lc2 (tt := fun σ H Q => ∃ d ∈ ds, tPX X.K e (f d) true σ H Q) (wi1 := fun σ H R => ∃ d ∈ ds, tIP X.K e (f d) (es d) σ H R) (tt1 := fun σ H Q => ∃ d ∈ ds, ∃ c ∈ es d, tPX X.K e (f2 d c) true σ H Q) (te := fun σ H Q => ∃ d ∈ ds, ∃ c ∈ es d, tP X.K e (f2 d c) (g d c) σ H Q) hc hN hw ok hv hg
    (fun s H C cl fp => ⟨fun pins s2 σ H2 Q I ⟨d, hd, q⟩ => (pts_none (Γ := f d)).run pins s2 σ H2 Q I q⟩)
    (fun s H C cl fp => ⟨fun pins s2 σ H2 Q I ⟨d, hd, q⟩ => (hw1 d hd s H C cl fp).run pins s2 σ H2 Q I q⟩) hg1
    (fun s H C cl fp => ⟨fun pins s2 σ H2 Q I ⟨d, hd, c, hcc, q⟩ => (pts_none (Γ := f2 d c)).run pins s2 σ H2 Q I q⟩)
    (fun s H C cl fp => ⟨fun pins s2 σ H2 Q I ⟨d, hd, c, hcc, q⟩ => (he d hd c hcc s H C cl fp).run pins s2 σ H2 Q I q⟩) hfs hfs1) fun σ H Q h => lc2_imp hb hix hb1 hix1 hz hlen hs hs1 σ H Q h
end
end Kf
end
section
set_option maxRecDepth 100000
set_option maxHeartbeats 4000000
/-! KfS3: Order. -/
namespace Kf
open PySem L2

def clsB : Stmt → List Stmt
  | .ClassDef (body := b) .. => b
  | _ => []
def mem (i j : Nat) : Stmt := (clsB (top i)).getD j (.Pass ⟨0, 0, 0, 0⟩)
/-- an Order's fields -/
def dOrd (ks : List Str) (E : Str → List Str) : List (Str × D) := [("kinds", .tup (ks.map .str)), ("_above", .dK (rowsK ks E))]
/-- the class Order -/
structure OrC (K : Fg) (mg : Str → Option Value) : Prop where
  cls : Cls K (He.ga K "Order")
  nk : NoAttr K (He.ga K "Order") "kinds"
  na : NoAttr K (He.ga K "Order") "_above"
  ins : C8.InsC K (He.ga K "Order")
  gl : mg "Order" = some (.ref (He.ga K "Order"))
  rd : ClX.CRead K (He.ga K "Order") (.type "type")
  most : ∃ t, ClX.CVal K (He.ga K "Order") (.type "type") "MOST" (.int 10) (.int 10 t)
def relS (ks : List Str) (E : Str → List Str) : List (Str × Str) := ks.flatMap fun x => (E x).map fun y => (x, y)
theorem mem_relS {ks : List Str} {E : Str → List Str} {p : Str × Str} : p ∈ relS ks E ↔ p.1 ∈ ks ∧ p.2 ∈ E p.1 := by
  unfold relS
  rw [List.mem_flatMap]
  constructor
  · rintro ⟨x, hx, hp⟩
    obtain ⟨y, hy, rfl⟩ := List.mem_map.mp hp
    exact ⟨hx, hy⟩
  · rintro ⟨h1, h2⟩
    exact ⟨_, h1, List.mem_map.mpr ⟨_, h2, rfl⟩⟩
section
variable {P : Program} {w : World} {K : Fg} {mg : Str → Option Value} {base : Heap} {x qual : Str} {dvs : List V}
abbrev FunM (K : Fg) (x q : Str) (dvs : List V) (st : Stmt) (f : Addr) (fd : FuncData) : Prop := FunD K x q (defArgs st) (defBody st) (defScope st) dvs [] f fd
/-! ### Order(kinds, pairs) -/
noncomputable def cOrdI (ks : List Str) (prs : List (Str × Str)) : Fo where
  pre o ds := o = .obj "Order" [] ∧ (ds = [dStrs ks, .lst (spairsD prs)] ∨ ds = [.tup (ks.map .str), .lst (spairsD prs)]) ∧ 1 ≤ ks.length ∧ ks.length ≤ 10 ∧ ks.Nodup ∧ (∀ z ∈ ks, KName z) ∧ (∀ p ∈ prs, p.1 ∈ ks ∧ p.2 ∈ ks) ∧ prs.length ≤ 10000 ∧ (∀ x y, x ∈ ks → y ∈ aboveS ks prs x → x ∈ aboveS ks prs y → x = y)
  post o ds b o' := b = .st .non ∧ o' = .obj "Order" (dOrd ks (aboveS ks prs))
  exn _ _ _ _ _ := False
abbrev s_ordI : Stmt := mem 39 1
abbrev nOrdI : List Str := ["self", "kinds", "pairs", "listed", "low", "high", "above"]
theorem scOrdI : FnScope nOrdI ["self", "kinds", "pairs"] (defScope s_ordI) := ⟨rfl, rfl, rfl, by decide +kernel, rfl, by decide +kernel, by decide +kernel⟩
theorem ok_ordI {f : Addr} {fd : FuncData} (F : FunM K x qual dvs s_ordI f fd) (b : Bi mg) (oc : OrC K mg) (N1 : ∀ ks, Dx P w K mg base "check_kind_names" 2 (cNamesOk ks)) (N2 : ∀ ks z, Dx P w K mg base "check_listed" 3 (cListed ks z)) (N3 : ∀ ks prs, Dx P w K mg base "kinds_above" 3 (cAboves ks prs)) (N4 : ∀ ks E, Dx P w K mg base "check_rings" 1 (cRings ks E))
    (ks : List Str) (prs : List (Str × Str)) : FnOk P w K mg base (L2.CX P w) 4 f fd ["self", "kinds", "pairs"] (spO K (cOrdI ks prs)) := by
  refine fo_ok F scOrdI (fun o ds ⟨_, h, _⟩ => by rcases h with h | h <;> rw [h] <;> rfl) fun cdv A outer s e Ex o ds ⟨hob, hd, h1, h2, hnd, hnm, hpr, hpl, hanti⟩ hr tk => ?_
  have nd := scOrdI.nd
  have go : ∀ d0, d0 = .tup (ks.map .str) ∨ d0 = dStrs ks → ds = [d0, .lst (spairsD prs)] → BL (cxOf (L2.CX P w) P w K mg base nOrdI qual (defScope s_ordI) f cdv A outer s e.H0 Ex) e (defBody s_ordI) (gam0 nOrdI (.ow o :: ds.map .st)) { nx := fun Γ => ∃ o', Γ[0]? = some (some (.ow o')) ∧ (cOrdI ks prs).post o ds (.st .non) o', rt := fun b Γ => ∃ o', Γ[0]? = some (some (.ow o')) ∧ (cOrdI ks prs).post o ds b o' } := fun d0 hdd hds => by
    clear hd
    subst hds hob
    refine bl_letO 3 (hz := .inr (by decide)) (o := .lst (ks.map .str)) (pn_eo (pn_list (by
      rcases hdd with rfl | rfl
      · exact .inr (pv_var 1)
      · exact .inl (pv_var 1)) b.list)) (bl_frz 3 rfl (.inr (by decide)) ?_)
    refine bl_ifR (px_not (px_is (px_ch (k := true) (l := true) op_le op_le pv_int (pv_lenL (pv_var 3) b.len) (pv_con oc.rd oc.most oc.gl) (by
      have : true = decide ((1 : Int) ≤ ((ks.map D.str).length : Int)) := by rw [List.length_map]; exact (decide_eq_true (by omega)).symm
      rw [this]; exact sc_le) (fun _ => by
      have : true = decide (((ks.map D.str).length : Int) ≤ 10) := by rw [List.length_map]; exact (decide_eq_true (by omega)).symm
      rw [this]; exact sc_le)) rfl)) (fun h => by cases h) fun _ => ?_
    refine bl_do (pv_ev (pv_call (d := .non) (N1 ks) hr (by omega) (pvs_cons (pv_var 3) pvs_nil) ⟨rfl, hnd, hnm, by omega⟩ (fun _ h => h) (fun _ _ h => h.elim))) ?_
    rintro d Γ1 ⟨rfl, rfl⟩
    refine bl_for (fun ds i Γ => ds = spairsD prs ∧ ∃ a c, Γ = [some (.ow (.obj "Order" [])), sD d0, sD (.lst (spairsD prs)), sD (dStrs ks), a, c, none]) (wv (wp_list (pv_var 2))) (gv_two rfl (gv_name 4 nd (hz := .inr (by decide))) (gv_name 5 nd (hz := .inr (by decide)))) ?_ ?_ ?_ (passes_of rfl)
    · rintro ds Γ1 ⟨rfl, rfl⟩
      exact ⟨rfl, none, none, rfl⟩
    · rintro ds i d Γ1 hdi ⟨rfl, a, c, rfl⟩
      obtain ⟨p, hp, rfl⟩ : ∃ p, p ∈ prs ∧ d = spairD p := by
        unfold spairsD at hdi
        rw [List.getElem?_map] at hdi
        cases z : prs[i]? with
        | none => rw [z] at hdi; cases hdi
        | some p => rw [z] at hdi; cases hdi; exact ⟨p, List.mem_of_getElem? z, rfl⟩
      refine ⟨_, ⟨_, _, _, rfl, rfl, rfl⟩, bl_do (pv_ev (pv_call (d := .non) (N2 ks p.1) hr (by omega) (pvs_cons (pv_var 3) (pvs_cons (pv_var 4) pvs_nil)) (.inr rfl) (fun _ h => h.1) (fun _ _ h => h.1 (hpr p hp).1))) ?_⟩
      rintro d Γ1 ⟨rfl, rfl⟩
      refine bl_do (pv_ev (pv_call (d := .non) (N2 ks p.2) hr (by omega) (pvs_cons (pv_var 3) (pvs_cons (pv_var 5) pvs_nil)) (.inr rfl) (fun _ h => h.1) (fun _ _ h => h.1 (hpr p hp).2))) ?_
      rintro d Γ1 ⟨rfl, rfl⟩
      exact bl_nil ⟨rfl, _, _, rfl⟩
    · rintro ds Γ1 ⟨rfl, a, c, rfl⟩
      refine bl_letO 6 (hz := .inr (by decide)) (pn_eo (pn_call (N3 ks prs) hr (by omega) (pvs_cons (pv_var 3) (pvs_cons (pv_var 2) pvs_nil)) ⟨rfl, hnd, hpr, by omega, hpl⟩ (fun _ h => h) (fun _ _ h => h.elim))) (bl_frz 6 rfl (.inr (by decide)) ?_)
      refine bl_do (pv_ev (pv_call (d := .non) (N4 ks (aboveS ks prs)) hr (by omega) (pvs_cons (pv_var 3) (pvs_cons (pv_var 6) pvs_nil)) ⟨rfl, fun x _ y hy => (List.mem_filter.mp hy).1, hanti⟩ (fun _ h => h) (fun _ _ h => h.elim))) ?_
      rintro d Γ1 ⟨rfl, rfl⟩
      refine bl_fld (fs0 := []) 0 oc.cls oc.nk (pv_ev (pv_tupL (pv_var 3) b.tuple)) ?_
      rintro d Γ1 ⟨rfl, rfl⟩
      refine ⟨[], rfl, rfl, by decide, bl_fld (fs0 := []) 0 oc.cls oc.na (pv_ev (pv_var 6)) ?_⟩
      rintro d Γ1 ⟨rfl, rfl⟩
      exact ⟨_, rfl, by rfl, (show 1 < 900 by decide), bl_nil ⟨_, rfl, rfl, rfl⟩⟩
  rcases hd with h | h
  · exact go _ (.inr rfl) h
  · exact go _ (.inl rfl) h
/-! ### below -/
def cBelow (ks : List Str) (E : Str → List Str) (lo hi : Str) : Fp where
  pre ds := ds = [.obj "Order" (dOrd ks E), .str lo, .str hi] ∧ lo ∈ ks ∧ hi ∈ ks
  post ds b := b = .st (.bl (decide (hi ∈ E lo)))
  exn _ _ _ := False
abbrev s_below : Stmt := mem 39 7
abbrev nBelow : List Str := ["self", "low", "high"]
theorem scBelow : FnScope nBelow nBelow (defScope s_below) := ⟨rfl, rfl, rfl, by decide +kernel, rfl, by decide +kernel, by decide +kernel⟩
theorem ok_below {f : Addr} {fd : FuncData} (F : FunM K x qual dvs s_below f fd) (oc : OrC K mg) (N2 : ∀ ks z, Dx P w K mg base "check_listed" 3 (cListed ks z)) (ks : List Str) (E : Str → List Str) (lo hi : Str) : FnOk P w K mg base (L2.CX P w) 4 f fd nBelow (spP K (cBelow ks E lo hi)) := by
  refine fp_ok F scBelow (fun ds ⟨h, _⟩ => by rw [h]; rfl) fun cdv A outer s e Ex ds ho ⟨hd, h1, h2⟩ hr tk => ?_
  subst hd
  refine bl_do (pv_ev (pv_call (d := .non) (N2 ks lo) hr (by omega) (pvs_cons (pv_fld oc.cls oc.nk (pv_var 0) rfl) (pvs_cons (pv_var 1) pvs_nil)) (.inl rfl) (fun _ h => h.1) (fun _ _ h => h.1 h1))) ?_
  rintro d Γ1 ⟨rfl, rfl⟩
  refine bl_do (pv_ev (pv_call (d := .non) (N2 ks hi) hr (by omega) (pvs_cons (pv_fld oc.cls oc.nk (pv_var 0) rfl) (pvs_cons (pv_var 2) pvs_nil)) (.inl rfl) (fun _ h => h.1) (fun _ _ h => h.1 h2))) ?_
  rintro d Γ1 ⟨rfl, rfl⟩
  exact bl_retP (pv_inS (ns := E lo) (pv_var 2) (.inl (pv_dget hr (pv_fld oc.cls oc.na (pv_var 0) rfl) (pv_var 1) (rowsK_val h1)))) rfl
/-! ### _related -/
def cRel (ks : List Str) (E : Str → List Str) : Fp where
  pre ds := ds = [.obj "Order" (dOrd ks E)] ∧ (relS ks E).length ≤ 10000
  post ds b := b = .ow (.lst (spairsD (relS ks E)))
  exn _ _ _ := False
abbrev s_rel : Stmt := mem 39 9
abbrev nRel : List Str := ["self", "low", "high"]
theorem scRel : FnScope nRel ["self"] (defScope s_rel) := ⟨rfl, rfl, rfl, by decide +kernel, rfl, by decide +kernel, by decide +kernel⟩
theorem flat2_rel (ks : List Str) (E : Str → List Str) : flat2 (fun d => (E (uS d)).map .str) (fun d c => .tup [d, c]) (ks.map .str) = spairsD (relS ks E) := by
  unfold flat2 relS spairsD
  rw [List.flatMap_map, List.map_flatMap]
  congr 1
  funext x
  rw [List.map_map, List.map_map]
  rfl
theorem ok_rel {f : Addr} {fd : FuncData} (F : FunM K x qual dvs s_rel f fd) (oc : OrC K mg) (ks : List Str) (E : Str → List Str) : FnOk P w K mg base (L2.CX P w) 1 f fd ["self"] (spP K (cRel ks E)) := by
  refine fp_ok F scRel (fun ds ⟨h, _⟩ => by rw [h]; rfl) fun cdv A outer s e Ex ds ho ⟨hd, hl⟩ hr tk => ?_
  subst hd
  have nd := scRel.nd
  refine bl_retO (pn_eo (pn_is (o' := .lst (spairsD (relS ks E))) (pn_lc2 (own := [("low", 1), ("high", 2)]) (vs1 := [2]) (ix := [1]) (ix1 := [2]) (bind := bName 1) (bind1 := bName 2) (ds := ks.map .str) (f := fun d => [sD (.obj "Order" (dOrd ks E)), sD d, none]) (es := fun d => (E (uS d)).map .str) (f2 := fun d c => [sD (.obj "Order" (dOrd ks E)), sD d, sD c]) (fun d c => .tup [d, c]) (blk nRel (defScope s_rel)) nd
    (wp_tup (pv_fld oc.cls oc.nk (pv_var 0) rfl)) (fun s H C cl fp => gv_name 1 nd (hz := .inl ho)) (bindOk_name 1) (by decide)
    (fun d hd s H C cl fp => by
      obtain ⟨z, hz, rfl⟩ := List.mem_map.mp hd
      exact wp_list (pv_dget hr (pv_fld oc.cls oc.na (pv_var 0) rfl) (pv_var 1) (rowsK_val hz)))
    (fun s H C cl fp => gv_name 2 nd (hz := .inl ho)) (bindOk_name 2) (by decide) (by decide) ho (by rw [flat2_rel]; unfold spairsD; rw [List.length_map]; omega)
    (fun d _ => rfl) (fun d _ c _ => rfl) (fun d _ c _ s H C cl fp => pv_tup (pvs_cons (pv_var 1) (pvs_cons (pv_var 2) pvs_nil)))) (congrArg O.lst (flat2_rel ks E)))) ?_
  rintro o Γ1 ⟨rfl, rfl⟩
  rfl
/-! ### <= -/
def leS (ks : List Str) (E : Str → List Str) (ls : List Str) (G : Str → List Str) : Bool := ks.all (fun z => decide (z ∈ ls)) && (relS ks E).all fun p => decide (p.2 ∈ G p.1)
def cOrdLe (ks : List Str) (E : Str → List Str) (ls : List Str) (G : Str → List Str) : Fp where
  pre ds := ds = [.obj "Order" (dOrd ks E), .obj "Order" (dOrd ls G)] ∧ (relS ks E).length ≤ 10000
  post ds b := b = .st (.bl (leS ks E ls G))
  exn _ _ _ := False
abbrev s_ordLe : Stmt := mem 39 19
abbrev nOrdLe : List Str := ["self", "other", "kind", "low", "high"]
theorem scOrdLe : FnScope nOrdLe ["self", "other"] (defScope s_ordLe) := ⟨rfl, rfl, rfl, by decide +kernel, rfl, by decide +kernel, by decide +kernel⟩
theorem ok_ordLe {f : Addr} {fd : FuncData} (F : FunM K x qual dvs s_ordLe f fd) (b : Bi mg) (oc : OrC K mg) (R : ∀ ks E, Md P w K mg base "Order" "_related" 1 (cRel ks E)) (ks : List Str) (E : Str → List Str) (ls : List Str) (G : Str → List Str) : FnOk P w K mg base (L2.CX P w) 3 f fd ["self", "other"] (spP K (cOrdLe ks E ls G)) := by
  refine fp_ok F scOrdLe (fun ds ⟨h, _⟩ => by rw [h]; rfl) fun cdv A outer s e Ex ds ho ⟨hd, hl⟩ hr tk => ?_
  subst hd
  have nd := scOrdLe.nd
  refine bl_ifR (px_not (px_val (pv_isO oc.ins (pv_var 1) oc.gl b.isinstance))) (fun h => by cases h) fun _ => ?_
  refine bl_for (fun ds i Γ => ds = ks.map .str ∧ (∀ z ∈ ks.take i, z ∈ ls) ∧ ∃ a, Γ = [sD (.obj "Order" (dOrd ks E)), sD (.obj "Order" (dOrd ls G)), a, none, none]) (wv (wp_tup (pv_fld oc.cls oc.nk (pv_var 0) rfl))) (gv_name 2 nd (hz := .inl ho)) ?_ ?_ ?_ (passes_of rfl)
  · rintro ds Γ1 ⟨rfl, rfl⟩
    exact ⟨rfl, fun z hz => by simp at hz, none, rfl⟩
  · rintro ds i d Γ1 hdi ⟨rfl, hall, a, rfl⟩
    obtain ⟨z, hz, rfl⟩ := strs_at' hdi
    refine ⟨_, rfl, bl_ifR (px_ninS (ns := ls) (pv_var 2) (.inr (pv_fld oc.cls oc.nk (pv_var 1) rfl))) (fun h => ?_) fun h => bl_nil ⟨rfl, fun y hy => ?_, _, rfl⟩⟩
    · refine bl_retP pv_bl ?_
      show B.st (.bl false) = _
      have : leS ks E ls G = false := by
        unfold leS
        rw [Bool.and_eq_false_iff]
        refine .inl ?_
        rw [List.all_eq_false]
        exact ⟨z, List.mem_of_getElem? hz, by simpa using h⟩
      rw [this]
    · rw [take_snoc hz] at hy
      rcases List.mem_append.mp hy with q | q
      · exact hall y q
      · rw [List.mem_singleton.mp q]; simpa using h
  · rintro ds Γ1 ⟨rfl, hall, a, rfl⟩
    rw [List.length_map, List.take_length] at hall
    refine bl_retP (pv_is (pv_all (bs := ((relS ks E).filter (fun _ => true)).map fun p => decide (p.2 ∈ G p.1)) (pn_pv (pn_is (o' := .lst ((((relS ks E).filter (fun _ => true)).map fun p => decide (p.2 ∈ G p.1)).map .bl)) (pn_lcA (c := spairD) (u := uSP) (l := relS ks E) (f := fun p => [sD (.obj "Order" (dOrd ks E)), sD (.obj "Order" (dOrd ls G)), a, sD (.str p.1), sD (.str p.2)]) (own := [("low", 3), ("high", 4)]) (ix := [3, 4]) (bind := bTwo (bName 3) (bName 4)) (fun _ => true) (fun p => .bl (decide (p.2 ∈ G p.1))) uSP_p (blk nOrdLe (defScope s_ordLe)) nd
      (wp_list (pn_pv (pn_meth0 (R ks E) hr (by omega) (pv_var 0) rfl ⟨rfl, hl⟩ (fun _ h => h) (fun _ _ h => h.elim)))) (fun s H C cl fp => gv_two rfl (gv_name 3 nd (hz := .inl ho)) (gv_name 4 nd (hz := .inl ho))) (bindOk_two (bindOk_name 3) (bindOk_name 4)) (by decide) (.inl ho) (by omega) (fun p _ => ⟨_, _, _, rfl, rfl, rfl⟩) (fun p _ s H C cl fp => pts_none) (fun p hp _ s H C cl fp => pv_inS (ns := G p.1) (pv_var 4) (.inl (pv_dget hr (pv_fld oc.cls oc.na (pv_var 1) rfl) (pv_var 3) (rowsK_val (hall _ (mem_relS.mp hp).1)))))) (by rw [List.map_map]; rfl)) rfl) b.all) (d := .bl (leS ks E ls G)) (congrArg D.bl ?_)) rfl
    have e1 : ks.all (fun z => decide (z ∈ ls)) = true := by
      rw [List.all_eq_true]
      exact fun z hz => decide_eq_true (hall z hz)
    unfold leS
    rw [e1, Bool.true_and, List.all_map, filter_true]
    rfl
/-! ### == -/
def eqS (ks : List Str) (E : Str → List Str) (ls : List Str) (G : Str → List Str) : Bool := leS ks E ls G && leS ls G ks E
def cOrdEq (ks : List Str) (E : Str → List Str) (ls : List Str) (G : Str → List Str) : Fp where
  pre ds := ds = [.obj "Order" (dOrd ks E), .obj "Order" (dOrd ls G)] ∧ (relS ks E).length ≤ 10000 ∧ (relS ls G).length ≤ 10000
  post ds b := b = .st (.bl (eqS ks E ls G))
  exn _ _ _ := False
abbrev s_ordEq : Stmt := mem 39 20
abbrev nOrdEq : List Str := ["self", "other"]
theorem scOrdEq : FnScope nOrdEq nOrdEq (defScope s_ordEq) := ⟨rfl, rfl, rfl, by decide +kernel, rfl, by decide +kernel, by decide +kernel⟩
theorem ok_ordEq {f : Addr} {fd : FuncData} (F : FunM K x qual dvs s_ordEq f fd) (b : Bi mg) (oc : OrC K mg) (L : ∀ ks E ls G, Od P w K mg base "Order" "Order" .LtE 3 (cOrdLe ks E ls G)) (ks : List Str) (E : Str → List Str) (ls : List Str) (G : Str → List Str) : FnOk P w K mg base (L2.CX P w) 4 f fd nOrdEq (spP K (cOrdEq ks E ls G)) := by
  refine fp_ok F scOrdEq (fun ds ⟨h, _⟩ => by rw [h]; rfl) fun cdv A outer s e Ex ds ho ⟨hd, hl, hl2⟩ hr tk => ?_
  subst hd
  refine bl_retP (pv_is (pv_and (k := true) (l := leS ks E ls G && leS ls G ks E) (pv_isO oc.ins (pv_var 1) oc.gl b.isinstance) fun _ => pv_and (pv_own (L ks E ls G) (fun _ _ => rfl) hr (by omega) (pv_var 0) (pv_var 1) ⟨rfl, hl⟩ (fun _ h => h) (fun _ _ h => h.elim)) fun _ => pv_one (pv_own (L ls G ks E) (fun _ _ => rfl) hr (by omega) (pv_var 1) (pv_var 0) ⟨rfl, hl2⟩ (fun _ h => h) (fun _ _ h => h.elim))) (d := .bl (eqS ks E ls G)) rfl) rfl
end
end Kf
end
section
set_option maxRecDepth 100000
set_option maxHeartbeats 4000000
/-! KfU: zip of a list or tuple with a list or tuple. -/
namespace Kf
open PySem PySem.Spec PyProof.Rows L2

/-- list (true) or tuple -/
def SqX (K : Fg) : Bool → Hp → Addr → List V → Prop
  | true => SqL K
  | false => SqT K
def IterX (h : Heap) : Bool → Addr → Addr → Nat → Prop
  | true => h.IsListIter
  | false => h.IsTupleIter
def IsX (h : Heap) : Bool → Addr → Array Value → Prop
  | true => h.IsList
  | false => h.IsTuple
theorem drawsX {prog : Program} {w : World} {A : Around} (k : Bool) (hh : A.handled = none) (it l : Addr) (hne : l ≠ it) (items : Array Value) :
    Draws prog w A it [it, l] items.size (fun i v => items[i]? = some v) (fun i h => IterX h k it l i ∧ IsX h k l items) := by
  cases k
  · exact Draws.tuple hh it l hne items
  · exact Draws.list hh it l hne items
/-- at its end, and behind it -/
theorem drawsE {prog : Program} {w : World} {A : Around} (k : Bool) (hh : A.handled = none) (it l : Addr) (hne : l ≠ it) (items : Array Value) (i : Nat) (hi : items[i]? = none) :
    Draws prog w A it [it, l] i (fun _ _ => True) (fun j h => j = i ∧ IterX h k it l i ∧ IsX h k l items) := by
  cases k
  · exact ⟨fun _ _ st => let ⟨o, ho, _⟩ := st.2.1; ⟨o, ho⟩, fun _ _ _ st hk => ⟨st.1, Heap.IsTupleIter.at st.2.1 fun o e => hk it (by simp) o e, Heap.IsTuple.at st.2.2 fun o e => hk l (by simp) o e⟩,
      fun j s Q E hj st hQ => absurd st.1 (Nat.ne_of_lt hj), fun s Q E st hE => wpAny_nextOf_tuple_end hh st.2.1 st.2.2 hi hE⟩
  · exact ⟨fun _ _ st => let ⟨o, ho, _⟩ := st.2.1; ⟨o, ho⟩, fun _ _ _ st hk => ⟨st.1, Heap.IsListIter.at st.2.1 fun o e => hk it (by simp) o e, Heap.IsList.at st.2.2 fun o e => hk l (by simp) o e⟩,
      fun j s Q E hj st hQ => absurd st.1 (Nat.ne_of_lt hj), fun s Q E st hE => wpAny_nextOf_list_end hh st.2.1 st.2.2 hi hE⟩
def itObj (k : Bool) (l : Addr) : Obj := { cls := .type (if k then "list_iterator" else "tuple_iterator"), data := .fields #[.ref l, .int 0 0] }
theorem beginsX (k : Bool) (l : Addr) (items : Array Value) : Begins (.ref l) (itObj k l) fun h => IsX h k l items := by
  cases k
  · exact begins_tuple l items
  · exact begins_list l items
theorem iterX_at {k : Bool} {h h' : Heap} {it l : Addr} {i : Nat} (x : IterX h k it l i) (q : ∀ o, h.get? it = some o → h'.get? it = some o) : IterX h' k it l i := by
  cases k
  · exact Heap.IsTupleIter.at x q
  · exact Heap.IsListIter.at x q
theorem iterX_obj {k : Bool} {h : Heap} {it l : Addr} {i : Nat} (x : IterX h k it l i) : ∃ o, h.get? it = some o ∧ ∀ v, o.data ≠ .cell v := by
  cases k
  · obtain ⟨o, e, _, d⟩ := x
    exact ⟨o, e, fun v q => by rw [d] at q; cases q⟩
  · obtain ⟨o, e, _, d⟩ := x
    exact ⟨o, e, fun v q => by rw [d] at q; cases q⟩
theorem iterX_new {k : Bool} {h : Heap} {it l : Addr} (x : h.get? it = some (itObj k l)) : IterX h k it l 0 := by
  cases k
  · exact ⟨_, x, rfl, rfl⟩
  · exact ⟨_, x, rfl, rfl⟩
theorem isX_lt {k : Bool} {h : Heap} {l : Addr} {xs : Array Value} (x : IsX h k l xs) : l < h.objs.size := by
  cases k
  · obtain ⟨o, e, _⟩ := x; exact Heap.lt_size e
  · obtain ⟨o, e, _⟩ := x; exact Heap.lt_size e
theorem sqX_is {X : Cx} {pins : List (Addr × Obj)} {σ : L2.St} {H : Hp} {s : Shared} {k : Bool} {a : Addr} {xs : List V} (I : Inv X pins σ H s) (h : SqX X.K k H a xs) : ∃ its : List Value, Vals xs its ∧ IsX s.heap k a its.toArray := by
  cases k
  · obtain ⟨its, rv, p, _⟩ := I.tuple h
    exact ⟨its, rv, p⟩
  · obtain ⟨its, rv, p, _⟩ := I.list h
    exact ⟨its, rv, p.isList⟩
theorem sqX_inj {X : Cx} {pins : List (Addr × Obj)} {σ : L2.St} {H : Hp} {s : Shared} {k : Bool} {a : Addr} {xs ys : List V} (I : Inv X pins σ H s) (h : SqX X.K k H a xs) (h2 : SqX X.K k H a ys) : xs = ys := by
  cases k
  · exact I.tuple_inj h h2
  · exact I.list_inj h h2
/-- the two as they stand at each turn, the items in new pairs -/
def ItzX (K : Fg) (k1 k2 : Bool) (a b : Addr) : It :=
  ⟨fun i H => ∃ (xs ys : List V) (x y : V), SqX K k1 H a xs ∧ SqX K k2 H b ys ∧ xs[i]? = some x ∧ ys[i]? = some y,
    fun i H v H' => ∃ T x y, v = .ref T ∧ H T = none ∧ H' = upd H T (.tup [x, y]) ∧ (∀ xs, SqX K k1 H a xs → xs[i]? = some x) ∧ ∀ ys, SqX K k2 H b ys → ys[i]? = some y,
    fun i H => ∃ xs ys : List V, SqX K k1 H a xs ∧ SqX K k2 H b ys ∧ xs.length ≤ i ∧ ys.length ≤ i⟩
theorem sep_of {z TI TO i1 i2 a b : Addr} (D : ZipApart z TI TO i1 i2 a b) : ZipSep2 z TI TO i1 i2 [i1, a] [i2, b] where
  TIz := D.TIz
  TOz := D.TOz
  TITO := D.TITO
  TIi1 := D.TIi1
  mem1 := by simp
  zf1 := by simp [D.i1z.symm, D.l1z.symm]
  Tf1 := by simp [D.TOi1, D.l1TO.symm]
  TIi2 := D.TIi2
  mem2 := by simp
  zf2 := by simp [D.i2z.symm, D.l2z.symm]
  Tf2 := by simp [D.TOi2, D.l2TO.symm]
  sep1_2 := by simp [D.i12, D.l2i1.symm]
  sep2_1 := by simp [D.i12.symm, D.l1i2.symm]
theorem turn_zipX {P : Program} {w : World} {K : Fg} {elts : List Expr} {kk : Nat} {tpos : Pos} {k1 k2 : Bool} {a b z TI TO i1 i2 : Addr} (D : ZipApart z TI TO i1 i2 a b) :
    Turn P w K (.Tuple elts kk tpos) (ItzX K k1 k2 a b) [z, TI, TO, i1, i2] z (fun i h => IsZip h z TI TO .none ∧ IsPair h TI (.ref i1) (.ref i2) ∧ (∃ x y, IsPair h TO x y) ∧ IterX h k1 i1 a i ∧ IterX h k2 i2 b i) where
  mem := by simp
  obj := fun i h st c hc => by
    obtain ⟨hz, hTI, ⟨x, y, hTO⟩, h1, h2⟩ := st
    have e' : c = z ∨ c = TI ∨ c = TO ∨ c = i1 ∨ c = i2 := by simpa using hc
    rcases e' with q | q | q | q | q
    · rw [q]; exact ⟨_, hz, fun v q => nomatch q⟩
    · rw [q]; exact ⟨_, hTI, fun v q => nomatch q⟩
    · rw [q]; exact ⟨_, hTO, fun v q => nomatch q⟩
    · rw [q]; exact iterX_obj h1
    · rw [q]; exact iterX_obj h2
  keep := fun i h h' st k => by
    obtain ⟨hz, hTI, ⟨x, y, hTO⟩, h1, h2⟩ := st
    exact ⟨k z (by simp) _ hz, k TI (by simp) _ hTI, ⟨x, y, k TO (by simp) _ hTO⟩, iterX_at h1 fun o q => k i1 (by simp) o q, iterX_at h2 fun o q => k i2 (by simp) o q⟩
  item := by
    intro X hP hw hK hc i pins s σ H E I hf st hg
    subst hP hw hK
    obtain ⟨hz, hTI, ⟨x0, y0, hTO⟩, h1, h2⟩ := st
    obtain ⟨xs, ys, x, y, hqx, hqy, hx, hy⟩ := hg
    obtain ⟨its, rv, p⟩ := sqX_is I hqx
    obtain ⟨its2, rv2, p2⟩ := sqX_is I hqy
    have hzl : z < s.heap.objs.size := Heap.lt_size hz
    have hl1 : i < its.toArray.size := by
      have e1 := (List.getElem?_eq_some_iff.mp hx).1
      have e2 := rv.length
      simp; omega
    have hl2 : i < its2.toArray.size := by
      have e1 := (List.getElem?_eq_some_iff.mp hy).1
      have e2 := rv2.length
      simp; omega
    refine wpAny_pyNext_zipD2_item (sep_of D) (drawsX k1 (A := X.A.in1) (I.ok.hd hc) i1 a D.l1i1 its.toArray) (drawsX k2 (A := X.A.in1) (I.ok.hd hc) i2 b D.l2i2 its2.toArray) hz hTI hTO ⟨h1, p⟩ ⟨h2, p2⟩ hl1 hl2 fun u u2 h' tk hu hu2 z' TO' h1' h2' hT hsz hk => ?_
    obtain ⟨u', hu', ru⟩ := rv.get hx
    obtain ⟨u2', hu2', ru2⟩ := rv2.get hy
    obtain rfl : u' = u := by
      have e1 : its[i]? = some u := by simpa using hu
      rw [hu'] at e1
      exact Option.some.inj e1
    obtain rfl : u2' = u2 := by
      have e1 : its2[i]? = some u2 := by simpa using hu2
      rw [hu2'] at e1
      exact Option.some.inj e1
    refine ⟨_, rfl, wpAny_letOwnedTupleGo_zip (s := { s with heap := h', toks := tk }) z' fun h'' z'' sb => ?_⟩
    have hT2 : h''.get? s.heap.objs.size = some { cls := .type "tuple", data := .seq #[u', u2'] } := (sb.2 _ (Nat.ne_of_gt hzl)).trans hT
    have new : ObjOk X.prog X.w (upd H s.heap.objs.size (.tup [x, y])) h'' s.heap.objs.size (.tup [x, y]) :=
      ⟨by show 2 ≤ sizeLine; decide, [u', u2'], .cons ru (.cons ru2 .nil), ⟨_, hT2, rfl, _, rfl⟩⟩
    have I1 : Inv X pins σ (upd H s.heap.objs.size (.tup [x, y])) { s with heap := h'', toks := tk } :=
      I.turnedNew (t' := tk) (ch := [z, TI, TO, i1, i2]) (fun c o hb q => (sb.2 c (fun q' => hb (by simp [q']))).trans (hk c o (fun q' => hb (by simp [q'])) (fun q' => hb (by simp [q'])) (fun q' => hb (by simp [q'])) (fun q' => hb (by simp [q'])) q)) hf (Nat.le_refl _) new
    refine ⟨.ref s.heap.objs.size, _, I1, rfl, ⟨_, x, y, rfl, I.hok.fresh (Nat.le_refl _), rfl, fun l hl => by rw [sqX_inj I hl hqx]; exact hx, fun l hl => by rw [sqX_inj I hl hqy]; exact hy⟩, ⟨z'', ?_, ⟨u', u2', ?_⟩, ?_, ?_⟩, fun c hcm => ?_⟩
    · exact (sb.2 _ D.TIz).trans (hk _ _ D.TIz D.TITO D.TIi1 D.TIi2 hTI)
    · exact (sb.2 _ D.TOz).trans TO'
    · exact iterX_at h1'.1 fun o q => (sb.2 _ D.i1z).trans q
    · exact iterX_at h2'.1 fun o q => (sb.2 _ D.i2z).trans q
    · have hlt : c < s.heap.objs.size := by
        have e' : c = z ∨ c = TI ∨ c = TO ∨ c = i1 ∨ c = i2 := by simpa using hcm
        rcases e' with q | q | q | q | q
        · rw [q]; exact hzl
        · rw [q]; exact Heap.lt_size hTI
        · rw [q]; exact Heap.lt_size hTO
        · rw [q]; obtain ⟨_, e1, _⟩ := iterX_obj h1; exact Heap.lt_size e1
        · rw [q]; obtain ⟨_, e2, _⟩ := iterX_obj h2; exact Heap.lt_size e2
      rw [upd_ne (Nat.ne_of_lt hlt)]
      exact (hf c hcm).1
  done := by
    intro X hP hw hK hc i pins s σ H E I hf st hg
    subst hP hw hK
    obtain ⟨hz, hTI, ⟨x0, y0, hTO⟩, h1, h2⟩ := st
    obtain ⟨xs, ys, hqx, hqy, e1, e2⟩ := hg
    obtain ⟨its, rv, p⟩ := sqX_is I hqx
    obtain ⟨its2, rv2, p2⟩ := sqX_is I hqy
    have l1 : its.toArray[i]? = none := by have := rv.length; simp; omega
    have l2 : its2.toArray[i]? = none := by have := rv2.length; simp; omega
    exact wpAny_pyNext_zipD2_end (sep_of D) (drawsE k1 (A := X.A.in1) (I.ok.hd hc) i1 a D.l1i1 its.toArray i l1) (drawsE k2 (A := X.A.in1) (I.ok.hd hc) i2 b D.l2i2 its2.toArray i l2) hz hTI hTO ⟨rfl, h1, p⟩ ⟨rfl, h2, p2⟩ (Nat.le_refl _) (Nat.le_refl _) (.inl rfl) fun h' tk hk => ⟨rfl, I.turnedL (t' := tk) (ch := [z, TI, TO, i1, i2]) (fun c o hb q =>
      hk c o (fun q' => hb (by simp [q'])) (fun q' => hb (by simp [q'])) (fun q' => hb (by simp [q'])) (fun q' => hb (by simp [q'])) q) hf⟩
  self := fun A i s Q E st h => wpAny_pyIter_zip st.1 h
def iZipX (K : Fg) (k1 k2 : Bool) (ta : TA) : TI := fun σ H R => ta σ H fun vs H1 => ∃ a b xs ys, vs = [.ref a, .ref b] ∧ SqX K k1 H1 a xs ∧ SqX K k2 H1 b ys ∧ R (ItzX K k1 k2 a b) H1
theorem pi_zipX {X : Cx} {e e2 : Expr} {ta : TA} {p pos tpos : Pos} {elts : List Expr} {kk : Nat} (k1 k2 : Bool) (hg : Gl X "zip") (hm : X.mg "zip" = none) (ha : PA X [e, e2] ta)
    (hs : starEach [e, e2] X.env = (false, eval e X.env) :: starEach [e2] X.env := by rfl) (hpl : (backTo pos (starEach [e2] X.env)).any (·.1) = false := by rfl) :
    PI X (.Tuple elts kk tpos) (.Call (.Name "zip" p) [e, e2] [] pos) (iZipX X.K k1 k2 ta) := by
  refine ⟨fun pins s σ H R I h => ?_⟩
  refine Call_ (ld_blt I hg hm PyProof.Rows.boot_zip (PyProof.Rows.callWith_type1 (thn (ha.run pos pins s σ H _ I h) fun us s1 ⟨vs, H1, I1, r1, q1⟩ => ?_) hs hpl))
  obtain ⟨a, b, xs, ys, ex, hqx, hqy, q⟩ := q1
  subst ex
  cases r1 with
  | cons r rr =>
    cases rr with
    | cons r' rr =>
      cases rr
      cases r
      cases r'
      have fresh5 : ∀ c, c ∈ [s1.heap.objs.size + 4, s1.heap.objs.size + 2, s1.heap.objs.size + 3, s1.heap.objs.size, s1.heap.objs.size + 1] → FpOk X pins H1 c := fun c hcm => by
        have hle : s1.heap.objs.size ≤ c := by
          have e' : c = s1.heap.objs.size + 4 ∨ c = s1.heap.objs.size + 2 ∨ c = s1.heap.objs.size + 3 ∨ c = s1.heap.objs.size ∨ c = s1.heap.objs.size + 1 := by simpa using hcm
          rcases e' with z | z | z | z | z
          · rw [z]; exact Nat.le_add_right _ _
          · rw [z]; exact Nat.le_add_right _ _
          · rw [z]; exact Nat.le_add_right _ _
          · rw [z]; exact Nat.le_refl _
          · rw [z]; exact Nat.le_add_right _ _
        exact I1.fpOk hle (I1.hok.fresh hle)
      obtain ⟨its, rv, p1⟩ := sqX_is I1 hqx
      obtain ⟨its2, rv2, p2⟩ := sqX_is I1 hqy
      refine zip_begins2 (beginsX k1 a its.toArray) (beginsX k2 b its2.toArray) p1 p2 fun h' hz hTI hTO h1 h2 hsz hk => wpAny_pyIter_zip hz ?_
      have I2 : Inv X pins σ H1 { s1 with heap := h' } := I1.kept (t' := s1.toks) hk
      exact ⟨s1.heap.objs.size + 4, [s1.heap.objs.size + 4, s1.heap.objs.size + 2, s1.heap.objs.size + 3, s1.heap.objs.size, s1.heap.objs.size + 1], _, _, H1, rfl, I2, turn_zipX (PySem.W.ktu_apart s1.heap.objs.size a b (isX_lt p1) (isX_lt p2)), ⟨hz, hTI, ⟨_, _, hTO⟩, iterX_new h1, iterX_new h2⟩, fresh5, q⟩
def sqD : Bool → List D → D
  | true => .lst
  | false => .tup
theorem rp_sqX {K : Fg} {S H : Hp} {k : Bool} {v : V} {ds : List D} (s : Same S H) (r : Rp K S v (sqD k ds)) : ∃ a xs, v = .ref a ∧ (∀ H', Same S H' → SqX K k H' a xs) ∧ RpL K S xs ds := by
  cases k
  · cases r with
    | tup h1 h2 => exact ⟨_, _, rfl, fun H' s' => same_sqT s' h1, h2⟩
  · cases r with
    | lst h1 h2 => exact ⟨_, _, rfl, fun H' s' => rdq (same_rd s' h1), h2⟩
def zipD (xs ys : List D) : List D := List.zipWith (fun x y => .tup [x, y]) xs ys
section
variable {X : Cx} {e : Ent} {Γ : Gam} {x y : Expr} {p pos : Pos}
theorem wp_zip {es : List Expr} {c : Nat} {tp : Pos} {k1 k2 : Bool} {ds1 ds2 : List D} (hx : PV X e x Γ (sqD k1 ds1)) (hy : PV X e y Γ (sqD k2 ds2)) (hl : ds1.length = ds2.length) (hm : X.mg "zip" = none) (hg : Gl X "zip" := by rfl)
    (hst : starEach [x, y] X.env = (false, eval x X.env) :: starEach [y] X.env := by rfl) (hst2 : starEach [y] X.env = (false, eval y X.env) :: starEach [] X.env := by rfl) (hpl : (backTo pos (starEach [y] X.env)).any (·.1) = false := by rfl) : WP X e (.Tuple es c tp) (.Call (.Name "zip" p) [x, y] [] pos) Γ (zipD ds1 ds2) :=
  PI.imp (pi_zipX k1 k2 hg hm (pvs_cons hx (pvs_cons hy pvs_nil hst2) hst) hst hpl) fun σ H R ⟨S, w, q⟩ => ⟨S, w, fun S1 H1 vs s1 w1 r1 => by
    cases r1 with
    | cons r2 r3 =>
      cases r3 with
      | cons r4 r5 =>
        cases r5
        obtain ⟨a, xs, rfl, g1, g2⟩ := rp_sqX (Same.refl _) r2
        obtain ⟨b, ys, rfl, g3, g4⟩ := rp_sqX (Same.refl _) r4
        have lz : (zipD ds1 ds2).length = ds1.length := by unfold zipD; rw [List.length_zipWith]; omega
        refine ⟨a, b, xs, ys, rfl, g1 _ w1.nx.sh, g3 _ w1.nx.sh, q S1 H1 _ s1 w1 ⟨fun i S H hi s1 s2 => ?_, fun i d S H v H' hi s1 s2 yl => ?_, fun i S H hi s1 s2 => ?_⟩⟩
        · rw [lz] at hi
          obtain ⟨v, hv, _⟩ := g2.get (List.getElem?_eq_getElem hi)
          obtain ⟨v2, hv2, _⟩ := g4.get (List.getElem?_eq_getElem (show i < ds2.length by omega))
          exact ⟨xs, ys, v, v2, g1 _ (s1.trans s2), g3 _ (s1.trans s2), hv, hv2⟩
        · obtain ⟨T, x0, y0, rfl, hT, rfl, hx0, hy0⟩ := yl
          have hi1 : i < ds1.length := by rw [← lz]; exact (List.getElem?_eq_some_iff.mp hi).1
          have hi2 : i < ds2.length := by omega
          obtain ⟨v, hv, rv⟩ := g2.get (List.getElem?_eq_getElem hi1)
          obtain ⟨v2, hv2, rv2⟩ := g4.get (List.getElem?_eq_getElem hi2)
          have e1 := hx0 _ (g1 _ (s1.trans s2))
          have e2 := hy0 _ (g3 _ (s1.trans s2))
          rw [hv] at e1
          rw [hv2] at e2
          cases e1
          cases e2
          obtain rfl : d = .tup [ds1[i], ds2[i]] := by
            unfold zipD at hi
            rw [List.getElem?_zipWith, List.getElem?_eq_getElem hi1, List.getElem?_eq_getElem hi2] at hi
            exact (Option.some.inj hi).symm
          exact new_tup hT s2 (.cons (rv.mono s1) (.cons (rv2.mono s1) .nil))
        · rw [lz] at hi
          exact ⟨xs, ys, g1 _ (s1.trans s2), g3 _ (s1.trans s2), by rw [g2.length]; omega, by rw [g4.length]; omega⟩⟩
end
end Kf
end
section
set_option maxRecDepth 100000
set_option maxHeartbeats 4000000
/-! KfS4: Mapping(..). -/
namespace Kf
open PySem L2

def rowsF (ks : List Str) (F : Str → D) : List (Key × D) := ks.map fun x => (.inr x, F x)
theorem rowsF_val {ks : List Str} {F : Str → D} {x : Str} (h : x ∈ ks) : valD (rowsF ks F) (.inr x) = some (F x) := by
  unfold rowsF valD
  induction ks with
  | nil => cases h
  | cons a l ih =>
    rw [List.map_cons]
    by_cases q : a = x
    · subst q
      rw [List.find?_cons_of_pos (by simp)]
      rfl
    · rw [List.find?_cons_of_neg (by simpa using q)]
      exact ih ((List.mem_cons.mp h).resolve_left fun z => q z.symm)
theorem rowsF_app {a b : List Str} {F : Str → D} : rowsF (a ++ b) F = rowsF a F ++ rowsF b F := List.map_append
theorem rowsF_len {a : List Str} {F : Str → D} : (rowsF a F).length = a.length := List.length_map _
theorem keyF_new {ks : List Str} {i : Nat} {z : Str} (nd : ks.Nodup) (hz : ks[i]? = some z) {F : Str → D} : (Sum.inr z : Key) ∉ (rowsF (ks.take i) F).map (·.1) := by
  have e : (rowsF (ks.take i) F).map (·.1) = (rowsK (ks.take i) fun _ => []).map (·.1) := by
    unfold rowsF rowsK
    rw [List.map_map, List.map_map]
    rfl
  rw [e]
  exact key_new nd hz
def imgOf (ks imgs : List Str) (x : Str) : Str := imgs.getD (ks.idxOf x) ⟨#[]⟩
theorem imgOf_at {ks imgs : List Str} {i : Nat} {z : Str} (nd : ks.Nodup) (hz : ks[i]? = some z) : imgOf ks imgs z = imgs.getD i ⟨#[]⟩ := by
  unfold imgOf
  have h := nd.idxOf_getElem i (List.getElem?_eq_some_iff.mp hz).1
  rw [(List.getElem?_eq_some_iff.mp hz).2] at h
  rw [h]
def tabF (ks imgs : List Str) : List (Key × D) := rowsF ks fun x => .str (imgOf ks imgs x)
/-- an Order, by its names -/
structure Ods where
  ks : List Str
  E : Str → List Str
def Ods.d (o : Ods) : D := .obj "Order" (dOrd o.ks o.E)
def Ods.R (o : Ods) (i j : Nat) : Bool := decide (o.ks.getD j ⟨#[]⟩ ∈ o.E (o.ks.getD i ⟨#[]⟩))
def dMapT (s t : Ods) (os ot : Option V) (imgs : List Str) : List (Str × D) := [("source", s.d.tg os), ("target", t.d.tg ot), ("images", .tup (imgs.map .str)), ("_table", .dK (tabF s.ks imgs))]
def dMap (s t : Ods) (imgs : List Str) : List (Str × D) := [("source", s.d), ("target", t.d), ("images", .tup (imgs.map .str)), ("_table", .dK (tabF s.ks imgs))]
theorem dMapT_none {s t : Ods} {imgs : List Str} : dMapT s t none none imgs = dMap s t imgs := rfl
def exD : MOut → Str → List (Str × D) → Prop
  | .notL z, y, fl => y = "NotListed" ∧ fl = [(("name" : Str), D.str z)]
  | .badC n, y, fl => y = "BadCount" ∧ fl = [(("number" : Str), D.int (n : Int))]
  | .broken a b, y, fl => y = "Broken" ∧ fl = [(("pair" : Str), D.tup [.str a, .str b])]
  | .made, _, _ => False
structure MpC (K : Fg) (mg : Str → Option Value) : Prop where
  cls : Cls K (He.ga K "Mapping")
  ns : NoAttr K (He.ga K "Mapping") "source"
  nt : NoAttr K (He.ga K "Mapping") "target"
  ni : NoAttr K (He.ga K "Mapping") "images"
  nb : NoAttr K (He.ga K "Mapping") "_table"
  ins : C8.InsC K (He.ga K "Mapping")
  gl : mg "Mapping" = some (.ref (He.ga K "Mapping"))
section
variable {X : Cx} {e : Ent} {Γ : Gam} {x y : Expr} {p pos : Pos}
theorem wp_sq {tg : Expr} {k : Bool} {ds : List D} (h : PV X e x Γ (sqD k ds)) : WP X e tg x Γ ds := by
  cases k
  · exact wp_tup h
  · exact wp_list h
theorem pv_lenQ {k : Bool} {l : List D} (h : PV X e x Γ (sqD k l)) (hm : X.mg "len" = none) (hg : Gl X "len" := by rfl) (he : starEach [x] X.env = (false, eval x X.env) :: starEach [] X.env := by rfl) (hpl : (backTo pos (starEach [] X.env)).any (·.1) = false := by rfl) : PV X e (.Call (.Name "len" p) [x] [] pos) Γ (.int (l.length : Int)) := by
  cases k
  · exact pv_lenT h hm hg he hpl
  · exact pv_lenL h hm hg he hpl
theorem pv_tupQ {k : Bool} {l : List D} (h : PV X e x Γ (sqD k l)) (hm : X.mg "tuple" = none) (hg : Gl X "tuple" := by rfl) (he : starEach [x] X.env = (false, eval x X.env) :: starEach [] X.env := by rfl) (hpl : (backTo pos (starEach [] X.env)).any (·.1) = false := by rfl) : PV X e (.Call (.Name "tuple" p) [x] [] pos) Γ (.tup l) := by
  cases k
  · exact pv_tupT h hm hg he hpl
  · exact pv_tupL h hm hg he hpl
end
section
variable {P : Program} {w : World} {K : Fg} {mg : Str → Option Value} {base : Heap} {x qual : Str} {dvs : List V}
def cMapI (s t : Ods) (os ot : Option V) (imgs : List Str) (k : Bool) : Fo where
  pre o ds := o = .obj "Mapping" [] ∧ ds = [s.d.tg os, t.d.tg ot, sqD k (imgs.map .str)] ∧ s.ks.Nodup ∧ s.ks.length ≤ 1000
  post o ds b o' := b = .st .non ∧ o' = .obj "Mapping" (dMapT s t os ot imgs) ∧ MOutP s.ks s.R t.ks t.R imgs .made
  exn o ds y fl o' := ∃ m, MOutP s.ks s.R t.ks t.R imgs m ∧ exD m y fl
abbrev nMapI : List Str := ["self", "source", "target", "images", "image", "table", "kind", "low", "high"]
theorem badS {s t : Ods} {imgs : List Str} {i j : Nat} (hin : ∀ z ∈ imgs, z ∈ t.ks) (hi : i < imgs.length) (hj : j < imgs.length) :
    badP s.R t.R t.ks imgs i j = (decide (s.ks.getD j ⟨#[]⟩ ∈ s.E (s.ks.getD i ⟨#[]⟩)) && !decide (imgs.getD j ⟨#[]⟩ ∈ t.E (imgs.getD i ⟨#[]⟩))) := by
  have key : ∀ z, z ∈ t.ks → t.ks.getD (t.ks.idxOf z) ⟨#[]⟩ = z := fun z hz => by
    rw [List.getD_eq_getElem?_getD, (idx_first hz).1]
    rfl
  unfold badP Ods.R
  rw [key _ (hin _ (getD_mem hi)), key _ (hin _ (getD_mem hj))]
end
end Kf
end
section
set_option maxRecDepth 100000
set_option maxHeartbeats 4000000
/-! KfS5: Region, the Mapping's own methods. -/
namespace Kf
open PySem L2

def dReg (o : Ods) (ms : List Str) : List (Str × D) := [("order", o.d), ("members", .tup (ms.map .str))]
structure RgC (K : Fg) (mg : Str → Option Value) : Prop where
  cls : Cls K (He.ga K "Region")
  no : NoAttr K (He.ga K "Region") "order"
  nm : NoAttr K (He.ga K "Region") "members"
  gl : mg "Region" = some (.ref (He.ga K "Region"))
/-- a Mapping that stands -/
structure MapOk (s t : Ods) (im : List Str) : Prop where
  inn : ∀ z ∈ im, z ∈ t.ks
  len : im.length = s.ks.length
theorem MapOk.of {s t : Ods} {im : List Str} (m : MapOk s t im) {z : Str} (h : z ∈ s.ks) : imgOf s.ks im z ∈ t.ks := m.inn _ (getD_mem (by rw [m.len]; exact idx_lt h))
def eqO (s t : Ods) : Bool := eqS s.ks s.E t.ks t.E
theorem eqO_in {s t : Ods} (h : eqO s t = true) {z : Str} (hz : z ∈ s.ks) : z ∈ t.ks := by
  unfold eqO eqS leS at h
  rw [Bool.and_eq_true, Bool.and_eq_true, Bool.and_eq_true] at h
  exact of_decide_eq_true (List.all_eq_true.mp h.1.1 z hz)
theorem eqO_in2 {s t : Ods} (h : eqO s t = true) {z : Str} (hz : z ∈ t.ks) : z ∈ s.ks := by
  unfold eqO eqS leS at h
  rw [Bool.and_eq_true, Bool.and_eq_true, Bool.and_eq_true] at h
  exact of_decide_eq_true (List.all_eq_true.mp h.2.1 z hz)
structure OdOk (o : Ods) : Prop where
  sm : o.ks.length ≤ 1000
  rl : (relS o.ks o.E).length ≤ 10000
section
variable {P : Program} {w : World} {K : Fg} {mg : Str → Option Value} {base : Heap} {x qual : Str} {dvs : List V}
/-! ### Region(order, kinds) -/
def cRegI (o : Ods) (zs : List Str) (k : Bool) : Fo where
  pre o' ds := o' = .obj "Region" [] ∧ ds = [o.d, sqD k (zs.map .str)] ∧ (∀ z ∈ zs, z ∈ o.ks) ∧ o.ks.length ≤ 1000
  post _ ds b o' := b = .st .non ∧ o' = .obj "Region" (dReg o (o.ks.filter fun z => decide (z ∈ zs)))
  exn _ _ _ _ _ := False
abbrev s_regI : Stmt := mem 23 0
abbrev nRegI : List Str := ["self", "order", "kinds", "kind"]
theorem scRegI : FnScope nRegI ["self", "order", "kinds"] (defScope s_regI) := ⟨rfl, rfl, rfl, by decide +kernel, rfl, by decide +kernel, by decide +kernel⟩
theorem ok_regI {f : Addr} {fd : FuncData} (F : FunM K x qual dvs s_regI f fd) (b : Bi mg) (oc : OrC K mg) (rc : RgC K mg) (N2 : ∀ ks z, Dx P w K mg base "check_listed" 3 (cListed ks z)) (o : Ods) (zs : List Str) (k : Bool) : FnOk P w K mg base (L2.CX P w) 4 f fd ["self", "order", "kinds"] (spO K (cRegI o zs k)) := by
  refine fo_ok F scRegI (fun o ds ⟨_, h, _⟩ => by rw [h]; rfl) fun cdv A outer s e Ex ob ds ⟨hob, hd, hin, hl⟩ hr tk => ?_
  have nd := scRegI.nd
  subst hd hob
  refine bl_for (fun ds i Γ => ds = zs.map .str ∧ ∃ a, Γ = [some (.ow (.obj "Region" [])), sD o.d, sD (sqD k (zs.map .str)), a]) (wv (wp_sq (pv_var 2))) (gv_name 3 nd (hz := .inr (by decide))) ?_ ?_ ?_ (passes_of rfl)
  · rintro ds Γ1 ⟨rfl, rfl⟩
    exact ⟨rfl, none, rfl⟩
  · rintro ds i d Γ1 hdi ⟨rfl, a, rfl⟩
    obtain ⟨z, hz, rfl⟩ := strs_at' hdi
    refine ⟨_, rfl, bl_do (pv_ev (pv_call (d := .non) (N2 o.ks z) hr (by omega) (pvs_cons (pv_fld oc.cls oc.nk (pv_var 1) rfl) (pvs_cons (pv_var 3) pvs_nil)) (.inl rfl) (fun _ h => h.1) (fun _ _ h => h.1 (hin z (List.mem_of_getElem? hz))))) ?_⟩
    rintro d Γ1 ⟨rfl, rfl⟩
    exact bl_nil ⟨rfl, _, rfl⟩
  · rintro ds Γ1 ⟨rfl, a, rfl⟩
    refine bl_fld (fs0 := []) 0 rc.cls rc.no (pv_ev (pv_var 1)) ?_
    rintro d Γ1 ⟨rfl, rfl⟩
    refine ⟨_, rfl, by rfl, (show 0 < 900 by decide), bl_fld (fs0 := []) 0 rc.cls rc.nm (pv_ev (pv_tupL (l := (o.ks.filter fun z => decide (z ∈ zs)).map .str) (pn_pv (pn_lcA (c := D.str) (u := uS) (l := o.ks) (f := fun z => [some (.ow (.obj "Region" [("order", o.d)])), sD o.d, sD (sqD k (zs.map .str)), sD (.str z)]) (own := [("kind", 3)]) (ix := [3]) (bind := bName 3) (fun z => decide (z ∈ zs)) (fun z => .str z) uS_str (blk nRegI (defScope s_regI)) nd
      (wp_tup (pv_fld oc.cls oc.nk (pv_var 1) rfl)) (fun s H C cl fp => gv_name 3 nd (hz := .inr (by decide))) (bindOk_name 3) (by decide) (.inr (by decide)) (by omega) (fun a _ => rfl) (fun a _ s H C cl fp => pts_if (px_inS (ns := zs) (pv_var 3) (by
        cases k
        · exact .inr (pv_var 2)
        · exact .inl (pv_var 2)))) (fun a _ _ s H C cl fp => pv_var 3)) rfl) b.tuple)) ?_⟩
    rintro d Γ1 ⟨rfl, rfl⟩
    exact ⟨_, rfl, by rfl, (show 1 < 900 by decide), bl_nil ⟨_, rfl, rfl, rfl⟩⟩
/-! ### check_equal -/
def cEqual (s t : Ods) : Fp where
  pre ds := ds = [s.d, t.d] ∧ OdOk s ∧ OdOk t
  post ds b := b = .st .non ∧ eqO s t = true
  exn ds y fl := eqO s t = false ∧ y = "Unlike" ∧ fl = []
abbrev nEqual : List Str := ["one", "two"]
/-! ### mapping(kind) -/
def cMapC (s t : Ods) (im : List Str) (z : Str) : Fp where
  pre ds := ds = [.obj "Mapping" (dMap s t im), .str z]
  post ds b := b = .st (.str (imgOf s.ks im z)) ∧ z ∈ s.ks
  exn ds y fl := z ∉ s.ks ∧ y = "NotListed" ∧ fl = [(("name" : Str), D.str z)]
abbrev nMapC : List Str := ["self", "kind"]
/-! ### reached -/
def cReach (s t : Ods) (im : List Str) : Fp where
  pre ds := ds = [.obj "Mapping" (dMap s t im)] ∧ MapOk s t im ∧ OdOk t
  post ds b := b = .ow (.obj "Region" (dReg t (t.ks.filter fun z => decide (z ∈ im))))
  exn _ _ _ := False
abbrev nSelf : List Str := ["self"]
/-! ### fixed -/
def fixL (s : Ods) (im : List Str) : List Str := s.ks.filter fun z => decide (imgOf s.ks im z = z)
def cFix (s t : Ods) (im : List Str) : Fp where
  pre ds := ds = [.obj "Mapping" (dMap s t im)] ∧ OdOk s ∧ OdOk t
  post ds b := b = .ow (.obj "Region" (dReg s (fixL s im))) ∧ eqO s t = true
  exn ds y fl := eqO s t = false ∧ y = "Unlike" ∧ fl = []
abbrev nFix : List Str := ["self", "kind"]
theorem fix_fix (s : Ods) (im : List Str) : (s.ks.filter fun z => decide (z ∈ fixL s im)) = fixL s im := by
  unfold fixL
  refine List.filter_congr fun z hz => ?_
  refine decide_eq_decide.mpr ⟨fun h => ?_, fun h => List.mem_filter.mpr ⟨hz, decide_eq_true h⟩⟩
  exact of_decide_eq_true (List.mem_filter.mp h).2
/-! ### <= -/
def cMapLe (s t : Ods) (im : List Str) (s2 t2 : Ods) (im2 : List Str) : Fp where
  pre ds := ds = [.obj "Mapping" (dMap s t im), .obj "Mapping" (dMap s2 t2 im2)] ∧ OdOk s ∧ OdOk t ∧ OdOk s2 ∧ OdOk t2 ∧ MapOk s t im ∧ MapOk s2 t2 im2
  post ds b := b = .st (.bl (s.ks.all fun z => decide (imgOf s2.ks im2 z ∈ t.E (imgOf s.ks im z)))) ∧ eqO s s2 = true ∧ eqO t t2 = true
  exn ds y fl := (eqO s s2 = false ∨ eqO t t2 = false) ∧ y = "Unlike" ∧ fl = []
abbrev nMapLe : List Str := ["self", "other", "kind"]
/-! ### == -/
def cMapEq (s t : Ods) (im : List Str) (s2 t2 : Ods) (im2 : List Str) : Fp where
  pre ds := ds = [.obj "Mapping" (dMap s t im), .obj "Mapping" (dMap s2 t2 im2)] ∧ OdOk s ∧ OdOk t ∧ OdOk s2 ∧ OdOk t2
  post ds b := b = .st (.bl (eqO s s2 && eqO t t2 && s.ks.all fun z => decide (imgOf s.ks im z = imgOf s2.ks im2 z)))
  exn _ _ _ := False
/-! ### identity -/
def cIdent (o : Ods) : Fp where
  pre ds := ds = [o.d] ∧ o.ks.Nodup ∧ OdOk o ∧ MOutP o.ks o.R o.ks o.R o.ks .made
  post ds b := b = .ow (.obj "Mapping" (dMap o o o.ks))
  exn _ _ _ := False
end
end Kf
end
section
set_option maxRecDepth 100000
set_option maxHeartbeats 4000000
/-! KfT1: the law's calls under try. -/
namespace Kf
open PySem L2

section
variable {X : Cx} {e : Ent} {Γ : Gam} {x : Expr} {pos : Pos} {C f : Str}
/-- x.f, x not pure -/
theorem ev_fld {Φ Ψ : D → Gam → Prop} (c : Cls X.K (He.ga X.K C)) (na : NoAttr X.K (He.ga X.K C) f) (he : EV X e x Γ Φ) (h : ∀ d Γ1, Φ d Γ1 → ∃ fs d', d = .obj C fs ∧ fs.lookup f = some d' ∧ Ψ d' Γ1) (hb : attributeBase x f X.env (eval x X.env) = eval x X.env := by rfl) : EV X e (.Attribute x f pos) Γ Ψ :=
  PE.imp (pe_fld he hb) fun σ H Q ⟨S, w, q⟩ => ⟨S, w, fun S1 H1 v d Γ1 hd s1 w1 r1 => by
    obtain ⟨fs, d', rfl, hl, hΨ⟩ := h d Γ1 hd
    cases r1 with
    | obj h1 h2 =>
      obtain ⟨u, hu, ru⟩ := h2.lookup hl
      exact ⟨_, _, _, _, u, rfl, w1.nx.sh _ _ h1, c, na, hu, q S1 H1 u d' Γ1 hΨ s1 w1 ru⟩⟩
end
/-- an exception class that a suite looks at -/
structure XkC (K : Fg) (x : Str) : Prop where
  xf : XfC K (He.ga K x)
  ex : ExcC K (He.ga K x)
/-- e's class against a class of the text | ValueError -/
def IsK (K : Fg) (x c : Str) (b : Bool) : Prop := PySem.W.kitOne K (.ref (He.ga K x)) (.ref (He.ga K c)) = some b
structure ErC (K : Fg) (mg : Str → Option Value) : Prop where
  gNL : mg "NotListed" = some (.ref (He.ga K "NotListed"))
  gBC : mg "BadCount" = some (.ref (He.ga K "BadCount"))
  gBr : mg "Broken" = some (.ref (He.ga K "Broken"))
  gUn : mg "Unlike" = some (.ref (He.ga K "Unlike"))
  gKE : mg "KindError" = some (.ref (He.ga K "KindError"))
  gVE : mg "ValueError" = none
  nl : XkC K "NotListed"
  bc : XkC K "BadCount"
  br : XkC K "Broken"
  un : XkC K "Unlike"
  fNL : PySem.W.findIn K (.ref (He.ga K "NotListed")) "name" = some none
  fBC : PySem.W.findIn K (.ref (He.ga K "BadCount")) "number" = some none
  fBr : PySem.W.findIn K (.ref (He.ga K "Broken")) "pair" = some none
  ve : ∀ x : Str, x = "NotListed" ∨ x = "BadCount" ∨ x = "Broken" ∨ x = "Unlike" → PySem.W.kitOne K (.ref (He.ga K x)) (.type "ValueError") = some true
  ke : ∀ x : Str, x = "NotListed" ∨ x = "BadCount" ∨ x = "Broken" ∨ x = "Unlike" → PySem.W.exmOne K (.ref (He.ga K x)) (.ref (He.ga K "KindError")) = some true
  exN : PySem.W.exmOne K (.ref (He.ga K "NotListed")) (.ref (He.ga K "NotListed")) = some true
  nlnl : IsK K "NotListed" "NotListed" true
  nlbc : IsK K "NotListed" "BadCount" false
  bcnl : IsK K "BadCount" "NotListed" false
  bcbc : IsK K "BadCount" "BadCount" true
  bcbr : IsK K "BadCount" "Broken" false
  brnl : IsK K "Broken" "NotListed" false
  brbc : IsK K "Broken" "BadCount" false
  brbr : IsK K "Broken" "Broken" true
  unun : IsK K "Unlike" "Unlike" true
  unnl : IsK K "Unlike" "NotListed" false
/-- mapping(..) by an instance -/
structure CallD (P : Program) (w : World) (K : Fg) (mg : Str → Option Value) (base : Heap) : Prop where
  fn : ∃ g, StX.CallO K (He.ga K "Mapping") g ∧ ∀ s t im z, FnR P w K mg base (L2.CX P w) 4 g (spP K (cMapC s t im z))
section
variable {P : Program} {w : World} {K : Fg} {mg : Str → Option Value} {base : Heap}
/-! ### _law_called -/
def calledD (s : Ods) (im : List Str) (z : Str) : D := if z ∈ s.ks then .lst [.str "told", .str (imgOf s.ks im z)] else .lst [.str "NotListed", .str z]
def cCalled (s t : Ods) (im : List Str) (z : Str) : Fp where
  pre ds := ds = [.obj "Mapping" (dMap s t im), .str z]
  post ds b := b = .st (calledD s im z)
  exn _ _ _ := False
abbrev nCalled : List Str := ["mapping", "name", "e"]
/-! ### _law_asked -/
def leD (s : Ods) (im : List Str) (t s2 : Ods) (im2 : List Str) : Bool := s.ks.all fun z => decide (imgOf s2.ks im2 z ∈ t.E (imgOf s.ks im z))
open Classical in
noncomputable def askedD (s t : Ods) (im : List Str) (s2 t2 : Ods) (im2 : List Str) (way : Int) : D :=
  if way = 0 then (if eqO s s2 = true ∧ eqO t t2 = true then .lst [.str "told", .bl (leD s im t s2 im2)] else .lst [.str "Unlike"])
  else if eqO s t = true then .lst [.str "told", .tup ((fixL s im).map .str)] else .lst [.str "Unlike"]
noncomputable def cAsked (s t : Ods) (im : List Str) (s2 t2 : Ods) (im2 : List Str) (way : Int) : Fp where
  pre ds := ds = [.obj "Mapping" (dMap s t im), .obj "Mapping" (dMap s2 t2 im2), .int way] ∧ OdOk s ∧ OdOk t ∧ OdOk s2 ∧ OdOk t2 ∧ MapOk s t im ∧ MapOk s2 t2 im2
  post ds b := b = .st (askedD s t im s2 t2 im2 way)
  exn _ _ _ := False
abbrev nAsked : List Str := ["one", "two", "way", "e"]
/-! ### _law_made -/
def madeD (s t : Ods) (im : List Str) : MOut → D
  | .notL z => .lst [.str "NotListed", .str z]
  | .badC n => .lst [.str "BadCount", .int (n : Int)]
  | .broken a b => .lst [.str "Broken", .tup [.str a, .str b]]
  | .made => .lst [.str "made", .obj "Mapping" (dMap s t im)]
def madeL (s t : Ods) (os ot : Option V) (im : List Str) : MOut → List D
  | .notL z => [.str "NotListed", .str z]
  | .badC n => [.str "BadCount", .int (n : Int)]
  | .broken a b => [.str "Broken", .tup [.str a, .str b]]
  | .made => [.str "made", .obj "Mapping" (dMapT s t os ot im)]
theorem madeL_none {s t : Ods} {im : List Str} (m : MOut) : D.lst (madeL s t none none im m) = madeD s t im m := by
  cases m <;> rfl
def cMade (s t : Ods) (os ot : Option V) (im : List Str) : Fp where
  pre ds := ds = [s.d.tg os, t.d.tg ot, .lst (im.map .str)] ∧ s.ks.Nodup ∧ s.ks.length ≤ 1000
  post ds b := ∃ m, MOutP s.ks s.R t.ks t.R im m ∧ b = .ow (.lst (madeL s t os ot im m))
  exn _ _ _ := False
abbrev nMade : List Str := ["source", "target", "images", "e"]
theorem eo_ev {X : Cx} {e : Ent} {Γ : Gam} {x : Expr} {Φ : O → Gam → Prop} {Ψ : D → Gam → Prop} (h : EO X e x Γ Φ) (k : ∀ o Γ1, Φ o Γ1 → Ψ o.d Γ1) : EV X e x Γ Ψ :=
  PE.imp h fun σ H Q ⟨S, w, q⟩ => ⟨S, w, fun S1 H1 c o Γ1 ho s1 w1 sa ow ha => by
    obtain ⟨S2, s2, w2, r2⟩ := tO_frz s1 w w1 sa ow ha
    exact q S2 H1 _ _ Γ1 (k o Γ1 ho) s2 w2 r2⟩
end
end Kf
end
section
set_option maxRecDepth 100000
set_option maxHeartbeats 4000000
/-! KfT2: lists of texts by == and !=. -/
namespace Kf
open PySem L2

theorem eqvAll_strs : ∀ a b : List Str, PyData.eqvAll (a.map PyData.str) (b.map PyData.str) = decide (a = b)
  | [], [] => by simp [PyData.eqvAll]
  | x :: xs, [] => by simp [PyData.eqvAll]
  | [], y :: ys => by simp [PyData.eqvAll]
  | x :: xs, y :: ys => by
    have ih := eqvAll_strs xs ys
    have e : PyData.eqv (.str x) (.str y) = (x == y) := by simp [PyData.eqv]
    show (PyData.eqv (.str x) (.str y) && PyData.eqvAll (xs.map PyData.str) (ys.map PyData.str)) = _
    rw [ih, e]
    by_cases h : x = y
    · subst h
      simp
    · simp [h]
theorem dpAll_strs {K : Fg} {S H : Hp} : ∀ {vs : List V} {ns : List Str}, RpL K S vs (ns.map .str) → DpAll K H vs (ns.map PyData.str)
  | _, [], .nil => .nil
  | _, n :: ns, .cons r t => by
    cases r
    exact .cons (.str n) (dpAll_strs t)
theorem depth_strs : ∀ a : List Str, PyData.depthAll (a.map PyData.str) = 0
  | [] => by simp [PyData.depthAll]
  | x :: xs => by
    have ih := depth_strs xs
    simp [PyData.depthAll, PyData.depth, ih]
theorem lay_strs : ∀ a : List Str, (∀ z ∈ a, PyData.strOk z = true) → PyData.canLayAll0 (a.map PyData.str) = true
  | [], _ => by simp [PyData.canLayAll0]
  | x :: xs, h => by
    have ih := lay_strs xs fun z hz => h z (List.mem_cons_of_mem _ hz)
    simp [PyData.canLayAll0, PyData.canLay0, ih, h x List.mem_cons_self]
theorem shaped_strs {a : List Str} (h : ∀ z ∈ a, PyData.strOk z = true) : SeqAt.shaped (.list (a.map PyData.str)) = true := by
  unfold SeqAt.shaped
  rw [Bool.and_eq_true]
  refine ⟨?_, decide_eq_true ?_⟩
  · show PyData.canLayAll0 _ = true
    exact lay_strs a h
  · show PyData.depthAll _ + 1 ≤ 64
    rw [depth_strs]
    decide
theorem sc_eqLS {K : Fg} {a b : List Str} (ha : ∀ z ∈ a, PyData.strOk z = true) (hb : ∀ z ∈ b, PyData.strOk z = true) : Sc K (rEqD K) (dStrs a) (dStrs b) (.bl (decide (a = b))) := fun S H v1 v2 Q s r1 r2 q => by
  cases r1 with
  | lst h1 h2 =>
    cases r2 with
    | lst h3 h4 =>
      refine ⟨_, _, .lst (rdq (same_rd s h1)) (dpAll_strs h2), .lst (rdq (same_rd s h3)) (dpAll_strs h4), shaped_strs ha, shaped_strs hb, ?_⟩
      have e : PyData.eqv (.list (a.map PyData.str)) (.list (b.map PyData.str)) = decide (a = b) := eqvAll_strs a b
      rw [e]
      exact q _ (.bl _)
theorem sc_neLS {K : Fg} {a b : List Str} (ha : ∀ z ∈ a, PyData.strOk z = true) (hb : ∀ z ∈ b, PyData.strOk z = true) : Sc K (rNeD K) (dStrs a) (dStrs b) (.bl (!decide (a = b))) := fun S H v1 v2 Q s r1 r2 q => by
  cases r1 with
  | lst h1 h2 =>
    cases r2 with
    | lst h3 h4 =>
      refine ⟨_, _, .lst (rdq (same_rd s h1)) (dpAll_strs h2), .lst (rdq (same_rd s h3)) (dpAll_strs h4), shaped_strs ha, shaped_strs hb, ?_⟩
      have e : PyData.eqv (.list (a.map PyData.str)) (.list (b.map PyData.str)) = decide (a = b) := eqvAll_strs a b
      rw [e]
      exact q _ (.bl _)
section
variable {P : Program} {w : World} {K : Fg} {mg : Str → Option Value} {base : Heap}
/-! ### _law_compared -/
theorem le_lost {s t : Ods} {im im2 : List Str} {T : Nat → Nat → Bool} {ts : List Str} (hnd : s.ks.Nodup) (m1 : MapOk s t im) (m2 : MapOk s t im2) (h1 : ∀ z ∈ im, z ∈ ts) (h2 : ∀ z ∈ im2, z ∈ ts) (hT : ∀ a b, a ∈ ts → b ∈ ts → decide (b ∈ t.E a) = T (ts.idxOf a) (ts.idxOf b)) :
    leD s im t s im2 = decide (((List.range im.length).filter fun k => !T (ts.idxOf (im.getD k ⟨#[]⟩)) (ts.idxOf (im2.getD k ⟨#[]⟩))).length = 0) := by
  have key : ∀ k, k < s.ks.length → decide (imgOf s.ks im2 (s.ks.getD k ⟨#[]⟩) ∈ t.E (imgOf s.ks im (s.ks.getD k ⟨#[]⟩))) = T (ts.idxOf (im.getD k ⟨#[]⟩)) (ts.idxOf (im2.getD k ⟨#[]⟩)) := fun k hk => by
    rw [imgOf_at hnd (getD_at hk), imgOf_at hnd (getD_at hk)]
    exact hT _ _ (h1 _ (getD_mem (by rw [m1.len]; exact hk))) (h2 _ (getD_mem (by rw [m2.len]; exact hk)))
  unfold leD
  rw [Bool.eq_iff_iff, List.all_eq_true, decide_eq_true_iff, List.length_eq_zero_iff, List.filter_eq_nil_iff]
  constructor
  · intro h k hk
    have hk' : k < s.ks.length := by rw [← m1.len]; exact List.mem_range.mp hk
    have := h _ (getD_mem hk')
    rw [key k hk'] at this
    simp only [this]
    decide
  · intro h z hz
    obtain ⟨k, hk⟩ := List.getElem?_of_mem hz
    have hk' := (List.getElem?_eq_some_iff.mp hk).1
    have ez : s.ks.getD k ⟨#[]⟩ = z := by rw [List.getD_eq_getElem?_getD, hk]; rfl
    have := h k (List.mem_range.mpr (by rw [m1.len]; exact hk'))
    rw [← ez, key k hk']
    simpa using this
theorem eq_imgs {s t : Ods} {im im2 : List Str} (hnd : s.ks.Nodup) (m1 : MapOk s t im) (m2 : MapOk s t im2) : (s.ks.all fun z => decide (imgOf s.ks im z = imgOf s.ks im2 z)) = decide (im = im2) := by
  rw [Bool.eq_iff_iff, List.all_eq_true, decide_eq_true_iff]
  constructor
  · intro h
    refine List.ext_getElem (by rw [m1.len, m2.len]) fun k g1 g2 => ?_
    have hk' : k < s.ks.length := by rw [← m1.len]; exact g1
    have := of_decide_eq_true (h _ (getD_mem hk'))
    rw [imgOf_at hnd (getD_at hk'), imgOf_at hnd (getD_at hk'), List.getD_eq_getElem?_getD, List.getD_eq_getElem?_getD, List.getElem?_eq_getElem g1, List.getElem?_eq_getElem g2] at this
    exact this
  · rintro rfl z _
    exact decide_eq_true rfl
def cComp (s t t2 : Ods) (im im2 : List Str) (ts : List Str) (T : Nat → Nat → Bool) : Fp where
  pre ds := ds = [.obj "Mapping" (dMap s t im), .obj "Mapping" (dMap s t2 im2), dStrs im, dStrs im2, dRows ts.length T, dStrs ts] ∧ s.ks.Nodup ∧ OdOk s ∧ OdOk t ∧ OdOk t2 ∧ MapOk s t im ∧ MapOk s t im2 ∧ MapOk s t2 im2 ∧ eqO s s = true ∧ eqO t t2 = true ∧
    (∀ z ∈ im, z ∈ ts) ∧ (∀ z ∈ im2, z ∈ ts) ∧ (∀ z ∈ im, KName z) ∧ (∀ z ∈ im2, KName z) ∧ ts.length ≤ 1000 ∧ ∀ a b, a ∈ ts → b ∈ ts → decide (b ∈ t.E a) = T (ts.idxOf a) (ts.idxOf b)
  post ds b := b = .st (.bl true)
  exn _ _ _ := False
abbrev nComp : List Str := ["one", "two", "first", "second", "there", "tails", "lost", "k"]
abbrev pComp : List Str := ["one", "two", "first", "second", "there", "tails"]
end
end Kf
end
section
set_option maxRecDepth 100000
set_option maxHeartbeats 4000000
/-! KfT3: _law_right. -/
namespace Kf
open PySem L2

section
variable {P : Program} {w : World} {K : Fg} {mg : Str → Option Value} {base : Heap}
def cRight (s t : Ods) (im strange : List Str) : Fp where
  pre ds := ds = [.obj "Mapping" (dMap s t im), s.d, t.d, dStrs s.ks, dStrs t.ks, dStrs im, dStrs strange, .bl (eqO s t)] ∧ s.ks.Nodup ∧ OdOk s ∧ OdOk t ∧ MapOk s t im ∧ eqO s s = true ∧ eqO t t = true ∧ (∀ z ∈ strange, z ∉ s.ks) ∧ strange.length ≤ 1000
  post ds b := b = .st (.bl true)
  exn _ _ _ := False
abbrev nRight : List Str := ["mapping", "source", "target", "heads", "tails", "images", "strange", "same", "k", "name", "region", "due"]
abbrev pRight : List Str := ["mapping", "source", "target", "heads", "tails", "images", "strange", "same"]
theorem pl_tupS (k : Nat) (l : List Str) (h : l.length ≤ 10000) : Pl (k + 1) (.tup (l.map .str)) := .tup (fun d hd => by
  obtain ⟨z, _, rfl⟩ := List.mem_map.mp hd
  exact .str _ _) (by rw [List.length_map]; exact h)
theorem pl_two {z : Str} {d : D} {k : Nat} (h : Pl k d) : Pl (k + 1) (.lst [.str z, d]) := .lst (fun e he => by
  rcases List.mem_cons.mp he with rfl | he
  · exact .str _ _
  · rw [List.mem_singleton.mp he]; exact h) (by show 2 ≤ 10000; decide)
theorem fix_range {s : Ods} {im : List Str} (hnd : s.ks.Nodup) (hl : im.length = s.ks.length) : ((List.range s.ks.length).filter fun k => decide (im.getD k ⟨#[]⟩ = s.ks.getD k ⟨#[]⟩)).map (fun k => s.ks.getD k ⟨#[]⟩) = fixL s im := by
  have e : s.ks = (List.range s.ks.length).map fun k => s.ks.getD k ⟨#[]⟩ := by
    refine List.ext_getElem? fun i => ?_
    rw [List.getElem?_map]
    by_cases h : i < s.ks.length
    · rw [List.getElem?_range h, getD_at h]
      rfl
    · rw [List.getElem?_eq_none (by omega), List.getElem?_eq_none (by simp; omega)]
      rfl
  unfold fixL
  conv => rhs; arg 2; rw [e]
  rw [List.filter_map]
  congr 1
  refine List.filter_congr fun k hk => ?_
  have hk' := List.mem_range.mp hk
  show _ = decide (imgOf s.ks im (s.ks.getD k ⟨#[]⟩) = s.ks.getD k ⟨#[]⟩)
  rw [imgOf_at hnd (getD_at hk')]
end
end Kf
end
section
set_option maxRecDepth 100000
set_option maxHeartbeats 4000000
/-! KfV: C.m(..), m a staticmethod of the class C. -/
namespace L2
open PySem PySem.Spec PyProof.Rows
/-- C.m is a staticmethod: its record at p, its def at g -/
structure CSta (K : PySem.W.Frag) (C : Addr) (m : Str) (p g : Addr) : Prop where
  rd : ClX.CRead K C (.type "type")
  at_ : PySem.W.findCls K (.ref C) (.type "type") m = some (.get (.builtin "staticmethod.__get__") (.ref p) .none (.ref C))
  rc : ∃ rest, PySem.W.recIn K p "staticmethod" = some (.ref g :: rest)
  kp : PySem.W.keepIn K (.ref g) = true
section
variable {X : Cx} {k : Nat} {C p g : Addr} {sp : Sp} {W : WX} {o e : Expr} {es : List Expr} {m : Str} {pos apos : Pos} {ta : TE} {t : TA} {pl : Sem Bool}
theorem pe_smeth (he : PE X o ta) (c : CSta X.K C m p g) (F : FnR X.prog X.w X.K X.mg X.base (L2.CX X.prog X.w) k g sp) (hr : Room k X.A) (tk : Takes X W) (ha : PA X (e :: es) t)
    (hst : starEach (e :: es) X.env = (false, eval e X.env) :: starEach es X.env := by rfl) (hpl : (backTo pos (starEach es X.env)).any (·.1) = false := by rfl)
    (ht : eval (.Call (.Attribute o m apos) (e :: es) [] pos) X.env = (do
      let ov ← eval o X.env
      standAt apos.atName
      let (f, first) ← holding [ov] (getMethod ov m pl)
      callWith pos f first (backTo pos (starEach (e :: es) X.env)) (backToKw pos (keywordEach [] X.env))) := by rfl) :
    PE X (.Call (.Attribute o m apos) (e :: es) [] pos) (fun σ H Q => ta σ H fun x H1 => x = .ref C ∧ t σ H1 fun vs H2 => sp vs H2 Q fun c d H3 => W c d σ H3) := by
  refine ⟨fun pins s σ H Q I h => ?_⟩
  refine PySem.W.methodCall_KW (pl := pl) (thn (he.run pins s σ H _ I h) fun u s1 ⟨x, H1, I1, rx, ex, q⟩ => ?_) ht
  subst ex
  obtain rfl : u = Value.ref C := rx
  obtain ⟨rest, hp⟩ := c.rc
  refine PySem.W.method_cls I1.kIn c.rd.ga (PySem.W.cls_bind I1.kIn c.rd.rd c.at_ (wpAny_call (PySem.W.sm_get (s := { s1 with toks := s1.toks + 1 }) I1.kIn hp (PySem.W.handed_on rfl ?_))))
  have I2 : Inv X pins σ H1 { s1 with toks := s1.toks + 1 } := I1.tok _
  refine PySem.W.callWith_K (h₀ := X.base) I2.ok.mod.kin c.kp (thn (ha.run pos pins _ σ H1 _ I2 q) fun us s3 ⟨vs, H2, I3, rv, q2⟩ => ⟨I3.kIn, ?_⟩) hst hpl
  exact Kf.run_fnW F hr tk I3 rv q2
end
end L2
namespace Kf
open PySem L2
section
variable {X : Cx} {e : Ent} {Γ : Gam} {C m : Str} {a : Expr} {es : List Expr} {pos apos p : Pos} {n j : Nat}
/-- C.m(..), one's own, no error -/
theorem pn_smeth {c : Fp} {q g : Addr} {ds : List D} {o : O} {pl : Sem Bool} (S1 : CSta X.K (He.ga X.K C) m q g) (F : FnR X.prog X.w X.K X.mg X.base (L2.CX X.prog X.w) n g (spP X.K c)) (hmC : X.mg C = some (.ref (He.ga X.K C))) (hr : Room j X.A) (hj : n ≤ j) (ha : PVs X e (a :: es) Γ ds) (hp : c.pre ds) (hq : ∀ b, c.post ds b → b = .ow o) (hn : ∀ y fl, ¬ c.exn ds y fl)
    (hgC : Gl X C := by rfl) (hd : (C == ("__debug__" : Str)) = false := by decide)
    (hst : starEach (a :: es) X.env = (false, eval a X.env) :: starEach es X.env := by rfl) (hpl : (backTo pos (starEach es X.env)).any (·.1) = false := by rfl)
    (ht : eval (.Call (.Attribute (.Name C p) m apos) (a :: es) [] pos) X.env = (do
      let ov ← eval (.Name C p) X.env
      standAt apos.atName
      let (f, first) ← holding [ov] (getMethod ov m pl)
      callWith pos f first (backTo pos (starEach (a :: es) X.env)) (backToKw pos (keywordEach [] X.env))) := by rfl) : PN X e (.Call (.Attribute (.Name C p) m apos) (a :: es) [] pos) Γ o :=
  PE.imp (pe_smeth (W := fun _ _ _ _ => False) (pe_glob (v := .ref (He.ga X.K C)) hgC hmC rfl hd) S1 F (hr.mono hj) takes0 ha hst hpl ht) fun σ H Q ⟨S, w, k⟩ => ⟨rfl, S, w, fun S1 H1 vs s1 w1 r1 => by
    refine ⟨S1, ds, w1.nx.sh, r1, hp, fun S3 H3 v b hb n3 r3 => ?_, fun S3 H3 y fl cls dd hy => (hn y fl hy).elim⟩
    obtain ⟨w3, s3⟩ := w1.after n3
    rw [hq b hb] at r3
    obtain ⟨p3, rfl, sp3, ow3, z0⟩ := r3
    exact k S3 H3 p3 (s1.trans s3) w3 sp3 ow3 (s1.hh.free z0)⟩
end
end Kf
end
section
set_option maxRecDepth 100000
set_option maxHeartbeats 4000000
/-! KfT4: == and != of plain data of any shape. -/
namespace Kf
open PySem L2

/-- the datum d as the kit's plain data -/
inductive PyD : D → PyData → Prop
  | non : PyD .non .none
  | bl (b : Bool) : PyD (.bl b) (.bool b)
  | int (i : Int) : PyD (.int i) (.int i)
  | str (z : Str) : PyD (.str z) (.str z)
  | lnil : PyD (.lst []) (.list [])
  | lcons {d : D} {p : PyData} {l : List D} {q : List PyData} : PyD d p → PyD (.lst l) (.list q) → PyD (.lst (d :: l)) (.list (p :: q))
  | tnil : PyD (.tup []) (.tuple [])
  | tcons {d : D} {p : PyData} {l : List D} {q : List PyData} : PyD d p → PyD (.tup l) (.tuple q) → PyD (.tup (d :: l)) (.tuple (p :: q))
theorem pyD_dp {K : Fg} {S H : Hp} (s : Same S H) {d : D} {p : PyData} (h : PyD d p) : (∀ v, Rp K S v d → Dp K H v p) ∧ (∀ l q, d = .lst l → p = .list q → ∀ vs, RpL K S vs l → DpAll K H vs q) ∧ (∀ l q, d = .tup l → p = .tuple q → ∀ vs, RpL K S vs l → DpAll K H vs q) := by
  induction h with
  | non => exact ⟨fun v r => by cases r; exact .non, fun l q h => (nomatch h), fun l q h => (nomatch h)⟩
  | bl b => exact ⟨fun v r => by cases r; exact .bl b, fun l q h => (nomatch h), fun l q h => (nomatch h)⟩
  | int i => exact ⟨fun v r => by cases r; exact .int i, fun l q h => (nomatch h), fun l q h => (nomatch h)⟩
  | str z => exact ⟨fun v r => by cases r; exact .str z, fun l q h => (nomatch h), fun l q h => (nomatch h)⟩
  | lnil => exact ⟨fun v r => by
      cases r with
      | lst h1 h2 => cases h2; exact .lst (rdq (same_rd s h1)) .nil, fun l q h h' vs r => by cases h; cases h'; cases r; exact .nil, fun l q h => (nomatch h)⟩
  | tnil => exact ⟨fun v r => by
      cases r with
      | tup h1 h2 => cases h2; exact .tup (same_sqT s h1) .nil, fun l q h => (nomatch h), fun l q h h' vs r => by cases h; cases h'; cases r; exact .nil⟩
  | @lcons d0 p0 l0 q0 a b iha ihb =>
    have key : ∀ vs, RpL K S vs (d0 :: l0) → DpAll K H vs (p0 :: q0) := fun vs r => by
      cases r with
      | cons r1 r2 => exact .cons (iha.1 _ r1) (ihb.2.1 _ _ rfl rfl _ r2)
    exact ⟨fun v r => by
      cases r with
      | lst h1 h2 => exact .lst (rdq (same_rd s h1)) (key _ h2), fun l q h h' vs r => by cases h; cases h'; exact key vs r, fun l q h => (nomatch h)⟩
  | @tcons d0 p0 l0 q0 a b iha ihb =>
    have key : ∀ vs, RpL K S vs (d0 :: l0) → DpAll K H vs (p0 :: q0) := fun vs r => by
      cases r with
      | cons r1 r2 => exact .cons (iha.1 _ r1) (ihb.2.2 _ _ rfl rfl _ r2)
    exact ⟨fun v r => by
      cases r with
      | tup h1 h2 => exact .tup (same_sqT s h1) (key _ h2), fun l q h => (nomatch h), fun l q h h' vs r => by cases h; cases h'; exact key vs r⟩
theorem sc_eqP {K : Fg} {a b : D} {p q : PyData} (ha : PyD a p) (hb : PyD b q) (sa : SeqAt.shaped p = true) (sb : SeqAt.shaped q = true) : Sc K (rEqD K) a b (.bl (PyData.eqv p q)) := fun S H v1 v2 Q s r1 r2 k => ⟨_, _, (pyD_dp s ha).1 _ r1, (pyD_dp s hb).1 _ r2, sa, sb, k _ (.bl _)⟩
theorem sc_neP {K : Fg} {a b : D} {p q : PyData} (ha : PyD a p) (hb : PyD b q) (sa : SeqAt.shaped p = true) (sb : SeqAt.shaped q = true) : Sc K (rNeD K) a b (.bl (!PyData.eqv p q)) := fun S H v1 v2 Q s r1 r2 k => ⟨_, _, (pyD_dp s ha).1 _ r1, (pyD_dp s hb).1 _ r2, sa, sb, k _ (.bl _)⟩
end Kf
end
section
set_option maxRecDepth 100000
set_option maxHeartbeats 4000000
/-! KfW0: plain: the program's order against the law's own table. -/
namespace Kf
open PySem L2

theorem RchS.trans {E : Str → List Str} {a b c : Str} (h : RchS E a b) (q : RchS E b c) : RchS E a c := by
  induction q with
  | refl => exact h
  | step _ e ih => exact .step ih e
theorem mem_succS {prs : List (Str × Str)} {x y : Str} : y ∈ succS prs x ↔ (x, y) ∈ prs := by
  unfold succS
  rw [List.mem_map]
  constructor
  · rintro ⟨⟨a, b⟩, h, rfl⟩
    have := List.mem_filter.mp h
    have e : a = x := by simpa using this.2
    subst e
    exact this.1
  · intro h
    exact ⟨(x, y), List.mem_filter.mpr ⟨h, by simp⟩, rfl⟩
open Classical in
theorem mem_aboveS {ks : List Str} {prs : List (Str × Str)} {x y : Str} : y ∈ aboveS ks prs x ↔ y ∈ ks ∧ RchS (succS prs) x y := by
  unfold aboveS
  rw [List.mem_filter, decide_eq_true_iff]
/-- pairs that go up a rank -/
def Ranked (prs : List (Str × Str)) : Prop := ∃ rk : Str → Int, ∀ p ∈ prs, rk p.1 < rk p.2
theorem rch_rank {prs : List (Str × Str)} {rk : Str → Int} (h : ∀ p ∈ prs, rk p.1 < rk p.2) {x y : Str} (q : RchS (succS prs) x y) : x = y ∨ rk x < rk y := by
  induction q with
  | refl => exact .inl rfl
  | step _ e ih =>
    have := h _ (mem_succS.mp e)
    rcases ih with ih | ih
    · subst ih; exact .inr this
    · exact .inr (by have := this; simp only at this; omega)
theorem anti_of {ks : List Str} {prs : List (Str × Str)} (h : Ranked prs) : ∀ x y, x ∈ ks → y ∈ aboveS ks prs x → x ∈ aboveS ks prs y → x = y := fun x y _ h1 h2 => by
  obtain ⟨rk, h⟩ := h
  rcases rch_rank h (mem_aboveS.mp h1).2 with q | q
  · exact q
  · rcases rch_rank h (mem_aboveS.mp h2).2 with z | z
    · exact z.symm
    · omega
/-- the pairs by places -/
def plc (ks : List Str) (prs : List (Str × Str)) : List (Nat × Nat) := prs.map fun p => (ks.idxOf p.1, ks.idxOf p.2)
theorem plc_in {ks : List Str} {prs : List (Str × Str)} (h : ∀ p ∈ prs, p.1 ∈ ks ∧ p.2 ∈ ks) : ∀ p ∈ plc ks prs, p.1 < ks.length ∧ p.2 < ks.length := fun p hp => by
  obtain ⟨q, hq, rfl⟩ := List.mem_map.mp hp
  exact ⟨idx_lt (h q hq).1, idx_lt (h q hq).2⟩
theorem idx_inj {ks : List Str} {a b : Str} (ha : a ∈ ks) (hb : b ∈ ks) (h : ks.idxOf a = ks.idxOf b) : a = b := by
  have h1 := (idx_first ha).1
  have h2 := (idx_first hb).1
  rw [h, h2] at h1
  exact (Option.some.inj h1).symm
theorem rch_plc {ks : List Str} {prs : List (Str × Str)} (h : ∀ p ∈ prs, p.1 ∈ ks ∧ p.2 ∈ ks) {a b : Str} (ha : a ∈ ks) (hb : b ∈ ks) : RchS (succS prs) a b ↔ Rch (plc ks prs) (ks.idxOf a) (ks.idxOf b) := by
  constructor
  · intro q
    induction q with
    | refl => exact .refl _
    | @step y z p e ih =>
      have hm := mem_succS.mp e
      exact .step (ih (h _ hm).1) (List.mem_map.mpr ⟨_, hm, rfl⟩)
  · intro q
    have key : ∀ {i j : Nat}, Rch (plc ks prs) i j → ∀ a b, a ∈ ks → b ∈ ks → i = ks.idxOf a → j = ks.idxOf b → RchS (succS prs) a b := by
      intro i j q
      induction q with
      | refl =>
        intro a b ha hb h1 h2
        have := idx_inj ha hb (h1.symm.trans h2)
        subst this
        exact .refl _
      | step _ e ih =>
        intro a b ha hb h1 h2
        obtain ⟨p, hp, he⟩ := List.mem_map.mp e
        injection he with e1 e2
        have hb' : p.2 = b := idx_inj (h p hp).2 hb (e2.trans h2)
        subst hb'
        exact .step (ih a p.1 ha (h p hp).1 h1 e1.symm) (mem_succS.mpr hp)
    exact key q a b ha hb rfl rfl
/-- one order of the law -/
structure LOrd (ks : List Str) (prs : List (Str × Str)) : Prop where
  nd : ks.Nodup
  kn : ∀ z ∈ ks, KName z
  l1 : 1 ≤ ks.length
  l4 : ks.length ≤ 10
  pin : ∀ p ∈ prs, p.1 ∈ ks ∧ p.2 ∈ ks
  pl : prs.length ≤ 1000
  rk : Ranked prs
noncomputable def lod (ks : List Str) (prs : List (Str × Str)) : Ods := ⟨ks, aboveS ks prs⟩
def tabR (ks : List Str) (prs : List (Str × Str)) : Nat → Nat → Bool := warsh ks.length (plc ks prs)
section
variable {ks : List Str} {prs : List (Str × Str)}
theorem LOrd.tab (o : LOrd ks prs) {a b : Str} (ha : a ∈ ks) (hb : b ∈ ks) : decide (b ∈ aboveS ks prs a) = tabR ks prs (ks.idxOf a) (ks.idxOf b) := by
  rw [Bool.eq_iff_iff, decide_eq_true_iff, mem_aboveS]
  unfold tabR
  rw [warsh_iff (plc_in o.pin), rch_plc o.pin ha hb]
  exact ⟨fun h => h.2, fun h => ⟨hb, h⟩⟩
theorem LOrd.R (o : LOrd ks prs) {i j : Nat} (hi : i < ks.length) (hj : j < ks.length) : (lod ks prs).R i j = tabR ks prs i j := by
  have h1 := o.nd.idxOf_getElem i hi
  have h2 := o.nd.idxOf_getElem j hj
  have e1 : ks.getD i ⟨#[]⟩ = ks[i] := by rw [List.getD_eq_getElem?_getD, List.getElem?_eq_getElem hi]; rfl
  have e2 : ks.getD j ⟨#[]⟩ = ks[j] := by rw [List.getD_eq_getElem?_getD, List.getElem?_eq_getElem hj]; rfl
  show decide (ks.getD j ⟨#[]⟩ ∈ aboveS ks prs (ks.getD i ⟨#[]⟩)) = _
  rw [e1, e2, o.tab (List.getElem_mem hi) (List.getElem_mem hj), h1, h2]
theorem LOrd.refl (o : LOrd ks prs) {i : Nat} : tabR ks prs i i = true := (warsh_iff (plc_in o.pin)).mpr (.refl _)
theorem sum_le {α : Type} {f : α → Nat} {n : Nat} : ∀ l : List α, (∀ x ∈ l, f x ≤ n) → (l.map f).sum ≤ l.length * n
  | [], _ => by simp
  | a :: l, h => by
    have ih := sum_le l fun x hx => h x (List.mem_cons_of_mem _ hx)
    have := h a List.mem_cons_self
    simp only [List.map_cons, List.sum_cons, List.length_cons, Nat.add_mul, Nat.one_mul]
    omega
theorem LOrd.ok (o : LOrd ks prs) : OdOk (lod ks prs) := by
  refine ⟨by have := o.l4; show ks.length ≤ 1000; omega, ?_⟩
  show (relS ks (aboveS ks prs)).length ≤ 10000
  unfold relS
  rw [List.length_flatMap]
  have h1 : (ks.map fun x => ((aboveS ks prs x).map fun y => (x, y)).length).sum ≤ ks.length * ks.length := sum_le ks fun x _ => by
    rw [List.length_map]
    exact List.length_filter_le _ _
  have h2 : ks.length * ks.length ≤ 10 * 10 := Nat.mul_le_mul o.l4 o.l4
  omega
theorem leS_iff {ks ls : List Str} {E G : Str → List Str} : leS ks E ls G = true ↔ (∀ z ∈ ks, z ∈ ls) ∧ ∀ x ∈ ks, ∀ y ∈ E x, y ∈ G x := by
  unfold leS
  rw [Bool.and_eq_true, List.all_eq_true, List.all_eq_true]
  constructor
  · rintro ⟨h1, h2⟩
    exact ⟨fun z hz => of_decide_eq_true (h1 z hz), fun x hx y hy => of_decide_eq_true (h2 (x, y) (mem_relS.mpr ⟨hx, hy⟩))⟩
  · rintro ⟨h1, h2⟩
    exact ⟨fun z hz => decide_eq_true (h1 z hz), fun p hp => decide_eq_true (h2 _ (mem_relS.mp hp).1 _ (mem_relS.mp hp).2)⟩
theorem eqO_self {o : Ods} : eqO o o = true := by
  unfold eqO eqS
  rw [Bool.and_eq_true]
  have : leS o.ks o.E o.ks o.E = true := leS_iff.mpr ⟨fun _ h => h, fun _ _ _ h => h⟩
  exact ⟨this, this⟩
theorem nodup_sub_len {a b : List Str} (hn : a.Nodup) (h : ∀ z ∈ a, z ∈ b) : a.length ≤ b.length := nodup_le hn h
theorem nodup_mem {a b : List Str} (hn : a.Nodup) (h : ∀ z ∈ a, z ∈ b) (hl : b.length ≤ a.length) : ∀ z ∈ b, z ∈ a := fun z hz => by
  refine Classical.byContradiction fun hz2 => ?_
  have := nodup_le (l := z :: a) (m := b) (List.nodup_cons.mpr ⟨hz2, hn⟩) fun x hx => by
    rcases List.mem_cons.mp hx with q | q
    · rw [q]; exact hz
    · exact h x q
  rw [List.length_cons] at this
  omega
theorem eqO_alike {hs ts : List Str} {p q : List (Str × Str)} (o1 : LOrd hs p) (o2 : LOrd ts q) : eqO (lod hs p) (lod ts q) = true ↔ AlikeP hs (tabR hs p) ts (tabR ts q) := by
  have e : eqO (lod hs p) (lod ts q) = (leS hs (aboveS hs p) ts (aboveS ts q) && leS ts (aboveS ts q) hs (aboveS hs p)) := rfl
  rw [e, Bool.and_eq_true, leS_iff, leS_iff]
  have tab1 : ∀ a b, a < hs.length → b < hs.length → tabR hs p a b = decide (hs.getD b ⟨#[]⟩ ∈ aboveS hs p (hs.getD a ⟨#[]⟩)) := fun a b ha hb => (o1.R ha hb).symm
  constructor
  · rintro ⟨⟨h1, h2⟩, h3, h4⟩
    refine ⟨Nat.le_antisymm (nodup_sub_len o1.nd h1) (nodup_sub_len o2.nd h3), h1, fun a b ha hb => ?_⟩
    have ma := getD_mem ha
    have mb := getD_mem hb
    rw [tab1 a b ha hb, ← o2.tab (h1 _ ma) (h1 _ mb)]
    exact decide_eq_decide.mpr ⟨fun z => h2 _ ma _ z, fun z => h4 _ (h1 _ ma) _ z⟩
  · rintro ⟨hl, h1, h2⟩
    have h3 := nodup_mem o1.nd h1 (by omega)
    have key : ∀ x ∈ hs, ∀ y ∈ hs, (y ∈ aboveS hs p x ↔ y ∈ aboveS ts q x) := fun x hx y hy => by
      have := h2 _ _ (idx_lt hx) (idx_lt hy)
      have ex : hs.getD (hs.idxOf x) ⟨#[]⟩ = x := by rw [List.getD_eq_getElem?_getD, (idx_first hx).1]; rfl
      have ey : hs.getD (hs.idxOf y) ⟨#[]⟩ = y := by rw [List.getD_eq_getElem?_getD, (idx_first hy).1]; rfl
      rw [ex, ey, ← o1.tab hx hy, ← o2.tab (h1 _ hx) (h1 _ hy)] at this
      exact decide_eq_decide.mp this
    refine ⟨⟨h1, fun x hx y hy => (key x hx y (mem_aboveS.mp hy).1).mp hy⟩, h3, fun x hx y hy => (key x (h3 _ hx) y (h3 _ (mem_aboveS.mp hy).1)).mpr hy⟩
theorem MOutP.congr {hs ts im : List Str} {R R' T T' : Nat → Nat → Bool} {o : MOut} (hR : ∀ i j, i < hs.length → j < hs.length → R i j = R' i j) (hT : ∀ i j, i < ts.length → j < ts.length → T i j = T' i j) (h : MOutP hs R ts T im o) : MOutP hs R' ts T' im o := by
  have key : (∀ z ∈ im, z ∈ ts) → im.length = hs.length → ∀ a b, a < hs.length → b < hs.length → badP R T ts im a b = badP R' T' ts im a b := fun h1 h2 a b ha hb => by
    unfold badP
    rw [hR a b ha hb, hT _ _ (idx_lt (h1 _ (getD_mem (by omega)))) (idx_lt (h1 _ (getD_mem (by omega))))]
  cases h with
  | notL g1 g2 g3 => exact .notL g1 g2 g3
  | badC g1 g2 => exact .badC g1 g2
  | broken g1 g2 g3 g4 g5 g6 => exact .broken g1 g2 g3 g4 (by rw [← key g1 g2 _ _ g3 g4]; exact g5) fun x y hx hy q => by rw [← key g1 g2 x y hx hy]; exact g6 x y hx hy q
  | made g1 g2 g3 => exact .made g1 g2 fun x y hx hy => by rw [← key g1 g2 x y hx hy]; exact g3 x y hx hy
/-- the images of a row of places -/
def imgs (ts : List Str) (row : List Nat) : List Str := row.map fun k => ts.getD k ⟨#[]⟩
theorem good_made {hs ts : List Str} {R T : Nat → Nat → Bool} {row : List Nat} (hnd : ts.Nodup) (h : row ∈ goodMaps hs.length ts.length R T) : MOutP hs R ts T (imgs ts row) .made := by
  obtain ⟨h1, h2⟩ := List.mem_filter.mp h
  obtain ⟨h3, h4⟩ := allRows_mem.mp h1
  have hk := keeps_iff.mp h2
  have at_ : ∀ a, a < hs.length → (imgs ts row).getD a ⟨#[]⟩ = ts.getD (row.getD a 0) ⟨#[]⟩ ∧ row.getD a 0 < ts.length := fun a ha => by
    have ha' : a < row.length := by omega
    unfold imgs
    refine ⟨?_, ?_⟩
    · rw [List.getD_eq_getElem?_getD, List.getElem?_map, List.getElem?_eq_getElem ha', List.getD_eq_getElem?_getD (l := row), List.getElem?_eq_getElem ha']
      rfl
    · rw [List.getD_eq_getElem?_getD, List.getElem?_eq_getElem ha']
      exact h4 _ (List.getElem_mem ha')
  have ix : ∀ k, k < ts.length → ts.idxOf (ts.getD k ⟨#[]⟩) = k := fun k hk => by
    rw [List.getD_eq_getElem?_getD, List.getElem?_eq_getElem hk]
    exact hnd.idxOf_getElem k hk
  refine .made (fun z hz => ?_) (by unfold imgs; rw [List.length_map, h3]) fun x y hx hy => ?_
  · obtain ⟨k, hk, rfl⟩ := List.mem_map.mp hz
    exact getD_mem (h4 _ hk)
  · unfold badP
    rw [(at_ x hx).1, (at_ y hy).1, ix _ (at_ x hx).2, ix _ (at_ y hy).2]
    cases hR : R x y with
    | false => rfl
    | true => rw [hk x y hx hy hR]; rfl
theorem good_ne {n m : Nat} {R T : Nat → Nat → Bool} (hm : 1 ≤ m) (hT : T 0 0 = true) : 1 ≤ (goodMaps n m R T).length := by
  refine List.length_pos_of_mem (a := List.replicate n 0) (List.mem_filter.mpr ⟨allRows_mem.mpr ⟨List.length_replicate, fun x hx => ?_⟩, keeps_iff.mpr fun a b ha hb _ => ?_⟩)
  · rw [(List.mem_replicate.mp hx).2]; omega
  · rw [List.getD_eq_getElem?_getD, List.getElem?_replicate_of_lt ha, List.getD_eq_getElem?_getD, List.getElem?_replicate_of_lt hb]
    exact hT
theorem LOrd.ident (o : LOrd ks prs) : MOutP ks (tabR ks prs) ks (tabR ks prs) ks .made := by
  refine .made (fun _ h => h) rfl fun x y hx hy => ?_
  unfold badP
  have ix : ∀ k, k < ks.length → ks.idxOf (ks.getD k ⟨#[]⟩) = k := fun k hk => by
    rw [List.getD_eq_getElem?_getD, List.getElem?_eq_getElem hk]
    exact o.nd.idxOf_getElem k hk
  rw [ix x hx, ix y hy]
  cases tabR ks prs x y <;> rfl
theorem MOutP.toMap {s t : Ods} {im : List Str} {R T : Nat → Nat → Bool} (h : MOutP s.ks R t.ks T im .made) : MapOk s t im := by
  cases h with
  | made h1 h2 _ => exact ⟨h1, h2⟩
end
end Kf
end
section
set_option maxRecDepth 100000
set_option maxHeartbeats 4000000
/-! KfW1: a call with a list of one's own that the callee does not keep. -/
namespace Kf
open PySem L2
theorem bl_at {X : Cx} {e : Ent} {st : List Stmt} {Γ Γ' : Gam} {k : Kn} (h : Γ = Γ') (q : BL X e st Γ' k) : BL X e st Γ k := by rw [h]; exact q

section
variable {X : Cx} {e : Ent} {Γ : Gam} {C : Str} {p pos : Pos} {a : Expr} {es : List Expr} {j n : Nat}
/-- C(..) of pure arguments, no error -/
theorem eo_makeI {c : Fo} {fI : Addr} {ds : List D} {o : O} (M : Mk X.K (He.ga X.K C) fI) (F : FnR X.prog X.w X.K X.mg X.base (L2.CX X.prog X.w) n fI (spO X.K c)) (hm : X.mg C = some (.ref (He.ga X.K C))) (hr : Room j X.A) (hj : n + 1 ≤ j) (ha : PVs X e (a :: es) Γ ds)
    (hp : c.pre (.obj C []) ds) (hq : ∀ b o', c.post (.obj C []) ds b o' → b = .st .non ∧ o' = o) (hx : ∀ y fl o', ¬ c.exn (.obj C []) ds y fl o') (hg : Gl X C := by rfl) (hdb : (C == ("__debug__" : Str)) = false := by decide)
    (he : starEach (a :: es) X.env = (false, eval a X.env) :: starEach es X.env := by rfl) (hpl : (backTo pos (starEach es X.env)).any (·.1) = false := by rfl) : EO X e (.Call (.Name C p) (a :: es) [] pos) Γ (Is o Γ) :=
  eo_make M F hm hr hj (U := fun _ _ _ => False) takes_none (pvs_av ha) (fun ds' Γ1 ⟨h1, h2⟩ => by
    subst h1 h2
    exact ⟨hp, fun b o' h => ⟨(hq b o' h).1, (hq b o' h).2, rfl⟩, fun y fl o' h => (hx y fl o' h).elim⟩) hg hdb he hpl
end
/-- without p -/
def del (S : Hp) (p : Addr) : Hp := fun b => if b = p then none else S b
theorem del_ne {S : Hp} {p b : Addr} (h : b ≠ p) : del S p b = S b := if_neg h
theorem del_at {S : Hp} {p : Addr} : del S p p = none := if_pos rfl
theorem del_rd {S : Hp} {p a : Addr} {l : List V} {u : HO} (hp : S p = some (.lst l)) (hu : ∀ x, u ≠ .lst x) (h : Rd S a u) : Rd (del S p) a u := by
  have ne : a ≠ p := fun q => by
    subst q
    rcases h with h | ⟨o, h⟩
    · rw [hp] at h; cases h; exact hu _ rfl
    · rw [hp] at h; cases h
  rcases h with h | ⟨o, h⟩
  · exact .inl (by rw [del_ne ne]; exact h)
  · exact .inr ⟨o, by rw [del_ne ne]; exact h⟩
theorem del_sqT {K : Fg} {S : Hp} {p a : Addr} {l xs : List V} (hp : S p = some (.lst l)) (h : SqT K S a xs) : SqT K (del S p) a xs := by
  rcases h with h | h
  · exact .inl (del_rd hp (fun x q => by cases q) h)
  · exact .inr h
theorem strs_any {K : Fg} {S S' : Hp} : ∀ {xs : List V} {l : List Str}, RpL K S xs (l.map .str) → RpL K S' xs (l.map .str)
  | _, [], .nil => .nil
  | _, _ :: _, .cons (.str _) t => .cons (.str _) (strs_any t)
theorem tab_any {K : Fg} {S S' : Hp} {F : Str → Str} : ∀ {xs : List (Key × V)} {l : List Str}, RpK K S xs (rowsF l fun x => .str (F x)) → RpK K S' xs (rowsF l fun x => .str (F x))
  | _, [], .nil => .nil
  | _, _ :: _, .cons (.str _) t => .cons (.str _) (tab_any t)
theorem made_shr {K : Fg} {S' : Hp} {p : Addr} {xs0 xs : List V} {s t : Ods} {v1 v2 : V} {im : List Str} {m : MOut} (hp : S' p = some (.lst xs0)) (r1 : Rp K (del S' p) v1 s.d) (r2 : Rp K (del S' p) v2 t.d) (h : RpL K S' xs (madeL s t (some v1) (some v2) im m)) : RpL K (del S' p) xs (madeL s t none none im m) := by
  cases m with
  | notL z =>
    cases h with
    | cons a t =>
      cases a
      cases t with
      | cons a t =>
        cases a
        cases t
        exact .cons (.str _) (.cons (.str _) .nil)
  | badC n =>
    cases h with
    | cons a t =>
      cases a
      cases t with
      | cons a t =>
        cases a
        cases t
        exact .cons (.str _) (.cons (.int _) .nil)
  | broken x y =>
    cases h with
    | cons a t =>
      cases a
      cases t with
      | cons a t =>
        cases t
        refine .cons (.str _) (.cons ?_ .nil)
        cases a with
        | tup g1 g2 => exact .tup (del_sqT hp g1) (strs_any (l := [x, y]) g2)
  | made =>
    cases h with
    | cons a t =>
      cases a
      cases t with
      | cons a t =>
        cases t
        refine .cons (.str _) (.cons ?_ .nil)
        cases a with
        | @obj a dx _ _ _ g1 g2 =>
          have ne : a ≠ p := fun q => by
            subst q
            rw [hp] at g1
            cases g1
          refine .obj (by rw [del_ne ne]; exact g1) ?_
          cases g2 with
          | cons f1 g2 =>
            cases g2 with
            | cons f2 g2 =>
              cases g2 with
              | cons f3 g2 =>
                cases g2 with
                | cons f4 g2 =>
                  cases g2
                  cases f1
                  cases f2
                  refine .cons r1 (.cons r2 (.cons ?_ (.cons ?_ .nil)))
                  · cases f3 with
                    | tup k1 k2 => exact .tup (del_sqT hp k1) (strs_any k2)
                  · cases f4 with
                    | dK k1 k2 => exact .dK (del_rd hp (fun x q => by cases q) k1) (tab_any k2)
section
variable {X : Cx} {e : Ent} {Γ : Gam} {k : Kn} {rest : List Stmt} {j n : Nat} {x nm n1 n2 n3 : Str} {p pos pa p0 q1 q2 q3 : Pos}
/-- actual = _law_made(source, target, images), images one's own still behind it -/
theorem bl_made {s t : Ods} {im : List Str} (i i1 i2 i3 : Nat) (N : ∀ o1 o2, XDn X x n (spP X.K (cMade s t o1 o2 im))) (hr : Room j X.A) (hj : n ≤ j) (ho : e.own = none) (h1 : Γ[i1]? = some (some (.st s.d))) (h2 : Γ[i2]? = some (some (.st t.d))) (h3 : Γ[i3]? = some (some (.ow (.lst (im.map .str)))))
    (hp : s.ks.Nodup ∧ s.ks.length ≤ 1000) (hrest : ∀ m, MOutP s.ks s.R t.ks t.R im m → BL X e rest (Γ.set i (some (.ow (.lst (madeL s t none none im m))))) k)
    (hN : X.N.Nodup := by assumption) (hi : X.N[i]? = some nm := by rfl) (hx : Loc X.env.scope nm := by first | exact .inl rfl | exact .inr rfl)
    (hN1 : X.N[i1]? = some n1 := by rfl) (hv1 : Vis X.env.scope n1 := by first | exact Or.inl rfl | exact Or.inr (Or.inl rfl) | exact Or.inr (Or.inr rfl)) (hd1 : (n1 == ("__debug__" : Str)) = false := by decide) (hc1 : (n1 == ("__classdict__" : Str)) = false := by decide)
    (hN2 : X.N[i2]? = some n2 := by rfl) (hv2 : Vis X.env.scope n2 := by first | exact Or.inl rfl | exact Or.inr (Or.inl rfl) | exact Or.inr (Or.inr rfl)) (hd2 : (n2 == ("__debug__" : Str)) = false := by decide) (hc2 : (n2 == ("__classdict__" : Str)) = false := by decide)
    (hN3 : X.N[i3]? = some n3 := by rfl) (hv3 : Vis X.env.scope n3 := by first | exact Or.inl rfl | exact Or.inr (Or.inl rfl) | exact Or.inr (Or.inr rfl)) (hd3 : (n3 == ("__debug__" : Str)) = false := by decide) (hc3 : (n3 == ("__classdict__" : Str)) = false := by decide)
    (hg : Gl X x := by rfl) (hdb : (x == ("__debug__" : Str)) = false := by decide)
    (he : starEach [.Name n1 q1, .Name n2 q2, .Name n3 q3] X.env = (false, eval (.Name n1 q1) X.env) :: starEach [.Name n2 q2, .Name n3 q3] X.env := by rfl) (he2 : starEach [.Name n2 q2, .Name n3 q3] X.env = (false, eval (.Name n2 q2) X.env) :: starEach [.Name n3 q3] X.env := by rfl) (he3 : starEach [.Name n3 q3] X.env = (false, eval (.Name n3 q3) X.env) :: starEach [] X.env := by rfl)
    (hpl : (backTo pos (starEach [.Name n2 q2, .Name n3 q3] X.env)).any (·.1) = false := by rfl)
    (hs : swapsWith (.Call (.Name x p) [.Name n1 q1, .Name n2 q2, .Name n3 q3] [] pos) (some (.Name nm p0)) pa.line X.env = pure false := by rfl) (hf : X.fn nm = true ∨ X.env.scope.names.lookup nm = some .local := by first | exact .inl rfl | exact .inr rfl) :
    BL X e (.Assign [.Name nm p0] (.Call (.Name x p) [.Name n1 q1, .Name n2 q2, .Name n3 q3] [] pos) pa :: rest) Γ k := by
  have F := fun o1 o2 => (N o1 o2).fn
  have hall : PE X (.Call (.Name x p) [.Name n1 q1, .Name n2 q2, .Name n3 q3] [] pos) (fun σ H Q => ∃ o1 o2, (tCons (tVar i1) (tCons (tVar i2) (tCons (tVar i3) tNil))) σ H fun vs H1 => spP X.K (cMade s t o1 o2 im) vs H1 Q fun c d H2 => False) :=
    ⟨fun pins st σ H Q I ⟨o1, o2, q⟩ => (pe_callW (W := fun _ _ _ _ => False) (F o1 o2) (hr.mono hj) takes0 hg (N o1 o2).at_ (N o1 o2).kp (pa_cons (pe_var hN1 hv1 hd1 hc1) (pa_cons (pe_var hN2 hv2 hd2 hc2) (pa_cons (pe_var hN3 hv3 hd3 hc3) pa_nil he3) he2) he) hdb he hpl).run pins st σ H Q I q⟩
  refine bl_cons (fun Γ2 => ∃ m, MOutP s.ks s.R t.ks t.R im m ∧ Γ2 = Γ.set i (some (.ow (.lst (madeL s t none none im m))))) (PS.imp (ps_set hN hi hx hall hs hf) fun D σ H ⟨S, w, nx, _⟩ => ?_) fun Γ2 ⟨m, hm, q⟩ => by subst q; exact hrest m hm
  obtain ⟨v1, a1, r1⟩ := w.sl.at_ i1 _ h1
  obtain ⟨v2, a2, r2⟩ := w.sl.at_ i2 _ h2
  obtain ⟨v3, a3, pp, e3, sp, ow, hpp⟩ := w.sl.at_ i3 _ h3
  subst e3
  have h0 : e.H0 pp = none := by
    rcases hpp with z | z
    · exact z
    · rw [ho] at z; cases z
  obtain ⟨xs0, hx0, rx0⟩ := ow
  -- frozen for the call
  have wf : Wd X.K e S H σ (Γ.set i3 none) := w.weak (by rw [List.length_set]) (fun j b q => by
    rcases get_set q with ⟨_, z⟩ | ⟨_, z⟩
    · cases z
    · exact z) (.inl ho)
  obtain ⟨S1, s1, k1, w1, rp1⟩ := own_st (o := .lst (im.map .str)) wf sp ⟨xs0, hx0, rx0⟩ h0 fun j o' q1 q2 => by
    rcases get_set q1 with ⟨_, z⟩ | ⟨n1, z⟩
    · cases z
    · exact n1 (w.sl.dj i3 j _ o' pp h3 z a3 q2)
  have hS1 : S1 pp = some (.lst xs0) := by
    cases rp1 with
    | lst g1 g2 =>
      rcases g1 with g1 | ⟨o, g1⟩
      · rw [g1, ← w1.nx.sh _ _ g1, hx0]
      · have := w1.nx.sh _ _ g1
        rw [hx0] at this
        cases this
  refine ⟨some v1, some v2, v1, a1, v2, a2, .ref pp, a3, S1, _, w1.nx.sh, .cons (.ids (r1.mono s1)) (.cons (.ids (r2.mono s1)) (.cons rp1 .nil)), ⟨rfl, hp⟩, fun S' H' v b hb n2 ok => ?_, fun _ _ _ _ _ _ z => z.elim⟩
  obtain ⟨m, hm, rfl⟩ := hb
  obtain ⟨a, rfl, sa, ⟨xs, hxs, rxs⟩, ha⟩ := ok
  have hS' : S' pp = some (.lst xs0) := n2.ss _ _ hS1
  have sm : Same S (del S' pp) := fun b u z => by
    have ne : b ≠ pp := ne_of_none z sp
    rw [del_ne ne]
    exact n2.ss _ _ (s1 _ _ z)
  have keep : ∀ b, H b ≠ none → H' b = H b := fun b hb => by
    cases z : H b with
    | none => exact absurd z hb
    | some u => exact n2.hh b u z (fun y => nomatch y)
  have oldS : ∀ b, H b ≠ none → S b = none → del S' pp b = none := fun b hb z => by
    by_cases q : b = pp
    · rw [q]; exact del_at
    · rw [del_ne q]; exact (n2.old b hb).trans ((k1 b q).trans z)
  have wn : Wd X.K e (del S' pp) H' σ Γ := by
    refine ⟨⟨w.nx.ss.trans sm, fun b u z => ?_, fun b u z y => ?_, fun b z => n2.al b (w.nx.al b z), fun b z => ?_⟩, w.sl.len, fun jj b q => ?_, w.sl.dj, w.sl.z⟩
    · by_cases q : b = pp
      · rw [q, del_at] at z; cases z
      · rw [del_ne q] at z; exact n2.sh _ _ z
    · have z' := w.nx.hh b u z y
      exact n2.hh b u z' (fun y => nomatch y)
    · have ne : b ≠ pp := fun q => z (by rw [q]; exact h0)
      rw [del_ne ne]
      exact (n2.old b (w.nx.al b z)).trans ((k1 b ne).trans (w.nx.old b z))
    · obtain ⟨u, b1, b2⟩ := w.sl.at_ jj b q
      refine ⟨u, b1, ?_⟩
      cases b with
      | st d => exact Rp.mono sm b2
      | xc a d fl => exact b2.xcm sm
      | nw d l => exact b2.elim
      | nt o1 o2 => exact b2.elim
      | ow o1 =>
        obtain ⟨c, c1, c2, c3, c4⟩ := b2
        exact ⟨c, c1, oldS c c3.some c2, c3.to sm (keep c c3.some), c4⟩
  have ha' : H a = none := ha
  have na : a ≠ pp := fun q => by rw [q, hx0] at ha'; cases ha'
  have rr := made_shr hS' (r1.mono sm) (r2.mono sm) rxs
  exact nx (del S' pp) _ H' _ ⟨m, hm, rfl⟩ sm (wn.setO (by rw [del_ne na]; exact sa) ⟨xs, hxs, rr⟩ (w.nx.fresh ha) (w.fresh_ne ha) (.inl ho))
/-- x.clear(), x a list of one's own -/
theorem bl_clear (i : Nat) {l0 : List D} {q r : Pos} (h0 : Γ[i]? = some (some (.ow (.lst l0)))) (hr : BL X e rest (Γ.set i (some (.ow (.lst [])))) k)
    (hN : X.N[i]? = some nm := by rfl) (hv : Vis X.env.scope nm := by first | exact Or.inl rfl | exact Or.inr (Or.inl rfl) | exact Or.inr (Or.inr rfl)) (h1 : (nm == ("__debug__" : Str)) = false := by decide) (h2 : (nm == ("__classdict__" : Str)) = false := by decide)
    (hb : attributeBase (.Name nm p) "clear" X.env (eval (.Name nm p) X.env) = eval (.Name nm p) X.env := by rfl) (hl : (q.endLine == r.line) = true := by rfl) (hs : swapsWith (.Call (.Attribute (.Name nm p) "clear" q) [] [] r) none pos.line X.env = pure false := by rfl) :
    BL X e (.Expr (.Call (.Attribute (.Name nm p) "clear" q) [] [] r) pos :: rest) Γ k := by
  have hpe : PE X (.Call (.Attribute (.Name nm p) "clear" q) [] [] r) (tBM0 X.K "list" rClear (tVar i)) := pe_bm0 PySem.F.plainAttrs_list PySem.F.slot_list_clear PySem.F.type_list_clear mt_clear (pe_var hN hv h1 h2) hb hl
  refine bl_cons (fun Γ2 => Γ2 = Γ.set i (some (.ow (.lst [])))) (PS.imp (ps_expr hpe hs) fun D σ H ⟨S, w, nx, _⟩ => ?_) fun Γ2 h => by subst h; exact hr
  obtain ⟨v, h3, c, h4, sc, ow, hc⟩ := w.sl.at_ i _ h0
  subst h4
  obtain ⟨xs, h5, h6⟩ := ow
  exact ⟨_, h3, .inl ⟨rfl, xs, SqL.of h5⟩, c, xs, rfl, rfl, h5, nx S σ _ _ rfl (Same.refl _) (w.put h0 h3 ⟨[], upd_same, .nil⟩)⟩
end
end Kf
end
section
set_option maxRecDepth 100000
set_option maxHeartbeats 4000000
/-! KfW2: the law's calls, as rules. -/
namespace Kf
open PySem L2

abbrev dSh (n : Nat) (ps : List (Nat × Nat)) : D := .tup [.int (n : Int), .lst (pairsD ps)]
theorem pairsD_inj : ∀ {a b : List (Nat × Nat)}, pairsD a = pairsD b → a = b
  | [], [], _ => rfl
  | [], _ :: _, h => by cases h
  | _ :: _, [], h => by cases h
  | (x, y) :: r, (u, v) :: q, h => by
    injection h with h1 h2
    injection h1 with h1
    injection h1 with h1 h3
    injection h3 with h3 _
    injection h1 with h1
    injection h3 with h3
    rw [pairsD_inj h2]
    congr 1
    congr 1 <;> omega
theorem cutD_to (l : List Str) (n : Nat) : cutD (l.map D.str) none (some (n : Int)) = (l.take n).map D.str := by
  unfold cutD
  rw [show HT.sIx (l.map D.str).length 0 none = 0 from rfl, show HT.sIx (l.map D.str).length (l.map D.str).length (some (n : Int)) = min n (l.map D.str).length from HT.sIx_nat _ _ _, List.drop_zero, Nat.sub_zero, map_take_str, List.length_map, ← List.take_eq_take_min]
theorem cutD_mid (l : List Str) (a b : Nat) (h : a ≤ l.length) (hb : b ≤ l.length) : cutD (l.map D.str) (some (a : Int)) (some (b : Int)) = ((l.drop a).take (b - a)).map D.str := by
  unfold cutD
  rw [show HT.sIx (l.map D.str).length 0 (some (a : Int)) = min a (l.map D.str).length from HT.sIx_nat _ _ _, show HT.sIx (l.map D.str).length (l.map D.str).length (some (b : Int)) = min b (l.map D.str).length from HT.sIx_nat _ _ _, List.length_map, Nat.min_eq_left h, Nat.min_eq_left hb, map_drop_str, map_take_str]
section
variable {X : Cx} {e : Ent} {Γ : Gam} {n : Str} {np p pos : Pos} {a b : Expr} {j : Nat} {o0 : O}
theorem ev_opairs {m : Nat} (i : Nat) (N : XDn X "_law_order_pairs" 4 (spO X.K cShape)) (hr : Room j X.A) (hj : 4 ≤ j) (h0 : Γ[i]? = some (some (.ow o0))) (hp : Pool o0) (ha : PV X e a Γ (.int (m : Int))) (hm : 1 ≤ m ∧ m ≤ 10)
    (hN : X.N[i]? = some n := by rfl) (hv : Vis X.env.scope n := by first | exact Or.inl rfl | exact Or.inr (Or.inl rfl) | exact Or.inr (Or.inr rfl)) (hg : Gl X "_law_order_pairs" := by rfl)
    (he : starEach [.Name n np, a] X.env = (false, eval (.Name n np) X.env) :: starEach [a] X.env := by rfl) (he2 : starEach [a] X.env = (false, eval a X.env) :: starEach [] X.env := by rfl) (hpl : (backTo pos (starEach [a] X.env)).any (·.1) = false := by rfl) (h1 : (n == ("__debug__" : Str)) = false := by decide) (h2 : (n == ("__classdict__" : Str)) = false := by decide) :
    EV X e (.Call (.Name "_law_order_pairs" p) [.Name n np, a] [] pos) Γ (fun d Γ' => ∃ k ps o', d = dSh k ps ∧ 1 ≤ k ∧ k ≤ m ∧ PsOk k ps ∧ ps.length ≤ 200 ∧ Pool o' ∧ Γ' = Γ.set i (some (.ow o'))) :=
  ev_callO (U := fun _ _ _ => False) i N hr hj takes_none h0 (pvs_av (pvs_one ha he2)) (fun ds Γ1 ⟨q1, q2⟩ => by
    subst q1 q2
    exact ⟨o0, h0, ⟨hp, m, rfl, hm⟩, fun b o' ⟨g1, m', k, ps, g2, g3, g4, g5, g6, g7⟩ => by
      injection g2 with g2 _
      injection g2 with g2
      exact ⟨_, .inl g3, k, ps, o', rfl, g4, by omega, g6, g7, g1, rfl⟩, fun _ _ _ z => z.elim⟩) hN hv hg (by decide) he hpl h1 h2
theorem ev_names {m : Nat} (i : Nat) (N : XDn X "_law_names" 3 (spO X.K cNames)) (hr : Room j X.A) (hj : 3 ≤ j) (h0 : Γ[i]? = some (some (.ow o0))) (hp : Pool o0) (ha : PV X e a Γ (.int (m : Int))) (hm : m ≤ 26)
    (hN : X.N[i]? = some n := by rfl) (hv : Vis X.env.scope n := by first | exact Or.inl rfl | exact Or.inr (Or.inl rfl) | exact Or.inr (Or.inr rfl)) (hg : Gl X "_law_names" := by rfl)
    (he : starEach [.Name n np, a] X.env = (false, eval (.Name n np) X.env) :: starEach [a] X.env := by rfl) (he2 : starEach [a] X.env = (false, eval a X.env) :: starEach [] X.env := by rfl) (hpl : (backTo pos (starEach [a] X.env)).any (·.1) = false := by rfl) (h1 : (n == ("__debug__" : Str)) = false := by decide) (h2 : (n == ("__classdict__" : Str)) = false := by decide) :
    EV X e (.Call (.Name "_law_names" p) [.Name n np, a] [] pos) Γ (fun d Γ' => ∃ ns o', d = dStrs ns ∧ ns.Nodup ∧ (∀ z ∈ ns, KName z) ∧ ns.length = m ∧ Pool o' ∧ Γ' = Γ.set i (some (.ow o'))) :=
  ev_callO (U := fun _ _ _ => False) i N hr hj takes_none h0 (pvs_av (pvs_one ha he2)) (fun ds Γ1 ⟨q1, q2⟩ => by
    subst q1 q2
    exact ⟨o0, h0, ⟨hp, m, rfl, hm⟩, fun b o' ⟨g1, ns, g2, g3, g4, g5⟩ => by
      injection g5 with g5 _
      injection g5 with g5
      exact ⟨_, .inr ⟨_, g2, rfl⟩, ns, o', rfl, g3, g4, by omega, g1, rfl⟩, fun _ _ _ z => z.elim⟩) hN hv hg (by decide) he hpl h1 h2
theorem ev_places {m : Nat} (i : Nat) (N : XDn X "_law_mixed_places" 2 (spO X.K cPlaces)) (hr : Room j X.A) (hj : 2 ≤ j) (h0 : Γ[i]? = some (some (.ow o0))) (hp : Pool o0) (ha : PV X e a Γ (.int (m : Int))) (hm : m ≤ 100)
    (hN : X.N[i]? = some n := by rfl) (hv : Vis X.env.scope n := by first | exact Or.inl rfl | exact Or.inr (Or.inl rfl) | exact Or.inr (Or.inr rfl)) (hg : Gl X "_law_mixed_places" := by rfl)
    (he : starEach [.Name n np, a] X.env = (false, eval (.Name n np) X.env) :: starEach [a] X.env := by rfl) (he2 : starEach [a] X.env = (false, eval a X.env) :: starEach [] X.env := by rfl) (hpl : (backTo pos (starEach [a] X.env)).any (·.1) = false := by rfl) (h1 : (n == ("__debug__" : Str)) = false := by decide) (h2 : (n == ("__classdict__" : Str)) = false := by decide) :
    EV X e (.Call (.Name "_law_mixed_places" p) [.Name n np, a] [] pos) Γ (fun d Γ' => ∃ l o', d = .lst (natsD l) ∧ l.Nodup ∧ (∀ x ∈ l, x < m) ∧ l.length = m ∧ Pool o' ∧ Γ' = Γ.set i (some (.ow o'))) :=
  ev_callO (U := fun _ _ _ => False) i N hr hj takes_none h0 (pvs_av (pvs_one ha he2)) (fun ds Γ1 ⟨q1, q2⟩ => by
    subst q1 q2
    exact ⟨o0, h0, ⟨hp, m, rfl, hm⟩, fun b o' ⟨g1, l, g2, g3, g4, g5⟩ => by
      injection g5 with g5 _
      injection g5 with g5
      have e1 : l.length = m := by omega
      exact ⟨_, .inr ⟨_, g2, rfl⟩, l, o', rfl, g3, fun x hx => by have := g4 x hx; omega, e1, g1, rfl⟩, fun _ _ _ z => z.elim⟩) hN hv hg (by decide) he hpl h1 h2
theorem pn_named {ns : List Str} {ps : List (Nat × Nat)} (N : XDn X "_law_named" 1 (spP X.K cNamed)) (hr : Room j X.A) (hj : 1 ≤ j) (ha : PV X e a Γ (dStrs ns)) (hb : PV X e b Γ (.lst (pairsD ps))) (hl : ps.length ≤ 1000) (hp : ∀ p ∈ ps, p.1 < ns.length ∧ p.2 < ns.length) (hg : Gl X "_law_named" := by rfl)
    (he : starEach [a, b] X.env = (false, eval a X.env) :: starEach [b] X.env := by rfl) (he2 : starEach [b] X.env = (false, eval b X.env) :: starEach [] X.env := by rfl) (hpl : (backTo pos (starEach [b] X.env)).any (·.1) = false := by rfl) :
    PN X e (.Call (.Name "_law_named" p) [a, b] [] pos) Γ (.lst (spairsD (named ns ps))) :=
  pn_call N hr hj (pvs_cons ha (pvs_cons hb pvs_nil he2) he) ⟨ns, ps, rfl, hl, hp⟩ (fun bb ⟨ns', ps', h1, h2⟩ => by
    injection h1 with h1 h3
    injection h3 with h3 _
    injection h1 with h1
    injection h3 with h3
    rw [h2, strs_inj h1, pairsD_inj h3]) (fun _ _ z => z.elim) hg (by decide) he hpl
theorem pn_aboveL {n : Nat} {ps : List (Nat × Nat)} (N : XDn X "_law_above" 1 (spP X.K cAbove)) (hr : Room j X.A) (hj : 1 ≤ j) (ha : PV X e a Γ (.int (n : Int))) (hb : PV X e b Γ (.lst (pairsD ps))) (hn : n ≤ 100) (hp : ∀ p ∈ ps, p.1 < n ∧ p.2 < n) (hg : Gl X "_law_above" := by rfl)
    (he : starEach [a, b] X.env = (false, eval a X.env) :: starEach [b] X.env := by rfl) (he2 : starEach [b] X.env = (false, eval b X.env) :: starEach [] X.env := by rfl) (hpl : (backTo pos (starEach [b] X.env)).any (·.1) = false := by rfl) :
    PN X e (.Call (.Name "_law_above" p) [a, b] [] pos) Γ (.lst (rowsD n (warsh n ps))) :=
  pn_call N hr hj (pvs_cons ha (pvs_cons hb pvs_nil he2) he) ⟨n, ps, rfl, hn, hp⟩ (fun bb ⟨n', ps', h1, h2⟩ => by
    injection h1 with h1 h3
    injection h3 with h3 _
    injection h1 with h1
    injection h3 with h3
    have : n = n' := by omega
    subst this
    rw [h2, pairsD_inj h3]) (fun _ _ z => z.elim) hg (by decide) he hpl
theorem keeps_congr {n m : Nat} {R R' T T' : Nat → Nat → Bool} (hR : ∀ a b, a < n → b < n → R a b = R' a b) (hT : ∀ a b, a < m → b < m → T a b = T' a b) : goodMaps n m R T = goodMaps n m R' T' := by
  unfold goodMaps
  refine List.filter_congr fun row hrow => ?_
  obtain ⟨h1, h2⟩ := allRows_mem.mp hrow
  have hlt : ∀ a, a < n → row.getD a 0 < m := fun a ha => by
    rw [List.getD_eq_getElem?_getD, List.getElem?_eq_getElem (by omega)]
    exact h2 _ (List.getElem_mem _)
  rw [Bool.eq_iff_iff, keeps_iff, keeps_iff]
  exact ⟨fun h a b ha hb q => by rw [← hT _ _ (hlt a ha) (hlt b hb)]; exact h a b ha hb (by rw [hR a b ha hb]; exact q), fun h a b ha hb q => by rw [hT _ _ (hlt a ha) (hlt b hb)]; exact h a b ha hb (by rw [← hR a b ha hb]; exact q)⟩
theorem pn_mapsL {n m : Nat} {R T : Nat → Nat → Bool} (N : XDn X "_law_maps" 2 (spP X.K cMaps)) (hr : Room j X.A) (hj : 2 ≤ j) (ha : PV X e a Γ (.lst (rowsD n R))) (hb : PV X e b Γ (.lst (rowsD m T))) (h1 : 1 ≤ m) (h2 : m ^ n ≤ 5000) (h3 : m ≤ 1000) (h4 : n ≤ 1000) (hg : Gl X "_law_maps" := by rfl)
    (he : starEach [a, b] X.env = (false, eval a X.env) :: starEach [b] X.env := by rfl) (he2 : starEach [b] X.env = (false, eval b X.env) :: starEach [] X.env := by rfl) (hpl : (backTo pos (starEach [b] X.env)).any (·.1) = false := by rfl) :
    PN X e (.Call (.Name "_law_maps" p) [a, b] [] pos) Γ (.lst (rowLL (goodMaps n m R T))) :=
  pn_call N hr hj (pvs_cons ha (pvs_cons hb pvs_nil he2) he) ⟨n, m, R, T, rfl, h1, h2, h3, h4⟩ (fun bb ⟨n', m', R', T', g1, g2⟩ => by
    injection g1 with g1 g3
    injection g3 with g3 _
    injection g1 with g1
    injection g3 with g3
    obtain ⟨e1, k1⟩ := rowsD_inj g1
    obtain ⟨e2, k2⟩ := rowsD_inj g3
    subst e1 e2
    rw [g2, keeps_congr k1 k2]) (fun _ _ z => z.elim) hg (by decide) he hpl
/-- Order(kinds, pairs) -/
theorem eo_order {ks : List Str} {prs : List (Str × Str)} {fI : Addr} (o : LOrd ks prs) (M : Mk X.K (He.ga X.K "Order") fI) (F : ∀ ks prs, FnR X.prog X.w X.K X.mg X.base (L2.CX X.prog X.w) 4 fI (spO X.K (cOrdI ks prs))) (hm : X.mg "Order" = some (.ref (He.ga X.K "Order"))) (hr : Room j X.A) (hj : 5 ≤ j)
    (ha : PV X e a Γ (dStrs ks)) (hb : PV X e b Γ (.lst (spairsD prs))) (hg : Gl X "Order" := by rfl)
    (he : starEach [a, b] X.env = (false, eval a X.env) :: starEach [b] X.env := by rfl) (he2 : starEach [b] X.env = (false, eval b X.env) :: starEach [] X.env := by rfl) (hpl : (backTo pos (starEach [b] X.env)).any (·.1) = false := by rfl) :
    EO X e (.Call (.Name "Order" p) [a, b] [] pos) Γ (Is (.obj "Order" (dOrd ks (aboveS ks prs))) Γ) :=
  eo_make M (F ks prs) hm hr hj (U := fun _ _ _ => False) takes_none (pvs_av (pvs_cons ha (pvs_cons hb pvs_nil he2) he)) (fun ds Γ1 ⟨h1, h2⟩ => by
    subst h1 h2
    have hpl := o.pl
    exact ⟨⟨rfl, .inl rfl, o.l1, o.l4, o.nd, o.kn, o.pin, by omega, anti_of o.rk⟩, fun bb o' ⟨g1, g2⟩ => ⟨g1, g2, rfl⟩, fun _ _ _ z => z.elim⟩) hg (by decide) he hpl
end
theorem plc_named {ks : List Str} {ps : List (Nat × Nat)} (hn : ks.Nodup) (h : ∀ p ∈ ps, p.1 < ks.length ∧ p.2 < ks.length) : plc ks (named ks ps) = ps := by
  unfold plc named
  rw [List.map_map]
  have ix : ∀ k, k < ks.length → ks.idxOf (ks.getD k ⟨#[]⟩) = k := fun k hk => by
    rw [List.getD_eq_getElem?_getD, List.getElem?_eq_getElem hk]
    exact hn.idxOf_getElem k hk
  conv => rhs; rw [← List.map_id ps]
  refine List.map_congr_left fun p hp => ?_
  show (ks.idxOf (ks.getD p.1 ⟨#[]⟩), ks.idxOf (ks.getD p.2 ⟨#[]⟩)) = p
  rw [ix _ (h p hp).1, ix _ (h p hp).2]
theorem lord_named {ks : List Str} {ps : List (Nat × Nat)} (hn : ks.Nodup) (hk : ∀ z ∈ ks, KName z) (h1 : 1 ≤ ks.length) (h4 : ks.length ≤ 10) (hp : PsOk ks.length ps) (hl : ps.length ≤ 200) : LOrd ks (named ks ps) := by
  obtain ⟨hb, rk, hrk⟩ := hp
  refine ⟨hn, hk, h1, h4, fun p hp => ?_, by unfold named; rw [List.length_map]; omega, fun z => rk (ks.idxOf z), fun p hp => ?_⟩
  · obtain ⟨q, hq, rfl⟩ := List.mem_map.mp hp
    exact ⟨getD_mem (hb q hq).1, getD_mem (hb q hq).2⟩
  · obtain ⟨q, hq, rfl⟩ := List.mem_map.mp hp
    have ix : ∀ k, k < ks.length → ks.idxOf (ks.getD k ⟨#[]⟩) = k := fun k hk => by
      rw [List.getD_eq_getElem?_getD, List.getElem?_eq_getElem hk]
      exact hn.idxOf_getElem k hk
    show rk (ks.idxOf (ks.getD q.1 ⟨#[]⟩)) < rk (ks.idxOf (ks.getD q.2 ⟨#[]⟩))
    rw [ix _ (hb q hq).1, ix _ (hb q hq).2]
    exact hrk q hq
theorem tabR_named {ks : List Str} {ps : List (Nat × Nat)} (hn : ks.Nodup) (hp : PsOk ks.length ps) : tabR ks (named ks ps) = warsh ks.length ps := by
  unfold tabR
  rw [plc_named hn hp.1]
/-- the same kinds in another listing -/
theorem lord_perm {ks ts : List Str} {prs : List (Str × Str)} {l : List Nat} (o : LOrd ks prs) (hl : l.Nodup) (hx : ∀ x ∈ l, x < ks.length) (hn : l.length = ks.length) (e : ts = l.map fun i => ks.getD i ⟨#[]⟩) : LOrd ts prs ∧ ts.length = ks.length := by
  have ix : ∀ k, k < ks.length → ks.idxOf (ks.getD k ⟨#[]⟩) = k := fun k hk => by
    rw [List.getD_eq_getElem?_getD, List.getElem?_eq_getElem hk]
    exact o.nd.idxOf_getElem k hk
  have hlen : ts.length = ks.length := by rw [e, List.length_map, hn]
  have hnd : ts.Nodup := by
    rw [e]
    refine List.pairwise_map.mpr (List.Pairwise.imp_of_mem (fun {a b} ha hb hne q => hne ?_) hl)
    have := congrArg ks.idxOf q
    rw [ix _ (hx _ ha), ix _ (hx _ hb)] at this
    exact this
  have hsub : ∀ z ∈ ts, z ∈ ks := fun z hz => by
    rw [e] at hz
    obtain ⟨i, hi, rfl⟩ := List.mem_map.mp hz
    exact getD_mem (hx i hi)
  have hsup := nodup_mem hnd hsub (by omega)
  exact ⟨⟨hnd, fun z hz => o.kn z (hsub z hz), by rw [hlen]; exact o.l1, by rw [hlen]; exact o.l4, fun p hp => ⟨hsup _ (o.pin p hp).1, hsup _ (o.pin p hp).2⟩, o.pl, o.rk⟩, hlen⟩
theorem pn_take {X : Cx} {e : Ent} {Γ : Gam} {x : Expr} {hi : Option Expr} {p2 pos : Pos} {l : List Str} {n : Nat} (h : PV X e x Γ (dStrs l)) (h2 : PP X e hi Γ (some (n : Int))) : PN X e (.Subscript x (.Slice none hi none p2) pos) Γ (.lst ((l.take n).map .str)) := pn_is (pn_cut h pp_none h2) (by rw [cutD_to])
end Kf
end
section
set_option maxRecDepth 100000
set_option maxHeartbeats 1000000
/-! KgA: defs with *args, calls with *x, break, a dict's value put anew. -/
namespace L2
open PySem PySem.Spec PyProof.Rows
theorem starcall1_of {M : Model} {A : Around} {E : Value → Shared → Prop} {s : Shared} {env : Env} {o e1 : Expr} {m : Str} {p apos pos : Pos} {Q : Value → Shared → Prop} (hbase : attributeBase o m env (eval o env) = eval o env)
    (hst : starEach [.Starred e1 p] env = [(true, eval e1 env)])
    (h : wpAny M A (eval o env) (fun ov s₁ => wpAny M A (getAttr ov m true) (fun f s₂ => wpAny M A (callWith pos f [] (backTo pos [(true, eval e1 env)]) []) Q E s₂) E s₁) E s) :
    wpAny M A (eval (.Call (.Attribute o m apos) [.Starred e1 p] [] pos) env) Q E s := by
  have hke : backToKw pos (keywordEach [] env) = [] := rfl
  have hform : methodCallForm ([Expr.Starred e1 p].length + ([] : List Keyword).length) (backTo pos [(true, eval e1 env)]) [] = false := rfl
  have hpos : methodCallPos false o env apos pos = pure pos := rfl
  have hcal : ∀ ov, calleeOf false o env ov m = (getAttr ov m true >>= fun v => pure (v, [])) := fun _ => rfl
  rw [arm_eval_Call, hbase, hst, hke]
  refine wpAny_bind (wpAny_mono h (fun ov s₁ h₁ => ?_) fun _ _ x => x)
  refine wpAny_bind (wpAny_standAt ?_)
  unfold methodCall
  rw [hform, hpos, hcal]
  refine wpAny_bind (wpAny_holding (wpAny_bind (wpAny_mono h₁ (fun f s₂ h₂ => wpAny_pure ?_) fun _ _ x => x)))
  exact wpAny_bind (wpAny_pure h₂)
theorem run_fnC {X : Cx} {W : WX} {k : Nat} {f : Addr} {sp : Sp} {pins : List (Addr × Obj)} {σ : L2.St} {H : Hp} {s : Shared} {Q : VK} {us : List Value} {vs : List V} (F : FnR X.prog X.w X.K X.mg X.base (L2.CX X.prog X.w) k f sp) (hr : Room k X.A) (tk : Takes X W) (I : Inv X pins σ H s) (r : Vals vs us)
    (h : sp vs H Q (fun c d H2 => W c d σ H2)) : codeAny (model X.prog X.w) X.A (.call (.ref f) ⟨us, []⟩) (fun r s' => match r with | .ok (.ret v) => EP X pins σ Q v s' | .ok _ => False | .error e => X.xe e s') s := by
  refine codeAny_mono (F X.A X.stack s H us vs Q _ hr I.env0 r h) fun r s' hq => ?_
  cases r with
  | error u => exact tk u s' (XE.of_call I (fun _ _ _ z => z) hq)
  | ok fl =>
    cases fl with
    | ret u => exact I.after hq
    | next => exact False.elim hq
    | brk => exact False.elim hq
    | cont => exact False.elim hq
def tMethS1 (K : PySem.W.Frag) (C : Addr) (m : Str) (g : Addr) (sp : Sp) (W : WX) (ta t1 : TE) : TE := fun σ H Q => ta σ H fun x H1 => ∃ a dx fs, x = .ref a ∧ H1 a = some (.ins C dx fs) ∧ fs.lookup m = none ∧
  ∀ q, H1 q = none → t1 σ (upd H1 q (.met g a)) fun y1 H2 => ∃ b vs, y1 = .ref b ∧ (SqT K H2 b vs ∨ SqL K H2 b vs) ∧ H2 q = some (.met g a) ∧ sp (.ref a :: vs) H2 Q fun c d H3 => W c d σ H3
theorem pe_methS1 {X : Cx} {k : Nat} {C g : Addr} {m : Str} {sp : Sp} {W : WX} {o e1 : Expr} {ta t1 : TE} {p apos pos : Pos} (he : PE X o ta) (c : Cls X.K C) (b : BMeth X.K C m g) (F : FnR X.prog X.w X.K X.mg X.base (L2.CX X.prog X.w) k g sp) (hr : Room k X.A)
    (tk : Takes X W) (h1 : PE X e1 t1) (hbase : attributeBase o m X.env (eval o X.env) = eval o X.env := by rfl)
    (hst : starEach [.Starred e1 p] X.env = [(true, eval e1 X.env)] := by rfl) : PE X (.Call (.Attribute o m apos) [.Starred e1 p] [] pos) (tMethS1 X.K C m g sp W ta t1) := by
  refine ⟨fun pins s σ H Q I h => ?_⟩
  refine starcall1_of hbase hst (thn (he.run pins s σ H _ I h) fun u s1 ⟨x, H1, I1, rx, a, dx, fs, ex, ea, l, q⟩ => ?_)
  subst ex
  obtain rfl : u = Value.ref a := rx
  refine getbound_ok I1 ea c b l fun q1 s2 hq1 I2 => ?_
  refine PySem.W.ks_call (P := PySem.W.MethP X.K q1 g (.ref a)) rfl (PySem.W.keeps_M b.fi) (PySem.W.ks_lone (thn (h1.run pins s2 σ _ _ I2 (q q1 hq1)) fun v1 s3 ⟨y1, H2, I3, ry1, t, vs, ey, ht, hm, hsp⟩ => ?_))
  subst ey
  obtain rfl : v1 = Value.ref t := ry1
  refine StX.star_any I3 ht fun us s5 I5 rv => ?_
  show PySem.W.MethP X.K q1 g (.ref a) s5.heap ∧ wpAny (model X.prog X.w) X.A (call (.ref q1) us []) (EP X pins σ Q) X.xe s5
  exact ⟨met_P I5 hm, wpAny_call (PySem.W.method_call (met_P I5 hm).1 (run_fnC (us := Value.ref a :: us) (vs := V.ref a :: vs) F hr tk I5 (.cons rfl rv) hsp))⟩
end L2
namespace Kf
open PySem L2
/-! ### defs with *args -/
/-- the promise, told of the positional arguments: what is left over behind n is the tuple -/
def Fp.star (n : Nat) (c : Fp) : Fp where
  pre ds := n ≤ ds.length ∧ ds.length ≤ 10000 ∧ c.pre (ds.take n ++ [.tup (ds.drop n)])
  post ds b := c.post (ds.take n ++ [.tup (ds.drop n)]) b
  exn ds y fl := c.exn (ds.take n ++ [.tup (ds.drop n)]) y fl
section
variable {P : Program} {w : World} {K : Fg} {mg : Str → Option Value} {base : Heap} {x qual : Str} {params : Arguments} {body : List Stmt} {scope : Scope} {f : Addr} {fd : FuncData}
theorem fs_ok {N ps : List Str} {pv : Str} {k : Nat} {c : Fp} (F : FunD K x qual params body scope [] [] f fd) (S : FnScope N (ps ++ [pv]) scope)
    (hbd : ∀ (kV doc pm : Value) (an : Option Addr) (cdv ct : Value) (us rest : List Value), us.length = ps.length → bindArgs (PySem.W.fnOf x qual params body scope .none kV doc pm an cdv ct) ⟨us ++ rest, []⟩ = (newTuple rest >>= fun t => pure (ps.zip us ++ [(pv, t)])))
    (hb : ∀ (cdv : Value) (A : Around) (outer : List Env) (s : Shared) (e : Ent) (E : XK) (ds : List D), e.own = none → c.pre ds → Room k (A.deeper (PyProof.Rows.envOfC qual scope s.heap.objs.size f cdv)) →
      Takes (cxOf (L2.CX P w) P w K mg base N qual scope f cdv A outer s e.H0 E) (wX K e fun y fl _ => c.exn ds y fl) →
      BL (cxOf (L2.CX P w) P w K mg base N qual scope f cdv A outer s e.H0 E) e body (gam0 N (ds.map .st)) { nx := fun _ => c.post ds (.st .non), rt := fun b _ => c.post ds b }) :
    FnR P w K mg base (L2.CX P w) (k + 1) f (spP K (c.star ps.length)) := by
  obtain ⟨oc, od, dV, kV, doc, pm, an, cdv, ct, osl, rfl, lk, hcd, hD, hK⟩ := F.ex
  have hdV : dV = .none := by
    rcases hD with ⟨_, h⟩ | ⟨h, _⟩
    · exact h
    · exact absurd rfl h
  subst hdV
  refine (StX.fn_star (sp := spP K c) lk hcd S StX.cxUp (hbd kV doc pm an cdv ct) (fun A outer s H vs Q E hr ⟨S0, ds, sh, r, hp, hq, hE⟩ => ?_)).imp ?_
  · have tk : Takes (cxOf (L2.CX P w) P w K mg base N qual scope f cdv A outer s H E) (wX K ⟨S0, H, none⟩ fun y fl _ => c.exn ds y fl) :=
      (takes_of (X := cxOf (L2.CX P w) P w K mg base N qual scope f cdv A outer s H E) (E := E) rfl rfl rfl rfl).imp fun cl d σ H' ⟨S', y, fl, Γ, hy, wd, he⟩ => hE S' H' y fl cl d hy wd.nx he
    refine ⟨_, hb cdv A outer s ⟨S0, H, none⟩ E ds rfl hp hr tk, S0, ⟨⟨Same.refl _, sh, fun _ _ z _ => z, fun _ z => z, fun _ _ => rfl⟩, start_sl r⟩, fun S' σ' H' Γ' q s' w' => ?_, fun _ _ _ _ z => z.elim, fun _ _ _ _ z => z.elim, fun S' σ' H' v b Γ' q s' w' ok => hq S' H' v b q w'.nx ok⟩
    exact hq S' H' .non (.st .non) q w'.nx .non
  · rintro vs H Q E ⟨S0, ds, sh, r, ⟨h1, h2, h3⟩, hq, hE⟩
    have hl := r.length
    refine ⟨vs.take ps.length, vs.drop ps.length, (List.take_append_drop _ _).symm, by rw [List.length_take]; omega, Nat.le_trans (m := 10000) (by rw [List.length_drop]; omega) (by decide), fun p hp => ?_⟩
    have s0 : S0 p = none := sh.free hp
    have pn := pur_new (o := .tup (vs.drop ps.length)) s0 hp
    have sh2 : Same (upd S0 p (.tup (vs.drop ps.length))) (upd H p (.tup (vs.drop ps.length))) := fun b u z => by
      by_cases hb : b = p
      · subst hb
        rw [upd_same] at z ⊢
        exact z
      · rw [upd_ne hb] at z ⊢
        exact sh _ _ z
    have nx : ∀ {S' H' : Hp}, Nx ⟨upd S0 p (.tup (vs.drop ps.length)), upd H p (.tup (vs.drop ps.length)), none⟩ S' H' → Nx ⟨S0, H, none⟩ S' H' := fun {S' H'} n =>
      ⟨pn.ss.trans n.ss, n.sh, fun a o z y => n.hh a o (pn.hh _ _ z) (fun q => nomatch q), fun a z => n.al a (pn.al a z), fun a z => (n.old a (pn.al a z)).trans (pn.old a z)⟩
    refine ⟨upd S0 p (.tup (vs.drop ps.length)), _, sh2, (RpL.take _ (r.mono pn.ss)).append (.cons (.tup (SqT.of upd_same) (RpL.drop _ (r.mono pn.ss))) .nil), h3, fun S' H' v b hbp n ok => ?_, fun S' H' y fl cls d hy n ek => ?_⟩
    · refine hq S' H' v b hbp (nx n) ?_
      cases b with
      | st d => exact ok
      | ow o =>
        obtain ⟨a, e1, e2, e3, e4⟩ := ok
        exact ⟨a, e1, e2, e3, pn.hh.free e4⟩
      | xc a d fl => exact ok
      | nw d l =>
        obtain ⟨a, q, u, xs, e1, e2, e3, e4, e5, e6, e7, e8, e9, e10⟩ := ok
        exact ⟨a, q, u, xs, e1, e2, e3, e4, e5, e6, e7, e8, pn.hh.free e9, pn.hh.free e10⟩
      | nt o1 o2 =>
        obtain ⟨a, q1, q2, e1, e2, e3, e4, e5, e6, e7, e8, e9, e10, e11⟩ := ok
        exact ⟨a, q1, q2, e1, e2, e3, e4, e5, e6, e7, e8, pn.hh.free e9, pn.hh.free e10, pn.hh.free e11⟩
    · refine hE S' H' y fl cls d hy (nx n) ?_
      obtain ⟨e1, e2⟩ := ek
      rcases e2 with e2 | ⟨dd, fs, g1, g2, g3, g4⟩
      · exact ⟨e1, .inl e2⟩
      · exact ⟨e1, .inr ⟨dd, fs, g1, g2, pn.hh.free g3, g4⟩⟩
end
/-! ### calls with *x -/
section
variable {X : Cx} {e : Ent} {Γ : Gam} {f : Addr} {sp : Sp} {k j : Nat} {W : WX} {x C m : Str} {p q pos apos : Pos} {a o : Expr} {es : List Expr} {fs : List (Str × D)} {U : Wx}
theorem pe_callWS {t : TA} (F : FnR X.prog X.w X.K X.mg X.base (L2.CX X.prog X.w) k f sp) (hr : Room k X.A) (tk : Takes X W) (hg : Gl X x) (hm : X.mg x = some (.ref f)) (hk : PySem.W.keepIn X.K (.ref f) = true) (ha : PA X (a :: es) t) (hdb : (x == ("__debug__" : Str)) = false := by decide)
    (he : starEach (a :: es) X.env = (false, eval a X.env) :: starEach es X.env := by rfl) (hst : (backTo pos (starEach es X.env)).any (·.1) = true := by rfl) :
    PE X (.Call (.Name x p) (a :: es) [] pos) (fun σ H Q => t σ H fun vs H1 => sp vs H1 Q fun c d H2 => W c d σ H2) := by
  refine ⟨fun pins s σ H Q I h => ?_⟩
  refine wpAny_Call_Name_kw (ld_glob I hg hm ?_ hdb)
  refine PySem.W.callWith_S2 (h₀ := X.base) I.ok.mod.kin hk (thn (ha.run pos pins s σ H _ I h) fun us s1 ⟨vs, H1, I1, r, q⟩ => ⟨I1.kIn, ?_⟩) he hst
  exact run_fnW F hr tk I1 r q
/-- f(.., *y): a new object, errors -/
theorem eo_callS {c : Fp} {ds : List D} {Φ : O → Gam → Prop} (N : XDn X x k (spP X.K c)) (hr : Room j X.A) (hj : k ≤ j) (tk : Takes X (wX X.K e U)) (ha : PVs X e (a :: es) Γ ds) (hp : c.pre ds) (hq : ∀ b, c.post ds b → ∃ o, b = .ow o ∧ Φ o Γ) (hx : ∀ y fl, c.exn ds y fl → U y fl Γ)
    (hg : Gl X x := by rfl) (hdb : (x == ("__debug__" : Str)) = false := by decide)
    (he : starEach (a :: es) X.env = (false, eval a X.env) :: starEach es X.env := by rfl) (hst : (backTo pos (starEach es X.env)).any (·.1) = true := by rfl) : EO X e (.Call (.Name x p) (a :: es) [] pos) Γ Φ :=
  PE.imp (pe_callWS N.fn (hr.mono hj) tk hg N.at_ N.kp ha hdb he hst) fun σ H Q ⟨S, w, q⟩ => ⟨S, w, fun S1 H1 vs s1 w1 r1 => by
    refine ⟨S1, ds, w1.nx.sh, r1, hp, fun S2 H2 v b hb n2 r2 => ?_, fun S2 H2 y fl cls dd hy n2 r2 => ?_⟩
    · obtain ⟨w2, s2⟩ := w1.after n2
      obtain ⟨o, rfl, hΦ⟩ := hq b hb
      obtain ⟨p2, rfl, sp2, ow2, h0⟩ := r2
      exact q S2 H2 p2 o Γ hΦ (s1.trans s2).stp w2 sp2 ow2 (s1.hh.free h0)
    · obtain ⟨w2, _⟩ := w1.after n2
      exact ⟨S2, y, fl, Γ, hx y fl hy, w2, eok_up w1.nx r2⟩⟩
/-- a method with *args, called by o.m(*y) -/
structure MdS (P : Program) (w : World) (K : Fg) (mg : Str → Option Value) (base : Heap) (C m : Str) (k : Nat) (c : Fp) : Prop where
  cls : Cls K (He.ga K C)
  fn : ∃ g, BMeth K (He.ga K C) m g ∧ FnR P w K mg base (L2.CX P w) k g (spP K c)
theorem eo_methS {c : Fp} {l : List D} {d : D} {Φ : O → Gam → Prop} (N : MdS X.prog X.w X.K X.mg X.base C m k c) (hr : Room j X.A) (hj : k ≤ j) (tk : Takes X (wX X.K e U)) (hx : PV X e o Γ (.obj C fs)) (hf : fs.lookup m = none) (ha : PV X e a Γ d) (hd : d = .lst l ∨ d = .tup l) (hp : c.pre (.obj C fs :: l))
    (hq : ∀ b, c.post (.obj C fs :: l) b → ∃ o, b = .ow o ∧ Φ o Γ) (hn : ∀ y fl, c.exn (.obj C fs :: l) y fl → U y fl Γ) (hbase : attributeBase o m X.env (eval o X.env) = eval o X.env := by rfl)
    (hst : starEach [.Starred a p] X.env = [(true, eval a X.env)] := by rfl) : EO X e (.Call (.Attribute o m apos) [.Starred a p] [] pos) Γ Φ := by
  obtain ⟨g, hm, F⟩ := N.fn
  refine PE.imp (pe_methS1 (W := wX X.K e U) hx N.cls hm F (hr.mono hj) tk ha hbase hst) fun σ H Q ⟨S, w, q⟩ => ⟨S, w, fun S1 H1 v s1 w1 r1 => ?_⟩
  cases r1 with
  | @obj oa odx _ ofs _ h1 h2 =>
    refine ⟨_, _, _, rfl, w1.nx.sh _ _ h1, h2.none hf, fun qa hqa => ⟨S1, w1.own hqa, fun S2 H2 vs s2 w2 r2 => ?_⟩⟩
    have hq2 : H2 qa = some (.met g oa) := s2.hh _ _ upd_same
    have st : Pur S H S2 H2 := s1.trans ((pur_own hqa).trans s2)
    have fin : ∀ b ys, (SqT X.K H2 b ys ∨ SqL X.K H2 b ys) → vs = .ref b → RpL X.K S2 ys l → ∃ b vs', vs = .ref b ∧ (SqT X.K H2 b vs' ∨ SqL X.K H2 b vs') ∧ H2 qa = some (.met g oa) ∧ spP X.K c (.ref oa :: vs') H2 Q fun c d H3 => wX X.K e U c d σ H3 := fun b ys hs ev ry => by
      refine ⟨b, ys, ev, hs, hq2, S2, .obj C fs :: l, w2.nx.sh, .cons (.obj (s2.ss _ _ h1) (h2.mono s2.ss)) ry, hp, fun S3 H3 v3 b3 hb3 n3 r3 => ?_, fun S3 H3 y fl cls dd hy n3 ek => ?_⟩
      · obtain ⟨w3, s3⟩ := w2.after n3
        obtain ⟨o3, rfl, hΦ⟩ := hq b3 hb3
        obtain ⟨p3, rfl, sp3, ow3, z0⟩ := r3
        exact q S3 H3 p3 o3 Γ hΦ (st.trans s3).stp w3 sp3 ow3 (st.hh.free z0)
      · obtain ⟨w3, _⟩ := w2.after n3
        exact ⟨S3, y, fl, Γ, hn y fl hy, w3, eok_up w2.nx ek⟩
    rcases hd with rfl | rfl
    · cases r2 with
      | lst g1 g2 => exact fin _ _ (.inr (rdq (same_rd w2.nx.sh g1))) rfl g2
    · cases r2 with
      | tup g1 g2 => exact fin _ _ (.inl (same_sqT w2.nx.sh g1)) rfl g2
end
/-! ### for with break -/
section
variable {X : Cx} {e : Ent} {Γ : Gam} {x tg : Expr} {pos : Pos} {k : Kn} {rest : List Stmt}
theorem bl_forB {body : List Stmt} {ix : List Nat} {bind : D → Gam → Gam → Prop} {Φ : List D → Gam → Prop} (Inv : List D → Nat → Gam → Prop) (Brk : Gam → Prop) (hw : WV X e tg x Γ Φ) (hg : GV X e tg ix bind) (h0 : ∀ ds Γ1, Φ ds Γ1 → Inv ds 0 Γ1)
    (hs : ∀ ds i d Γ1, ds[i]? = some d → Inv ds i Γ1 → ∃ Γ2, bind d Γ1 Γ2 ∧ BL X e body Γ2 { nx := Inv ds (i + 1), rt := k.rt, ct := Inv ds (i + 1), bk := Brk }) (hr : ∀ ds Γ1, Inv ds ds.length Γ1 → BL X e rest Γ1 k) (hrb : ∀ Γ1, Brk Γ1 → BL X e rest Γ1 k)
    (hp : PassesOwn (model X.prog X.w) X.A X.env X.xe) (hc : X.calm = true := by rfl) (hf : ∀ y, foldedSetIterable x X.env y = pure y := by intro _; rfl) : BL X e (.For tg x body [] pos :: rest) Γ k := by
  have hb : PSs X body (fun D σ H => ∃ ds i d Γ1 Γ2, ds[i]? = some d ∧ Inv ds i Γ1 ∧ bind d Γ1 Γ2 ∧ BL X e body Γ2 { nx := Inv ds (i + 1), rt := k.rt, ct := Inv ds (i + 1), bk := Brk } ∧ tS X.K e Γ2 { nx := Inv ds (i + 1), rt := k.rt, ct := Inv ds (i + 1), bk := Brk } D σ H) :=
    ⟨fun pins s σ H D I ⟨ds, i, d, Γ1, Γ2, _, _, _, hB, q⟩ => hB.run pins s σ H D I q⟩
  refine bl_cons (fun Γ1 => (∃ ds, Inv ds ds.length Γ1) ∨ Brk Γ1) (PS.imp (ps_for hp hc hw hg hb hf) fun D σ H ⟨S, w, nx, bk, ct, rt⟩ => ⟨S, w, fun S1 H1 J ds Γ1 hd s1 w1 it => ?_⟩) fun Γ1 h => h.elim (fun ⟨ds, h⟩ => hr ds Γ1 h) (hrb Γ1)
  refine ⟨fun i m σ H => m = ds.length - i ∧ i ≤ ds.length ∧ ∃ S Γ', Inv ds i Γ' ∧ Same S1 S ∧ Wd X.K e S H σ Γ', ⟨ds.length, by simp, Nat.zero_le _, S1, Γ1, h0 ds Γ1 hd, Same.refl _, w1⟩, ?_⟩
  rintro i m σ2 H2 ⟨rfl, hi, S2, Γ2, hI, s2, w2⟩
  by_cases hlt : i < ds.length
  · refine .inr ⟨it.go i S2 H2 hlt s2 w2.nx.sh, fun σ' H' => i + 1 ≤ ds.length ∧ ∃ S' Γ', Inv ds (i + 1) Γ' ∧ Same S1 S' ∧ Wd X.K e S' H' σ' Γ', fun σ' H' ⟨h1, h2⟩ => ⟨ds.length - (i + 1), by omega, rfl, h1, h2⟩, fun v H' y => ?_⟩
    obtain ⟨S3, p3, k3, r3⟩ := it.yld i _ S2 H2 v H' (List.getElem?_eq_getElem hlt) s2 w2.nx.sh y
    obtain ⟨Γ3, hb3, hB⟩ := hs ds i _ Γ2 (List.getElem?_eq_getElem hlt) hI
    refine ⟨S3, Γ2, _, Γ3, k3 _ _ w2, r3, hb3, fun σ4 _ _ w4 => ⟨ds, i, _, Γ2, Γ3, List.getElem?_eq_getElem hlt, hI, hb3, hB, S3, w4, fun S5 σ5 H5 Γ5 q5 s5 w5 => ⟨hlt, S5, Γ5, q5, (s2.trans p3.ss).trans s5, w5⟩, fun S5 σ5 H5 Γ5 q5 s5 w5 => nx S5 σ5 H5 Γ5 (.inr q5) (((s1.ss.trans s2).trans p3.ss).trans s5) w5,
      fun S5 σ5 H5 Γ5 q5 s5 w5 => ⟨hlt, S5, Γ5, q5, (s2.trans p3.ss).trans s5, w5⟩, fun S5 σ5 H5 v b Γ5 q5 s5 w5 => rt S5 σ5 H5 v b Γ5 q5 (((s1.ss.trans s2).trans p3.ss).trans s5) w5⟩⟩
  · have ei : i = ds.length := by omega
    subst ei
    exact .inl ⟨it.stop _ S2 H2 (Nat.le_refl _) s2 w2.nx.sh, nx S2 σ2 H2 Γ2 (.inl ⟨ds, hI⟩) (s1.ss.trans s2) w2⟩
theorem bl_break (hb : k.bk Γ) : BL X e (.Break pos :: rest) Γ k :=
  bl_cons (fun _ => False) (PS.imp ps_break fun D σ H ⟨S, w, _, bk, _⟩ => bk S σ H Γ hb (Same.refl _) w) fun _ z => z.elim
end
/-! ### a dict's value put anew -/
def putD (ds : List (Key × D)) (k : Key) (d : D) : List (Key × D) := if (ds.any fun kv => decide (kv.1 = k)) = true then ds.map (fun kv => if kv.1 = k then (kv.1, d) else kv) else ds ++ [(k, d)]
theorem RpK.any {K : Fg} {S : Hp} {k : Key} : ∀ {vs : List (Key × V)} {ds : List (Key × D)}, RpK K S vs ds → (vs.any fun kv => decide (kv.1 = k)) = ds.any fun kv => decide (kv.1 = k)
  | _, _, .nil => rfl
  | _, _, .cons _ t => by rw [List.any_cons, List.any_cons, t.any]
theorem RpK.mapv {K : Fg} {S : Hp} {k : Key} {v : V} {d : D} (h : Rp K S v d) : ∀ {vs : List (Key × V)} {ds : List (Key × D)}, RpK K S vs ds → RpK K S (vs.map fun kv => if kv.1 = k then (kv.1, v) else kv) (ds.map fun kv => if kv.1 = k then (kv.1, d) else kv)
  | _, _, .nil => .nil
  | _, _, .cons (k := k') r t => by
    rw [List.map_cons, List.map_cons]
    by_cases q : k' = k
    · rw [if_pos q, if_pos q]
      exact .cons h (t.mapv h)
    · rw [if_neg q, if_neg q]
      exact .cons r (t.mapv h)
theorem RpK.put {K : Fg} {S : Hp} {k : Key} {v : V} {d : D} {vs : List (Key × V)} {ds : List (Key × D)} (h : Rp K S v d) (r : RpK K S vs ds) : RpK K S (putK vs k v) (putD ds k d) := by
  unfold putK putD
  rw [r.any]
  split
  · exact r.mapv h
  · exact r.snoc h
section
variable {X : Cx} {e : Ent} {Γ : Gam} {i : Expr} {pos : Pos} {k : Kn} {rest : List Stmt} {j : Nat}
theorem bl_dputU {nm : Str} {np sp : Pos} {value : Expr} {Φ : D → Gam → Prop} (ix : Nat) (hr : Room j X.A) (hv : EV X e value Γ Φ) (h0 : ∀ d Γ1, Φ d Γ1 → ∃ l z, Γ1[ix]? = some (some (.ow (.dK l))) ∧ PV X e i Γ1 (.str z) ∧ l.length < 100000 ∧ BL X e rest (Γ1.set ix (some (.ow (.dK (putD l (.inr z) d))))) k)
    (hN : X.N[ix]? = some nm := by rfl) (hvs : Vis X.env.scope nm := by first | exact Or.inl rfl | exact Or.inr (Or.inl rfl) | exact Or.inr (Or.inr rfl)) (h1 : (nm == ("__debug__" : Str)) = false := by decide) (h2 : (nm == ("__classdict__" : Str)) = false := by decide)
    (hs : swapsWith value (some (.Subscript (.Name nm np) i sp)) pos.line X.env = pure false := by rfl) : BL X e (.Assign [.Subscript (.Name nm np) i sp] value pos :: rest) Γ k := by
  have hiT : PE X i (fun σ H Q => ∃ d Γ1 z, Φ d Γ1 ∧ PV X e i Γ1 (.str z) ∧ tP X.K e Γ1 (.str z) σ H Q) := ⟨fun pins s σ H Q I ⟨d, Γ1, z, _, hp, q⟩ => hp.run pins s σ H Q I q⟩
  refine bl_cons (fun Γ2 => ∃ d Γ1 l z, Φ d Γ1 ∧ Γ1[ix]? = some (some (.ow (.dK l))) ∧ Γ2 = Γ1.set ix (some (.ow (.dK (putD l (.inr z) d)))) ∧ BL X e rest Γ2 k) (PS.imp (L2.ps_dput (by have := hr.units; omega) (pe_var hN hvs h1 h2) hiT hv hs) fun D σ H ⟨S, w, nx, _⟩ => ⟨S, w, fun S1 H1 v d Γ1 hd s1 w1 r1 => ?_⟩) fun Γ2 ⟨_, _, _, _, _, _, _, z⟩ => z
  obtain ⟨l, z, g1, g2, g4, hB⟩ := h0 d Γ1 hd
  obtain ⟨u, g5, p, g6, sp1, ow1, hp⟩ := w1.sl.at_ ix _ g1
  subst g6
  refine ⟨_, g5, d, Γ1, z, hd, g2, S1, w1, fun S2 H2 y s2 w2 r2 => ?_⟩
  cases r2
  obtain ⟨u', g5', p', g6', sp2, ow2, hp2⟩ := w2.sl.at_ ix _ g1
  rw [g5] at g5'
  cases g5'
  cases g6'
  obtain ⟨kvs, g7, g8⟩ := ow2
  refine ⟨p, upd H2 p (.dK (putK kvs (.inr z) v)), rfl, .inl ⟨kvs, .inr z, g7, rfl, ?_, rfl⟩, ?_⟩
  · rw [g8.length]; exact Nat.lt_of_lt_of_le g4 (by decide)
  · exact nx S2 σ _ _ ⟨d, Γ1, l, z, hd, g1, rfl, hB⟩ (s1.ss.trans s2.ss) (w2.put g1 g5 ⟨_, upd_same, g8.put (r1.mono s2.ss)⟩)
end
end Kf
end
section
set_option maxRecDepth 100000
set_option maxHeartbeats 1000000
/-! KgM: plain: folds of a finite order, over any type. -/
namespace Kf

section
variable {α : Type} [DecidableEq α]
/-- b lies strictly above a in L with nothing between -/
def covG (r : α → α → Bool) (L : List α) (a b : α) : Bool := !decide (a = b) && (r a b && !(L.any fun m => !decide (m = a) && (!decide (m = b) && (r a m && r m b))))
def upsG (r : α → α → Bool) (L : List α) (k : α) : List α := L.filter fun z => covG r L k z
def dnsG (r : α → α → Bool) (L : List α) (k : α) : List α := L.filter fun z => covG r L z k
def placeG (r : α → α → Bool) (L : List α) (k : α) : Option α := if (upsG r L k).length = 1 then (upsG r L k)[0]? else if (dnsG r L k).length = 1 then (dnsG r L k)[0]? else none
def stepG (r : α → α → Bool) (kept L : List α) : Option (α × α) := L.findSome? fun k => if k ∈ kept then none else (placeG r L k).map fun p => (k, p)
def foldsG (r : α → α → Bool) (kept : List α) : Nat → List α → List (α × α) × List α
  | 0, L => ([], L)
  | n + 1, L => match stepG r kept L with
    | none => ([], L)
    | some f => ((f :: (foldsG r kept n (L.filter fun z => !decide (z = f.1))).1), (foldsG r kept n (L.filter fun z => !decide (z = f.1))).2)
def imgG (fs : List (α × α)) (k : α) : α := fs.foldl (fun im f => if f.1 = im then f.2 else im) k
theorem covG_iff {r : α → α → Bool} {L : List α} {a b : α} : covG r L a b = true ↔ a ≠ b ∧ r a b = true ∧ ∀ m ∈ L, m ≠ a → m ≠ b → r a m = true → r m b = true → False := by
  unfold covG
  simp only [Bool.and_eq_true, Bool.not_eq_true', decide_eq_false_iff_not, List.any_eq_false, decide_eq_true_eq, not_and, Bool.not_eq_true]
  constructor
  · rintro ⟨h1, h2, h3⟩
    exact ⟨h1, h2, fun m hm n1 n2 h4 h5 => by have := h3 m hm n1 n2 h4; rw [h5] at this; cases this⟩
  · rintro ⟨h1, h2, h3⟩
    refine ⟨h1, h2, fun m hm n1 n2 h4 => ?_⟩
    cases h5 : r m b with
    | false => rfl
    | true => exact (h3 m hm n1 n2 h4 h5).elim
/-- an order on a list -/
structure PoG (r : α → α → Bool) (L : List α) : Prop where
  refl : ∀ a ∈ L, r a a = true
  trans : ∀ a b c, a ∈ L → b ∈ L → c ∈ L → r a b = true → r b c = true → r a c = true
  anti : ∀ a b, a ∈ L → b ∈ L → r a b = true → r b a = true → a = b
theorem PoG.sub {r : α → α → Bool} {L M : List α} (h : PoG r L) (s : ∀ a ∈ M, a ∈ L) : PoG r M :=
  ⟨fun a ha => h.refl a (s a ha), fun a b c ha hb hc => h.trans a b c (s a ha) (s b hb) (s c hc), fun a b ha hb => h.anti a b (s a ha) (s b hb)⟩
/-- something covers a below b -/
theorem cover_up {r : α → α → Bool} {L : List α} (P : PoG r L) : ∀ (n : Nat) (a b : α), a ∈ L → b ∈ L → r a b = true → a ≠ b → (L.filter fun m => r a m && r m b).length ≤ n → ∃ c ∈ L, covG r L a c = true ∧ r c b = true
  | 0, a, b, ha, hb, hab, hne, hn => by
    have : b ∈ L.filter fun m => r a m && r m b := List.mem_filter.mpr ⟨hb, by rw [hab, P.refl b hb]; rfl⟩
    rw [List.length_eq_zero_iff.mp (Nat.le_zero.mp hn)] at this
    cases this
  | n + 1, a, b, ha, hb, hab, hne, hn => by
    by_cases h : covG r L a b = true
    · exact ⟨b, hb, h, P.refl b hb⟩
    · have hc : ∃ m ∈ L, m ≠ a ∧ m ≠ b ∧ r a m = true ∧ r m b = true := by
        refine Classical.byContradiction fun hno => h (covG_iff.mpr ⟨hne, hab, fun m hm n1 n2 h4 h5 => hno ⟨m, hm, n1, n2, h4, h5⟩⟩)
      obtain ⟨m, hm, n1, n2, h4, h5⟩ := hc
      have hlt : (L.filter fun z => r a z && r z m).length < (L.filter fun z => r a z && r z b).length := by
        have e : (L.filter fun z => r a z && r z m) = (L.filter fun z => r a z && r z b).filter fun z => r z m := by
          rw [List.filter_filter]
          refine List.filter_congr fun z hz => ?_
          cases h6 : r z m with
          | false => simp
          | true =>
            have h7 := P.trans z m b hz hm hb h6 h5
            rw [h7]
            simp
        rw [e]
        refine List.length_filter_lt_length_iff_exists.mpr ⟨b, List.mem_filter.mpr ⟨hb, by rw [hab, P.refl b hb]; rfl⟩, ?_⟩
        intro h6
        exact n2 (P.anti m b hm hb h5 h6)
      obtain ⟨c, hc, h6, h7⟩ := cover_up P n a m ha hm h4 (fun q => n1 q.symm) (by omega)
      exact ⟨c, hc, h6, P.trans c m b hc hm hb h7 h5⟩
theorem PoG.flip {r : α → α → Bool} {L : List α} (P : PoG r L) : PoG (fun a b => r b a) L :=
  ⟨P.refl, fun a b c ha hb hc h1 h2 => P.trans c b a hc hb ha h2 h1, fun a b ha hb h1 h2 => P.anti a b ha hb h2 h1⟩
theorem covG_flip {r : α → α → Bool} {L : List α} {a b : α} : covG (fun a b => r b a) L a b = covG r L b a := by
  rw [Bool.eq_iff_iff, covG_iff, covG_iff]
  exact ⟨fun ⟨h1, h2, h3⟩ => ⟨fun q => h1 q.symm, h2, fun m hm n1 n2 h4 h5 => h3 m hm n2 n1 h5 h4⟩, fun ⟨h1, h2, h3⟩ => ⟨fun q => h1 q.symm, h2, fun m hm n1 n2 h4 h5 => h3 m hm n2 n1 h5 h4⟩⟩
theorem one_mem {l : List α} {a : α} (h : l.length = 1) (ha : l[0]? = some a) : l = [a] := by
  match l, h with
  | [b], _ =>
    have : b = a := by simpa using ha
    rw [this]
/-- what a fold says: its place is the only cover on one side -/
theorem place_spec {r : α → α → Bool} {L : List α} {k p : α} (h : placeG r L k = some p) : upsG r L k = [p] ∨ dnsG r L k = [p] := by
  unfold placeG at h
  split at h
  · rename_i h1
    exact .inl (one_mem h1 h)
  · split at h
    · rename_i h2
      exact .inr (one_mem h2 h)
    · cases h
theorem place_mem {r : α → α → Bool} {L : List α} {k p : α} (h : placeG r L k = some p) : p ∈ L ∧ p ≠ k := by
  rcases place_spec h with q | q
  · have : p ∈ upsG r L k := by rw [q]; exact List.mem_singleton.mpr rfl
    obtain ⟨h1, h2⟩ := List.mem_filter.mp this
    exact ⟨h1, fun z => (covG_iff.mp h2).1 z.symm⟩
  · have : p ∈ dnsG r L k := by rw [q]; exact List.mem_singleton.mpr rfl
    obtain ⟨h1, h2⟩ := List.mem_filter.mp this
    exact ⟨h1, (covG_iff.mp h2).1⟩
/-- a fold keeps the order -/
theorem fold_mono {r : α → α → Bool} {L : List α} (P : PoG r L) {k p : α} (hk : k ∈ L) (h : placeG r L k = some p) {x y : α} (hx : x ∈ L) (hy : y ∈ L) (hxy : r x y = true) : r (if k = x then p else x) (if k = y then p else y) = true := by
  obtain ⟨hp, hpk⟩ := place_mem h
  have up1 : upsG r L k = [p] → r k p = true ∧ ∀ z ∈ L, r k z = true → k ≠ z → r p z = true := fun q => by
    have : p ∈ upsG r L k := by rw [q]; exact List.mem_singleton.mpr rfl
    refine ⟨(covG_iff.mp (List.mem_filter.mp this).2).2.1, fun z hz hkz hne => ?_⟩
    obtain ⟨c, hc, h1, h2⟩ := cover_up P _ k z hk hz hkz hne (Nat.le_refl _)
    have : c ∈ upsG r L k := List.mem_filter.mpr ⟨hc, h1⟩
    rw [q] at this
    rw [← List.mem_singleton.mp this]
    exact h2
  have dn1 : dnsG r L k = [p] → r p k = true ∧ ∀ z ∈ L, r z k = true → k ≠ z → r z p = true := fun q => by
    have : p ∈ dnsG r L k := by rw [q]; exact List.mem_singleton.mpr rfl
    refine ⟨(covG_iff.mp (List.mem_filter.mp this).2).2.1, fun z hz hkz hne => ?_⟩
    obtain ⟨c, hc, h1, h2⟩ := cover_up P.flip _ k z hk hz hkz hne (Nat.le_refl _)
    rw [covG_flip] at h1
    have : c ∈ dnsG r L k := List.mem_filter.mpr ⟨hc, h1⟩
    rw [q] at this
    rw [← List.mem_singleton.mp this]
    exact h2
  by_cases e1 : k = x
  · rw [if_pos e1]
    by_cases e2 : k = y
    · rw [if_pos e2]; exact P.refl p hp
    · rw [if_neg e2]
      subst e1
      rcases place_spec h with q | q
      · exact (up1 q).2 y hy hxy e2
      · exact P.trans p k y hp hk hy (dn1 q).1 hxy
  · rw [if_neg e1]
    by_cases e2 : k = y
    · rw [if_pos e2]
      subst e2
      rcases place_spec h with q | q
      · exact P.trans x k p hx hk hp hxy (up1 q).1
      · exact (dn1 q).2 x hx hxy e1
    · rw [if_neg e2]; exact hxy
theorem step_spec {r : α → α → Bool} {kept L : List α} {f : α × α} (h : stepG r kept L = some f) : f.1 ∈ L ∧ f.1 ∉ kept ∧ placeG r L f.1 = some f.2 := by
  unfold stepG at h
  obtain ⟨k, hk, h1⟩ := List.exists_of_findSome?_eq_some h
  split at h1
  · cases h1
  · rename_i hn
    obtain ⟨p, hp, e⟩ := Option.map_eq_some_iff.mp h1
    subst e
    exact ⟨hk, hn, hp⟩
theorem imgG_cons {f : α × α} {fs : List (α × α)} {k : α} : imgG (f :: fs) k = imgG fs (if f.1 = k then f.2 else k) := rfl
/-- the images: they keep the order, lie in what is left, are all of it, and leave it as it is -/
theorem folds_spec {r : α → α → Bool} {kept : List α} : ∀ (n : Nat) (L : List α), PoG r L →
    (∀ x ∈ (foldsG r kept n L).2, x ∈ L) ∧ (∀ x ∈ L, imgG (foldsG r kept n L).1 x ∈ (foldsG r kept n L).2) ∧ (∀ x ∈ (foldsG r kept n L).2, imgG (foldsG r kept n L).1 x = x) ∧ (∀ x y, x ∈ L → y ∈ L → r x y = true → r (imgG (foldsG r kept n L).1 x) (imgG (foldsG r kept n L).1 y) = true) ∧ (∀ x ∈ L, x ∈ kept → x ∈ (foldsG r kept n L).2)
  | 0, L, P => ⟨fun x h => h, fun x h => h, fun x h => rfl, fun x y _ _ h => h, fun x h _ => h⟩
  | n + 1, L, P => by
    unfold foldsG
    cases hs : stepG r kept L with
    | none => exact ⟨fun x h => h, fun x h => h, fun x h => rfl, fun x y _ _ h => h, fun x h _ => h⟩
    | some f =>
      obtain ⟨h1, h2, h3⟩ := step_spec hs
      obtain ⟨p1, p2⟩ := place_mem h3
      have sub : ∀ a ∈ L.filter (fun z => !decide (z = f.1)), a ∈ L := fun a ha => (List.mem_filter.mp ha).1
      obtain ⟨g1, g2, g3, g4, g5⟩ := folds_spec n (L.filter fun z => !decide (z = f.1)) (P.sub sub)
      have mem : ∀ x ∈ L, (if f.1 = x then f.2 else x) ∈ L.filter fun z => !decide (z = f.1) := fun x hx => by
        by_cases e : f.1 = x
        · rw [if_pos e]
          exact List.mem_filter.mpr ⟨p1, by simpa using p2⟩
        · rw [if_neg e]
          exact List.mem_filter.mpr ⟨hx, by simpa using fun q => e q.symm⟩
      refine ⟨fun x hx => sub x (g1 x hx), fun x hx => g2 _ (mem x hx), fun x hx => ?_, fun x y hx hy hxy => g4 _ _ (mem x hx) (mem y hy) (fold_mono P h1 h3 hx hy hxy), fun x hx hk => g5 x (List.mem_filter.mpr ⟨hx, by simpa using fun q => h2 (by rw [← q]; exact hk)⟩) hk⟩
      show imgG _ (if f.1 = x then f.2 else x) = x
      have ne : ¬ f.1 = x := fun q => by
        have := (List.mem_filter.mp (g1 x hx)).2
        rw [← q] at this
        simp at this
      rw [if_neg ne]
      exact g3 x hx
/-- enough turns: no fold is left -/
theorem folds_end {r : α → α → Bool} {kept : List α} : ∀ (n : Nat) (L : List α), L.length ≤ n → stepG r kept (foldsG r kept n L).2 = none
  | 0, L, h => by
    have : L = [] := List.length_eq_zero_iff.mp (Nat.le_zero.mp h)
    subst this
    rfl
  | n + 1, L, h => by
    unfold foldsG
    cases hs : stepG r kept L with
    | none => exact hs
    | some f =>
      have h1 := (step_spec hs).1
      refine folds_end n _ ?_
      have : (L.filter fun z => !decide (z = f.1)).length < L.length := List.length_filter_lt_length_iff_exists.mpr ⟨f.1, h1, by simp⟩
      omega
theorem folds_none {r : α → α → Bool} {kept L : List α} (h : stepG r kept L = none) : ∀ n, foldsG r kept n L = ([], L)
  | 0 => rfl
  | n + 1 => by unfold foldsG; rw [h]
theorem folds_more {r : α → α → Bool} {kept : List α} : ∀ (n m : Nat) (L : List α), L.length ≤ n → n ≤ m → foldsG r kept m L = foldsG r kept n L
  | 0, m, L, h, _ => by
    have : L = [] := List.length_eq_zero_iff.mp (Nat.le_zero.mp h)
    subst this
    exact folds_none rfl m
  | n + 1, m, L, h, hm => by
    obtain ⟨m', rfl⟩ : ∃ m', m = m' + 1 := ⟨m - 1, by omega⟩
    unfold foldsG
    cases hs : stepG r kept L with
    | none => rfl
    | some f =>
      have h1 := (step_spec hs).1
      have : (L.filter fun z => !decide (z = f.1)).length < L.length := List.length_filter_lt_length_iff_exists.mpr ⟨f.1, h1, by simp⟩
      dsimp only
      rw [folds_more n m' _ (by omega) (by omega)]
/-- something is always left -/
theorem folds_ne {r : α → α → Bool} {kept : List α} (n : Nat) (L : List α) (P : PoG r L) (h : 1 ≤ L.length) : 1 ≤ (foldsG r kept n L).2.length := by
  obtain ⟨_, g2, _⟩ := folds_spec (kept := kept) n L P
  match L, h with
  | a :: l, _ => exact List.length_pos_of_mem (g2 a List.mem_cons_self)
theorem folds_sub {r : α → α → Bool} {kept : List α} : ∀ (n : Nat) (L : List α), (foldsG r kept n L).2.Sublist L
  | 0, L => List.Sublist.refl _
  | n + 1, L => by
    unfold foldsG
    cases hs : stepG r kept L with
    | none => exact List.Sublist.refl _
    | some f => exact (folds_sub n _).trans List.filter_sublist
theorem folds_len {r : α → α → Bool} {kept : List α} : ∀ (n : Nat) (L : List α), (foldsG r kept n L).1.length ≤ n
  | 0, L => Nat.le_refl _
  | n + 1, L => by
    unfold foldsG
    cases hs : stepG r kept L with
    | none => exact Nat.zero_le _
    | some f => exact Nat.succ_le_succ (folds_len n _)
end
/-! ### by names -/
section
variable {α β : Type} [DecidableEq α] [DecidableEq β]
structure Tr (nm : α → β) (r : α → α → Bool) (s : β → β → Bool) (L : List α) : Prop where
  inj : ∀ a b, a ∈ L → b ∈ L → nm a = nm b → a = b
  rel : ∀ a b, a ∈ L → b ∈ L → s (nm a) (nm b) = r a b
variable {nm : α → β} {r : α → α → Bool} {s : β → β → Bool} {L : List α}
theorem Tr.sub {M : List α} (t : Tr nm r s L) (h : ∀ a ∈ M, a ∈ L) : Tr nm r s M := ⟨fun a b ha hb => t.inj a b (h a ha) (h b hb), fun a b ha hb => t.rel a b (h a ha) (h b hb)⟩
theorem Tr.ne (t : Tr nm r s L) {a b : α} (ha : a ∈ L) (hb : b ∈ L) : decide (nm a = nm b) = decide (a = b) := decide_eq_decide.mpr ⟨t.inj a b ha hb, fun h => by rw [h]⟩
theorem cov_tr (t : Tr nm r s L) {a b : α} (ha : a ∈ L) (hb : b ∈ L) : covG s (L.map nm) (nm a) (nm b) = covG r L a b := by
  rw [Bool.eq_iff_iff, covG_iff, covG_iff, t.rel a b ha hb]
  constructor
  · rintro ⟨h1, h2, h3⟩
    exact ⟨fun q => h1 (by rw [q]), h2, fun m hm n1 n2 h4 h5 => h3 (nm m) (List.mem_map.mpr ⟨m, hm, rfl⟩) (fun q => n1 (t.inj _ _ hm ha q)) (fun q => n2 (t.inj _ _ hm hb q)) (by rw [t.rel a m ha hm]; exact h4) (by rw [t.rel m b hm hb]; exact h5)⟩
  · rintro ⟨h1, h2, h3⟩
    refine ⟨fun q => h1 (t.inj _ _ ha hb q), h2, fun m hm n1 n2 h4 h5 => ?_⟩
    obtain ⟨m, hm2, rfl⟩ := List.mem_map.mp hm
    exact h3 m hm2 (fun q => n1 (by rw [q])) (fun q => n2 (by rw [q])) (by rw [← t.rel a m ha hm2]; exact h4) (by rw [← t.rel m b hm2 hb]; exact h5)
theorem ups_tr (t : Tr nm r s L) {k : α} (hk : k ∈ L) : upsG s (L.map nm) (nm k) = (upsG r L k).map nm := by
  unfold upsG
  rw [List.filter_map]
  congr 1
  exact List.filter_congr fun z hz => cov_tr t hk hz
theorem dns_tr (t : Tr nm r s L) {k : α} (hk : k ∈ L) : dnsG s (L.map nm) (nm k) = (dnsG r L k).map nm := by
  unfold dnsG
  rw [List.filter_map]
  congr 1
  exact List.filter_congr fun z hz => cov_tr t hz hk
theorem place_tr (t : Tr nm r s L) {k : α} (hk : k ∈ L) : placeG s (L.map nm) (nm k) = (placeG r L k).map nm := by
  unfold placeG
  rw [ups_tr t hk, dns_tr t hk, List.length_map, List.length_map, List.getElem?_map, List.getElem?_map]
  split
  · rfl
  · split <;> rfl
theorem findSome_map {γ : Type} {g : β → Option γ} : ∀ M : List α, (M.map nm).findSome? g = M.findSome? fun a => g (nm a)
  | [] => rfl
  | a :: l => by
    rw [List.map_cons, List.findSome?_cons, List.findSome?_cons, findSome_map l]
theorem findSome_congr {γ : Type} {g h : α → Option γ} : ∀ M : List α, (∀ a ∈ M, g a = h a) → M.findSome? g = M.findSome? h
  | [], _ => rfl
  | a :: l, e => by
    rw [List.findSome?_cons, List.findSome?_cons, e a List.mem_cons_self, findSome_congr l fun b hb => e b (List.mem_cons_of_mem _ hb)]
theorem step_tr (t : Tr nm r s L) {kept : List α} (hk : ∀ a ∈ kept, ∀ b ∈ L, nm a = nm b → a = b) : stepG s (kept.map nm) (L.map nm) = (stepG r kept L).map fun f => (nm f.1, nm f.2) := by
  unfold stepG
  rw [findSome_map, List.map_findSome?]
  refine findSome_congr _ fun k hkL => ?_
  have e : (nm k ∈ kept.map nm) ↔ k ∈ kept := ⟨fun h => by
    obtain ⟨a, ha, q⟩ := List.mem_map.mp h
    rw [← hk a ha k hkL q]
    exact ha, fun h => List.mem_map.mpr ⟨k, h, rfl⟩⟩
  show (if nm k ∈ kept.map nm then none else _) = Option.map _ (if k ∈ kept then none else _)
  by_cases q : k ∈ kept
  · rw [if_pos q, if_pos (e.mpr q)]
    rfl
  · rw [if_neg q, if_neg fun z => q (e.mp z), place_tr t hkL, Option.map_map, Option.map_map]
    rfl
theorem folds_tr {kept : List α} : ∀ (n : Nat) (L : List α), Tr nm r s L → (∀ a ∈ kept, ∀ b ∈ L, nm a = nm b → a = b) → foldsG s (kept.map nm) n (L.map nm) = ((foldsG r kept n L).1.map fun f => (nm f.1, nm f.2), (foldsG r kept n L).2.map nm)
  | 0, L, t, hk => rfl
  | n + 1, L, t, hk => by
    unfold foldsG
    rw [step_tr t hk]
    cases hs : stepG r kept L with
    | none => rfl
    | some f =>
      have h1 := (step_spec hs).1
      have e : (L.map nm).filter (fun z => !decide (z = nm f.1)) = (L.filter fun z => !decide (z = f.1)).map nm := by
        rw [List.filter_map]
        congr 1
        refine List.filter_congr fun z hz => ?_
        show (!decide (nm z = nm f.1)) = _
        rw [t.ne hz h1]
      have sub : ∀ a ∈ L.filter (fun z => !decide (z = f.1)), a ∈ L := fun a ha => (List.mem_filter.mp ha).1
      have ih := folds_tr n (L.filter fun z => !decide (z = f.1)) (t.sub sub) fun a ha b hb => hk a ha b (sub b hb)
      show ((_ :: (foldsG s _ n ((L.map nm).filter fun z => !decide (z = nm f.1))).1), _) = _
      rw [e, ih]
      rfl
theorem img_tr : ∀ (fs : List (α × α)) (k : α), (∀ f ∈ fs, ∀ x, x ∈ L → nm f.1 = nm x → f.1 = x) → k ∈ L → (∀ f ∈ fs, f.2 ∈ L) → imgG (fs.map fun f => (nm f.1, nm f.2)) (nm k) = nm (imgG fs k)
  | [], k, _, _, _ => rfl
  | f :: fs, k, h, hk, hL => by
    rw [List.map_cons, imgG_cons, imgG_cons]
    have hf := h f List.mem_cons_self k hk
    by_cases e : f.1 = k
    · rw [if_pos e, if_pos (show nm f.1 = nm k by rw [e])]
      exact img_tr fs f.2 (fun g hg => h g (List.mem_cons_of_mem _ hg)) (hL f List.mem_cons_self) fun g hg => hL g (List.mem_cons_of_mem _ hg)
    · rw [if_neg e, if_neg fun q => e (hf q)]
      exact img_tr fs k (fun g hg => h g (List.mem_cons_of_mem _ hg)) hk fun g hg => hL g (List.mem_cons_of_mem _ hg)
theorem folds_in {kept : List α} : ∀ (n : Nat) (L : List α), ∀ f ∈ (foldsG r kept n L).1, f.1 ∈ L ∧ f.2 ∈ L
  | 0, L, f, hf => by cases hf
  | n + 1, L, f, hf => by
    unfold foldsG at hf
    cases hs : stepG r kept L with
    | none => rw [hs] at hf; cases hf
    | some g =>
      rw [hs] at hf
      obtain ⟨h1, _, h3⟩ := step_spec hs
      rcases List.mem_cons.mp hf with e | e
      · rw [e]; exact ⟨h1, (place_mem h3).1⟩
      · obtain ⟨g1, g2⟩ := folds_in n _ f e
        exact ⟨(List.mem_filter.mp g1).1, (List.mem_filter.mp g2).1⟩
end
end Kf
end
section
set_option maxRecDepth 100000
set_option maxHeartbeats 1000000
/-! KgB: own operators; an order by a relation: covers, restricted. -/
namespace Kf
open PySem L2
section
variable {X : Cx} {e : Ent} {Γ : Gam} {a b : Expr} {pos : Pos} {op : Operator} {C : Str} {g : Addr} {sp : Sp} {k j : Nat} {W : WX} {U : Wx} {fs gs : List (Str × D)}
/-- a op b, both of the class C, C's own op -/
def tBinW (K : Fg) (C : Addr) (sp : Sp) (W : WX) (ta tb : TE) : TE := fun σ H Q => ta σ H fun x H1 => tb σ H1 fun y H2 => ∃ a' dx fs b' dy gs, x = .ref a' ∧ y = .ref b' ∧ H2 a' = some (.ins C dx fs) ∧ H2 b' = some (.ins C dy gs) ∧ sp [x, y] H2 Q fun c d H3 => W c d σ H3
theorem pe_binW {C : Addr} {ta tb : TE} (hc : PySem.W.selfFirst X.K C = true) (hs : PySem.W.findIn X.K (.ref C) (PySem.dunder op.info.2) = some (some (.ref g))) (hf : PySem.W.isFn X.K (.ref g) = true) (F : FnR X.prog X.w X.K X.mg X.base (L2.CX X.prog X.w) k g sp)
    (hr : Room k X.A) (tk : Takes X W) (ha : PE X a ta) (hb : PE X b tb) : PE X (.BinOp a op b pos) (tBinW X.K C sp W ta tb) := by
  refine ⟨fun pins s σ H Q I h => ?_⟩
  refine wpAny_BinOp (thn (ha.run pins s σ H _ I h) fun v s1 ⟨x, H1, I1, r1, q1⟩ => thn (hb.run pins s1 σ H1 _ I1 q1) fun u s2 ⟨y, H2, I2, r2, q2⟩ => ?_)
  obtain ⟨a', dx, fs, b', dy, gs, ex, ey, ea, eb, q⟩ := q2
  subst ex ey
  obtain rfl : v = Value.ref a' := r1
  obtain rfl : u = Value.ref b' := r2
  obtain ⟨mA, O, _⟩ := ins_get I2.hok ea
  obtain ⟨od, J, _⟩ := O.look
  obtain ⟨mB, O', _⟩ := ins_get I2.hok eb
  obtain ⟨od', J', _⟩ := O'.look
  obtain ⟨m, hF⟩ := I2.fr
  refine PySem.W.binop_K (op := op) hF I2.ok.mod.kin J J'.type hc hs hf ?_
  refine wpAny_mono (run_fnW (us := [.ref a', .ref b']) (vs := [.ref a', .ref b']) F hr tk I2 (.cons rfl (.cons rfl .nil)) q) (fun w s' z => ?_) fun _ _ x => x
  obtain ⟨z', H', I', rz, qz⟩ := z
  exact SlX.cmpback rz ⟨z', H', I', rz, qz⟩
structure Bd (P : Program) (w : World) (K : Fg) (mg : Str → Option Value) (base : Heap) (C : Str) (op : Operator) (k : Nat) (c : Fp) : Prop where
  sf : PySem.W.selfFirst K (He.ga K C) = true
  fn : ∃ g, PySem.W.findIn K (.ref (He.ga K C)) (PySem.dunder op.info.2) = some (some (.ref g)) ∧ PySem.W.isFn K (.ref g) = true ∧ FnR P w K mg base (L2.CX P w) k g (spP K c)
theorem eo_binO {c : Fp} {Φ : O → Gam → Prop} (N : Bd X.prog X.w X.K X.mg X.base C op k c) (hr : Room j X.A) (hj : k ≤ j) (tk : Takes X (wX X.K e U)) (ha : PV X e a Γ (.obj C fs)) (hb : PV X e b Γ (.obj C gs)) (hp : c.pre [.obj C fs, .obj C gs]) (hq : ∀ b, c.post [.obj C fs, .obj C gs] b → ∃ o, b = .ow o ∧ Φ o Γ) (hn : ∀ y fl, c.exn [.obj C fs, .obj C gs] y fl → U y fl Γ) :
    EO X e (.BinOp a op b pos) Γ Φ := by
  obtain ⟨g, g1, g2, F⟩ := N.fn
  exact PE.imp (pe_binW (W := wX X.K e U) N.sf g1 g2 F (hr.mono hj) tk ha hb) fun σ H Q ⟨S, w, q⟩ => ⟨S, w, fun S1 H1 v1 s1 w1 r1 => ⟨S1, w1, fun S2 H2 v2 s2 w2 r2 => by
    cases r1 with
    | obj h1 h2 =>
      cases r2 with
      | obj h3 h4 =>
        refine ⟨_, _, _, _, _, _, rfl, rfl, w2.nx.sh _ _ (s2.ss _ _ h1), w2.nx.sh _ _ h3, S2, _, w2.nx.sh, .cons (.obj (s2.ss _ _ h1) (h2.mono s2.ss)) (.cons (.obj h3 h4) .nil), hp, fun S3 H3 v b hb n3 r3 => ?_, fun S3 H3 y fl cls dd hy n3 ek => ?_⟩
        · obtain ⟨w3, s3⟩ := w2.after n3
          obtain ⟨o3, rfl, hΦ⟩ := hq b hb
          obtain ⟨p3, rfl, sp3, ow3, z0⟩ := r3
          exact q S3 H3 p3 o3 Γ hΦ ((s1.trans s2).trans s3).stp w3 sp3 ow3 ((s1.trans s2).hh.free z0)
        · obtain ⟨w3, _⟩ := w2.after n3
          exact ⟨S3, y, fl, Γ, hn y fl hy, w3, eok_up w2.nx ek⟩⟩⟩
end
/-! ### an order by a relation -/
def subO (r : Str → Str → Bool) (ks : List Str) : Ods := ⟨ks, fun x => ks.filter (r x)⟩
structure OrdG (r : Str → Str → Bool) (ks : List Str) : Prop where
  po : PoG r ks
  nd : ks.Nodup
  kn : ∀ z ∈ ks, KName z
  l1 : 1 ≤ ks.length
  l10 : ks.length ≤ 10
theorem OrdG.sub {r : Str → Str → Bool} {ks ls : List Str} (o : OrdG r ks) (h : ls.Sublist ks) (h1 : 1 ≤ ls.length) : OrdG r ls :=
  ⟨o.po.sub fun a ha => h.subset ha, o.nd.sublist h, fun z hz => o.kn z (h.subset hz), h1, Nat.le_trans h.length_le o.l10⟩
theorem OrdG.rel {r : Str → Str → Bool} {ks : List Str} (o : OrdG r ks) : (relS ks fun x => ks.filter (r x)).length ≤ 100 := by
  unfold relS
  rw [List.length_flatMap]
  have h1 : (ks.map fun x => ((ks.filter (r x)).map fun y => (x, y)).length).sum ≤ ks.length * ks.length := sum_le ks fun x _ => by
    rw [List.length_map]
    exact List.length_filter_le _ _
  exact Nat.le_trans h1 (Nat.le_trans (Nat.mul_le_mul o.l10 o.l10) (by decide))
theorem OrdG.ok {r : Str → Str → Bool} {ks : List Str} (o : OrdG r ks) : OdOk (subO r ks) :=
  ⟨by have := o.l10; show ks.length ≤ 1000; omega, by have := o.rel; show (relS ks fun x => ks.filter (r x)).length ≤ 10000; omega⟩
/-- the law's orders are such -/
noncomputable def relR (prs : List (Str × Str)) : Str → Str → Bool := fun x y => @decide (RchS (succS prs) x y) (Classical.propDecidable _)
theorem lod_sub {ks : List Str} {prs : List (Str × Str)} : lod ks prs = subO (relR prs) ks := rfl
open Classical in
theorem LOrd.ordG {ks : List Str} {prs : List (Str × Str)} (o : LOrd ks prs) : OrdG (relR prs) ks := by
  have tr : ∀ a b, relR prs a b = true ↔ RchS (succS prs) a b := fun a b => by unfold relR; exact decide_eq_true_iff
  refine ⟨⟨fun a _ => (tr a a).mpr (.refl _), fun a b c _ _ _ h1 h2 => (tr a c).mpr (((tr a b).mp h1).trans ((tr b c).mp h2)), fun a b ha hb h1 h2 => ?_⟩, o.nd, o.kn, o.l1, o.l4⟩
  exact anti_of o.rk a b ha (mem_aboveS.mpr ⟨hb, (tr a b).mp h1⟩) (mem_aboveS.mpr ⟨ha, (tr b a).mp h2⟩)
open Classical in
theorem LOrd.relT {ks : List Str} {prs : List (Str × Str)} (o : LOrd ks prs) {a b : Str} (ha : a ∈ ks) (hb : b ∈ ks) : relR prs a b = tabR ks prs (ks.idxOf a) (ks.idxOf b) := by
  rw [← o.tab ha hb, Bool.eq_iff_iff, decide_eq_true_iff, mem_aboveS]
  unfold relR
  rw [decide_eq_true_iff]
  exact ⟨fun h => ⟨hb, h⟩, fun h => h.2⟩
open Classical in
/-- the pairs of a relation close to the relation itself -/
theorem above_rel {r : Str → Str → Bool} {ks ls : List Str} (P : PoG r ks) (hs : ∀ z ∈ ls, z ∈ ks) {x : Str} (hx : x ∈ ls) : aboveS ls ((relS ks fun x => ks.filter (r x)).filter fun p => decide (p.1 ∈ ls) && decide (p.2 ∈ ls)) x = ls.filter (r x) := by
  refine List.filter_congr fun y hy => ?_
  rw [Bool.eq_iff_iff, decide_eq_true_iff]
  have step : ∀ {a b : Str}, b ∈ succS ((relS ks fun x => ks.filter (r x)).filter fun p => decide (p.1 ∈ ls) && decide (p.2 ∈ ls)) a ↔ a ∈ ls ∧ b ∈ ls ∧ r a b = true := fun {a b} => by
    rw [mem_succS, List.mem_filter, mem_relS]
    simp only [Bool.and_eq_true, decide_eq_true_eq, List.mem_filter]
    exact ⟨fun ⟨⟨_, _, h⟩, h1, h2⟩ => ⟨h1, h2, h⟩, fun ⟨h1, h2, h⟩ => ⟨⟨hs _ h1, hs _ h2, h⟩, h1, h2⟩⟩
  constructor
  · intro h
    have key : ∀ {a b : Str}, RchS (succS ((relS ks fun x => ks.filter (r x)).filter fun p => decide (p.1 ∈ ls) && decide (p.2 ∈ ls))) a b → a ∈ ls → b ∈ ls ∧ r a b = true := by
      intro a b q
      induction q with
      | refl => exact fun ha => ⟨ha, P.refl _ (hs _ ha)⟩
      | step _ e ih =>
        intro ha
        obtain ⟨h1, h2⟩ := ih ha
        obtain ⟨_, h4, h5⟩ := step.mp e
        exact ⟨h4, P.trans _ _ _ (hs _ ha) (hs _ h1) (hs _ h4) h2 h5⟩
    exact (key h hx).2
  · intro h
    exact .step (.refl _) (step.mpr ⟨hx, hy, h⟩)
theorem dOrd_congr {ks : List Str} {E F : Str → List Str} (h : ∀ x ∈ ks, E x = F x) : dOrd ks E = dOrd ks F := by
  unfold dOrd
  rw [rowsK_congr h]
theorem flatMap_congr' {α β : Type} {f g : α → List β} : ∀ {l : List α}, (∀ x ∈ l, f x = g x) → l.flatMap f = l.flatMap g
  | [], _ => rfl
  | a :: l, h => by rw [List.flatMap_cons, List.flatMap_cons, h a List.mem_cons_self, flatMap_congr' fun x hx => h x (List.mem_cons_of_mem _ hx)]
theorem flat_if {α : Type} (p : α → Bool) : ∀ l : List α, (l.flatMap fun a => if p a = true then [a] else []) = l.filter p
  | [] => rfl
  | a :: l => by
    rw [List.flatMap_cons, flat_if p l]
    cases h : p a with
    | true => rw [List.filter_cons_of_pos h]; rfl
    | false => rw [List.filter_cons_of_neg (by rw [h]; exact Bool.false_ne_true)]; rfl
/-! covers -/
theorem two_iff {r : Str → Str → Bool} {ks : List Str} (P : PoG r ks) (nd : ks.Nodup) {lo hi : Str} (h1 : lo ∈ ks) (h2 : hi ∈ ks) (h : r lo hi = true) (hne : lo ≠ hi) : decide (((ks.filter (r lo)).filter fun m => decide (hi ∈ ks.filter (r m))).length = 2) = covG r ks lo hi := by
  have e : ((ks.filter (r lo)).filter fun m => decide (hi ∈ ks.filter (r m))) = ks.filter fun m => r lo m && r m hi := by
    rw [List.filter_filter]
    refine List.filter_congr fun m hm => ?_
    have : decide (hi ∈ ks.filter (r m)) = r m hi := by
      rw [Bool.eq_iff_iff, decide_eq_true_iff, List.mem_filter]
      exact ⟨fun q => q.2, fun q => ⟨h2, q⟩⟩
    rw [this, Bool.and_comm]
  rw [e, Bool.eq_iff_iff, decide_eq_true_iff, covG_iff]
  have m1 : lo ∈ ks.filter fun m => r lo m && r m hi := List.mem_filter.mpr ⟨h1, by rw [P.refl lo h1, h]; rfl⟩
  have m2 : hi ∈ ks.filter fun m => r lo m && r m hi := List.mem_filter.mpr ⟨h2, by rw [P.refl hi h2, h]; rfl⟩
  have ndf : (ks.filter fun m => r lo m && r m hi).Nodup := nd.sublist List.filter_sublist
  constructor
  · intro hl
    refine ⟨hne, h, fun m hm n1 n2 h4 h5 => ?_⟩
    have m3 : m ∈ ks.filter fun m => r lo m && r m hi := List.mem_filter.mpr ⟨hm, by rw [h4, h5]; rfl⟩
    have := nodup_le (l := [lo, hi, m]) (m := ks.filter fun m => r lo m && r m hi) (by
      refine List.nodup_cons.mpr ⟨fun q => ?_, List.nodup_cons.mpr ⟨fun q => ?_, List.nodup_cons.mpr ⟨fun q => (by cases q), List.nodup_nil⟩⟩⟩
      · rcases List.mem_cons.mp q with q | q
        · exact hne q
        · exact n1 (List.mem_singleton.mp q).symm
      · exact n2 (List.mem_singleton.mp q).symm) fun x hx => by
        rcases List.mem_cons.mp hx with rfl | hx
        · exact m1
        rcases List.mem_cons.mp hx with rfl | hx
        · exact m2
        rw [List.mem_singleton.mp hx]; exact m3
    rw [hl] at this
    exact absurd this (show ¬ 3 ≤ 2 by decide)
  · rintro ⟨_, _, h3⟩
    have g1 : (ks.filter fun m => r lo m && r m hi).length ≤ 2 := nodup_le (m := [lo, hi]) ndf fun x hx => by
      obtain ⟨hx1, hx2⟩ := List.mem_filter.mp hx
      rw [Bool.and_eq_true] at hx2
      refine Classical.byContradiction fun hno => h3 x hx1 (fun q => hno (by rw [q]; exact List.mem_cons_self)) (fun q => hno (by rw [q]; exact List.mem_cons_of_mem _ (List.mem_singleton.mpr rfl))) hx2.1 hx2.2
    have g2 : 2 ≤ (ks.filter fun m => r lo m && r m hi).length := nodup_le (l := [lo, hi]) (List.nodup_cons.mpr ⟨fun q => hne (List.mem_singleton.mp q), List.nodup_cons.mpr ⟨fun q => (by cases q), List.nodup_nil⟩⟩) fun x hx => by
      rcases List.mem_cons.mp hx with rfl | hx
      · exact m1
      rw [List.mem_singleton.mp hx]; exact m2
    omega
def covL (r : Str → Str → Bool) (ks : List Str) : List (Str × Str) := (relS ks fun x => ks.filter (r x)).filter fun p => covG r ks p.1 p.2
theorem covL_ups {r : Str → Str → Bool} {ks : List Str} (nd : ks.Nodup) {k : Str} (hk : k ∈ ks) : ((covL r ks).filter fun p => decide (p.1 = k)).map (·.2) = upsG r ks k := by
  unfold covL relS
  rw [List.filter_filter, List.filter_flatMap, List.map_flatMap]
  have e : ∀ x ∈ ks, (((ks.filter (r x)).map fun y => (x, y)).filter fun p => decide (p.1 = k) && covG r ks p.1 p.2).map (·.2) = if x = k then upsG r ks k else [] := fun x _ => by
    rw [List.filter_map, List.map_map]
    by_cases q : x = k
    · subst q
      rw [if_pos rfl]
      have e2 : ((fun p : Str × Str => decide (p.1 = x) && covG r ks p.1 p.2) ∘ fun y => (x, y)) = fun y => covG r ks x y := by
        funext y
        show (decide (x = x) && covG r ks x y) = _
        rw [decide_eq_true rfl, Bool.true_and]
      rw [e2, List.filter_filter]
      unfold upsG
      have e3 : (ks.filter fun a => covG r ks x a && r x a) = ks.filter fun z => covG r ks x z := List.filter_congr fun z _ => by
        cases h : covG r ks x z with
        | false => rfl
        | true => rw [(covG_iff.mp h).2.1]; rfl
      rw [e3]
      show List.map (fun y => y) _ = _
      rw [List.map_id']
    · rw [if_neg q]
      have : ((ks.filter (r x)).filter ((fun p : Str × Str => decide (p.1 = k) && covG r ks p.1 p.2) ∘ fun y => (x, y))) = [] := List.filter_eq_nil_iff.mpr fun y _ => by
        show ¬ (decide (x = k) && _) = true
        rw [decide_eq_false q]
        exact Bool.false_ne_true
      rw [this]
      rfl
  rw [show (ks.flatMap fun a => (((ks.filter (r a)).map fun y => (a, y)).filter fun p => decide (p.1 = k) && covG r ks p.1 p.2).map (·.2)) = ks.flatMap fun a => if a = k then upsG r ks k else [] from flatMap_congr' fun x hx => e x hx]
  clear e
  generalize upsG r ks k = u
  induction ks with
  | nil => cases hk
  | cons a l ih =>
    rw [List.flatMap_cons]
    obtain ⟨na, nl⟩ := List.nodup_cons.mp nd
    by_cases q : a = k
    · subst q
      rw [if_pos rfl]
      have : (l.flatMap fun b => if b = a then u else []) = [] := List.flatMap_eq_nil_iff.mpr fun b hb => if_neg fun z => na (by rw [← z]; exact hb)
      rw [this, List.append_nil]
    · rw [if_neg q, List.nil_append]
      exact ih nl ((List.mem_cons.mp hk).resolve_left fun z => q z.symm)
theorem covL_dns {r : Str → Str → Bool} {ks : List Str} (nd : ks.Nodup) {k : Str} (hk : k ∈ ks) : ((covL r ks).filter fun p => decide (p.2 = k)).map (·.1) = dnsG r ks k := by
  unfold covL relS
  rw [List.filter_filter, List.filter_flatMap, List.map_flatMap]
  have e : ∀ x ∈ ks, (((ks.filter (r x)).map fun y => (x, y)).filter fun p => decide (p.2 = k) && covG r ks p.1 p.2).map (·.1) = if covG r ks x k = true then [x] else [] := fun x _ => by
    rw [List.filter_map, List.map_map, List.filter_filter]
    have e2 : (ks.filter fun a => ((fun p : Str × Str => decide (p.2 = k) && covG r ks p.1 p.2) ∘ fun y => (x, y)) a && r x a) = if covG r ks x k = true then [k] else [] := by
      by_cases q : covG r ks x k = true
      · rw [if_pos q]
        have e3 : (ks.filter fun a => ((fun p : Str × Str => decide (p.2 = k) && covG r ks p.1 p.2) ∘ fun y => (x, y)) a && r x a) = ks.filter fun a => decide (a = k) := List.filter_congr fun a _ => by
          show ((decide (a = k) && covG r ks x a) && r x a) = decide (a = k)
          by_cases z : a = k
          · subst z
            rw [q, (covG_iff.mp q).2.1, decide_eq_true rfl]
            rfl
          · rw [decide_eq_false z]
            rfl
        rw [e3]
        have hk' := hk
        have nd' := nd
        clear e3 q hk nd
        rename_i hxk
        clear hxk
        induction ks with
        | nil => cases hk'
        | cons a l ih =>
          obtain ⟨na, nl⟩ := List.nodup_cons.mp nd'
          by_cases q : a = k
          · subst q
            rw [List.filter_cons_of_pos (by simp)]
            have : l.filter (fun b => decide (b = a)) = [] := List.filter_eq_nil_iff.mpr fun b hb => by
              rw [decide_eq_true_eq]
              exact fun z => na (by rw [← z]; exact hb)
            rw [this]
          · rw [List.filter_cons_of_neg (by simpa using q)]
            exact ih ((List.mem_cons.mp hk').resolve_left fun z => q z.symm) nl
      · rw [if_neg q]
        refine List.filter_eq_nil_iff.mpr fun a _ => ?_
        show ¬ ((decide (a = k) && covG r ks x a) && r x a) = true
        intro z
        simp only [Bool.and_eq_true, decide_eq_true_eq] at z
        obtain ⟨⟨z1, z2⟩, _⟩ := z
        rw [z1] at z2
        exact q z2
    rw [e2]
    split <;> rfl
  rw [show (ks.flatMap fun a => (((ks.filter (r a)).map fun y => (a, y)).filter fun p => decide (p.2 = k) && covG r ks p.1 p.2).map (·.1)) = ks.flatMap fun a => if covG r ks a k = true then [a] else [] from flatMap_congr' fun x hx => e x hx]
  exact flat_if (fun z => covG r ks z k) ks
theorem spairsD_app {a b : List (Str × Str)} : spairsD (a ++ b) = spairsD a ++ spairsD b := List.map_append
theorem rowsF_congr {ks : List Str} {F G : Str → D} (h : ∀ x ∈ ks, F x = G x) : rowsF ks F = rowsF ks G := List.map_congr_left fun x hx => by rw [h x hx]
theorem filt1 {α β : Type} (f : α → Bool) (g : α → β) (z : α) : ([z].filter f).map g = if f z = true then [g z] else [] := by
  cases q : f z with
  | true => rw [List.filter_cons_of_pos q]; rfl
  | false => rw [List.filter_cons_of_neg (by rw [q]; exact Bool.false_ne_true)]; rfl
theorem sub_filter {L ks : List Str} : L.Sublist ks → ks.Nodup → (ks.filter fun z => decide (z ∈ L)) = L := by
  intro h
  induction h with
  | slnil => intro _; rfl
  | @cons l1 l2 a h ih =>
    intro nd
    obtain ⟨na, nl⟩ := List.nodup_cons.mp nd
    rw [List.filter_cons_of_neg (by simpa using fun q => na (h.subset q))]
    exact ih nl
  | @cons_cons l1 l2 a h ih =>
    intro nd
    obtain ⟨na, nl⟩ := List.nodup_cons.mp nd
    rw [List.filter_cons_of_pos (by simp)]
    congr 1
    rw [← ih nl]
    refine List.filter_congr fun z hz => ?_
    have : z ≠ a := fun q => na (by rw [← q]; exact hz)
    rw [ih nl]
    exact decide_eq_decide.mpr ⟨fun q => (List.mem_cons.mp q).resolve_left this, fun q => List.mem_cons_of_mem _ q⟩
theorem putD_rows {ks : List Str} {F : Str → D} {z : Str} {d : D} (h : z ∈ ks) : putD (rowsF ks F) (.inr z) d = rowsF ks fun x => if x = z then d else F x := by
  unfold putD
  rw [if_pos]
  · unfold rowsF
    rw [List.map_map]
    refine List.map_congr_left fun x hx => ?_
    show (if (Sum.inr x : Key) = Sum.inr z then ((Sum.inr x : Key), d) else (Sum.inr x, F x)) = (Sum.inr x, if x = z then d else F x)
    by_cases q : x = z
    · subst q
      rw [if_pos rfl, if_pos rfl]
    · rw [if_neg (fun e => q (Sum.inr.inj e)), if_neg q]
  · refine List.any_eq_true.mpr ⟨(.inr z, F z), List.mem_map.mpr ⟨z, h, rfl⟩, by simp⟩
end Kf
end
section
set_option maxRecDepth 100000
set_option maxHeartbeats 1000000
/-! KiA: more rules: x in l for plain data, any, properties, a, b = x. -/
namespace Kf
open PySem L2
theorem sc_inP {K : Fg} {d : D} {l : List D} {p : PyData} {q : List PyData} (ha : PyD d p) (hb : PyD (.lst l) (.list q)) (sa : SeqAt.shaped p = true) (sb : SeqAt.shaped (.list q) = true) : Sc K (rInD K) d (.lst l) (.bl (q.any fun z => PyData.eqv z p)) := fun S H v1 v2 Q s r1 r2 k => ⟨_, _, (pyD_dp s ha).1 _ r1, (pyD_dp s hb).1 _ r2, sa, sb, k _ (.bl _)⟩
theorem sc_ninP {K : Fg} {d : D} {l : List D} {p : PyData} {q : List PyData} (ha : PyD d p) (hb : PyD (.lst l) (.list q)) (sa : SeqAt.shaped p = true) (sb : SeqAt.shaped (.list q) = true) : Sc K (rNotInD K) d (.lst l) (.bl (!q.any fun z => PyData.eqv z p)) := fun S H v1 v2 Q s r1 r2 k => ⟨_, _, (pyD_dp s ha).1 _ r1, (pyD_dp s hb).1 _ r2, sa, sb, k _ (.bl _)⟩
/-! pairs as plain data -/
def pyP (p : Str × Str) : PyData := .tuple [.str p.1, .str p.2]
def pyN (p : Nat × Nat) : PyData := .tuple [.int (p.1 : Int), .int (p.2 : Int)]
theorem pyD_p (p : Str × Str) : PyD (spairD p) (pyP p) := .tcons (.str _) (.tcons (.str _) .tnil)
theorem pyD_n (p : Nat × Nat) : PyD (pairD p) (pyN p) := .tcons (.int _) (.tcons (.int _) .tnil)
theorem pyD_map {α : Type} {c : α → D} {f : α → PyData} (h : ∀ a, PyD (c a) (f a)) : ∀ l : List α, PyD (.lst (l.map c)) (.list (l.map f))
  | [] => .lnil
  | a :: l => .lcons (h a) (pyD_map h l)
theorem eqv_p (a b : Str × Str) : PyData.eqv (pyP a) (pyP b) = decide (a = b) := by
  obtain ⟨a1, a2⟩ := a
  obtain ⟨b1, b2⟩ := b
  have e1 : PyData.eqv (pyP (a1, a2)) (pyP (b1, b2)) = ((a1 == b1) && (a2 == b2)) := by simp [pyP, PyData.eqv, PyData.eqvAll]
  rw [e1, Bool.eq_iff_iff, Bool.and_eq_true, beq_iff_eq, beq_iff_eq, decide_eq_true_iff, Prod.mk.injEq]
theorem eqv_n (a b : Nat × Nat) : PyData.eqv (pyN a) (pyN b) = decide (a = b) := by
  obtain ⟨a1, a2⟩ := a
  obtain ⟨b1, b2⟩ := b
  have e1 : PyData.eqv (pyN (a1, a2)) (pyN (b1, b2)) = (((a1 : Int) == b1) && ((a2 : Int) == b2)) := by simp [pyN, PyData.eqv, PyData.eqvAll]
  rw [e1, Bool.eq_iff_iff, Bool.and_eq_true, beq_iff_eq, beq_iff_eq, decide_eq_true_iff, Prod.mk.injEq]
  omega
theorem any_eq {α : Type} [DecidableEq α] {f : α → PyData} (h : ∀ a b, PyData.eqv (f a) (f b) = decide (a = b)) (x : α) : ∀ l : List α, ((l.map f).any fun z => PyData.eqv z (f x)) = decide (x ∈ l)
  | [] => rfl
  | a :: l => by
    rw [List.map_cons, List.any_cons, h, any_eq h x l]
    by_cases q : a = x
    · subst q; simp
    · have q2 : ¬ x = a := fun z => q z.symm
      simp [q, q2]
theorem shp_p (p : Str × Str) (h1 : PyData.strOk p.1 = true) (h2 : PyData.strOk p.2 = true) : SeqAt.shaped (pyP p) = true := by
  simp [pyP, SeqAt.shaped, PyData.canLay0, PyData.canLayAll0, PyData.depth, PyData.depthAll, h1, h2]
theorem shp_n (p : Nat × Nat) : SeqAt.shaped (pyN p) = true := by
  simp [pyN, SeqAt.shaped, PyData.canLay0, PyData.canLayAll0, PyData.depth, PyData.depthAll]
theorem shp_all {α : Type} {f : α → PyData} : ∀ {l : List α}, (∀ a ∈ l, PyData.canLay0 (f a) = true ∧ (f a).depth ≤ 10) → PyData.canLayAll0 (l.map f) = true ∧ PyData.depthAll (l.map f) ≤ 10
  | [], _ => ⟨by simp [PyData.canLayAll0], by simp [PyData.depthAll]⟩
  | a :: l, h => by
    obtain ⟨h1, h2⟩ := shp_all (l := l) fun b hb => h b (List.mem_cons_of_mem _ hb)
    obtain ⟨h3, h4⟩ := h a List.mem_cons_self
    refine ⟨by simp [PyData.canLayAll0, h1, h3], ?_⟩
    simp only [List.map_cons, PyData.depthAll]
    omega
theorem shp_lst {α : Type} {f : α → PyData} {l : List α} (h : ∀ a ∈ l, PyData.canLay0 (f a) = true ∧ (f a).depth ≤ 10) : SeqAt.shaped (.list (l.map f)) = true := by
  obtain ⟨h1, h2⟩ := shp_all h
  unfold SeqAt.shaped
  rw [Bool.and_eq_true]
  refine ⟨h1, decide_eq_true ?_⟩
  show PyData.depthAll _ + 1 ≤ 64
  omega
theorem lay_p (p : Str × Str) (h1 : PyData.strOk p.1 = true) (h2 : PyData.strOk p.2 = true) : PyData.canLay0 (pyP p) = true ∧ (pyP p).depth ≤ 10 := by
  constructor <;> simp [pyP, PyData.canLay0, PyData.canLayAll0, PyData.depth, PyData.depthAll, h1, h2]
theorem lay_n (p : Nat × Nat) : PyData.canLay0 (pyN p) = true ∧ (pyN p).depth ≤ 10 := by
  constructor <;> simp [pyN, PyData.canLay0, PyData.canLayAll0, PyData.depth, PyData.depthAll]
theorem room_65 {k : Nat} {A : Around} (hr : Room k A) : A.units + 65 < cLine := by
  have h := hr.un
  omega
section
variable {X : Cx} {e : Ent} {Γ : Gam} {a b x : Expr} {pos : Pos} {j : Nat}
def PsS (l : List (Str × Str)) : Prop := ∀ p ∈ l, PyData.strOk p.1 = true ∧ PyData.strOk p.2 = true
/-- pair (not) in pairs -/
theorem px_inPS {p : Str × Str} {l : List (Str × Str)} (hr : Room j X.A) (ha : PV X e a Γ (spairD p)) (hb : PV X e b Γ (.lst (spairsD l))) (hp : PyData.strOk p.1 = true ∧ PyData.strOk p.2 = true) (hl : PsS l) (hm : behindInMarks .In b = false := by first | exact nomark _ | rfl) : PX X e (.Compare a [.In] [b] pos) Γ (decide (p ∈ l)) := by
  refine px_is (?_ : PX X e _ Γ ((l.map pyP).any fun z => PyData.eqv z (pyP p))) ((any_eq eqv_p p l).trans (decide_eq_decide.mpr Iff.rfl))
  exact px_cmp (op_inD (room_65 hr)) ha hb (sc_inP (pyD_p p) (pyD_map pyD_p l) (shp_p p hp.1 hp.2) (shp_lst fun a h => lay_p a (hl a h).1 (hl a h).2)) hm
theorem px_ninPS {p : Str × Str} {l : List (Str × Str)} (hr : Room j X.A) (ha : PV X e a Γ (spairD p)) (hb : PV X e b Γ (.lst (spairsD l))) (hp : PyData.strOk p.1 = true ∧ PyData.strOk p.2 = true) (hl : PsS l) (hm : behindInMarks .NotIn b = false := by first | exact nomark _ | rfl) : PX X e (.Compare a [.NotIn] [b] pos) Γ (!decide (p ∈ l)) := by
  refine px_is (?_ : PX X e _ Γ (!(l.map pyP).any fun z => PyData.eqv z (pyP p))) (congrArg Bool.not ((any_eq eqv_p p l).trans (decide_eq_decide.mpr Iff.rfl)))
  exact px_cmp (op_notInD (room_65 hr)) ha hb (sc_ninP (pyD_p p) (pyD_map pyD_p l) (shp_p p hp.1 hp.2) (shp_lst fun a h => lay_p a (hl a h).1 (hl a h).2)) hm
theorem px_ninPN {p : Nat × Nat} {l : List (Nat × Nat)} (hr : Room j X.A) (ha : PV X e a Γ (pairD p)) (hb : PV X e b Γ (.lst (pairsD l))) (hm : behindInMarks .NotIn b = false := by first | exact nomark _ | rfl) : PX X e (.Compare a [.NotIn] [b] pos) Γ (!decide (p ∈ l)) := by
  refine px_is (?_ : PX X e _ Γ (!(l.map pyN).any fun z => PyData.eqv z (pyN p))) (congrArg Bool.not ((any_eq eqv_n p l).trans (decide_eq_decide.mpr Iff.rfl)))
  exact px_cmp (op_notInD (room_65 hr)) ha hb (sc_ninP (pyD_n p) (pyD_map pyD_n l) (shp_n p) (shp_lst fun a _ => lay_n a)) hm
theorem pv_any {bs : List Bool} {p : Pos} (hx : PV X e x Γ (.lst (bs.map .bl))) (hm : X.mg "any" = none) (hc : X.calm = true := by rfl) (hg : Gl X "any" := by rfl) (he : starEach [x] X.env = (false, eval x X.env) :: starEach [] X.env := by rfl) (hpl : (backTo pos (starEach [] X.env)).any (·.1) = false := by rfl) :
    PV X e (.Call (.Name "any" p) [x] [] pos) Γ (.bl (bs.any id)) :=
  pv_cb (cr_any hc) hm (by decide +kernel) (pvs_cons hx pvs_nil he) (fun S H vs Q s r q => by
    cases r with
    | cons r1 r2 =>
      cases r2
      cases r1 with
      | lst h1 h2 =>
        have e := rpl_bls h2
        subst e
        exact ⟨_, bs, rfl, rdq (same_rd s h1), q _ (.bl _)⟩) hg (by decide) (by decide) he hpl
end
/-! ### properties -/
/-- the property f of C: it hands out the field h -/
structure PropD (P : Program) (w : World) (K : Fg) (mg : Str → Option Value) (base : Heap) (C f h : Str) (k : Nat) : Prop where
  cls : Cls K (He.ga K C)
  fn : ∃ p g fd, PropOf K (He.ga K C) f p g ∧ FnOk P w K mg base (L2.CX P w) k g fd ["self"] (getSp (He.ga K C) h) ∧ Binds K fd ["self"] []
section
variable {X : Cx} {e : Ent} {Γ : Gam} {x : Expr} {pos : Pos} {k j : Nat} {C f h : Str} {fs : List (Str × D)} {d : D}
theorem passes_prop {X : Cx} : Passes (L2.CX X.prog X.w) X.nox (fun _ _ _ => False) := fun _ _ _ _ _ _ _ c => by
  obtain ⟨_, _, _, _, _, _, _, _, _, _, _, _, z⟩ := c
  exact z.elim
theorem pv_prop (N : PropD X.prog X.w X.K X.mg X.base C f h k) (hr : Room j X.A) (hj : k + 1 ≤ j) (hx : PV X e x Γ (.obj C fs)) (hl : fs.lookup h = some d) (hb : attributeBase x f X.env (eval x X.env) = eval x X.env := by rfl) : PV X e (.Attribute x f pos) Γ d := by
  obtain ⟨p, g, fd, h1, F, h2⟩ := N.fn
  refine PE.imp (pe_prop (dvs := []) (ds := []) hx N.cls h1 F (hr.mono hj) h2 .nil passes_prop hb) fun σ H Q ⟨S, w, q⟩ => ⟨S, w, fun S1 H1 v s1 w1 r1 => ?_⟩
  cases r1 with
  | obj g1 g2 =>
    obtain ⟨u, hu, ru⟩ := g2.lookup hl
    exact ⟨_, _, _, rfl, w1.nx.sh _ _ g1, _, _, _, u, rfl, w1.nx.sh _ _ g1, hu, q S1 H1 u s1 w1 ru⟩
end
/-! ### a, b = x -/
section
variable {X : Cx} {e : Ent} {Γ : Gam} {x : Expr} {pos : Pos} {k : Kn} {rest : List Stmt}
theorem bl_unp2 {na nb : Str} {pa pb tp : Pos} {cc : Nat} {d1 d2 : D} (i j : Nat) (he : PV X e x Γ (.tup [d1, d2])) (hr : BL X e rest ((Γ.set i (some (.st d1))).set j (some (.st d2))) k) (hN : X.N.Nodup := by assumption) (hi : X.N[i]? = some na := by rfl) (hj : X.N[j]? = some nb := by rfl) (hx : Loc X.env.scope na := by first | exact .inl rfl | exact .inr rfl) (hy : Loc X.env.scope nb := by first | exact .inl rfl | exact .inr rfl)
    (hz : e.own = none ∨ (i ≠ 0 ∧ j ≠ 0) := by first | exact .inl rfl | exact .inr ⟨by decide, by decide⟩) (hf : X.fn na = true ∨ X.env.scope.names.lookup na = some .local := by first | exact .inl rfl | exact .inr rfl) (hg : X.fn nb = true ∨ X.env.scope.names.lookup nb = some .local := by first | exact .inl rfl | exact .inr rfl) (hc : X.calm = true := by rfl)
    (hs : swapsWithSole [.Tuple [.Name na pa, .Name nb pb] cc tp] x pos.line X.env = pure false := by rfl) (hw : swappedStores [.Tuple [.Name na pa, .Name nb pb] cc tp] x X.env = pure none := by rfl) (h1 : (assignEach [.Tuple [.Name na pa, .Name nb pb] cc tp] X.env).map (·.2) = [assign (.Tuple [.Name na pa, .Name nb pb] cc tp) X.env] := by rfl) :
    BL X e (.Assign [.Tuple [.Name na pa, .Name nb pb] cc tp] x pos :: rest) Γ k := by
  have hg2 : GV X e (.Tuple [.Name na pa, .Name nb pb] cc tp) ([i] ++ [j]) (bTwo (bName i) (bName j)) := gv_two hc (gv_name i hN hi hx (hz.imp id fun z => z.1) hf) (gv_name j hN hj hy (hz.imp id fun z => z.2) hg) (fun a b => pg_tup hc (pgs_cons a (pgs_cons b pgs_nil)))
  refine bl_cons (fun Γ2 => Γ2 = (Γ.set i (some (.st d1))).set j (some (.st d2))) (PS.imp (ps_asg he hg2 hs hw h1) fun D σ H ⟨S, w, nx, _⟩ => ⟨S, w, fun S1 H1 v s1 w1 r1 => ?_⟩) fun Γ2 h => by subst h; exact hr
  exact ⟨S1, Γ, _, _, w1, r1, ⟨d1, d2, _, rfl, rfl, rfl⟩, fun σ' _ _ w' => nx S1 σ' H1 _ rfl s1.ss w'⟩
end
end Kf
end
section
set_option maxRecDepth 100000
set_option maxHeartbeats 1000000
/-! KiB: names of unknowns; Sayings(..): walked. -/
namespace Kf
open PySem L2
/-! names -/
def UName (z : Str) : Prop := ∃ t, cdl z = 63 :: t ∧ 1 ≤ t.length ∧ t.length ≤ 24 ∧ ∀ c ∈ t, latC c
def isU (z : Str) : Bool := decide ((cdl z).head? = some 63)
theorem isU_k {z : Str} (h : KName z) : isU z = false := by
  obtain ⟨_, _, ⟨c, t, h3, h4⟩, _⟩ := h
  refine decide_eq_false ?_
  show ¬ (z.cps.toList).head? = some 63
  rw [h3]
  intro q
  have : c = 63 := by simpa using q
  subst this
  unfold lowC at h4
  omega
theorem isU_u {z : Str} (h : UName z) : isU z = true := by
  obtain ⟨t, h1, _⟩ := h
  unfold isU
  rw [h1]
  rfl
theorem str_ext {a b : Str} (h : cdl a = cdl b) : a = b := by
  obtain ⟨a⟩ := a
  obtain ⟨b⟩ := b
  have : a.toList = b.toList := h
  rw [Array.toList_inj.mp this]
theorem cut1 (z : Str) : decide (cutS z none (some ((1 : Nat) : Int)) = ("?" : Str)) = isU z := by
  refine decide_eq_decide.mpr ?_
  have e : cdl (cutS z none (some ((1 : Nat) : Int))) = (cdl z).take 1 := cdl_take z 1
  have q : cdl ("?" : Str) = [63] := rfl
  constructor
  · intro h
    rw [h, q] at e
    cases hz : cdl z with
    | nil => rw [hz] at e; cases e
    | cons c t =>
      rw [hz] at e
      have e' : ([63] : List Nat) = [c] := e
      cases e'
      rfl
  · intro h
    refine str_ext ?_
    rw [e, q]
    cases hz : cdl z with
    | nil => rw [hz] at h; cases h
    | cons c t =>
      rw [hz] at h
      cases h
      rfl
theorem uname_len {z : Str} (h : UName z) : z.length ≤ 25 := by
  obtain ⟨t, h1, _, h3, _⟩ := h
  rw [← cdl_len, h1, List.length_cons]
  omega
theorem uname_ok {z : Str} (h : UName z) : PyData.strOk z = true := by
  obtain ⟨t, h1, _, _, h4⟩ := h
  unfold PyData.strOk
  rw [← Array.all_toList, List.all_eq_true]
  intro c hc
  have hc' : c ∈ cdl z := hc
  rw [h1] at hc'
  rcases List.mem_cons.mp hc' with rfl | q
  · decide
  · have := h4 c q
    unfold latC at this
    exact decide_eq_true (by omega)
/-- a name that a saying may have -/
def NOk (ks : List Str) (z : Str) : Prop := (z ∈ ks ∧ KName z) ∨ UName z
theorem NOk.len {ks : List Str} {z : Str} (h : NOk ks z) : z.length ≤ 25 := by
  rcases h with ⟨_, h⟩ | h
  · exact Nat.le_trans h.2.1 (by decide)
  · exact uname_len h
theorem NOk.ok {ks : List Str} {z : Str} (h : NOk ks z) : PyData.strOk z = true := by
  rcases h with ⟨_, h⟩ | h
  · exact strOk_name h
  · exact uname_ok h
section
variable {P : Program} {w : World} {K : Fg} {mg : Str → Option Value} {base : Heap} {x qual : Str} {dvs : List V}
/-! ### is_unknown -/
def cIsU (z : Str) : Fp where
  pre ds := ds = [.str z] ∧ z.length ≤ 1000
  post ds b := b = .st (.bl (isU z))
  exn _ _ _ := False
abbrev s_isu : Stmt := top 25
theorem scIsU : FnScope ["name"] ["name"] (defScope s_isu) := ⟨rfl, rfl, rfl, by decide +kernel, rfl, by decide +kernel, by decide +kernel⟩
theorem ok_isu {f : Addr} {fd : FuncData} (F : FunS K "is_unknown" s_isu f fd) (z : Str) : FnOk P w K mg base (L2.CX P w) 1 f fd ["name"] (spP K (cIsU z)) := by
  refine fp_ok F scIsU (fun ds ⟨h, _⟩ => by rw [h]; rfl) fun cdv A outer s e Ex ds ho ⟨hd, hl⟩ hr tk => ?_
  subst hd
  refine bl_retP (pv_is (pv_c op_eq (pv_cutS (pv_var 0) (Nat.le_trans hl (by decide)) pp_none (pp_some pv_int)) pv_str sc_eqS) (d := .bl (isU z)) (congrArg D.bl ?_)) rfl
  exact cut1 z
/-! ### is_unknown_name -/
def cIsUN (z : Str) : Fp where
  pre ds := ds = [.str z] ∧ UName z
  post ds b := b = .st (.bl true)
  exn _ _ _ := False
abbrev s_isun : Stmt := top 18
abbrev nIsun : List Str := ["text", "char"]
theorem scIsUN : FnScope nIsun ["text"] (defScope s_isun) := ⟨rfl, rfl, rfl, by decide +kernel, rfl, by decide +kernel, by decide +kernel⟩
theorem ok_isun {f : Addr} {fd : FuncData} (F : FunS K "is_unknown_name" s_isun f fd) (b : Bi mg) (gc : Gc mg) (z : Str) : FnOk P w K mg base (L2.CX P w) 1 f fd ["text"] (spP K (cIsUN z)) := by
  refine fp_ok F scIsUN (fun ds ⟨h, _⟩ => by rw [h]; rfl) fun cdv A outer s e E ds ho ⟨hd, hz⟩ hr tk => ?_
  subst hd
  have nd := scIsUN.nd
  have h25 := uname_len hz
  obtain ⟨t, h1, h2, h3, h4⟩ := hz
  obtain ⟨tm, gm⟩ := gc.most
  obtain ⟨ta, ga⟩ := gc.later
  have hlz : z.length = t.length + 1 := by rw [← cdl_len, h1, List.length_cons]
  have hsz : z.length ≤ sizeLine := Nat.le_trans h25 (by decide)
  have h0 : z.cps.toList[0]? = some 63 := by
    have : cdl z = 63 :: t := h1
    show (cdl z)[0]? = _
    rw [this]
    rfl
  refine bl_ifR (q := (!(true && true)) || false) (px_w (pw_o (px_not (px_is (px_ch op_le op_le pv_int (pv_lenS (pv_var 0) hsz b.len) (pv_b op_add (pv_gint rfl gm) pv_int sc_add) sc_le (fun _ => sc_le)) ?_)) fun _ => pw_o1 (px_is (px_cmp op_ne (pv_s ix_str (pv_var 0) pv_int (sc_ixS (c := 63) hsz (atI_nat (n := 0) h0))) pv_str sc_neS) rfl))) (fun h => by cases h) fun _ => ?_
  · have a1 : decide ((2 : Int) ≤ (z.length : Int)) = true := decide_eq_true (by omega)
    have a2 : decide ((z.length : Int) ≤ 24 + 1) = true := decide_eq_true (by omega)
    rw [a1, a2]
  · have hcut : (cutS z (some ((1 : Nat) : Int)) none).cps.toList = t := by
      have := cdl_drop z 1
      rw [h1] at this
      exact this
    refine bl_retP (pv_is (pv_all (bs := (t.filter (fun _ => true)).map fun n => decide (n ∈ (("abcdefghijklmnopqrstuvwxyz0123456789." : Str)).cps.toList)) (pn_pv (pn_is (o' := .lst (((t.filter (fun _ => true)).map fun n => decide (n ∈ (("abcdefghijklmnopqrstuvwxyz0123456789." : Str)).cps.toList)).map .bl)) (pn_lcA (c := cC) (u := uC) (l := t) (f := fun n => [sD (.str z), sD (cC n)]) (own := [("char", 1)]) (ix := [1]) (bind := bName 1) (fun _ => true) (fun n => .bl (decide (n ∈ (("abcdefghijklmnopqrstuvwxyz0123456789." : Str)).cps.toList))) uC_cC (blk nIsun (defScope s_isun)) nd
      (by
        have e1 : signs (cutS z (some (1 : Int)) none) = t.map cC := by
          unfold signs
          rw [show (cutS z (some (1 : Int)) none).cps.toList = t from hcut]
          rfl
        rw [← e1]
        exact wp_str (pv_cutS (pv_var 0) hsz (pp_some pv_int) pp_none)) (fun s H C cl fp => gv_name 1 nd (hz := .inl ho)) (bindOk_name 1) (by decide) (.inl ho) (by omega) (fun a _ => rfl) (fun a _ s H C cl fp => pts_none) (fun a ha _ s H C cl fp => pv_c op_in_sign (pv_var 1) (pv_gstr rfl ga) sc_inSign)) (by rw [List.map_map]; rfl)) rfl) b.all) (d := .bl true) (congrArg D.bl ?_)) rfl
    rw [List.all_map, List.all_eq_true]
    intro n hn
    exact decide_eq_true (lat_in (h4 n ((List.mem_filter.mp hn).1)))
/-! ### check_name -/
def cCkN (ks : List Str) (E : Str → List Str) (z : Str) : Fp where
  pre ds := ds = [.obj "Order" (dOrd ks E), .str z] ∧ NOk ks z
  post ds b := b = .st .non
  exn _ _ _ := False
abbrev s_ckn : Stmt := top 26
theorem scCkN : FnScope ["order", "name"] ["order", "name"] (defScope s_ckn) := ⟨rfl, rfl, rfl, by decide +kernel, rfl, by decide +kernel, by decide +kernel⟩
theorem ok_ckn {f : Addr} {fd : FuncData} (F : FunS K "check_name" s_ckn f fd) (oc : OrC K mg) (N1 : ∀ z, Dx P w K mg base "is_unknown" 1 (cIsU z)) (N2 : ∀ z, Dx P w K mg base "is_unknown_name" 1 (cIsUN z)) (N3 : ∀ ks z, Dx P w K mg base "check_listed" 3 (cListed ks z)) (ks : List Str) (E : Str → List Str) (z : Str) : FnOk P w K mg base (L2.CX P w) 4 f fd ["order", "name"] (spP K (cCkN ks E z)) := by
  refine fp_ok F scCkN (fun ds ⟨h, _⟩ => by rw [h]; rfl) fun cdv A outer s e Ex ds ho ⟨hd, hz⟩ hr tk => ?_
  subst hd
  have hl := hz.len
  refine bl_ifP (q := !isU z) (fun Γ => True) (px_not (px_val (pv_call (d := .bl (isU z)) (N1 z) hr (by omega) (pvs_cons (pv_var 1) pvs_nil) ⟨rfl, by omega⟩ (fun _ h => h) (fun _ _ h => h)))) (fun h => ?_) (fun h => ?_) fun Γ' _ => bl_nil rfl
  · rcases hz with ⟨hz, hk⟩ | hz
    · refine bl_do (pv_ev (pv_call (d := .non) (N3 ks z) hr (by omega) (pvs_cons (pv_fld oc.cls oc.nk (pv_var 0) rfl) (pvs_cons (pv_var 1) pvs_nil)) (.inl rfl) (fun _ h => h.1) (fun _ _ h => h.1 hz))) ?_
      rintro d Γ1 ⟨rfl, rfl⟩
      exact bl_nil trivial
    · rw [isU_u hz] at h
      cases h
  · rcases hz with ⟨hz, hk⟩ | hz
    · rw [isU_k hk] at h
      cases h
    · exact bl_ifR (q := !true) (px_not (px_val (pv_call (d := .bl true) (N2 z) hr (by omega) (pvs_cons (pv_var 1) pvs_nil) ⟨rfl, hz⟩ (fun _ h => h) (fun _ _ h => h)))) (fun h => by cases h) fun _ => bl_nil trivial
end
end Kf
end
section
set_option maxRecDepth 100000
set_option maxHeartbeats 1000000
/-! KiC: Sayings(..), its unknowns, check_said: walked. -/
namespace Kf
open PySem L2
def ddp (l : List (Str × Str)) : List (Str × Str) := l.foldl (fun acc p => if p ∈ acc then acc else acc ++ [p]) []
def addU (acc : List Str) (z : Str) : List Str := if (isU z && !decide (z ∈ acc)) = true then acc ++ [z] else acc
def unkF (l : List (Str × Str)) : List Str := l.foldl (fun acc p => addU (addU acc p.1) p.2) []
def unkS (l : List (Str × Str)) : List Str := unkF (ddp l)
theorem ddp_snoc (l : List (Str × Str)) (p : Str × Str) : ddp (l ++ [p]) = if p ∈ ddp l then ddp l else ddp l ++ [p] := by
  unfold ddp
  rw [List.foldl_append]
  rfl
theorem unkF_snoc (l : List (Str × Str)) (p : Str × Str) : unkF (l ++ [p]) = addU (addU (unkF l) p.1) p.2 := by
  unfold unkF
  rw [List.foldl_append]
  rfl
theorem ddp_len (l : List (Str × Str)) : (ddp l).length ≤ l.length := by
  have key : ∀ (l acc : List (Str × Str)), (l.foldl (fun acc p => if p ∈ acc then acc else acc ++ [p]) acc).length ≤ acc.length + l.length := fun l => by
    induction l with
    | nil => exact fun acc => Nat.le_refl _
    | cons a l ih =>
      intro acc
      refine Nat.le_trans (ih _) ?_
      show (if a ∈ acc then acc else acc ++ [a]).length + l.length ≤ acc.length + (l.length + 1)
      split
      · omega
      · rw [List.length_append]
        show _ + 1 + _ ≤ _
        omega
  have := key l []
  rw [List.length_nil, Nat.zero_add] at this
  exact this
theorem ddp_sub {l : List (Str × Str)} {p : Str × Str} : p ∈ ddp l → p ∈ l := by
  have key : ∀ (l acc : List (Str × Str)) (p : Str × Str), p ∈ l.foldl (fun acc p => if p ∈ acc then acc else acc ++ [p]) acc → p ∈ acc ∨ p ∈ l := fun l => by
    induction l with
    | nil => exact fun acc p h => .inl h
    | cons a l ih =>
      intro acc p h
      rcases ih _ p h with h | h
      · have h : p ∈ if a ∈ acc then acc else acc ++ [a] := h
        split at h
        · exact .inl h
        · rcases List.mem_append.mp h with h | h
          · exact .inl h
          · exact .inr (by rw [List.mem_singleton.mp h]; exact List.mem_cons_self)
      · exact .inr (List.mem_cons_of_mem _ h)
  intro h
  exact (key l [] p h).resolve_left fun z => by cases z
theorem addU_len (acc : List Str) (z : Str) : (addU acc z).length ≤ acc.length + 1 := by
  unfold addU
  split
  · rw [List.length_append]; exact Nat.le_refl _
  · omega
theorem unkF_len (l : List (Str × Str)) : (unkF l).length ≤ 2 * l.length := by
  have key : ∀ (l : List (Str × Str)) (acc : List Str), (l.foldl (fun acc p => addU (addU acc p.1) p.2) acc).length ≤ acc.length + 2 * l.length := fun l => by
    induction l with
    | nil => exact fun acc => Nat.le_refl _
    | cons a l ih =>
      intro acc
      refine Nat.le_trans (ih _) ?_
      have h1 := addU_len acc a.1
      have h2 := addU_len (addU acc a.1) a.2
      show (addU (addU acc a.1) a.2).length + 2 * l.length ≤ acc.length + 2 * (l.length + 1)
      omega
  have := key l []
  rw [List.length_nil, Nat.zero_add] at this
  exact this
structure SyC (K : Fg) (mg : Str → Option Value) : Prop where
  cls : Cls K (He.ga K "Sayings")
  no : NoAttr K (He.ga K "Sayings") "order"
  np : NoAttr K (He.ga K "Sayings") "pairs"
  nu : NoAttr K (He.ga K "Sayings") "_unknowns"
  rd : ClX.CRead K (He.ga K "Sayings") (.type "type")
  most : ∃ t, ClX.CVal K (He.ga K "Sayings") (.type "type") "MOST" (.int 120) (.int 120 t)
  mostu : ∃ t, ClX.CVal K (He.ga K "Sayings") (.type "type") "MOST_UNKNOWNS" (.int 90) (.int 90 t)
  gl : mg "Sayings" = some (.ref (He.ga K "Sayings"))
def dSay (o : Ods) (prs : List (Str × Str)) : List (Str × D) := [("order", o.d), ("pairs", .tup (spairsD (ddp prs))), ("_unknowns", .tup ((unkS prs).map .str))]
section
variable {P : Program} {w : World} {K : Fg} {mg : Str → Option Value} {base : Heap} {x qual : Str} {dvs : List V}
def cSayI (o : Ods) (prs : List (Str × Str)) : Fo where
  pre ob ds := ob = .obj "Sayings" [] ∧ ds = [o.d, .lst (spairsD prs)] ∧ (∀ p ∈ prs, NOk o.ks p.1 ∧ NOk o.ks p.2) ∧ prs.length ≤ 40
  post _ ds b o' := b = .st .non ∧ o' = .obj "Sayings" (dSay o prs)
  exn _ _ _ _ _ := False
abbrev s_sayI : Stmt := mem 27 2
abbrev nSayI : List Str := ["self", "order", "pairs", "kept", "unknowns", "left", "right", "name"]
theorem scSayI : FnScope nSayI ["self", "order", "pairs"] (defScope s_sayI) := ⟨rfl, rfl, rfl, by decide +kernel, rfl, by decide +kernel, by decide +kernel⟩
theorem ok_sayI {f : Addr} {fd : FuncData} (F : FunM K x qual dvs s_sayI f fd) (b : Bi mg) (sy : SyC K mg) (N1 : ∀ z, Dx P w K mg base "is_unknown" 1 (cIsU z)) (N2 : ∀ ks E z, Dx P w K mg base "check_name" 4 (cCkN ks E z)) (o : Ods) (prs : List (Str × Str)) : FnOk P w K mg base (L2.CX P w) 5 f fd ["self", "order", "pairs"] (spO K (cSayI o prs)) := by
  refine fo_ok F scSayI (fun o ds ⟨_, h, _⟩ => by rw [h]; rfl) fun cdv A outer s e Ex ob ds ⟨hob, hd, hn, hl⟩ hr tk => ?_
  subst hd hob
  have nd := scSayI.nd
  refine bl_letO 3 (hz := .inr (by decide)) (pn_eo (pn_lst pvs_nil)) (bl_letO 4 (hz := .inr (by decide)) (pn_eo (pn_lst pvs_nil)) ?_)
  refine bl_for (fun ds i Γ => ds = spairsD prs ∧ ∃ a c n, Γ = [some (.ow (.obj "Sayings" [])), sD o.d, sD (.lst (spairsD prs)), sL (spairsD (ddp (prs.take i))), sL ((unkS (prs.take i)).map .str), a, c, n]) (wv (wp_list (pv_var 2))) (gv_two rfl (gv_name 5 nd (hz := .inr (by decide))) (gv_name 6 nd (hz := .inr (by decide)))) ?_ ?_ ?_ (passes_of rfl)
  · rintro ds Γ1 ⟨rfl, rfl⟩
    exact ⟨rfl, none, none, none, rfl⟩
  · rintro ds i d Γ1 hdi ⟨rfl, a, c, n, rfl⟩
    obtain ⟨p, hp, rfl⟩ : ∃ p, prs[i]? = some p ∧ d = spairD p := by
      unfold spairsD at hdi
      rw [List.getElem?_map] at hdi
      obtain ⟨p, h1, h2⟩ := Option.map_eq_some_iff.mp hdi
      exact ⟨p, h1, h2.symm⟩
    obtain ⟨n1, n2⟩ := hn p (List.mem_of_getElem? hp)
    have hsub : PsS (ddp (prs.take i)) := fun q hq => by
      obtain ⟨m1, m2⟩ := hn q (List.mem_of_mem_take (ddp_sub hq))
      exact ⟨m1.ok, m2.ok⟩
    have tk1 : prs.take (i + 1) = prs.take i ++ [p] := by rw [List.take_succ, hp]; rfl
    have l1 : (ddp (prs.take i)).length ≤ 40 := Nat.le_trans (ddp_len _) (by rw [List.length_take]; omega)
    have l2 : (unkS (prs.take i)).length ≤ 80 := Nat.le_trans (unkF_len _) (by omega)
    refine ⟨_, ⟨_, _, _, rfl, rfl, rfl⟩, bl_do (pv_ev (pv_call (d := .non) (N2 o.ks o.E p.1) hr (by omega) (pvs_cons (pv_var 1) (pvs_cons (pv_var 5) pvs_nil)) ⟨rfl, n1⟩ (fun _ h => h) (fun _ _ h => h))) ?_⟩
    rintro d Γ1 ⟨rfl, rfl⟩
    refine bl_do (pv_ev (pv_call (d := .non) (N2 o.ks o.E p.2) hr (by omega) (pvs_cons (pv_var 1) (pvs_cons (pv_var 6) pvs_nil)) ⟨rfl, n2⟩ (fun _ h => h) (fun _ _ h => h))) ?_
    rintro d Γ1 ⟨rfl, rfl⟩
    refine bl_ifP (q := !decide (p ∈ ddp (prs.take i))) (fun Γ => ∃ a c n, Γ = [some (.ow (.obj "Sayings" [])), sD o.d, sD (.lst (spairsD prs)), sL (spairsD (ddp (prs.take (i + 1)))), sL ((unkS (prs.take (i + 1))).map .str), a, c, n]) (px_snap fun _ => px_ninPS hr (pv_tup (pvs_cons (pv_var 5) (pvs_cons (pv_var 6) pvs_nil))) (pv_var 3) ⟨n1.ok, n2.ok⟩ hsub) (fun h => ?_) (fun h => ?_) fun Γ' ⟨a, c, n, h⟩ => bl_nil ⟨rfl, a, c, n, h⟩
    · have hno : p ∉ ddp (prs.take i) := by simpa using h
      have ed : ddp (prs.take (i + 1)) = ddp (prs.take i) ++ [p] := by rw [tk1, ddp_snoc, if_neg hno]
      have eu : unkS (prs.take (i + 1)) = addU (addU (unkS (prs.take i)) p.1) p.2 := by
        unfold unkS
        rw [ed, unkF_snoc]
      refine bl_ifR (q := false) (px_is (px_cmp op_eq (pv_snap fun _ => pv_lenL (pv_var 3) b.len) (pv_con sy.rd sy.most sy.gl) sc_eqI) (decide_eq_false (by unfold spairsD; rw [List.length_map]; omega))) (fun h => by cases h) fun _ => ?_
      refine bl_appP 3 rfl (by unfold spairsD; rw [List.length_map]; omega) (pv_tup (ds := [.str p.1, .str p.2]) (pvs_cons (pv_var 5) (pvs_cons (pv_var 6) pvs_nil))) ?_
      refine bl_at (Γ' := [some (.ow (.obj "Sayings" [])), sD o.d, sD (.lst (spairsD prs)), sL (spairsD (ddp (prs.take (i + 1)))), sL ((unkS (prs.take i)).map .str), sD (.str p.1), sD (.str p.2), n]) (by rw [ed]; show [_, _, _, sL (spairsD _ ++ [spairD p]), _, _, _, _] = _; unfold spairsD; rw [List.map_append]; rfl) ?_
      refine bl_for (fun ds j Γ => ds = [.str p.1, .str p.2] ∧ ∃ n, Γ = [some (.ow (.obj "Sayings" [])), sD o.d, sD (.lst (spairsD prs)), sL (spairsD (ddp (prs.take (i + 1)))), sL ((([p.1, p.2].take j).foldl addU (unkS (prs.take i))).map .str), sD (.str p.1), sD (.str p.2), n]) (wv (wp_tup (pv_tup (pvs_cons (pv_var 5) (pvs_cons (pv_var 6) pvs_nil))))) (gv_name 7 nd (hz := .inr (by decide))) ?_ ?_ ?_ (passes_of rfl)
      · rintro ds Γ1 ⟨rfl, rfl⟩
        exact ⟨rfl, n, rfl⟩
      · rintro ds j d Γ1 hdj ⟨rfl, n, rfl⟩
        obtain ⟨z, hz, rfl⟩ : ∃ z, [p.1, p.2][j]? = some z ∧ d = .str z := by
          have e1 : ([.str p.1, .str p.2] : List D) = [p.1, p.2].map .str := rfl
          rw [e1] at hdj
          exact strs_at' hdj
        have hzl : z.length ≤ 25 := by
          rcases List.mem_cons.mp (List.mem_of_getElem? hz) with rfl | q
          · exact n1.len
          · rw [List.mem_singleton.mp q]; exact n2.len
        have fl : ([p.1, p.2].take (j + 1)).foldl addU (unkS (prs.take i)) = addU (([p.1, p.2].take j).foldl addU (unkS (prs.take i))) z := by
          rw [List.take_succ, hz, List.foldl_append]
          rfl
        have hul : (([p.1, p.2].take j).foldl addU (unkS (prs.take i))).length ≤ 82 := by
          have key : ∀ (l : List Str) (acc : List Str), (l.foldl addU acc).length ≤ acc.length + l.length := fun l => by
            induction l with
            | nil => exact fun acc => Nat.le_refl _
            | cons a l ih =>
              intro acc
              have h1 := ih (addU acc a)
              have h2 := addU_len acc a
              rw [List.foldl_cons, List.length_cons]
              omega
          have h1 := key ([p.1, p.2].take j) (unkS (prs.take i))
          have h2 : ([p.1, p.2].take j).length ≤ 2 := by rw [List.length_take]; exact Nat.min_le_right _ _
          omega
        generalize ([p.1, p.2].take j).foldl addU (unkS (prs.take i)) = us at *
        refine ⟨_, rfl, bl_ifP (q := isU z && !decide (z ∈ us)) (fun Γ => ∃ n, Γ = [some (.ow (.obj "Sayings" [])), sD o.d, sD (.lst (spairsD prs)), sL (spairsD (ddp (prs.take (i + 1)))), sL ((addU us z).map .str), sD (.str p.1), sD (.str p.2), n]) (px_w (pw_a (px_val (pv_call (d := .bl (isU z)) (N1 z) hr (by omega) (pvs_cons (pv_var 7) pvs_nil) ⟨rfl, by omega⟩ (fun _ h => h) (fun _ _ h => h))) fun _ => pw_a1 (px_snap fun _ => px_ninS (ns := us) (pv_var 7) (.inl (pv_var 4))))) (fun h => ?_) (fun h => ?_) fun Γ' ⟨n, h⟩ => bl_nil ⟨rfl, n, by rw [fl]; exact h⟩⟩
        · refine bl_appP 4 rfl (by rw [List.length_map]; omega) (pv_var 7) (bl_nil ⟨sD (.str z), ?_⟩)
          unfold addU
          rw [if_pos h, List.map_append]
          rfl
        · refine bl_nil ⟨sD (.str z), ?_⟩
          unfold addU
          rw [if_neg (by rw [h]; exact Bool.false_ne_true)]
          rfl
      · rintro ds Γ1 ⟨rfl, n, rfl⟩
        have e2 : ([p.1, p.2].take ([D.str p.1, D.str p.2].length)).foldl addU (unkS (prs.take i)) = unkS (prs.take (i + 1)) := eu.symm
        rw [e2]
        have l3 : (unkS (prs.take (i + 1))).length ≤ 82 := by
          rw [eu]
          have h1 := addU_len (unkS (prs.take i)) p.1
          have h2 := addU_len (addU (unkS (prs.take i)) p.1) p.2
          omega
        exact bl_ifR (q := false) (px_is (px_cmp op_gt (pv_snap fun _ => pv_lenL (pv_var 4) b.len) (pv_con sy.rd sy.mostu sy.gl) sc_gt) (decide_eq_false (by rw [List.length_map]; omega))) (fun h => by cases h) fun _ => bl_nil ⟨_, _, _, rfl⟩
    · have hin : p ∈ ddp (prs.take i) := by simpa using h
      refine bl_nil ⟨sD (.str p.1), sD (.str p.2), n, ?_⟩
      have ed : ddp (prs.take (i + 1)) = ddp (prs.take i) := by rw [tk1, ddp_snoc, if_pos hin]
      unfold unkS
      rw [ed]
      rfl
  · rintro ds Γ1 ⟨rfl, a, c, n, rfl⟩
    have ll : (spairsD prs).length = prs.length := List.length_map _
    rw [ll, List.take_length]
    refine bl_frz 3 rfl (.inr (by decide)) (bl_frz 4 rfl (.inr (by decide)) ?_)
    refine bl_fld (fs0 := []) 0 sy.cls sy.no (pv_ev (pv_var 1)) ?_
    rintro d Γ1 ⟨rfl, rfl⟩
    refine ⟨_, rfl, by rfl, (show 0 < 900 by decide), bl_fld (fs0 := []) 0 sy.cls sy.np (pv_ev (pv_tupL (pv_var 3) b.tuple)) ?_⟩
    rintro d Γ1 ⟨rfl, rfl⟩
    refine ⟨_, rfl, by rfl, (show 1 < 900 by decide), bl_fld (fs0 := []) 0 sy.cls sy.nu (pv_ev (pv_tupL (pv_var 4) b.tuple)) ?_⟩
    rintro d Γ1 ⟨rfl, rfl⟩
    exact ⟨_, rfl, by rfl, (show 2 < 900 by decide), bl_nil ⟨_, rfl, rfl, rfl⟩⟩
/-! ### check_said -/
def cSaid (o : Ods) (prs : List (Str × Str)) (z : Str) : Fp where
  pre ds := ds = [.obj "Sayings" (dSay o prs), .str z]
  post ds b := b = .st .non ∧ (z ∈ o.ks ∨ z ∈ unkS prs)
  exn ds y fl := (z ∉ o.ks ∧ z ∉ unkS prs) ∧ y = "NotListed" ∧ fl = [(("name" : Str), D.str z)]
abbrev s_said : Stmt := top 28
theorem scSaid : FnScope ["sayings", "name"] ["sayings", "name"] (defScope s_said) := ⟨rfl, rfl, rfl, by decide +kernel, rfl, by decide +kernel, by decide +kernel⟩
theorem ok_said {f : Addr} {fd : FuncData} (F : FunS K "check_said" s_said f fd) (oc : OrC K mg) (sy : SyC K mg) (U : PropD P w K mg base "Sayings" "unknowns" "_unknowns" 1) (C : Xc1 P w K mg base "NotListed" "name") (o : Ods) (prs : List (Str × Str)) (z : Str) : FnOk P w K mg base (L2.CX P w) 3 f fd ["sayings", "name"] (spP K (cSaid o prs z)) := by
  refine fp_ok F scSaid (fun ds h => by rw [h]; rfl) fun cdv A outer s e Ex ds ho hd hr tk => ?_
  subst hd
  refine bl_ifR (q := !decide (z ∈ o.ks) && !decide (z ∈ unkS prs)) (px_w (pw_a (px_ninS (ns := o.ks) (pv_var 1) (.inr (pv_fld oc.cls oc.nk (pv_fld sy.cls sy.no (pv_var 0) rfl) rfl))) fun _ => pw_a1 (px_ninS (ns := unkS prs) (pv_var 1) (.inr (pv_prop U hr (by omega) (pv_var 0) rfl))))) (fun h => ?_) fun h => bl_nil ⟨rfl, ?_⟩
  · have h' : z ∉ o.ks ∧ z ∉ unkS prs := by simpa using h
    exact bl_raise1 C hr (by omega) (pv_var 1) tk ⟨h', rfl, rfl⟩
  · by_cases q : z ∈ o.ks
    · exact .inl q
    · refine .inr (Classical.byContradiction fun q2 => ?_)
      rw [decide_eq_false q, decide_eq_false q2] at h
      cases h
end
end Kf
end
section
set_option maxRecDepth 100000
set_option maxHeartbeats 1000000
/-! KiD: rules: an own dict read, lent, walked; a pair of own objects handed out. -/
namespace Kf
open PySem L2
theorem frz_slot {K : Fg} {e : Ent} {S H : Hp} {σ : L2.St} {Γ : Gam} {i : Nat} {o : O} (w : Wd K e S H σ Γ) (hi : Γ[i]? = some (some (.ow o))) (hz : e.own = none) :
    ∃ p S', σ[i]? = some (some (.ref p)) ∧ S p = none ∧ Own K S H p o ∧ e.H0 p = none ∧ Same S S' ∧ (∀ b, b ≠ p → S' b = S b) ∧ Wd K e S' H σ (Γ.set i (some (.st o.d))) ∧ Rp K S' (.ref p) o.d := by
  obtain ⟨v, h1, p, h2, sp, ow, hp⟩ := w.sl.at_ i _ hi
  subst h2
  have h0 : e.H0 p = none := by
    rcases hp with z | z
    · exact z
    · rw [hz] at z; cases z
  have wf : Wd K e S H σ (Γ.set i none) := w.weak (by rw [List.length_set]) (fun j b q => by
    rcases get_set q with ⟨_, z⟩ | ⟨_, z⟩
    · cases z
    · exact z) (.inl hz)
  obtain ⟨S', s, k, w', r⟩ := own_st wf sp ow h0 fun j o' q1 q2 => by
    rcases get_set q1 with ⟨_, z⟩ | ⟨n1, z⟩
    · cases z
    · exact n1 (w.sl.dj i j o o' p hi z h1 q2)
  have w2 := w'.set (i := i) r (.inl hz)
  have e1 : σ.set i (some (V.ref p)) = σ := by
    apply List.ext_getElem?
    intro j
    by_cases q : i = j
    · subst q
      rw [set_at (List.getElem?_eq_some_iff.mp h1).1, h1]
    · rw [List.getElem?_set_ne q]
  rw [e1, List.set_set] at w2
  exact ⟨p, S', h1, sp, ow, h0, s, k, w2, r⟩
theorem delD_rd {S : Hp} {p a : Addr} {kvs : List (Key × V)} {u : HO} (hp : S p = some (.dK kvs)) (hu : ∀ x, u ≠ .dK x) (h : Rd S a u) : Rd (del S p) a u := by
  have ne : a ≠ p := fun q => by
    subst q
    rcases h with h | ⟨o, h⟩
    · rw [hp] at h; cases h; exact hu _ rfl
    · rw [hp] at h; cases h
  rcases h with h | ⟨o, h⟩
  · exact .inl (by rw [del_ne ne]; exact h)
  · exact .inr ⟨o, by rw [del_ne ne]; exact h⟩
theorem delD_sqT {K : Fg} {S : Hp} {p a : Addr} {kvs : List (Key × V)} {xs : List V} (hp : S p = some (.dK kvs)) (h : SqT K S a xs) : SqT K (del S p) a xs := by
  rcases h with h | h
  · exact .inl (delD_rd hp (fun x q => by cases q) h)
  · exact .inr h
theorem delD_pairs {K : Fg} {S : Hp} {p : Addr} {kvs : List (Key × V)} (hp : S p = some (.dK kvs)) : ∀ {xs : List V} {l : List (Str × Str)}, RpL K S xs (spairsD l) → RpL K (del S p) xs (spairsD l)
  | _, [], .nil => .nil
  | _, (a, b) :: l, .cons r t => by
    refine .cons ?_ (delD_pairs hp t)
    cases r with
    | tup g1 g2 => exact .tup (delD_sqT hp g1) (strs_any (l := [a, b]) g2)
section
variable {X : Cx} {e : Ent} {Γ : Gam} {x i : Expr} {pos : Pos} {k : Kn} {rest : List Stmt} {j n : Nat} {p : Pos}
/-- d[z], d one's own dict -/
theorem pv_dgetO {nm : Str} {np : Pos} {ds : List (Key × D)} {z : Str} {d : D} (i0 : Nat) (hr : Room j X.A) (h0 : Γ[i0]? = some (some (.ow (.dK ds)))) (hi : PV X e i Γ (.str z)) (h : valD ds (.inr z) = some d) (hN : X.N[i0]? = some nm := by rfl) (hv : Vis X.env.scope nm := by first | exact Or.inl rfl | exact Or.inr (Or.inl rfl) | exact Or.inr (Or.inr rfl))
    (h1 : (nm == ("__debug__" : Str)) = false := by decide) (h2 : (nm == ("__classdict__" : Str)) = false := by decide) (hs : NoSl i := by first | exact fun _ _ => rfl | exact rfl | decide) : PV X e (.Subscript (.Name nm np) i pos) Γ d :=
  PE.imp (L2.pe_dget (by have := hr.units; omega) (pe_var hN hv h1 h2) hi hs) fun σ H Q ⟨S, w, q⟩ => by
    obtain ⟨v, h3, c, h4, sc, ow, hc⟩ := w.sl.at_ i0 _ h0
    subst h4
    obtain ⟨xs, h5, h6⟩ := ow
    refine ⟨_, h3, S, w, fun S2 H2 y s2 w2 r2 => ?_⟩
    cases r2
    obtain ⟨u, hu, ru⟩ := (h6.mono s2.ss).val h
    exact ⟨c, u, rfl, .inl ⟨xs, .inr z, .inl (s2.hh _ _ h5), rfl, hu.symm⟩, q S2 H2 u s2 w2 ru⟩
/-- what is handed out by x, to which one's own dict is lent -/
theorem pn_loan {l : List (Key × D)} {ps : List (Str × Str)} (i0 : Nat) (h0 : Γ[i0]? = some (some (.ow (.dK l)))) (hz : e.own = none) (h : PN X e x (Γ.set i0 (some (.st (.dK l)))) (.lst (spairsD ps))) : PN X e x Γ (.lst (spairsD ps)) :=
  PE.imp h fun σ H Q ⟨S, w, q⟩ => by
    obtain ⟨c, S', h1, sc, ow, hc0, s1, k1, w1, r1⟩ := frz_slot w h0 hz
    refine ⟨S', w1, fun S2 H2 a s2 w2 sa ow2 ha => ?_⟩
    obtain ⟨xs, hx, rx⟩ := ow
    have hS' : S' c = some (.dK xs) := by
      cases r1 with
      | dK g1 g2 =>
        rcases g1 with g1 | ⟨o, g1⟩
        · have := w1.nx.sh _ _ g1
          rw [hx] at this
          cases this
          exact g1
        · have := w1.nx.sh _ _ g1
          rw [hx] at this
          cases this
    have hS2 : S2 c = some (.dK xs) := s2.ss _ _ hS'
    have sd : Same S (del S2 c) := fun b u z => by
      rw [del_ne (fun q => by rw [q, sc] at z; cases z)]
      exact s2.ss _ _ (s1 _ _ z)
    have sh : Same (del S2 c) H2 := fun b u z => by
      by_cases q : b = c
      · rw [q, del_at] at z; cases z
      · rw [del_ne q] at z; exact w2.nx.sh _ _ z
    have old : ∀ b, H b ≠ none → del S2 c b = S b := fun b hb => by
      by_cases q : b = c
      · rw [q, del_at, sc]
      · rw [del_ne q, s2.old b hb, k1 b q]
    obtain ⟨w3, p3⟩ := w.after (S' := del S2 c) (H' := H2) ⟨sd, sh, fun b u z _ => s2.hh _ _ z, s2.al, old⟩
    obtain ⟨ys, hy, ry⟩ := ow2
    refine q (del S2 c) H2 a p3 w3 ?_ ⟨ys, hy, delD_pairs hS2 ry⟩ ha
    by_cases q : a = c
    · rw [q, del_at]
    · rw [del_ne q]; exact sa
/-- for k in d, d locked -/
theorem wp_keys {tg : Expr} {ks : List Str} {F : Str → D} (h : PV X e x Γ (.dKl (rowsF ks F))) : WP X e tg x Γ (ks.map .str) :=
  PI.imp (pi_keys h) fun σ H R ⟨S, w, q⟩ => ⟨S, w, fun S1 H1 v s1 w1 r1 => by
    cases r1 with
    | @dKl a od kvs _ g1 g2 =>
      have hk : ∀ {kvs : List (Key × V)} {ks : List Str}, RpK X.K S1 kvs (rowsF ks F) → kvs.length = ks.length ∧ ∀ (i : Nat) (z : Str), ks[i]? = some z → ∃ v, kvs[i]? = some (.inr z, v) := fun {kvs} => by
        induction kvs with
        | nil =>
          intro ks r
          cases ks with
          | nil => exact ⟨rfl, fun i z h => by cases h⟩
          | cons a l => cases r
        | cons kv kvs ih =>
          intro ks r
          cases ks with
          | nil => cases r
          | cons a l =>
            cases r with
            | cons r1 r2 =>
              obtain ⟨h1, h2⟩ := ih r2
              refine ⟨by rw [List.length_cons, List.length_cons, h1], fun i z h => ?_⟩
              cases i with
              | zero => cases h; exact ⟨_, rfl⟩
              | succ i => exact h2 i z h
      obtain ⟨hl, hg⟩ := hk g2
      refine ⟨a, od, rfl, .inl ⟨kvs, w1.nx.sh _ _ g1, q S1 H1 _ s1 w1 ⟨fun i S H hi e1 e2 => ⟨e2 _ _ (e1 _ _ g1), by rw [List.length_map] at hi; omega⟩, fun i d S H v H' hi e1 e2 y => ?_, fun i S H hi e1 e2 => ⟨e2 _ _ (e1 _ _ g1), by rw [List.length_map] at hi; omega⟩⟩⟩⟩
      obtain ⟨rfl, kk, u, hy, rfl⟩ := y
      obtain ⟨z, hz, rfl⟩ := strs_at' hi
      obtain ⟨v', hv⟩ := hg i z hz
      rw [hv] at hy
      cases hy
      exact ⟨S, Pur.refl _ _, fun _ _ w => w, .str z⟩⟩
/-- x[z], x a locked dict -/
theorem pv_dgetL {ds : List (Key × D)} {z : Str} {d : D} (hr : Room j X.A) (hx : PV X e x Γ (.dKl ds)) (hi : PV X e i Γ (.str z)) (h : valD ds (.inr z) = some d) (hs : NoSl i := by first | exact fun _ _ => rfl | exact rfl | decide) : PV X e (.Subscript x i pos) Γ d :=
  PE.imp (L2.pe_dget (by have := hr.units; omega) hx hi hs) fun σ H Q ⟨S, w, q⟩ => ⟨S, w, fun S1 H1 v s1 w1 r1 => ⟨S1, w1, fun S2 H2 y s2 w2 r2 => by
    cases r1 with
    | dKl h1 h2 =>
      cases r2
      obtain ⟨u, hu, ru⟩ := (h2.mono s2.ss).val h
      exact ⟨_, u, rfl, .inl ⟨_, .inr z, .inr ⟨_, w2.nx.sh _ _ (s2.ss _ _ h1)⟩, rfl, hu.symm⟩, q S2 H2 u (s1.trans s2) w2 ru⟩⟩⟩
end
end Kf
end
section
set_option maxRecDepth 100000
set_option maxHeartbeats 1000000
/-! KiE: rules: a dict locked for one expression; a pair of own objects handed out and taken. -/
namespace Kf
open PySem L2
section
variable {X : Cx} {e : Ent} {Γ : Gam} {x a : Expr} {es : List Expr} {pos p : Pos} {k : Kn} {rest : List Stmt} {j n : Nat} {f : Str}
/-- x, flat, one's own dict locked -/
theorem pv_lock {l : List (Key × D)} {d : D} (i0 : Nat) (h0 : Γ[i0]? = some (some (.ow (.dK l)))) (hz : e.own = none) (h : PV X e x (Γ.set i0 (some (.st (.dKl l)))) d) (hf : flat d = true := by rfl) : PV X e x Γ d :=
  PE.imp (pe_lock h) fun σ H Q ⟨S, w, q⟩ => by
    obtain ⟨c, S', h1, sc, ow, hc0, s1, k1, w1, r1⟩ := frz_slot w h0 hz
    obtain ⟨xs, hx, rx⟩ := ow
    refine ⟨c, .dK xs, hx, trivial, fun od => ?_⟩
    have neS : ∀ b u, S b = some u → b ≠ c := fun b u z q => by rw [q, sc] at z; cases z
    have sl : Same S (upd S c (.frz od (.dK xs))) := fun b u z => by rw [upd_ne (neS b u z)]; exact z
    have wf : Wd X.K e S H σ (Γ.set i0 none) := w.weak (by rw [List.length_set]) (fun j b q => by
      rcases get_set q with ⟨_, z⟩ | ⟨_, z⟩
      · cases z
      · exact z) (.inl hz)
    have ne0 : ∀ b, e.H0 b ≠ none → b ≠ c := fun b z q => z (by rw [q]; exact hc0)
    have wl : Wd X.K e (upd S c (.frz od (.dK xs))) (upd H c (.frz od (.dK xs))) σ (Γ.set i0 none) := by
      refine ⟨⟨w.nx.ss.trans sl, fun b u z => ?_, fun b u z y => ?_, fun b z => ?_, fun b z => ?_⟩, wf.sl.len, fun jj b g => ?_, wf.sl.dj, wf.sl.z⟩
      · by_cases q : b = c
        · subst q
          rw [upd_same] at z ⊢
          exact z
        · rw [upd_ne q] at z ⊢
          exact w.nx.sh _ _ z
      · rw [upd_ne (ne0 b (by rw [z]; exact fun y => nomatch y))]
        exact w.nx.hh _ _ z y
      · rw [upd_ne (ne0 b z)]
        exact w.nx.al _ z
      · rw [upd_ne (ne0 b z)]
        exact w.nx.old _ z
      · obtain ⟨v, g1, g2⟩ := wf.sl.at_ jj b g
        refine ⟨v, g1, ?_⟩
        cases b with
        | st d' => exact Rp.mono sl g2
        | ow o' =>
          obtain ⟨c', e1, e2, e3, e4⟩ := g2
          have nc : c' ≠ c := fun z => by
            rcases get_set g with ⟨_, y⟩ | ⟨n1, y⟩
            · cases y
            · exact n1 (w.sl.dj i0 jj _ o' c h0 y h1 (by rw [g1, e1, z]))
          exact ⟨c', e1, by rw [upd_ne nc]; exact e2, e3.to sl (upd_ne nc), e4⟩
        | xc a d fl => exact g2.xcm sl
        | nw d l => exact g2.elim
        | nt o1 o2 => exact g2.elim
    have w2 := wl.set (i := i0) (v := .ref c) (d := .dKl l) (.dKl upd_same (rx.mono sl)) (.inl hz)
    have e1 : σ.set i0 (some (V.ref c)) = σ := by
      apply List.ext_getElem?
      intro j
      by_cases q : i0 = j
      · subst q
        rw [set_at (List.getElem?_eq_some_iff.mp h1).1, h1]
      · rw [List.getElem?_set_ne q]
    rw [e1, List.set_set] at w2
    refine ⟨_, w2, fun S3 H3 v s3 w3 r3 => ⟨s3.hh _ _ upd_same, ?_⟩⟩
    have hh : Same H (upd H3 c (.dK xs)) := fun b u z => by
      by_cases q : b = c
      · subst q
        rw [hx] at z
        cases z
        exact upd_same
      · rw [upd_ne q]
        exact s3.hh _ _ (by rw [upd_ne q]; exact z)
    obtain ⟨w4, p4⟩ := w.after (S' := S) (H' := upd H3 c (.dK xs)) ⟨Same.refl _, fun b u z => hh _ _ (w.nx.sh _ _ z), fun b u z _ => hh _ _ z, fun b z q => z (hh.free q), fun _ _ => rfl⟩
    exact q S _ v p4 w4 (r3.flat hf)
/-- return (a, b), both one's own -/
theorem bl_retT {na nb : Str} {pa pb tp : Pos} {c : Nat} {oa ob : O} (i j : Nat) (hi : Γ[i]? = some (some (.ow oa))) (hj : Γ[j]? = some (some (.ow ob))) (hij : i ≠ j) (hz : e.own = none) (hr : k.rt (.nt oa ob) Γ) (hNi : X.N[i]? = some na := by rfl) (hNj : X.N[j]? = some nb := by rfl) (hvi : Vis X.env.scope na := by first | exact Or.inl rfl | exact Or.inr (Or.inl rfl) | exact Or.inr (Or.inr rfl)) (hvj : Vis X.env.scope nb := by first | exact Or.inl rfl | exact Or.inr (Or.inl rfl) | exact Or.inr (Or.inr rfl))
    (h1 : (na == ("__debug__" : Str)) = false := by decide) (h2 : (na == ("__classdict__" : Str)) = false := by decide) (h3 : (nb == ("__debug__" : Str)) = false := by decide) (h4 : (nb == ("__classdict__" : Str)) = false := by decide)
    (hs1 : starEach [.Name na pa, .Name nb pb] X.env = (false, eval (.Name na pa) X.env) :: starEach [.Name nb pb] X.env := by rfl) (hs2 : starEach [.Name nb pb] X.env = (false, eval (.Name nb pb) X.env) :: starEach [] X.env := by rfl) :
    BL X e (.Return (some (.Tuple [.Name na pa, .Name nb pb] c tp)) pos :: rest) Γ k :=
  bl_cons (fun _ => False) (PS.imp (ps_ret (pe_tup (pa_cons (pe_var hNi hvi h1 h2) (pa_cons (pe_var hNj hvj h3 h4) pa_nil hs2) hs1))) fun D σ H ⟨S, w, nx, _, _, rt⟩ => by
    obtain ⟨v1, g1, q1, g2, sp1, ow1, hp1⟩ := w.sl.at_ i _ hi
    obtain ⟨v2, g3, q2, g4, sp2, ow2, hp2⟩ := w.sl.at_ j _ hj
    subst g2 g4
    have hp1' : e.H0 q1 = none := hp1.resolve_right fun z => by rw [hz] at z; cases z
    have hp2' : e.H0 q2 = none := hp2.resolve_right fun z => by rw [hz] at z; cases z
    have ne : q1 ≠ q2 := fun z => hij (w.sl.dj i j oa ob q1 hi hj g1 (by rw [g3, z]))
    refine ⟨_, g1, _, g3, (show 2 ≤ sizeLine from Nat.le_trans (show 2 ≤ 1000 by decide) (by decide)), fun p hp => ?_⟩
    have n1 : p ≠ q1 := fun z => ow1.some (by rw [← z]; exact hp)
    have n2 : p ≠ q2 := fun z => ow2.some (by rw [← z]; exact hp)
    exact rt S σ _ (.ref p) (.nt oa ob) Γ hr (Same.refl _) (w.own hp) ⟨p, q1, q2, rfl, w.nx.sh.free hp, sp1, sp2, ne, upd_same, ow1.to (Same.refl _) (upd_ne (Ne.symm n1)), ow2.to (Same.refl _) (upd_ne (Ne.symm n2)), w.nx.fresh hp, hp1', hp2'⟩) fun _ q => q.elim
/-- a, b = f(..), a pair of new objects -/
theorem bl_unpN {c : Fp} {ds : List D} {na nb : Str} {pa pb tp cp : Pos} {cc : Nat} {oa ob : O} (i j' : Nat) (hij : i ≠ j') (N : XDn X f n (spP X.K c)) (hr : Room j X.A) (hj : n ≤ j) (ha : PVs X e (a :: es) Γ ds) (hp : c.pre ds) (hq : ∀ b, c.post ds b → b = .nt oa ob) (hx : ∀ y fl, ¬ c.exn ds y fl) (hz : e.own = none)
    (hrest : BL X e rest ((Γ.set i (some (.ow oa))).set j' (some (.ow ob))) k) (hN : X.N.Nodup := by assumption) (hi : X.N[i]? = some na := by rfl) (hjn : X.N[j']? = some nb := by rfl) (hlx : Loc X.env.scope na := by first | exact .inl rfl | exact .inr rfl) (hly : Loc X.env.scope nb := by first | exact .inl rfl | exact .inr rfl)
    (hf : X.fn na = true ∨ X.env.scope.names.lookup na = some .local := by first | exact .inl rfl | exact .inr rfl) (hg2 : X.fn nb = true ∨ X.env.scope.names.lookup nb = some .local := by first | exact .inl rfl | exact .inr rfl) (hc : X.calm = true := by rfl)
    (hg : Gl X f := by rfl) (hdb : (f == ("__debug__" : Str)) = false := by decide) (he : starEach (a :: es) X.env = (false, eval a X.env) :: starEach es X.env := by rfl) (hpl : (backTo cp (starEach es X.env)).any (·.1) = false := by rfl)
    (hs : swapsWithSole [.Tuple [.Name na pa, .Name nb pb] cc tp] (.Call (.Name f p) (a :: es) [] cp) pos.line X.env = pure false := by rfl) (hw : swappedStores [.Tuple [.Name na pa, .Name nb pb] cc tp] (.Call (.Name f p) (a :: es) [] cp) X.env = pure none := by rfl) (h1 : (assignEach [.Tuple [.Name na pa, .Name nb pb] cc tp] X.env).map (·.2) = [assign (.Tuple [.Name na pa, .Name nb pb] cc tp) X.env] := by rfl) :
    BL X e (.Assign [.Tuple [.Name na pa, .Name nb pb] cc tp] (.Call (.Name f p) (a :: es) [] cp) pos :: rest) Γ k := by
  have hcall : PE X (.Call (.Name f p) (a :: es) [] cp) (fun σ H Q => ∃ S, Wd X.K e S H σ Γ ∧ ∀ S2 H2 c0 c1 c2, Pur S H S2 H2 → Wd X.K e S2 H2 σ Γ → S2 c1 = none → S2 c2 = none → c1 ≠ c2 → H2 c0 = some (.tup [.ref c1, .ref c2]) → Own X.K S2 H2 c1 oa → Own X.K S2 H2 c2 ob → H c1 = none → H c2 = none → Q (.ref c0) H2) :=
    PE.imp (pe_callW N.fn (hr.mono hj) takes0 hg N.at_ N.kp ha hdb he hpl) fun σ H Q ⟨S, w, q⟩ => ⟨S, w, fun S1 H1 vs s1 w1 r1 => ⟨S1, ds, w1.nx.sh, r1, hp, fun S2 H2 v b hb n2 r2 => by
      obtain ⟨w2, s2⟩ := w1.after n2
      rw [hq b hb] at r2
      obtain ⟨c0, c1, c2, rfl, e2, e3, e4, e5, e6, e7, e8, e9, e10, e11⟩ := r2
      exact q S2 H2 c0 c1 c2 (s1.trans s2) w2 e3 e4 e5 e6 e7 e8 (s1.hh.free e10) (s1.hh.free e11), fun S2 H2 y fl cls dd hy => (hx y fl hy).elim⟩⟩
  refine bl_cons (fun Γ2 => Γ2 = (Γ.set i (some (.ow oa))).set j' (some (.ow ob))) (PS.imp (ps_asg hcall (pg_tup hc (pgs_cons (pg_name hN hi hlx hf) (pgs_cons (pg_name hN hjn hly hg2) pgs_nil))) hs hw h1) fun D σ H ⟨S, w, nx, _⟩ => ⟨S, w, fun S2 H2 c0 c1 c2 pu w2 e3 e4 e5 e6 e7 e8 e10 e11 => ?_⟩) fun Γ2 h => by subst h; exact hrest
  refine ⟨c0, [.ref c1, .ref c2], rfl, SqT.of e6, rfl, _, _, rfl, _, _, rfl, rfl, ?_⟩
  have w3 := w2.setO (i := i) e3 e7 (w.nx.fresh e10) (w.fresh_ne e10) (.inl hz)
  have w4 := w3.setO (i := j') e4 e8 (w.nx.fresh e11) (fun jj o' q1 q2 => by
    rcases get_set q1 with ⟨rfl, _⟩ | ⟨ne, z⟩
    · rcases get_set q2 with ⟨_, y⟩ | ⟨y, _⟩
      · cases y; exact e5 rfl
      · exact y rfl
    · rw [List.getElem?_set_ne ne] at q2
      exact w.fresh_ne e11 jj o' z q2) (.inl hz)
  exact nx S2 _ H2 _ rfl pu.ss w4
end
end Kf
end
section
set_option maxRecDepth 100000
set_option maxHeartbeats 1000000
/-! KiF: full_lists, loose_kinds: walked. -/
namespace Kf
open PySem L2
abbrev Lsts := Str → List Str
def dLs (names : List Str) (F : Lsts) : List (Key × D) := rowsF names fun x => dStrs (F x)
theorem dLs_val {names : List Str} {F : Lsts} {x : Str} (h : x ∈ names) : valD (dLs names F) (.inr x) = some (dStrs (F x)) := rowsF_val h
/-- the lists at first -/
def fullF (ks : List Str) : Lsts := fun x => if x ∈ ks then [x] else ks
def nmsS (o : Ods) (prs : List (Str × Str)) : List Str := o.ks ++ unkS prs
/-- what is loose in a pair -/
def looseF (r : Str → Str → Bool) (F : Lsts) (p : Str × Str) : List (Str × Str) :=
  (((F p.1).filter fun k => !(F p.2).any fun o => r k o).map fun k => (p.1, k)) ++ (((F p.2).filter fun k => !(F p.1).any fun o => r o k).map fun k => (p.2, k))
def relE (o : Ods) : Str → Str → Bool := fun a b => decide (b ∈ o.E a)
section
variable {P : Program} {w : World} {K : Fg} {mg : Str → Option Value} {base : Heap} {x qual : Str} {dvs : List V}
def cFull (o : Ods) (prs : List (Str × Str)) : Fp where
  pre ds := ds = [.obj "Sayings" (dSay o prs)] ∧ (nmsS o prs).Nodup ∧ (nmsS o prs).length ≤ 1000
  post ds b := b = .ow (.dK (dLs (nmsS o prs) (fullF o.ks)))
  exn _ _ _ := False
abbrev s_full : Stmt := top 30
abbrev nFull : List Str := ["sayings", "lists", "kind", "unknown"]
theorem scFull : FnScope nFull ["sayings"] (defScope s_full) := ⟨rfl, rfl, rfl, by decide +kernel, rfl, by decide +kernel, by decide +kernel⟩
theorem ok_full {f : Addr} {fd : FuncData} (F : FunS K "full_lists" s_full f fd) (b : Bi mg) (oc : OrC K mg) (sy : SyC K mg) (U : PropD P w K mg base "Sayings" "unknowns" "_unknowns" 1) (o : Ods) (prs : List (Str × Str)) : FnOk P w K mg base (L2.CX P w) 3 f fd ["sayings"] (spP K (cFull o prs)) := by
  refine fp_ok F scFull (fun ds ⟨h, _⟩ => by rw [h]; rfl) fun cdv A outer s e Ex ds ho ⟨hd, hnd, hl⟩ hr tk => ?_
  subst hd
  have nd := scFull.nd
  have hnk : o.ks.Nodup := (List.nodup_append.mp hnd).1
  have hlk : o.ks.length + (unkS prs).length ≤ 1000 := by
    have := hl
    unfold nmsS at this
    rwa [List.length_append] at this
  refine bl_letO 1 (hz := .inl ho) (pn_eo pn_dK) ?_
  refine bl_for (fun ds i Γ => ds = o.ks.map .str ∧ ∃ a, Γ = [sD (.obj "Sayings" (dSay o prs)), sO (.dK (rowsF (o.ks.take i) fun x => dStrs [x])), a, none]) (wv (wp_tup (pv_fld oc.cls oc.nk (pv_fld sy.cls sy.no (pv_var 0) rfl) rfl))) (gv_name 2 nd (hz := .inl ho)) ?_ ?_ ?_ (passes_of rfl)
  · rintro ds Γ1 ⟨rfl, rfl⟩
    exact ⟨rfl, none, rfl⟩
  · rintro ds i d Γ1 hdi ⟨rfl, a, rfl⟩
    obtain ⟨z, hz, rfl⟩ := strs_at' hdi
    refine ⟨_, rfl, bl_dput (Φ := Is (dStrs [z]) [sD (.obj "Sayings" (dSay o prs)), sO (.dK (rowsF (o.ks.take i) fun x => dStrs [x])), sD (.str z), none]) 1 hr (pv_ev (pv_lst (ds := [.str z]) (pvs_cons (pv_var 2) pvs_nil) (by show 1 ≤ sizeLine; decide))) ?_⟩
    rintro d Γ1 ⟨rfl, rfl⟩
    refine ⟨_, z, rfl, pv_var 2, keyF_new hnk hz, by rw [rowsF_len, List.length_take]; omega, bl_nil ⟨rfl, sD (.str z), ?_⟩⟩
    rw [take_snoc hz, rowsF_app]
    rfl
  · rintro ds Γ1 ⟨rfl, a, rfl⟩
    rw [List.length_map, List.take_length]
    have hdis : ∀ z ∈ unkS prs, z ∉ o.ks := fun z h1 h2 => (List.nodup_append.mp hnd).2.2 z h2 z h1 rfl
    have e1 : rowsF o.ks (fun x => dStrs [x]) = dLs o.ks (fullF o.ks) := rowsF_congr fun x hx => by unfold fullF; rw [if_pos hx]
    rw [e1]
    refine bl_for (fun ds i Γ => ds = (unkS prs).map .str ∧ ∃ c, Γ = [sD (.obj "Sayings" (dSay o prs)), sO (.dK (dLs (o.ks ++ (unkS prs).take i) (fullF o.ks))), a, c]) (wv (wp_tup (pv_prop U hr (by omega) (pv_var 0) rfl))) (gv_name 3 nd (hz := .inl ho)) ?_ ?_ ?_ (passes_of rfl)
    · rintro ds Γ1 ⟨rfl, rfl⟩
      refine ⟨rfl, none, ?_⟩
      rw [List.take_zero, List.append_nil]
    · rintro ds i d Γ1 hdi ⟨rfl, c, rfl⟩
      obtain ⟨z, hz, rfl⟩ := strs_at' hdi
      have hzu := List.mem_of_getElem? hz
      refine ⟨_, rfl, bl_dput (Φ := Is (dStrs o.ks) [sD (.obj "Sayings" (dSay o prs)), sO (.dK (dLs (o.ks ++ (unkS prs).take i) (fullF o.ks))), a, sD (.str z)]) 1 hr (pv_ev (pn_pv (pn_list (.inr (pv_fld oc.cls oc.nk (pv_fld sy.cls sy.no (pv_var 0) rfl) rfl)) b.list))) ?_⟩
      rintro d Γ1 ⟨rfl, rfl⟩
      refine ⟨_, z, rfl, pv_var 3, ?_, by unfold dLs; rw [rowsF_len, List.length_append, List.length_take]; omega, bl_nil ⟨rfl, sD (.str z), ?_⟩⟩
      · intro hm
        unfold dLs rowsF at hm
        rw [List.map_map] at hm
        obtain ⟨y, hy, he⟩ := List.mem_map.mp hm
        have hyz : y = z := Sum.inr.inj he
        subst hyz
        rcases List.mem_append.mp hy with q | q
        · exact hdis y hzu q
        · have nu := (List.nodup_append.mp hnd).2.1
          obtain ⟨i', hi'⟩ := List.getElem?_of_mem q
          have hlt := (List.getElem?_eq_some_iff.mp hi').1
          rw [List.length_take] at hlt
          rw [List.getElem?_take_of_lt (by omega)] at hi'
          have := (List.getElem?_inj (List.getElem?_eq_some_iff.mp hi').1 nu).mp (hi'.trans hz.symm)
          omega
      · rw [take_snoc hz, ← List.append_assoc]
        unfold dLs
        rw [rowsF_app (a := o.ks ++ (unkS prs).take i) (b := [z])]
        show _ = [_, sO (.dK (_ ++ [(Sum.inr z, dStrs (fullF o.ks z))])), _, _]
        unfold fullF
        rw [if_neg (hdis z hzu)]
        rfl
    · rintro ds Γ1 ⟨rfl, c, rfl⟩
      rw [List.length_map, List.take_length]
      exact bl_retV 1 rfl (hz := .inl ho) rfl
/-! ### loose_kinds -/
def cLoose (o : Ods) (names : List Str) (F : Lsts) (p : Str × Str) : Fp where
  pre ds := ds = [o.d, .dK (dLs names F), spairD p] ∧ p.1 ∈ names ∧ p.2 ∈ names ∧ (∀ x ∈ names, (∀ z ∈ F x, z ∈ o.ks) ∧ (F x).length ≤ 1000)
  post ds b := b = .ow (.lst (spairsD (looseF (relE o) F p)))
  exn _ _ _ := False
abbrev s_loose : Stmt := top 31
abbrev nLoose : List Str := ["order", "lists", "pair", "left", "right", "found", "kind", "other"]
theorem scLoose : FnScope nLoose ["order", "lists", "pair"] (defScope s_loose) := ⟨rfl, rfl, rfl, by decide +kernel, rfl, by decide +kernel, by decide +kernel⟩
theorem spairsD_len {l : List (Str × Str)} : (spairsD l).length = l.length := List.length_map _
theorem ok_loose {f : Addr} {fd : FuncData} (F0 : FunS K "loose_kinds" s_loose f fd) (b : Bi mg) (Bw : ∀ ks E lo hi, Md P w K mg base "Order" "below" 4 (cBelow ks E lo hi)) (o : Ods) (names : List Str) (F : Lsts) (p : Str × Str) : FnOk P w K mg base (L2.CX P w) 5 f fd ["order", "lists", "pair"] (spP K (cLoose o names F p)) := by
  refine fp_ok F0 scLoose (fun ds ⟨h, _⟩ => by rw [h]; rfl) fun cdv A outer s e Ex ds ho ⟨hd, hp1, hp2, hF⟩ hr tk => ?_
  subst hd
  have nd := scLoose.nd
  obtain ⟨f1, l1⟩ := hF _ hp1
  obtain ⟨f2, l2⟩ := hF _ hp2
  refine bl_unp2 (d1 := .str p.1) (d2 := .str p.2) 3 4 (hz := .inl ho) (pv_var 2) ?_
  refine bl_letO 5 (hz := .inl ho) (pn_eo (pn_lst pvs_nil)) ?_
  refine bl_at (Γ' := [sD o.d, sD (.dK (dLs names F)), sD (spairD p), sD (.str p.1), sD (.str p.2), sL [], none, none]) rfl ?_
  refine bl_for (fun ds i Γ => ds = (F p.1).map .str ∧ ∃ a, Γ = [sD o.d, sD (.dK (dLs names F)), sD (spairD p), sD (.str p.1), sD (.str p.2), sL (spairsD ((((F p.1).take i).filter fun k => !(F p.2).any fun q => relE o k q).map fun k => (p.1, k))), a, none]) (wv (wp_list (pv_dget hr (pv_var 1) (pv_var 3) (dLs_val hp1)))) (gv_name 6 nd (hz := .inl ho)) ?_ ?_ ?_ (passes_of rfl)
  · rintro ds Γ1 ⟨rfl, rfl⟩
    exact ⟨rfl, none, rfl⟩
  · rintro ds i d Γ1 hdi ⟨rfl, a, rfl⟩
    obtain ⟨z, hz, rfl⟩ := strs_at' hdi
    have hzm := f1 z (List.mem_of_getElem? hz)
    have tk1 : (((F p.1).take (i + 1)).filter fun k => !(F p.2).any fun q => relE o k q).map (fun k => (p.1, k)) = (((F p.1).take i).filter fun k => !(F p.2).any fun q => relE o k q).map (fun k => (p.1, k)) ++ if (!(F p.2).any fun q => relE o z q) = true then [(p.1, z)] else [] := by
      rw [take_snoc hz, List.filter_append, List.map_append]
      congr 1
      exact filt1 _ _ z
    refine ⟨_, rfl, bl_ifP (q := !(F p.2).any fun q => relE o z q) (fun Γ => ∃ a, Γ = [sD o.d, sD (.dK (dLs names F)), sD (spairD p), sD (.str p.1), sD (.str p.2), sL (spairsD ((((F p.1).take (i + 1)).filter fun k => !(F p.2).any fun q => relE o k q).map fun k => (p.1, k))), a, none]) (px_not (px_is (px_val (pv_any (bs := (F p.2).map fun q => relE o z q) (pn_pv (pn_is (o' := .lst (((F p.2).map fun q => relE o z q).map .bl)) (pn_lcA (c := D.str) (u := uS) (l := F p.2) (f := fun q => [sD o.d, sD (.dK (dLs names F)), sD (spairD p), sD (.str p.1), sD (.str p.2), sL (spairsD ((((F p.1).take i).filter fun k => !(F p.2).any fun q => relE o k q).map fun k => (p.1, k))), sD (.str z), sD (.str q)]) (own := [("other", 7)]) (ix := [7]) (bind := bName 7) (fun _ => true) (fun q => .bl (relE o z q)) uS_str (blk nLoose (defScope s_loose)) nd
      (wp_list (pv_dget hr (pv_var 1) (pv_var 4) (dLs_val hp2))) (fun s H C cl fp => gv_name 7 nd (hz := .inl ho)) (bindOk_name 7) (by decide) (.inl ho) (by omega) (fun q _ => rfl) (fun q hq s H C cl fp => pts_none) (fun q hq _ s H C cl fp => pv_meth (Bw o.ks o.E z q) hr (by omega) (pv_var 0) rfl (pvs_cons (pv_var 6) (pvs_cons (pv_var 7) pvs_nil)) ⟨rfl, hzm, f2 q hq⟩ (fun _ h => h) (fun _ _ h => h.elim))) (by rw [filter_true, List.map_map]; rfl))) b.any)) (by rw [List.any_map]; rfl))) (fun h => ?_) (fun h => ?_) fun Γ' ⟨a, h⟩ => bl_nil ⟨rfl, a, h⟩⟩
    · refine bl_appP 5 rfl ?_ (pv_tup (ds := [.str p.1, .str z]) (pvs_cons (pv_var 3) (pvs_cons (pv_var 6) pvs_nil))) (bl_nil ⟨sD (.str z), ?_⟩)
      · rw [spairsD_len, List.length_map]
        have h1 := List.length_filter_le (fun k => !(F p.2).any fun q => relE o k q) ((F p.1).take i)
        have h2 : ((F p.1).take i).length ≤ 1000 := by rw [List.length_take]; omega
        omega
      · rw [tk1, if_pos h, spairsD_app]
        rfl
    · refine bl_nil ⟨sD (.str z), ?_⟩
      rw [tk1, if_neg (by rw [h]; exact Bool.false_ne_true), List.append_nil]
      rfl
  · rintro ds Γ1 ⟨rfl, a, rfl⟩
    rw [List.length_map, List.take_length]
    generalize hA : (((F p.1).filter fun k => !(F p.2).any fun q => relE o k q).map fun k => (p.1, k)) = PA
    have lPA : PA.length ≤ 1000 := by
      rw [← hA, List.length_map]
      exact Nat.le_trans (List.length_filter_le _ _) l1
    refine bl_for (fun ds i Γ => ds = (F p.2).map .str ∧ ∃ a, Γ = [sD o.d, sD (.dK (dLs names F)), sD (spairD p), sD (.str p.1), sD (.str p.2), sL (spairsD (PA ++ (((F p.2).take i).filter fun k => !(F p.1).any fun q => relE o q k).map fun k => (p.2, k))), a, none]) (wv (wp_list (pv_dget hr (pv_var 1) (pv_var 4) (dLs_val hp2)))) (gv_name 6 nd (hz := .inl ho)) ?_ ?_ ?_ (passes_of rfl)
    · rintro ds Γ1 ⟨rfl, rfl⟩
      refine ⟨rfl, a, ?_⟩
      rw [List.take_zero, List.filter_nil, List.map_nil, List.append_nil]
    · rintro ds i d Γ1 hdi ⟨rfl, a, rfl⟩
      obtain ⟨z, hz, rfl⟩ := strs_at' hdi
      have hzm := f2 z (List.mem_of_getElem? hz)
      have tk1 : (((F p.2).take (i + 1)).filter fun k => !(F p.1).any fun q => relE o q k).map (fun k => (p.2, k)) = (((F p.2).take i).filter fun k => !(F p.1).any fun q => relE o q k).map (fun k => (p.2, k)) ++ if (!(F p.1).any fun q => relE o q z) = true then [(p.2, z)] else [] := by
        rw [take_snoc hz, List.filter_append, List.map_append]
        congr 1
        exact filt1 _ _ z
      refine ⟨_, rfl, bl_ifP (q := !(F p.1).any fun q => relE o q z) (fun Γ => ∃ a, Γ = [sD o.d, sD (.dK (dLs names F)), sD (spairD p), sD (.str p.1), sD (.str p.2), sL (spairsD (PA ++ (((F p.2).take (i + 1)).filter fun k => !(F p.1).any fun q => relE o q k).map fun k => (p.2, k))), a, none]) (px_not (px_is (px_val (pv_any (bs := (F p.1).map fun q => relE o q z) (pn_pv (pn_is (o' := .lst (((F p.1).map fun q => relE o q z).map .bl)) (pn_lcA (c := D.str) (u := uS) (l := F p.1) (f := fun q => [sD o.d, sD (.dK (dLs names F)), sD (spairD p), sD (.str p.1), sD (.str p.2), sL (spairsD (PA ++ (((F p.2).take i).filter fun k => !(F p.1).any fun q => relE o q k).map fun k => (p.2, k))), sD (.str z), sD (.str q)]) (own := [("other", 7)]) (ix := [7]) (bind := bName 7) (fun _ => true) (fun q => .bl (relE o q z)) uS_str (blk nLoose (defScope s_loose)) nd
        (wp_list (pv_dget hr (pv_var 1) (pv_var 3) (dLs_val hp1))) (fun s H C cl fp => gv_name 7 nd (hz := .inl ho)) (bindOk_name 7) (by decide) (.inl ho) (by omega) (fun q _ => rfl) (fun q hq s H C cl fp => pts_none) (fun q hq _ s H C cl fp => pv_meth (Bw o.ks o.E q z) hr (by omega) (pv_var 0) rfl (pvs_cons (pv_var 7) (pvs_cons (pv_var 6) pvs_nil)) ⟨rfl, f1 q hq, hzm⟩ (fun _ h => h) (fun _ _ h => h.elim))) (by rw [filter_true, List.map_map]; rfl))) b.any)) (by rw [List.any_map]; rfl))) (fun h => ?_) (fun h => ?_) fun Γ' ⟨a, h⟩ => bl_nil ⟨rfl, a, h⟩⟩
      · refine bl_appP 5 rfl ?_ (pv_tup (ds := [.str p.2, .str z]) (pvs_cons (pv_var 4) (pvs_cons (pv_var 6) pvs_nil))) (bl_nil ⟨sD (.str z), ?_⟩)
        · rw [spairsD_len, List.length_append, List.length_map]
          have h1 := List.length_filter_le (fun k => !(F p.1).any fun q => relE o q k) ((F p.2).take i)
          have h2 : ((F p.2).take i).length ≤ 1000 := by rw [List.length_take]; omega
          omega
        · rw [tk1, if_pos h, ← List.append_assoc, spairsD_app (a := PA ++ _)]
          rfl
      · refine bl_nil ⟨sD (.str z), ?_⟩
        rw [tk1, if_neg (by rw [h]; exact Bool.false_ne_true), List.append_nil]
        rfl
    · rintro ds Γ1 ⟨rfl, a, rfl⟩
      rw [List.length_map, List.take_length]
      refine bl_retV 5 rfl (hz := .inl ho) ?_
      show B.ow _ = B.ow _
      unfold looseF
      rw [hA]
end
end Kf
end
section
set_option maxRecDepth 100000
set_option maxHeartbeats 1000000
/-! KiG: plain: narrowing. -/
namespace Kf
open PySem L2
abbrev Tri := Str × Str × (Str × Str)
abbrev NSt := Lsts × List Tri
def rmF (F : Lsts) (n k : Str) : Lsts := fun x => if x = n then (F n).filter fun z => !decide (z = k) else F x
def takeN (p : Str × Str) (s : NSt) (f : Str × Str) : NSt := (rmF s.1 f.1 f.2, s.2 ++ [(f.1, f.2, p)])
def pairN (r : Str → Str → Bool) (s : NSt) (p : Str × Str) : NSt := (looseF r s.1 p).foldl (takeN p) s
def turnN (r : Str → Str → Bool) (prs : List (Str × Str)) (s : NSt) : NSt := prs.foldl (pairN r) s
def nrwN (r : Str → Str → Bool) (prs : List (Str × Str)) : Nat → NSt → NSt
  | 0, s => s
  | n + 1, s => if (turnN r prs s).2.length = s.2.length then turnN r prs s else nrwN r prs n (turnN r prs s)
def msr (names : List Str) (F : Lsts) : Nat := (names.map fun x => (F x).length).sum
def okT (r : Str → Str → Bool) (prs : List (Str × Str)) (F : Lsts) (t : Tri) : Prop :=
  t.2.2 ∈ prs ∧ t.2.1 ∈ F t.1 ∧ (t.1 = t.2.2.1 ∨ t.1 = t.2.2.2) ∧ (t.1 = t.2.2.1 → ∀ h ∈ F t.2.2.2, r t.2.1 h = false) ∧ (t.1 = t.2.2.2 → ∀ l ∈ F t.2.2.1, r l t.2.1 = false)
def okAll (r : Str → Str → Bool) (prs : List (Str × Str)) : Lsts → List Tri → Prop
  | _, [] => True
  | F, t :: ts => okT r prs F t ∧ okAll r prs (rmF F t.1 t.2.1) ts
def runT (F : Lsts) (tr : List Tri) : Lsts := tr.foldl (fun F t => rmF F t.1 t.2.1) F
theorem okAll_snoc {r : Str → Str → Bool} {prs : List (Str × Str)} {t : Tri} : ∀ {tr : List Tri} {F : Lsts}, okAll r prs F tr → okT r prs (runT F tr) t → okAll r prs F (tr ++ [t])
  | [], F, _, h => ⟨h, trivial⟩
  | a :: tr, F, ⟨h1, h2⟩, h => ⟨h1, okAll_snoc h2 h⟩
structure NI (r : Str → Str → Bool) (ks names : List Str) (prs : List (Str × Str)) (F0 : Lsts) (B : Nat) (s : NSt) : Prop where
  run : s.1 = runT F0 s.2
  ok : okAll r prs F0 s.2
  sub : ∀ x ∈ names, (s.1 x).Sublist ks
  ms : s.2.length + msr names s.1 ≤ B
theorem filt_ne {k : Str} : ∀ {l : List Str}, k ∈ l → (l.filter fun z => !decide (z = k)).length + 1 ≤ l.length
  | [], h => by cases h
  | a :: l, h => by
    by_cases q : a = k
    · subst q
      rw [List.filter_cons_of_neg (by simp), List.length_cons]
      have := List.length_filter_le (fun z => !decide (z = a)) l
      omega
    · rw [List.filter_cons_of_pos (by simpa using q), List.length_cons, List.length_cons]
      have := filt_ne ((List.mem_cons.mp h).resolve_left fun z => q z.symm)
      omega
theorem msr_rm {names : List Str} {F : Lsts} {n k : Str} (nd : names.Nodup) (hn : n ∈ names) (hk : k ∈ F n) : msr names (rmF F n k) + 1 ≤ msr names F := by
  unfold msr
  induction names with
  | nil => cases hn
  | cons a l ih =>
    obtain ⟨na, nl⟩ := List.nodup_cons.mp nd
    rw [List.map_cons, List.map_cons, List.sum_cons, List.sum_cons]
    by_cases q : a = n
    · subst q
      have e : (l.map fun x => (rmF F a k x).length) = l.map fun x => (F x).length := List.map_congr_left fun x hx => by
        unfold rmF
        rw [if_neg fun z => na (by rw [← z]; exact hx)]
      rw [e]
      have : (rmF F a k a).length + 1 ≤ (F a).length := by
        unfold rmF
        rw [if_pos rfl]
        exact filt_ne hk
      omega
    · have e : (rmF F n k a).length = (F a).length := by
        unfold rmF
        rw [if_neg q]
      rw [e]
      have := ih nl ((List.mem_cons.mp hn).resolve_left fun z => q z.symm)
      omega
theorem NI.take {r : Str → Str → Bool} {ks names : List Str} {prs : List (Str × Str)} {F0 : Lsts} {B : Nat} {s : NSt} {f p : Str × Str} (h : NI r ks names prs F0 B s) (nd : names.Nodup) (hf : f.1 ∈ names) (ho : okT r prs s.1 (f.1, f.2, p)) : NI r ks names prs F0 B (takeN p s f) := by
  refine ⟨?_, okAll_snoc h.ok (by rw [← h.run]; exact ho), fun x hx => ?_, ?_⟩
  · show rmF s.1 f.1 f.2 = runT F0 (s.2 ++ [(f.1, f.2, p)])
    unfold runT
    rw [List.foldl_append]
    show _ = rmF (runT F0 s.2) f.1 f.2
    rw [← h.run]
  · show (rmF s.1 f.1 f.2 x).Sublist ks
    unfold rmF
    split
    · exact List.filter_sublist.trans (h.sub f.1 hf)
    · exact h.sub x hx
  · have h1 := msr_rm nd hf ho.2.1
    have h2 := h.ms
    show (s.2 ++ [(f.1, f.2, p)]).length + msr names (rmF s.1 f.1 f.2) ≤ B
    rw [List.length_append]
    show s.2.length + 1 + _ ≤ B
    have h1' : msr names (rmF s.1 f.1 f.2) + 1 ≤ msr names s.1 := h1
    omega
theorem fold_at {p : Str × Str} : ∀ (l : List (Str × Str)) (s : NSt) (x : Str), (l.foldl (takeN p) s).1 x = (s.1 x).filter fun z => !decide ((x, z) ∈ l)
  | [], s, x => (List.filter_eq_self.mpr fun z _ => by simp).symm
  | f :: l, s, x => by
    rw [List.foldl_cons, fold_at l]
    show (rmF s.1 f.1 f.2 x).filter _ = _
    unfold rmF
    by_cases q : x = f.1
    · subst q
      rw [if_pos rfl, List.filter_filter]
      refine List.filter_congr fun z _ => ?_
      have : ((f.1, z) ∈ f :: l) ↔ z = f.2 ∨ (f.1, z) ∈ l := by
        rw [List.mem_cons]
        constructor
        · rintro (h | h)
          · exact .inl (congrArg (·.2) h)
          · exact .inr h
        · rintro (h | h)
          · exact .inl (by rw [h])
          · exact .inr h
      rw [Bool.eq_iff_iff]
      simp only [Bool.and_eq_true, Bool.not_eq_true', decide_eq_false_iff_not, this, not_or]
      exact ⟨fun ⟨h1, h2⟩ => ⟨h2, h1⟩, fun ⟨h1, h2⟩ => ⟨h2, h1⟩⟩
    · rw [if_neg q]
      refine List.filter_congr fun z _ => ?_
      have : ((x, z) ∈ f :: l) ↔ (x, z) ∈ l := by
        rw [List.mem_cons]
        exact ⟨fun h => h.resolve_left fun h => q (congrArg (·.1) h), .inr⟩
      rw [Bool.eq_iff_iff]
      simp only [Bool.not_eq_true', decide_eq_false_iff_not, this]
theorem mem_loose {r : Str → Str → Bool} {F : Lsts} {p f : Str × Str} : f ∈ looseF r F p ↔ (f.1 = p.1 ∧ f.2 ∈ F p.1 ∧ ∀ h ∈ F p.2, r f.2 h = false) ∨ (f.1 = p.2 ∧ f.2 ∈ F p.2 ∧ ∀ l ∈ F p.1, r l f.2 = false) := by
  unfold looseF
  rw [List.mem_append, List.mem_map, List.mem_map]
  simp only [List.mem_filter, Bool.not_eq_true', List.any_eq_false, Bool.not_eq_true]
  constructor
  · rintro (⟨k, ⟨h1, h2⟩, rfl⟩ | ⟨k, ⟨h1, h2⟩, rfl⟩)
    · exact .inl ⟨rfl, h1, h2⟩
    · exact .inr ⟨rfl, h1, h2⟩
  · obtain ⟨f1, f2⟩ := f
    rintro (⟨h0, h1, h2⟩ | ⟨h0, h1, h2⟩)
    · exact .inl ⟨f2, ⟨h1, h2⟩, by rw [show p.1 = f1 from h0.symm]⟩
    · exact .inr ⟨f2, ⟨h1, h2⟩, by rw [show p.2 = f1 from h0.symm]⟩
section
variable {r : Str → Str → Bool} {ks names : List Str} {prs : List (Str × Str)} {F0 : Lsts} {B : Nat} {s : NSt} {p : Str × Str}
theorem loose_ne (hs : ∀ x ∈ names, (s.1 x).Sublist ks) (hr : ∀ z ∈ ks, r z z = true) (h1 : p.1 ∈ names) {f : Str × Str} (hf : f ∈ looseF r s.1 p) : p.1 ≠ p.2 := fun q => by
  rcases mem_loose.mp hf with ⟨_, g1, g2⟩ | ⟨_, g1, g2⟩
  · have := g2 f.2 (by rw [← q]; exact g1)
    rw [hr _ ((hs _ h1).subset g1)] at this
    cases this
  · have := g2 f.2 (by rw [q]; exact g1)
    rw [hr _ ((hs _ h1).subset (by rw [q]; exact g1))] at this
    cases this
theorem loose_nd (hnd : ks.Nodup) (hs : ∀ x ∈ names, (s.1 x).Sublist ks) (hr : ∀ z ∈ ks, r z z = true) (h1 : p.1 ∈ names) (h2 : p.2 ∈ names) : (looseF r s.1 p).Nodup := by
  by_cases e : looseF r s.1 p = []
  · rw [e]; exact List.nodup_nil
  · obtain ⟨f, hf⟩ := List.exists_mem_of_ne_nil _ e
    have ne := loose_ne hs hr h1 hf
    have inj : ∀ (a : Str) (l : List Str), l.Nodup → (l.map fun k => (a, k)).Nodup := fun a l h => by
      rw [List.nodup_iff_pairwise_ne] at h ⊢
      exact List.pairwise_map.mpr (h.imp fun q z => q (congrArg (·.2) z))
    unfold looseF
    refine List.nodup_append.mpr ⟨inj _ _ ((hnd.sublist (hs _ h1)).sublist List.filter_sublist), inj _ _ ((hnd.sublist (hs _ h2)).sublist List.filter_sublist), fun a ha c hc q => ?_⟩
    obtain ⟨k1, _, rfl⟩ := List.mem_map.mp ha
    obtain ⟨k2, _, rfl⟩ := List.mem_map.mp hc
    exact ne (congrArg (·.1) q)
/-- within a pair's turn -/
theorem NI.part (h : NI r ks names prs F0 B s) (nd : names.Nodup) (hnd : ks.Nodup) (hr : ∀ z ∈ ks, r z z = true) (hp : p ∈ prs) (h1 : p.1 ∈ names) (h2 : p.2 ∈ names) : ∀ j, j ≤ (looseF r s.1 p).length → NI r ks names prs F0 B (((looseF r s.1 p).take j).foldl (takeN p) s)
  | 0, _ => h
  | j + 1, hj => by
    have ih := NI.part h nd hnd hr hp h1 h2 j (by omega)
    obtain ⟨f, hf⟩ : ∃ f, (looseF r s.1 p)[j]? = some f := ⟨_, List.getElem?_eq_getElem (by omega)⟩
    have hfm := List.mem_of_getElem? hf
    have ndl := loose_nd hnd h.sub hr h1 h2
    have ne := loose_ne h.sub hr h1 hfm
    rw [List.take_succ, hf]
    show NI r ks names prs F0 B ((((looseF r s.1 p).take j) ++ [f]).foldl (takeN p) s)
    rw [List.foldl_append]
    have hno : f ∉ (looseF r s.1 p).take j := fun q => by
      obtain ⟨i', hi'⟩ := List.getElem?_of_mem q
      have hl := (List.getElem?_eq_some_iff.mp hi').1
      rw [List.length_take] at hl
      rw [List.getElem?_take_of_lt (by omega)] at hi'
      have := (List.getElem?_inj (List.getElem?_eq_some_iff.mp hi').1 ndl).mp (hi'.trans hf.symm)
      omega
    have sub : ∀ x z, z ∈ (((looseF r s.1 p).take j).foldl (takeN p) s).1 x → z ∈ s.1 x := fun x z hz => by
      rw [fold_at] at hz
      exact (List.mem_filter.mp hz).1
    have keep : ∀ x, (x, f.2) = f → f.2 ∈ s.1 x → f.2 ∈ (((looseF r s.1 p).take j).foldl (takeN p) s).1 x := fun x hx hm => by
      rw [fold_at]
      exact List.mem_filter.mpr ⟨hm, by rw [hx]; simpa using hno⟩
    rcases mem_loose.mp hfm with ⟨g0, g1, g2⟩ | ⟨g0, g1, g2⟩
    · exact ih.take nd (by rw [g0]; exact h1) ⟨hp, keep f.1 rfl (by rw [g0]; exact g1), .inl g0, fun _ x hx => g2 x (sub _ _ hx), fun q => absurd (g0.symm.trans q) ne⟩
    · exact ih.take nd (by rw [g0]; exact h2) ⟨hp, keep f.1 rfl (by rw [g0]; exact g1), .inr g0, fun q => absurd (g0.symm.trans q).symm ne, fun _ x hx => g2 x (sub _ _ hx)⟩
theorem NI.pair (h : NI r ks names prs F0 B s) (nd : names.Nodup) (hnd : ks.Nodup) (hr : ∀ z ∈ ks, r z z = true) (hp : p ∈ prs) (h1 : p.1 ∈ names) (h2 : p.2 ∈ names) : NI r ks names prs F0 B (pairN r s p) := by
  have := h.part nd hnd hr hp h1 h2 (looseF r s.1 p).length (Nat.le_refl _)
  rw [List.take_length] at this
  exact this
theorem fold_len (p : Str × Str) : ∀ (l : List (Str × Str)) (s : NSt), (l.foldl (takeN p) s).2.length = s.2.length + l.length
  | [], s => rfl
  | f :: l, s => by
    rw [List.foldl_cons, fold_len p l]
    show (s.2 ++ [_]).length + _ = _
    rw [List.length_append]
    show s.2.length + 1 + l.length = s.2.length + (l.length + 1)
    omega
theorem NI.turn (h : NI r ks names prs F0 B s) (nd : names.Nodup) (hnd : ks.Nodup) (hr : ∀ z ∈ ks, r z z = true) (hin : ∀ p ∈ prs, p.1 ∈ names ∧ p.2 ∈ names) : ∀ (l : List (Str × Str)), (∀ p ∈ l, p ∈ prs) → NI r ks names prs F0 B (l.foldl (pairN r) s) := fun l => by
  induction l generalizing s with
  | nil => exact fun _ => h
  | cons p l ih => exact fun hl => ih (h.pair nd hnd hr (hl p List.mem_cons_self) (hin p (hl p List.mem_cons_self)).1 (hin p (hl p List.mem_cons_self)).2) fun q hq => hl q (List.mem_cons_of_mem _ hq)
theorem turn_len : ∀ (l : List (Str × Str)) (s : NSt), s.2.length ≤ (l.foldl (pairN r) s).2.length
  | [], s => Nat.le_refl _
  | p :: l, s => by
    refine Nat.le_trans ?_ (turn_len l (pairN r s p))
    unfold pairN
    rw [fold_len]
    omega
/-- a turn that takes nothing away -/
theorem quiet : ∀ (l : List (Str × Str)) (s : NSt), (l.foldl (pairN r) s).2.length = s.2.length → l.foldl (pairN r) s = s ∧ ∀ p ∈ l, looseF r s.1 p = []
  | [], s, _ => ⟨rfl, fun p hp => by cases hp⟩
  | p :: l, s, h => by
    rw [List.foldl_cons] at h ⊢
    have h1 := turn_len (r := r) l (pairN r s p)
    have h2 : (pairN r s p).2.length = s.2.length + (looseF r s.1 p).length := fold_len p _ s
    have h3 : looseF r s.1 p = [] := List.length_eq_zero_iff.mp (by omega)
    have h4 : pairN r s p = s := by
      unfold pairN
      rw [h3]
      rfl
    rw [h4] at h ⊢
    obtain ⟨g1, g2⟩ := quiet l s h
    exact ⟨g1, fun q hq => by
      rcases List.mem_cons.mp hq with rfl | hq
      · exact h3
      · exact g2 q hq⟩
/-- how it ends -/
theorem nrw_fin (nd : names.Nodup) (hnd : ks.Nodup) (hr : ∀ z ∈ ks, r z z = true) (hin : ∀ p ∈ prs, p.1 ∈ names ∧ p.2 ∈ names) : ∀ (m : Nat) (s : NSt), NI r ks names prs F0 B s → B < m + s.2.length → NI r ks names prs F0 B (nrwN r prs m s) ∧ ∀ p ∈ prs, looseF r (nrwN r prs m s).1 p = []
  | 0, s, h, hm => by
    have := h.ms
    omega
  | m + 1, s, h, hm => by
    have ht := h.turn nd hnd hr hin prs fun p hp => hp
    have hl := turn_len (r := r) prs s
    unfold nrwN
    split
    · rename_i q
      obtain ⟨g1, g2⟩ := quiet prs s q
      refine ⟨ht, ?_⟩
      show ∀ p ∈ prs, looseF r (prs.foldl (pairN r) s).1 p = []
      rw [g1]
      exact g2
    · rename_i q
      exact nrw_fin nd hnd hr hin m _ ht (by
        have : (turnN r prs s).2.length ≠ s.2.length := q
        have hl' : s.2.length ≤ (turnN r prs s).2.length := hl
        omega)
end
end Kf
end
section
set_option maxRecDepth 100000
set_option maxHeartbeats 1000000
/-! KiH: narrow, narrowed, trail_of, is_stuck: walked. -/
namespace Kf
open PySem L2
def triD (t : Tri) : D := .tup [.str t.1, .str t.2.1, spairD t.2.2]
def trisD (l : List Tri) : List D := l.map triD
theorem trisD_len {l : List Tri} : (trisD l).length = l.length := List.length_map _
/-- sayings that the law makes -/
structure NSay (o : Ods) (prs : List (Str × Str)) : Prop where
  nn : (nmsS o prs).Nodup
  refl : ∀ z ∈ o.ks, relE o z z = true
  inn : ∀ p ∈ ddp prs, p.1 ∈ nmsS o prs ∧ p.2 ∈ nmsS o prs
  len : (nmsS o prs).length ≤ 100
  kl : o.ks.length ≤ 10
def msr0 (o : Ods) (prs : List (Str × Str)) : Nat := msr (nmsS o prs) (fullF o.ks)
def finN (o : Ods) (prs : List (Str × Str)) : NSt := nrwN (relE o) (ddp prs) (msr0 o prs + 1) (fullF o.ks, [])
abbrev NIo (o : Ods) (prs : List (Str × Str)) (s : NSt) : Prop := NI (relE o) o.ks (nmsS o prs) (ddp prs) (fullF o.ks) (msr0 o prs) s
theorem NSay.kn {o : Ods} {prs : List (Str × Str)} (h : NSay o prs) : o.ks.Nodup := (List.nodup_append.mp h.nn).1
theorem NSay.start {o : Ods} {prs : List (Str × Str)} (h : NSay o prs) : NIo o prs (fullF o.ks, []) := by
  refine ⟨rfl, trivial, fun x hx => ?_, by show 0 + _ ≤ _; rw [Nat.zero_add]; exact Nat.le_refl _⟩
  show (fullF o.ks x).Sublist o.ks
  unfold fullF
  split
  · rename_i q
    exact List.singleton_sublist.mpr q
  · exact List.Sublist.refl _
theorem NSay.small {o : Ods} {prs : List (Str × Str)} (h : NSay o prs) : msr0 o prs ≤ 1000 := by
  have h1 : msr0 o prs ≤ (nmsS o prs).length * 10 := by
    unfold msr0 msr
    have key : ∀ l : List Str, (∀ x ∈ l, (fullF o.ks x).length ≤ 10) → (l.map fun x => (fullF o.ks x).length).sum ≤ l.length * 10 := fun l => by
      induction l with
      | nil => exact fun _ => by simp
      | cons a l ih =>
        intro q
        rw [List.map_cons, List.sum_cons, List.length_cons]
        have h1 := q a List.mem_cons_self
        have h2 := ih fun x hx => q x (List.mem_cons_of_mem _ hx)
        omega
    refine key _ fun x hx => Nat.le_trans ((h.start.sub x hx).length_le) h.kl
  have := h.len
  omega
theorem NSay.fin {o : Ods} {prs : List (Str × Str)} (h : NSay o prs) : NIo o prs (finN o prs) ∧ ∀ p ∈ ddp prs, looseF (relE o) (finN o prs).1 p = [] :=
  nrw_fin h.nn h.kn h.refl h.inn _ _ h.start (by show msr0 o prs < msr0 o prs + 1 + 0; omega)
section
variable {P : Program} {w : World} {K : Fg} {mg : Str → Option Value} {base : Heap} {x qual : Str} {dvs : List V}
def cNarrow (o : Ods) (prs : List (Str × Str)) : Fp where
  pre ds := ds = [.obj "Sayings" (dSay o prs)] ∧ NSay o prs
  post ds b := b = .nt (.dK (dLs (nmsS o prs) (finN o prs).1)) (.lst (trisD (finN o prs).2))
  exn _ _ _ := False
abbrev s_narrow : Stmt := top 32
abbrev nNarrow : List Str := ["sayings", "lists", "trail", "quiet", "pair", "name", "kind", "other"]
theorem scNarrow : FnScope nNarrow ["sayings"] (defScope s_narrow) := ⟨rfl, rfl, rfl, by decide +kernel, rfl, by decide +kernel, by decide +kernel⟩
theorem ok_narrow {f : Addr} {fd : FuncData} (F0 : FunS K "narrow" s_narrow f fd) (sy : SyC K mg) (N1 : ∀ o prs, Dx P w K mg base "full_lists" 3 (cFull o prs)) (N2 : ∀ o names F p, Dx P w K mg base "loose_kinds" 5 (cLoose o names F p)) (o : Ods) (prs : List (Str × Str)) : FnOk P w K mg base (L2.CX P w) 6 f fd ["sayings"] (spP K (cNarrow o prs)) := by
  refine fp_ok F0 scNarrow (fun ds ⟨h, _⟩ => by rw [h]; rfl) fun cdv A outer s0 e Ex ds ho ⟨hd, ns⟩ hr tk => ?_
  subst hd
  have nd := scNarrow.nd
  have hl := ns.len
  have hsm := ns.small
  refine bl_letO 1 (hz := .inl ho) (pn_eo (pn_call (N1 o prs) hr (by omega) (pvs_cons (pv_var 0) pvs_nil) ⟨rfl, ns.nn, by omega⟩ (fun _ h => h) (fun _ _ h => h))) ?_
  refine bl_letO 2 (hz := .inl ho) (pn_eo (pn_lst pvs_nil)) (bl_let 3 (hz := .inl ho) (d := .bl false) pv_bl ?_)
  refine bl_while (fun m Γ => ∃ (s : NSt) (q : Bool) (a c d : Option B), NIo o prs s ∧ (q = false → nrwN (relE o) (ddp prs) m s = finN o prs ∧ msr0 o prs < m + s.2.length) ∧ (q = true → s = finN o prs) ∧ Γ = [sD (.obj "Sayings" (dSay o prs)), sO (.dK (dLs (nmsS o prs) s.1)), sL (trisD s.2), sD (.bl q), a, c, d, none])
    (msr0 o prs + 1) ⟨(fullF o.ks, []), false, none, none, none, ns.start, fun _ => ⟨rfl, by show _ < _ + 1 + 0; omega⟩, (fun h => by cases h), rfl⟩ ?_ (passes_of rfl)
  rintro m Γ1 ⟨s, q, a, c, d, ni, hq, hf, rfl⟩
  refine ⟨_, px_tv (px_not (px_val (pv_var 3))), ?_, ?_⟩
  · rintro Γ2 ⟨hb, rfl⟩
    have hq0 : q = false := by simpa using hb.symm
    obtain ⟨h1, h2⟩ := hq hq0
    have h3 := ni.ms
    obtain ⟨m', rfl⟩ : ∃ m', m = m' + 1 := ⟨m - 1, by omega⟩
    refine bl_let 3 (hz := .inl ho) (d := .bl true) pv_bl ?_
    refine bl_for (fun ds i Γ => ds = spairsD (ddp prs) ∧ ∃ (t : NSt) (a c d : Option B), t = ((ddp prs).take i).foldl (pairN (relE o)) s ∧ NIo o prs t ∧ s.2.length ≤ t.2.length ∧ Γ = [sD (.obj "Sayings" (dSay o prs)), sO (.dK (dLs (nmsS o prs) t.1)), sL (trisD t.2), sD (.bl (decide (t.2.length = s.2.length))), a, c, d, none]) (wv (wp_tup (pv_fld sy.cls sy.np (pv_var 0) rfl))) (gv_name 4 nd (hz := .inl ho)) ?_ ?_ ?_ (passes_of rfl)
    · rintro ds Γ1 ⟨rfl, rfl⟩
      exact ⟨rfl, s, a, c, d, rfl, ni, Nat.le_refl _, by rw [decide_eq_true rfl]; rfl⟩
    · rintro ds i dd Γ1 hdi ⟨rfl, t, a, c, d, ht, nt, hst, rfl⟩
      obtain ⟨p, hp, rfl⟩ : ∃ p, (ddp prs)[i]? = some p ∧ dd = spairD p := by
        unfold spairsD at hdi
        rw [List.getElem?_map] at hdi
        obtain ⟨p, h1, h2⟩ := Option.map_eq_some_iff.mp hdi
        exact ⟨p, h1, h2.symm⟩
      have hpm := List.mem_of_getElem? hp
      obtain ⟨n1, n2⟩ := ns.inn p hpm
      refine ⟨_, rfl, bl_for (fun ds j Γ => ds = spairsD (looseF (relE o) t.1 p) ∧ ∃ (u : NSt) (c d : Option B), u = ((looseF (relE o) t.1 p).take j).foldl (takeN p) t ∧ j ≤ (looseF (relE o) t.1 p).length ∧ Γ = [sD (.obj "Sayings" (dSay o prs)), sO (.dK (dLs (nmsS o prs) u.1)), sL (trisD u.2), sD (.bl (decide (u.2.length = s.2.length))), sD (spairD p), c, d, none])
        (wv_listE (Ψ := fun ds Γ1 => ds = spairsD (looseF (relE o) t.1 p) ∧ Γ1 = [sD (.obj "Sayings" (dSay o prs)), sO (.dK (dLs (nmsS o prs) t.1)), sL (trisD t.2), sD (.bl (decide (t.2.length = s.2.length))), sD (spairD p), c, d, none]) (pv_ev (pn_pv (pn_loan 1 rfl ho (pn_call (N2 o (nmsS o prs) t.1 p) hr (by omega) (pvs_cons (pv_fld sy.cls sy.no (pv_var 0) rfl) (pvs_cons (pv_var 1) (pvs_cons (pv_var 4) pvs_nil))) ⟨rfl, n1, n2, fun x hx => ⟨fun z hz => (nt.sub x hx).subset hz, Nat.le_trans (nt.sub x hx).length_le (by have := ns.kl; omega)⟩⟩ (fun _ h => h) (fun _ _ h => h))))) fun d' Γ' ⟨h1, h2⟩ => ⟨_, h1, rfl, h2⟩) (gv_two rfl (gv_name 5 nd (hz := .inl ho)) (gv_name 6 nd (hz := .inl ho))) ?_ ?_ ?_ (passes_of rfl)⟩
      · rintro ds Γ1 ⟨rfl, rfl⟩
        exact ⟨rfl, t, c, d, rfl, Nat.zero_le _, rfl⟩
      · rintro ds j dd Γ1 hdj ⟨rfl, u, c, d, hu, hj, rfl⟩
        obtain ⟨g, hg, rfl⟩ : ∃ g, (looseF (relE o) t.1 p)[j]? = some g ∧ dd = spairD g := by
          unfold spairsD at hdj
          rw [List.getElem?_map] at hdj
          obtain ⟨g, h1, h2⟩ := Option.map_eq_some_iff.mp hdj
          exact ⟨g, h1, h2.symm⟩
        have hjl := (List.getElem?_eq_some_iff.mp hg).1
        have nu := nt.part ns.nn ns.kn ns.refl hpm n1 n2 j hj
        rw [← hu] at nu
        have hgn : g.1 ∈ nmsS o prs := by
          rcases mem_loose.mp (List.mem_of_getElem? hg) with ⟨z, _⟩ | ⟨z, _⟩
          · rw [z]; exact n1
          · rw [z]; exact n2
        have hul : u.2.length = t.2.length + j := by
          rw [hu, fold_len, List.length_take]
          omega
        have hum := nu.ms
        have stp : ((looseF (relE o) t.1 p).take (j + 1)).foldl (takeN p) t = takeN p u g := by
          rw [List.take_succ, hg, List.foldl_append, ← hu]
          rfl
        refine ⟨_, ⟨_, _, _, rfl, rfl, rfl⟩, bl_dputU (Φ := Is (dStrs ((u.1 g.1).filter fun z => !decide (z = g.2))) [sD (.obj "Sayings" (dSay o prs)), sO (.dK (dLs (nmsS o prs) u.1)), sL (trisD u.2), sD (.bl (decide (u.2.length = s.2.length))), sD (spairD p), sD (.str g.1), sD (.str g.2), none]) 1 hr (pv_ev (pn_pv (pn_is (o' := .lst (((u.1 g.1).filter fun z => !decide (z = g.2)).map .str)) (pn_lcA (c := D.str) (u := uS) (l := u.1 g.1) (f := fun z => [sD (.obj "Sayings" (dSay o prs)), sO (.dK (dLs (nmsS o prs) u.1)), sL (trisD u.2), sD (.bl (decide (u.2.length = s.2.length))), sD (spairD p), sD (.str g.1), sD (.str g.2), sD (.str z)]) (own := [("other", 7)]) (ix := [7]) (bind := bName 7) (fun z => !decide (z = g.2)) (fun z => .str z) uS_str (blk nNarrow (defScope s_narrow)) nd
          (wp_list (pv_dgetO 1 hr rfl (pv_var 5) (dLs_val hgn))) (fun s H C cl fp => gv_name 7 nd (hz := .inl ho)) (bindOk_name 7) (by decide) (.inl ho) (by have := (nu.sub g.1 hgn).length_le; have := ns.kl; omega) (fun z _ => rfl) (fun z hz s H C cl fp => pts_if (px_cmp op_ne (pv_var 7) (pv_var 6) sc_neS)) (fun z _ _ s H C cl fp => pv_var 7)) rfl))) ?_⟩
        rintro d' Γ1 ⟨rfl, rfl⟩
        refine ⟨_, g.1, rfl, pv_var 5, by unfold dLs; rw [rowsF_len]; omega, ?_⟩
        have ep : putD (dLs (nmsS o prs) u.1) (.inr g.1) (dStrs ((u.1 g.1).filter fun z => !decide (z = g.2))) = dLs (nmsS o prs) (rmF u.1 g.1 g.2) := by
          unfold dLs
          rw [putD_rows hgn]
          refine rowsF_congr fun x _ => ?_
          unfold rmF
          split <;> rfl
        refine bl_at (Γ' := [sD (.obj "Sayings" (dSay o prs)), sO (.dK (dLs (nmsS o prs) (rmF u.1 g.1 g.2))), sL (trisD u.2), sD (.bl (decide (u.2.length = s.2.length))), sD (spairD p), sD (.str g.1), sD (.str g.2), none]) (by rw [ep]; rfl) ?_
        refine bl_appP 2 rfl (by rw [trisD_len]; omega) (pv_tup (ds := [.str g.1, .str g.2, spairD p]) (pvs_cons (pv_var 5) (pvs_cons (pv_var 6) (pvs_cons (pv_var 4) pvs_nil)))) ?_
        refine bl_let 3 (hz := .inl ho) (d := .bl false) pv_bl (bl_nil ⟨rfl, takeN p u g, sD (.str g.1), sD (.str g.2), stp.symm, hjl, ?_⟩)
        have e1 : (takeN p u g).2 = u.2 ++ [(g.1, g.2, p)] := rfl
        have e2 : decide ((takeN p u g).2.length = s.2.length) = false := decide_eq_false (by rw [e1, List.length_append]; show ¬ u.2.length + 1 = _; omega)
        rw [e2]
        show [_, _, sL (trisD u.2 ++ [triD (g.1, g.2, p)]), _, _, _, _, _] = [_, _, sL (trisD (u.2 ++ [(g.1, g.2, p)])), _, _, _, _, _]
        unfold trisD
        rw [List.map_append]
        rfl
      · rintro ds Γ1 ⟨rfl, u, c, d, hu, hj, rfl⟩
        rw [spairsD_len, List.take_length] at hu
        have hu' : u = pairN (relE o) t p := hu
        subst hu'
        refine bl_nil ⟨rfl, pairN (relE o) t p, sD (spairD p), c, d, ?_, nt.pair ns.nn ns.kn ns.refl hpm n1 n2, ?_, rfl⟩
        · rw [List.take_succ, hp, List.foldl_append, ← ht]
          rfl
        · unfold pairN
          rw [fold_len]
          omega
    · rintro ds Γ1 ⟨rfl, t, a, c, d, ht, nt, hst, rfl⟩
      rw [spairsD_len, List.take_length] at ht
      have ht' : t = turnN (relE o) (ddp prs) s := ht
      subst ht'
      unfold nrwN at h1
      refine bl_nil ⟨m', Nat.lt_succ_self _, turnN (relE o) (ddp prs) s, _, a, c, d, nt, fun hn => ?_, fun hn => ?_, rfl⟩
      · have hne := of_decide_eq_false hn
        rw [if_neg hne] at h1
        exact ⟨h1, by omega⟩
      · have he := of_decide_eq_true hn
        rw [if_pos he] at h1
        exact h1
  · rintro Γ2 ⟨hb, rfl⟩
    have hq1 : q = true := by simpa using hb.symm
    have := hf hq1
    subst this
    exact bl_retT 1 2 rfl rfl (by decide) ho rfl
/-! ### narrowed -/
def cNarrowed (o : Ods) (prs : List (Str × Str)) (z : Str) : Fp where
  pre ds := ds = [.obj "Sayings" (dSay o prs), .str z] ∧ NSay o prs
  post ds b := z ∈ nmsS o prs ∧ b = .ow (.obj "Region" (dReg o ((finN o prs).1 z)))
  exn ds y fl := z ∉ nmsS o prs ∧ y = "NotListed" ∧ fl = [(("name" : Str), D.str z)]
abbrev s_nrwd : Stmt := top 33
abbrev nNrwd : List Str := ["sayings", "name", "lists", "_"]
theorem scNrwd : FnScope nNrwd ["sayings", "name"] (defScope s_nrwd) := ⟨rfl, rfl, rfl, by decide +kernel, rfl, by decide +kernel, by decide +kernel⟩
theorem ok_nrwd {f fR : Addr} {fd : FuncData} (F0 : FunS K "narrowed" s_nrwd f fd) (sy : SyC K mg) (rc : RgC K mg) (M : Mk K (He.ga K "Region") fR) (FR : ∀ o zs k, FnR P w K mg base (L2.CX P w) 4 fR (spO K (cRegI o zs k))) (N1 : ∀ o prs z, Dx P w K mg base "check_said" 3 (cSaid o prs z)) (N2 : ∀ o prs, Dx P w K mg base "narrow" 6 (cNarrow o prs)) (o : Ods) (prs : List (Str × Str)) (z : Str) : FnOk P w K mg base (L2.CX P w) 7 f fd ["sayings", "name"] (spP K (cNarrowed o prs z)) := by
  refine fp_ok F0 scNrwd (fun ds ⟨h, _⟩ => by rw [h]; rfl) fun cdv A outer s0 e Ex ds ho ⟨hd, ns⟩ hr tk => ?_
  subst hd
  have nd := scNrwd.nd
  have mem : z ∈ nmsS o prs ↔ z ∈ o.ks ∨ z ∈ unkS prs := List.mem_append
  refine bl_do (Φ := fun d Γ => z ∈ nmsS o prs ∧ Γ = [sD (.obj "Sayings" (dSay o prs)), sD (.str z), none, none]) (ev_call (N1 o prs z) hr (by omega) tk (pvs_av (pvs_cons (pv_var 0) (pvs_cons (pv_var 1) pvs_nil))) ?_) ?_
  · rintro ds Γ1 ⟨rfl, rfl⟩
    exact ⟨rfl, fun bb ⟨h1, h2⟩ => ⟨_, .inl h1, mem.mpr h2, rfl⟩, fun y fl ⟨⟨h1, h2⟩, h3, h4⟩ => ⟨fun q => (mem.mp q).elim h1 h2, h3, h4⟩⟩
  rintro d Γ1 ⟨hz, rfl⟩
  refine bl_unpN 2 3 (by decide) (N2 o prs) hr (by omega) (pvs_cons (pv_var 0) pvs_nil) ⟨rfl, ns⟩ (fun _ h => h) (fun _ _ h => h) ho ?_
  have hsub := ns.fin.1.sub z hz
  refine bl_retO (eo_makeI (o := .obj "Region" (dReg o ((finN o prs).1 z))) M (FR o ((finN o prs).1 z) true) rc.gl hr (by omega) (pvs_cons (pv_fld sy.cls sy.no (pv_var 0) rfl) (pvs_cons (pv_dgetO 2 hr rfl (pv_var 1) (dLs_val hz)) pvs_nil)) ⟨rfl, rfl, fun y hy => hsub.subset hy, by have := ns.kl; omega⟩ (fun b o' ⟨g1, g2⟩ => ⟨g1, by rw [g2, sub_filter hsub ns.kn]⟩) (fun _ _ _ h => h)) ?_
  rintro o' Γ1 ⟨rfl, rfl⟩
  exact ⟨hz, rfl⟩
/-! ### trail_of -/
def cTrail (o : Ods) (prs : List (Str × Str)) : Fp where
  pre ds := ds = [.obj "Sayings" (dSay o prs)] ∧ NSay o prs
  post ds b := b = .ow (.lst (trisD (finN o prs).2))
  exn _ _ _ := False
abbrev s_trail : Stmt := top 34
abbrev nTrail : List Str := ["sayings", "_", "trail"]
theorem scTrail : FnScope nTrail ["sayings"] (defScope s_trail) := ⟨rfl, rfl, rfl, by decide +kernel, rfl, by decide +kernel, by decide +kernel⟩
theorem ok_trail {f : Addr} {fd : FuncData} (F0 : FunS K "trail_of" s_trail f fd) (N2 : ∀ o prs, Dx P w K mg base "narrow" 6 (cNarrow o prs)) (o : Ods) (prs : List (Str × Str)) : FnOk P w K mg base (L2.CX P w) 7 f fd ["sayings"] (spP K (cTrail o prs)) := by
  refine fp_ok F0 scTrail (fun ds ⟨h, _⟩ => by rw [h]; rfl) fun cdv A outer s0 e Ex ds ho ⟨hd, ns⟩ hr tk => ?_
  subst hd
  have nd := scTrail.nd
  exact bl_unpN 1 2 (by decide) (N2 o prs) hr (by omega) (pvs_cons (pv_var 0) pvs_nil) ⟨rfl, ns⟩ (fun _ h => h) (fun _ _ h => h) ho (bl_retV 2 rfl (hz := .inl ho) rfl)
/-! ### is_stuck -/
def stuckB (o : Ods) (prs : List (Str × Str)) : Bool := (nmsS o prs).any fun x => decide (((finN o prs).1 x).length = 0)
def cStuck (o : Ods) (prs : List (Str × Str)) : Fp where
  pre ds := ds = [.obj "Sayings" (dSay o prs)] ∧ NSay o prs
  post ds b := b = .st (.bl (stuckB o prs))
  exn _ _ _ := False
abbrev s_stuck : Stmt := top 35
abbrev nStuck : List Str := ["sayings", "lists", "_", "name"]
theorem scStuck : FnScope nStuck ["sayings"] (defScope s_stuck) := ⟨rfl, rfl, rfl, by decide +kernel, rfl, by decide +kernel, by decide +kernel⟩
theorem ok_stuck {f : Addr} {fd : FuncData} (F0 : FunS K "is_stuck" s_stuck f fd) (b : Bi mg) (N2 : ∀ o prs, Dx P w K mg base "narrow" 6 (cNarrow o prs)) (o : Ods) (prs : List (Str × Str)) : FnOk P w K mg base (L2.CX P w) 7 f fd ["sayings"] (spP K (cStuck o prs)) := by
  refine fp_ok F0 scStuck (fun ds ⟨h, _⟩ => by rw [h]; rfl) fun cdv A outer s0 e Ex ds ho ⟨hd, ns⟩ hr tk => ?_
  subst hd
  have nd := scStuck.nd
  have hl := ns.len
  refine bl_unpN 1 2 (by decide) (N2 o prs) hr (by omega) (pvs_cons (pv_var 0) pvs_nil) ⟨rfl, ns⟩ (fun _ h => h) (fun _ _ h => h) ho ?_
  refine bl_retP (d := .bl (stuckB o prs)) (pv_lock (l := dLs (nmsS o prs) (finN o prs).1) 1 rfl ho (pv_is (pv_any (bs := (nmsS o prs).map fun x => decide (((finN o prs).1 x).length = 0)) (pn_pv (pn_is (o' := .lst (((nmsS o prs).map fun x => decide (((finN o prs).1 x).length = 0)).map .bl)) (pn_lcA (c := D.str) (u := uS) (l := nmsS o prs) (f := fun z => [sD (.obj "Sayings" (dSay o prs)), sD (.dKl (dLs (nmsS o prs) (finN o prs).1)), sL (trisD (finN o prs).2), sD (.str z)]) (own := [("name", 3)]) (ix := [3]) (bind := bName 3) (fun _ => true) (fun x => .bl (decide (((finN o prs).1 x).length = 0))) uS_str (blk nStuck (defScope s_stuck)) nd
    (wp_keys (pv_var 1)) (fun s H C cl fp => gv_name 3 nd (hz := .inl ho)) (bindOk_name 3) (by decide) (.inl ho) (by omega) (fun z _ => rfl) (fun z hz s H C cl fp => pts_none) (fun z hz _ s H C cl fp => pv_is (pv_c op_eq (pv_lenL (pv_dgetL hr (pv_var 1) (pv_var 3) (dLs_val hz)) b.len) pv_int sc_eqI) (congrArg D.bl (by rw [List.length_map]; exact decide_eq_decide.mpr (by omega))))) (by rw [filter_true, List.map_map]; rfl))) b.any) (congrArg D.bl (by rw [List.any_map]; rfl)))) rfl
end
end Kf
end
section
set_option maxRecDepth 100000
set_option maxHeartbeats 1000000
/-! KiI: tests that are not pure; _law_said, _law_edges: walked. -/
namespace Kf
open PySem L2
section
variable {X : Cx} {e : Ent} {Γ : Gam} {x b : Expr} {rest : List Expr} {pos : Pos} {Φ : Bool → Gam → Prop}
abbrev TW (X : Cx) (e : Ent) (x : Expr) (Γ : Gam) (Φ : Bool → Gam → Prop) : Prop := PW X x (tX X.K e Γ Φ)
theorem tv_w (h : TW X e x Γ Φ) : TV X e x Γ Φ := h.pt
theorem tw_a1 (h : TV X e x Γ Φ) : TW X e (.BoolOp .And [x] pos) Γ Φ := pw_and1 h
theorem tw_o1 (h : TV X e x Γ Φ) : TW X e (.BoolOp .Or [x] pos) Γ Φ := pw_or1 h
theorem tw_a {k : Bool} (h : PX X e x Γ k) (h2 : k = true → TW X e (.BoolOp .And (b :: rest) pos) Γ Φ) (h0 : k = false → Φ false Γ) : TW X e (.BoolOp .And (x :: b :: rest) pos) Γ Φ := by
  cases k with
  | true => exact PW.imp (pw_and h (h2 rfl)) fun σ H Q ⟨S, w, q⟩ => ⟨S, w, fun S1 H1 s1 w1 => iteT ⟨S1, w1, fun S2 H2 c Γ2 h3 s2 w2 => q S2 H2 c Γ2 h3 (s1.stp.trans s2) w2⟩⟩
  | false =>
    have nev : PW X (.BoolOp .And (b :: rest) pos) (fun _ _ _ => False) := ⟨fun _ _ _ _ _ _ _ z => z.elim⟩
    exact PW.imp (pw_and h nev) fun σ H Q ⟨S, w, q⟩ => ⟨S, w, fun S1 H1 s1 w1 => iteF (q S1 H1 false Γ (h0 rfl) s1.stp w1)⟩
theorem tw_o {k : Bool} (h : PX X e x Γ k) (h2 : k = false → TW X e (.BoolOp .Or (b :: rest) pos) Γ Φ) (h0 : k = true → Φ true Γ) : TW X e (.BoolOp .Or (x :: b :: rest) pos) Γ Φ := by
  cases k with
  | false => exact PW.imp (pw_or h (h2 rfl)) fun σ H Q ⟨S, w, q⟩ => ⟨S, w, fun S1 H1 s1 w1 => iteF ⟨S1, w1, fun S2 H2 c Γ2 h3 s2 w2 => q S2 H2 c Γ2 h3 (s1.stp.trans s2) w2⟩⟩
  | true =>
    have nev : PW X (.BoolOp .Or (b :: rest) pos) (fun _ _ _ => False) := ⟨fun _ _ _ _ _ _ _ z => z.elim⟩
    exact PW.imp (pw_or h nev) fun σ H Q ⟨S, w, q⟩ => ⟨S, w, fun S1 H1 s1 w1 => iteT (q S1 H1 true Γ (h0 rfl) s1.stp w1)⟩
end
theorem px_rowI {X : Cx} {e : Ent} {Γ : Gam} {n i j : Nat} {R : Nat → Nat → Bool} {r x y : Expr} {p1 p2 : Pos} (hr : PV X e r Γ (.lst (rowsD n R))) (hx : PV X e x Γ (.int (i : Int))) (hy : PV X e y Γ (.int (j : Int))) (hi : i < n) (hj : j < n) (h1 : PlainIx x := by exact fun _ _ => rfl) (h2 : PlainIx y := by exact fun _ _ => rfl) (he : ∀ whole, isTrue (.Subscript (.Subscript r x p1) y p2) X.env whole = (do let v ← whole; standAt p2; holding [v] (truthy v)) := by intro _; rfl) : PX X e (.Subscript (.Subscript r x p1) y p2) Γ (R i j) :=
  px_val (pv_s ix_list (pv_s ix_list hr hx (sc_ixL (atI_nat (rowsD_at hi))) h1) hy (sc_ixL (atI_nat (rowB_at hj))) h2) he
section
variable {P : Program} {w : World} {K : Fg} {mg : Str → Option Value} {base : Heap}
/-! ### _law_said -/
def cLSd (ns : List Str) (ps : List (Nat × Nat)) : Fp where
  pre ds := ds = [.lst (ns.map .str), .lst (pairsD ps)] ∧ ps.length ≤ 1000 ∧ ∀ p ∈ ps, p.1 < ns.length ∧ p.2 < ns.length
  post ds b := b = .ow (.lst (spairsD (named ns ps)))
  exn _ _ _ := False
abbrev s_lsd : Stmt := top 60
abbrev nLSd : List Str := ["nodes", "edges", "edge"]
theorem scLSd : FnScope nLSd ["nodes", "edges"] (defScope s_lsd) := ⟨rfl, rfl, rfl, by decide +kernel, rfl, by decide +kernel, by decide +kernel⟩
theorem ok_lsd {f : Addr} {fd : FuncData} (F : FunS K "_law_said" s_lsd f fd) (ns : List Str) (ps : List (Nat × Nat)) : FnOk P w K mg base (L2.CX P w) 1 f fd ["nodes", "edges"] (spP K (cLSd ns ps)) := by
  refine fp_ok F scLSd (fun ds ⟨h, _⟩ => by rw [h]; rfl) fun cdv A outer s e Ex ds ho ⟨hd, hl, hp⟩ hr tk => ?_
  subst hd
  have nd := scLSd.nd
  refine bl_retO (pn_eo (pn_is (o' := .lst (spairsD (named ns ps))) (pn_lcA (c := pairD) (u := uP) (l := ps) (f := fun p => [sD (.lst (ns.map .str)), sD (.lst (pairsD ps)), sD (pairD p)]) (own := [("edge", 2)]) (ix := [2]) (bind := bName 2) (fun _ => true) (fun p => spairD (ns.getD p.1 ⟨#[]⟩, ns.getD p.2 ⟨#[]⟩)) uP_pairD (blk nLSd (defScope s_lsd)) nd
    (wp_list (pv_var 1)) (fun s H C cl fp => gv_name 2 nd (hz := .inl ho)) (bindOk_name 2) (by decide) (.inl ho) (by omega) (fun p _ => rfl) (fun p hp s H C' cl fp => pts_none)
    (fun p hpm _ s H C' cl fp => pv_tup (pvs_cons (pv_s ix_list (pv_var 0) (pv_s ix_tup (pv_var (d := .tup [.int (p.1 : Int), .int (p.2 : Int)]) 2) pv_int (sc_ixT rfl)) (sc_ixL (atI_nat (strs_at (hp p hpm).1)))) (pvs_cons (pv_s ix_list (pv_var 0) (pv_s ix_tup (pv_var (d := .tup [.int (p.1 : Int), .int (p.2 : Int)]) 2) pv_int (sc_ixT rfl)) (sc_ixL (atI_nat (strs_at (hp p hpm).2)))) pvs_nil)))) (by rw [filter_true]; unfold spairsD named; rw [List.map_map]; rfl))) ?_
  rintro o Γ1 ⟨rfl, rfl⟩
  rfl
/-! ### _law_edges -/
def cEdg (n : Nat) (R : Nat → Nat → Bool) (u m : Nat) : Fo where
  pre o ds := Pool o ∧ ds = [.lst (rowsD n R), .int (u : Int), .int (m : Int)] ∧ 1 ≤ n ∧ n ≤ 100 ∧ u ≤ 100 ∧ m ≤ 100
  post o ds b o' := Pool o' ∧ ∃ es : List (Nat × Nat), b = .ow (.lst (pairsD es)) ∧ es.length ≤ m ∧ ∀ p ∈ es, p.1 < n + u ∧ p.2 < n + u
  exn _ _ _ _ _ := False
abbrev s_edg : Stmt := top 57
abbrev nEdg : List Str := ["pool", "rows", "unknowns", "many", "kinds", "nodes", "planted", "loose", "edges", "k", "left", "right", "low", "high"]
theorem scEdg : FnScope nEdg ["pool", "rows", "unknowns", "many"] (defScope s_edg) := ⟨rfl, rfl, rfl, by decide +kernel, rfl, by decide +kernel, by decide +kernel⟩
theorem ok_edg {f : Addr} {fd : FuncData} (F : FunS K "_law_edges" s_edg f fd) (b : Bi mg) (Nd : Dy P w K mg base "_law_draw" 1 cDraw) (n : Nat) (R : Nat → Nat → Bool) (u m : Nat) : FnOk P w K mg base (L2.CX P w) 2 f fd ["pool", "rows", "unknowns", "many"] (spO K (cEdg n R u m)) := by
  refine fo_ok F scEdg (fun o ds ⟨_, h, _⟩ => by rw [h]; rfl) fun cdv A outer s e E o ds ⟨hp, hd, n1, n2, hu, hm⟩ hr tk => ?_
  subst hd
  have nd := scEdg.nd
  have lr : (rowsD n R).length = n := rowsD_len
  refine bl_let 4 (d := .int (n : Int)) (pv_is (pv_lenL (pv_var 1) b.len) (by rw [lr])) ?_
  refine bl_let 5 (d := .int ((n + u : Nat) : Int)) (pv_is (pv_b op_add (pv_var 4) (pv_var 2) sc_add) (congrArg D.int (by omega))) ?_
  refine bl_at (Γ' := [sO o, sD (.lst (rowsD n R)), sI u, sI m, sI n, sI ((n + u : Nat)), none, none, none, none, none, none, none, none]) rfl ?_
  refine bl_setLc 6 (own := [("k", 9)]) (ix := [9]) (bind := bName 9) (Φi := Is (rng 0 u) [sO o, sD (.lst (rowsD n R)), sI u, sI m, sI n, sI ((n + u : Nat)), none, none, none, none, none, none, none, none])
    (Φ := fun oo Γ1 => ∃ (o' : O) (l : List Nat), oo = .lst (natsD l) ∧ l.length = u ∧ (∀ x ∈ l, x < n) ∧ Pool o' ∧ Γ1 = [sO o', sD (.lst (rowsD n R)), sI u, sI m, sI n, sI ((n + u : Nat)), none, none, none, none, none, none, none, none])
    (fun Γ1 => ∃ (o' : O) (kk : Option B), Pool o' ∧ Γ1 = [sO o', sD (.lst (rowsD n R)), sI u, sI m, sI n, sI ((n + u : Nat)), none, none, none, kk, none, none, none, none]) (fun Γ1 => ∃ (o' : O) (kk : Option B), Pool o' ∧ Γ1 = [sO o', sD (.lst (rowsD n R)), sI u, sI m, sI n, sI ((n + u : Nat)), none, none, none, kk, none, none, none, none])
    (fun Γ1 c Γ2 => Γ2 = Γ1 ∧ c = true) (fun Γ1 d Γ2 => ∃ (x : Nat) (o' : O) (kk : Option B), d = .int (x : Int) ∧ x < n ∧ Pool o' ∧ Γ2 = [sO o', sD (.lst (rowsD n R)), sI u, sI m, sI n, sI ((n + u : Nat)), none, none, none, kk, none, none, none, none])
    (fun ds i acc Γ1 => ds = rng 0 u ∧ ∃ (o' : O) (l : List Nat), acc = natsD l ∧ l.length = i ∧ (∀ x ∈ l, x < n) ∧ Pool o' ∧ Γ1 = [sO o', sD (.lst (rowsD n R)), sI u, sI m, sI n, sI ((n + u : Nat)), none, none, none, none, none, none, none, none]) (blk nEdg (defScope s_edg)) nd
    (wv (wp_rng (pv_var 2) (by omega) b.range)) (fun s H C cl fp => gv_name 9 nd) (bindOk_name 9) (by decide) (.inr (by decide)) ?_ ?_ ?_ ?_ ?_ ?_
  · rintro ds Γ1 ⟨rfl, rfl⟩
    exact ⟨by rw [rng_len]; omega, rfl, o, [], rfl, rfl, (fun x hx => by cases hx), hp, rfl⟩
  · rintro ds i d acc Γ1 hdi ⟨rfl, o', l, rfl, hi, hx, hp', rfl⟩
    refine ⟨_, rfl, ⟨o', _, hp', rfl⟩, ?_, ?_⟩
    · rintro Γ3 ⟨rfl, _⟩
      refine ⟨⟨o', _, hp', rfl⟩, ?_⟩
      rintro y Γ4 ⟨z, o6, kk, rfl, hz, hp6, rfl⟩
      exact ⟨rfl, o6, l ++ [z], by unfold natsD; rw [List.map_append]; rfl, by rw [List.length_append, hi]; rfl, fun x hx' => by
        rcases List.mem_append.mp hx' with g | g
        · exact hx x g
        · rw [List.mem_singleton.mp g]; exact hz, hp6, rfl⟩
    · rintro Γ3 ⟨_, h⟩
      cases h
  · rintro ds acc Γ1 ⟨rfl, o', l, rfl, hi, hx, hp', rfl⟩
    rw [rng_len] at hi
    exact ⟨o', l, rfl, hi, hx, hp', rfl⟩
  · rintro Γ1 ⟨o5, kk, hp5, rfl⟩ s H C cl fp
    exact ⟨fun pins s σ H Q I ⟨S, w, q⟩ => pts_nil.run pins s σ H Q I (q S H true _ ⟨rfl, rfl⟩ (Stp.refl _ _ _ _) w)⟩
  · rintro Γ1 ⟨o5, kk, hp5, rfl⟩ s H C' cl fp
    refine ev_weak (ev_draw (m := (n : Int)) 0 Nd hr (by omega) rfl hp5 (pv_var 4) (by omega)) ?_
    rintro d2 Γ2 ⟨r, o', rfl, g1, g2, hp', rfl⟩
    obtain ⟨r, rfl⟩ := nat_of g1
    exact ⟨r, o', kk, rfl, by omega, hp', rfl⟩
  rintro oo Γ1 ⟨o2, pl, rfl, hpl, hpn, hp2, rfl⟩
  refine bl_frz 6 rfl (.inr (by decide)) ?_
  refine bl_set 7 (ev_draw (m := 3) 0 Nd hr (by omega) rfl hp2 pv_int (by decide)) ?_
  rintro d Γ1 ⟨lo, o3, rfl, _, _, hp3, rfl⟩
  refine bl_letO 8 (pn_eo (pn_lst pvs_nil)) ?_
  refine bl_for (fun ds i Γ => ds = rng 0 m ∧ ∃ (o' : O) (es : List (Nat × Nat)) (a b c d k : Option B), Pool o' ∧ es.length ≤ i ∧ (∀ p ∈ es, p.1 < n + u ∧ p.2 < n + u) ∧ Γ = [sO o', sD (.lst (rowsD n R)), sI u, sI m, sI n, sI ((n + u : Nat)), sD (.lst (natsD pl)), sI lo, sL (pairsD es), k, a, b, c, d]) (wv (wp_rng (pv_var 3) (by omega) b.range)) (gv_name 9 nd) ?_ ?_ ?_ (passes_of rfl)
  · rintro ds Γ1 ⟨rfl, rfl⟩
    exact ⟨rfl, o3, [], none, none, none, none, none, hp3, Nat.le_refl _, (fun p hp => by cases hp), rfl⟩
  · rintro ds i d Γ1 hdi ⟨rfl, o4, es, a, b', c, d', k, hp4, hel, hes, rfl⟩
    obtain ⟨hi, rfl⟩ := rng_at0 hdi
    refine ⟨_, rfl, bl_set 10 (ev_draw (m := ((n + u : Nat) : Int)) 0 Nd hr (by omega) rfl hp4 (pv_var 5) (by omega)) ?_⟩
    rintro d Γ1 ⟨l, o5, rfl, g1, g2, hp5, rfl⟩
    obtain ⟨l, rfl⟩ := nat_of g1
    refine bl_set 11 (ev_draw (m := ((n + u : Nat) : Int)) 0 Nd hr (by omega) rfl hp5 (pv_var 5) (by omega)) ?_
    rintro d Γ1 ⟨r, o6, rfl, g3, g4, hp6, rfl⟩
    obtain ⟨r, rfl⟩ := nat_of g3
    have hl : l < n + u := by omega
    have hrr : r < n + u := by omega
    have pln : ∀ x, n ≤ x → x < n + u → pl.getD (x - n) 0 < n := fun x h1 h2 => by
      refine hpn _ ?_
      rw [List.getD_eq_getElem?_getD, List.getElem?_eq_getElem (by omega)]
      exact List.getElem_mem _
    refine bl_let 12 (pv_var 10) ?_
    refine bl_ifP (fun Γ => ∃ low : Nat, low < n ∧ Γ = [sO o6, sD (.lst (rowsD n R)), sI u, sI m, sI n, sI ((n + u : Nat)), sD (.lst (natsD pl)), sI lo, sL (pairsD es), sI i, sI l, sI r, sI low, d']) (px_cmp op_ge (pv_var 10) (pv_var 4) sc_ge) (fun h => ?_) (fun h => ?_) ?_
    · have h' : n ≤ l := by have := of_decide_eq_true h; omega
      exact bl_let 12 (d := .int ((pl.getD (l - n) 0 : Nat) : Int)) (pv_s ix_list (pv_var 6) (pv_is (pv_b op_sub (pv_var 10) (pv_var 4) sc_sub) (d := .int ((l - n : Nat) : Int)) (congrArg D.int (by omega))) (sc_ixL (atI_nat (natsD_at (by omega))))) (bl_nil ⟨_, pln l h' hl, rfl⟩)
    · have h' : l < n := by have := of_decide_eq_false h; omega
      exact bl_nil ⟨l, h', rfl⟩
    rintro Γ1 ⟨low, hlow, rfl⟩
    refine bl_let 13 (pv_var 11) ?_
    refine bl_ifP (fun Γ => ∃ high : Nat, high < n ∧ Γ = [sO o6, sD (.lst (rowsD n R)), sI u, sI m, sI n, sI ((n + u : Nat)), sD (.lst (natsD pl)), sI lo, sL (pairsD es), sI i, sI l, sI r, sI low, sI high]) (px_cmp op_ge (pv_var 11) (pv_var 4) sc_ge) (fun h => ?_) (fun h => ?_) ?_
    · have h' : n ≤ r := by have := of_decide_eq_true h; omega
      exact bl_let 13 (d := .int ((pl.getD (r - n) 0 : Nat) : Int)) (pv_s ix_list (pv_var 6) (pv_is (pv_b op_sub (pv_var 11) (pv_var 4) sc_sub) (d := .int ((r - n : Nat) : Int)) (congrArg D.int (by omega))) (sc_ixL (atI_nat (natsD_at (by omega))))) (bl_nil ⟨_, pln r h' hrr, rfl⟩)
    · have h' : r < n := by have := of_decide_eq_false h; omega
      exact bl_nil ⟨r, h', rfl⟩
    rintro Γ1 ⟨high, hhigh, rfl⟩
    have app : ∀ (x y : Nat), x < n + u → y < n + u → (es ++ [(x, y)]).length ≤ i + 1 ∧ ∀ p ∈ es ++ [(x, y)], p.1 < n + u ∧ p.2 < n + u := fun x y hx hy => ⟨by rw [List.length_append]; show es.length + 1 ≤ _; omega, fun p hp => by
      rcases List.mem_append.mp hp with q | q
      · exact hes p q
      · rw [List.mem_singleton.mp q]; exact ⟨hx, hy⟩⟩
    refine bl_if (fun Γ => ∃ (o' : O) (es' : List (Nat × Nat)), Pool o' ∧ es'.length ≤ i + 1 ∧ (∀ p ∈ es', p.1 < n + u ∧ p.2 < n + u) ∧ Γ = [sO o', sD (.lst (rowsD n R)), sI u, sI m, sI n, sI ((n + u : Nat)), sD (.lst (natsD pl)), sI lo, sL (pairsD es'), sI i, sI l, sI r, sI low, sI high])
      (Φ := fun _ Γ => ∃ o', Pool o' ∧ Γ = [sO o', sD (.lst (rowsD n R)), sI u, sI m, sI n, sI ((n + u : Nat)), sD (.lst (natsD pl)), sI lo, sL (pairsD es), sI i, sI l, sI r, sI low, sI high])
      (tv_w (tw_o (px_rowI (pv_var 1) (pv_var 12) (pv_var 13) hlow hhigh) (fun _ => tw_o1 (tv_w (tw_a (px_cmp op_eq (pv_var 7) pv_int sc_eqI) (fun _ => tw_a1 (tv_c1 (g := fun _ _ => .int 1) op_eq (ev_draw (m := 3) 0 Nd hr (by omega) rfl hp6 pv_int (by decide)) (fun _ _ _ => pv_int) ?_)) fun _ => ⟨o6, hp6, rfl⟩))) fun _ => ⟨o6, hp6, rfl⟩)) ?_ ?_ ?_
    · rintro d Γ1 ⟨x, o', rfl, _, _, hp', rfl⟩
      exact ⟨_, sc_eqI, o', hp', rfl⟩
    · rintro Γ1 ⟨o7, hp7, rfl⟩
      obtain ⟨q1, q2⟩ := app l r hl hrr
      refine bl_appP 8 rfl (by unfold pairsD; rw [List.length_map]; omega) (pv_tup (ds := [.int (l : Int), .int (r : Int)]) (pvs_cons (pv_var 10) (pvs_cons (pv_var 11) pvs_nil))) (bl_nil ⟨o7, es ++ [(l, r)], hp7, q1, q2, ?_⟩)
      show [_, _, _, _, _, _, _, _, sL (pairsD es ++ [pairD (l, r)]), _, _, _, _, _] = _
      unfold pairsD
      rw [List.map_append]
      rfl
    · rintro Γ1 ⟨o7, hp7, rfl⟩
      refine bl_ifP (fun Γ => ∃ (o' : O) (es' : List (Nat × Nat)), Pool o' ∧ es'.length ≤ i + 1 ∧ (∀ p ∈ es', p.1 < n + u ∧ p.2 < n + u) ∧ Γ = [sO o', sD (.lst (rowsD n R)), sI u, sI m, sI n, sI ((n + u : Nat)), sD (.lst (natsD pl)), sI lo, sL (pairsD es'), sI i, sI l, sI r, sI low, sI high]) (px_rowI (pv_var 1) (pv_var 13) (pv_var 12) hhigh hlow) (fun _ => ?_) (fun _ => bl_nil ⟨o7, es, hp7, by omega, hes, rfl⟩) fun Γ' h => bl_nil h
      obtain ⟨q1, q2⟩ := app r l hrr hl
      refine bl_appP 8 rfl (by unfold pairsD; rw [List.length_map]; omega) (pv_tup (ds := [.int (r : Int), .int (l : Int)]) (pvs_cons (pv_var 11) (pvs_cons (pv_var 10) pvs_nil))) (bl_nil ⟨o7, es ++ [(r, l)], hp7, q1, q2, ?_⟩)
      show [_, _, _, _, _, _, _, _, sL (pairsD es ++ [pairD (r, l)]), _, _, _, _, _] = _
      unfold pairsD
      rw [List.map_append]
      rfl
    · rintro Γ1 ⟨o7, es', hp7, q1, q2, rfl⟩
      exact bl_nil ⟨rfl, o7, es', _, _, _, _, _, hp7, q1, q2, rfl⟩
  · rintro ds Γ1 ⟨rfl, o4, es, a, b', c, d', k, hp4, hel, hes, rfl⟩
    rw [rng_len] at hel
    exact bl_retV 8 rfl ⟨o4, rfl, hp4, es, rfl, hel, hes⟩
end
end Kf
end
section
set_option maxRecDepth 100000
set_option maxHeartbeats 1000000
/-! KiJ: _law_unknowns, _law_tidy: walked. -/
namespace Kf
open PySem L2
def qU (t : Str) : Str := ("?" : Str) ++ t
theorem cdl_qU (t : Str) : cdl (qU t) = 63 :: cdl t := by
  unfold qU
  rw [cdl_app]
  rfl
theorem qU_name {t : Str} (h : KName t) : UName (qU t) := by
  obtain ⟨h1, h2, _, h4⟩ := h
  exact ⟨cdl t, cdl_qU t, by rw [cdl_len]; exact h1, by rw [cdl_len]; exact h2, h4⟩
theorem qU_num {k : Nat} (h : k < 60) : UName (qU (numS (k : Int))) := by
  obtain ⟨h1, h2, h3⟩ := numS_ok ⟨k, h⟩
  exact ⟨_, cdl_qU _, h2, Nat.le_trans h1 (by decide), fun c hc => .inr (.inl (h3 c hc))⟩
theorem qU_inj {a b : Str} (h : qU a = qU b) : a = b := by
  have := congrArg cdl h
  rw [cdl_qU, cdl_qU] at this
  exact str_ext (List.cons.inj this).2
theorem numS_inj' {j k : Nat} (hj : j < 60) (hk : k < 60) (h : numS (j : Int) = numS (k : Int)) : j = k := by
  have := numS_inj ⟨j, hj⟩ ⟨k, hk⟩ (congrArg cdl h)
  exact Fin.mk.inj this
theorem nats_at'' {l : List Nat} {i : Nat} {d : D} (h : (natsD l)[i]? = some d) : ∃ x, l[i]? = some x ∧ d = .int (x : Int) := by
  unfold natsD at h
  rw [List.getElem?_map] at h
  obtain ⟨x, h1, h2⟩ := Option.map_eq_some_iff.mp h
  exact ⟨x, h1, h2.symm⟩
section
variable {X : Cx} {e : Ent} {Γ : Gam} {a : Expr}
theorem pv_indexN {n : Str} {np q r : Pos} {z : Nat} {ns : List Nat} {j : Nat} (ho : PV X e (.Name n np) Γ (.lst (natsD ns))) (ha : PV X e a Γ (.int (z : Int))) (hz : ns[j]? = some z) (hno : ∀ m, m < j → ns[m]? ≠ some z)
    (hpe : ∀ {to : TE} {t : TA}, PE X (.Name n np) to → PA X [a] t → PE X (.Call (.Attribute (.Name n np) "index" q) [a] [] r) (tBM X.K "list" (rIndex X.K) to t) := by exact fun h1 h2 => pe_bm PySem.F.plainAttrs_list PySem.F.slot_list_index PySem.F.type_list_index mt_index h1 h2)
    (hs : starEach [a] X.env = (false, eval a X.env) :: starEach [] X.env := by rfl) : PV X e (.Call (.Attribute (.Name n np) "index" q) [a] [] r) Γ (.int (j : Int)) :=
  PE.imp (hpe ho (pvs_cons ha pvs_nil hs)) fun σ H Q ⟨S, w, q⟩ => ⟨S, w, fun S1 H1 v s1 w1 r1 => by
    have fl : ∀ l : List Nat, (natsD l).all flat = true := fun l => by unfold natsD; simp [flat]
    cases r1 with
    | lst h1 h2 =>
      refine ⟨.inl ⟨rfl, _, rdq (same_rd w1.nx.sh h1)⟩, S1, w1, fun S2 H2 vs s2 w2 r2 => ?_⟩
      cases r2 with
      | cons r3 r4 =>
        cases r4
        cases r3
        obtain ⟨u, hu, ru⟩ := h2.get (i := j) (d := .int (z : Int)) (by unfold natsD; rw [List.getElem?_map, hz]; rfl)
        refine ⟨_, _, _, j, u, rfl, rfl, rdq (same_rd w2.nx.sh (same_rd s2.ss h1)), rfl, flats_v h2 (fl _), hu, ?_, fun m z' hm hz' => ?_, q S2 H2 _ (s1.trans s2) w2 (.int _)⟩
        · cases ru
          simp [eqV]
        · obtain ⟨d', hd', rd'⟩ := h2.get' hz'
          obtain ⟨y', hy, rfl⟩ := nats_at'' hd'
          cases rd'
          have : y' ≠ z := fun q => hno m hm (by rw [hy, q])
          simp [eqV]
          omega⟩
end
section
variable {P : Program} {w : World} {K : Fg} {mg : Str → Option Value} {base : Heap}
def cUnk (m : Nat) : Fo where
  pre o ds := Pool o ∧ ds = [.int (m : Int)] ∧ m ≤ 26
  post o ds b o' := Pool o' ∧ ∃ us : List Str, b = .ow (.lst (us.map .str)) ∧ us.Nodup ∧ (∀ z ∈ us, UName z) ∧ us.length = m
  exn _ _ _ _ _ := False
abbrev s_unk : Stmt := top 46
abbrev nUnk : List Str := ["pool", "count", "k", "name"]
theorem scUnk : FnScope nUnk ["pool", "count"] (defScope s_unk) := ⟨rfl, rfl, rfl, by decide +kernel, rfl, by decide +kernel, by decide +kernel⟩
theorem ok_unk {f : Addr} {fd : FuncData} (F : FunS K "_law_unknowns" s_unk f fd) (b : Bi mg) (Nd : Dy P w K mg base "_law_draw" 1 cDraw) (Nn : Dy P w K mg base "_law_names" 3 cNames) (m : Nat) : FnOk P w K mg base (L2.CX P w) 4 f fd ["pool", "count"] (spO K (cUnk m)) := by
  refine fo_ok F scUnk (fun o ds ⟨_, h, _⟩ => by rw [h]; rfl) fun cdv A outer s e E o ds ⟨hp, hd, hm⟩ hr tk => ?_
  subst hd
  have nd := scUnk.nd
  refine bl_ifRT (Φ := fun _ Γ => ∃ o', Pool o' ∧ Γ = [sO o', sI m, none, none]) (tv_c1 (g := fun _ _ => .int 1) op_eq (ev_draw (m := 3) 0 Nd hr (by omega) rfl hp pv_int (by decide)) (fun _ _ _ => pv_int) ?_) ?_ ?_
  · rintro d Γ1 ⟨x, o', rfl, _, _, hp', rfl⟩
    exact ⟨_, sc_eqI, o', hp', rfl⟩
  · rintro Γ1 ⟨o1, hp1, rfl⟩
    refine bl_retO (pn_eo (pn_is (o' := .lst (((List.range m).map fun k : Nat => qU (numS (k : Int))).map .str)) (pn_lcA (c := cN) (u := uN) (l := List.range m) (f := fun k => [sO o1, sI m, sI k, none]) (own := [("k", 2)]) (ix := [2]) (bind := bName 2) (fun _ => true) (fun k => .str (qU (numS (k : Int)))) uN_cN (blk nUnk (defScope s_unk)) nd
      (by rw [← rng_nats]; exact wp_rng (pv_var 1) (by omega) b.range) (fun s H C cl fp => gv_name 2 nd) (bindOk_name 2) (by decide) (.inr (by decide)) (by rw [List.length_range]; omega) (fun k _ => rfl) (fun k hk s H C cl fp => pts_none) (fun k hk _ s H C cl fp => ?_)) (by rw [filter_true, List.map_map]; rfl))) ?_
    · have hk' := List.mem_range.mp hk
      obtain ⟨d1, _, _⟩ := numS_ok ⟨k, by omega⟩
      have a1 : (numS (k : Int)).length ≤ 2 := by rw [← cdl_len]; exact d1
      refine pv_b op_add_str pv_str (pv_strI (pv_var 2) ?_ b.str) (sc_addS (Nat.le_trans (show _ + (numS (k : Int)).length ≤ 1 + 2 from Nat.add_le_add (Nat.le_refl 1) a1) (by decide)))
      by_cases z : k = 0
      · subst z; decide
      · have h1 : ((k : Int)).natAbs ≠ 0 := by omega
        have h2 : ((k : Int)).natAbs < 2 ^ 1920 := Nat.lt_of_le_of_lt (show ((k : Int)).natAbs ≤ 26 by omega) (by decide +kernel)
        exact (Nat.log2_lt h1).mpr h2
    · rintro o' Γ1 ⟨rfl, rfl⟩
      refine ⟨o1, rfl, hp1, _, rfl, ?_, fun z hz => ?_, by rw [List.length_map, List.length_range]⟩
      · rw [List.nodup_iff_pairwise_ne]
        refine List.pairwise_map.mpr ?_
        have := List.nodup_iff_pairwise_ne.mp (List.nodup_range (n := m))
        refine List.Pairwise.imp_of_mem (fun {a c} ha hc q z => q ?_) this
        have ha' := List.mem_range.mp ha
        have hc' := List.mem_range.mp hc
        exact numS_inj' (by omega) (by omega) (qU_inj z)
      · obtain ⟨k, hk, rfl⟩ := List.mem_map.mp hz
        have hk' := List.mem_range.mp hk
        exact qU_num (by omega)
  · rintro Γ1 ⟨o1, hp1, rfl⟩
    refine bl_retO (Φ := fun oo Γ1 => ∃ (o' : O) (ns : List Str), Pool o' ∧ ns.Nodup ∧ (∀ z ∈ ns, KName z) ∧ ns.length = m ∧ Γ1 = [sO o', sI m, none, none] ∧ oo = .lst ((ns.filter fun _ => true).map fun z => D.str (qU z))) (eo_lcA (α := Str) (c := D.str) (u := uS) (Ψ := fun l Γ1 => ∃ o', Pool o' ∧ l.Nodup ∧ (∀ z ∈ l, KName z) ∧ l.length = m ∧ Γ1 = [sO o', sI m, none, none]) (f := fun l Γ1 z => Γ1.set 3 (sD (.str z))) (own := [("name", 3)]) (ix := [3]) (bind := bName 3) (fun _ _ _ => true) (fun _ _ z => .str (qU z)) uS_str (blk nUnk (defScope s_unk)) nd
      (wv_listE (ev_names (m := m) 0 Nn hr (by omega) rfl hp1 (pv_var 1) hm) ?_) (fun s H C cl fp => gv_name 3 nd) (bindOk_name 3) (by decide) (.inr (by decide)) ?_ ?_ ?_ ?_ ?_) ?_
    · rintro d Γ1 ⟨ns, o', rfl, h1, h2, h3, h4, rfl⟩
      exact ⟨_, rfl, ns, rfl, o', h4, h1, h2, h3, rfl⟩
    · rintro l Γ1 ⟨_, _, _, _, h, _⟩
      omega
    · rintro l Γ1 ⟨o', _, _, _, _, rfl⟩ z hz
      rfl
    · rintro l Γ1 z ⟨o', _, _, _, _, rfl⟩ hz s H C cl fp
      exact pts_none
    · rintro l Γ1 z ⟨o', _, _, hk, _, rfl⟩ hz _ s H C cl fp
      exact pv_b op_add_str pv_str (pv_var 3) (sc_addS (Nat.le_trans (Nat.add_le_add (Nat.le_refl 1) (hk z hz).2.1) (by decide)))
    · rintro l Γ1 ⟨o', h1, h2, h3, h4, rfl⟩
      exact ⟨o', l, h1, h2, h3, h4, rfl, rfl⟩
    · rintro oo Γ1 ⟨o', ns, h1, h2, h3, h4, rfl, rfl⟩
      refine ⟨o', rfl, h1, ns.map qU, ?_, ?_, fun z hz => ?_, by rw [List.length_map]; exact h4⟩
      · rw [filter_true, List.map_map]
        rfl
      · rw [List.nodup_iff_pairwise_ne] at h2 ⊢
        exact List.pairwise_map.mpr (h2.imp fun q z => q (qU_inj z))
      · obtain ⟨y, hy, rfl⟩ := List.mem_map.mp hz
        exact qU_name (h3 y hy)
end
end Kf
end
section
set_option maxRecDepth 100000
set_option maxHeartbeats 1000000
/-! KiK: _law_tidy: walked. -/
namespace Kf
open PySem L2
def addN (acc : List Nat) (x : Nat) : List Nat := if x ∈ acc then acc else acc ++ [x]
def plF (n : Nat) (es : List (Nat × Nat)) : List Nat := es.foldl (fun acc p => addN (addN acc p.1) p.2) (List.range n)
def ddN (l : List (Nat × Nat)) : List (Nat × Nat) := l.foldl (fun acc p => if p ∈ acc then acc else acc ++ [p]) []
def mvF (n : Nat) (es : List (Nat × Nat)) : List (Nat × Nat) := es.map fun p => ((plF n es).idxOf p.1, (plF n es).idxOf p.2)
theorem addN_mem {acc : List Nat} {x y : Nat} : y ∈ addN acc x ↔ y ∈ acc ∨ y = x := by
  unfold addN
  split
  · rename_i h
    exact ⟨.inl, fun q => q.elim id fun z => by rw [z]; exact h⟩
  · rw [List.mem_append, List.mem_singleton]
theorem addN_len (acc : List Nat) (x : Nat) : (addN acc x).length ≤ acc.length + 1 := by
  unfold addN
  split
  · omega
  · rw [List.length_append]; exact Nat.le_refl _
theorem plF_snoc (n : Nat) (l : List (Nat × Nat)) (p : Nat × Nat) : plF n (l ++ [p]) = addN (addN (plF n l) p.1) p.2 := by
  unfold plF
  rw [List.foldl_append]
  rfl
theorem plF_mem {n : Nat} {y : Nat} (es : List (Nat × Nat)) : y ∈ plF n es ↔ y < n ∨ ∃ p ∈ es, y = p.1 ∨ y = p.2 := by
  have key : ∀ (es : List (Nat × Nat)) (acc : List Nat), y ∈ es.foldl (fun acc p => addN (addN acc p.1) p.2) acc ↔ y ∈ acc ∨ ∃ p ∈ es, y = p.1 ∨ y = p.2 := fun es => by
    induction es with
    | nil => intro acc; simp
    | cons a l ih =>
      intro acc
      rw [List.foldl_cons, ih, addN_mem, addN_mem]
      constructor
      · rintro (((h | h) | h) | ⟨p, h1, h2⟩)
        · exact .inl h
        · exact .inr ⟨a, List.mem_cons_self, .inl h⟩
        · exact .inr ⟨a, List.mem_cons_self, .inr h⟩
        · exact .inr ⟨p, List.mem_cons_of_mem _ h1, h2⟩
      · rintro (h | ⟨p, h1, h2⟩)
        · exact .inl (.inl (.inl h))
        · rcases List.mem_cons.mp h1 with rfl | h1
          · rcases h2 with h2 | h2
            · exact .inl (.inl (.inr h2))
            · exact .inl (.inr h2)
          · exact .inr ⟨p, h1, h2⟩
  unfold plF
  rw [key, List.mem_range]
theorem plF_len (n : Nat) (es : List (Nat × Nat)) : (plF n es).length ≤ n + 2 * es.length := by
  have key : ∀ (es : List (Nat × Nat)) (acc : List Nat), (es.foldl (fun acc p => addN (addN acc p.1) p.2) acc).length ≤ acc.length + 2 * es.length := fun es => by
    induction es with
    | nil => exact fun acc => Nat.le_refl _
    | cons a l ih =>
      intro acc
      refine Nat.le_trans (ih _) ?_
      have h1 := addN_len acc a.1
      have h2 := addN_len (addN acc a.1) a.2
      show (addN (addN acc a.1) a.2).length + 2 * l.length ≤ acc.length + 2 * (l.length + 1)
      omega
  have := key es (List.range n)
  rw [List.length_range] at this
  exact this
theorem ddN_snoc (l : List (Nat × Nat)) (p : Nat × Nat) : ddN (l ++ [p]) = if p ∈ ddN l then ddN l else ddN l ++ [p] := by
  unfold ddN
  rw [List.foldl_append]
  rfl
theorem ddN_len (l : List (Nat × Nat)) : (ddN l).length ≤ l.length := by
  have key : ∀ (l acc : List (Nat × Nat)), (l.foldl (fun acc p => if p ∈ acc then acc else acc ++ [p]) acc).length ≤ acc.length + l.length := fun l => by
    induction l with
    | nil => exact fun acc => Nat.le_refl _
    | cons a l ih =>
      intro acc
      refine Nat.le_trans (ih _) ?_
      show (if a ∈ acc then acc else acc ++ [a]).length + l.length ≤ acc.length + (l.length + 1)
      split
      · omega
      · rw [List.length_append]
        show _ + 1 + _ ≤ _
        omega
  have := key l []
  rw [List.length_nil, Nat.zero_add] at this
  exact this
theorem idxN_first {ns : List Nat} {z : Nat} (h : z ∈ ns) : ns[ns.idxOf z]? = some z ∧ ∀ m, m < ns.idxOf z → ns[m]? ≠ some z := by
  induction ns with
  | nil => cases h
  | cons a l ih =>
    rw [List.idxOf_cons]
    by_cases q : a = z
    · subst q
      rw [show (a == a) = true from by simp]
      exact ⟨rfl, fun m hm => absurd hm (Nat.not_lt_zero _)⟩
    · rw [show (a == z) = false from by simpa using q]
      obtain ⟨h1, h2⟩ := ih ((List.mem_cons.mp h).resolve_left fun z => q z.symm)
      refine ⟨h1, fun m hm => ?_⟩
      cases m with
      | zero => exact fun y => q (Option.some.inj y)
      | succ m => exact h2 m (by simp only [cond_false] at hm; omega)
theorem px_ninNL {X : Cx} {e : Ent} {Γ : Gam} {a b : Expr} {pos : Pos} {z : Nat} {ns : List Nat} (ha : PV X e a Γ (.int (z : Int))) (hb : PV X e b Γ (.lst (natsD ns))) (hm : behindInMarks .NotIn b = false := by first | exact nomark _ | rfl) : PX X e (.Compare a [.NotIn] [b] pos) Γ (!decide (z ∈ ns)) := by
  have e1 : natsD ns = (ns.map fun n : Nat => (n : Int)).map D.int := by
    unfold natsD
    rw [List.map_map]
    rfl
  have e2 : decide ((z : Int) ∈ ns.map fun n : Nat => (n : Int)) = decide (z ∈ ns) := by
    refine decide_eq_decide.mpr ⟨fun h => ?_, fun h => List.mem_map.mpr ⟨z, h, rfl⟩⟩
    obtain ⟨y, h1, h2⟩ := List.mem_map.mp h
    have : y = z := by omega
    rwa [this] at h1
  rw [e1] at hb
  rw [← e2]
  exact px_cmp op_notIn_seq ha hb (sc_in (.inl rfl) rfl (flat_ints _) (by rw [inQ_ints]; rfl)) hm
section
variable {P : Program} {w : World} {K : Fg} {mg : Str → Option Value} {base : Heap}
def cTidy (n : Nat) (es : List (Nat × Nat)) : Fp where
  pre ds := ds = [.lst (pairsD es), .int (n : Int)] ∧ n ≤ 100 ∧ es.length ≤ 100
  post ds b := b = .ow (.lst [.lst (pairsD (ddN (mvF n es))), .lst (natsD (plF n es))])
  exn _ _ _ := False
abbrev s_tidy : Stmt := top 59
abbrev nTidy : List Str := ["edges", "kinds", "places", "edge", "place", "found", "moved", "k"]
theorem scTidy : FnScope nTidy ["edges", "kinds"] (defScope s_tidy) := ⟨rfl, rfl, rfl, by decide +kernel, rfl, by decide +kernel, by decide +kernel⟩
theorem ok_tidy {f : Addr} {fd : FuncData} (F : FunS K "_law_tidy" s_tidy f fd) (b : Bi mg) (n : Nat) (es : List (Nat × Nat)) : FnOk P w K mg base (L2.CX P w) 1 f fd ["edges", "kinds"] (spP K (cTidy n es)) := by
  refine fp_ok F scTidy (fun ds ⟨h, _⟩ => by rw [h]; rfl) fun cdv A outer s e Ex ds ho ⟨hd, hn, hl⟩ hr tk => ?_
  subst hd
  have nd := scTidy.nd
  have at_ : ∀ {i : Nat} {d : D}, (pairsD es)[i]? = some d → ∃ p, es[i]? = some p ∧ d = pairD p := fun {i d} h => by
    unfold pairsD at h
    rw [List.getElem?_map] at h
    obtain ⟨p, h1, h2⟩ := Option.map_eq_some_iff.mp h
    exact ⟨p, h1, h2.symm⟩
  have lp : (pairsD es).length = es.length := List.length_map _
  refine bl_letLcA 2 (hz2 := .inl ho) (c := cN) (u := uN) (l := List.range n) (f := fun k => [sD (.lst (pairsD es)), sI n, none, none, none, none, none, sI k]) (own := [("k", 7)]) (ix := [7]) (bind := bName 7) (fun _ => true) cN uN_cN (blk nTidy (defScope s_tidy)) nd
    (by rw [← rng_nats]; exact wp_rng (pv_var 1) (by omega) b.range) (fun s H C cl fp => gv_name 7 nd (hz := .inl ho)) (bindOk_name 7) (by decide) (.inl ho) (by rw [List.length_range]; omega) (fun k _ => rfl) (fun k hk s H C cl fp => pts_none) (fun k _ _ s H C cl fp => pv_var 7) ?_
  refine bl_at (Γ' := [sD (.lst (pairsD es)), sI n, sL (natsD (plF n (es.take 0))), none, none, none, none, none]) (by rw [filter_true]; rfl) ?_
  refine bl_for (fun ds i Γ => ds = pairsD es ∧ ∃ a c, Γ = [sD (.lst (pairsD es)), sI n, sL (natsD (plF n (es.take i))), a, c, none, none, none]) (wv (wp_list (pv_var 0))) (gv_name 3 nd (hz := .inl ho)) ?_ ?_ ?_ (passes_of rfl)
  · rintro ds Γ1 ⟨rfl, rfl⟩
    exact ⟨rfl, none, none, rfl⟩
  · rintro ds i d Γ1 hdi ⟨rfl, a, c, rfl⟩
    obtain ⟨p, hp, rfl⟩ := at_ hdi
    have tk1 : es.take (i + 1) = es.take i ++ [p] := by rw [List.take_succ, hp]; rfl
    have l1 : (plF n (es.take i)).length ≤ 300 := Nat.le_trans (plF_len _ _) (by rw [List.length_take]; omega)
    refine ⟨_, rfl, bl_for (fun ds j Γ => ds = natsD [p.1, p.2] ∧ ∃ c, Γ = [sD (.lst (pairsD es)), sI n, sL (natsD (([p.1, p.2].take j).foldl addN (plF n (es.take i)))), sD (pairD p), c, none, none, none]) (wv (wp_tup (pv_var (d := .tup (natsD [p.1, p.2])) 3))) (gv_name 4 nd (hz := .inl ho)) ?_ ?_ ?_ (passes_of rfl)⟩
    · rintro ds Γ1 ⟨rfl, rfl⟩
      exact ⟨rfl, c, rfl⟩
    · rintro ds j d Γ1 hdj ⟨rfl, c, rfl⟩
      obtain ⟨x, hx, rfl⟩ := nats_at'' hdj
      have fl : ([p.1, p.2].take (j + 1)).foldl addN (plF n (es.take i)) = addN (([p.1, p.2].take j).foldl addN (plF n (es.take i))) x := by
        rw [List.take_succ, hx, List.foldl_append]
        rfl
      have hul : (([p.1, p.2].take j).foldl addN (plF n (es.take i))).length ≤ 302 := by
        have key : ∀ (l acc : List Nat), (l.foldl addN acc).length ≤ acc.length + l.length := fun l => by
          induction l with
          | nil => exact fun acc => Nat.le_refl _
          | cons a l ih =>
            intro acc
            have h1 := ih (addN acc a)
            have h2 := addN_len acc a
            rw [List.foldl_cons, List.length_cons]
            omega
        have h1 := key ([p.1, p.2].take j) (plF n (es.take i))
        have h2 : ([p.1, p.2].take j).length ≤ 2 := by rw [List.length_take]; exact Nat.min_le_right _ _
        omega
      generalize ([p.1, p.2].take j).foldl addN (plF n (es.take i)) = us at *
      refine ⟨_, rfl, bl_ifP (q := !decide (x ∈ us)) (fun Γ => ∃ c, Γ = [sD (.lst (pairsD es)), sI n, sL (natsD (addN us x)), sD (pairD p), c, none, none, none]) (px_snap fun _ => px_ninNL (pv_var 4) (pv_var 2)) (fun h => ?_) (fun h => ?_) fun Γ' ⟨c, h⟩ => bl_nil ⟨rfl, c, by rw [fl]; exact h⟩⟩
      · have hno : x ∉ us := by simpa using h
        refine bl_appP 2 rfl (by rw [natsD_len]; omega) (pv_var 4) (bl_nil ⟨sI x, ?_⟩)
        unfold addN
        rw [if_neg hno, natsD_app]
        rfl
      · have hin : x ∈ us := by simpa using h
        refine bl_nil ⟨sI x, ?_⟩
        unfold addN
        rw [if_pos hin]
        rfl
    · rintro ds Γ1 ⟨rfl, c, rfl⟩
      refine bl_nil ⟨rfl, sD (pairD p), c, ?_⟩
      rw [tk1, plF_snoc]
      rfl
  · rintro ds Γ1 ⟨rfl, a, c, rfl⟩
    rw [lp, List.take_length]
    refine bl_frz 2 rfl (.inl ho) (bl_letO 5 (hz := .inl ho) (pn_eo (pn_lst pvs_nil)) ?_)
    refine bl_at (Γ' := [sD (.lst (pairsD es)), sI n, sD (.lst (natsD (plF n es))), a, c, sL (pairsD (ddN ((mvF n es).take 0))), none, none]) rfl ?_
    refine bl_for (fun ds i Γ => ds = pairsD es ∧ ∃ a m, Γ = [sD (.lst (pairsD es)), sI n, sD (.lst (natsD (plF n es))), a, c, sL (pairsD (ddN ((mvF n es).take i))), m, none]) (wv (wp_list (pv_var 0))) (gv_name 3 nd (hz := .inl ho)) ?_ ?_ ?_ (passes_of rfl)
    · rintro ds Γ1 ⟨rfl, rfl⟩
      exact ⟨rfl, a, none, rfl⟩
    · rintro ds i d Γ1 hdi ⟨rfl, a, m, rfl⟩
      obtain ⟨p, hp, rfl⟩ := at_ hdi
      have hpm := List.mem_of_getElem? hp
      have m1 : p.1 ∈ plF n es := (plF_mem es).mpr (.inr ⟨p, hpm, .inl rfl⟩)
      have m2 : p.2 ∈ plF n es := (plF_mem es).mpr (.inr ⟨p, hpm, .inr rfl⟩)
      obtain ⟨i1, i2⟩ := idxN_first m1
      obtain ⟨j1, j2⟩ := idxN_first m2
      have tk1 : (mvF n es).take (i + 1) = (mvF n es).take i ++ [((plF n es).idxOf p.1, (plF n es).idxOf p.2)] := by
        rw [List.take_succ]
        congr 1
        unfold mvF
        rw [List.getElem?_map, hp]
        rfl
      have l1 : (ddN ((mvF n es).take i)).length ≤ 100 := Nat.le_trans (ddN_len _) (by unfold mvF; rw [List.length_take, List.length_map]; omega)
      refine ⟨_, rfl, bl_let 6 (hz := .inl ho) (d := pairD ((plF n es).idxOf p.1, (plF n es).idxOf p.2)) (pv_tup (pvs_cons (pv_indexN (pv_var 2) (pv_s ix_tup (pv_var (d := .tup [.int (p.1 : Int), .int (p.2 : Int)]) 3) pv_int (sc_ixT rfl)) i1 i2) (pvs_cons (pv_indexN (pv_var 2) (pv_s ix_tup (pv_var (d := .tup [.int (p.1 : Int), .int (p.2 : Int)]) 3) pv_int (sc_ixT rfl)) j1 j2) pvs_nil))) ?_⟩
      generalize ((plF n es).idxOf p.1, (plF n es).idxOf p.2) = mv at *
      refine bl_ifP (q := !decide (mv ∈ ddN ((mvF n es).take i))) (fun Γ => ∃ a m, Γ = [sD (.lst (pairsD es)), sI n, sD (.lst (natsD (plF n es))), a, c, sL (pairsD (ddN ((mvF n es).take (i + 1)))), m, none]) (px_snap fun _ => px_ninPN hr (pv_var 6) (pv_var 5)) (fun h => ?_) (fun h => ?_) fun Γ' ⟨a, m, h⟩ => bl_nil ⟨rfl, a, m, h⟩
      · have hno : mv ∉ ddN ((mvF n es).take i) := by simpa using h
        refine bl_appP 5 rfl (by rw [pairsD_len]; omega) (pv_var 6) (bl_nil ⟨sD (pairD p), sD (pairD mv), ?_⟩)
        rw [tk1, ddN_snoc, if_neg hno]
        show [_, _, _, _, _, sL (pairsD _ ++ [pairD mv]), _, _] = _
        rw [pairsD_app]
        rfl
      · have hin : mv ∈ ddN ((mvF n es).take i) := by simpa using h
        refine bl_nil ⟨sD (pairD p), sD (pairD mv), ?_⟩
        rw [tk1, ddN_snoc, if_pos hin]
        rfl
    · rintro ds Γ1 ⟨rfl, a, m, rfl⟩
      have lm : (mvF n es).length = es.length := List.length_map _
      rw [lp, ← lm, List.take_length]
      refine bl_frz 5 rfl (.inl ho) (bl_retO (pn_eo (pn_lst (pvs_cons (pv_var 5) (pvs_cons (pv_var 2) pvs_nil)))) ?_)
      rintro o Γ1 ⟨rfl, rfl⟩
      rfl
end
end Kf
end
section
set_option maxRecDepth 100000
set_option maxHeartbeats 1000000
/-! KiL: _law_stable: walked. -/
namespace Kf
open PySem L2
def lstsD (Ls : List (List Nat)) : List D := Ls.map fun l => .lst (natsD l)
theorem lstsD_at {Ls : List (List Nat)} {i : Nat} (h : i < Ls.length) : (lstsD Ls)[i]? = some (.lst (natsD (Ls.getD i []))) := by
  unfold lstsD
  rw [List.getElem?_map, List.getElem?_eq_getElem h, List.getD_eq_getElem?_getD, List.getElem?_eq_getElem h]
  rfl
def StableP (R : Nat → Nat → Bool) (Ls : List (List Nat)) (es : List (Nat × Nat)) : Prop :=
  ∀ p ∈ es, (∀ a ∈ Ls.getD p.1 [], ∃ b ∈ Ls.getD p.2 [], R a b = true) ∧ (∀ b ∈ Ls.getD p.2 [], ∃ a ∈ Ls.getD p.1 [], R a b = true)
section
variable {P : Program} {w : World} {K : Fg} {mg : Str → Option Value} {base : Heap}
def cStab (n : Nat) (R : Nat → Nat → Bool) (Ls : List (List Nat)) (es : List (Nat × Nat)) : Fp where
  pre ds := ds = [.lst (lstsD Ls), .lst (rowsD n R), .lst (pairsD es)] ∧ (∀ l ∈ Ls, l.length ≤ 1000 ∧ ∀ x ∈ l, x < n) ∧ (∀ p ∈ es, p.1 < Ls.length ∧ p.2 < Ls.length) ∧ StableP R Ls es
  post ds b := b = .st (.bl true)
  exn _ _ _ := False
abbrev s_stab : Stmt := top 64
abbrev nStab : List Str := ["lists", "rows", "edges", "edge", "low", "high"]
theorem scStab : FnScope nStab ["lists", "rows", "edges"] (defScope s_stab) := ⟨rfl, rfl, rfl, by decide +kernel, rfl, by decide +kernel, by decide +kernel⟩
theorem ok_stab {f : Addr} {fd : FuncData} (F : FunS K "_law_stable" s_stab f fd) (b : Bi mg) (n : Nat) (R : Nat → Nat → Bool) (Ls : List (List Nat)) (es : List (Nat × Nat)) : FnOk P w K mg base (L2.CX P w) 1 f fd ["lists", "rows", "edges"] (spP K (cStab n R Ls es)) := by
  refine fp_ok F scStab (fun ds ⟨h, _⟩ => by rw [h]; rfl) fun cdv A outer s e Ex ds ho ⟨hd, hL, hin, hst⟩ hr tk => ?_
  subst hd
  have nd := scStab.nd
  have hmem : ∀ i, i < Ls.length → (Ls.getD i []).length ≤ 1000 ∧ ∀ x ∈ Ls.getD i [], x < n := fun i hi => by
    refine hL _ ?_
    rw [List.getD_eq_getElem?_getD, List.getElem?_eq_getElem hi]
    exact List.getElem_mem _
  refine bl_for (fun ds i Γ => ds = pairsD es ∧ ∃ a c d, Γ = [sD (.lst (lstsD Ls)), sD (.lst (rowsD n R)), sD (.lst (pairsD es)), a, c, d]) (wv (wp_list (pv_var 2))) (gv_name 3 nd (hz := .inl ho)) ?_ ?_ ?_ (passes_of rfl)
  · rintro ds Γ1 ⟨rfl, rfl⟩
    exact ⟨rfl, none, none, none, rfl⟩
  · rintro ds i dd Γ1 hdi ⟨rfl, a, c, d, rfl⟩
    obtain ⟨p, hp, rfl⟩ : ∃ p, p ∈ es ∧ dd = pairD p := by
      obtain ⟨p, h1, h2⟩ := List.mem_map.mp (List.mem_of_getElem? hdi)
      exact ⟨p, h1, h2.symm⟩
    obtain ⟨p1, p2⟩ := hin p hp
    obtain ⟨s1, s2⟩ := hst p hp
    obtain ⟨l1, x1⟩ := hmem _ p1
    obtain ⟨l2, x2⟩ := hmem _ p2
    refine ⟨_, rfl, ?_⟩
    refine bl_for (fun ds j Γ => ds = natsD (Ls.getD p.1 []) ∧ ∃ c, Γ = [sD (.lst (lstsD Ls)), sD (.lst (rowsD n R)), sD (.lst (pairsD es)), sD (pairD p), c, d]) (wv (wp_list (pv_s ix_list (pv_var 0) (pv_s ix_tup (pv_var (d := .tup [.int (p.1 : Int), .int (p.2 : Int)]) 3) pv_int (sc_ixT rfl)) (sc_ixL (atI_nat (lstsD_at p1)))))) (gv_name 4 nd (hz := .inl ho)) ?_ ?_ ?_ (passes_of rfl)
    · rintro ds Γ1 ⟨rfl, rfl⟩
      exact ⟨rfl, c, rfl⟩
    · rintro ds j dd Γ1 hdj ⟨rfl, c, rfl⟩
      obtain ⟨x, hx, rfl⟩ := nats_at'' hdj
      have hxm := List.mem_of_getElem? hx
      have hne : ((Ls.getD p.2 []).filter (R x)).length ≠ 0 := by
        obtain ⟨y, h1, h2⟩ := s1 x hxm
        have : y ∈ (Ls.getD p.2 []).filter (R x) := List.mem_filter.mpr ⟨h1, h2⟩
        have := List.length_pos_of_mem this
        omega
      refine ⟨_, rfl, bl_ifR (q := false) (px_is (px_cmp op_eq (pv_lenL (pn_pv (pn_is (o' := .lst (natsD ((Ls.getD p.2 []).filter (R x)))) (pn_lcA (c := cN) (u := uN) (l := Ls.getD p.2 []) (f := fun y => [sD (.lst (lstsD Ls)), sD (.lst (rowsD n R)), sD (.lst (pairsD es)), sD (pairD p), sI x, sI y]) (own := [("high", 5)]) (ix := [5]) (bind := bName 5) (R x) cN uN_cN (blk nStab (defScope s_stab)) nd
        (wp_list (pv_s ix_list (pv_var 0) (pv_s ix_tup (pv_var (d := .tup [.int (p.1 : Int), .int (p.2 : Int)]) 3) pv_int (sc_ixT rfl)) (sc_ixL (atI_nat (lstsD_at p2))))) (fun s H C cl fp => gv_name 5 nd (hz := .inl ho)) (bindOk_name 5) (by decide) (.inl ho) (by omega) (fun y _ => rfl) (fun y hy s H C cl fp => pts_if (px_rowI (pv_var 1) (pv_var 4) (pv_var 5) (x1 x hxm) (x2 y hy))) (fun y _ _ s H C cl fp => pv_var 5)) rfl)) b.len) pv_int sc_eqI) (decide_eq_false (by rw [natsD_len]; omega))) (fun h => by cases h) fun _ => bl_nil ⟨rfl, _, rfl⟩⟩
    rintro ds Γ1 ⟨rfl, c, rfl⟩
    refine bl_for (fun ds j Γ => ds = natsD (Ls.getD p.2 []) ∧ ∃ d, Γ = [sD (.lst (lstsD Ls)), sD (.lst (rowsD n R)), sD (.lst (pairsD es)), sD (pairD p), c, d]) (wv (wp_list (pv_s ix_list (pv_var 0) (pv_s ix_tup (pv_var (d := .tup [.int (p.1 : Int), .int (p.2 : Int)]) 3) pv_int (sc_ixT rfl)) (sc_ixL (atI_nat (lstsD_at p2)))))) (gv_name 5 nd (hz := .inl ho)) ?_ ?_ ?_ (passes_of rfl)
    · rintro ds Γ1 ⟨rfl, rfl⟩
      exact ⟨rfl, d, rfl⟩
    · rintro ds j dd Γ1 hdj ⟨rfl, d, rfl⟩
      obtain ⟨y, hy, rfl⟩ := nats_at'' hdj
      have hym := List.mem_of_getElem? hy
      have hne : ((Ls.getD p.1 []).filter fun x => R x y).length ≠ 0 := by
        obtain ⟨x, h1, h2⟩ := s2 y hym
        have : x ∈ (Ls.getD p.1 []).filter fun x => R x y := List.mem_filter.mpr ⟨h1, h2⟩
        have := List.length_pos_of_mem this
        omega
      refine ⟨_, rfl, bl_ifR (q := false) (px_is (px_cmp op_eq (pv_lenL (pn_pv (pn_is (o' := .lst (natsD ((Ls.getD p.1 []).filter fun x => R x y))) (pn_lcA (c := cN) (u := uN) (l := Ls.getD p.1 []) (f := fun x => [sD (.lst (lstsD Ls)), sD (.lst (rowsD n R)), sD (.lst (pairsD es)), sD (pairD p), sI x, sI y]) (own := [("low", 4)]) (ix := [4]) (bind := bName 4) (fun x => R x y) cN uN_cN (blk nStab (defScope s_stab)) nd
        (wp_list (pv_s ix_list (pv_var 0) (pv_s ix_tup (pv_var (d := .tup [.int (p.1 : Int), .int (p.2 : Int)]) 3) pv_int (sc_ixT rfl)) (sc_ixL (atI_nat (lstsD_at p1))))) (fun s H C cl fp => gv_name 4 nd (hz := .inl ho)) (bindOk_name 4) (by decide) (.inl ho) (by omega) (fun x _ => rfl) (fun x hx s H C cl fp => pts_if (px_rowI (pv_var 1) (pv_var 4) (pv_var 5) (x1 x hx) (x2 y hym))) (fun x _ _ s H C cl fp => pv_var 4)) rfl)) b.len) pv_int sc_eqI) (decide_eq_false (by rw [natsD_len]; omega))) (fun h => by cases h) fun _ => bl_nil ⟨rfl, _, rfl⟩⟩
    rintro ds Γ1 ⟨rfl, d, rfl⟩
    exact bl_nil ⟨rfl, _, _, _, rfl⟩
  · rintro ds Γ1 ⟨rfl, a, c, d, rfl⟩
    exact bl_retP pv_bl rfl
end
end Kf
end
section
set_option maxRecDepth 100000
set_option maxHeartbeats 1000000
/-! KiM: _law_star: walked. -/
namespace Kf
open PySem L2
theorem cutP_to (l : List (Nat × Nat)) (n : Nat) : cutD (pairsD l) none (some (n : Int)) = pairsD (l.take n) := by
  unfold cutD pairsD
  rw [show HT.sIx (l.map pairD).length 0 none = 0 from rfl, show HT.sIx (l.map pairD).length (l.map pairD).length (some (n : Int)) = min n (l.map pairD).length from HT.sIx_nat _ _ _, List.drop_zero, Nat.sub_zero, ← List.map_take, List.length_map, ← List.take_eq_take_min]
theorem cutP_from (l : List (Nat × Nat)) (n : Nat) : cutD (pairsD l) (some (n : Int)) none = pairsD (l.drop n) := by
  unfold cutD pairsD
  rw [show HT.sIx (l.map pairD).length (l.map pairD).length none = (l.map pairD).length from rfl, show HT.sIx (l.map pairD).length 0 (some (n : Int)) = min n (l.map pairD).length from HT.sIx_nat _ _ _, ← List.map_drop, ← List.map_take, List.length_map]
  congr 1
  by_cases h : n ≤ l.length
  · rw [Nat.min_eq_left h, List.take_of_length_le (by rw [List.length_drop]; exact Nat.le_refl _)]
  · rw [Nat.min_eq_right (by omega), List.drop_of_length_le (Nat.le_refl _), List.drop_of_length_le (by omega), List.take_nil]
def EsOk (m : Nat) (es : List (Nat × Nat)) : Prop := ∀ p ∈ es, p.1 < m ∧ p.2 < m
theorem EsOk.app {m : Nat} {a c : List (Nat × Nat)} (h1 : EsOk m a) (h2 : EsOk m c) : EsOk m (a ++ c) := fun p hp => (List.mem_append.mp hp).elim (h1 p) (h2 p)
theorem EsOk.one {m x y : Nat} (h1 : x < m) (h2 : y < m) : EsOk m [(x, y)] := fun p hp => by
  rw [List.mem_singleton.mp hp]
  exact ⟨h1, h2⟩
theorem pairsD_at {l : List (Nat × Nat)} {i : Nat} (h : i < l.length) : (pairsD l)[i]? = some (pairD (l.getD i (0, 0))) := by
  unfold pairsD
  rw [List.getElem?_map, List.getElem?_eq_getElem h, List.getD_eq_getElem?_getD, List.getElem?_eq_getElem h]
  rfl
theorem getP_mem {l : List (Nat × Nat)} {i : Nat} (h : i < l.length) : l.getD i (0, 0) ∈ l := by
  rw [List.getD_eq_getElem?_getD, List.getElem?_eq_getElem h]
  exact List.getElem_mem _
section
variable {P : Program} {w : World} {K : Fg} {mg : Str → Option Value} {base : Heap}
def cStar (h : Nat) : Fo where
  pre o ds := Pool o ∧ ds = [.int (h : Int)] ∧ 1 ≤ h ∧ h ≤ 5
  post o ds b o' := Pool o' ∧ ∃ (ps es : List (Nat × Nat)), b = .ow (.lst [.int ((2 * h : Nat) : Int), .lst (pairsD ps), .lst (pairsD es)]) ∧ PsOk (2 * h) ps ∧ ps.length ≤ 200 ∧ EsOk (2 * h + 2) es ∧ es.length ≤ 12
  exn _ _ _ _ _ := False
abbrev s_star : Stmt := top 61
abbrev nStar : List Str := ["pool", "half", "places", "hub", "edges", "k", "gone", "over", "edge", "pair"]
theorem scStar : FnScope nStar ["pool", "half"] (defScope s_star) := ⟨rfl, rfl, rfl, by decide +kernel, rfl, by decide +kernel, by decide +kernel⟩
theorem ok_star {f : Addr} {fd : FuncData} (F : FunS K "_law_star" s_star f fd) (b : Bi mg) (Nd : Dy P w K mg base "_law_draw" 1 cDraw) (Np : Dy P w K mg base "_law_mixed_places" 2 cPlaces) (Nc : Dx P w K mg base "_law_crown" 1 cCrown) (h : Nat) : FnOk P w K mg base (L2.CX P w) 3 f fd ["pool", "half"] (spO K (cStar h)) := by
  refine fo_ok F scStar (fun o ds ⟨_, h, _⟩ => by rw [h]; rfl) fun cdv A outer s e E o ds ⟨hp, hd, h1, h5⟩ hr tk => ?_
  subst hd
  have nd := scStar.nd
  have two : (2 * (h : Int)) = ((2 * h : Nat) : Int) := by omega
  refine bl_set 2 (ev_places (m := 2 * h) 0 Np hr (by omega) rfl hp (pv_is (pv_b op_mul pv_int (pv_var 1) (sc_mulL (by decide))) (congrArg D.int two)) (by omega)) ?_
  rintro d Γ1 ⟨pl, o1, rfl, pnd, plt, pll, hp1, rfl⟩
  refine bl_let 3 (d := .int ((2 * h : Nat) : Int)) (pv_is (pv_b op_mul pv_int (pv_var 1) (sc_mulL (by decide))) (congrArg D.int two)) ?_
  have pget : ∀ k, k < 2 * h → pl.getD k 0 < 2 * h := fun k hk => by
    refine plt _ ?_
    rw [List.getD_eq_getElem?_getD, List.getElem?_eq_getElem (by omega)]
    exact List.getElem_mem _
  refine bl_letO 4 (pn_eo (pn_lst pvs_nil)) ?_
  refine bl_at (Γ' := [sO o1, sI h, sD (.lst (natsD pl)), sI ((2 * h : Nat)), sL [], none, none, none, none, none]) rfl ?_
  refine bl_for (fun ds i Γ => ds = rng 0 h ∧ ∃ (es : List (Nat × Nat)) (k : Option B), es.length ≤ 2 * i ∧ EsOk (2 * h + 2) es ∧ Γ = [sO o1, sI h, sD (.lst (natsD pl)), sI ((2 * h : Nat)), sL (pairsD es), k, none, none, none, none]) (wv (wp_rng (pv_var 1) (by omega) b.range)) (gv_name 5 nd) ?_ ?_ ?_ (passes_of rfl)
  · rintro ds Γ1 ⟨rfl, rfl⟩
    exact ⟨rfl, [], none, Nat.zero_le _, (fun p hp => by cases hp), rfl⟩
  · rintro ds i d Γ1 hdi ⟨rfl, es, k, hel, hes, rfl⟩
    obtain ⟨hi, rfl⟩ := rng_at0 hdi
    have g1 := pget i (by omega)
    have g2 := pget (h + i) (by omega)
    have e1 : EsOk (2 * h + 2) (es ++ [(pl.getD i 0, 2 * h)]) := hes.app (.one (by omega) (by omega))
    refine ⟨_, rfl, bl_appP 4 rfl (by rw [pairsD_len]; omega) (pv_tup (ds := [.int ((pl.getD i 0 : Nat) : Int), .int ((2 * h : Nat) : Int)]) (pvs_cons (pv_s ix_list (pv_var 2) (pv_var 5) (sc_ixL (atI_nat (natsD_at (by omega))))) (pvs_cons (pv_var 3) pvs_nil))) ?_⟩
    refine bl_at (Γ' := [sO o1, sI h, sD (.lst (natsD pl)), sI ((2 * h : Nat)), sL (pairsD (es ++ [(pl.getD i 0, 2 * h)])), sI i, none, none, none, none]) (by rw [pairsD_app]; rfl) ?_
    refine bl_ifP (fun Γ => ∃ es' : List (Nat × Nat), es'.length ≤ 2 * (i + 1) ∧ EsOk (2 * h + 2) es' ∧ Γ = [sO o1, sI h, sD (.lst (natsD pl)), sI ((2 * h : Nat)), sL (pairsD es'), sI i, none, none, none, none]) (px_cmp op_eq (pv_var 1) pv_int sc_eqI) (fun _ => ?_) (fun _ => bl_nil ⟨_, by rw [List.length_append]; show es.length + 1 ≤ _; omega, e1, rfl⟩) fun Γ' ⟨es', q1, q2, q3⟩ => bl_nil ⟨rfl, es', _, q1, q2, q3⟩
    refine bl_appP 4 rfl (by rw [pairsD_len, List.length_append]; show es.length + 1 < _; omega) (pv_tup (ds := [.int ((2 * h : Nat) : Int), .int ((pl.getD (h + i) 0 : Nat) : Int)]) (pvs_cons (pv_var 3) (pvs_cons (pv_s ix_list (pv_var 2) (pv_is (pv_b op_add (pv_var 1) (pv_var 5) sc_add) (d := .int ((h + i : Nat) : Int)) (congrArg D.int (by omega))) (sc_ixL (atI_nat (natsD_at (by omega))))) pvs_nil))) (bl_nil ⟨es ++ [(pl.getD i 0, 2 * h)] ++ [(2 * h, pl.getD (h + i) 0)], by rw [List.length_append, List.length_append]; show es.length + 1 + 1 ≤ _; omega, e1.app (.one (by omega) (by omega)), ?_⟩)
    rw [pairsD_app (b := [(2 * h, pl.getD (h + i) 0)])]
    rfl
  · rintro ds Γ1 ⟨rfl, es, k, hel, hes, rfl⟩
    rw [rng_len] at hel
    refine bl_frz 4 rfl (.inr (by decide)) ?_
    refine bl_set 6 (ev_draw (m := ((2 * es.length : Nat) : Int)) 0 Nd hr (by omega) rfl hp1 (pv_is (pv_b op_mul pv_int (pv_lenL (pv_var (d := .lst (pairsD es)) 4) b.len) (sc_mulL (by decide))) (congrArg D.int (by rw [pairsD_len]; omega))) (by omega)) ?_
    rintro d Γ1 ⟨gn, o2, rfl, _, _, hp2, rfl⟩
    refine bl_letO 4 (o := .lst (pairsD (((List.range es.length).filter fun k : Nat => !decide ((k : Int) = gn)).map fun k => es.getD k (0, 0)))) (pn_eo (pn_is (o' := .lst (pairsD (((List.range es.length).filter fun k : Nat => !decide ((k : Int) = gn)).map fun k => es.getD k (0, 0)))) (pn_lcA (c := cN) (u := uN) (l := List.range es.length) (f := fun k => [sO o2, sI h, sD (.lst (natsD pl)), sI ((2 * h : Nat)), sD (.lst (pairsD es)), sI k, sI gn, none, none, none]) (own := [("k", 5)]) (ix := [5]) (bind := bName 5) (fun k => !decide ((k : Int) = gn)) (fun k => pairD (es.getD k (0, 0))) uN_cN (blk nStar (defScope s_star)) nd
      (by rw [← rng_nats]; exact wp_rng (pv_is (pv_lenL (pv_var (d := .lst (pairsD es)) 4) b.len) (by rw [pairsD_len])) (by omega) b.range) (fun s H C cl fp => gv_name 5 nd) (bindOk_name 5) (by decide) (.inr (by decide)) (by rw [List.length_range]; omega) (fun k _ => rfl) (fun k hk s H C cl fp => pts_if (px_cmp op_ne (pv_var 5) (pv_var 6) sc_neI)) (fun k hk _ s H C cl fp => pv_s ix_list (pv_var 4) (pv_var 5) (sc_ixL (atI_nat (pairsD_at (List.mem_range.mp hk)))))) (by unfold pairsD; rw [List.map_map]; rfl))) ?_
    have l2 : (((List.range es.length).filter fun k : Nat => !decide ((k : Int) = gn)).map fun k => es.getD k (0, 0)).length ≤ 10 := by
      rw [List.length_map]
      refine Nat.le_trans (List.length_filter_le _ _) ?_
      rw [List.length_range]
      omega
    have e2 : EsOk (2 * h + 2) (((List.range es.length).filter fun k : Nat => !decide ((k : Int) = gn)).map fun k => es.getD k (0, 0)) := fun p hp => by
      obtain ⟨k, hk, rfl⟩ := List.mem_map.mp hp
      exact hes _ (getP_mem (List.mem_range.mp (List.mem_filter.mp hk).1))
    generalize (((List.range es.length).filter fun k : Nat => !decide ((k : Int) = gn)).map fun k => es.getD k (0, 0)) = es2 at *
    refine bl_frz 4 rfl (.inr (by decide)) ?_
    refine bl_at (Γ' := [sO o2, sI h, sD (.lst (natsD pl)), sI ((2 * h : Nat)), sD (.lst (pairsD es2)), k, sI gn, none, none, none]) rfl ?_
    refine bl_set 7 (ev_draw (m := ((2 * es2.length : Nat) : Int)) 0 Nd hr (by omega) rfl hp2 (pv_is (pv_b op_mul pv_int (pv_lenL (pv_var (d := .lst (pairsD es2)) 4) b.len) (sc_mulL (by decide))) (congrArg D.int (by rw [pairsD_len]; omega))) (by omega)) ?_
    rintro d Γ1 ⟨ov, o3, rfl, v0, _, hp3, rfl⟩
    obtain ⟨ov, rfl⟩ := nat_of v0
    refine bl_ifP (q := decide (ov < es2.length)) (fun Γ => ∃ (es3 : List (Nat × Nat)) (a : Option B), es3.length ≤ 12 ∧ EsOk (2 * h + 2) es3 ∧ Γ = [sO o3, sI h, sD (.lst (natsD pl)), sI ((2 * h : Nat)), sD (.lst (pairsD es3)), k, sI gn, sI ov, a, none]) (px_is (px_cmp op_lt (pv_var 7) (pv_lenL (pv_var (d := .lst (pairsD es2)) 4) b.len) sc_lt) (decide_eq_decide.mpr (by rw [pairsD_len]; omega))) (fun hq => ?_) (fun _ => bl_nil ⟨es2, _, by omega, e2, rfl⟩) ?_
    · have hov : ov < es2.length := of_decide_eq_true hq
      obtain ⟨q1, q2⟩ := e2 _ (getP_mem hov)
      refine bl_let 8 (d := pairD (es2.getD ov (0, 0))) (pv_s ix_list (pv_var 4) (pv_var 7) (sc_ixL (atI_nat (pairsD_at hov)))) ?_
      generalize es2.getD ov (0, 0) = ed at *
      have hub1 : ((2 * h : Nat) : Int) + 1 = ((2 * h + 1 : Nat) : Int) := by omega
      refine bl_letO 4 (o := .lst (pairsD (es2.take ov ++ [(ed.1, 2 * h + 1), (2 * h + 1, ed.2)] ++ es2.drop (ov + 1)))) (pn_eo (pn_is (o' := .lst (pairsD (es2.take ov ++ [(ed.1, 2 * h + 1), (2 * h + 1, ed.2)] ++ es2.drop (ov + 1)))) (pn_cat (l := pairsD (es2.take ov ++ [(ed.1, 2 * h + 1), (2 * h + 1, ed.2)])) (m := pairsD (es2.drop (ov + 1))) (pn_pv (pn_is (o' := .lst (pairsD (es2.take ov ++ [(ed.1, 2 * h + 1), (2 * h + 1, ed.2)]))) (pn_cat (l := pairsD (es2.take ov)) (m := pairsD [(ed.1, 2 * h + 1), (2 * h + 1, ed.2)]) (pn_pv (pn_is (pn_cut (lo' := none) (hi' := some (ov : Int)) (pv_var 4) pp_none (pp_some (pv_var 7))) (o' := .lst (pairsD (es2.take ov))) (by rw [cutP_to]))) (pv_lst (ds := [pairD (ed.1, 2 * h + 1), pairD (2 * h + 1, ed.2)]) (pvs_cons (pv_tup (ds := [.int (ed.1 : Int), .int ((2 * h + 1 : Nat) : Int)]) (pvs_cons (pv_s ix_tup (pv_var (d := .tup [.int (ed.1 : Int), .int (ed.2 : Int)]) 8) pv_int (sc_ixT rfl)) (pvs_cons (pv_is (pv_b op_add (pv_var 3) pv_int sc_add) (congrArg D.int hub1)) pvs_nil))) (pvs_cons (pv_tup (ds := [.int ((2 * h + 1 : Nat) : Int), .int (ed.2 : Int)]) (pvs_cons (pv_is (pv_b op_add (pv_var 3) pv_int sc_add) (congrArg D.int hub1)) (pvs_cons (pv_s ix_tup (pv_var (d := .tup [.int (ed.1 : Int), .int (ed.2 : Int)]) 8) pv_int (sc_ixT rfl)) pvs_nil))) pvs_nil)) (by show 2 ≤ sizeLine; exact Nat.le_trans (show 2 ≤ 1000 by decide) (by decide))) (by rw [pairsD_len, pairsD_len, List.length_take]; exact Nat.le_trans (show _ + 2 ≤ 1000 by omega) (by decide))) (by rw [← pairsD_app]))) (pn_pv (pn_is (pn_cut (lo' := some ((ov + 1 : Nat) : Int)) (hi' := none) (pv_var 4) (pp_some (pv_is (pv_b op_add (pv_var 7) pv_int sc_add) rfl)) pp_none) (o' := .lst (pairsD (es2.drop (ov + 1)))) (by rw [cutP_from]))) ?_) (by rw [← pairsD_app]))) ?_
      · rw [pairsD_len, pairsD_len, List.length_append, List.length_take, List.length_drop]
        exact Nat.le_trans (show _ + 2 + _ ≤ 1000 by omega) (by decide)
      refine bl_frz 4 rfl (.inr (by decide)) (bl_nil ⟨_, _, ?_, ?_, rfl⟩)
      · rw [List.length_append, List.length_append, List.length_take, List.length_drop]
        show _ + 2 + _ ≤ 12
        omega
      · refine EsOk.app (EsOk.app (fun p hp => e2 p (List.mem_of_mem_take hp)) fun p hp => ?_) fun p hp => e2 p (List.mem_of_mem_drop hp)
        rcases List.mem_cons.mp hp with rfl | hp
        · exact ⟨q1, by show 2 * h + 1 < _; omega⟩
        · rw [List.mem_singleton.mp hp]
          exact ⟨by show 2 * h + 1 < _; omega, q2⟩
    rintro Γ1 ⟨es3, a, l3, e3, rfl⟩
    refine bl_retO (Φ := fun oo Γ1 => ∃ ps, PsUp (2 * h) ps ∧ ps.length = 2 * h ∧ oo = .lst [.int ((2 * h : Nat) : Int), .lst (pairsD (mixed pl ps)), .lst (pairsD es3)] ∧ Γ1 = [sO o3, sI h, sD (.lst (natsD pl)), sI ((2 * h : Nat)), sD (.lst (pairsD es3)), k, sI gn, sI ov, a, none]) ?_ ?_
    · refine eo_lstE (Φa := fun ds Γ1 => ∃ ps, PsUp (2 * h) ps ∧ ps.length = 2 * h ∧ ds = [.int ((2 * h : Nat) : Int), .lst (pairsD (mixed pl ps)), .lst (pairsD es3)] ∧ Γ1 = [sO o3, sI h, sD (.lst (natsD pl)), sI ((2 * h : Nat)), sD (.lst (pairsD es3)), k, sI gn, sI ov, a, none]) (av_cons (Φa := Is (.int ((2 * h : Nat) : Int)) [sO o3, sI h, sD (.lst (natsD pl)), sI ((2 * h : Nat)), sD (.lst (pairsD es3)), k, sI gn, sI ov, a, none]) (Φb := fun _ _ ds Γ2 => ∃ ps, PsUp (2 * h) ps ∧ ps.length = 2 * h ∧ ds = [.lst (pairsD (mixed pl ps)), .lst (pairsD es3)] ∧ Γ2 = [sO o3, sI h, sD (.lst (natsD pl)), sI ((2 * h : Nat)), sD (.lst (pairsD es3)), k, sI gn, sI ov, a, none]) (pv_ev (pv_var 3)) (fun d1 Γ1 ⟨_, hg⟩ => by
        subst hg
        refine av_cons (Φa := fun d Γ1 => ∃ ps, PsUp (2 * h) ps ∧ ps.length = 2 * h ∧ d = .lst (pairsD (mixed pl ps)) ∧ Γ1 = [sO o3, sI h, sD (.lst (natsD pl)), sI ((2 * h : Nat)), sD (.lst (pairsD es3)), k, sI gn, sI ov, a, none]) (Φb := fun _ Γ1 => Is [.lst (pairsD es3)] Γ1) ?_ ?_ ?_
        · refine eo_ev (Φ := fun oo Γ1 => ∃ ps, PsUp (2 * h) ps ∧ ps.length = 2 * h ∧ oo = .lst (pairsD (mixed pl ps)) ∧ Γ1 = [sO o3, sI h, sD (.lst (natsD pl)), sI ((2 * h : Nat)), sD (.lst (pairsD es3)), k, sI gn, sI ov, a, none]) (eo_lcA (α := Nat × Nat) (c := pairD) (u := uP) (Ψ := fun l Γ1 => PsUp (2 * h) l ∧ l.length = 2 * h ∧ Γ1 = [sO o3, sI h, sD (.lst (natsD pl)), sI ((2 * h : Nat)), sD (.lst (pairsD es3)), k, sI gn, sI ov, a, none]) (f := fun l Γ1 p => Γ1.set 9 (sD (pairD p))) (own := [("pair", 9)]) (ix := [9]) (bind := bName 9) (fun _ _ _ => true) (fun _ _ p => pairD (pl.getD p.1 0, pl.getD p.2 0)) uP_pairD (blk nStar (defScope s_star)) nd
            (wv_listE (ev_call (U := fun _ _ _ => False) (Φ := fun d Γ1 => ∃ ps, d = .lst (pairsD ps) ∧ PsUp (2 * h) ps ∧ ps.length = 2 * h ∧ Γ1 = [sO o3, sI h, sD (.lst (natsD pl)), sI ((2 * h : Nat)), sD (.lst (pairsD es3)), k, sI gn, sI ov, a, none]) Nc hr (by omega) takes_none (pvs_av (pvs_cons (pv_var 1) pvs_nil)) ?_) ?_) (fun s H C cl fp => gv_name 9 nd) (bindOk_name 9) (by decide) (.inr (by decide)) ?_ ?_ ?_ ?_ ?_) ?_
          · rintro ds Γ1 ⟨rfl, rfl⟩
            refine ⟨⟨h, rfl, h1, by omega⟩, ?_, fun _ _ z => z.elim⟩
            rintro bb ⟨h', ps, f1, rfl, f2, f3⟩
            injection f1 with f1 _
            injection f1 with f1
            have hh : h' = h := by omega
            rw [hh] at f2 f3
            exact ⟨_, .inr ⟨_, rfl, rfl⟩, ps, rfl, f2, f3, rfl⟩
          · rintro d Γ1 ⟨ps, rfl, e2, e3, rfl⟩
            exact ⟨_, rfl, ps, rfl, e2, e3, rfl⟩
          · rintro l Γ1 ⟨_, e3, _⟩
            omega
          · rintro l Γ1 ⟨_, _, rfl⟩ p hp
            rfl
          · rintro l Γ1 p ⟨_, _, rfl⟩ hp s H C cl fp
            exact pts_none
          · rintro l Γ1 p ⟨e2, _, rfl⟩ hp _ s H C cl fp
            have b1 := e2 p hp
            exact pv_tup (pvs_cons (pv_s ix_list (pv_var 2) (pv_s ix_tup (pv_var (d := .tup [.int (p.1 : Int), .int (p.2 : Int)]) 9) pv_int (sc_ixT rfl)) (sc_ixL (atI_nat (natsD_at (by omega))))) (pvs_cons (pv_s ix_list (pv_var 2) (pv_s ix_tup (pv_var (d := .tup [.int (p.1 : Int), .int (p.2 : Int)]) 9) pv_int (sc_ixT rfl)) (sc_ixL (atI_nat (natsD_at (by omega))))) pvs_nil))
          · rintro l Γ1 ⟨e2, e3, rfl⟩
            refine ⟨l, e2, e3, ?_, rfl⟩
            rw [filter_true]
            unfold pairsD mixed
            rw [List.map_map]
            rfl
          · rintro oo Γ1 ⟨ps, e2, e3, rfl, rfl⟩
            exact ⟨ps, e2, e3, rfl, rfl⟩
        · rintro d Γ1 ⟨ps, e2, e3, rfl, rfl⟩
          exact pvs_av (pvs_cons (pv_var 4) pvs_nil)
        · rintro d Γ1 ds Γ2 ⟨ps, e2, e3, rfl, rfl⟩ ⟨rfl, rfl⟩
          exact ⟨ps, e2, e3, rfl, rfl⟩) (fun d1 Γ1 ds Γ2 ⟨hd1, _⟩ ⟨ps, e2, e3, hds, hg⟩ => by subst hd1 hds hg; exact ⟨ps, e2, e3, rfl, rfl⟩)) ?_
      rintro ds Γ1 ⟨ps, e2, e3, rfl, rfl⟩
      exact ⟨(show 3 ≤ 1000 by decide), ps, e2, e3, rfl, rfl⟩
    · rintro oo Γ1 ⟨ps, q1, q2, rfl, rfl⟩
      exact ⟨o3, rfl, hp3, mixed pl ps, es3, rfl, mixed_ok (psOk_up q1) pll pnd plt, by unfold mixed; rw [List.length_map]; omega, e3, l3⟩
end
end Kf
end
section
set_option maxRecDepth 100000
set_option maxHeartbeats 1000000
/-! KiN: a contract with its parameter drawn; rules for _law_case. -/
namespace Kf
open PySem L2
def Fo.any {ι : Type} (c : ι → Fo) : Fo where
  pre o ds := ∃ i, (c i).pre o ds
  post o ds b o' := ∃ i, (c i).pre o ds ∧ (c i).post o ds b o'
  exn o ds y fl o' := ∃ i, (c i).pre o ds ∧ (c i).exn o ds y fl o'
theorem dy_any {ι : Type} {P : Program} {w : World} {K : Fg} {mg : Str → Option Value} {base : Heap} {x : Str} {k : Nat} {c : ι → Fo} (i0 : ι) (N : ∀ i, Dy P w K mg base x k (c i)) : Dy P w K mg base x k (Fo.any c) :=
  ⟨(N i0).at_, (N i0).kp, fun A outer s H us vs Q E hr e0 r ⟨S, p, vs', o, ds, ev, sh, sp, ow, rr, ⟨i, hp⟩, hq, hE⟩ => (N i).fn A outer s H us vs Q E hr e0 r ⟨S, p, vs', o, ds, ev, sh, sp, ow, rr, hp, fun S' H' v b o' hb n w k => hq S' H' v b o' ⟨i, hp, hb⟩ n w k, fun S' H' y fl cls d o' hx n w k => hE S' H' y fl cls d o' ⟨i, hp, hx⟩ n w k⟩⟩
section
variable {X : Cx} {e : Ent} {Γ : Gam} {x b : Expr} {rest : List Expr} {pos : Pos} {Φ Φ1 : Bool → Gam → Prop}
/-- x and .., x not pure -/
theorem tw_aT (h : TV X e x Γ Φ1) (h2 : ∀ Γ1, Φ1 true Γ1 → TW X e (.BoolOp .And (b :: rest) pos) Γ1 Φ) (h0 : ∀ Γ1, Φ1 false Γ1 → Φ false Γ1) : TW X e (.BoolOp .And (x :: b :: rest) pos) Γ Φ := by
  have hb : PW X (.BoolOp .And (b :: rest) pos) (fun σ H Q => ∃ Γ1, Φ1 true Γ1 ∧ tX X.K e Γ1 Φ σ H Q) := ⟨fun wh pins s σ H Q I ⟨Γ1, h1, q⟩ => (h2 Γ1 h1).run wh pins s σ H Q I q⟩
  refine PW.imp (pw_and h hb) fun σ H Q ⟨S, w, q⟩ => ⟨S, w, fun S1 H1 c Γ1 h1 s1 w1 => ?_⟩
  cases c with
  | true => exact iteT ⟨Γ1, h1, S1, w1, fun S2 H2 c Γ2 h3 s2 w2 => q S2 H2 c Γ2 h3 (s1.trans s2) w2⟩
  | false => exact iteF (q S1 H1 false Γ1 (h0 Γ1 h1) s1 w1)
end
section
variable {X : Cx} {e : Ent} {Γ : Gam} {a b : Expr} {pos : Pos}
/-- a + b, lists, b not pure -/
theorem eo_catI {l : List D} {Φb : D → Gam → Prop} {Φ : O → Gam → Prop} (ha : PV X e a Γ (.lst l)) (hb : EV X e b Γ Φb) (h : ∀ d Γ1, Φb d Γ1 → ∃ m, d = .lst m ∧ l.length + m.length ≤ sizeLine ∧ Φ (.lst (l ++ m)) Γ1) : EO X e (.BinOp a .Add b pos) Γ Φ :=
  PE.imp (pe_op op_catQ ha hb) fun σ H Q ⟨S, w, q⟩ => ⟨S, w, fun S1 H1 v1 s1 w1 r1 => ⟨S1, w1, fun S2 H2 v2 d2 Γ1 hd s2 w2 r2 => by
    obtain ⟨m, rfl, hl, hΦ⟩ := h d2 Γ1 hd
    cases r1 with
    | lst h1 t1 =>
      cases r2 with
      | lst h2 t2 =>
        refine ⟨_, _, _, _, rfl, rfl, same_rd w2.nx.sh (same_rd s2.ss h1), same_rd w2.nx.sh h2, by rw [t1.length, t2.length]; exact hl, fun c hp => ?_⟩
        exact tO_new q (s1.stp.trans s2) w2 hΦ hp ⟨_, upd_same, (t1.mono s2.ss).append t2⟩⟩⟩
end
end Kf
end
section
set_option maxRecDepth 100000
set_option maxHeartbeats 1000000
/-! KiO: _law_case: walked. -/
namespace Kf
open PySem L2
theorem px_tv' {X : Cx} {e : Ent} {Γ : Gam} {x : Expr} {k : Bool} {Φ : Bool → Gam → Prop} (h : PX X e x Γ k) (q : Φ k Γ) : TV X e x Γ Φ := PT.imp (px_tv h) fun σ H Q ⟨S, w, r⟩ => ⟨S, w, fun S1 H1 c Γ1 ⟨e1, e2⟩ s1 w1 => by
  subst e1 e2
  exact r S1 H1 _ _ q s1 w1⟩
theorem av_consP {X : Cx} {e : Ent} {Γ : Gam} {a : Expr} {xs : List Expr} {d1 : D} {Ψb Ψ : List D → Gam → Prop} (ha : PV X e a Γ d1) (hb : AV X e xs Γ Ψb) (k : ∀ ds Γ2, Ψb ds Γ2 → Ψ (d1 :: ds) Γ2) (hs : starEach (a :: xs) X.env = (false, eval a X.env) :: starEach xs X.env := by rfl) : AV X e (a :: xs) Γ Ψ :=
  av_cons (Φa := Is d1 Γ) (Φb := fun _ _ => Ψb) (pv_ev ha) (fun d Γ1 ⟨_, h⟩ => by subst h; exact hb) (fun d Γ1 ds Γ2 ⟨h1, _⟩ h => by subst h1; exact k ds Γ2 h) hs
section
variable {P : Program} {w : World} {K : Fg} {mg : Str → Option Value} {base : Heap}
def caseD (n : Nat) (ps es : List (Nat × Nat)) : List D := [.int (n : Int), .lst (pairsD ps), .lst (rowsD n (warsh n ps)), .lst (pairsD es)]
def CaseP (n : Nat) (ps es : List (Nat × Nat)) : Prop := 1 ≤ n ∧ n ≤ 6 ∧ PsOk n ps ∧ ps.length ≤ 200 ∧ EsOk (n + 4) es ∧ es.length ≤ 20
def cCase : Fo where
  pre o ds := Pool o ∧ ds = [.int 6, .int 4, .int 12]
  post o ds b o' := Pool o' ∧ ∃ n ps es, b = .ow (.lst (caseD n ps es)) ∧ CaseP n ps es
  exn _ _ _ _ _ := False
abbrev s_case : Stmt := top 62
abbrev nCase : List Str := ["pool", "kinds", "unknowns", "many", "found", "rows", "edges", "shape", "k"]
theorem scCase : FnScope nCase ["pool", "kinds", "unknowns", "many"] (defScope s_case) := ⟨rfl, rfl, rfl, by decide +kernel, rfl, by decide +kernel, by decide +kernel⟩
theorem ok_case {f : Addr} {fd : FuncData} (F : FunS K "_law_case" s_case f fd) (b : Bi mg) (Nd : Dy P w K mg base "_law_draw" 1 cDraw) (Np : Dy P w K mg base "_law_mixed_places" 2 cPlaces) (Na : Dx P w K mg base "_law_above" 1 cAbove) (No : Dy P w K mg base "_law_order_pairs" 4 cShape) (Ns : ∀ h, Dy P w K mg base "_law_star" 3 (cStar h)) (Ne : ∀ n R u m, Dy P w K mg base "_law_edges" 2 (cEdg n R u m)) : FnOk P w K mg base (L2.CX P w) 5 f fd ["pool", "kinds", "unknowns", "many"] (spO K cCase) := by
  refine fo_ok F scCase (fun o ds ⟨_, h⟩ => by rw [h]; rfl) fun cdv A outer s e E o ds ⟨hp, hd⟩ hr tk => ?_
  subst hd
  have nd := scCase.nd
  refine bl_ifRT (Φ := fun _ Γ => ∃ o', Pool o' ∧ Γ = [sO o', sI 6, sI 4, sI 12, none, none, none, none, none]) (tv_w (tw_aT (Φ1 := fun _ Γ => ∃ o', Pool o' ∧ Γ = [sO o', sI 6, sI 4, sI 12, none, none, none, none, none]) (tv_c1 (g := fun _ _ => .int 1) op_eq (ev_draw (m := 3) 0 Nd hr (by omega) rfl hp pv_int (by decide)) (fun _ _ _ => pv_int) ?_) (fun Γ1 ⟨o1, hp1, hg⟩ => by subst hg; exact tw_a (px_cmp op_ge (pv_var 1) pv_int sc_ge) (fun _ => tw_a1 (px_tv' (px_cmp op_ge (pv_var 2) pv_int sc_ge) ⟨o1, hp1, rfl⟩)) fun _ => ⟨o1, hp1, rfl⟩) fun Γ1 h => h)) ?_ ?_
  · rintro d Γ1 ⟨x, o', rfl, _, _, hp', rfl⟩
    exact ⟨_, sc_eqI, o', hp', rfl⟩
  · rintro Γ1 ⟨o1, hp1, rfl⟩
    refine bl_set 4 (Φ := fun d Γ => ∃ (h : Nat) (ps es : List (Nat × Nat)) (o' : O), d = .lst [.int ((2 * h : Nat) : Int), .lst (pairsD ps), .lst (pairsD es)] ∧ 2 ≤ h ∧ h ≤ 3 ∧ PsOk (2 * h) ps ∧ ps.length ≤ 200 ∧ EsOk (2 * h + 2) es ∧ es.length ≤ 12 ∧ Pool o' ∧ Γ = [sO o', sI 6, sI 4, sI 12, none, none, none, none, none]) (ev_callO (U := fun _ _ _ => False) 0 (dy_any (c := cStar) 0 Ns) hr (by omega) takes_none rfl
      (av_one (Φa := fun d Γ => ∃ (r : Nat) (o' : O), d = .int ((2 + r : Nat) : Int) ∧ r ≤ 1 ∧ Pool o' ∧ Γ = [sO o', sI 6, sI 4, sI 12, none, none, none, none, none]) (Ψ := fun ds Γ => ∃ (r : Nat) (o' : O), ds = [.int ((2 + r : Nat) : Int)] ∧ r ≤ 1 ∧ Pool o' ∧ Γ = [sO o', sI 6, sI 4, sI 12, none, none, none, none, none]) (ev_b1 op_add pv_int (ev_draw (m := 2) 0 Nd hr (by omega) rfl hp1 (pv_is (pv_b op_sub (pv_b op_fdivN (pv_var 1) pv_int (sc_divN (by decide) (by decide))) pv_int sc_sub) rfl) (by decide)) ?_) ?_) ?_) ?_
    · rintro d Γ1 ⟨r, o', rfl, g1, g2, hp', rfl⟩
      obtain ⟨r, rfl⟩ := nat_of g1
      exact ⟨.int ((2 + r : Nat) : Int), (by have e1 : ((2 + r : Nat) : Int) = 2 + (r : Int) := by omega
                                             rw [e1]; exact sc_add), r, o', rfl, by omega, hp', rfl⟩
    · rintro d Γ1 ⟨r, o', rfl, g1, hp', rfl⟩
      exact ⟨r, o', rfl, g1, hp', rfl⟩
    · rintro ds Γ1 ⟨r, o', rfl, g1, hp', rfl⟩
      refine ⟨o', rfl, ⟨2 + r, hp', rfl, by omega, by omega⟩, ?_, fun _ _ _ ⟨_, _, z⟩ => z.elim⟩
      rintro bb o2 ⟨h, ⟨_, e1, _⟩, hp2, ps, es, rfl, q1, q2, q3, q4⟩
      injection e1 with e1 _
      injection e1 with e1
      have e1' : ((2 + r : Nat) : Int) = (h : Int) := e1
      exact ⟨_, .inr ⟨_, rfl, rfl⟩, h, ps, es, o2, rfl, by omega, by omega, q1, q2, q3, q4, hp2, rfl⟩
    rintro d Γ1 ⟨h, ps, es, o2, rfl, h2, h3, q1, q2, q3, q4, hp2, rfl⟩
    refine bl_letO 5 (pn_eo (pn_aboveL (n := 2 * h) (ps := ps) Na hr (by omega) (pv_s ix_list (pv_var (d := .lst [.int ((2 * h : Nat) : Int), .lst (pairsD ps), .lst (pairsD es)]) 4) pv_int (sc_ixL rfl)) (pv_s ix_list (pv_var (d := .lst [.int ((2 * h : Nat) : Int), .lst (pairsD ps), .lst (pairsD es)]) 4) pv_int (sc_ixL rfl)) (by omega) q1.1)) (bl_frz 5 rfl (.inr (by decide)) ?_)
    refine bl_at (Γ' := [sO o2, sI 6, sI 4, sI 12, sD (.lst [.int ((2 * h : Nat) : Int), .lst (pairsD ps), .lst (pairsD es)]), sD (.lst (rowsD (2 * h) (warsh (2 * h) ps))), none, none, none]) rfl ?_
    refine bl_setO 6 (Φ := fun oo Γ => ∃ (es2 : List (Nat × Nat)) (o' : O), oo = .lst (pairsD es2) ∧ EsOk (2 * h + 4) es2 ∧ es2.length ≤ 16 ∧ Pool o' ∧ Γ = [sO o', sI 6, sI 4, sI 12, sD (.lst [.int ((2 * h : Nat) : Int), .lst (pairsD ps), .lst (pairsD es)]), sD (.lst (rowsD (2 * h) (warsh (2 * h) ps))), none, none, none]) (eo_catI (l := pairsD es) (Φb := fun d Γ => ∃ (es2 : List (Nat × Nat)) (o' : O), d = .lst (pairsD es2) ∧ EsOk (2 * h + 4) es2 ∧ es2.length ≤ 3 ∧ Pool o' ∧ Γ = [sO o', sI 6, sI 4, sI 12, sD (.lst [.int ((2 * h : Nat) : Int), .lst (pairsD ps), .lst (pairsD es)]), sD (.lst (rowsD (2 * h) (warsh (2 * h) ps))), none, none, none]) (pv_s ix_list (pv_var (d := .lst [.int ((2 * h : Nat) : Int), .lst (pairsD ps), .lst (pairsD es)]) 4) pv_int (sc_ixL rfl)) (ev_callO (U := fun _ _ _ => False) 0 (dy_any (c := fun m : Nat => cEdg (2 * h) (warsh (2 * h) ps) 4 m) 0 fun m => Ne _ _ 4 m) hr (by omega) takes_none rfl
      (av_cons (Φa := Is (.lst (rowsD (2 * h) (warsh (2 * h) ps))) [sO o2, sI 6, sI 4, sI 12, sD (.lst [.int ((2 * h : Nat) : Int), .lst (pairsD ps), .lst (pairsD es)]), sD (.lst (rowsD (2 * h) (warsh (2 * h) ps))), none, none, none]) (Φb := fun _ _ ds Γ2 => ∃ (m : Nat) (o' : O), ds = [.int 4, .int (m : Int)] ∧ m ≤ 3 ∧ Pool o' ∧ Γ2 = [sO o', sI 6, sI 4, sI 12, sD (.lst [.int ((2 * h : Nat) : Int), .lst (pairsD ps), .lst (pairsD es)]), sD (.lst (rowsD (2 * h) (warsh (2 * h) ps))), none, none, none]) (Ψ := fun ds Γ2 => ∃ (m : Nat) (o' : O), ds = [.lst (rowsD (2 * h) (warsh (2 * h) ps)), .int 4, .int (m : Int)] ∧ m ≤ 3 ∧ Pool o' ∧ Γ2 = [sO o', sI 6, sI 4, sI 12, sD (.lst [.int ((2 * h : Nat) : Int), .lst (pairsD ps), .lst (pairsD es)]), sD (.lst (rowsD (2 * h) (warsh (2 * h) ps))), none, none, none]) (pv_ev (pv_var 5)) (fun d1 Γ1 ⟨_, hg⟩ => by
        subst hg
        refine av_two (pv_var 2) (ev_draw (m := 4) 0 Nd hr (by omega) rfl hp2 pv_int (by decide)) ?_
        rintro d Γ1 ⟨r, o', rfl, g1, g2, hp', rfl⟩
        obtain ⟨r, rfl⟩ := nat_of g1
        exact ⟨r, o', rfl, by omega, hp', rfl⟩) (fun d1 Γ1 ds Γ2 ⟨hd1, _⟩ ⟨m, o4, hds, hm, hp4, hg⟩ => by subst hd1 hds hg; exact ⟨m, o4, rfl, hm, hp4, rfl⟩)) ?_) ?_) ?_
    · rintro ds Γ1 ⟨m, o4, rfl, hm, hp4, rfl⟩
      refine ⟨o4, rfl, ⟨m, hp4, rfl, by omega, by omega, by decide, by omega⟩, ?_, fun _ _ _ ⟨_, _, z⟩ => z.elim⟩
      rintro bb o' ⟨m', ⟨_, e1, _⟩, hp', es2, rfl, f3, f4⟩
      injection e1 with _ e1
      injection e1 with _ e1
      injection e1 with e3 _
      injection e3 with e3
      have e3' : (m : Int) = (m' : Int) := e3
      exact ⟨_, .inr ⟨_, rfl, rfl⟩, es2, o', rfl, fun p hp => ⟨by have := (f4 p hp).1; omega, by have := (f4 p hp).2; omega⟩, by omega, hp', rfl⟩
    · rintro d Γ1 ⟨es2, o', rfl, f1, f2, hp', rfl⟩
      refine ⟨pairsD es2, rfl, by rw [pairsD_len, pairsD_len]; exact Nat.le_trans (show _ ≤ 1000 by omega) (by decide), es ++ es2, o', by rw [pairsD_app], EsOk.app (fun p hp => ⟨by have := (q3 p hp).1; omega, by have := (q3 p hp).2; omega⟩) f1, by rw [List.length_append]; omega, hp', rfl⟩
    rintro oo Γ1 ⟨e4, o3, rfl, e4o, e4l, hp3, rfl⟩
    refine bl_frz 6 rfl (.inr (by decide)) ?_
    refine bl_at (Γ' := [sO o3, sI 6, sI 4, sI 12, sD (.lst [.int ((2 * h : Nat) : Int), .lst (pairsD ps), .lst (pairsD es)]), sD (.lst (rowsD (2 * h) (warsh (2 * h) ps))), sD (.lst (pairsD e4)), none, none]) rfl ?_
    have outD : ∀ (l : List Nat), (∀ x ∈ l, x < e4.length) → EsOk (2 * h + 4) (l.map fun k => e4.getD k (0, 0)) := fun l hl p hp => by
      obtain ⟨k, hk, rfl⟩ := List.mem_map.mp hp
      exact e4o _ (getP_mem (hl k hk))
    refine bl_retO (Φ := fun oo Γ => ∃ (e5 : List (Nat × Nat)) (o' : O), oo = .lst (caseD (2 * h) ps e5) ∧ EsOk (2 * h + 4) e5 ∧ e5.length ≤ 16 ∧ Pool o' ∧ Γ = [sO o', sI 6, sI 4, sI 12, sD (.lst [.int ((2 * h : Nat) : Int), .lst (pairsD ps), .lst (pairsD es)]), sD (.lst (rowsD (2 * h) (warsh (2 * h) ps))), sD (.lst (pairsD e4)), none, none]) (eo_lstE (Φa := fun ds Γ => ∃ (e5 : List (Nat × Nat)) (o' : O), ds = caseD (2 * h) ps e5 ∧ EsOk (2 * h + 4) e5 ∧ e5.length ≤ 16 ∧ Pool o' ∧ Γ = [sO o', sI 6, sI 4, sI 12, sD (.lst [.int ((2 * h : Nat) : Int), .lst (pairsD ps), .lst (pairsD es)]), sD (.lst (rowsD (2 * h) (warsh (2 * h) ps))), sD (.lst (pairsD e4)), none, none])
      (av_consP (pv_s ix_list (pv_var (d := .lst [.int ((2 * h : Nat) : Int), .lst (pairsD ps), .lst (pairsD es)]) 4) pv_int (sc_ixL rfl)) (Ψb := fun ds Γ => ∃ (e5 : List (Nat × Nat)) (o' : O), ds = [.lst (pairsD ps), .lst (rowsD (2 * h) (warsh (2 * h) ps)), .lst (pairsD e5)] ∧ EsOk (2 * h + 4) e5 ∧ e5.length ≤ 16 ∧ Pool o' ∧ Γ = [sO o', sI 6, sI 4, sI 12, sD (.lst [.int ((2 * h : Nat) : Int), .lst (pairsD ps), .lst (pairsD es)]), sD (.lst (rowsD (2 * h) (warsh (2 * h) ps))), sD (.lst (pairsD e4)), none, none])
        (av_consP (pv_s ix_list (pv_var (d := .lst [.int ((2 * h : Nat) : Int), .lst (pairsD ps), .lst (pairsD es)]) 4) pv_int (sc_ixL rfl)) (Ψb := fun ds Γ => ∃ (e5 : List (Nat × Nat)) (o' : O), ds = [.lst (rowsD (2 * h) (warsh (2 * h) ps)), .lst (pairsD e5)] ∧ EsOk (2 * h + 4) e5 ∧ e5.length ≤ 16 ∧ Pool o' ∧ Γ = [sO o', sI 6, sI 4, sI 12, sD (.lst [.int ((2 * h : Nat) : Int), .lst (pairsD ps), .lst (pairsD es)]), sD (.lst (rowsD (2 * h) (warsh (2 * h) ps))), sD (.lst (pairsD e4)), none, none])
          (av_consP (pv_var 5) (Ψb := fun ds Γ => ∃ (e5 : List (Nat × Nat)) (o' : O), ds = [.lst (pairsD e5)] ∧ EsOk (2 * h + 4) e5 ∧ e5.length ≤ 16 ∧ Pool o' ∧ Γ = [sO o', sI 6, sI 4, sI 12, sD (.lst [.int ((2 * h : Nat) : Int), .lst (pairsD ps), .lst (pairsD es)]), sD (.lst (rowsD (2 * h) (warsh (2 * h) ps))), sD (.lst (pairsD e4)), none, none])
            (av_one (Φa := fun d Γ => ∃ (e5 : List (Nat × Nat)) (o' : O), d = .lst (pairsD e5) ∧ EsOk (2 * h + 4) e5 ∧ e5.length ≤ 16 ∧ Pool o' ∧ Γ = [sO o', sI 6, sI 4, sI 12, sD (.lst [.int ((2 * h : Nat) : Int), .lst (pairsD ps), .lst (pairsD es)]), sD (.lst (rowsD (2 * h) (warsh (2 * h) ps))), sD (.lst (pairsD e4)), none, none]) (eo_ev (Φ := fun oo Γ => ∃ (e5 : List (Nat × Nat)) (o' : O), oo = .lst (pairsD e5) ∧ EsOk (2 * h + 4) e5 ∧ e5.length ≤ 16 ∧ Pool o' ∧ Γ = [sO o', sI 6, sI 4, sI 12, sD (.lst [.int ((2 * h : Nat) : Int), .lst (pairsD ps), .lst (pairsD es)]), sD (.lst (rowsD (2 * h) (warsh (2 * h) ps))), sD (.lst (pairsD e4)), none, none]) (eo_lcA (α := Nat) (c := cN) (u := uN) (Ψ := fun l Γ => ∃ (o' : O), l.length ≤ 16 ∧ (∀ x ∈ l, x < e4.length) ∧ Pool o' ∧ Γ = [sO o', sI 6, sI 4, sI 12, sD (.lst [.int ((2 * h : Nat) : Int), .lst (pairsD ps), .lst (pairsD es)]), sD (.lst (rowsD (2 * h) (warsh (2 * h) ps))), sD (.lst (pairsD e4)), none, none]) (f := fun l Γ1 k => Γ1.set 8 (sI k)) (own := [("k", 8)]) (ix := [8]) (bind := bName 8) (fun _ _ _ => true) (fun _ _ k => pairD (e4.getD k (0, 0))) uN_cN (blk nCase (defScope s_case)) nd
              (wv_listE (ev_places (m := e4.length) 0 Np hr (by omega) rfl hp3 (pv_is (pv_lenL (pv_var (d := .lst (pairsD e4)) 6) b.len) (by rw [pairsD_len])) (by omega)) ?_) (fun s H C cl fp => gv_name 8 nd) (bindOk_name 8) (by decide) (.inr (by decide)) ?_ ?_ ?_ ?_ ?_) ?_) ?_) ?_) ?_) ?_) ?_) ?_
    · rintro d Γ1 ⟨l, o', rfl, g1, g2, g3, g4, rfl⟩
      exact ⟨_, rfl, l, rfl, o', by omega, g2, g4, rfl⟩
    · rintro l Γ1 ⟨_, g, _⟩
      omega
    · rintro l Γ1 ⟨o', _, _, _, rfl⟩ k hk
      rfl
    · rintro l Γ1 k ⟨o', _, _, _, rfl⟩ hk s H C cl fp
      exact pts_none
    · rintro l Γ1 k ⟨o', _, g2, _, rfl⟩ hk _ s H C cl fp
      exact pv_s ix_list (pv_var 6) (pv_var 8) (sc_ixL (atI_nat (pairsD_at (g2 k hk))))
    · rintro l Γ1 ⟨o', g1, g2, g3, rfl⟩
      refine ⟨l.map fun k => e4.getD k (0, 0), o', ?_, outD l g2, by rw [List.length_map]; exact g1, g3, rfl⟩
      rw [filter_true]
      unfold pairsD
      rw [List.map_map]
      rfl
    · rintro oo Γ1 ⟨e5, o', rfl, h⟩
      exact ⟨e5, o', rfl, h⟩
    · rintro d Γ1 ⟨e5, o', rfl, h⟩
      exact ⟨e5, o', rfl, h⟩
    · rintro ds Γ1 ⟨e5, o', rfl, h⟩
      exact ⟨e5, o', rfl, h⟩
    · rintro ds Γ1 ⟨e5, o', rfl, h⟩
      exact ⟨e5, o', rfl, h⟩
    · rintro ds Γ1 ⟨e5, o', rfl, h⟩
      exact ⟨e5, o', rfl, h⟩
    · rintro ds Γ1 ⟨e5, o', rfl, h⟩
      exact ⟨(show 4 ≤ 1000 by decide), e5, o', rfl, h⟩
    · rintro oo Γ1 ⟨e5, o', rfl, g1, g2, g3, rfl⟩
      exact ⟨o', rfl, g3, 2 * h, ps, e5, rfl, by omega, by omega, q1, q2, g1, by omega⟩
  · rintro Γ1 ⟨o1, hp1, rfl⟩
    refine bl_set 7 (ev_opairs (m := 6) 0 No hr (by omega) rfl hp1 (pv_var 1) ⟨by decide, by decide⟩) ?_
    rintro d Γ' ⟨n, ps, o2, rfl, a1, a4, aps, apl, hp2, rfl⟩
    refine bl_letO 5 (pn_eo (pn_aboveL (n := n) (ps := ps) Na hr (by omega) (pv_s ix_tup (pv_var 7) pv_int (sc_ixT rfl)) (pv_s ix_tup (pv_var 7) pv_int (sc_ixT rfl)) (by omega) aps.1)) (bl_frz 5 rfl (.inr (by decide)) ?_)
    refine bl_at (Γ' := [sO o2, sI 6, sI 4, sI 12, none, sD (.lst (rowsD n (warsh n ps))), none, sD (dSh n ps), none]) rfl ?_
    refine bl_set 6 (Φ := fun d Γ => ∃ (es : List (Nat × Nat)) (o' : O), d = .lst (pairsD es) ∧ EsOk (n + 4) es ∧ es.length ≤ 12 ∧ Pool o' ∧ Γ = [sO o', sI 6, sI 4, sI 12, none, sD (.lst (rowsD n (warsh n ps))), none, sD (dSh n ps), none]) (ev_callO (U := fun _ _ _ => False) 0 (dy_any (c := fun q : Nat × Nat => cEdg n (warsh n ps) q.1 q.2) (0, 0) fun q => Ne n (warsh n ps) q.1 q.2) hr (by omega) takes_none rfl
      (av_cons (Φa := Is (.lst (rowsD n (warsh n ps))) [sO o2, sI 6, sI 4, sI 12, none, sD (.lst (rowsD n (warsh n ps))), none, sD (dSh n ps), none]) (Φb := fun _ _ ds Γ2 => ∃ (u m : Nat) (o' : O), ds = [.int (u : Int), .int (m : Int)] ∧ u ≤ 4 ∧ m ≤ 12 ∧ Pool o' ∧ Γ2 = [sO o', sI 6, sI 4, sI 12, none, sD (.lst (rowsD n (warsh n ps))), none, sD (dSh n ps), none]) (Ψ := fun ds Γ2 => ∃ (u m : Nat) (o' : O), ds = [.lst (rowsD n (warsh n ps)), .int (u : Int), .int (m : Int)] ∧ u ≤ 4 ∧ m ≤ 12 ∧ Pool o' ∧ Γ2 = [sO o', sI 6, sI 4, sI 12, none, sD (.lst (rowsD n (warsh n ps))), none, sD (dSh n ps), none]) (pv_ev (pv_var 5)) (fun d1 Γ1 ⟨_, hg⟩ => by
        subst hg
        refine av_cons (Φa := fun d Γ2 => ∃ (u : Nat) (o' : O), d = .int (u : Int) ∧ u ≤ 4 ∧ Pool o' ∧ Γ2 = [sO o', sI 6, sI 4, sI 12, none, sD (.lst (rowsD n (warsh n ps))), none, sD (dSh n ps), none]) (Φb := fun _ _ ds Γ2 => ∃ (m : Nat) (o' : O), ds = [.int (m : Int)] ∧ m ≤ 12 ∧ Pool o' ∧ Γ2 = [sO o', sI 6, sI 4, sI 12, none, sD (.lst (rowsD n (warsh n ps))), none, sD (dSh n ps), none]) (ev_weak (ev_draw (m := 5) 0 Nd hr (by omega) rfl hp2 (pv_is (pv_b op_add (pv_var 2) pv_int sc_add) rfl) (by decide)) ?_) ?_ ?_
        · rintro d Γ1 ⟨r, o', rfl, g1, g2, hp', rfl⟩
          obtain ⟨r, rfl⟩ := nat_of g1
          exact ⟨r, o', rfl, by omega, hp', rfl⟩
        · rintro d Γ1 ⟨u, o3, rfl, hu, hp3, rfl⟩
          refine av_one (ev_draw (m := 13) 0 Nd hr (by omega) rfl hp3 (pv_is (pv_b op_add (pv_var 3) pv_int sc_add) rfl) (by decide)) ?_
          rintro d Γ1 ⟨r, o', rfl, g1, g2, hp', rfl⟩
          obtain ⟨r, rfl⟩ := nat_of g1
          exact ⟨r, o', rfl, by omega, hp', rfl⟩
        · rintro d Γ1 ds Γ2 ⟨u, o3, rfl, hu, hp3, rfl⟩ ⟨m, o4, rfl, hm, hp4, rfl⟩
          exact ⟨u, m, o4, rfl, hu, hm, hp4, rfl⟩) (fun d1 Γ1 ds Γ2 ⟨hd1, _⟩ ⟨u, m, o4, hds, hu, hm, hp4, hg⟩ => by subst hd1 hds hg; exact ⟨u, m, o4, rfl, hu, hm, hp4, rfl⟩)) ?_) ?_
    · rintro ds Γ1 ⟨u, m, o4, rfl, hu, hm, hp4, rfl⟩
      refine ⟨o4, rfl, ⟨(u, m), hp4, rfl, a1, by omega, by show u ≤ 100; omega, by show m ≤ 100; omega⟩, ?_, fun _ _ _ ⟨_, _, z⟩ => z.elim⟩
      rintro bb o' ⟨⟨u', m'⟩, ⟨_, e1, _⟩, hp', es, rfl, h3, h4⟩
      injection e1 with _ e1
      injection e1 with e2 e1
      injection e1 with e3 _
      injection e2 with e2
      injection e3 with e3
      have f1 : u = u' := by have e2' : (u : Int) = (u' : Int) := e2; omega
      have f2 : m = m' := by have e3' : (m : Int) = (m' : Int) := e3; omega
      subst f1 f2
      exact ⟨_, .inr ⟨_, rfl, rfl⟩, es, o', rfl, fun p hp => ⟨by have := (h4 p hp).1; omega, by have := (h4 p hp).2; omega⟩, Nat.le_trans h3 hm, hp', rfl⟩
    · rintro d Γ1 ⟨es, o5, rfl, hes, hel, hp5, rfl⟩
      refine bl_retO (pn_eo (pn_lst (ds := caseD n ps es) (pvs_cons (pv_s ix_tup (pv_var 7) pv_int (sc_ixT rfl)) (pvs_cons (pv_s ix_tup (pv_var 7) pv_int (sc_ixT rfl)) (pvs_cons (pv_var 5) (pvs_cons (pv_var 6) pvs_nil)))) (by show 4 ≤ sizeLine; exact Nat.le_trans (show 4 ≤ 1000 by decide) (by decide)))) ?_
      rintro oo Γ1 ⟨rfl, rfl⟩
      exact ⟨o5, rfl, hp5, n, ps, es, rfl, a1, a4, aps, apl, hes, by omega⟩
end
end Kf
end
section
set_option maxRecDepth 100000
set_option maxHeartbeats 1000000
/-! KiP: _law_walked: walked. -/
namespace Kf
open PySem L2
section
variable {X : Cx} {e : Ent} {Γ : Gam} {i : Expr} {pos : Pos}
/-- x[i], x one's own list -/
theorem pv_ixO {nm : Str} {np : Pos} {ds : List D} {z : Int} {d : D} (i0 : Nat) (h0 : Γ[i0]? = some (some (.ow (.lst ds)))) (hi : PV X e i Γ (.int z)) (h : atI ds z = some d) (hN : X.N[i0]? = some nm := by rfl) (hv : Vis X.env.scope nm := by first | exact Or.inl rfl | exact Or.inr (Or.inl rfl) | exact Or.inr (Or.inr rfl))
    (h1 : (nm == ("__debug__" : Str)) = false := by decide) (h2 : (nm == ("__classdict__" : Str)) = false := by decide) (hx : PlainIx i := by exact fun _ _ => rfl) : PV X e (.Subscript (.Name nm np) i pos) Γ d :=
  PE.imp (pe_ix ix_list (pe_var hN hv h1 h2) hi hx) fun σ H Q ⟨S, w, q⟩ => by
    obtain ⟨v, h3, c, h4, sc, ow, hc⟩ := w.sl.at_ i0 _ h0
    subst h4
    obtain ⟨xs, h5, h6⟩ := ow
    refine ⟨_, h3, S, w, fun S2 H2 y s2 w2 r2 => ?_⟩
    cases r2
    have h7 : ∃ v, atI xs z = some v ∧ Rp X.K S v d := by
      unfold atI at h ⊢
      rw [← h6.length] at h
      cases e : ixN xs.length z with
      | none => rw [e] at h; cases h
      | some j =>
        rw [e] at h
        exact h6.get (show _[j]? = some d from h)
    obtain ⟨u, hu, ru⟩ := h7
    exact ⟨c, xs, z, u, rfl, rfl, .inl (.inl (s2.hh _ _ h5)), hu, q S2 H2 u s2 w2 (ru.mono s2.ss)⟩
end
theorem wp_is {X : Cx} {e : Ent} {Γ : Gam} {tg x : Expr} {ds ds' : List D} (h : WP X e tg x Γ ds) (q : ds = ds') : WP X e tg x Γ ds' := q ▸ h
/-- the lists by places -/
def plcF (ns : List Str) (F : Lsts) : List (List Nat) := ns.map fun x => (F x).map fun z => ns.idxOf z
theorem plcF_len {ns : List Str} {F : Lsts} : (plcF ns F).length = ns.length := List.length_map _
theorem plcF_at {ns : List Str} {F : Lsts} {x : Str} (h : x ∈ ns) : (plcF ns F)[ns.idxOf x]? = some ((F x).map fun z => ns.idxOf z) := by
  unfold plcF
  rw [List.getElem?_map, (idx_first h).1]
  rfl
theorem lstsD_of {Ls : List (List Nat)} {i : Nat} {l : List Nat} (h : Ls[i]? = some l) : (lstsD Ls)[i]? = some (.lst (natsD l)) := by
  unfold lstsD
  rw [List.getElem?_map, h]
  rfl
theorem idx_range {ns : List Str} (h : ns.Nodup) {n : Nat} (hn : n ≤ ns.length) : (ns.take n).map (fun z => ns.idxOf z) = List.range n := by
  apply List.ext_getElem
  · rw [List.length_map, List.length_take, List.length_range]; omega
  · intro i h1 h2
    rw [List.length_range] at h2
    rw [List.getElem_map, List.getElem_range, List.getElem_take]
    exact h.idxOf_getElem i (by omega)
theorem plcF_full {ns : List Str} (h : ns.Nodup) {n : Nat} (hn : n ≤ ns.length) : plcF ns (fullF (ns.take n)) = (List.range n).map (fun k => [k]) ++ List.replicate (ns.length - n) (List.range n) := by
  have e : plcF ns (fullF (ns.take n)) = (ns.take n ++ ns.drop n).map fun x => (fullF (ns.take n) x).map fun z => ns.idxOf z := by
    rw [List.take_append_drop]
    rfl
  rw [e, List.map_append]
  congr 1
  · rw [← idx_range h hn, List.map_map]
    refine List.map_congr_left fun x hx => ?_
    show (fullF (ns.take n) x).map _ = [ns.idxOf x]
    unfold fullF
    rw [if_pos hx]
    rfl
  · rw [← List.length_drop, ← List.map_const']
    refine List.map_congr_left fun x hx => ?_
    have nx : x ∉ ns.take n := fun q => by
      have hh := h
      rw [← List.take_append_drop n ns] at hh
      exact (List.nodup_append.mp hh).2.2 x q x hx rfl
    show (fullF (ns.take n) x).map _ = List.range n
    unfold fullF
    rw [if_neg nx]
    exact idx_range h hn
theorem plcF_rm {ns : List Str} (h : ns.Nodup) {F : Lsts} {a k : Str} (ha : a ∈ ns) (hk : k ∈ ns) (hF : ∀ z ∈ F a, z ∈ ns) : plcF ns (rmF F a k) = (plcF ns F).set (ns.idxOf a) (((F a).map fun z => ns.idxOf z).filter fun z => !decide (z = ns.idxOf k)) := by
  apply List.ext_getElem?
  intro j
  rw [List.getElem?_set]
  unfold plcF
  rw [List.length_map, List.getElem?_map, List.getElem?_map]
  cases hj : ns[j]? with
  | none =>
    have : ¬ ns.idxOf a = j := fun q => by
      have h1 := (idx_first ha).1
      rw [q, hj] at h1
      cases h1
    rw [if_neg this]
    rfl
  | some x =>
    have hxm := List.mem_of_getElem? hj
    by_cases q : ns.idxOf a = j
    · rw [if_pos q, if_pos (by have := idx_lt ha; omega)]
      have h1 := (idx_first ha).1
      rw [q, hj] at h1
      cases h1
      show some ((rmF F a k a).map _) = _
      unfold rmF
      rw [if_pos rfl, List.filter_map]
      congr 2
      refine List.filter_congr fun z hz => ?_
      show (!decide (z = k)) = !decide (ns.idxOf z = ns.idxOf k)
      congr 1
      exact decide_eq_decide.mpr ⟨fun y => by rw [y], fun y => idx_inj (hF z hz) hk y⟩
    · rw [if_neg q]
      have nx : x ≠ a := fun y => by
        subst y
        have h1 := (idx_first ha).1
        have h3 : ns[ns.idxOf x]? = ns[j]? := by rw [h1, hj]
        exact q ((List.getElem?_inj (idx_lt ha) h).mp h3)
      show some ((rmF F a k x).map _) = some ((F x).map _)
      unfold rmF
      rw [if_neg nx]
theorem okAll_at {r : Str → Str → Bool} {prs : List (Str × Str)} {t : Tri} : ∀ {tr : List Tri} {F : Lsts} {i : Nat}, okAll r prs F tr → tr[i]? = some t → okT r prs (runT F (tr.take i)) t
  | [], _, _, _, h => by simp at h
  | a :: tr, F, 0, ⟨h1, _⟩, h => by
    cases h
    exact h1
  | a :: tr, F, i + 1, ⟨_, h2⟩, h => okAll_at (tr := tr) (F := rmF F a.1 a.2.1) (i := i) h2 h
theorem runT_snoc {F : Lsts} {tr : List Tri} {i : Nat} {t : Tri} (h : tr[i]? = some t) : runT F (tr.take (i + 1)) = rmF (runT F (tr.take i)) t.1 t.2.1 := by
  unfold runT
  rw [List.take_succ, h, List.foldl_append]
  rfl
theorem runT_sub {F : Lsts} (x : Str) : ∀ (tr : List Tri), (runT F tr x).Sublist (F x) := fun tr => by
  induction tr generalizing F with
  | nil => exact List.Sublist.refl _
  | cons t tr ih =>
    refine (ih (F := rmF F t.1 t.2.1)).trans ?_
    unfold rmF
    split
    · rename_i q
      subst q
      exact List.filter_sublist
    · exact List.Sublist.refl _
theorem fullF_sub {ks : List Str} {x : Str} : (fullF ks x).Sublist ks := by
  unfold fullF
  split
  · rename_i q
    exact List.singleton_sublist.mpr q
  · exact List.Sublist.refl _
section
variable {P : Program} {w : World} {K : Fg} {mg : Str → Option Value} {base : Heap}
structure WkP (n : Nat) (R : Nat → Nat → Bool) (ns : List Str) (prs : List (Str × Str)) (tr : List Tri) (r : Str → Str → Bool) : Prop where
  nd : ns.Nodup
  hn : n ≤ ns.length
  hl : ns.length ≤ 100
  ok : ∀ z ∈ ns, PyData.strOk z = true
  inn : ∀ p ∈ prs, p.1 ∈ ns ∧ p.2 ∈ ns
  hR : ∀ a ∈ ns.take n, ∀ b ∈ ns.take n, r a b = R (ns.idxOf a) (ns.idxOf b)
  al : okAll r prs (fullF (ns.take n)) tr
def cWalked (n : Nat) (R : Nat → Nat → Bool) (ns : List Str) (prs : List (Str × Str)) (tr : List Tri) (r : Str → Str → Bool) : Fp where
  pre ds := ds = [.lst (trisD tr), .lst (rowsD n R), .lst (ns.map .str), .lst (spairsD prs)] ∧ WkP n R ns prs tr r
  post ds b := b = .ow (.lst (lstsD (plcF ns (runT (fullF (ns.take n)) tr))))
  exn _ _ _ := False
abbrev s_walked : Stmt := top 63
abbrev nWalked : List Str := ["trail", "rows", "nodes", "pairs", "lists", "k", "kind", "removal", "name", "pair", "at", "high", "low", "other"]
theorem scWalked : FnScope nWalked ["trail", "rows", "nodes", "pairs"] (defScope s_walked) := ⟨rfl, rfl, rfl, by decide +kernel, rfl, by decide +kernel, by decide +kernel⟩
theorem ok_walked {f : Addr} {fd : FuncData} (F0 : FunS K "_law_walked" s_walked f fd) (b : Bi mg) (n : Nat) (R : Nat → Nat → Bool) (ns : List Str) (prs : List (Str × Str)) (tr : List Tri) (r : Str → Str → Bool) : FnOk P w K mg base (L2.CX P w) 1 f fd ["trail", "rows", "nodes", "pairs"] (spP K (cWalked n R ns prs tr r)) := by
  refine fp_ok F0 scWalked (fun ds ⟨h, _⟩ => by rw [h]; rfl) fun cdv A outer s e Ex ds ho ⟨hd, wp⟩ hr tk => ?_
  subst hd
  have nd := scWalked.nd
  have hn := wp.hn
  have hl := wp.hl
  have hks : ∀ z ∈ ns.take n, z ∈ ns := fun z hz => List.mem_of_mem_take hz
  have hkn : ∀ z ∈ ns.take n, ns.idxOf z < n := fun z hz => by
    have h1 : ns.idxOf z ∈ (ns.take n).map (fun z => ns.idxOf z) := List.mem_map.mpr ⟨z, hz, rfl⟩
    rw [idx_range wp.nd hn] at h1
    exact List.mem_range.mp h1
  refine bl_letLcA 4 (hz := .inl ho) (hz2 := .inl ho) (α := Nat) (c := cN) (u := uN) (l := List.range n) (f := fun k => [sD (.lst (trisD tr)), sD (.lst (rowsD n R)), sD (.lst (ns.map .str)), sD (.lst (spairsD prs)), none, sI k, none, none, none, none, none, none, none, none]) (own := [("k", 5)]) (ix := [5]) (bind := bName 5) (fun _ => true) (fun k => .lst (natsD [k])) uN_cN (blk nWalked (defScope s_walked)) nd
    (wp_is (wp_rng (n := n) (pv_is (pv_lenL (pv_var 1) b.len) (by rw [rowsD_len])) (by omega) b.range) (rng_nats n)) (fun s H C cl fp => gv_name 5 nd (hz := .inl ho)) (bindOk_name 5) (by decide) (by rw [List.length_range]; omega) (fun k _ => rfl) (fun k hk s H C cl fp => pts_none) (fun k hk _ s H C cl fp => pn_pv (pn_lst (pvs_cons (pv_var 5) pvs_nil))) ?_
  refine bl_at (Γ' := [sD (.lst (trisD tr)), sD (.lst (rowsD n R)), sD (.lst (ns.map .str)), sD (.lst (spairsD prs)), sL (lstsD ((List.range n).map fun k => [k])), none, none, none, none, none, none, none, none, none]) (by rw [filter_true]; unfold lstsD; rw [List.map_map]; rfl) ?_
  refine bl_for (fun ds i Γ => ds = rng 0 (ns.length - n) ∧ ∃ a, Γ = [sD (.lst (trisD tr)), sD (.lst (rowsD n R)), sD (.lst (ns.map .str)), sD (.lst (spairsD prs)), sL (lstsD (((List.range n).map fun k => [k]) ++ List.replicate i (List.range n))), a, none, none, none, none, none, none, none, none]) (wv (wp_rng (n := ns.length - n) (pv_is (pv_b op_sub (pv_lenL (pv_var 2) b.len) (pv_lenL (pv_var 1) b.len) sc_sub) (by rw [rowsD_len, List.length_map]; exact congrArg D.int (by omega))) (by omega) b.range)) (gv_name 5 nd (hz := .inl ho)) ?_ ?_ ?_ (passes_of rfl)
  · rintro ds Γ1 ⟨rfl, rfl⟩
    exact ⟨rfl, none, by rw [List.replicate_zero, List.append_nil]⟩
  · rintro ds i d Γ1 hdi ⟨rfl, a, rfl⟩
    obtain ⟨hi, rfl⟩ := rng_at0 hdi
    refine ⟨_, rfl, bl_appP 4 rfl (by unfold lstsD; rw [List.length_map, List.length_append, List.length_map, List.length_range, List.length_replicate]; omega) (d := .lst (natsD (List.range n))) (pn_pv (pn_is (o' := .lst (natsD (List.range n))) (pn_lcA (c := cN) (u := uN) (l := List.range n) (f := fun k => [sD (.lst (trisD tr)), sD (.lst (rowsD n R)), sD (.lst (ns.map .str)), sD (.lst (spairsD prs)), sL (lstsD (((List.range n).map fun k => [k]) ++ List.replicate i (List.range n))), sI i, sI k, none, none, none, none, none, none, none]) (own := [("kind", 6)]) (ix := [6]) (bind := bName 6) (fun _ => true) cN uN_cN (blk nWalked (defScope s_walked)) nd
      (wp_is (wp_rng (n := n) (pv_is (pv_lenL (pv_var 1) b.len) (by rw [rowsD_len])) (by omega) b.range) (rng_nats n)) (fun s H C cl fp => gv_name 6 nd (hz := .inl ho)) (bindOk_name 6) (by decide) (.inl ho) (by rw [List.length_range]; omega) (fun k _ => rfl) (fun k hk s H C cl fp => pts_none) (fun k hk _ s H C cl fp => pv_var 6)) (by rw [filter_true]; rfl))) (bl_nil ⟨rfl, sI i, ?_⟩)⟩
    rw [List.replicate_succ', ← List.append_assoc]
    unfold lstsD
    rw [List.map_append (l₂ := [List.range n])]
    rfl
  rintro ds Γ1 ⟨rfl, a, rfl⟩
  rw [rng_len, ← plcF_full wp.nd hn]
  refine bl_ifR (q := false) (px_is (px_not (px_val (pv_isi (d := .lst (trisD tr)) true (pv_var 0) rfl kt_list_list b.isinstance b.list))) rfl) (fun h => by cases h) fun _ => ?_
  refine bl_for (fun ds i Γ => ds = trisD tr ∧ ∃ q5 q6 q7 q8 q9 q10, Γ = [sD (.lst (trisD tr)), sD (.lst (rowsD n R)), sD (.lst (ns.map .str)), sD (.lst (spairsD prs)), sL (lstsD (plcF ns (runT (fullF (ns.take n)) (tr.take i)))), q5, q6, q7, q8, q9, q10, none, none, none]) (wv (wp_list (pv_var 0))) (gv_name 7 nd (hz := .inl ho)) ?_ ?_ ?_ (passes_of rfl)
  · rintro ds Γ1 ⟨rfl, rfl⟩
    exact ⟨rfl, a, none, none, none, none, none, rfl⟩
  · rintro ds i d Γ1 hdi ⟨rfl, q5, q6, q7, q8, q9, q10, rfl⟩
    obtain ⟨t, ht, rfl⟩ : ∃ t, tr[i]? = some t ∧ d = triD t := by
      unfold trisD at hdi
      rw [List.getElem?_map] at hdi
      obtain ⟨t, h1, h2⟩ := Option.map_eq_some_iff.mp hdi
      exact ⟨t, h1, h2.symm⟩
    obtain ⟨tm, tk2, tn, tl, th⟩ := okAll_at wp.al ht
    obtain ⟨i1, i2⟩ := wp.inn _ tm
    have hF : ∀ x, ∀ z ∈ runT (fullF (ns.take n)) (tr.take i) x, z ∈ ns.take n := fun x z hz => (fullF_sub).subset ((runT_sub x _).subset hz)
    have hFl : ∀ x, (runT (fullF (ns.take n)) (tr.take i) x).length ≤ 100 := fun x => Nat.le_trans (runT_sub x _).length_le (Nat.le_trans fullF_sub.length_le (by rw [List.length_take]; omega))
    have t2 := hF _ _ tk2
    have t1 : t.1 ∈ ns := by
      rcases tn with q | q
      · rw [q]; exact i1
      · rw [q]; exact i2
    have hpair : t.1 ∈ [t.2.2.1, t.2.2.2] := by
      rcases tn with q | q
      · rw [q]; simp
      · rw [q]; simp
    refine ⟨_, rfl, ?_⟩
    refine bl_ifR (q := false) (px_is (px_w (pw_o (px_not (px_val (pv_isi (d := .tup [.str t.1, .str t.2.1, spairD t.2.2]) true (pv_var (d := .tup [.str t.1, .str t.2.1, spairD t.2.2]) 7) rfl kt_tuple_tuple b.isinstance b.tuple))) fun _ => pw_o1 (px_cmp op_ne (pv_lenT (pv_var (d := .tup [.str t.1, .str t.2.1, spairD t.2.2]) 7) b.len) pv_int sc_neI))) rfl) (fun h => by cases h) fun _ => ?_
    refine bl_let 8 (hz := .inl ho) (d := .str t.1) (pv_s ix_tup (pv_var (d := .tup [.str t.1, .str t.2.1, spairD t.2.2]) 7) pv_int (sc_ixT rfl)) ?_
    refine bl_let 9 (hz := .inl ho) (d := spairD t.2.2) (pv_s ix_tup (pv_var (d := .tup [.str t.1, .str t.2.1, spairD t.2.2]) 7) pv_int (sc_ixT rfl)) ?_
    refine bl_at (Γ' := [sD (.lst (trisD tr)), sD (.lst (rowsD n R)), sD (.lst (ns.map .str)), sD (.lst (spairsD prs)), sL (lstsD (plcF ns (runT (fullF (ns.take n)) (tr.take i)))), q5, q6, sD (triD t), sD (.str t.1), sD (spairD t.2.2), q10, none, none, none]) rfl ?_
    refine bl_ifR (q := false) (px_is (px_w (pw_o (px_ninS (pv_var 8) (.inl (pv_var 2))) fun _ => pw_o (px_ninS (z := t.2.1) (ns := ns.take n) (pv_s ix_tup (pv_var (d := .tup [.str t.1, .str t.2.1, spairD t.2.2]) 7) pv_int (sc_ixT rfl)) (.inl (pn_pv (pn_take (n := n) (pv_var 2) (pp_some (pv_is (pv_lenL (pv_var 1) b.len) (by rw [rowsD_len]))))))) fun _ => pw_o (px_ninPS hr (pv_var 9) (pv_var 3) ⟨wp.ok _ i1, wp.ok _ i2⟩ fun p hp => ⟨wp.ok _ (wp.inn p hp).1, wp.ok _ (wp.inn p hp).2⟩) fun _ => pw_o1 (px_ninS (z := t.1) (ns := [t.2.2.1, t.2.2.2]) (pv_var 8) (.inr (pv_var 9))))) (by rw [decide_eq_true t1, decide_eq_true t2, decide_eq_true tm, decide_eq_true hpair]; rfl)) (fun h => by cases h) fun _ => ?_
    refine bl_let 10 (hz := .inl ho) (pv_indexS (pv_var 2) (pv_var 8) (idx_first t1).1 (idx_first t1).2) ?_
    refine bl_let 6 (hz := .inl ho) (pv_indexS (pv_var 2) (pv_s ix_tup (pv_var (d := .tup [.str t.1, .str t.2.1, spairD t.2.2]) 7) pv_int (sc_ixT rfl)) (idx_first (hks _ t2)).1 (idx_first (hks _ t2)).2) ?_
    refine bl_at (Γ' := [sD (.lst (trisD tr)), sD (.lst (rowsD n R)), sD (.lst (ns.map .str)), sD (.lst (spairsD prs)), sL (lstsD (plcF ns (runT (fullF (ns.take n)) (tr.take i)))), q5, sI (ns.idxOf t.2.1), sD (triD t), sD (.str t.1), sD (spairD t.2.2), sI (ns.idxOf t.1), none, none, none]) rfl ?_
    refine bl_ifR (q := false) (px_is (px_ninNL (pv_var 6) (pv_ixO 4 rfl (pv_var 10) (atI_nat (lstsD_of (plcF_at t1))))) (by rw [decide_eq_true (List.mem_map.mpr ⟨_, tk2, rfl⟩)]; rfl)) (fun h => by cases h) fun _ => ?_
    have cmp : ∀ (x : Str), x ∈ ns → ∀ z ∈ (runT (fullF (ns.take n)) (tr.take i) x).map (fun z => ns.idxOf z), z < n := fun x hx z hz => by
      obtain ⟨y, hy, rfl⟩ := List.mem_map.mp hz
      exact hkn y (hF x y hy)
    refine bl_ifR (q := false) (px_is (px_w (pw_a (px_cmp op_eq (pv_var 8) (pv_s ix_tup (pv_var (d := .tup [.str t.2.2.1, .str t.2.2.2]) 9) pv_int (sc_ixT rfl)) sc_eqS) fun _ => pw_a1 (px_cmp op_gt (pv_lenL (pn_pv (pn_is (o' := .lst (natsD (((runT (fullF (ns.take n)) (tr.take i) t.2.2.2).map fun z => ns.idxOf z).filter (R (ns.idxOf t.2.1))))) (pn_lcA (c := cN) (u := uN) (l := (runT (fullF (ns.take n)) (tr.take i) t.2.2.2).map fun z => ns.idxOf z) (f := fun y => [sD (.lst (trisD tr)), sD (.lst (rowsD n R)), sD (.lst (ns.map .str)), sD (.lst (spairsD prs)), sL (lstsD (plcF ns (runT (fullF (ns.take n)) (tr.take i)))), q5, sI (ns.idxOf t.2.1), sD (triD t), sD (.str t.1), sD (spairD t.2.2), sI (ns.idxOf t.1), sI y, none, none]) (own := [("high", 11)]) (ix := [11]) (bind := bName 11) (R (ns.idxOf t.2.1)) cN uN_cN (blk nWalked (defScope s_walked)) nd
      (wp_list (pv_ixO 4 rfl (pv_indexS (pv_var 2) (pv_s ix_tup (pv_var (d := .tup [.str t.2.2.1, .str t.2.2.2]) 9) pv_int (sc_ixT rfl)) (idx_first i2).1 (idx_first i2).2) (atI_nat (lstsD_of (plcF_at i2))))) (fun s H C cl fp => gv_name 11 nd (hz := .inl ho)) (bindOk_name 11) (by decide) (.inl ho) (by rw [List.length_map]; exact Nat.le_trans (hFl _) (by decide)) (fun y _ => rfl) (fun y hy s H C cl fp => pts_if (px_rowI (pv_var 1) (pv_var 6) (pv_var 11) (hkn _ t2) (cmp _ i2 y hy))) (fun y _ _ s H C cl fp => pv_var 11)) rfl)) b.len) pv_int sc_gt))) ?_) (fun h => by cases h) fun _ => ?_
    · by_cases q : t.1 = t.2.2.1
      · rw [decide_eq_true q, Bool.true_and]
        refine decide_eq_false ?_
        have : ((runT (fullF (ns.take n)) (tr.take i) t.2.2.2).map fun z => ns.idxOf z).filter (R (ns.idxOf t.2.1)) = [] := by
          refine List.filter_eq_nil_iff.mpr fun z hz => ?_
          obtain ⟨y, hy, rfl⟩ := List.mem_map.mp hz
          have h3 := tl q y hy
          rw [wp.hR _ t2 _ (hF _ _ hy)] at h3
          rw [h3]
          exact Bool.false_ne_true
        rw [this]
        exact by decide
      · rw [decide_eq_false q]; rfl
    refine bl_ifR (q := false) (px_is (px_w (pw_a (px_cmp op_eq (pv_var 8) (pv_s ix_tup (pv_var (d := .tup [.str t.2.2.1, .str t.2.2.2]) 9) pv_int (sc_ixT rfl)) sc_eqS) fun _ => pw_a1 (px_cmp op_gt (pv_lenL (pn_pv (pn_is (o' := .lst (natsD (((runT (fullF (ns.take n)) (tr.take i) t.2.2.1).map fun z => ns.idxOf z).filter fun x => R x (ns.idxOf t.2.1)))) (pn_lcA (c := cN) (u := uN) (l := (runT (fullF (ns.take n)) (tr.take i) t.2.2.1).map fun z => ns.idxOf z) (f := fun y => [sD (.lst (trisD tr)), sD (.lst (rowsD n R)), sD (.lst (ns.map .str)), sD (.lst (spairsD prs)), sL (lstsD (plcF ns (runT (fullF (ns.take n)) (tr.take i)))), q5, sI (ns.idxOf t.2.1), sD (triD t), sD (.str t.1), sD (spairD t.2.2), sI (ns.idxOf t.1), none, sI y, none]) (own := [("low", 12)]) (ix := [12]) (bind := bName 12) (fun x => R x (ns.idxOf t.2.1)) cN uN_cN (blk nWalked (defScope s_walked)) nd
      (wp_list (pv_ixO 4 rfl (pv_indexS (pv_var 2) (pv_s ix_tup (pv_var (d := .tup [.str t.2.2.1, .str t.2.2.2]) 9) pv_int (sc_ixT rfl)) (idx_first i1).1 (idx_first i1).2) (atI_nat (lstsD_of (plcF_at i1))))) (fun s H C cl fp => gv_name 12 nd (hz := .inl ho)) (bindOk_name 12) (by decide) (.inl ho) (by rw [List.length_map]; exact Nat.le_trans (hFl _) (by decide)) (fun y _ => rfl) (fun y hy s H C cl fp => pts_if (px_rowI (pv_var 1) (pv_var 12) (pv_var 6) (cmp _ i1 y hy) (hkn _ t2))) (fun y _ _ s H C cl fp => pv_var 12)) rfl)) b.len) pv_int sc_gt))) ?_) (fun h => by cases h) fun _ => ?_
    · by_cases q : t.1 = t.2.2.2
      · rw [decide_eq_true q, Bool.true_and]
        refine decide_eq_false ?_
        have : ((runT (fullF (ns.take n)) (tr.take i) t.2.2.1).map fun z => ns.idxOf z).filter (fun x => R x (ns.idxOf t.2.1)) = [] := by
          refine List.filter_eq_nil_iff.mpr fun z hz => ?_
          obtain ⟨y, hy, rfl⟩ := List.mem_map.mp hz
          have h3 := th q y hy
          rw [wp.hR _ (hF _ _ hy) _ t2] at h3
          rw [h3]
          exact Bool.false_ne_true
        rw [this]
        exact by decide
      · rw [decide_eq_false q]; rfl
    refine bl_subP 4 (d := .lst (natsD (((runT (fullF (ns.take n)) (tr.take i) t.1).map fun z => ns.idxOf z).filter fun z => !decide (z = ns.idxOf t.2.1)))) (m := ns.idxOf t.1) (pn_pv (pn_is (o' := .lst (natsD (((runT (fullF (ns.take n)) (tr.take i) t.1).map fun z => ns.idxOf z).filter fun z => !decide (z = ns.idxOf t.2.1)))) (pn_lcA (c := cN) (u := uN) (l := (runT (fullF (ns.take n)) (tr.take i) t.1).map fun z => ns.idxOf z) (f := fun y => [sD (.lst (trisD tr)), sD (.lst (rowsD n R)), sD (.lst (ns.map .str)), sD (.lst (spairsD prs)), sL (lstsD (plcF ns (runT (fullF (ns.take n)) (tr.take i)))), q5, sI (ns.idxOf t.2.1), sD (triD t), sD (.str t.1), sD (spairD t.2.2), sI (ns.idxOf t.1), none, none, sI y]) (own := [("other", 13)]) (ix := [13]) (bind := bName 13) (fun z => !decide (z = ns.idxOf t.2.1)) cN uN_cN (blk nWalked (defScope s_walked)) nd
      (wp_list (pv_ixO 4 rfl (pv_var 10) (atI_nat (lstsD_of (plcF_at t1))))) (fun s H C cl fp => gv_name 13 nd (hz := .inl ho)) (bindOk_name 13) (by decide) (.inl ho) (by rw [List.length_map]; exact Nat.le_trans (hFl _) (by decide)) (fun y _ => rfl) (fun y hy s H C cl fp => pts_if (px_is (px_cmp op_ne (pv_var 13) (pv_var 6) sc_neI) (congrArg not (decide_eq_decide.mpr (by omega))))) (fun y _ _ s H C cl fp => pv_var 13)) rfl)) rfl (pv_var 10) (ixN_nat (by unfold lstsD; rw [List.length_map, plcF_len]; exact idx_lt t1)) ?_
    refine bl_nil ⟨rfl, q5, sI (ns.idxOf t.2.1), sD (triD t), sD (.str t.1), sD (spairD t.2.2), sI (ns.idxOf t.1), ?_⟩
    have e9 : (lstsD (plcF ns (runT (fullF (ns.take n)) (tr.take i)))).set (ns.idxOf t.1) (.lst (natsD (((runT (fullF (ns.take n)) (tr.take i) t.1).map fun z => ns.idxOf z).filter fun z => !decide (z = ns.idxOf t.2.1)))) = lstsD (plcF ns (runT (fullF (ns.take n)) (tr.take (i + 1)))) := by
      rw [runT_snoc ht, plcF_rm wp.nd t1 (hks _ t2) fun z hz => hks _ (hF _ _ hz)]
      unfold lstsD
      rw [List.map_set]
    rw [← e9]
    rfl
  · rintro ds Γ1 ⟨rfl, q5, q6, q7, q8, q9, q10, rfl⟩
    rw [trisD_len, List.take_length]
    exact bl_retV 4 rfl (hz := .inl ho) rfl
end
end Kf
end
section
set_option maxRecDepth 100000
set_option maxHeartbeats 1000000
/-! KiQ: a list lent to a row of statements, one's own again behind them. -/
namespace PyProof.Rows
open PySem PySem.Spec
theorem wp_execs_app {M : Model} {Γ : PySem.Ctx} {env : Env} {Q : Flow → Pos → Shared → Prop} {E : Value → Pos → Shared → Prop} {b : List Stmt} : ∀ {a : List Stmt} {p : Pos} {s : Shared}, Sem.wp M Γ (execs a env) (fun f p' s' => match f with | .next => Sem.wp M Γ (execs b env) Q E p' s' | f => Q f p' s') E p s → Sem.wp M Γ (execs (a ++ b) env) Q E p s
  | [], p, s, h => h
  | st :: a, p, s, h => by
    show Sem.wp M Γ (execs (st :: (a ++ b)) env) Q E p s
    rw [execs_cons, Sem.wp_bind'] at h ⊢
    refine Sem.wp_mono M Γ _ (fun f p' s' h' => ?_) (fun _ _ _ h' => h') _ _ h
    cases f with
    | next => exact wp_execs_app h'
    | ret v => exact h'
    | brk => exact h'
    | cont => exact h'
end PyProof.Rows
namespace Kf
open PySem L2
open PySem.Spec PyProof.Rows in
theorem pss_app {X : Cx} {a b : List Stmt} {t u : TS} (h1 : PSs X a t) (h2 : PSs X b u) : PSs X (a ++ b) (tSeq t u) := by
  refine ⟨fun pins s σ H D I h => ?_⟩
  have h3 := h1.run pins s σ H { D with nx := u D } I h
  intro Γ p hΓ
  refine wp_execs_app (Sem.wp_mono _ Γ _ (fun f p' s' h' => ?_) (fun _ _ _ h' => h') _ _ (h3 Γ p hΓ))
  cases f with
  | next =>
    obtain ⟨σ', H', I', q⟩ := h'
    exact h2.run pins s' σ' H' D I' q Γ p' hΓ
  | ret v => exact h'
  | brk => exact h'
  | cont => exact h'
section
variable {X : Cx} {e : Ent} {Γ : Gam} {k : Kn} {st : List Stmt}
/-- a row of statements cut at n -/
theorem bl_app (n : Nat) (Ψ : Gam → Prop) (h : BL X e (st.take n) Γ { k with nx := Ψ }) (hr : ∀ Γ', Ψ Γ' → BL X e (st.drop n) Γ' k) : BL X e st Γ k := by
  have hr' : PSs X (st.drop n) (fun D σ H => ∃ Γ', Ψ Γ' ∧ tS X.K e Γ' k D σ H) := ⟨fun pins s σ H D I ⟨Γ', h1, q⟩ => (hr Γ' h1).run pins s σ H D I q⟩
  have hh := pss_app h hr'
  rw [List.take_append_drop] at hh
  refine PSs.imp hh fun D σ H ⟨S, w, n, bk, ct, rt⟩ => ⟨S, w, fun S' σ' H' Γ' q s w' => ⟨Γ', q, S', w', fun S2 σ2 H2 Γ2 q2 s2 w2 => n S2 σ2 H2 Γ2 q2 (s.trans s2) w2,
    fun S2 σ2 H2 Γ2 q2 s2 w2 => bk S2 σ2 H2 Γ2 q2 (s.trans s2) w2, fun S2 σ2 H2 Γ2 q2 s2 w2 => ct S2 σ2 H2 Γ2 q2 (s.trans s2) w2, fun S2 σ2 H2 v b Γ2 q2 s2 w2 => rt S2 σ2 H2 v b Γ2 q2 (s.trans s2) w2⟩, bk, ct, rt⟩
/-- what is known of a lent list -/
structure Lent (K : Fg) (e : Ent) (l : List D) (S0 S1 : Hp) (p : Addr) (xs : List V) : Prop where
  s0 : S0 p = none
  h0 : e.H0 p = none
  s1 : S1 p = some (.lst xs)
  ne : ∀ b, b ≠ p → S1 b = S0 b
  rl : RpL K S0 xs l
/-- what stays behind -/
def Stays (K : Fg) (S1 : Hp) (p : Addr) : B → Prop
  | .st d => ∀ S v, Same S1 S → Rp K S v d → Rp K (del S p) v d
  | .ow o => ∀ S H a, Same S1 S → Own K S H a o → Own K (del S p) H a o
  | _ => False
theorem stays_flat {K : Fg} {S1 : Hp} {p : Addr} {d : D} (h : flat d = true) : Stays K S1 p (.st d) := fun S v _ r => r.flat h
theorem stays_ids {K : Fg} {l : List D} {S0 S1 : Hp} {p : Addr} {xs : List V} {v : V} {d : D} (L : Lent K e l S0 S1 p xs) (h : Rp K S0 v d) : Stays K S1 p (.st (.ids v d)) := fun S v' s r => by
  cases r
  refine .ids (h.mono fun b u z => ?_)
  have nb : b ≠ p := fun q => by rw [q, L.s0] at z; cases z
  rw [del_ne nb]
  exact s _ _ (by rw [L.ne b nb]; exact z)
def tagL (val : Nat → V) : List (Nat × D) → Gam → Gam
  | [], Γ => Γ
  | (j, d) :: r, Γ => (tagL val r Γ).set j (some (.st (.ids (val j) d)))
theorem bl_loan (n i : Nat) {l : List D} (js : List (Nat × D)) (Ψ : Hp → Addr → (Nat → V) → Gam → Prop) (hi : Γ[i]? = some (some (.ow (.lst l)))) (hz : e.own = none) (hj : ∀ q ∈ js, Γ[q.1]? = some (some (.st q.2)))
    (hb : ∀ S0 S1 p xs (val : Nat → V), Lent X.K e l S0 S1 p xs → BL X (e.at_ S1) (st.take n) ((tagL val js Γ).set i (some (.st (.ids (.ref p) (.lst l))))) { k with nx := Ψ S1 p val })
    (hr : ∀ S0 S1 p xs (val : Nat → V) Γ', Lent X.K e l S0 S1 p xs → (∀ q ∈ js, Rp X.K S0 (val q.1) q.2) → Ψ S1 p val Γ' → ∃ Γ2 : Gam, Γ2.length = Γ'.length ∧ Γ'[i]? = some (some (.st (.ids (.ref p) (.lst l)))) ∧ (∀ j b, j ≠ i → Γ2[j]? = some (some b) → Γ'[j]? = some (some b) ∧ Stays X.K S1 p b) ∧ BL X (e.at_ S0) (st.drop n) (Γ2.set i (some (.ow (.lst l)))) k) : BL X e st Γ k := by
  have h1 : PSs X (st.take n) (fun D σ H => ∃ S0 S1 p xs val, Lent X.K e l S0 S1 p xs ∧ tS X.K (e.at_ S1) ((tagL val js Γ).set i (some (.st (.ids (.ref p) (.lst l))))) { k with nx := Ψ S1 p val } D σ H) :=
    ⟨fun pins s σ H D I ⟨S0, S1, p, xs, val, L, q⟩ => (hb S0 S1 p xs val L).run pins s σ H D I q⟩
  have h2 : PSs X (st.drop n) (fun D σ H => ∃ S0 Γ3, BL X (e.at_ S0) (st.drop n) Γ3 k ∧ tS X.K (e.at_ S0) Γ3 k D σ H) := ⟨fun pins s σ H D I ⟨S0, Γ3, h, q⟩ => h.run pins s σ H D I q⟩
  have hh := pss_app h1 h2
  rw [List.take_append_drop] at hh
  refine PSs.imp hh fun D σ H ⟨S, w, nx, bk, ct, rt⟩ => ?_
  obtain ⟨p, S1, g1, g2, g3, g4, g5, g6, g7, g8⟩ := frz_slot w hi hz
  obtain ⟨xs, hx, rx⟩ := g3
  have hS1 : S1 p = some (.lst xs) := by
    cases g8 with
    | lst r1 r2 =>
      rcases r1 with r1 | ⟨o, r1⟩
      · have := g7.nx.sh _ _ r1
        rw [hx] at this
        cases this
        exact r1
      · have := g7.nx.sh _ _ r1
        rw [hx] at this
        cases this
  have L : Lent X.K e l S S1 p xs := ⟨g2, g4, hS1, g6, rx⟩
  have hval : ∃ val : Nat → V, ∀ j d, Γ[j]? = some (some (.st d)) → σ[j]? = some (some (val j)) ∧ Rp X.K S (val j) d := by
    refine ⟨fun j => ((σ[j]?).getD none).getD .non, fun j d q => ?_⟩
    obtain ⟨v, h1, h2⟩ := w.sl.at_ j _ q
    have e3 : ((σ[j]?).getD none).getD .non = v := by rw [h1]; rfl
    show σ[j]? = some (some (((σ[j]?).getD none).getD .non)) ∧ Rp X.K S (((σ[j]?).getD none).getD .non) d
    rw [e3]
    exact ⟨h1, h2⟩
  obtain ⟨val, hval⟩ := hval
  have e2 : Γ.set i (some (.st (O.lst l).d)) = Γ.set i (some (.st (.lst l))) := rfl
  rw [e2] at g7
  have wt : Wd X.K (e.at_ S1) S1 H σ ((tagL val js Γ).set i (some (.st (.ids (.ref p) (.lst l))))) := by
    have key : ∀ (js : List (Nat × Kf.D)), (∀ q ∈ js, Γ[q.1]? = some (some (.st q.2))) → (tagL val js Γ).length = Γ.length ∧ ∀ (j : Nat) (b : B), (tagL val js Γ)[j]? = some (some b) → Γ[j]? = some (some b) ∨ ∃ d, b = .st (.ids (val j) d) ∧ Γ[j]? = some (some (.st d)) := fun js => by
      induction js with
      | nil => exact fun _ => ⟨rfl, fun j b h => .inl h⟩
      | cons q r ih =>
        intro hq
        obtain ⟨k1, k2⟩ := ih fun z hz => hq z (List.mem_cons_of_mem _ hz)
        refine ⟨by show ((tagL val r Γ).set _ _).length = _; rw [List.length_set, k1], fun j b h => ?_⟩
        rcases get_set h with ⟨rfl, h'⟩ | ⟨nq, h'⟩
        · cases h'
          exact .inr ⟨_, rfl, hq q List.mem_cons_self⟩
        · exact k2 j b h'
    obtain ⟨k1, k2⟩ := key js hj
    have wi := g7.into
    refine ⟨wi.nx, by rw [List.length_set, k1]; have := wi.sl.len; rw [List.length_set] at this; exact this, fun j b h => ?_, fun j1 j2 o1 o2 a q1 q2 q3 q4 => ?_, fun a z => by rw [show (e.at_ S1).own = e.own from rfl, hz] at z; cases z⟩
    · rcases get_set h with ⟨rfl, h'⟩ | ⟨nq, h'⟩
      · cases h'
        exact ⟨.ref p, g1, .ids g8⟩
      · rcases k2 j b h' with h2 | ⟨d, rfl, h2⟩
        · exact wi.sl.at_ j b (by rw [List.getElem?_set_ne nq]; exact h2)
        · obtain ⟨v1, v2⟩ := hval j d h2
          exact ⟨_, v1, .ids (v2.mono g5)⟩
    · have own : ∀ (j : Nat) (o : O), ((tagL val js Γ).set i (some (.st (.ids (.ref p) (.lst l)))))[j]? = some (some (.ow o)) → (Γ.set i (some (.st (.lst l))))[j]? = some (some (.ow o)) := fun j o h => by
        rcases get_set h with ⟨_, h'⟩ | ⟨nq, h'⟩
        · cases h'
        · rw [List.getElem?_set_ne nq]
          rcases k2 j _ h' with h2 | ⟨d, h2, _⟩
          · exact h2
          · cases h2
      exact wi.sl.dj j1 j2 o1 o2 a (own _ _ q1) (own _ _ q2) q3 q4
  have n1 : Nx e S1 H := g7.nx
  refine ⟨S, S1, p, xs, val, L, S1, wt, fun S' σ' H' Γ' q s' w' => ?_, fun S' σ' H' Γ' q s' w' => bk S' σ' H' Γ' q (g5.trans s') (w'.outof n1), fun S' σ' H' Γ' q s' w' => ct S' σ' H' Γ' q (g5.trans s') (w'.outof n1), fun S' σ' H' v b Γ' q s' w' ok => rt S' σ' H' v b Γ' q (g5.trans s') (w'.outof n1) ok.outof⟩
  obtain ⟨Γ2, l2, i2, hs, hbl⟩ := hr S S1 p xs val Γ' L (fun q hq => (hval _ _ (hj q hq)).2) q
  have sp' : S' p = some (.lst xs) := s' _ _ hS1
  have hp' : H' p = some (.lst xs) := w'.nx.sh _ _ sp'
  have sd : Same S (del S' p) := fun b u z => by
    have nb : b ≠ p := fun q => by rw [q, g2] at z; cases z
    rw [del_ne nb]
    exact s' _ _ (g5 _ _ z)
  have w2 : Wd X.K (e.at_ S) (del S' p) H' σ' (Γ2.set i (some (.ow (.lst l)))) := by
    refine ⟨⟨sd, fun b u z => ?_, w'.nx.hh, w'.nx.al, fun a z => ?_⟩, by rw [List.length_set, l2]; exact w'.sl.len, fun j b h => ?_, fun j1 j2 o1 o2 a q1 q2 q3 q4 => ?_, fun a z => by rw [show (e.at_ S).own = e.own from rfl, hz] at z; cases z⟩
    · by_cases q : b = p
      · rw [q, del_at] at z; cases z
      · rw [del_ne q] at z
        exact w'.nx.sh _ _ z
    · have na : a ≠ p := fun q => z (by rw [q]; exact g4)
      rw [del_ne na]
      exact (w'.nx.old a z).trans (g6 a na)
    · rcases get_set h with ⟨rfl, h'⟩ | ⟨nq, h'⟩
      · cases h'
        obtain ⟨v, v1, v2⟩ := w'.sl.at_ i _ i2
        have hv : v = .ref p := by cases v2; rfl
        subst hv
        exact ⟨_, v1, p, rfl, del_at, ⟨xs, hp', rx.mono sd⟩, .inl g4⟩
      · obtain ⟨h2, h3⟩ := hs j b (fun q => nq q.symm) h'
        obtain ⟨v, v1, v2⟩ := w'.sl.at_ j b h2
        refine ⟨v, v1, ?_⟩
        cases b with
        | st d => exact h3 S' v s' v2
        | ow o =>
          obtain ⟨a, ea, sa, oa, za⟩ := v2
          have na : a ≠ p := fun q => by rw [q, sp'] at sa; cases sa
          exact ⟨a, ea, by rw [del_ne na]; exact sa, h3 S' H' a s' oa, za⟩
        | xc a d fl => exact h3.elim
        | nw d l => exact h3.elim
        | nt o1 o2 => exact h3.elim
    · have own : ∀ (j : Nat) (o : O), σ'[j]? = some (some (.ref a)) → (Γ2.set i (some (.ow (.lst l))))[j]? = some (some (.ow o)) → (j = i ∧ a = p) ∨ (j ≠ i ∧ a ≠ p ∧ Γ'[j]? = some (some (.ow o))) := fun j o hj h => by
        rcases get_set h with ⟨rfl, h'⟩ | ⟨nq, h'⟩
        · obtain ⟨v, v1, v2⟩ := w'.sl.at_ i _ i2
          cases v2
          rw [v1] at hj
          cases hj
          exact .inl ⟨rfl, rfl⟩
        · obtain ⟨h2, _⟩ := hs j _ (fun q => nq q.symm) h'
          obtain ⟨v, v1, a', ea, sa, _⟩ := w'.sl.at_ j _ h2
          rw [v1] at hj
          cases hj
          cases ea
          exact .inr ⟨fun q => nq q.symm, (fun q => by rw [q, sp'] at sa; cases sa), h2⟩
      rcases own j1 o1 q3 q1 with ⟨a1, a2⟩ | ⟨a1, a2, a3⟩
      · rcases own j2 o2 q4 q2 with ⟨b1, b2⟩ | ⟨b1, b2, b3⟩
        · rw [a1, b1]
        · exact absurd a2 b2
      · rcases own j2 o2 q4 q2 with ⟨b1, b2⟩ | ⟨b1, b2, b3⟩
        · exact absurd b2 a2
        · exact w'.sl.dj j1 j2 o1 o2 a a3 b3 q3 q4
  have n0 : Nx e S H := w.nx
  exact ⟨S, _, hbl, del S' p, w2, fun S2 σ2 H2 Γ3 q2 s2 w3 => nx S2 σ2 H2 Γ3 q2 (sd.trans s2) (w3.outof n0), fun S2 σ2 H2 Γ3 q2 s2 w3 => bk S2 σ2 H2 Γ3 q2 (sd.trans s2) (w3.outof n0), fun S2 σ2 H2 Γ3 q2 s2 w3 => ct S2 σ2 H2 Γ3 q2 (sd.trans s2) (w3.outof n0), fun S2 σ2 H2 v b Γ3 q2 s2 w3 ok => rt S2 σ2 H2 v b Γ3 q2 (sd.trans s2) (w3.outof n0) ok.outof⟩
end
end Kf
end
section
set_option maxRecDepth 100000
set_option maxHeartbeats 1000000
/-! KiR: _law_refused, _law_right of the narrowed: walked. -/
namespace Kf
open PySem L2
theorem delL_sqT {K : Fg} {S : Hp} {p a : Addr} {xs ys : List V} (hp : S p = some (.lst xs)) (h : SqT K S a ys) : SqT K (del S p) a ys := by
  rcases h with h | h
  · have ne : a ≠ p := fun q => by
      subst q
      rcases h with h | ⟨o, h⟩
      · rw [hp] at h; cases h
      · rw [hp] at h; cases h
    rcases h with h | ⟨o, h⟩
    · exact .inl (.inl (by rw [del_ne ne]; exact h))
    · exact .inl (.inr ⟨o, by rw [del_ne ne]; exact h⟩)
  · exact .inr h
theorem delL_tris {K : Fg} {S : Hp} {p : Addr} {us : List V} (hp : S p = some (.lst us)) : ∀ {xs : List V} {l : List Tri}, RpL K S xs (trisD l) → RpL K (del S p) xs (trisD l)
  | _, [], .nil => .nil
  | _, (a, b, c, d) :: l, .cons r t => by
    refine .cons ?_ (delL_tris hp t)
    cases r with
    | tup g1 g2 =>
      cases g2 with
      | cons r1 g3 =>
        cases g3 with
        | cons r2 g4 =>
          cases g4 with
          | cons r3 g5 =>
            cases g5
            cases r3 with
            | tup h1 h2 => exact .tup (delL_sqT hp g1) (.cons (r1.flat rfl) (.cons (r2.flat rfl) (.cons (.tup (delL_sqT hp h1) (strs_any (l := [c, d]) h2)) .nil)))
theorem stays_tris {K : Fg} {e : Ent} {l : List D} {S0 S1 : Hp} {p : Addr} {xs : List V} (L : Lent K e l S0 S1 p xs) {tr : List Tri} : Stays K S1 p (.ow (.lst (trisD tr))) := fun S H a s ⟨ys, h, r⟩ => ⟨ys, h, delL_tris (s _ _ L.s1) r⟩
section
variable {X : Cx} {e : Ent} {Γ : Gam} {x a b : Expr} {pos p : Pos} {j : Nat}
/-- len(x), x never there -/
theorem ev_lenF (ha : EV X e x Γ fun _ _ => False) (hm : X.mg "len" = none) (hg : Gl X "len" := by rfl) (he : starEach [x] X.env = (false, eval x X.env) :: starEach [] X.env := by rfl) (hpl : (backTo pos (starEach [] X.env)).any (·.1) = false := by rfl) : EV X e (.Call (.Name "len" p) [x] [] pos) Γ fun _ _ => False :=
  PE.imp (pe_callB call_len hg hm (by decide +kernel) (av_one (Ψ := fun _ _ => False) ha (fun _ _ h => h) he) (by decide) (by decide) he hpl) fun σ H Q ⟨S, w, q⟩ => ⟨S, w, fun S1 H1 vs ds Γ1 hd => hd.elim⟩
theorem px_inNL {z : Nat} {ns : List Nat} (ha : PV X e a Γ (.int (z : Int))) (hb : PV X e b Γ (.lst (natsD ns))) (hm : behindInMarks .In b = false := by first | exact nomark _ | rfl) : PX X e (.Compare a [.In] [b] pos) Γ (decide (z ∈ ns)) := by
  have e1 : natsD ns = (ns.map fun n : Nat => (n : Int)).map D.int := by
    unfold natsD
    rw [List.map_map]
    rfl
  have e2 : decide ((z : Int) ∈ ns.map fun n : Nat => (n : Int)) = decide (z ∈ ns) := by
    refine decide_eq_decide.mpr ⟨fun h => ?_, fun h => List.mem_map.mpr ⟨z, h, rfl⟩⟩
    obtain ⟨y, hy, e⟩ := List.mem_map.mp h
    have : y = z := by omega
    exact this ▸ hy
  rw [e1] at hb
  rw [← e2]
  exact px_inI ha (.inl hb) hm
/-! [] in lists -/
def pyL (l : List Nat) : PyData := .list (l.map fun n : Nat => .int (n : Int))
theorem pyD_L (l : List Nat) : PyD (.lst (natsD l)) (pyL l) := pyD_map (c := fun n : Nat => D.int (n : Int)) (fun n => .int _) l
theorem eqv_L (l : List Nat) : PyData.eqv (pyL l) (pyL []) = decide (l = []) := by
  cases l with
  | nil => simp [pyL, PyData.eqv, PyData.eqvAll]
  | cons a l => simp [pyL, PyData.eqv, PyData.eqvAll]
theorem lay_L (l : List Nat) : PyData.canLay0 (pyL l) = true ∧ (pyL l).depth ≤ 5 := by
  have key : ∀ l : List Nat, PyData.canLayAll0 (l.map fun n : Nat => PyData.int (n : Int)) = true ∧ PyData.depthAll (l.map fun n : Nat => PyData.int (n : Int)) ≤ 2 := fun l => by
    induction l with
    | nil => exact ⟨by simp [PyData.canLayAll0], by simp [PyData.depthAll]⟩
    | cons a l ih =>
      obtain ⟨h1, h2⟩ := ih
      refine ⟨by simp [PyData.canLayAll0, PyData.canLay0, h1], ?_⟩
      simp only [List.map_cons, PyData.depthAll, PyData.depth]
      omega
  obtain ⟨h1, h2⟩ := key l
  refine ⟨by simp [pyL, PyData.canLay0, h1], ?_⟩
  simp only [pyL, PyData.depth]
  omega
theorem pv_inE {Ls : List (List Nat)} (hr : Room j X.A) (ha : PV X e a Γ (.lst (natsD []))) (hb : PV X e b Γ (.lst (lstsD Ls))) (hm : behindInMarks .In b = false := by first | exact nomark _ | rfl) : PV X e (.Compare a [.In] [b] pos) Γ (.bl (Ls.any fun l => decide (l = []))) := by
  have h1 := pv_c (pos := pos) (op_inD (room_65 hr)) ha hb (sc_inP (pyD_L []) (pyD_map (c := fun l => D.lst (natsD l)) (f := pyL) pyD_L Ls) (by
    have := shp_lst (f := pyL) (l := []) (fun a h => by cases h)
    exact this) (shp_lst fun a h => ⟨(lay_L a).1, by have := (lay_L a).2; omega⟩)) hm
  refine pv_is h1 (congrArg D.bl ?_)
  rw [List.any_map]
  congr 1
  funext l
  exact eqv_L l
end
structure Er9 (K : Fg) (mg : Str → Option Value) : Prop where
  gNL : mg "NotListed" = some (.ref (He.ga K "NotListed"))
  gBN : mg "BadName" = some (.ref (He.ga K "BadName"))
  gKE : mg "KindError" = some (.ref (He.ga K "KindError"))
  gVE : mg "ValueError" = none
  nl : XkC K "NotListed"
  fNL : PySem.W.findIn K (.ref (He.ga K "NotListed")) "name" = some none
  ve : PySem.W.kitOne K (.ref (He.ga K "NotListed")) (.type "ValueError") = some true
  ke : PySem.W.exmOne K (.ref (He.ga K "NotListed")) (.ref (He.ga K "KindError")) = some true
  nlnl : IsK K "NotListed" "NotListed" true
  nlbn : IsK K "NotListed" "BadName" false
section
variable {P : Program} {w : World} {K : Fg} {mg : Str → Option Value} {base : Heap}
def cRef72 (o : Ods) (prs : List (Str × Str)) (z : Str) : Fp where
  pre ds := ds = [.obj "Sayings" (dSay o prs), .str z] ∧ NSay o prs ∧ z ∉ nmsS o prs
  post ds b := b = .st (.lst [.str "NotListed", .str z])
  exn _ _ _ := False
abbrev s_ref72 : Stmt := top 65
abbrev nRef72 : List Str := ["sayings", "name", "e"]
theorem scRef72 : FnScope nRef72 ["sayings", "name"] (defScope s_ref72) := ⟨rfl, rfl, rfl, by decide +kernel, rfl, by decide +kernel, by decide +kernel⟩
theorem ok_ref72 {f : Addr} {fd : FuncData} (F : FunS K "_law_refused" s_ref72 f fd) (b : Bi mg) (er : Er9 K mg) (N1 : ∀ o prs z, Dx P w K mg base "narrowed" 7 (cNarrowed o prs z)) (o : Ods) (prs : List (Str × Str)) (z : Str) : FnOk P w K mg base (L2.CX P w) 8 f fd ["sayings", "name"] (spP K (cRef72 o prs z)) := by
  refine fp_ok F scRef72 (fun ds ⟨h, _⟩ => by rw [h]; rfl) fun cdv A outer s e Ex ds ho ⟨hd, ns, hz0⟩ hr tk => ?_
  subst hd
  have nd := scRef72.nd
  refine bl_try 2 (.ref (He.ga K "KindError")) (fun y fl Γ => y = "NotListed" ∧ fl = [(("name" : Str), D.str z)] ∧ Γ = [sD (.obj "Sayings" (dSay o prs)), sD (.str z), none]) rfl rfl nd ⟨rfl, by decide, .inl er.gKE⟩ (fun S pn xe tk2 => ?_) (fun y fl Γ1 h => by rw [h.1]; exact er.ke) (fun S a oe d pn y fl Γ1 h hz hf => ?_) (hz := .inl ho)
  · refine bl_ret (Φ := fun _ _ => False) (ev_lst (Φa := fun _ _ => False) (av_two (Φb := fun _ _ => False) pv_str (ev_lenF (ev_call (N1 o prs z) hr (by omega) tk2 (pvs_av (pvs_cons (pv_var 0) (pvs_cons (pv_var 1) pvs_nil))) ?_) b.len) ?_) ?_) ?_
    · rintro ds Γ1 ⟨rfl, rfl⟩
      exact ⟨⟨rfl, ns⟩, fun _ ⟨g1, g2⟩ => absurd g1 hz0, fun y fl ⟨g1, g2, g3⟩ => ⟨g2, g3, rfl⟩⟩
    · rintro d Γ1 h
      exact h.elim
    · rintro d Γ1 h
      exact h.elim
    · rintro d Γ1 h
      exact h.elim
  · obtain ⟨rfl, rfl, rfl⟩ := h
    refine bl_ifR (px_w (pw_a (k := true) (l := true && !false) (px_val (pv_isX (x := "NotListed") 2 true er.nl.ex hz hf rfl b.isinstance (.inl ⟨er.gNL, er.nlnl⟩))) fun _ => pw_a (k := true) (l := !false) (px_val (pv_isX (x := "NotListed") 2 true er.nl.ex hz hf rfl b.isinstance (.inr ⟨"ValueError", er.gVE, by decide +kernel, by decide, er.ve⟩))) fun _ => pw_a1 (px_not (px_val (pv_isX (x := "NotListed") 2 false er.nl.ex hz hf rfl b.isinstance (.inl ⟨er.gBN, er.nlbn⟩)))))) (fun _ => ?_) fun h => by cases h
    exact bl_retP (d := .lst [.str "NotListed", .str z]) (pv_lst (pvs_cons pv_str (pvs_cons (pv_xf (x := "NotListed") 2 er.nl.xf er.fNL hz hf (dt := .str z) rfl) pvs_nil))) rfl
/-! ### _law_right -/
structure RtP (o : Ods) (prs : List (Str × Str)) (es : List (Nat × Nat)) (R : Nat → Nat → Bool) : Prop where
  ns : NSay o prs
  ok : OdOk o
  inn : ∀ p ∈ es, p.1 < (nmsS o prs).length ∧ p.2 < (nmsS o prs).length
  el : es.length ≤ 100
  nm : named (nmsS o prs) es = ddp prs
  rel : ∀ a ∈ o.ks, ∀ b ∈ o.ks, relE o a b = R ((nmsS o prs).idxOf a) ((nmsS o prs).idxOf b)
  str : ∀ z ∈ nmsS o prs, PyData.strOk z = true
theorem take_nms {o : Ods} {prs : List (Str × Str)} : (nmsS o prs).take o.ks.length = o.ks := List.take_left
section
variable {o : Ods} {prs : List (Str × Str)} {es : List (Nat × Nat)} {R : Nat → Nat → Bool}
theorem RtP.wk (h : RtP o prs es R) : WkP o.ks.length R (nmsS o prs) (ddp prs) (finN o prs).2 (relE o) := by
  refine ⟨h.ns.nn, by unfold nmsS; rw [List.length_append]; omega, h.ns.len, h.str, h.ns.inn, fun a ha b hb => ?_, ?_⟩
  · rw [take_nms] at ha hb
    exact h.rel a ha b hb
  · rw [take_nms]
    exact h.ns.fin.1.ok
theorem RtP.run (h : RtP o prs es R) : runT (fullF ((nmsS o prs).take o.ks.length)) (finN o prs).2 = (finN o prs).1 := by
  rw [take_nms]
  exact h.ns.fin.1.run.symm
theorem idx_nms {z : Str} (h : z ∈ o.ks) : (nmsS o prs).idxOf z = o.ks.idxOf z ∧ (nmsS o prs).idxOf z < o.ks.length := by
  have e : (nmsS o prs).idxOf z = o.ks.idxOf z := by unfold nmsS; rw [List.idxOf_append, if_pos h]
  exact ⟨e, by rw [e]; exact idx_lt h⟩
theorem RtP.stable (h : RtP o prs es R) : StableP R (plcF (nmsS o prs) (finN o prs).1) es := by
  intro p hp
  obtain ⟨i1, i2⟩ := h.inn p hp
  have hm : ((nmsS o prs).getD p.1 ⟨#[]⟩, (nmsS o prs).getD p.2 ⟨#[]⟩) ∈ ddp prs := by
    rw [← h.nm]
    exact List.mem_map.mpr ⟨p, hp, rfl⟩
  have hl := h.ns.fin.2 _ hm
  have at_ : ∀ i, i < (nmsS o prs).length → (plcF (nmsS o prs) (finN o prs).1).getD i [] = ((finN o prs).1 ((nmsS o prs).getD i ⟨#[]⟩)).map fun z => (nmsS o prs).idxOf z := fun i hi => by
    unfold plcF
    rw [List.getD_eq_getElem?_getD, List.getElem?_map, List.getElem?_eq_getElem hi, List.getD_eq_getElem?_getD, List.getElem?_eq_getElem hi]
    rfl
  have sub : ∀ i, i < (nmsS o prs).length → ∀ z ∈ (finN o prs).1 ((nmsS o prs).getD i ⟨#[]⟩), z ∈ o.ks := fun i hi z hz => (h.ns.fin.1.sub _ (getD_mem hi)).subset hz
  rw [at_ _ i1, at_ _ i2]
  constructor
  · intro a ha
    obtain ⟨x, hx, rfl⟩ := List.mem_map.mp ha
    refine Classical.byContradiction fun hno => ?_
    have : ((nmsS o prs).getD p.1 ⟨#[]⟩, x) ∈ looseF (relE o) (finN o prs).1 ((nmsS o prs).getD p.1 ⟨#[]⟩, (nmsS o prs).getD p.2 ⟨#[]⟩) := mem_loose.mpr (.inl ⟨rfl, hx, fun y hy => by
      cases q : relE o x y with
      | false => rfl
      | true =>
        exact absurd ⟨_, List.mem_map.mpr ⟨y, hy, rfl⟩, by rw [← h.rel x (sub _ i1 x hx) y (sub _ i2 y hy)]; exact q⟩ hno⟩)
    rw [hl] at this
    cases this
  · intro a ha
    obtain ⟨x, hx, rfl⟩ := List.mem_map.mp ha
    refine Classical.byContradiction fun hno => ?_
    have : ((nmsS o prs).getD p.2 ⟨#[]⟩, x) ∈ looseF (relE o) (finN o prs).1 ((nmsS o prs).getD p.1 ⟨#[]⟩, (nmsS o prs).getD p.2 ⟨#[]⟩) := mem_loose.mpr (.inr ⟨rfl, hx, fun y hy => by
      cases q : relE o y x with
      | false => rfl
      | true =>
        exact absurd ⟨_, List.mem_map.mpr ⟨y, hy, rfl⟩, by rw [← h.rel y (sub _ i1 y hy) x (sub _ i2 x hx)]; exact q⟩ hno⟩)
    rw [hl] at this
    cases this
/-- the list by its places -/
theorem RtP.due (h : RtP o prs es R) {z : Str} (hz : z ∈ nmsS o prs) : ((List.range o.ks.length).filter fun j => decide (j ∈ ((finN o prs).1 z).map fun z => (nmsS o prs).idxOf z)).map (fun j => D.str (o.ks.getD j ⟨#[]⟩)) = ((finN o prs).1 z).map .str := by
  have hs := h.ns.fin.1.sub z hz
  have e1 : (finN o prs).1 z = o.ks.filter fun y => decide (y ∈ (finN o prs).1 z) := (sub_filter hs h.ns.kn).symm
  have e2 : o.ks = (List.range o.ks.length).map fun j => o.ks.getD j ⟨#[]⟩ := by
    apply List.ext_getElem
    · rw [List.length_map, List.length_range]
    · intro i h1 h2
      rw [List.getElem_map, List.getElem_range, List.getD_eq_getElem?_getD, List.getElem?_eq_getElem h1]
      rfl
  have e3 : ((List.range o.ks.length).filter fun j => decide (j ∈ ((finN o prs).1 z).map fun z => (nmsS o prs).idxOf z)).map (fun j => o.ks.getD j ⟨#[]⟩) = (finN o prs).1 z := by
    refine Eq.trans ?_ e1.symm
    have e4 : (o.ks.filter fun y => decide (y ∈ (finN o prs).1 z)) = (((List.range o.ks.length).map fun j => o.ks.getD j ⟨#[]⟩).filter fun y => decide (y ∈ (finN o prs).1 z)) := by rw [← e2]
    rw [e4, List.filter_map]
    congr 1
    refine List.filter_congr fun j hj => ?_
    have hj' := List.mem_range.mp hj
    have hm : o.ks.getD j ⟨#[]⟩ ∈ o.ks := getD_mem hj'
    refine decide_eq_decide.mpr ⟨fun q => ?_, fun q => ?_⟩
    · obtain ⟨y, hy, ey⟩ := List.mem_map.mp q
      have hy' := hs.subset hy
      rw [(idx_nms hy').1] at ey
      have : o.ks.getD j ⟨#[]⟩ = y := by
        rw [← ey, List.getD_eq_getElem?_getD, (idx_first hy').1]
        rfl
      show o.ks.getD j ⟨#[]⟩ ∈ _
      rw [this]
      exact hy
    · refine List.mem_map.mpr ⟨_, q, ?_⟩
      rw [(idx_nms hm).1, List.getD_eq_getElem?_getD, List.getElem?_eq_getElem hj']
      exact h.ns.kn.idxOf_getElem j hj'
  calc _ = (((List.range o.ks.length).filter fun j => decide (j ∈ ((finN o prs).1 z).map fun z => (nmsS o prs).idxOf z)).map (fun j => o.ks.getD j ⟨#[]⟩)).map .str := by rw [List.map_map]; rfl
    _ = _ := by rw [e3]
end
theorem pl_tris (l : List Tri) (h : l.length ≤ 10000) : Pl 3 (.lst (trisD l)) := .lst (fun d hd => by
  obtain ⟨t, _, rfl⟩ := List.mem_map.mp hd
  refine .tup (fun d hd => ?_) (by show 3 ≤ 10000; decide)
  rcases List.mem_cons.mp hd with rfl | hd
  · exact .str _ _
  rcases List.mem_cons.mp hd with rfl | hd
  · exact .str _ _
  rw [List.mem_singleton.mp hd]
  refine .tup (fun d hd => ?_) (by show 2 ≤ 10000; decide)
  rcases List.mem_cons.mp hd with rfl | hd
  · exact .str _ _
  rw [List.mem_singleton.mp hd]
  exact .str _ _) (by rw [trisD_len]; exact h)
def cRt72 (o : Ods) (prs : List (Str × Str)) (es : List (Nat × Nat)) (R : Nat → Nat → Bool) : Fp where
  pre ds := ds = [.obj "Sayings" (dSay o prs), o.d, dStrs o.ks, dStrs (unkS prs), .lst (rowsD o.ks.length R), .lst (pairsD es)] ∧ RtP o prs es R
  post ds b := b = .st (.bl true)
  exn _ _ _ := False
abbrev s_rt72 : Stmt := top 66
abbrev nRt72 : List Str := ["sayings", "order", "names", "listed", "rows", "edges", "nodes", "trail", "lists", "k", "region", "due", "kept", "kind"]
theorem scRt72 : FnScope nRt72 ["sayings", "order", "names", "listed", "rows", "edges"] (defScope s_rt72) := ⟨rfl, rfl, rfl, by decide +kernel, rfl, by decide +kernel, by decide +kernel⟩
theorem ok_rt72 {f : Addr} {fd : FuncData} (F0 : FunS K "_law_right" s_rt72 f fd) (b : Bi mg) (rc : RgC K mg) (Q : ∀ ks E ls G, Od P w K mg base "Order" "Order" .Eq 4 (cOrdEq ks E ls G)) (Nt : ∀ o prs, Dx P w K mg base "trail_of" 7 (cTrail o prs)) (Nw : ∀ n R ns prs tr r, Dx P w K mg base "_law_walked" 1 (cWalked n R ns prs tr r)) (Nd : ∀ ns ps, Dx P w K mg base "_law_said" 1 (cLSd ns ps)) (Ns : ∀ n R Ls es, Dx P w K mg base "_law_stable" 1 (cStab n R Ls es)) (N1 : ∀ o prs z, Dx P w K mg base "narrowed" 7 (cNarrowed o prs z)) (N2 : ∀ o prs, Dx P w K mg base "is_stuck" 7 (cStuck o prs)) (S3 : Dx P w K mg base "_law_same" 4 (cSame 3)) (o : Ods) (prs : List (Str × Str)) (es : List (Nat × Nat)) (R : Nat → Nat → Bool) : FnOk P w K mg base (L2.CX P w) 8 f fd ["sayings", "order", "names", "listed", "rows", "edges"] (spP K (cRt72 o prs es R)) := by
  refine fp_ok F0 scRt72 (fun ds ⟨h, _⟩ => by rw [h]; rfl) fun cdv A outer s e Ex ds ho ⟨hd, rp⟩ hr tk => ?_
  subst hd
  have nd := scRt72.nd
  have ns := rp.ns
  have hl := ns.len
  have hkl := ns.kl
  have hnl : (nmsS o prs).length = o.ks.length + (unkS prs).length := List.length_append
  have htl : (finN o prs).2.length ≤ 1000 := by
    have h1 := ns.fin.1.ms
    have h2 := ns.small
    omega
  have hFl : ∀ z ∈ nmsS o prs, ((finN o prs).1 z).length ≤ 10 := fun z hz => Nat.le_trans (ns.fin.1.sub z hz).length_le hkl
  have eqo : eqS o.ks o.E o.ks o.E = true := eqO_self (o := o)
  refine bl_letO 6 (hz := .inl ho) (pn_eo (pn_is (o' := .lst ((nmsS o prs).map .str)) (pn_cat (pv_var 2) (pv_var 3) (by rw [List.length_map, List.length_map]; exact Nat.le_trans (m := 1000) (by omega) (by decide))) (congrArg O.lst List.map_append.symm))) (bl_frz 6 rfl (.inl ho) ?_)
  refine bl_letO 7 (hz := .inl ho) (pn_eo (pn_call (Nt o prs) hr (by omega) (pvs_cons (pv_var 0) pvs_nil) ⟨rfl, ns⟩ (fun _ h => h) (fun _ _ h => h))) ?_
  refine bl_at (Γ' := [sD (.obj "Sayings" (dSay o prs)), sD o.d, sD (dStrs o.ks), sD (dStrs (unkS prs)), sD (.lst (rowsD o.ks.length R)), sD (.lst (pairsD es)), sD (dStrs (nmsS o prs)), sL (trisD (finN o prs).2), none, none, none, none, none, none]) rfl ?_
  refine bl_loan 5 7 [(0, .obj "Sayings" (dSay o prs))] (fun S1 p val Γ => ∃ q1 q2 q3 q4 q5 q6 q8 q9 q10 q11 q13, Γ = [sD (.ids (val 0) (.obj "Sayings" (dSay o prs))), q1, q2, q3, q4, q5, q6, sD (.ids (.ref p) (.lst (trisD (finN o prs).2))), q8, q9, q10, q11, sL (trisD (finN o prs).2), q13]) rfl ho (fun q hq => by rw [List.mem_singleton.mp hq]; rfl) (fun S0 S1 p xs val L => ?_) ?_
  · have ho : (e.at_ S1).own = none := ho
    refine bl_at (Γ' := [sD (.ids (val 0) (.obj "Sayings" (dSay o prs))), sD o.d, sD (dStrs o.ks), sD (dStrs (unkS prs)), sD (.lst (rowsD o.ks.length R)), sD (.lst (pairsD es)), sD (dStrs (nmsS o prs)), sD (.ids (.ref p) (.lst (trisD (finN o prs).2))), none, none, none, none, none, none]) rfl ?_
    refine bl_letO 8 (hz := .inl ho) (pn_eo (pn_call (Nw o.ks.length R (nmsS o prs) (ddp prs) (finN o prs).2 (relE o)) hr (by omega) (pvs_cons (pv_tg (o := some (.ref p)) (pv_var 7)) (pvs_cons (pv_var 4) (pvs_cons (pv_var 6) (pvs_cons (pn_pv (pn_is (o' := .lst (spairsD (ddp prs))) (pn_call (Nd (nmsS o prs) es) hr (by omega) (pvs_cons (pv_var 6) (pvs_cons (pv_var 5) pvs_nil)) ⟨rfl, by have := rp.el; omega, rp.inn⟩ (fun _ h => h) (fun _ _ h => h)) (by rw [rp.nm]))) pvs_nil)))) ⟨rfl, rp.wk⟩ (fun _ h => h) (fun _ _ h => h))) (bl_frz 8 rfl (.inl ho) ?_)
    rw [rp.run]
    refine bl_at (Γ' := [sD (.ids (val 0) (.obj "Sayings" (dSay o prs))), sD o.d, sD (dStrs o.ks), sD (dStrs (unkS prs)), sD (.lst (rowsD o.ks.length R)), sD (.lst (pairsD es)), sD (dStrs (nmsS o prs)), sD (.ids (.ref p) (.lst (trisD (finN o prs).2))), sD (.lst (lstsD (plcF (nmsS o prs) (finN o prs).1))), none, none, none, none, none]) rfl ?_
    have pL : ∀ l ∈ plcF (nmsS o prs) (finN o prs).1, l.length ≤ 1000 ∧ ∀ x ∈ l, x < o.ks.length := fun l hl => by
      obtain ⟨z, hz, rfl⟩ := List.mem_map.mp hl
      refine ⟨by rw [List.length_map]; have := hFl z hz; omega, fun x hx => ?_⟩
      obtain ⟨y, hy, rfl⟩ := List.mem_map.mp hx
      exact (idx_nms ((ns.fin.1.sub z hz).subset hy)).2
    refine bl_ifR (q := false || !true) (px_w (pw_o (px_cmp op_isN (pv_var (d := .lst (lstsD (plcF (nmsS o prs) (finN o prs).1))) 8) pv_non sc_isN) fun _ => pw_o1 (px_not (px_val (pv_call (Ns o.ks.length R (plcF (nmsS o prs) (finN o prs).1) es) hr (by omega) (pvs_cons (pv_var 8) (pvs_cons (pv_var 4) (pvs_cons (pv_var 5) pvs_nil))) ⟨rfl, pL, fun p hp => by rw [plcF_len]; exact rp.inn p hp, rp.stable⟩ (fun _ h => h) (fun _ _ h => h)))))) (fun h => by cases h) fun _ => ?_
    refine bl_for (fun ds i Γ => ds = rng 0 (nmsS o prs).length ∧ ∃ q9 q10 q11, Γ = [sD (.ids (val 0) (.obj "Sayings" (dSay o prs))), sD o.d, sD (dStrs o.ks), sD (dStrs (unkS prs)), sD (.lst (rowsD o.ks.length R)), sD (.lst (pairsD es)), sD (dStrs (nmsS o prs)), sD (.ids (.ref p) (.lst (trisD (finN o prs).2))), sD (.lst (lstsD (plcF (nmsS o prs) (finN o prs).1))), q9, q10, q11, none, none]) (wv (wp_rng (n := (nmsS o prs).length) (pv_is (pv_lenL (pv_var 6) b.len) (by rw [List.length_map])) (by omega) b.range)) (gv_name 9 nd (hz := .inl ho)) ?_ ?_ ?_ (passes_of rfl)
    · rintro ds Γ1 ⟨rfl, rfl⟩
      exact ⟨rfl, none, none, none, rfl⟩
    · rintro ds i d Γ1 hdi ⟨rfl, q9, q10, q11, rfl⟩
      obtain ⟨hi, rfl⟩ := rng_at0 hdi
      have hm : (nmsS o prs).getD i ⟨#[]⟩ ∈ nmsS o prs := getD_mem hi
      refine ⟨_, rfl, bl_letO 10 (hz := .inl ho) (o := .obj "Region" (dReg o ((finN o prs).1 ((nmsS o prs).getD i ⟨#[]⟩)))) (pn_eo (pn_call (N1 o prs ((nmsS o prs).getD i ⟨#[]⟩)) hr (by omega) (pvs_cons (pv_tg (o := some (val 0)) (pv_var 0)) (pvs_cons (pv_s ix_list (pv_var 6) (pv_var 9) (sc_ixL (atI_nat (strs_at hi)))) pvs_nil)) ⟨rfl, ns⟩ (fun _ h => h.2) (fun _ _ h => h.1 hm))) (bl_frz 10 rfl (.inl ho) ?_)⟩
      refine bl_let 11 (hz := .inl ho) (d := .tup (((finN o prs).1 ((nmsS o prs).getD i ⟨#[]⟩)).map .str)) (pv_tupL (pn_pv (pn_is (o' := .lst (((finN o prs).1 ((nmsS o prs).getD i ⟨#[]⟩)).map .str)) (pn_lcA (c := cN) (u := uN) (l := List.range o.ks.length) (f := fun j => [sD (.ids (val 0) (.obj "Sayings" (dSay o prs))), sD o.d, sD (dStrs o.ks), sD (dStrs (unkS prs)), sD (.lst (rowsD o.ks.length R)), sD (.lst (pairsD es)), sD (dStrs (nmsS o prs)), sD (.ids (.ref p) (.lst (trisD (finN o prs).2))), sD (.lst (lstsD (plcF (nmsS o prs) (finN o prs).1))), sI i, sD (.obj "Region" (dReg o ((finN o prs).1 ((nmsS o prs).getD i ⟨#[]⟩)))), q11, none, sI j]) (own := [("kind", 13)]) (ix := [13]) (bind := bName 13) (fun j => decide (j ∈ ((finN o prs).1 ((nmsS o prs).getD i ⟨#[]⟩)).map fun z => (nmsS o prs).idxOf z)) (fun j => .str (o.ks.getD j ⟨#[]⟩)) uN_cN (blk nRt72 (defScope s_rt72)) nd
        (wp_is (wp_rng (n := o.ks.length) (pv_is (pv_lenL (pv_var 2) b.len) (by rw [List.length_map])) (by omega) b.range) (rng_nats _)) (fun s H C cl fp => gv_name 13 nd (hz := .inl ho)) (bindOk_name 13) (by decide) (.inl ho) (by rw [List.length_range]; omega) (fun y _ => rfl) (fun y hy s H C cl fp => pts_if (px_inNL (pv_var 13) (pv_s ix_list (pv_var 8) (pv_var 9) (sc_ixL (atI_nat (lstsD_of (by unfold plcF; rw [List.getElem?_map, List.getElem?_eq_getElem hi, List.getD_eq_getElem?_getD, List.getElem?_eq_getElem hi]; rfl))))))) (fun y hy _ s H C cl fp => pv_s ix_list (pv_var 2) (pv_var 13) (sc_ixL (atI_nat (strs_at (List.mem_range.mp hy)))))) (by rw [rp.due hm]))) b.tuple) ?_
      refine bl_ifR (q := !true || !true) (px_w (pw_o (px_not (px_val (pv_call (ds := [.tup (((finN o prs).1 ((nmsS o prs).getD i ⟨#[]⟩)).map .str), .tup (((finN o prs).1 ((nmsS o prs).getD i ⟨#[]⟩)).map .str)]) (d := .bl true) S3 hr (by omega) (pvs_cons (pv_fld rc.cls rc.nm (pv_var 10) rfl) (pvs_cons (pv_var 11) pvs_nil)) ⟨_, rfl, (pl_tupS 0 _ (by have := hFl _ hm; omega)).up (by decide)⟩ (fun _ h => h) (fun _ _ h => h.elim)))) fun _ => pw_o1 (px_not (px_own (t := true) (Q o.ks o.E o.ks o.E) (fun _ _ => rfl) hr (by omega) (pv_fld rc.cls rc.no (pv_var 10) rfl) (pv_var 1) ⟨rfl, rp.ok.rl, rp.ok.rl⟩ (fun bb h => by rw [h]; exact congrArg (fun z => B.st (.bl z)) eqo) (fun _ _ h => h.elim))))) (fun h => by cases h) fun _ => ?_
      exact bl_nil ⟨rfl, _, _, _, rfl⟩
    · rintro ds Γ1 ⟨rfl, q9, q10, q11, rfl⟩
      refine bl_ifR (q := !true) (px_not (px_val (pv_call (ds := [.bl (stuckB o prs), .bl (stuckB o prs)]) (d := .bl true) S3 hr (by omega) (pvs_cons (pv_call (d := .bl (stuckB o prs)) (N2 o prs) hr (by omega) (pvs_cons (pv_tg (o := some (val 0)) (pv_var 0)) pvs_nil) ⟨rfl, ns⟩ (fun _ h => h) (fun _ _ h => h)) (pvs_cons (pv_is (pv_inE (Ls := plcF (nmsS o prs) (finN o prs).1) hr (pv_lst pvs_nil) (pv_var 8)) ?_) pvs_nil)) ⟨_, rfl, .bl _ _⟩ (fun _ h => h) (fun _ _ h => h.elim)))) (fun h => by cases h) fun _ => ?_
      · unfold stuckB plcF
        rw [List.any_map]
        congr 2
        funext z
        show decide (List.map _ _ = []) = _
        exact decide_eq_decide.mpr ⟨fun h => by rw [List.map_eq_nil_iff.mp h]; rfl, fun h => by rw [List.length_eq_zero_iff.mp h]; rfl⟩
      refine bl_letO 12 (hz := .inl ho) (pn_eo (pn_list (.inl (pv_tg (o := some (.ref p)) (pv_var 7))) b.list)) ?_
      exact bl_nil ⟨_, _, _, _, _, _, _, _, _, _, _, rfl⟩
  · rintro S0 S1 p xs val Γ' L hv ⟨q1, q2, q3, q4, q5, q6, q8, q9, q10, q11, q13, rfl⟩
    have ho : (e.at_ S0).own = none := ho
    refine ⟨[sD (.ids (val 0) (.obj "Sayings" (dSay o prs))), none, none, none, none, none, none, none, none, none, none, none, sL (trisD (finN o prs).2), none], rfl, rfl, fun jj bb nj h => ?_, ?_⟩
    · match jj, h with
      | 0, h =>
        cases h
        exact ⟨rfl, stays_ids L (hv _ List.mem_cons_self)⟩
      | 12, h =>
        cases h
        exact ⟨rfl, stays_tris L⟩
      | 1, h | 2, h | 3, h | 4, h | 5, h | 6, h | 7, h | 8, h | 9, h | 10, h | 11, h | 13, h => cases h
      | n + 14, h => cases h
    · refine bl_clear 7 rfl (bl_frz 12 rfl (.inl ho) ?_)
      refine bl_retP (d := .bl true) (pv_call (ds := [.lst (trisD (finN o prs).2), .lst (trisD (finN o prs).2)]) (d := .bl true) S3 hr (by omega) (pvs_cons (pn_pv (pn_call (Nt o prs) hr (by omega) (pvs_cons (pv_tg (o := some (val 0)) (pv_var 0)) pvs_nil) ⟨rfl, ns⟩ (fun _ h => h) (fun _ _ h => h))) (pvs_cons (pv_var 12) pvs_nil)) ⟨_, rfl, pl_tris _ (by omega)⟩ (fun _ h => h) (fun _ _ h => h.elim)) rfl
end
end Kf
end
section
set_option maxRecDepth 100000
set_option maxHeartbeats 1000000
/-! KiS: plain: the tidied numbers against the sayings' names. -/
namespace Kf
open PySem L2
theorem snoc_ind {α : Type} {P : List α → Prop} (h0 : P []) (hs : ∀ l a, P l → P (l ++ [a])) (l : List α) : P l := by
  have key : ∀ m : List α, P m.reverse := fun m => by
    induction m with
    | nil => exact h0
    | cons a m ih => rw [List.reverse_cons]; exact hs _ _ ih
  have := key l.reverse
  rw [List.reverse_reverse] at this
  exact this
theorem ddp_mem {l : List (Str × Str)} {p : Str × Str} : p ∈ ddp l ↔ p ∈ l := by
  refine ⟨ddp_sub, fun h => ?_⟩
  induction l using snoc_ind with
  | h0 => cases h
  | hs l a ih =>
    rw [ddp_snoc]
    rcases List.mem_append.mp h with q | q
    · split
      · exact ih q
      · exact List.mem_append_left _ (ih q)
    · rw [List.mem_singleton.mp q]
      split
      · assumption
      · exact List.mem_append_right _ (List.mem_singleton.mpr rfl)
theorem addU_mem {acc : List Str} {z y : Str} : y ∈ addU acc z ↔ y ∈ acc ∨ (y = z ∧ isU z = true) := by
  unfold addU
  split
  · rename_i q
    rw [Bool.and_eq_true] at q
    rw [List.mem_append, List.mem_singleton]
    exact ⟨fun h => h.imp id fun h => ⟨h, q.1⟩, fun h => h.imp id fun h => h.1⟩
  · rename_i q
    refine ⟨.inl, fun h => ?_⟩
    rcases h with h | ⟨rfl, h⟩
    · exact h
    · refine Classical.byContradiction fun hn => q ?_
      rw [h, decide_eq_false hn]
      rfl
theorem unkF_mem {l : List (Str × Str)} {y : Str} : y ∈ unkF l ↔ isU y = true ∧ ∃ p ∈ l, y = p.1 ∨ y = p.2 := by
  induction l using snoc_ind with
  | h0 => exact ⟨(fun h => by cases h), (fun ⟨_, p, h, _⟩ => by cases h)⟩
  | hs l a ih =>
    rw [unkF_snoc, addU_mem, addU_mem, ih]
    constructor
    · rintro ((⟨h1, p, h2, h3⟩ | ⟨rfl, h⟩) | ⟨rfl, h⟩)
      · exact ⟨h1, p, List.mem_append_left _ h2, h3⟩
      · exact ⟨h, a, List.mem_append_right _ (List.mem_singleton.mpr rfl), .inl rfl⟩
      · exact ⟨h, a, List.mem_append_right _ (List.mem_singleton.mpr rfl), .inr rfl⟩
    · rintro ⟨h1, p, h2, h3⟩
      rcases List.mem_append.mp h2 with q | q
      · exact .inl (.inl ⟨h1, p, q, h3⟩)
      · rw [List.mem_singleton.mp q] at h3
        rcases h3 with h3 | h3
        · exact .inl (.inr ⟨h3, h3 ▸ h1⟩)
        · exact .inr ⟨h3, h3 ▸ h1⟩
theorem addU_old {acc : List Str} {z : Str} (h : isU z = true → z ∈ acc) : addU acc z = acc := by
  unfold addU
  rw [if_neg]
  rw [Bool.and_eq_true]
  rintro ⟨h1, h2⟩
  rw [decide_eq_true (h h1)] at h2
  cases h2
theorem unk_ddp (l : List (Str × Str)) : unkF (ddp l) = unkF l := by
  induction l using snoc_ind with
  | h0 => rfl
  | hs l a ih =>
    rw [ddp_snoc, unkF_snoc]
    split
    · rename_i q
      have hm := ddp_mem.mp q
      have e1 : addU (unkF l) a.1 = unkF l := addU_old fun h => unkF_mem.mpr ⟨h, a, hm, .inl rfl⟩
      rw [e1, addU_old fun h => unkF_mem.mpr ⟨h, a, hm, .inr rfl⟩]
      exact ih
    · rw [unkF_snoc, ih]
theorem dd_map (G : Nat × Nat → Str × Str) : ∀ (l acc : List (Nat × Nat)), (∀ x ∈ acc ++ l, ∀ y ∈ acc ++ l, G x = G y → x = y) →
    (l.map G).foldl (fun acc p => if p ∈ acc then acc else acc ++ [p]) (acc.map G) = (l.foldl (fun acc p => if p ∈ acc then acc else acc ++ [p]) acc).map G
  | [], acc, _ => rfl
  | a :: l, acc, h => by
    rw [List.map_cons, List.foldl_cons, List.foldl_cons]
    have hm : G a ∈ acc.map G ↔ a ∈ acc := by
      refine ⟨fun q => ?_, fun q => List.mem_map.mpr ⟨a, q, rfl⟩⟩
      obtain ⟨x, hx, e⟩ := List.mem_map.mp q
      rw [← h x (List.mem_append_left _ hx) a (List.mem_append_right _ List.mem_cons_self) e]
      exact hx
    by_cases q : a ∈ acc
    · rw [if_pos q, if_pos (hm.mpr q)]
      refine dd_map G l acc fun x hx y hy => h x ?_ y ?_
      · rcases List.mem_append.mp hx with z | z
        · exact List.mem_append_left _ z
        · exact List.mem_append_right _ (List.mem_cons_of_mem _ z)
      · rcases List.mem_append.mp hy with z | z
        · exact List.mem_append_left _ z
        · exact List.mem_append_right _ (List.mem_cons_of_mem _ z)
    · rw [if_neg q, if_neg fun z => q (hm.mp z)]
      have e : acc.map G ++ [G a] = (acc ++ [a]).map G := by rw [List.map_append]; rfl
      rw [e]
      refine dd_map G l (acc ++ [a]) fun x hx y hy => h x ?_ y ?_
      · rw [List.append_assoc] at hx; exact hx
      · rw [List.append_assoc] at hy; exact hy
theorem addN_nodup {acc : List Nat} {x : Nat} (h : acc.Nodup) : (addN acc x).Nodup := by
  unfold addN
  split
  · exact h
  · rename_i q
    refine List.nodup_append.mpr ⟨h, (List.nodup_cons.mpr ⟨by simp, List.nodup_nil⟩), fun a ha b hb e => ?_⟩
    rw [List.mem_singleton.mp hb] at e
    exact q (e ▸ ha)
theorem plF_nodup (n : Nat) (es : List (Nat × Nat)) : (plF n es).Nodup := by
  induction es using snoc_ind with
  | h0 => exact List.nodup_range
  | hs l a ih => rw [plF_snoc]; exact addN_nodup (addN_nodup ih)
theorem plF_pre (n : Nat) (es : List (Nat × Nat)) : ∃ L, plF n es = List.range n ++ L := by
  have key : ∀ (acc : List Nat) (x : Nat), (∃ L, acc = List.range n ++ L) → ∃ L, addN acc x = List.range n ++ L := fun acc x ⟨L, h⟩ => by
    unfold addN
    split
    · exact ⟨L, h⟩
    · exact ⟨L ++ [x], by rw [h, List.append_assoc]⟩
  induction es using snoc_ind with
  | h0 => exact ⟨[], (List.append_nil _).symm⟩
  | hs l a ih => rw [plF_snoc]; exact key _ _ (key _ _ ih)
/-- kinds and unknowns of the law -/
structure KU (ks us : List Str) : Prop where
  nd : (ks ++ us).Nodup
  kn : ∀ z ∈ ks, KName z
  un : ∀ z ∈ us, UName z
section
variable {ks us : List Str} {es : List (Nat × Nat)}
theorem KU.uk (h : KU ks us) {i : Nat} (hi : i < ks.length) : isU ((ks ++ us).getD i ⟨#[]⟩) = false := by
  have e : (ks ++ us).getD i ⟨#[]⟩ ∈ ks := by
    rw [List.getD_eq_getElem?_getD, List.getElem?_append_left hi, List.getElem?_eq_getElem hi]
    exact List.getElem_mem _
  exact isU_k (h.kn _ e)
theorem KU.uu (h : KU ks us) {i : Nat} (hi : ks.length ≤ i) (hl : i < (ks ++ us).length) : isU ((ks ++ us).getD i ⟨#[]⟩) = true := by
  rw [List.length_append] at hl
  have e : (ks ++ us).getD i ⟨#[]⟩ ∈ us := by
    rw [List.getD_eq_getElem?_getD, List.getElem?_append_right hi, List.getElem?_eq_getElem (by omega)]
    exact List.getElem_mem _
  exact isU_u (h.un _ e)
theorem getD_inj {ns : List Str} (h : ns.Nodup) {i j : Nat} (hi : i < ns.length) (hj : j < ns.length) (e : ns.getD i ⟨#[]⟩ = ns.getD j ⟨#[]⟩) : i = j := by
  rw [List.getD_eq_getElem?_getD, List.getD_eq_getElem?_getD, List.getElem?_eq_getElem hi, List.getElem?_eq_getElem hj] at e
  exact (List.getElem_inj h).mp e
theorem KU.step (h : KU ks us) {L : List Nat} {x : Nat} (hL : ∀ y ∈ L, ks.length ≤ y ∧ y < (ks ++ us).length) (hx : x < (ks ++ us).length) :
    ∃ L', addN (List.range ks.length ++ L) x = List.range ks.length ++ L' ∧ addU (L.map fun y => (ks ++ us).getD y ⟨#[]⟩) ((ks ++ us).getD x ⟨#[]⟩) = L'.map (fun y => (ks ++ us).getD y ⟨#[]⟩) ∧ ∀ y ∈ L', ks.length ≤ y ∧ y < (ks ++ us).length := by
  by_cases q : x < ks.length
  · refine ⟨L, ?_, addU_old fun z => ?_, hL⟩
    · unfold addN
      rw [if_pos (List.mem_append_left _ (List.mem_range.mpr q))]
    · rw [h.uk q] at z; cases z
  · have q' : ks.length ≤ x := by omega
    have hm : (ks ++ us).getD x ⟨#[]⟩ ∈ L.map (fun y => (ks ++ us).getD y ⟨#[]⟩) ↔ x ∈ L := by
      refine ⟨fun z => ?_, fun z => List.mem_map.mpr ⟨x, z, rfl⟩⟩
      obtain ⟨y, hy, e⟩ := List.mem_map.mp z
      rw [← getD_inj h.nd (hL y hy).2 hx e]
      exact hy
    by_cases z : x ∈ L
    · refine ⟨L, ?_, addU_old fun _ => hm.mpr z, hL⟩
      unfold addN
      rw [if_pos (List.mem_append_right _ z)]
    · refine ⟨L ++ [x], ?_, ?_, fun y hy => ?_⟩
      · unfold addN
        rw [if_neg, List.append_assoc]
        intro y
        rcases List.mem_append.mp y with y | y
        · exact q (List.mem_range.mp y)
        · exact z y
      · unfold addU
        rw [if_pos, List.map_append]
        · rfl
        · rw [h.uu q' hx, decide_eq_false fun y => z (hm.mp y)]
          rfl
      · rcases List.mem_append.mp hy with y' | y'
        · exact hL y y'
        · rw [List.mem_singleton.mp y']
          exact ⟨q', hx⟩
theorem KU.unk (h : KU ks us) (he : ∀ p ∈ es, p.1 < (ks ++ us).length ∧ p.2 < (ks ++ us).length) : ∃ L, plF ks.length es = List.range ks.length ++ L ∧ unkS (named (ks ++ us) es) = L.map (fun y => (ks ++ us).getD y ⟨#[]⟩) ∧ ∀ y ∈ L, ks.length ≤ y ∧ y < (ks ++ us).length := by
  unfold unkS
  rw [unk_ddp]
  induction es using snoc_ind with
  | h0 => exact ⟨[], (List.append_nil _).symm, rfl, fun y hy => by cases hy⟩
  | hs l a ih =>
    obtain ⟨L, h1, h2, h3⟩ := ih fun p hp => he p (List.mem_append_left _ hp)
    obtain ⟨g1, g2⟩ := he a (List.mem_append_right _ (List.mem_singleton.mpr rfl))
    obtain ⟨L2, k1, k2, k3⟩ := h.step h3 g1
    obtain ⟨L3, m1, m2, m3⟩ := h.step k3 g2
    refine ⟨L3, by rw [plF_snoc, h1, k1, m1], ?_, m3⟩
    have e : named (ks ++ us) (l ++ [a]) = named (ks ++ us) l ++ [((ks ++ us).getD a.1 ⟨#[]⟩, (ks ++ us).getD a.2 ⟨#[]⟩)] := by unfold named; rw [List.map_append]; rfl
    rw [e, unkF_snoc, h2, k2, m2]
/-- the nodes are the places, named -/
theorem KU.nodes (h : KU ks us) (he : ∀ p ∈ es, p.1 < (ks ++ us).length ∧ p.2 < (ks ++ us).length) : ks ++ unkS (named (ks ++ us) es) = (plF ks.length es).map fun y => (ks ++ us).getD y ⟨#[]⟩ := by
  obtain ⟨L, h1, h2, h3⟩ := h.unk he
  rw [h1, h2, List.map_append]
  congr 1
  apply List.ext_getElem
  · rw [List.length_map, List.length_range]
  · intro i a1 a2
    rw [List.getElem_map, List.getElem_range, List.getD_eq_getElem?_getD, List.getElem?_append_left a1, List.getElem?_eq_getElem a1]
    rfl
theorem plF_lt {n m : Nat} (hn : n ≤ m) (he : ∀ p ∈ es, p.1 < m ∧ p.2 < m) : ∀ y ∈ plF n es, y < m := fun y hy => by
  rcases (plF_mem es).mp hy with q | ⟨p, hp, q | q⟩
  · omega
  · rw [q]; exact (he p hp).1
  · rw [q]; exact (he p hp).2
theorem KU.nodup (h : KU ks us) (he : ∀ p ∈ es, p.1 < (ks ++ us).length ∧ p.2 < (ks ++ us).length) : (ks ++ unkS (named (ks ++ us) es)).Nodup := by
  rw [h.nodes he]
  have hl := plF_lt (n := ks.length) (by rw [List.length_append]; omega) he
  rw [List.nodup_iff_pairwise_ne, List.pairwise_map]
  refine List.Pairwise.imp_of_mem ?_ (List.nodup_iff_pairwise_ne.mp (plF_nodup ks.length es))
  intro a b ha hb q z
  exact q (getD_inj h.nd (hl a ha) (hl b hb) z)
theorem named_len {ns : List Str} {l : List (Nat × Nat)} : (named ns l).length = l.length := List.length_map _
theorem KU.pairs (h : KU ks us) (he : ∀ p ∈ es, p.1 < (ks ++ us).length ∧ p.2 < (ks ++ us).length) : named (ks ++ unkS (named (ks ++ us) es)) (ddN (mvF ks.length es)) = ddp (named (ks ++ us) es) := by
  have hl := plF_lt (n := ks.length) (by rw [List.length_append]; omega) he
  have hnd := h.nodup he
  rw [h.nodes he] at hnd ⊢
  generalize hns : (plF ks.length es).map (fun y => (ks ++ us).getD y ⟨#[]⟩) = ns at *
  have hlen : ns.length = (plF ks.length es).length := by rw [← hns, List.length_map]
  have hpm : ∀ p ∈ es, p.1 ∈ plF ks.length es ∧ p.2 ∈ plF ks.length es := fun p hp => ⟨(plF_mem es).mpr (.inr ⟨p, hp, .inl rfl⟩), (plF_mem es).mpr (.inr ⟨p, hp, .inr rfl⟩)⟩
  have hat : ∀ x ∈ plF ks.length es, ns.getD ((plF ks.length es).idxOf x) ⟨#[]⟩ = (ks ++ us).getD x ⟨#[]⟩ := fun x hx => by
    rw [← hns, List.getD_eq_getElem?_getD, List.getElem?_map, (idxN_first hx).1]
    rfl
  have e1 : named (ks ++ us) es = (mvF ks.length es).map fun p => (ns.getD p.1 ⟨#[]⟩, ns.getD p.2 ⟨#[]⟩) := by
    unfold mvF named
    rw [List.map_map]
    refine List.map_congr_left fun p hp => ?_
    show _ = (ns.getD ((plF ks.length es).idxOf p.1) ⟨#[]⟩, ns.getD ((plF ks.length es).idxOf p.2) ⟨#[]⟩)
    rw [hat _ (hpm p hp).1, hat _ (hpm p hp).2]
  have hin : ∀ p ∈ mvF ks.length es, p.1 < ns.length ∧ p.2 < ns.length := fun p hp => by
    obtain ⟨q, hq, rfl⟩ := List.mem_map.mp hp
    rw [hlen]
    exact ⟨(List.getElem?_eq_some_iff.mp (idxN_first (hpm q hq).1).1).1, (List.getElem?_eq_some_iff.mp (idxN_first (hpm q hq).2).1).1⟩
  rw [e1]
  exact (dd_map (fun p : Nat × Nat => (ns.getD p.1 ⟨#[]⟩, ns.getD p.2 ⟨#[]⟩)) (mvF ks.length es) [] fun x hx y hy e => by
    injection e with e1 e2
    obtain ⟨x1, x2⟩ := hin x hx
    obtain ⟨y1, y2⟩ := hin y hy
    exact Prod.ext (getD_inj hnd x1 y1 e1) (getD_inj hnd x2 y2 e2)).symm
theorem KName.ok' {z : Str} (h : KName z) : PyData.strOk z = true := NOk.ok (ks := [z]) (.inl ⟨List.mem_singleton.mpr rfl, h⟩)
theorem KU.unkU (h : KU ks us) (he : ∀ p ∈ es, p.1 < (ks ++ us).length ∧ p.2 < (ks ++ us).length) : ∀ z ∈ unkS (named (ks ++ us) es), ∃ i, i < us.length ∧ us[i]? = some z ∧ ks.length + i ∈ plF ks.length es := fun z hz => by
  obtain ⟨L, h1, h2, h3⟩ := h.unk he
  rw [h2] at hz
  obtain ⟨y, hy, rfl⟩ := List.mem_map.mp hz
  obtain ⟨g1, g2⟩ := h3 y hy
  rw [List.length_append] at g2
  refine ⟨y - ks.length, by omega, ?_, ?_⟩
  · rw [List.getD_eq_getElem?_getD, List.getElem?_append_right g1, List.getElem?_eq_getElem (by omega)]
    rfl
  · have e : ks.length + (y - ks.length) = y := by omega
    rw [e, h1]
    exact List.mem_append_right _ hy
/-- the law's listed unknowns -/
theorem KU.listed (h : KU ks us) (he : ∀ p ∈ es, p.1 < (ks ++ us).length ∧ p.2 < (ks ++ us).length) : ((plF ks.length es).drop ks.length).map (fun y => us.getD (y - ks.length) ⟨#[]⟩) = unkS (named (ks ++ us) es) := by
  obtain ⟨L, h1, h2, h3⟩ := h.unk he
  rw [h1, h2]
  have e : (List.range ks.length ++ L).drop ks.length = L := by
    have := List.drop_left (l₁ := List.range ks.length) (l₂ := L)
    rw [List.length_range] at this
    exact this
  rw [e]
  refine List.map_congr_left fun y hy => ?_
  obtain ⟨g1, g2⟩ := h3 y hy
  rw [List.getD_eq_getElem?_getD, List.getD_eq_getElem?_getD, List.getElem?_append_right g1]
/-- all that the law's right side wants -/
theorem KU.rt (h : KU ks us) {ps : List (Nat × Nat)} (o : LOrd ks (named ks ps)) (hp : PsOk ks.length ps) (he : ∀ p ∈ es, p.1 < (ks ++ us).length ∧ p.2 < (ks ++ us).length) (hl : es.length ≤ 20) : RtP (lod ks (named ks ps)) (named (ks ++ us) es) (ddN (mvF ks.length es)) (warsh ks.length ps) := by
  have hnm : nmsS (lod ks (named ks ps)) (named (ks ++ us) es) = ks ++ unkS (named (ks ++ us) es) := rfl
  have hnl : (nmsS (lod ks (named ks ps)) (named (ks ++ us) es)).length = (plF ks.length es).length := by rw [hnm, h.nodes he, List.length_map]
  have hpl := plF_len ks.length es
  have hk := o.l4
  have hpm : ∀ p ∈ es, p.1 ∈ plF ks.length es ∧ p.2 ∈ plF ks.length es := fun p hp => ⟨(plF_mem es).mpr (.inr ⟨p, hp, .inl rfl⟩), (plF_mem es).mpr (.inr ⟨p, hp, .inr rfl⟩)⟩
  refine ⟨⟨?_, fun z hz => ?_, fun p hp => ?_, by rw [hnl]; omega, hk⟩, o.ok, fun p hp => ?_, ?_, ?_, fun a ha b hb => ?_, fun z hz => ?_⟩
  · rw [hnm]; exact h.nodup he
  · show decide (z ∈ aboveS ks (named ks ps) z) = true
    exact decide_eq_true (mem_aboveS.mpr ⟨hz, .refl _⟩)
  · obtain ⟨q, hq, rfl⟩ := List.mem_map.mp (ddp_sub hp)
    rw [hnm, h.nodes he]
    exact ⟨List.mem_map.mpr ⟨_, (hpm q hq).1, rfl⟩, List.mem_map.mpr ⟨_, (hpm q hq).2, rfl⟩⟩
  · have hm : p ∈ mvF ks.length es := by
      have key : ∀ l : List (Nat × Nat), p ∈ ddN l → p ∈ l := fun l => by
        induction l using snoc_ind with
        | h0 => exact fun z => by cases z
        | hs l a ih =>
          intro z
          rw [ddN_snoc] at z
          split at z
          · exact List.mem_append_left _ (ih z)
          · rcases List.mem_append.mp z with z | z
            · exact List.mem_append_left _ (ih z)
            · exact List.mem_append_right _ z
      exact key _ hp
    obtain ⟨q, hq, rfl⟩ := List.mem_map.mp hm
    rw [hnl]
    exact ⟨(List.getElem?_eq_some_iff.mp (idxN_first (hpm q hq).1).1).1, (List.getElem?_eq_some_iff.mp (idxN_first (hpm q hq).2).1).1⟩
  · have := ddN_len (mvF ks.length es)
    unfold mvF at this ⊢
    rw [List.length_map] at this
    omega
  · rw [hnm]; exact h.pairs he
  · rw [(idx_nms (o := lod ks (named ks ps)) (prs := named (ks ++ us) es) ha).1, (idx_nms (o := lod ks (named ks ps)) (prs := named (ks ++ us) es) hb).1, ← tabR_named o.nd hp]
    exact o.tab ha hb
  · rw [hnm] at hz
    rcases List.mem_append.mp hz with q | q
    · exact (h.kn z q).ok'
    · obtain ⟨i, _, hi, _⟩ := h.unkU he z q
      exact uname_ok (h.un z (List.mem_of_getElem? hi))
/-- what is no name of theirs -/
theorem KU.no_kind (h : KU ks us) {ps : List (Nat × Nat)} (he : ∀ p ∈ es, p.1 < (ks ++ us).length ∧ p.2 < (ks ++ us).length) {z : Str} (hk : KName z) (hz : z ∉ ks) : z ∉ nmsS (lod ks (named ks ps)) (named (ks ++ us) es) := fun q => by
  rcases List.mem_append.mp q with q | q
  · exact hz q
  · obtain ⟨i, _, hi, _⟩ := h.unkU he z q
    have h1 := isU_u (h.un z (List.mem_of_getElem? hi))
    rw [isU_k hk] at h1
    cases h1
theorem KU.no_unk (h : KU ks us) {ps : List (Nat × Nat)} {m : Nat} (hm : m < us.length) (he : ∀ p ∈ es, p.1 < ks.length + m ∧ p.2 < ks.length + m) : us.getD m ⟨#[]⟩ ∉ nmsS (lod ks (named ks ps)) (named (ks ++ us) es) := fun q => by
  have he' : ∀ p ∈ es, p.1 < (ks ++ us).length ∧ p.2 < (ks ++ us).length := fun p hp => by
    rw [List.length_append]
    have := he p hp
    omega
  have hmu : us.getD m ⟨#[]⟩ ∈ us := getD_mem hm
  rcases List.mem_append.mp q with q | q
  · exact (List.nodup_append.mp h.nd).2.2 _ q _ hmu rfl
  · obtain ⟨i, hi1, hi, hp⟩ := h.unkU he' _ q
    have h1 := plF_lt (n := ks.length) (m := ks.length + m) (by omega) he _ hp
    have e : us.getD i ⟨#[]⟩ = us.getD m ⟨#[]⟩ := by
      rw [List.getD_eq_getElem?_getD, hi]
      rfl
    have := getD_inj (List.nodup_append.mp h.nd).2.1 hi1 hm e
    omega
theorem KU.no_str (h : KU ks us) {ps : List (Nat × Nat)} (he : ∀ p ∈ es, p.1 < (ks ++ us).length ∧ p.2 < (ks ++ us).length) {z : Str} (h1 : ¬ KName z) (h2 : ¬ UName z) : z ∉ nmsS (lod ks (named ks ps)) (named (ks ++ us) es) := fun q => by
  rcases List.mem_append.mp q with q | q
  · exact h1 (h.kn z q)
  · obtain ⟨i, _, hi, _⟩ := h.unkU he z q
    exact h2 (h.un z (List.mem_of_getElem? hi))
end
end Kf
end
section
set_option maxRecDepth 100000
set_option maxHeartbeats 1000000
/-! KiT: k72's law: walked. -/
namespace Kf
open PySem L2
theorem cutN_from (l : List Nat) (n : Nat) : cutD (natsD l) (some (n : Int)) none = natsD (l.drop n) := by
  unfold cutD
  rw [show HT.sIx (natsD l).length (natsD l).length none = (natsD l).length from rfl, show HT.sIx (natsD l).length 0 (some (n : Int)) = min n (natsD l).length from HT.sIx_nat _ _ _]
  unfold natsD
  rw [← List.map_drop, ← List.map_take, List.length_map]
  congr 1
  by_cases h : n ≤ l.length
  · rw [Nat.min_eq_left h, List.take_of_length_le (by rw [List.length_drop]; exact Nat.le_refl _)]
  · rw [Nat.min_eq_right (by omega), List.drop_of_length_le (Nat.le_refl _), List.drop_of_length_le (by omega), List.take_nil]
theorem named_take' {ns : List Str} {ps : List (Nat × Nat)} {n : Nat} (h : ∀ p ∈ ps, p.1 < n ∧ p.2 < n) : named ns ps = named (ns.take n) ps := List.map_congr_left fun p hp => by
  obtain ⟨h1, h2⟩ := h p hp
  have e : ∀ k, k < n → ns.getD k ⟨#[]⟩ = (ns.take n).getD k ⟨#[]⟩ := fun k hk => by
    rw [List.getD_eq_getElem?_getD, List.getD_eq_getElem?_getD, List.getElem?_take_of_lt hk]
  rw [e _ h1, e _ h2]
theorem no_name {z : Str} (h : ∀ c t, z.cps.toList = c :: t → ¬ lowC c) : ¬ KName z := fun ⟨_, _, ⟨c, t, h1, h2⟩, _⟩ => h c t h1 h2
theorem qm_k : ¬ KName ("?" : Str) := no_name fun c t h => by
  rw [show (("?" : Str)).cps.toList = [63] from rfl] at h
  cases h
  unfold lowC
  omega
theorem qm_u : ¬ UName ("?" : Str) := fun ⟨t, h1, h2, _⟩ => by
  rw [show cdl ("?" : Str) = [63] from rfl] at h1
  cases h1
  simp at h2
theorem em_k : ¬ KName ("" : Str) := no_name fun c t h => by cases h
theorem em_u : ¬ UName ("" : Str) := fun ⟨t, h1, h2, _⟩ => by cases h1
theorem KU.nok {ks us : List Str} (h : KU ks us) {es : List (Nat × Nat)} (he : ∀ p ∈ es, p.1 < (ks ++ us).length ∧ p.2 < (ks ++ us).length) : ∀ p ∈ named (ks ++ us) es, NOk ks p.1 ∧ NOk ks p.2 := fun p hp => by
  obtain ⟨q, hq, rfl⟩ := List.mem_map.mp hp
  have key : ∀ i, i < (ks ++ us).length → NOk ks ((ks ++ us).getD i ⟨#[]⟩) := fun i hi => by
    rcases List.mem_append.mp (getD_mem hi) with z | z
    · exact .inl ⟨z, h.kn _ z⟩
    · exact .inr (h.un _ z)
  exact ⟨key _ (he q hq).1, key _ (he q hq).2⟩
structure L72C (P : Program) (w : World) (K : Fg) (mg : Str → Option Value) (base : Heap) : Prop where
  b : Bi mg
  oc : OrC K mg
  sy : SyC K mg
  pool : Dx P w K mg base "_law_pool" 1 cPool
  cs : Dy P w K mg base "_law_case" 5 cCase
  nm : Dy P w K mg base "_law_names" 3 cNames
  un : ∀ m, Dy P w K mg base "_law_unknowns" 4 (cUnk m)
  nd : Dx P w K mg base "_law_named" 1 cNamed
  sd : ∀ ns ps, Dx P w K mg base "_law_said" 1 (cLSd ns ps)
  td : ∀ n es, Dx P w K mg base "_law_tidy" 1 (cTidy n es)
  s1 : Dx P w K mg base "_law_same" 2 (cSame 1)
  rt : ∀ o prs es R, Dx P w K mg base "_law_right" 8 (cRt72 o prs es R)
  rf : ∀ o prs z, Dx P w K mg base "_law_refused" 8 (cRef72 o prs z)
  om : ∃ f, Mk K (He.ga K "Order") f ∧ ∀ ks prs, FnR P w K mg base (L2.CX P w) 4 f (spO K (cOrdI ks prs))
  sm : ∃ f, Mk K (He.ga K "Sayings") f ∧ ∀ o prs, FnR P w K mg base (L2.CX P w) 5 f (spO K (cSayI o prs))
def cLw72 : Fp where
  pre ds := ∃ ns : List Int, ds = [.lstK (ns.map .int)]
  post ds b := b = .st (.bl true)
abbrev s_lw72 : Stmt := top 67
abbrev nLw72 : List Str := ["script", "pool", "case", "kinds", "names", "others", "order", "first", "second", "turn", "loose", "sayings", "tidy", "listed", "name", "place"]
theorem scLw72 : FnScope nLw72 ["script"] (defScope s_lw72) := ⟨rfl, rfl, rfl, by decide +kernel, rfl, by decide +kernel, by decide +kernel⟩
section
variable {P : Program} {w : World} {K : Fg} {mg : Str → Option Value} {base : Heap}
noncomputable abbrev sayD (ks us : List Str) (ps es : List (Nat × Nat)) : D := .obj "Sayings" (dSay (lod ks (named ks ps)) (named (ks ++ us) es))
noncomputable abbrev g72 (sc : D) (o : O) (ps es : List (Nat × Nat)) (ns us ks : List Str) (a9 a10 a11 a12 a13 a14 a15 : Option B) : Gam :=
  [sD sc, sO o, sD (.lst (caseD ks.length ps es)), sI ks.length, sD (dStrs ns), sD (dStrs us), sD (lod ks (named ks ps)).d, sD (sayD ks us ps es), sD (sayD ks us ps (es.drop 1)), a9, a10, a11, a12, a13, a14, a15]
theorem eo_sayI {X : Cx} {e : Ent} {Γ : Gam} {a b : Expr} {p pos : Pos} {j : Nat} {ks us : List Str} {ps es : List (Nat × Nat)} {fS : Addr} (M : Mk X.K (He.ga X.K "Sayings") fS) (F : ∀ o prs, FnR X.prog X.w X.K X.mg X.base (L2.CX X.prog X.w) 5 fS (spO X.K (cSayI o prs))) (hm : X.mg "Sayings" = some (.ref (He.ga X.K "Sayings"))) (hr : Room j X.A) (hj : 6 ≤ j) (h : KU ks us) (he : ∀ p ∈ es, p.1 < (ks ++ us).length ∧ p.2 < (ks ++ us).length) (hl : es.length ≤ 40)
    (ha : PV X e a Γ (lod ks (named ks ps)).d) (hb : PV X e b Γ (.lst (spairsD (named (ks ++ us) es)))) (hg : Gl X "Sayings" := by rfl)
    (h1 : starEach [a, b] X.env = (false, eval a X.env) :: starEach [b] X.env := by rfl) (h2 : starEach [b] X.env = (false, eval b X.env) :: starEach [] X.env := by rfl) (hpl : (backTo pos (starEach [b] X.env)).any (·.1) = false := by rfl) : EO X e (.Call (.Name "Sayings" p) [a, b] [] pos) Γ (Is (.obj "Sayings" (dSay (lod ks (named ks ps)) (named (ks ++ us) es))) Γ) :=
  eo_makeI M (F (lod ks (named ks ps)) (named (ks ++ us) es)) hm hr hj (pvs_cons ha (pvs_cons hb pvs_nil h2) h1) ⟨rfl, rfl, h.nok he, by rw [named_len]; exact hl⟩ (fun b o' h => h) (fun _ _ _ h => h) hg (by decide) h1 hpl
theorem ok_lw72 {f : Addr} {fd : FuncData} (F : FunS K "law" s_lw72 f fd) (C : L72C P w K mg base) : FnOk P w K mg base (L2.CX P w) 9 f fd ["script"] (spP K cLw72) := by
  refine fp_ok F scLw72 (fun ds ⟨ns, h⟩ => by rw [h]; rfl) fun cdv A outer s e E ds ho ⟨ns0, hd⟩ hr tk => ?_
  subst hd
  have nd := scLw72.nd
  have b := C.b
  obtain ⟨fI, M, FI⟩ := C.om
  obtain ⟨fS, MS, FS⟩ := C.sm
  refine bl_setO 1 (hz := .inl ho) (Φ := fun o Γ => Pool o ∧ Γ = gam0 nLw72 ([D.lstK (ns0.map .int)].map .st)) (eo_call (U := fun _ _ _ => False) C.pool hr (by omega) takes_none (pvs_av (pvs_one (pv_var 0))) ?_) ?_
  · rintro ds Γ1 ⟨rfl, rfl⟩
    exact ⟨⟨ns0, rfl⟩, fun bb ⟨o, h1, h2⟩ => ⟨o, h1, h2, rfl⟩, fun _ _ z => z.elim⟩
  rintro o Γ1 ⟨hp0, rfl⟩
  refine bl_setO 2 (hz := .inl ho) (Φ := fun oo Γ => ∃ n ps es o', oo = .lst (caseD n ps es) ∧ CaseP n ps es ∧ Pool o' ∧ Γ = [sD (.lstK (ns0.map .int)), sO o', none, none, none, none, none, none, none, none, none, none, none, none, none, none]) (eo_callO (U := fun _ _ _ => False) 1 C.cs hr (by omega) takes_none rfl (pvs_av (pvs_cons pv_int (pvs_cons pv_int (pvs_cons pv_int pvs_nil)))) ?_) ?_
  · rintro ds Γ1 ⟨rfl, rfl⟩
    refine ⟨o, rfl, ⟨hp0, rfl⟩, ?_, fun _ _ _ z => z.elim⟩
    rintro bb o' ⟨hp', n, ps, es, rfl, hc⟩
    exact ⟨_, rfl, n, ps, es, o', rfl, hc, hp', rfl⟩
  rintro oo Γ1 ⟨n, ps, es, o1, rfl, ⟨c1, c6, cps, cpl, ces, cel⟩, hp1, rfl⟩
  refine bl_frz 2 rfl (.inl ho) ?_
  refine bl_let 3 (hz := .inl ho) (d := .int (n : Int)) (pv_s ix_list (pv_var (d := .lst (caseD n ps es)) 2) pv_int (sc_ixL rfl)) ?_
  refine bl_set 4 (hz := .inl ho) (ev_names (m := n + 1) 1 C.nm hr (by omega) rfl hp1 (pv_is (pv_b op_add (pv_var 3) pv_int sc_add) rfl) (by omega)) ?_
  rintro d Γ' ⟨ns, o2, rfl, nnd, nkn, nlen, hp2, rfl⟩
  refine bl_setO 5 (hz := .inl ho) (Φ := fun oo Γ => ∃ (us : List Str) (o' : O), oo = .lst (us.map .str) ∧ us.Nodup ∧ (∀ z ∈ us, UName z) ∧ us.length = 5 ∧ Pool o' ∧ Γ = [sD (.lstK (ns0.map .int)), sO o', sD (.lst (caseD n ps es)), sI n, sD (dStrs ns), none, none, none, none, none, none, none, none, none, none, none]) (eo_callO (U := fun _ _ _ => False) 1 (C.un 5) hr (by omega) takes_none rfl (pvs_av (pvs_cons pv_int pvs_nil)) ?_) ?_
  · rintro ds Γ1 ⟨rfl, rfl⟩
    refine ⟨o2, rfl, ⟨hp2, rfl, by omega⟩, ?_, fun _ _ _ z => z.elim⟩
    rintro bb o' ⟨hp', us, rfl, g1, g2, g3⟩
    exact ⟨_, rfl, us, o', rfl, g1, g2, g3, hp', rfl⟩
  rintro oo Γ1 ⟨us, o3, rfl, und, uun, ulen, hp3, rfl⟩
  refine bl_frz 5 rfl (.inl ho) ?_
  have hh : (ns.take n).length = n := by rw [List.length_take]; omega
  have hhn : (ns.take n).Nodup := nnd.sublist (List.take_sublist ..)
  have hhk : ∀ z ∈ ns.take n, KName z := fun z hz => nkn z (List.mem_of_mem_take hz)
  have oh : LOrd (ns.take n) (named (ns.take n) ps) := lord_named hhn hhk (by omega) (by omega) (by rw [hh]; exact cps) cpl
  have bad : ns.getD n ⟨#[]⟩ ∉ ns.take n ∧ KName (ns.getD n ⟨#[]⟩) := by
    refine ⟨fun q => ?_, nkn _ (getD_mem (by omega))⟩
    obtain ⟨i, hi⟩ := List.getElem?_of_mem q
    have hil := (List.getElem?_eq_some_iff.mp hi).1
    rw [hh] at hil
    rw [List.getElem?_take_of_lt hil] at hi
    have : ns.getD i ⟨#[]⟩ = ns.getD n ⟨#[]⟩ := by rw [List.getD_eq_getElem?_getD (l := ns) (i := i), hi]; rfl
    have := getD_inj nnd (by omega) (by omega) this
    omega
  have ku : KU (ns.take n) us := ⟨List.nodup_append.mpr ⟨hhn, und, fun a ha c hc q => by
    have h1 := isU_k (hhk a ha)
    rw [q, isU_u (uun c hc)] at h1
    cases h1⟩, hhk, uun⟩
  -- order
  refine bl_letO 6 (hz := .inl ho) (eo_order oh M FI C.oc.gl hr (by omega) (pn_pv (pn_take (n := n) (pv_var 4) (pp_some (pv_var 3)))) (pv_is (pn_pv (pn_named (ps := ps) C.nd hr (by omega) (pv_var 4) (pv_s ix_list (pv_var (d := .lst (caseD n ps es)) 2) pv_int (sc_ixL rfl)) (by omega) (fun p hp => by have := cps.1 p hp; omega))) (by rw [named_take' cps.1]; rfl))) (bl_frz 6 rfl (.inl ho) ?_)
  have cps' : PsOk (ns.take n).length ps := by rw [hh]; exact cps
  have key : ∀ {X : Cx} {e : Ent} {Γ : Gam} {x y : Expr} {hi : Option Expr} {p1 p2 : Pos}, PV X e x Γ (dStrs ns) → PP X e hi Γ (some (n : Int)) → PV X e y Γ (dStrs us) → PV X e (.BinOp (.Subscript x (.Slice none hi none p1) p2) .Add y p2) Γ (dStrs (ns.take n ++ us)) := fun h1 h2 h3 => pn_pv (pn_is (o' := .lst ((ns.take n ++ us).map .str)) (pn_cat (pn_pv (pn_take (n := n) h1 h2)) h3 (by rw [List.length_map, List.length_map]; exact Nat.le_trans (m := 1000) (by omega) (by decide))) (congrArg O.lst List.map_append.symm))
  clear key
  generalize hks : ns.take n = ks at *
  subst hh
  have he5 : ∀ p ∈ es, p.1 < (ks ++ us).length ∧ p.2 < (ks ++ us).length := fun p hp => by
    rw [List.length_append]
    have := ces p hp
    omega
  have ces' : EsOk (ks.length + 4) (es.drop 1) := fun p hp => ces p (List.mem_of_mem_drop hp)
  have he5' : ∀ p ∈ es.drop 1, p.1 < (ks ++ us).length ∧ p.2 < (ks ++ us).length := fun p hp => he5 p (List.mem_of_mem_drop hp)
  have hdl : (es.drop 1).length ≤ 20 := by rw [List.length_drop]; omega
  have hul : (ks ++ us).length ≤ 20 := by rw [List.length_append]; omega
  refine bl_at (Γ' := [sD (.lstK (ns0.map .int)), sO o3, sD (.lst (caseD ks.length ps es)), sI ks.length, sD (dStrs ns), sD (dStrs us), sD (lod ks (named ks ps)).d, none, none, none, none, none, none, none, none, none]) rfl ?_
  refine bl_letO 7 (hz := .inl ho) (eo_sayI (ks := ks) (us := us) (ps := ps) (es := es) MS FS C.sy.gl hr (by omega) ku he5 (by omega) (pv_var 6) (pn_pv (pn_call (C.sd (ks ++ us) es) hr (by omega) (pvs_cons (pn_pv (pn_is (o' := .lst ((ks ++ us).map .str)) (pn_cat (l := (ns.take ks.length).map .str) (m := us.map .str) (pn_pv (pn_take (n := ks.length) (pv_var 4) (pp_some (pv_var 3)))) (pv_var 5) (by rw [hks, List.length_map, List.length_map]; exact Nat.le_trans (m := 1000) (by omega) (by decide))) (by rw [hks]; exact congrArg O.lst List.map_append.symm))) (pvs_cons (pv_s ix_list (pv_var (d := .lst (caseD ks.length ps es)) 2) pv_int (sc_ixL rfl)) pvs_nil)) ⟨rfl, by omega, he5⟩ (fun _ h => h) (fun _ _ h => h)))) (bl_frz 7 rfl (.inl ho) ?_)
  refine bl_letO 8 (hz := .inl ho) (eo_sayI (ks := ks) (us := us) (ps := ps) (es := es.drop 1) MS FS C.sy.gl hr (by omega) ku he5' (by omega) (pv_var 6) (pn_pv (pn_call (C.sd (ks ++ us) (es.drop 1)) hr (by omega) (pvs_cons (pn_pv (pn_is (o' := .lst ((ks ++ us).map .str)) (pn_cat (l := (ns.take ks.length).map .str) (m := us.map .str) (pn_pv (pn_take (n := ks.length) (pv_var 4) (pp_some (pv_var 3)))) (pv_var 5) (by rw [hks, List.length_map, List.length_map]; exact Nat.le_trans (m := 1000) (by omega) (by decide))) (by rw [hks]; exact congrArg O.lst List.map_append.symm))) (pvs_cons (pn_pv (pn_is (o' := .lst (pairsD (es.drop 1))) (pn_cut (l := pairsD es) (pv_s ix_list (pv_var (d := .lst (caseD ks.length ps es)) 2) pv_int (sc_ixL rfl)) (pp_some pv_int) pp_none) (congrArg O.lst (cutP_from es 1)))) pvs_nil)) ⟨rfl, by omega, he5'⟩ (fun _ h => h) (fun _ _ h => h)))) (bl_frz 8 rfl (.inl ho) ?_)
  refine bl_at (Γ' := g72 (.lstK (ns0.map .int)) o3 ps es ns us ks none none none none none none none) rfl ?_
  refine bl_for (fun ds i Γ => ds = rng 0 3 ∧ ∃ a9 a10 a11 a12 a13 a14, Γ = g72 (.lstK (ns0.map .int)) o3 ps es ns us ks a9 a10 a11 a12 a13 a14 none) (wv (wp_rng (n := 3) pv_int (by omega) b.range)) (gv_name 9 nd (hz := .inl ho)) ?_ ?_ ?_ (passes_of rfl)
  · rintro ds Γ1 ⟨rfl, rfl⟩
    exact ⟨rfl, none, none, none, none, none, none, rfl⟩
  · rintro ds i d Γ1 hdi ⟨rfl, a9, a10, a11, a12, a13, a14, rfl⟩
    obtain ⟨hi, rfl⟩ := rng_at0 hdi
    refine ⟨_, rfl, bl_let 10 (hz := .inl ho) (d := .lst (pairsD es)) (pv_s ix_list (pv_var (d := .lst (caseD ks.length ps es)) 2) pv_int (sc_ixL rfl)) (bl_let 11 (hz := .inl ho) (d := sayD ks us ps es) (pv_var 7) ?_)⟩
    refine bl_ifP (fun Γ => ∃ es', (∀ p ∈ es', p.1 < (ks ++ us).length ∧ p.2 < (ks ++ us).length) ∧ EsOk (ks.length + 4) es' ∧ es'.length ≤ 20 ∧ Γ = g72 (.lstK (ns0.map .int)) o3 ps es ns us ks (sI i) (sD (.lst (pairsD es'))) (sD (sayD ks us ps es')) a12 a13 a14 none) (px_cmp op_eq (pv_var 9) pv_int sc_eqI) (fun _ => ?_) (fun _ => bl_nil ⟨es, he5, ces, cel, rfl⟩) ?_
    · refine bl_let 10 (hz := .inl ho) (d := .lst (pairsD (es.drop 1))) (pn_pv (pn_is (o' := .lst (pairsD (es.drop 1))) (pn_cut (l := pairsD es) (pv_s ix_list (pv_var (d := .lst (caseD ks.length ps es)) 2) pv_int (sc_ixL rfl)) (pp_some pv_int) pp_none) (congrArg O.lst (cutP_from es 1)))) ?_
      exact bl_let 11 (hz := .inl ho) (d := sayD ks us ps (es.drop 1)) (pv_var 8) (bl_nil ⟨es.drop 1, he5', ces', hdl, rfl⟩)
    rintro Γ1 ⟨es', hE, hE4, hEl, rfl⟩
    have rt := ku.rt oh cps' hE hEl
    obtain ⟨L, pL1, _, pL3⟩ := ku.unk hE
    have hpl := plF_len ks.length es'
    refine bl_letO 12 (hz := .inl ho) (pn_eo (pn_call (C.td ks.length es') hr (by omega) (pvs_cons (pv_var 10) (pvs_cons (pv_var 3) pvs_nil)) ⟨rfl, by omega, by omega⟩ (fun _ h => h) (fun _ _ h => h))) (bl_frz 12 rfl (.inl ho) ?_)
    refine bl_at (Γ' := g72 (.lstK (ns0.map .int)) o3 ps es ns us ks (sI i) (sD (.lst (pairsD es'))) (sD (sayD ks us ps es')) (sD (.lst [.lst (pairsD (ddN (mvF ks.length es'))), .lst (natsD (plF ks.length es'))])) a13 a14 none) rfl ?_
    refine bl_letLcA 13 (hz := .inl ho) (hz2 := .inl ho) (α := Nat) (c := cN) (u := uN) (l := (plF ks.length es').drop ks.length) (f := fun y => g72 (.lstK (ns0.map .int)) o3 ps es ns us ks (sI i) (sD (.lst (pairsD es'))) (sD (sayD ks us ps es')) (sD (.lst [.lst (pairsD (ddN (mvF ks.length es'))), .lst (natsD (plF ks.length es'))])) a13 a14 (sI y)) (own := [("place", 15)]) (ix := [15]) (bind := bName 15) (fun _ => true) (fun y => .str (us.getD (y - ks.length) ⟨#[]⟩)) uN_cN (blk nLw72 (defScope s_lw72)) nd
      (wp_list (pn_pv (pn_is (o' := .lst (natsD ((plF ks.length es').drop ks.length))) (pn_cut (l := natsD (plF ks.length es')) (pv_s ix_list (pv_var (d := .lst [.lst (pairsD (ddN (mvF ks.length es'))), .lst (natsD (plF ks.length es'))]) 12) pv_int (sc_ixL rfl)) (pp_some (pv_var 3)) pp_none) (congrArg O.lst (cutN_from _ _))))) (fun s H C cl fp => gv_name 15 nd (hz := .inl ho)) (bindOk_name 15) (by decide) (by rw [List.length_drop]; omega) (fun y _ => rfl) (fun y hy s H C cl fp => pts_none) (fun y hy _ s H C cl fp => ?_) ?_
    · have hyl : ks.length ≤ y ∧ y - ks.length < us.length := by
        rw [pL1] at hy
        have e : (List.range ks.length ++ L).drop ks.length = L := by
          have := List.drop_left (l₁ := List.range ks.length) (l₂ := L)
          rw [List.length_range] at this
          exact this
        rw [e] at hy
        obtain ⟨g1, g2⟩ := pL3 y hy
        rw [List.length_append] at g2
        omega
      exact pv_s ix_list (pv_var 5) (pv_is (pv_b op_sub (pv_var 15) (pv_var 3) sc_sub) (congrArg D.int (show (y : Int) - (ks.length : Int) = ((y - ks.length : Nat) : Int) by omega))) (sc_ixL (atI_nat (strs_at hyl.2)))
    refine bl_frz 13 rfl (.inl ho) ?_
    have el : ((((plF ks.length es').drop ks.length).filter fun _ => true).map fun y => D.str (us.getD (y - ks.length) ⟨#[]⟩)) = (unkS (named (ks ++ us) es')).map .str := by
      rw [filter_true, ← ku.listed hE, List.map_map]
      rfl
    refine bl_at (Γ' := g72 (.lstK (ns0.map .int)) o3 ps es ns us ks (sI i) (sD (.lst (pairsD es'))) (sD (sayD ks us ps es')) (sD (.lst [.lst (pairsD (ddN (mvF ks.length es'))), .lst (natsD (plF ks.length es'))])) (sD (dStrs (unkS (named (ks ++ us) es')))) a14 none) (by rw [el]; rfl) ?_
    refine bl_ifR (q := !true) (px_not (px_val (pv_call (C.rt (lod ks (named ks ps)) (named (ks ++ us) es') (ddN (mvF ks.length es')) (warsh ks.length ps)) hr (by omega) (pvs_cons (pv_var 11) (pvs_cons (pv_var 6) (pvs_cons (pv_is (d := dStrs ks) (pn_pv (pn_take (n := ks.length) (pv_var 4) (pp_some (pv_var 3)))) (by rw [hks]; rfl)) (pvs_cons (pv_var 13) (pvs_cons (pv_s ix_list (pv_var (d := .lst (caseD ks.length ps es)) 2) pv_int (sc_ixL rfl)) (pvs_cons (pv_s ix_list (pv_var (d := .lst [.lst (pairsD (ddN (mvF ks.length es'))), .lst (natsD (plF ks.length es'))]) 12) pv_int (sc_ixL rfl)) pvs_nil)))))) ⟨rfl, rt⟩ (fun _ h => h) (fun _ _ h => h)))) (fun h => by cases h) fun _ => ?_
    have hno : ∀ z ∈ [ns.getD ks.length ⟨#[]⟩, us.getD 4 ⟨#[]⟩, ("?" : Str), ("" : Str)], z ∉ nmsS (lod ks (named ks ps)) (named (ks ++ us) es') := fun z hz => by
      rcases List.mem_cons.mp hz with rfl | hz
      · exact ku.no_kind hE bad.2 bad.1
      rcases List.mem_cons.mp hz with rfl | hz
      · exact ku.no_unk (by omega) hE4
      rcases List.mem_cons.mp hz with rfl | hz
      · exact ku.no_str hE qm_k qm_u
      rw [List.mem_singleton.mp hz]
      exact ku.no_str hE em_k em_u
    refine bl_for (fun ds j Γ => ds = [ns.getD ks.length ⟨#[]⟩, us.getD 4 ⟨#[]⟩, ("?" : Str), ("" : Str)].map .str ∧ ∃ a14, Γ = g72 (.lstK (ns0.map .int)) o3 ps es ns us ks (sI i) (sD (.lst (pairsD es'))) (sD (sayD ks us ps es')) (sD (.lst [.lst (pairsD (ddN (mvF ks.length es'))), .lst (natsD (plF ks.length es'))])) (sD (dStrs (unkS (named (ks ++ us) es')))) a14 none) (wv (wp_list (pv_lst (pvs_cons (pv_s ix_list (pv_var 4) (pv_var 3) (sc_ixL (atI_nat (strs_at (by omega))))) (pvs_cons (pv_s ix_list (pv_var 5) pv_int (sc_ixL (atI_nat (n := 4) (strs_at (by omega))))) (pvs_cons pv_str (pvs_cons pv_str pvs_nil))))))) (gv_name 14 nd (hz := .inl ho)) ?_ ?_ ?_ (passes_of rfl)
    · rintro ds Γ1 ⟨rfl, rfl⟩
      exact ⟨rfl, a14, rfl⟩
    · rintro ds j d Γ1 hdj ⟨rfl, a14, rfl⟩
      obtain ⟨z, hz, rfl⟩ := strs_at' hdj
      refine ⟨_, rfl, bl_ifR (q := !true) (px_not (px_val (pv_call (ds := [.lst [.str "NotListed", .str z], .lst [.str "NotListed", .str z]]) (d := .bl true) C.s1 hr (by omega) (pvs_cons (pv_call (d := .lst [.str "NotListed", .str z]) (C.rf (lod ks (named ks ps)) (named (ks ++ us) es') z) hr (by omega) (pvs_cons (pv_var 11) (pvs_cons (pv_var 14) pvs_nil)) ⟨rfl, rt.ns, hno z (List.mem_of_getElem? hz)⟩ (fun _ h => h) (fun _ _ h => h)) (pvs_cons (pv_lst (pvs_cons pv_str (pvs_cons (pv_var 14) pvs_nil))) pvs_nil)) ⟨_, rfl, pl_two (.str _ _)⟩ (fun _ h => h) (fun _ _ h => h.elim)))) (fun h => by cases h) fun _ => bl_nil ⟨rfl, _, rfl⟩⟩
    · rintro ds Γ1 ⟨rfl, a14, rfl⟩
      exact bl_nil ⟨rfl, _, _, _, _, _, _, rfl⟩
  · rintro ds Γ1 ⟨rfl, a9, a10, a11, a12, a13, a14, rfl⟩
    exact bl_retP pv_bl rfl
end
end Kf
end
section
set_option maxRecDepth 100000
set_option maxHeartbeats 1000000
/-! KfZ0: a head's facts: any test of the frozen part, any def by its address. -/
namespace Kf
open PySem PySem.Spec PyProof.Rows L2

/-- one def: where it stands, its text; clo: a cell __class__ in its closure -/
structure DefZ where
  at_ : Fg → Addr
  name : Str
  qual : Str
  params : Arguments
  body : List Stmt
  scope : Scope
  dfl : List He.Dv := []
  clo : Bool := false
abbrev FnZ : Type := Option (Str × Str × Arguments × FuncBody × Scope × Addr × List Str × Addr)
def fnZ (K : Fg) (a : Addr) : FnZ := match K.lookup a with
  | some ⟨_, _, .func fd, _⟩ => some (fd.name, fd.qualname, fd.params, fd.body, fd.scope, fd.globals, fd.closure.map (·.1), fd.builtins)
  | _ => none
def DefZ.val (d : DefZ) : FnZ := some (d.name, d.qual, d.params, .stmts d.body, d.scope, mainGlobals, if d.clo then ["__class__"] else [], builtinsNs)
def DefZ.dvs (K : Fg) (d : DefZ) : List V := d.dfl.map (He.Dv.v K)
def DefZ.ok (K : Fg) (d : DefZ) : Bool := PySem.W.keepIn K (.ref (d.at_ K)) && (match K.lookup (d.at_ K) with
  | some ⟨_, _, .func fd, _⟩ => PySem.W.codeIn K fd.code d.qual && He.dflB K fd.defaults (d.dvs K)
  | _ => false)
theorem band {a b : Bool} (h : (a && b) = true) : a = true ∧ b = true := Bool.and_eq_true_iff.mp h
theorem DefZ.funD {K : Fg} {d : DefZ} (e : fnZ K (d.at_ K) = d.val) (c : d.ok K = true) (hc : d.clo = false) : ∃ fd, FunD K d.name d.qual d.params d.body d.scope (d.dvs K) [] (d.at_ K) fd := by
  obtain ⟨kp, c2⟩ := band c
  unfold fnZ at e
  cases q : K.lookup (d.at_ K) with
  | none =>
    rw [q] at c2
    cases c2
  | some o =>
    obtain ⟨oc, od, dt, osl⟩ := o
    rw [q] at c2 e
    cases dt with
    | func fd =>
      obtain ⟨n1, n2, n3, n4, n5, n6, n7, n8, n9, n10, n11, n12, n13, n14, n15⟩ := fd
      have e2 : (some (n1, n2, n3, n4, n5, n6, n7.map (·.1), n15) : FnZ) = (some (d.name, d.qual, d.params, FuncBody.stmts d.body, d.scope, mainGlobals, if d.clo then ["__class__"] else [], builtinsNs) : FnZ) := e
      rw [hc] at e2
      simp only [Option.some.injEq, Prod.mk.injEq] at e2
      obtain ⟨h1, h2, h3, h4, h5, h6, h7, h8⟩ := e2
      have h7' : n7 = [] := List.map_eq_nil_iff.mp (by rw [h7]; rfl)
      subst h1 h2 h3 h4 h5 h6 h7' h8
      have c3 : (PySem.W.codeIn K n13 d.qual && He.dflB K n8 (d.dvs K)) = true := c2
      obtain ⟨k1, k2⟩ := band c3
      exact ⟨_, ⟨oc, od, n8, n9, n10, n11, n12, n13, n14, osl, rfl, q, k1, He.dflB_ok k2, .inl rfl⟩, kp⟩
    | _ => cases c2
/-! ### own exceptions -/
def oexB (K : Fg) (C : Addr) : Bool := (match K.lookup C with
  | some ⟨.type t, _, .cls cd, sl⟩ => (match cd.mro, sl.toList with
    | .ref C' :: bm, [_, _, _, _, some (.builtin n), _] => t == "type" && (C' == C && (n == "ValueError.__new__" && (!cd.hasDel && (cd.hasDict && PySem.HandSPX.refsVE bm))))
    | _, _ => false)
  | _ => false) && (decide (PySem.W.findIn K (.ref C) "__setattr__" = some (some (.builtin "object.__setattr__"))) && (decide (PySem.W.subIn K (.ref C) (.type "BaseException") = some true) && (decide (PySem.W.typeIn K (.ref C) = some (.type "type")) && PySem.W.keepIn K (.ref C))))
theorem oexB_ok {K : Fg} {C : Addr} (h : oexB K C = true) : OexC K C := by
  obtain ⟨q, h⟩ := band h
  obtain ⟨h2, h⟩ := band h
  obtain ⟨h3, h⟩ := band h
  obtain ⟨h4, h5⟩ := band h
  refine ⟨?_, of_decide_eq_true h2, of_decide_eq_true h3, of_decide_eq_true h4, h5⟩
  split at q
  · rename_i t dd cd sl ho
    split at q
    · rename_i C' bm k0 k1 k2 k3 n k5 hm hs
      simp only [Bool.and_eq_true, beq_iff_eq, Bool.not_eq_true'] at q
      obtain ⟨rfl, rfl, rfl, hdel, hdct, hbm⟩ := q
      obtain ⟨nm, bs, mro, ns, qn, hd, sn, sub, ab, col, del⟩ := cd
      dsimp only at hm hdel hdct
      subst hm hdel hdct
      have hsl : sl = #[k0, k1, k2, k3, some (.builtin "ValueError.__new__"), k5] := by
        obtain ⟨l⟩ := sl
        simp only at hs
        rw [hs]
      subst hsl
      exact ⟨nm, qn, ns, bs, bm, sn, sub, ab, col, dd, k0, k1, k2, k3, k5, ho, hbm⟩
    · cases q
  · cases q
def iniAt (K : Fg) (C : Addr) : Addr := He.ma K C "__init__"
def excB (file : Str) (K : Fg) (C : Addr) : Bool := oexB K C && (decide (PySem.W.findIn K (.ref C) "__init__" = some (some (.ref (iniAt K C)))) && (decide (PySem.W.typeIn K (.ref (iniAt K C)) = some (.type "function")) &&
  (decide (PySem.W.ks_superIn K C C "__init__" = some (some (.builtin "ValueError.__init__"))) && (decide (PySem.W.subIn K (.ref C) (.type "ValueError") = some true) && (decide (PySem.W.mroIn K C (.ref C) = some true) && (decide (PySem.W.nsIn K cStatics "thirdparty.any" = some none) &&
  (match K.lookup (iniAt K C) with
    | some ⟨_, _, .func fd, _⟩ => (match fd.code, fd.closure, fd.defaults with
      | .ref cda, [(_, cc)], .none => (match K.lookup cda with
        | some ⟨_, _, .fields vs, _⟩ => (match (vs[2]? : Option Value) with
          | some (Value.str f _) => file == f
          | _ => false)
        | _ => false) && (match K.lookup cc with
        | some ⟨_, _, .cell (some (.ref c)), _⟩ => decide (c = C)
        | _ => false)
      | _, _, _ => false)
    | _ => false)))))))
theorem excB_ok {P : Program} {K : Fg} {C : Addr} {d : DefZ} (h : excB P.main.file K C = true) (e : fnZ K (iniAt K C) = d.val) (c : d.ok K = true) (hat : d.at_ K = iniAt K C) (hc : d.clo = true) (top : (P.main.scope.names.lookup ("super" : Str)).isSome = false) : ExC P K C (iniAt K C) d.name d.qual d.params d.body d.scope := by
  obtain ⟨h1, h⟩ := band h
  obtain ⟨h2, h⟩ := band h
  obtain ⟨h3, h⟩ := band h
  obtain ⟨h4, h⟩ := band h
  obtain ⟨h5, h⟩ := band h
  obtain ⟨h6, h⟩ := band h
  obtain ⟨h7, h⟩ := band h
  refine ⟨oexB_ok h1, of_decide_eq_true h2, of_decide_eq_true h3, ?_, of_decide_eq_true h4, of_decide_eq_true h5, of_decide_eq_true h6, of_decide_eq_true h7, top⟩
  obtain ⟨kp, c2⟩ := band c
  rw [hat] at c2
  unfold fnZ at e
  cases q : K.lookup (iniAt K C) with
  | none =>
    rw [q] at c2
    cases c2
  | some o =>
    obtain ⟨oc, od, dt, osl⟩ := o
    rw [q] at c2 e h
    cases dt with
    | func fd =>
      obtain ⟨n1, n2, n3, n4, n5, n6, n7, n8, n9, n10, n11, n12, n13, n14, n15⟩ := fd
      have e2 : (some (n1, n2, n3, n4, n5, n6, n7.map (·.1), n15) : FnZ) = (some (d.name, d.qual, d.params, FuncBody.stmts d.body, d.scope, mainGlobals, if d.clo then ["__class__"] else [], builtinsNs) : FnZ) := e
      rw [hc] at e2
      simp only [Option.some.injEq, Prod.mk.injEq, if_true] at e2
      obtain ⟨g1, g2, g3, g4, g5, g6, g7, g8⟩ := e2
      have c3 : (PySem.W.codeIn K n13 d.qual && He.dflB K n8 (d.dvs K)) = true := c2
      obtain ⟨k1, k2⟩ := band c3
      dsimp only at h
      split at h
      · rename_i cda y cc
        obtain ⟨a1, a2⟩ := band h
        simp only [List.map_cons, List.map_nil, List.cons.injEq, and_true] at g7
        subst g1 g2 g3 g4 g5 g6 g7 g8
        split at a1
        · rename_i ccl cdd vs ccs hcda
          split at a1
          · rename_i f tf hvs
            split at a2
            · rename_i cl cld c csl hcc
              have ec : c = C := of_decide_eq_true a2
              subst ec
              exact ⟨oc, od, n9, n10, n11, n12, cda, n14, cc, osl, ccl, cdd, vs, ccs, f, tf, cl, cld, csl, rfl, k1, hcda, hvs, a1, hcc⟩
            · cases a2
          · cases a1
        · cases a1
      · cases h
    | _ => cases c2
/-! ### the Hook -/
def obsZ (chk : List (Fg → Bool)) (fn : List DefZ) (K : Fg) : Bool × List FnZ := ((chk.all fun f => f K) && fn.all fun d => d.ok K, fn.map fun d => fnZ K (d.at_ K))
def valZ (fn : List DefZ) : Bool × List FnZ := (true, fn.map DefZ.val)
def SaysZ (chk : List (Fg → Bool)) (fn : List DefZ) (K : Fg) : Prop := obsZ chk fn K = valZ fn
def refsZ (o : Obj) : List Addr := match o.data with
  | .seq its _ => its.toList.flatMap He.refV
  | .dict es _ => es.toList.flatMap fun e => He.refV e.val
  | .func fd => He.refV fd.code ++ He.refV fd.defaults ++ fd.closure.map (·.2)
  | .cls cd => cd.ns :: cd.mro.flatMap He.refV
  | .fields vs => vs.toList.flatMap He.refV
  | _ => []
def growZ (g : Addr → Option Obj) : Nat → List Addr → List Addr
  | 0, as => as
  | n + 1, as => as ++ growZ g n (as.flatMap fun a => match g a with
    | some o => refsZ o
    | none => [])
def asZ (g : Addr → Option Obj) (n : Nat) : List Addr := growZ g n [mainGlobals, cStatics]
def obsZG (n : Nat) (chk : List (Fg → Bool)) (fn : List DefZ) (g : Addr → Option Obj) : Bool × List FnZ := obsZ chk fn (He.frG g (asZ g n))
def hookZ (n : Nat) (chk : List (Fg → Bool)) (fn : List DefZ) : PySem.W.Hook where
  α := Bool × List FnZ
  obs := fun s => obsZG n chk fn s.heap.get?
  val := fun _ => valZ fn
  says := fun _ h => ∃ K : Fg, K.In h ∧ SaysZ chk fn K
  of := fun _ _ e => ⟨_, He.frG_in, e⟩
  keeps := fun _ _ _ ⟨K, hK, c⟩ k => ⟨K, PySem.W.Frag.In.keeps hK k, c⟩
theorem obsZG_eq {n : Nat} {chk : List (Fg → Bool)} {fn : List DefZ} {g : Addr → Option Obj} {s : Shared} (h : ∀ a, g a = s.heap.get? a) : obsZG n chk fn g = (hookZ n chk fn).obs s := by
  have e : g = s.heap.get? := funext h
  rw [e] <;> rfl
section
variable {chk : List (Fg → Bool)} {fn : List DefZ} {K : Fg}
theorem SaysZ.fact (c : SaysZ chk fn K) (i : Nat) {f : Fg → Bool} (h : chk[i]? = some f := by rfl) : f K = true := by
  have c1 := (band (show ((chk.all fun f => f K) && fn.all fun d => d.ok K) = true from congrArg (fun z : Bool × List FnZ => z.1) c)).1
  exact List.all_eq_true.mp c1 f (List.mem_of_getElem? h)
theorem SaysZ.def_ (c : SaysZ chk fn K) (i : Nat) {d : DefZ} (h : fn[i]? = some d := by rfl) : fnZ K (d.at_ K) = d.val ∧ d.ok K = true := by
  have c2 := (band (show ((chk.all fun f => f K) && fn.all fun d => d.ok K) = true from congrArg (fun z : Bool × List FnZ => z.1) c)).2
  have e : (fn.map fun d => fnZ K (d.at_ K)) = fn.map DefZ.val := congrArg (fun z : Bool × List FnZ => z.2) c
  have e2 : (fn.map fun d => fnZ K (d.at_ K))[i]? = (fn.map DefZ.val)[i]? := by rw [e]
  rw [List.getElem?_map, List.getElem?_map, h] at e2
  exact ⟨Option.some.inj e2, List.all_eq_true.mp c2 d (List.mem_of_getElem? h)⟩
theorem SaysZ.fun_ (c : SaysZ chk fn K) (i : Nat) {d : DefZ} (h : fn[i]? = some d := by rfl) (hc : d.clo = false := by rfl) : ∃ fd, FunD K d.name d.qual d.params d.body d.scope (d.dvs K) [] (d.at_ K) fd := (d.funD (c.def_ i h).1 (c.def_ i h).2 hc)
end
/-! ### tests -/
def fa (f : He.Fa) : Fg → Bool := fun K => f.ok K
def insB (x : Str) : Fg → Bool := fun K => (He.Fa.cls x).ok K && (decide (PySem.W.findIn K (.ref (He.ga K x)) "__class__" = some (some (.builtin "object.__class__"))) && (decide (PySem.W.specialIn K (.builtin "object.__class__") "__get__" = some (some (.builtin "getset_descriptor.__get__"))) &&
  (decide (PySem.W.takesIn K (.builtin "object.__class__") = some true) && (decide (PySem.W.mroIn K (He.ga K x) (.type "object") = some true) && decide (PySem.W.kitOne K (.ref (He.ga K x)) (.ref (He.ga K x)) = some true)))))
theorem insB_ok {K : Fg} {x : Str} (h : insB x K = true) : C8.InsC K (He.ga K x) := by
  obtain ⟨h1, h⟩ := band h
  obtain ⟨h2, h⟩ := band h
  obtain ⟨h3, h⟩ := band h
  obtain ⟨h4, h⟩ := band h
  obtain ⟨h5, h6⟩ := band h
  exact ⟨He.cls_ok h1, of_decide_eq_true h2, of_decide_eq_true h3, of_decide_eq_true h4, of_decide_eq_true h5, of_decide_eq_true h6⟩
def readB (x : Str) : Fg → Bool := fun K => PySem.W.readsIn K (He.ga K x) (.type "type") && decide (PySem.W.specialIn K (.ref (He.ga K x)) "__getattribute__" = some (some (.builtin "type.__getattribute__")))
theorem readB_ok {K : Fg} {x : Str} (h : readB x K = true) : ClX.CRead K (He.ga K x) (.type "type") := ⟨(band h).1, of_decide_eq_true (band h).2⟩
def cintB (x f : Str) (i : Int) : Fg → Bool := fun K => match PySem.W.findCls K (.ref (He.ga K x)) (.type "type") f with
  | some (.val (.int j _)) => decide (j = i)
  | _ => false
theorem cintB_ok {K : Fg} {x f : Str} {i : Int} (h : cintB x f i K = true) : ∃ t, ClX.CVal K (He.ga K x) (.type "type") f (.int i) (.int i t) := by
  unfold cintB at h
  split at h
  · rename_i j t e
    have : j = i := of_decide_eq_true h
    subst this
    exact ⟨t, e, t, rfl⟩
  · cases h
def xkB (x : Str) : Fg → Bool := fun K => xfB K (He.ga K x) && (decide (PySem.W.findIn K (.ref (He.ga K x)) "__class__" = some (some (.builtin "object.__class__"))) && (decide (PySem.W.specialIn K (.builtin "object.__class__") "__get__" = some (some (.builtin "getset_descriptor.__get__"))) &&
  (decide (PySem.W.takesIn K (.builtin "object.__class__") = some true) && decide (PySem.W.mroIn K (He.ga K x) (.type "object") = some true))))
theorem xkB_ok {K : Fg} {x : Str} (h : xkB x K = true) : XfC K (He.ga K x) ∧ ExcC K (He.ga K x) := by
  obtain ⟨h1, h⟩ := band h
  obtain ⟨h2, h⟩ := band h
  obtain ⟨h3, h⟩ := band h
  obtain ⟨h4, h5⟩ := band h
  have x := xfB_ok h1
  exact ⟨x, x.ga, x.gg, x.exC, x.hdC, of_decide_eq_true h2, of_decide_eq_true h3, of_decide_eq_true h4, of_decide_eq_true h5⟩
def kitB' (x y : Str) (b : Bool) : Fg → Bool := fun K => decide (PySem.W.kitOne K (.ref (He.ga K x)) (.ref (He.ga K y)) = some b)
def kitT (x : Str) (T : String) (b : Bool) : Fg → Bool := fun K => decide (PySem.W.kitOne K (.ref (He.ga K x)) (.type T) = some b)
def callB (x : Str) : Fg → Bool := fun K => decide (PySem.W.findIn K (.ref (He.ga K x)) "__call__" = some (some (.ref (He.ma K (He.ga K x) "__call__")))) && (PySem.W.isFn K (.ref (He.ma K (He.ga K x) "__call__")) && PySem.W.fnIn K (He.ma K (He.ga K x) "__call__"))
theorem callB_ok {K : Fg} {x : Str} (h : callB x K = true) : StX.CallO K (He.ga K x) (He.ma K (He.ga K x) "__call__") := by
  obtain ⟨h1, h⟩ := band h
  obtain ⟨h2, h3⟩ := band h
  exact ⟨of_decide_eq_true h1, h2, h3⟩
/-- the def of a staticmethod -/
def smAt (C m : Str) : Fg → Addr := fun K => match PySem.W.recIn K (He.ma K (He.ga K C) m) "staticmethod" with
  | some (.ref g :: _) => g
  | _ => 0
def notB (x y : Str) : Fg → Bool := fun K => PySem.W.notFirst K (He.ga K x) (.ref (He.ga K y))
end Kf
end
section
set_option maxRecDepth 100000
set_option maxHeartbeats 1000000
/-! KiU: more tests of a head: own classes against each other, star defs, methods as values, properties. -/
namespace Kf
open PySem PySem.Spec PyProof.Rows L2
theorem kitB_ok {K : Fg} {x y : Str} {b : Bool} (h : kitB' x y b K = true) : PySem.W.kitOne K (.ref (He.ga K x)) (.ref (He.ga K y)) = some b := of_decide_eq_true (p := PySem.W.kitOne K (.ref (He.ga K x)) (.ref (He.ga K y)) = some b) h
theorem star1B {x qual p1 pv : Str} {params : Arguments} {body : List Stmt} {scope : Scope} (h0 : ∀ (kV doc pm : Value) (an : Option Addr) (cdv ct a : Value), bindArgs (PySem.W.fnOf x qual params body scope .none kV doc pm an cdv ct) ⟨[a], []⟩ = (newTuple [] >>= fun t => pure [(p1, a), (pv, t)]))
    (h1 : ∀ (kV doc pm : Value) (an : Option Addr) (cdv ct a r : Value) (rs : List Value), bindArgs (PySem.W.fnOf x qual params body scope .none kV doc pm an cdv ct) ⟨a :: r :: rs, []⟩ = (newTuple (r :: rs) >>= fun t => pure [(p1, a), (pv, t)])) :
    ∀ (kV doc pm : Value) (an : Option Addr) (cdv ct : Value) (us rest : List Value), us.length = ([p1] : List Str).length → bindArgs (PySem.W.fnOf x qual params body scope .none kV doc pm an cdv ct) ⟨us ++ rest, []⟩ = (newTuple rest >>= fun t => pure (([p1] : List Str).zip us ++ [(pv, t)])) :=
  fun kV doc pm an cdv ct us rest hl => by
    match us, hl with
    | [a], _ =>
      cases rest with
      | nil => exact h0 kV doc pm an cdv ct a
      | cons r rs => exact h1 kV doc pm an cdv ct a r rs
/-- a method as a value -/
def bmB (x m : Str) : Fg → Bool := fun K => decide (PySem.W.specialIn K (.ref (He.ma K (He.ga K x) m)) "__get__" = some (some (.builtin "function.__get__"))) && (decide (PySem.W.takesIn K (.ref (He.ma K (He.ga K x) m)) = some false) && PySem.W.fnIn K (He.ma K (He.ga K x) m))
theorem bmB_ok {K : Fg} {x m : Str} (h0 : Meth K (He.ga K x) m (He.ma K (He.ga K x) m)) (h : bmB x m K = true) (hc : PySem.W.copiedNames.contains m = false) : BMeth K (He.ga K x) m (He.ma K (He.ga K x) m) := by
  obtain ⟨h1, h⟩ := band h
  obtain ⟨h2, h3⟩ := band h
  exact ⟨h0, of_decide_eq_true h1, of_decide_eq_true h2, hc, h3⟩
def sfB (x : Str) : Fg → Bool := fun K => PySem.W.selfFirst K (He.ga K x)
/-- the getter of a property -/
def prAt (C m : Str) : Fg → Addr := fun K => match PySem.W.recIn K (He.ma K (He.ga K C) m) "property" with
  | some (.ref g :: _) => g
  | _ => 0
def propB (C m : Str) : Fg → Bool := fun K => decide (PySem.W.findIn K (.ref (He.ga K C)) m = some (some (.ref (He.ma K (He.ga K C) m)))) && (decide (PySem.W.specialIn K (.ref (He.ma K (He.ga K C) m)) "__get__" = some (some (.builtin "property.__get__"))) && (decide (PySem.W.takesIn K (.ref (He.ma K (He.ga K C) m)) = some true) && (match PySem.W.recIn K (He.ma K (He.ga K C) m) "property" with
  | some (.ref _ :: _) => true
  | _ => false)))
theorem propB_ok {K : Fg} {C m : Str} (h : propB C m K = true) : PropOf K (He.ga K C) m (He.ma K (He.ga K C) m) (prAt C m K) := by
  obtain ⟨h1, h⟩ := band h
  obtain ⟨h2, h⟩ := band h
  obtain ⟨h3, h4⟩ := band h
  refine ⟨of_decide_eq_true h1, of_decide_eq_true h2, of_decide_eq_true h3, ?_⟩
  unfold prAt
  split at h4
  · rename_i g rest e
    rw [e]
    exact ⟨_, rfl⟩
  · cases h4
theorem propD_of {P : Program} {w : World} {K : Fg} {mg : Str → Option Value} {base : Heap} {C m h x qual : Str} {params : Arguments} {body : List Stmt} {scope : Scope} {fd : FuncData} {N : List Str} {p1 p2 p3 : Pos} (hB : propB C m K = true) (F : FunD K x qual params body scope [] [] (prAt C m K) fd) (c : Cls K (He.ga K C)) (n : NoAttr K (He.ga K C) h) (S : FnScope N ["self"] scope) (hN : N[0]? = some ("self" : Str)) (hb : body = [.Return (some (.Attribute (.Name "self" p1) h p2)) p3])
    (hbd : ∀ (kV doc pm : Value) (an : Option Addr) (cdv ct : Value) (us : List Value), us.length = (["self"] : List Str).length → bindArgs (PySem.W.fnOf x qual params body scope .none kV doc pm an cdv ct) ⟨us, []⟩ = pure ((["self"] : List Str).zip us)) : PropD P w K mg base C m h 1 := by
  have B := F.bindsN (ps := ["self"]) hbd
  obtain ⟨oc, od, dV, kV, doc, pm, an, cdv, ct, osl, rfl, lk, hcd, _, _⟩ := F.ex
  exact ⟨c, _, _, _, propB_ok hB, fn_getter lk hcd S hN hb c n, B⟩
end Kf
end
section
set_option maxRecDepth 100000
set_option maxHeartbeats 1000000
/-! KiF1: the facts of the head. Printed by facts.py. -/
namespace Kf
open PySem PySem.Spec PyProof.Rows L2
def rwFile : Str := PySem.Challenge.pw_kindsfill_k72_whole_narrowed.main.file
def chk0 : List (Fg → Bool) := [fa (.free "len"),
  fa (.free "abs"),
  fa (.free "int"),
  fa (.free "str"),
  fa (.free "list"),
  fa (.free "tuple"),
  fa (.free "range"),
  fa (.free "enumerate"),
  fa (.free "zip"),
  fa (.free "isinstance"),
  fa (.free "all"),
  fa (.free "any"),
  fa (.free "bool"),
  fa (.int "MOST_LETTERS" 24),
  fa (.str "LETTERS" "abcdefghijklmnopqrstuvwxyz"),
  fa (.str "LATER" "abcdefghijklmnopqrstuvwxyz0123456789."),
  fa (.cls "Order"),
  fa (.noat "Order" "kinds"),
  fa (.noat "Order" "_above"),
  insB "Order"]
def chk1 : List (Fg → Bool) := [fa (.glo "Order"),
  readB "Order",
  cintB "Order" "MOST" 10,
  fa (.cls "Region"),
  fa (.noat "Region" "order"),
  fa (.noat "Region" "members"),
  fa (.glo "Region"),
  fa (.glo "NotListed"),
  fa (.glo "BadName"),
  fa (.glo "KindError"),
  fa (.free "ValueError"),
  xkB "NotListed",
  fa (.noat "NotListed" "name"),
  kitT "NotListed" "ValueError" true,
  fa (.exm "NotListed" "KindError" true),
  kitB' "NotListed" "NotListed" true,
  kitB' "NotListed" "BadName" false,
  fun K => excB rwFile K (He.ga K "NotListed"),
  fa (.free "super"),
  fa (.glo "_law_pool")]
def chk2 : List (Fg → Bool) := [fa (.glo "_law_draw"),
  fa (.glo "_law_word"),
  fa (.glo "_law_fresh"),
  fa (.glo "_law_names"),
  fa (.glo "_law_mixed_places"),
  fa (.glo "_law_free_pairs"),
  fa (.glo "_law_crown"),
  fa (.glo "_law_tree"),
  fa (.glo "_law_layers"),
  fa (.glo "_law_diamond"),
  fa (.glo "_law_shape"),
  fa (.glo "_law_order_pairs"),
  fa (.glo "_law_named"),
  fa (.glo "_law_above"),
  fa (.glo "_law_same"),
  fa (.glo "is_kind_name"),
  fa (.glo "check_listed"),
  fa (.glo "check_kind_names"),
  fa (.glo "spread"),
  fa (.glo "kinds_above")]
def chk3 : List (Fg → Bool) := [fa (.glo "check_rings"),
  fa (.meth "Order" "below"),
  fa (.meth "Order" "_related"),
  notB "Order" "Order",
  fa (.meth "Order" "__le__"),
  fa (.meth "Order" "__eq__"),
  fa (.cls "Sayings"),
  fa (.noat "Sayings" "order"),
  fa (.noat "Sayings" "pairs"),
  fa (.noat "Sayings" "_unknowns"),
  readB "Sayings",
  cintB "Sayings" "MOST" 120,
  cintB "Sayings" "MOST_UNKNOWNS" 90,
  fa (.glo "Sayings"),
  fa (.glo "is_unknown"),
  fa (.glo "is_unknown_name"),
  fa (.glo "check_name"),
  propB "Sayings" "unknowns",
  fa (.glo "check_said"),
  fa (.glo "full_lists")]
def chk4 : List (Fg → Bool) := [fa (.glo "loose_kinds"),
  fa (.glo "narrow"),
  fa (.mkr "Region"),
  fa (.glo "narrowed"),
  fa (.glo "trail_of"),
  fa (.glo "is_stuck"),
  fa (.glo "_law_said"),
  fa (.glo "_law_edges"),
  fa (.glo "_law_unknowns"),
  fa (.glo "_law_tidy"),
  fa (.glo "_law_stable"),
  fa (.glo "_law_star"),
  fa (.glo "_law_case"),
  fa (.glo "_law_walked"),
  fa (.glo "_law_refused"),
  fa (.glo "_law_right"),
  fa (.mkr "Order"),
  fa (.mkr "Sayings"),
  fa (.glo "law")]
def chk : List (Fg → Bool) := chk0 ++ chk1 ++ chk2 ++ chk3 ++ chk4
def fns0 : List DefZ := [{ at_ := fun K => iniAt K (He.ga K "NotListed"), name := "__init__", qual := "NotListed.__init__", params := defArgs (mem 7 0), body := defBody (mem 7 0), scope := defScope (mem 7 0), clo := true },
  { at_ := fun K => He.ga K "_law_pool", name := "_law_pool", qual := "_law_pool", params := defArgs (top 41), body := defBody (top 41), scope := defScope (top 41) },
  { at_ := fun K => He.ga K "_law_draw", name := "_law_draw", qual := "_law_draw", params := defArgs (top 42), body := defBody (top 42), scope := defScope (top 42) },
  { at_ := fun K => He.ga K "_law_word", name := "_law_word", qual := "_law_word", params := defArgs (top 43), body := defBody (top 43), scope := defScope (top 43) },
  { at_ := fun K => He.ga K "_law_fresh", name := "_law_fresh", qual := "_law_fresh", params := defArgs (top 44), body := defBody (top 44), scope := defScope (top 44) },
  { at_ := fun K => He.ga K "_law_names", name := "_law_names", qual := "_law_names", params := defArgs (top 45), body := defBody (top 45), scope := defScope (top 45) },
  { at_ := fun K => He.ga K "_law_mixed_places", name := "_law_mixed_places", qual := "_law_mixed_places", params := defArgs (top 47), body := defBody (top 47), scope := defScope (top 47) },
  { at_ := fun K => He.ga K "_law_free_pairs", name := "_law_free_pairs", qual := "_law_free_pairs", params := defArgs (top 48), body := defBody (top 48), scope := defScope (top 48) },
  { at_ := fun K => He.ga K "_law_crown", name := "_law_crown", qual := "_law_crown", params := defArgs (top 49), body := defBody (top 49), scope := defScope (top 49) },
  { at_ := fun K => He.ga K "_law_tree", name := "_law_tree", qual := "_law_tree", params := defArgs (top 50), body := defBody (top 50), scope := defScope (top 50) },
  { at_ := fun K => He.ga K "_law_layers", name := "_law_layers", qual := "_law_layers", params := defArgs (top 51), body := defBody (top 51), scope := defScope (top 51) },
  { at_ := fun K => He.ga K "_law_diamond", name := "_law_diamond", qual := "_law_diamond", params := defArgs (top 52), body := defBody (top 52), scope := defScope (top 52) },
  { at_ := fun K => He.ga K "_law_shape", name := "_law_shape", qual := "_law_shape", params := defArgs (top 53), body := defBody (top 53), scope := defScope (top 53) },
  { at_ := fun K => He.ga K "_law_order_pairs", name := "_law_order_pairs", qual := "_law_order_pairs", params := defArgs (top 54), body := defBody (top 54), scope := defScope (top 54) },
  { at_ := fun K => He.ga K "_law_named", name := "_law_named", qual := "_law_named", params := defArgs (top 55), body := defBody (top 55), scope := defScope (top 55) },
  { at_ := fun K => He.ga K "_law_above", name := "_law_above", qual := "_law_above", params := defArgs (top 56), body := defBody (top 56), scope := defScope (top 56) },
  { at_ := fun K => He.ga K "_law_same", name := "_law_same", qual := "_law_same", params := defArgs (top 58), body := defBody (top 58), scope := defScope (top 58) },
  { at_ := fun K => He.ga K "is_kind_name", name := "is_kind_name", qual := "is_kind_name", params := defArgs (top 17), body := defBody (top 17), scope := defScope (top 17) },
  { at_ := fun K => He.ga K "check_listed", name := "check_listed", qual := "check_listed", params := defArgs (top 20), body := defBody (top 20), scope := defScope (top 20) },
  { at_ := fun K => He.ga K "check_kind_names", name := "check_kind_names", qual := "check_kind_names", params := defArgs (top 19), body := defBody (top 19), scope := defScope (top 19) }]
def fns1 : List DefZ := [{ at_ := fun K => He.ga K "spread", name := "spread", qual := "spread", params := defArgs (top 2), body := defBody (top 2), scope := defScope (top 2) },
  { at_ := fun K => He.ga K "kinds_above", name := "kinds_above", qual := "kinds_above", params := defArgs (top 37), body := defBody (top 37), scope := defScope (top 37) },
  { at_ := fun K => He.ga K "check_rings", name := "check_rings", qual := "check_rings", params := defArgs (top 38), body := defBody (top 38), scope := defScope (top 38) },
  { at_ := fun K => He.ma K (He.ga K "Order") "__init__", name := "__init__", qual := "Order.__init__", params := defArgs (mem 39 1), body := defBody (mem 39 1), scope := defScope (mem 39 1), dfl := [.adr (He.dflAt ("Order", some "__init__") 0)] },
  { at_ := fun K => He.ma K (He.ga K "Order") "below", name := "below", qual := "Order.below", params := defArgs (mem 39 7), body := defBody (mem 39 7), scope := defScope (mem 39 7) },
  { at_ := fun K => He.ma K (He.ga K "Order") "_related", name := "_related", qual := "Order._related", params := defArgs (mem 39 9), body := defBody (mem 39 9), scope := defScope (mem 39 9) },
  { at_ := fun K => He.ma K (He.ga K "Order") "__le__", name := "__le__", qual := "Order.__le__", params := defArgs (mem 39 19), body := defBody (mem 39 19), scope := defScope (mem 39 19) },
  { at_ := fun K => He.ma K (He.ga K "Order") "__eq__", name := "__eq__", qual := "Order.__eq__", params := defArgs (mem 39 20), body := defBody (mem 39 20), scope := defScope (mem 39 20) },
  { at_ := fun K => He.ga K "is_unknown", name := "is_unknown", qual := "is_unknown", params := defArgs (top 25), body := defBody (top 25), scope := defScope (top 25) },
  { at_ := fun K => He.ga K "is_unknown_name", name := "is_unknown_name", qual := "is_unknown_name", params := defArgs (top 18), body := defBody (top 18), scope := defScope (top 18) },
  { at_ := fun K => He.ga K "check_name", name := "check_name", qual := "check_name", params := defArgs (top 26), body := defBody (top 26), scope := defScope (top 26) },
  { at_ := fun K => He.ma K (He.ga K "Sayings") "__init__", name := "__init__", qual := "Sayings.__init__", params := defArgs (mem 27 2), body := defBody (mem 27 2), scope := defScope (mem 27 2), dfl := [.adr (He.dflAt ("Sayings", some "__init__") 0)] },
  { at_ := prAt "Sayings" "unknowns", name := "unknowns", qual := "Sayings.unknowns", params := defArgs (mem 27 3), body := defBody (mem 27 3), scope := defScope (mem 27 3) },
  { at_ := fun K => He.ga K "check_said", name := "check_said", qual := "check_said", params := defArgs (top 28), body := defBody (top 28), scope := defScope (top 28) },
  { at_ := fun K => He.ma K (He.ga K "Region") "__init__", name := "__init__", qual := "Region.__init__", params := defArgs (mem 23 0), body := defBody (mem 23 0), scope := defScope (mem 23 0) },
  { at_ := fun K => He.ga K "full_lists", name := "full_lists", qual := "full_lists", params := defArgs (top 30), body := defBody (top 30), scope := defScope (top 30) },
  { at_ := fun K => He.ga K "loose_kinds", name := "loose_kinds", qual := "loose_kinds", params := defArgs (top 31), body := defBody (top 31), scope := defScope (top 31) },
  { at_ := fun K => He.ga K "narrow", name := "narrow", qual := "narrow", params := defArgs (top 32), body := defBody (top 32), scope := defScope (top 32) },
  { at_ := fun K => He.ga K "narrowed", name := "narrowed", qual := "narrowed", params := defArgs (top 33), body := defBody (top 33), scope := defScope (top 33) },
  { at_ := fun K => He.ga K "trail_of", name := "trail_of", qual := "trail_of", params := defArgs (top 34), body := defBody (top 34), scope := defScope (top 34) }]
def fns2 : List DefZ := [{ at_ := fun K => He.ga K "is_stuck", name := "is_stuck", qual := "is_stuck", params := defArgs (top 35), body := defBody (top 35), scope := defScope (top 35) },
  { at_ := fun K => He.ga K "_law_said", name := "_law_said", qual := "_law_said", params := defArgs (top 60), body := defBody (top 60), scope := defScope (top 60) },
  { at_ := fun K => He.ga K "_law_edges", name := "_law_edges", qual := "_law_edges", params := defArgs (top 57), body := defBody (top 57), scope := defScope (top 57) },
  { at_ := fun K => He.ga K "_law_unknowns", name := "_law_unknowns", qual := "_law_unknowns", params := defArgs (top 46), body := defBody (top 46), scope := defScope (top 46) },
  { at_ := fun K => He.ga K "_law_tidy", name := "_law_tidy", qual := "_law_tidy", params := defArgs (top 59), body := defBody (top 59), scope := defScope (top 59) },
  { at_ := fun K => He.ga K "_law_stable", name := "_law_stable", qual := "_law_stable", params := defArgs (top 64), body := defBody (top 64), scope := defScope (top 64) },
  { at_ := fun K => He.ga K "_law_star", name := "_law_star", qual := "_law_star", params := defArgs (top 61), body := defBody (top 61), scope := defScope (top 61) },
  { at_ := fun K => He.ga K "_law_case", name := "_law_case", qual := "_law_case", params := defArgs (top 62), body := defBody (top 62), scope := defScope (top 62) },
  { at_ := fun K => He.ga K "_law_walked", name := "_law_walked", qual := "_law_walked", params := defArgs (top 63), body := defBody (top 63), scope := defScope (top 63) },
  { at_ := fun K => He.ga K "_law_refused", name := "_law_refused", qual := "_law_refused", params := defArgs (top 65), body := defBody (top 65), scope := defScope (top 65) },
  { at_ := fun K => He.ga K "_law_right", name := "_law_right", qual := "_law_right", params := defArgs (top 66), body := defBody (top 66), scope := defScope (top 66) },
  { at_ := fun K => He.ga K "law", name := "law", qual := "law", params := defArgs (top 67), body := defBody (top 67), scope := defScope (top 67) }]
def fns : List DefZ := fns0 ++ fns1 ++ fns2
theorem law_facts {P : Program} {w : World} {K : Fg} {h base : Heap} {mg : Str → Option Value} (X : K.In h) (G : h.Ns mainGlobals mg) (hP : P.main.file = rwFile ∧ (P.main.scope.names.lookup ("super" : Str)).isSome = false) (c : SaysZ chk fns K) : L72C P w K mg base := by
  have b : Bi mg := ⟨(He.free_ok X G (c.fact 0)), (He.free_ok X G (c.fact 1)), (He.free_ok X G (c.fact 2)), (He.free_ok X G (c.fact 3)), (He.free_ok X G (c.fact 4)), (He.free_ok X G (c.fact 5)), (He.free_ok X G (c.fact 6)), (He.free_ok X G (c.fact 7)), (He.free_ok X G (c.fact 8)), (He.free_ok X G (c.fact 9)), (He.free_ok X G (c.fact 10)), (He.free_ok X G (c.fact 11))⟩
  have bt : BiT mg := ⟨(He.free_ok X G (c.fact 12)), (He.free_ok X G (c.fact 2)), (He.free_ok X G (c.fact 3)), (He.free_ok X G (c.fact 5)), (He.free_ok X G (c.fact 4))⟩
  have gc : Gc mg := ⟨He.int_ok X G (c.fact 13), He.str_ok X G (c.fact 14), He.str_ok X G (c.fact 15)⟩
  have oc : OrC K mg := ⟨(He.cls_ok (c.fact 16)), (He.noat_ok (c.fact 17)), (He.noat_ok (c.fact 18)), (insB_ok (c.fact 19)), (He.glo_ok X G (c.fact 20)), (readB_ok (c.fact 21)), (cintB_ok (c.fact 22))⟩
  have rc : RgC K mg := ⟨(He.cls_ok (c.fact 23)), (He.noat_ok (c.fact 24)), (He.noat_ok (c.fact 25)), (He.glo_ok X G (c.fact 26))⟩
  have er : Er9 K mg := ⟨(He.glo_ok X G (c.fact 27)), (He.glo_ok X G (c.fact 28)), (He.glo_ok X G (c.fact 29)), (He.free_ok X G (c.fact 30)), ⟨(xkB_ok (c.fact 31)).1, (xkB_ok (c.fact 31)).2⟩, (He.noat_ok (c.fact 32)), (of_decide_eq_true (c.fact 33)), (He.exm_ok (c.fact 34)), (kitB_ok (c.fact 35)), (kitB_ok (c.fact 36))⟩
  have e_xNotListed : ExC P K (He.ga K "NotListed") (iniAt K (He.ga K "NotListed")) _ _ _ _ _ := excB_ok (P := P) (hP.1 ▸ (c.fact 37)) (c.def_ 0).1 (c.def_ 0).2 rfl rfl hP.2
  have xNotListed : Xc1 P w K mg base "NotListed" "name" := by
    obtain ⟨fd, h1, h2⟩ := fn_exc1 (w := w) (base := base) (f := "name") (pn := "name") e_xNotListed (He.free_ok X G (c.fact 38)) (He.noat_ok (c.fact 32)) rfl (by decide) ⟨_, rfl, rfl⟩ rfl rfl rfl rfl (by decide) (by decide) rfl rfl rfl (by decide +kernel) (fun _ _ _ _ => rfl) (fun _ _ _ _ => rfl) (fun _ _ _ _ => rfl) (fun _ _ _ _ => ⟨_, rfl⟩) (fun _ _ _ _ _ _ _ us hl => match us, hl with | [_, _], _ => rfl)
    exact ⟨(He.glo_ok X G (c.fact 27)), e_xNotListed.cls, _, fd, _, e_xNotListed.ini, e_xNotListed.ty, h1, h2⟩
  obtain ⟨_, F_pool⟩ := c.fun_ 1
  have pool : Dx P w K mg base "_law_pool" 1 cPool := dn_of F_pool (ok_pool F_pool b) (He.glo_ok X G (c.fact 39)) (fun _ _ _ _ _ _ us hl => match us, hl with | [_], _ => rfl)
  obtain ⟨_, F_draw⟩ := c.fun_ 2
  have draw : Dy P w K mg base "_law_draw" 1 cDraw := dn_of F_draw (ok_draw F_draw b) (He.glo_ok X G (c.fact 40)) (fun _ _ _ _ _ _ us hl => match us, hl with | [_, _], _ => rfl)
  obtain ⟨_, F_word⟩ := c.fun_ 3
  have word : Dy P w K mg base "_law_word" 2 cWord := dn_of F_word (ok_word F_word b draw) (He.glo_ok X G (c.fact 41)) (fun _ _ _ _ _ _ us hl => match us, hl with | [_, _], _ => rfl)
  obtain ⟨_, F_fresh⟩ := c.fun_ 4
  have fresh : Dx P w K mg base "_law_fresh" 1 cFresh := dn_of F_fresh (ok_fresh F_fresh b) (He.glo_ok X G (c.fact 42)) (fun _ _ _ _ _ _ us hl => match us, hl with | [_, _], _ => rfl)
  obtain ⟨_, F_nms⟩ := c.fun_ 5
  have nms : Dy P w K mg base "_law_names" 3 cNames := dn_of F_nms (ok_names F_nms b draw word fresh) (He.glo_ok X G (c.fact 43)) (fun _ _ _ _ _ _ us hl => match us, hl with | [_, _], _ => rfl)
  obtain ⟨_, F_plcs⟩ := c.fun_ 6
  have plcs : Dy P w K mg base "_law_mixed_places" 2 cPlaces := dn_of F_plcs (ok_places F_plcs b draw) (He.glo_ok X G (c.fact 44)) (fun _ _ _ _ _ _ us hl => match us, hl with | [_, _], _ => rfl)
  obtain ⟨_, F_freep⟩ := c.fun_ 7
  have freep : Dy P w K mg base "_law_free_pairs" 2 cFree := dn_of F_freep (ok_free F_freep b draw) (He.glo_ok X G (c.fact 45)) (fun _ _ _ _ _ _ us hl => match us, hl with | [_, _], _ => rfl)
  obtain ⟨_, F_crown⟩ := c.fun_ 8
  have crown : Dx P w K mg base "_law_crown" 1 cCrown := dn_of F_crown (ok_crown F_crown b) (He.glo_ok X G (c.fact 46)) (fun _ _ _ _ _ _ us hl => match us, hl with | [_], _ => rfl)
  obtain ⟨_, F_tree⟩ := c.fun_ 9
  have tree : Dy P w K mg base "_law_tree" 2 cTree := dn_of F_tree (ok_tree F_tree b draw) (He.glo_ok X G (c.fact 47)) (fun _ _ _ _ _ _ us hl => match us, hl with | [_, _], _ => rfl)
  obtain ⟨_, F_layers⟩ := c.fun_ 10
  have layers : Dx P w K mg base "_law_layers" 1 cLayers := dn_of F_layers (ok_layers F_layers b) (He.glo_ok X G (c.fact 48)) (fun _ _ _ _ _ _ us hl => match us, hl with | [_, _], _ => rfl)
  obtain ⟨_, F_dia⟩ := c.fun_ 11
  have dia : Dx P w K mg base "_law_diamond" 1 cDia := dn_of F_dia (ok_dia F_dia b) (He.glo_ok X G (c.fact 49)) (fun _ _ _ _ _ _ us hl => match us, hl with | [_], _ => rfl)
  obtain ⟨_, F_shape⟩ := c.fun_ 12
  have shape : Dy P w K mg base "_law_shape" 3 cShape := dn_of F_shape (ok_shape F_shape b draw crown tree layers dia freep) (He.glo_ok X G (c.fact 50)) (fun _ _ _ _ _ _ us hl => match us, hl with | [_, _], _ => rfl)
  obtain ⟨_, F_opairs⟩ := c.fun_ 13
  have opairs : Dy P w K mg base "_law_order_pairs" 4 cShape := dn_of F_opairs (ok_opairs F_opairs b shape plcs) (He.glo_ok X G (c.fact 51)) (fun _ _ _ _ _ _ us hl => match us, hl with | [_, _], _ => rfl)
  obtain ⟨_, F_named_⟩ := c.fun_ 14
  have named_ : Dx P w K mg base "_law_named" 1 cNamed := dn_of F_named_ (ok_named F_named_ b) (He.glo_ok X G (c.fact 52)) (fun _ _ _ _ _ _ us hl => match us, hl with | [_, _], _ => rfl)
  obtain ⟨_, F_above⟩ := c.fun_ 15
  have above : Dx P w K mg base "_law_above" 1 cAbove := dn_of F_above (ok_above F_above b) (He.glo_ok X G (c.fact 53)) (fun _ _ _ _ _ _ us hl => match us, hl with | [_, _], _ => rfl)
  obtain ⟨_, F_same⟩ := c.fun_ 16
  have same : ∀ k, Dx P w K mg base "_law_same" (k + 1) (cSame k) := fun k => by
    induction k with
    | zero => exact dn_of F_same (ok_same F_same b bt fun j h => nomatch h) (He.glo_ok X G (c.fact 54)) (fun _ _ _ _ _ _ us hl => match us, hl with | [_, _], _ => rfl)
    | succ k ih => exact dn_of F_same (ok_same F_same b bt fun j h => by cases h; exact ih) (He.glo_ok X G (c.fact 54)) (fun _ _ _ _ _ _ us hl => match us, hl with | [_, _], _ => rfl)
  obtain ⟨_, F_isname⟩ := c.fun_ 17
  have isname : ∀ z, Dx P w K mg base "is_kind_name" 1 (cIsName z) := fun z => dn_of F_isname (ok_isname F_isname b gc z) (He.glo_ok X G (c.fact 55)) (fun _ _ _ _ _ _ us hl => match us, hl with | [_], _ => rfl)
  obtain ⟨_, F_listed⟩ := c.fun_ 18
  have listed : ∀ ks z, Dx P w K mg base "check_listed" 3 (cListed ks z) := fun ks z => dn_of F_listed (ok_listed F_listed xNotListed ks z) (He.glo_ok X G (c.fact 56)) (fun _ _ _ _ _ _ us hl => match us, hl with | [_, _], _ => rfl)
  obtain ⟨_, F_cknames⟩ := c.fun_ 19
  have cknames : ∀ ks, Dx P w K mg base "check_kind_names" 2 (cNamesOk ks) := fun ks => dn_of F_cknames (ok_cknames F_cknames b isname ks) (He.glo_ok X G (c.fact 57)) (fun _ _ _ _ _ _ us hl => match us, hl with | [_], _ => rfl)
  obtain ⟨_, F_spread⟩ := c.fun_ 20
  have spread : ∀ ks E s, Dx P w K mg base "spread" 2 (cSpread ks E s) := fun ks E s => dn_of F_spread (ok_spread F_spread b ks E s) (He.glo_ok X G (c.fact 58)) (fun _ _ _ _ _ _ us hl => match us, hl with | [_, _], _ => rfl)
  obtain ⟨_, F_aboves⟩ := c.fun_ 21
  have aboves : ∀ ks prs, Dx P w K mg base "kinds_above" 3 (cAboves ks prs) := fun ks prs => dn_of F_aboves (ok_aboves F_aboves b spread ks prs) (He.glo_ok X G (c.fact 59)) (fun _ _ _ _ _ _ us hl => match us, hl with | [_, _], _ => rfl)
  obtain ⟨_, F_rings⟩ := c.fun_ 22
  have rings : ∀ ks E, Dx P w K mg base "check_rings" 1 (cRings ks E) := fun ks E => dn_of F_rings (ok_rings F_rings ks E) (He.glo_ok X G (c.fact 60)) (fun _ _ _ _ _ _ us hl => match us, hl with | [_, _], _ => rfl)
  obtain ⟨_, F_ordI⟩ := c.fun_ 23
  have ordI : ∀ ks prs, FnR P w K mg base (L2.CX P w) 4 (He.ma K (He.ga K "Order") "__init__") (spO K (cOrdI ks prs)) := fun ks prs => by
    obtain ⟨ds, hds, hb⟩ := F_ordI.binds1 (ps := ["self", "kinds", "pairs"]) 3 1 (by simp [DefZ.dvs]) rfl (fun T kV doc pm an cdv ct us its hl hl2 => match us, its, hl, hl2 with
      | [_, _, _], [_], _, _ => ⟨_, rfl, rfl⟩)
    cases hds
    exact ((ok_ordI F_ordI b oc cknames listed aboves rings ks prs).raw hb .nil).imp fun vs H Q E z => by rw [List.append_nil]; exact z
  obtain ⟨_, F_below⟩ := c.fun_ 24
  have below : ∀ ks E lo hi, FnR P w K mg base (L2.CX P w) 4 (He.ma K (He.ga K "Order") "below") (spP K (cBelow ks E lo hi)) := fun ks E lo hi => ((ok_below F_below oc listed ks E lo hi).raw (F_below.bindsN (fun _ _ _ _ _ _ us hl => match us, hl with | [_, _, _], _ => rfl)) .nil).imp fun vs H Q E z => by rw [List.append_nil]; exact z
  have belowM : ∀ ks E lo hi, Md P w K mg base "Order" "below" 4 (cBelow ks E lo hi) := fun ks E lo hi => ⟨oc.cls, _, (He.meth_ok (c.fact 61)), below ks E lo hi⟩
  obtain ⟨_, F_rel⟩ := c.fun_ 25
  have rel : ∀ ks E, FnR P w K mg base (L2.CX P w) 1 (He.ma K (He.ga K "Order") "_related") (spP K (cRel ks E)) := fun ks E => ((ok_rel F_rel oc ks E).raw (F_rel.bindsN (fun _ _ _ _ _ _ us hl => match us, hl with | [_], _ => rfl)) .nil).imp fun vs H Q E z => by rw [List.append_nil]; exact z
  have relM : ∀ ks E, Md P w K mg base "Order" "_related" 1 (cRel ks E) := fun ks E => ⟨oc.cls, _, (He.meth_ok (c.fact 62)), rel ks E⟩
  obtain ⟨_, F_ordLe⟩ := c.fun_ 26
  have ordLe : ∀ ks E ls G, FnR P w K mg base (L2.CX P w) 3 (He.ma K (He.ga K "Order") "__le__") (spP K (cOrdLe ks E ls G)) := fun ks E ls G => ((ok_ordLe F_ordLe b oc relM ks E ls G).raw (F_ordLe.bindsN (fun _ _ _ _ _ _ us hl => match us, hl with | [_, _], _ => rfl)) .nil).imp fun vs H Q E z => by rw [List.append_nil]; exact z
  have ordLeO : ∀ ks E ls G, Od P w K mg base "Order" "Order" .LtE 3 (cOrdLe ks E ls G) := fun ks E ls G => ⟨(c.fact 63), _, (He.meth_ok (c.fact 64)).at_, (He.meth_ok (c.fact 64)).fn, ordLe ks E ls G⟩
  obtain ⟨_, F_ordEq⟩ := c.fun_ 27
  have ordEq : ∀ ks E ls G, FnR P w K mg base (L2.CX P w) 4 (He.ma K (He.ga K "Order") "__eq__") (spP K (cOrdEq ks E ls G)) := fun ks E ls G => ((ok_ordEq F_ordEq b oc ordLeO ks E ls G).raw (F_ordEq.bindsN (fun _ _ _ _ _ _ us hl => match us, hl with | [_, _], _ => rfl)) .nil).imp fun vs H Q E z => by rw [List.append_nil]; exact z
  have ordEqO : ∀ ks E ls G, Od P w K mg base "Order" "Order" .Eq 4 (cOrdEq ks E ls G) := fun ks E ls G => ⟨(c.fact 63), _, (He.meth_ok (c.fact 65)).at_, (He.meth_ok (c.fact 65)).fn, ordEq ks E ls G⟩
  have sy : SyC K mg := ⟨(He.cls_ok (c.fact 66)), (He.noat_ok (c.fact 67)), (He.noat_ok (c.fact 68)), (He.noat_ok (c.fact 69)), (readB_ok (c.fact 70)), (cintB_ok (c.fact 71)), (cintB_ok (c.fact 72)), (He.glo_ok X G (c.fact 73))⟩
  obtain ⟨_, F_isu⟩ := c.fun_ 28
  have isu : ∀ z, Dx P w K mg base "is_unknown" 1 (cIsU z) := fun z => dn_of F_isu (ok_isu F_isu z) (He.glo_ok X G (c.fact 74)) (fun _ _ _ _ _ _ us hl => match us, hl with | [_], _ => rfl)
  obtain ⟨_, F_isun⟩ := c.fun_ 29
  have isun : ∀ z, Dx P w K mg base "is_unknown_name" 1 (cIsUN z) := fun z => dn_of F_isun (ok_isun F_isun b gc z) (He.glo_ok X G (c.fact 75)) (fun _ _ _ _ _ _ us hl => match us, hl with | [_], _ => rfl)
  obtain ⟨_, F_ckn⟩ := c.fun_ 30
  have ckn : ∀ ks E z, Dx P w K mg base "check_name" 4 (cCkN ks E z) := fun ks E z => dn_of F_ckn (ok_ckn F_ckn oc isu isun listed ks E z) (He.glo_ok X G (c.fact 76)) (fun _ _ _ _ _ _ us hl => match us, hl with | [_, _], _ => rfl)
  obtain ⟨_, F_sayI⟩ := c.fun_ 31
  have sayI : ∀ o prs, FnR P w K mg base (L2.CX P w) 5 (He.ma K (He.ga K "Sayings") "__init__") (spO K (cSayI o prs)) := fun o prs => by
    obtain ⟨ds, hds, hb⟩ := F_sayI.binds1 (ps := ["self", "order", "pairs"]) 3 1 (by simp [DefZ.dvs]) rfl (fun T kV doc pm an cdv ct us its hl hl2 => match us, its, hl, hl2 with
      | [_, _, _], [_], _, _ => ⟨_, rfl, rfl⟩)
    cases hds
    exact ((ok_sayI F_sayI b sy isu ckn o prs).raw hb .nil).imp fun vs H Q E z => by rw [List.append_nil]; exact z
  obtain ⟨_, F_unkP⟩ := c.fun_ 32
  have unkP : PropD P w K mg base "Sayings" "unknowns" "_unknowns" 1 := propD_of (c.fact 77) F_unkP sy.cls sy.nu (N := ["self"]) ⟨rfl, rfl, rfl, by decide +kernel, rfl, by decide +kernel, by decide +kernel⟩ rfl rfl (fun _ _ _ _ _ _ us hl => match us, hl with | [_], _ => rfl)
  obtain ⟨_, F_said⟩ := c.fun_ 33
  have said : ∀ o prs z, Dx P w K mg base "check_said" 3 (cSaid o prs z) := fun o prs z => dn_of F_said (ok_said F_said oc sy unkP xNotListed o prs z) (He.glo_ok X G (c.fact 78)) (fun _ _ _ _ _ _ us hl => match us, hl with | [_, _], _ => rfl)
  obtain ⟨_, F_regI⟩ := c.fun_ 34
  have regI : ∀ o zs k, FnR P w K mg base (L2.CX P w) 4 (He.ma K (He.ga K "Region") "__init__") (spO K (cRegI o zs k)) := fun o zs k => ((ok_regI F_regI b oc rc listed o zs k).raw (F_regI.bindsN (fun _ _ _ _ _ _ us hl => match us, hl with | [_, _, _], _ => rfl)) .nil).imp fun vs H Q E z => by rw [List.append_nil]; exact z
  obtain ⟨_, F_full⟩ := c.fun_ 35
  have full : ∀ o prs, Dx P w K mg base "full_lists" 3 (cFull o prs) := fun o prs => dn_of F_full (ok_full F_full b oc sy unkP o prs) (He.glo_ok X G (c.fact 79)) (fun _ _ _ _ _ _ us hl => match us, hl with | [_], _ => rfl)
  obtain ⟨_, F_loose_⟩ := c.fun_ 36
  have loose_ : ∀ o names F p, Dx P w K mg base "loose_kinds" 5 (cLoose o names F p) := fun o names F p => dn_of F_loose_ (ok_loose F_loose_ b belowM o names F p) (He.glo_ok X G (c.fact 80)) (fun _ _ _ _ _ _ us hl => match us, hl with | [_, _, _], _ => rfl)
  obtain ⟨_, F_narrow_⟩ := c.fun_ 37
  have narrow_ : ∀ o prs, Dx P w K mg base "narrow" 6 (cNarrow o prs) := fun o prs => dn_of F_narrow_ (ok_narrow F_narrow_ sy full loose_ o prs) (He.glo_ok X G (c.fact 81)) (fun _ _ _ _ _ _ us hl => match us, hl with | [_], _ => rfl)
  obtain ⟨_, F_nrwd⟩ := c.fun_ 38
  have nrwd : ∀ o prs z, Dx P w K mg base "narrowed" 7 (cNarrowed o prs z) := fun o prs z => dn_of F_nrwd (ok_nrwd F_nrwd sy rc (He.mkr_ok (c.fact 82)) regI said narrow_ o prs z) (He.glo_ok X G (c.fact 83)) (fun _ _ _ _ _ _ us hl => match us, hl with | [_, _], _ => rfl)
  obtain ⟨_, F_trail⟩ := c.fun_ 39
  have trail : ∀ o prs, Dx P w K mg base "trail_of" 7 (cTrail o prs) := fun o prs => dn_of F_trail (ok_trail F_trail narrow_ o prs) (He.glo_ok X G (c.fact 84)) (fun _ _ _ _ _ _ us hl => match us, hl with | [_], _ => rfl)
  obtain ⟨_, F_stuck⟩ := c.fun_ 40
  have stuck : ∀ o prs, Dx P w K mg base "is_stuck" 7 (cStuck o prs) := fun o prs => dn_of F_stuck (ok_stuck F_stuck b narrow_ o prs) (He.glo_ok X G (c.fact 85)) (fun _ _ _ _ _ _ us hl => match us, hl with | [_], _ => rfl)
  obtain ⟨_, F_lsd⟩ := c.fun_ 41
  have lsd : ∀ ns ps, Dx P w K mg base "_law_said" 1 (cLSd ns ps) := fun ns ps => dn_of F_lsd (ok_lsd F_lsd ns ps) (He.glo_ok X G (c.fact 86)) (fun _ _ _ _ _ _ us hl => match us, hl with | [_, _], _ => rfl)
  obtain ⟨_, F_edg⟩ := c.fun_ 42
  have edg : ∀ n R u m, Dy P w K mg base "_law_edges" 2 (cEdg n R u m) := fun n R u m => dn_of F_edg (ok_edg F_edg b draw n R u m) (He.glo_ok X G (c.fact 87)) (fun _ _ _ _ _ _ us hl => match us, hl with | [_, _, _, _], _ => rfl)
  obtain ⟨_, F_unk⟩ := c.fun_ 43
  have unk : ∀ m, Dy P w K mg base "_law_unknowns" 4 (cUnk m) := fun m => dn_of F_unk (ok_unk F_unk b draw nms m) (He.glo_ok X G (c.fact 88)) (fun _ _ _ _ _ _ us hl => match us, hl with | [_, _], _ => rfl)
  obtain ⟨_, F_tidy⟩ := c.fun_ 44
  have tidy : ∀ n es, Dx P w K mg base "_law_tidy" 1 (cTidy n es) := fun n es => dn_of F_tidy (ok_tidy F_tidy b n es) (He.glo_ok X G (c.fact 89)) (fun _ _ _ _ _ _ us hl => match us, hl with | [_, _], _ => rfl)
  obtain ⟨_, F_stab⟩ := c.fun_ 45
  have stab : ∀ n R Ls es, Dx P w K mg base "_law_stable" 1 (cStab n R Ls es) := fun n R Ls es => dn_of F_stab (ok_stab F_stab b n R Ls es) (He.glo_ok X G (c.fact 90)) (fun _ _ _ _ _ _ us hl => match us, hl with | [_, _, _], _ => rfl)
  obtain ⟨_, F_star⟩ := c.fun_ 46
  have star : ∀ h, Dy P w K mg base "_law_star" 3 (cStar h) := fun h => dn_of F_star (ok_star F_star b draw plcs crown h) (He.glo_ok X G (c.fact 91)) (fun _ _ _ _ _ _ us hl => match us, hl with | [_, _], _ => rfl)
  obtain ⟨_, F_case_⟩ := c.fun_ 47
  have case_ : Dy P w K mg base "_law_case" 5 cCase := dn_of F_case_ (ok_case F_case_ b draw plcs above opairs star edg) (He.glo_ok X G (c.fact 92)) (fun _ _ _ _ _ _ us hl => match us, hl with | [_, _, _, _], _ => rfl)
  obtain ⟨_, F_walked⟩ := c.fun_ 48
  have walked : ∀ n R ns prs tr r, Dx P w K mg base "_law_walked" 1 (cWalked n R ns prs tr r) := fun n R ns prs tr r => dn_of F_walked (ok_walked F_walked b n R ns prs tr r) (He.glo_ok X G (c.fact 93)) (fun _ _ _ _ _ _ us hl => match us, hl with | [_, _, _, _], _ => rfl)
  obtain ⟨_, F_refd⟩ := c.fun_ 49
  have refd : ∀ o prs z, Dx P w K mg base "_law_refused" 8 (cRef72 o prs z) := fun o prs z => dn_of F_refd (ok_ref72 F_refd b er nrwd o prs z) (He.glo_ok X G (c.fact 94)) (fun _ _ _ _ _ _ us hl => match us, hl with | [_, _], _ => rfl)
  obtain ⟨_, F_right⟩ := c.fun_ 50
  have right : ∀ o prs es R, Dx P w K mg base "_law_right" 8 (cRt72 o prs es R) := fun o prs es R => dn_of F_right (ok_rt72 F_right b rc ordEqO trail walked lsd stab nrwd stuck (same 3) o prs es R) (He.glo_ok X G (c.fact 95)) (fun _ _ _ _ _ _ us hl => match us, hl with | [_, _, _, _, _, _], _ => rfl)
  exact { b := b, oc := oc, sy := sy, pool := pool, cs := case_, nm := nms, un := unk, nd := named_, sd := lsd, td := tidy, s1 := same 1, rt := right, rf := refd, om := ⟨_, (He.mkr_ok (c.fact 96)), ordI⟩, sm := ⟨_, (He.mkr_ok (c.fact 97)), sayI⟩ }
end Kf
end
section
set_option maxRecDepth 100000
set_option maxHeartbeats 0
/-! KiR1: the run of the top. Printed by facts.py. -/
namespace Kf
open PySem PySem.W PySem.Calls PyProof.Rows
abbrev RW : OpenRow := OpenLaw.row PySem.Challenge.rw_kindsfill_k72_whole_narrowed
abbrev RQ : Program := view RW.prog [67]
def loose0 : List PySem.Str := ["_wall",
  "__name__",
  "spread",
  "KindError",
  "BadName",
  "Duplicate",
  "NotListed",
  "BadCount",
  "Ring",
  "Unlike",
  "TooMany",
  "Missing",
  "MOST_LETTERS",
  "LETTERS",
  "LATER",
  "is_kind_name",
  "is_unknown_name",
  "check_kind_names",
  "check_listed",
  "check_alike",
  "Region",
  "is_unknown",
  "check_name",
  "Sayings",
  "check_said",
  "full_lists",
  "loose_kinds",
  "narrow",
  "narrowed",
  "trail_of"]
def loose1 : List PySem.Str := ["is_stuck",
  "kinds_above",
  "check_rings",
  "Order",
  "_law_pool",
  "_law_draw",
  "_law_word",
  "_law_fresh",
  "_law_names",
  "_law_unknowns",
  "_law_mixed_places",
  "_law_free_pairs",
  "_law_crown",
  "_law_tree",
  "_law_layers",
  "_law_diamond",
  "_law_shape",
  "_law_order_pairs",
  "_law_named",
  "_law_above",
  "_law_edges",
  "_law_same",
  "_law_tidy",
  "_law_said",
  "_law_star",
  "_law_case",
  "_law_walked",
  "_law_stable",
  "_law_refused",
  "_law_right"]
def loose : List PySem.Str := loose0 ++ loose1
abbrev hkL : PySem.W.Hook := hookZ 5 chk fns
def obL (s : PySem.W.SharedT) : Bool × List FnZ := obsZG 5 chk fns (HandSHeadRun.getT s)
theorem obL_eq (s : PySem.W.SharedT) : obL s = hkL.obs s.abs := obsZG_eq (HandSHeadRun.getT_eq s)
theorem runL (w : World) : HandSHeadRun.RunEq RW RQ hkL obL 20000 loose w := by
  intro os
  kernel_rfl
end Kf
end
section
set_option maxRecDepth 100000
set_option maxHeartbeats 1000000
/-! KiV: a law's end, its exceptions' wish by the world. -/
namespace L2
open PySem PySem.Spec PyProof.Rows
theorem walk_ofW {l : PySem.W.OpenLaw} {n k : Nat} {q : Program} {loose : List Str} {XP : (Str → Option Value) → Heap → Prop} {YP : World → Heap → Prop} {d : DefRec} {CXw : World → CXT} {x : Str}
    (hn : l.most = some n) (hn2 : n ≤ sizeLine) (hdf : d.params.defaults = []) (hr : Room k callerA)
    (F : ∀ (w : World) (mg : Str → Option Value) (fa : Addr) (h : Heap), YP w h → h.Ns mainGlobals mg → mg d.name = some (.ref fa) →
      ∃ (K : PySem.W.Frag) (fd : FuncData) (sp : Sp), K.In h ∧ (∀ (s : Shared) (u : Value), BindsTo s fd ⟨[u], []⟩ [(x, u)]) ∧
        (∀ (H : Hp) (a : Addr) (ns : List Int), ns.length ≤ n → Only H → SqL K H a (ns.map V.int) → sp [.ref a] H (fun v _ => v = .bl true) fun _ _ _ => False) ∧
        ∀ base : Heap, K.In base → base.Ns mainGlobals mg → FnOk l.prog w K mg base (CXw w) k fa fd [x] sp)
    (hCX : ∀ (w : World) (H : Hp) (s : Shared) (e : Value) (s' : Shared), CXw w [] H s (fun _ _ _ => False) e s' → False) :
    PySem.W.WalkO q loose XP YP l.row.toRowW d [] (fun f vs => PySem.call f vs) := by
  refine Att.attach_call hn hdf fun w s₀ s₁ mg mb fa o pm cd doc a vs ns G Y ho hd hcd hmg hobj hints hlen hg => ?_
  obtain ⟨K, fd, sp, KX, hb, hsp, hF⟩ := F w mg fa _ Y G.T.g hmg
  exact law_call KX G.T.g G.T.b G.T.builtins G.T.nolimit hg hobj hints (Nat.le_trans hlen hn2) hr hF hb (fun H hO hS => hsp H a ns hlen hO hS) fun H e s' => hCX w H s₁ e s'
end L2
namespace Kf
open PySem L2
theorem rp_ints {K : Fg} {S : Hp} : ∀ ns : List Int, RpL K S (ns.map V.int) (ns.map D.int)
  | [] => .nil
  | n :: r => .cons (.int n) (rp_ints r)
end Kf
end
section
set_option maxRecDepth 100000
set_option maxHeartbeats 1000000
namespace Kf
open PySem PySem.Spec PyProof.Rows L2
theorem sp_law {K : Fg} {H : Hp} {a : Addr} {ns : List Int} (hS : SqL K H a (ns.map V.int)) : spP K cLw72 [.ref a] H (fun v _ => v = .bl true) fun _ _ _ => False :=
  ⟨H, [.lstK (ns.map .int)], Same.refl _, .cons (.lstK hS (rp_ints ns)) .nil, ⟨ns, rfl⟩, fun S' H' v b hb n r => by
    have hb' : b = .st (.bl true) := hb
    subst hb'
    cases r
    rfl, fun _ _ _ _ _ _ z => z.elim⟩
theorem facts_end {w : World} {K : Fg} {h : Heap} {mg : Str → Option Value} {f : Addr} (X : K.In h) (G : h.Ns mainGlobals mg) (hfa : mg ("law" : Str) = some (.ref f)) (c : SaysZ chk fns K) :
    ∃ fd : FuncData, (∀ (s : Shared) (v : Value), BindsTo s fd ⟨[v], []⟩ [("script", v)]) ∧ ∀ base : Heap, K.In base → base.Ns mainGlobals mg → FnOk (PySem.Challenge.rw_kindsfill_k72_whole_narrowed).prog w K mg base (L2.CX (PySem.Challenge.rw_kindsfill_k72_whole_narrowed).prog w) 9 f fd ["script"] (spP K cLw72) := by
  obtain ⟨fd, F⟩ := c.fun_ 51
  have e := hfa.symm.trans (He.glo_ok X G (c.fact 98))
  cases e
  have b := FunD.bindsA (ps := ["script"]) F fun _ _ _ _ _ _ us hl => match us, hl with | [_], _ => rfl
  exact ⟨fd, fun s v => b s [v] rfl, fun base _ _ => ok_lw72 F (law_facts X G ⟨rfl, by decide +kernel⟩ c)⟩
end Kf
open PySem PySem.W PySem.Calls PyProof.Rows
set_option maxHeartbeats 0
theorem PySem.Challenge.cw_kindsfill_k72_whole_narrowed_holds : PySem.Challenge.rw_kindsfill_k72_whole_narrowed.Holds := by
  w_on; o_law
  refine HandSHeadRun.head_any (r := Kf.RW) (q := Kf.RQ) (H := Kf.hkL) (ob := Kf.obL) (M := 20000) (loose := Kf.loose) (d := HandSHeadRun.topDef Kf.RW.prog 67) (kwd := []) Kf.obL_eq
    (by kernel_rfl) (fun s => by kernel_rfl) Kf.runL (by kernel_rfl) (by kernel_rfl) (by kernel_rfl) (by rfl) (by first | assumption | decide +kernel) (by decide +kernel) ⟨rfl, rfl, rfl, rfl, rfl, by decide +kernel⟩ ?hw ?hc
  case hw => w_witness2
  case hc =>
    refine L2.walk_ofW (l := PySem.Challenge.rw_kindsfill_k72_whole_narrowed) (n := 63) (k := 9) (x := "script") (CXw := fun w => L2.CX (PySem.Challenge.rw_kindsfill_k72_whole_narrowed).prog w) rfl (by decide) (by kernel_rfl) ⟨rfl, by decide, by decide⟩ ?F ?X
    case X => exact fun w H s e s' ⟨_, _, _, _, _, _, _, _, _, _, _, _, z⟩ => z
    case F =>
      intro w mg fa h Y G hmg0
      obtain ⟨K, KX, c⟩ := Y
      have hmg : mg ("law" : PySem.Str) = some (.ref fa) := by
        have e : (HandSHeadRun.topDef Kf.RW.prog 67).name = ("law" : PySem.Str) := by kernel_rfl
        rw [← e]
        exact hmg0
      obtain ⟨fd, hb, hF⟩ := Kf.facts_end (w := w) KX G hmg c
      exact ⟨K, fd, Kf.spP K Kf.cLw72, KX, hb, fun H a ns hl _ hS => Kf.sp_law hS, hF⟩
end
