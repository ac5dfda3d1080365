import PyProof.Rows.All
import Wide.All
import OpenK.AllK
import Wide.FinOn
import HandS.ForMost
import HandS.Wide
import HandS.IsInst
import HandS.TupAny
import KE.DataEq
import HandS.TupMul
import HandS.Text
import HandS.Rev
import HandS.Zip
import HandS.Iter
import PyProof.EnumMake
import PyProof.Draws
import KE.GoesMore
import HandS.WideBits
import PySem.Challenge.RW_unswapped_k18_roots_and_cores_that_are_k
/-! ## DL1 -/
set_option Elab.async false
set_option linter.all false
set_option maxRecDepth 100000
set_option maxHeartbeats 4000000
/-! DL: a layer of pure data over HandS. A value stands for a datum (PyData); footprints tell which objects it may reach; owned lists may be changed. -/
namespace DL
open PySem L2

abbrev D := PyData
abbrev Fp := Addr → Prop
def kD : Key → D
  | .inl i => .int i
  | .inr x => .str x

mutual
/-- the value stands for the datum; all that it reaches lies in S -/
inductive Rep (S : Fp) (H : Hp) : V → D → Prop where
  | non : Rep S H .non .none
  | bl (b : Bool) : Rep S H (.bl b) (.bool b)
  | int (i : Int) : Rep S H (.int i) (.int i)
  | str (x : Str) : Rep S H (.str x) (.str x)
  | lst {a : Addr} {vs : List V} {ds : List D} : S a → H a = some (.lst vs) → Reps S H vs ds → Rep S H (.ref a) (.list ds)
  | tup {a : Addr} {vs : List V} {ds : List D} : S a → H a = some (.tup vs) → Reps S H vs ds → Rep S H (.ref a) (.tuple ds)
  | dk {a : Addr} {vs : List (Key × V)} {ds : List (D × D)} : S a → H a = some (.dK vs) → RepK S H vs ds → Rep S H (.ref a) (.dict ds)
  | dt {a : Addr} {vs : List (List Key × V)} {ds : List (D × D)} : S a → H a = some (.dT vs) → RepT S H vs ds → Rep S H (.ref a) (.dict ds)
inductive Reps (S : Fp) (H : Hp) : List V → List D → Prop where
  | nil : Reps S H [] []
  | cons {v : V} {d : D} {vs : List V} {ds : List D} : Rep S H v d → Reps S H vs ds → Reps S H (v :: vs) (d :: ds)
inductive RepK (S : Fp) (H : Hp) : List (Key × V) → List (D × D) → Prop where
  | nil : RepK S H [] []
  | cons {k : Key} {v : V} {d : D} {vs : List (Key × V)} {ds : List (D × D)} : Rep S H v d → RepK S H vs ds → RepK S H ((k, v) :: vs) ((kD k, d) :: ds)
inductive RepT (S : Fp) (H : Hp) : List (List Key × V) → List (D × D) → Prop where
  | nil : RepT S H [] []
  | cons {k : List Key} {v : V} {d : D} {vs : List (List Key × V)} {ds : List (D × D)} : Rep S H v d → RepT S H vs ds → RepT S H ((k, v) :: vs) ((.tuple (k.map kD), d) :: ds)
end

section
variable {S S' : Fp} {H H' : Hp}
mutual
theorem Rep.mono (hS : ∀ a, S a → S' a) (hH : ∀ a o, S a → H a = some o → H' a = some o) : ∀ {v : V} {d : D}, Rep S H v d → Rep S' H' v d
  | _, _, .non => .non
  | _, _, .bl b => .bl b
  | _, _, .int i => .int i
  | _, _, .str x => .str x
  | _, _, .lst s h r => .lst (hS _ s) (hH _ _ s h) (Reps.mono hS hH r)
  | _, _, .tup s h r => .tup (hS _ s) (hH _ _ s h) (Reps.mono hS hH r)
  | _, _, .dk s h r => .dk (hS _ s) (hH _ _ s h) (RepK.mono hS hH r)
  | _, _, .dt s h r => .dt (hS _ s) (hH _ _ s h) (RepT.mono hS hH r)
theorem Reps.mono (hS : ∀ a, S a → S' a) (hH : ∀ a o, S a → H a = some o → H' a = some o) : ∀ {vs : List V} {ds : List D}, Reps S H vs ds → Reps S' H' vs ds
  | _, _, .nil => .nil
  | _, _, .cons r t => .cons (Rep.mono hS hH r) (Reps.mono hS hH t)
theorem RepK.mono (hS : ∀ a, S a → S' a) (hH : ∀ a o, S a → H a = some o → H' a = some o) : ∀ {vs : List (Key × V)} {ds : List (D × D)}, RepK S H vs ds → RepK S' H' vs ds
  | _, _, .nil => .nil
  | _, _, .cons r t => .cons (Rep.mono hS hH r) (RepK.mono hS hH t)
theorem RepT.mono (hS : ∀ a, S a → S' a) (hH : ∀ a o, S a → H a = some o → H' a = some o) : ∀ {vs : List (List Key × V)} {ds : List (D × D)}, RepT S H vs ds → RepT S' H' vs ds
  | _, _, .nil => .nil
  | _, _, .cons r t => .cons (Rep.mono hS hH r) (RepT.mono hS hH t)
end
theorem Reps.length : ∀ {vs : List V} {ds : List D}, Reps S H vs ds → vs.length = ds.length
  | _, _, .nil => rfl
  | _, _, .cons _ t => congrArg (· + 1) (Reps.length t)
theorem Reps.get : ∀ {vs : List V} {ds : List D} {i : Nat} {d : D}, Reps S H vs ds → ds[i]? = some d → ∃ v, vs[i]? = some v ∧ Rep S H v d
  | _, _, i, d, .nil, e => by simp at e
  | _, _, 0, d, .cons r _, e => by simp at e; subst e; exact ⟨_, rfl, r⟩
  | _, _, i + 1, d, .cons _ t, e => by
    obtain ⟨v, h1, h2⟩ := Reps.get (i := i) (d := d) t (by simpa using e)
    exact ⟨v, by simpa using h1, h2⟩
theorem Reps.get' : ∀ {vs : List V} {ds : List D} {i : Nat} {v : V}, Reps S H vs ds → vs[i]? = some v → ∃ d, ds[i]? = some d ∧ Rep S H v d
  | _, _, i, d, .nil, e => by simp at e
  | _, _, 0, d, .cons r _, e => by simp at e; subst e; exact ⟨_, rfl, r⟩
  | _, _, i + 1, d, .cons _ t, e => by
    obtain ⟨v, h1, h2⟩ := Reps.get' (i := i) (v := d) t (by simpa using e)
    exact ⟨v, by simpa using h1, h2⟩
theorem Reps.append : ∀ {vs us : List V} {ds es : List D}, Reps S H vs ds → Reps S H us es → Reps S H (vs ++ us) (ds ++ es)
  | _, _, _, _, .nil, s => s
  | _, _, _, _, .cons r t, s => .cons r (Reps.append t s)
theorem Reps.set {v : V} {d : D} (r : Rep S H v d) : ∀ {vs : List V} {ds : List D} (i : Nat), Reps S H vs ds → Reps S H (vs.set i v) (ds.set i d)
  | _, _, _, .nil => .nil
  | _, _, 0, .cons _ t => .cons r t
  | _, _, i + 1, .cons q t => .cons q (Reps.set r i t)
theorem Reps.take : ∀ {vs : List V} {ds : List D} (n : Nat), Reps S H vs ds → Reps S H (vs.take n) (ds.take n)
  | _, _, 0, _ => by rw [List.take_zero, List.take_zero]; exact .nil
  | _, _, _ + 1, .nil => .nil
  | _, _, n + 1, .cons r t => .cons r (Reps.take n t)
theorem Reps.drop : ∀ {vs : List V} {ds : List D} (n : Nat), Reps S H vs ds → Reps S H (vs.drop n) (ds.drop n)
  | _, _, 0, r => r
  | _, _, _ + 1, .nil => .nil
  | _, _, n + 1, .cons _ t => Reps.drop n t
theorem Reps.dropLast : ∀ {vs : List V} {ds : List D}, Reps S H vs ds → Reps S H vs.dropLast ds.dropLast
  | _, _, .nil => .nil
  | _, _, .cons _ .nil => .nil
  | _, _, .cons r (.cons q t) => .cons r (Reps.dropLast (.cons q t))
theorem Reps.rep {vs : List V} {ds : List D} (h : Reps S H vs ds) : ∀ k : Nat, Reps S H (List.replicate k vs).flatten (List.replicate k ds).flatten
  | 0 => .nil
  | k + 1 => by
    rw [List.replicate_succ, List.replicate_succ, List.flatten_cons, List.flatten_cons]
    exact h.append (Reps.rep h k)
theorem Reps.reverse {vs : List V} {ds : List D} (h : Reps S H vs ds) : Reps S H vs.reverse ds.reverse := by
  induction vs generalizing ds with
  | nil => cases h; exact .nil
  | cons v vs ih =>
    cases h with
    | cons r t => rw [List.reverse_cons, List.reverse_cons]; exact (ih t).append (.cons r .nil)
theorem Reps.none {vs : List V} {ds : List D} {i : Nat} (h : Reps S H vs ds) (e : ds[i]? = Option.none) : vs[i]? = Option.none := by
  have := h.length
  rw [List.getElem?_eq_none_iff] at e ⊢
  omega
theorem Reps.atI {vs : List V} {ds : List D} {i : Int} {d : D} (h : Reps S H vs ds) (e : atI ds i = some d) : ∃ v, L2.atI vs i = some v ∧ Rep S H v d := by
  have hl := h.length
  unfold L2.atI at e ⊢
  rw [hl]
  cases q : ixN ds.length i with
  | none => rw [q] at e; cases e
  | some j =>
    rw [q] at e
    exact h.get e
end

/-! ### the world -/
structure Wd (Z S : Fp) (H : Hp) : Prop where
  sd : ∀ a, S a → H a ≠ none
  zs : ∀ a, Z a → ¬ S a
  zd : ∀ a, Z a → ∃ s : Int, 0 ≤ s ∧ H a = some (.lst [.int s])
/-- the world grows: all but the states stands, S grows by new objects -/
structure Wx (Z S : Fp) (H : Hp) (S' : Fp) (H' : Hp) : Prop where
  keep : ∀ a o, ¬ Z a → H a = some o → H' a = some o
  sub : ∀ a, S a → S' a
  new : ∀ a, S' a → S a ∨ H a = none
  wd : Wd Z S' H'
/-- the same, where owned objects may have been changed -/
structure Ws (S : Fp) (H : Hp) (S' : Fp) (H' : Hp) : Prop where
  keep : ∀ a o, S a → H a = some o → H' a = some o
  sub : ∀ a, S a → S' a
section
variable {Z S S1 S2 S' : Fp} {H H1 H2 H' : Hp}
theorem Wx.refl (w : Wd Z S H) : Wx Z S H S H := ⟨fun _ _ _ h => h, fun _ h => h, fun _ h => .inl h, w⟩
theorem Wx.notZ (x : Wx Z S H S' H') {a : Addr} (h : S a) : ¬ Z a := fun z => x.wd.zs a z (x.sub a h)
theorem Wx.trans (x : Wx Z S H S1 H1) (y : Wx Z S1 H1 S2 H2) : Wx Z S H S2 H2 := by
  refine ⟨fun a o z h => y.keep a o z (x.keep a o z h), fun a h => y.sub a (x.sub a h), fun a h => ?_, y.wd⟩
  have nz : ¬ Z a := fun z => y.wd.zs a z h
  rcases y.new a h with h1 | h1
  · exact x.new a h1
  · cases q : H a with
    | none => exact .inr rfl
    | some o => rw [x.keep a o nz q] at h1; cases h1
theorem Wx.fresh (x : Wx Z S H S' H') {a : Addr} (nz : ¬ Z a) (h : H' a = none) : H a = none := by
  cases q : H a with
  | none => rfl
  | some o => rw [x.keep a o nz q] at h; cases h
theorem Wx.ws (x : Wx Z S H S' H') : Ws S H S' H' := ⟨fun a o s h => x.keep a o (x.notZ s) h, x.sub⟩
theorem Ws.refl : Ws S H S H := ⟨fun _ _ _ h => h, fun _ h => h⟩
theorem Ws.trans (x : Ws S H S1 H1) (y : Ws S1 H1 S2 H2) : Ws S H S2 H2 := ⟨fun a o s h => y.keep a o (x.sub a s) (x.keep a o s h), fun a h => y.sub a (x.sub a h)⟩
theorem Rep.wx {v : V} {d : D} (r : Rep S H v d) (x : Wx Z S H S' H') : Rep S' H' v d := r.mono x.sub fun a o s h => x.keep a o (x.notZ s) h
theorem Reps.wx {v : List V} {d : List D} (r : Reps S H v d) (x : Wx Z S H S' H') : Reps S' H' v d := r.mono x.sub fun a o s h => x.keep a o (x.notZ s) h
theorem Rep.ws {v : V} {d : D} (r : Rep S H v d) (x : Ws S H S' H') : Rep S' H' v d := r.mono x.sub x.keep
theorem Reps.ws {v : List V} {d : List D} (r : Reps S H v d) (x : Ws S H S' H') : Reps S' H' v d := r.mono x.sub x.keep
/-- a new object, in S or owned -/
theorem Wd.nz (w : Wd Z S H) {p : Addr} (h : H p = none) : ¬ Z p := fun z => by
  obtain ⟨s, _, e⟩ := w.zd p z
  rw [h] at e; cases e
theorem Wd.ns (w : Wd Z S H) {p : Addr} (h : H p = none) : ¬ S p := fun z => w.sd p z h
theorem Wx.lay (w : Wd Z S H) {p : Addr} {o : HO} (h : H p = none) : Wx Z S H S (upd H p o) := by
  refine ⟨fun a u _ q => by rw [upd_ne (ne_of_none q h)]; exact q, fun _ h => h, fun _ h => .inl h, ⟨fun a s => ?_, w.zs, fun a z => ?_⟩⟩
  · rw [upd_ne (show a ≠ p by rintro rfl; exact w.ns h s)]
    exact w.sd a s
  · rw [upd_ne (show a ≠ p by rintro rfl; exact w.nz h z)]
    exact w.zd a z
theorem Wx.layS (w : Wd Z S H) {p : Addr} {o : HO} (h : H p = none) : Wx Z S H (fun a => S a ∨ a = p) (upd H p o) := by
  refine ⟨fun a u _ q => by rw [upd_ne (ne_of_none q h)]; exact q, fun _ h => .inl h, fun a hs => ?_, ⟨fun a s => ?_, fun a z s => ?_, fun a z => ?_⟩⟩
  · rcases hs with s | rfl
    · exact .inl s
    · exact .inr h
  · rcases s with s | rfl
    · rw [upd_ne (show a ≠ p by rintro rfl; exact w.ns h s)]
      exact w.sd a s
    · rw [upd_same]; simp
  · rcases s with s | rfl
    · exact w.zs a z s
    · exact w.nz h z
  · rw [upd_ne (show a ≠ p by rintro rfl; exact w.nz h z)]
    exact w.zd a z
end

/-! ### slots -/
inductive SV where
  | v (d : D) | own (xs : List D) | ownD (ks : List (D × D)) | st | scr (ns : List Int) | any
def SV.isOwn : SV → Prop
  | .own _ => True
  | .ownD _ => True
  | _ => False
/-- a list that is read, known to the object -/
def SqF (K : PySem.W.Frag) (H : Hp) (p : Addr) (xs : List V) : Prop := ∀ H2 : Hp, (∀ o u, H p = some (.frz o u) → H2 p = some (.frz o u)) → SqL K H2 p xs
def RepSV (K : PySem.W.Frag) (Z O S : Fp) (H : Hp) (v : V) : SV → Prop
  | .v d => Rep S H v d
  | .own ds => ∃ p vs, v = .ref p ∧ O p ∧ H p = some (.lst vs) ∧ Reps S H vs ds ∧ ¬ S p ∧ ¬ Z p
  | .ownD ds => ∃ p, v = .ref p ∧ O p ∧ ((∃ vs, H p = some (.dK vs) ∧ RepK S H vs ds) ∨ (∃ vs, H p = some (.dT vs) ∧ RepT S H vs ds)) ∧ ¬ S p ∧ ¬ Z p
  | .st => ∃ p, v = .ref p ∧ Z p
  | .scr ns => ∃ p, v = .ref p ∧ SqF K H p (ns.map V.int)
  | .any => True
abbrev Env := List (Option SV)
structure RepEnv (K : PySem.W.Frag) (Z O S : Fp) (H : Hp) (σ : St) (env : Env) : Prop where
  len : σ.length = env.length
  get : ∀ (i : Nat) (sv : SV), env[i]? = some (some sv) → ∃ v, σ[i]? = some (some v) ∧ RepSV K Z O S H v sv
  dis : ∀ (i j : Nat) (a : Addr) (x y : SV), i ≠ j → env[i]? = some (some x) → env[j]? = some (some y) → x.isOwn → y.isOwn → σ[i]? = some (some (.ref a)) → σ[j]? = some (some (.ref a)) → False

section
variable {K : PySem.W.Frag} {Z O O' S S' : Fp} {H H' : Hp} {σ : St} {env : Env} {v : V} {sv : SV}
theorem RepSV.wx (r : RepSV K Z O S H v sv) (w : Wd Z S H) (x : Wx Z S H S' H') : RepSV K Z O S' H' v sv := by
  have ns : ∀ p o, H p = some o → ¬ S p → ¬ Z p → ¬ S' p := fun p o h s z h' => by
    rcases x.new p h' with q | q
    · exact s q
    · rw [h] at q; cases q
  cases sv with
  | v d => exact Rep.wx r x
  | own ds =>
    obtain ⟨p, vs, rfl, o, h, rr, s, z⟩ := r
    exact ⟨p, vs, rfl, o, x.keep _ _ z h, rr.wx x, ns p _ h s z, z⟩
  | ownD ds =>
    obtain ⟨p, rfl, o, h, s, z⟩ := r
    rcases h with ⟨vs, h, rr⟩ | ⟨vs, h, rr⟩
    · exact ⟨p, rfl, o, .inl ⟨vs, x.keep _ _ z h, rr.mono x.sub fun a o s h => x.keep a o (x.notZ s) h⟩, ns p _ h s z, z⟩
    · exact ⟨p, rfl, o, .inr ⟨vs, x.keep _ _ z h, rr.mono x.sub fun a o s h => x.keep a o (x.notZ s) h⟩, ns p _ h s z, z⟩
  | st => exact r
  | scr ns =>
    obtain ⟨p, rfl, q⟩ := r
    refine ⟨p, rfl, fun H2 h2 => q H2 fun o u e => h2 o u (x.keep p _ (fun z => ?_) e)⟩
    obtain ⟨s, _, e'⟩ := w.zd p z
    rw [e] at e'; cases e'
  | any => trivial
theorem RepSV.mono (r : RepSV K Z O S H v sv) (h : ∀ a, ¬ Z a → O a → O' a) : RepSV K Z O' S H v sv := by
  cases sv with
  | own ds => obtain ⟨p, vs, e, o, q, rr, s, z⟩ := r; exact ⟨p, vs, e, h p z o, q, rr, s, z⟩
  | ownD ds => obtain ⟨p, e, o, q, s, z⟩ := r; exact ⟨p, e, h p z o, q, s, z⟩
  | v d => exact r
  | st => exact r
  | scr ns => exact r
  | any => trivial
theorem RepEnv.wx (r : RepEnv K Z O S H σ env) (w : Wd Z S H) (x : Wx Z S H S' H') : RepEnv K Z O S' H' σ env :=
  ⟨r.len, fun i sv e => let ⟨v, h1, h2⟩ := r.get i sv e; ⟨v, h1, h2.wx w x⟩, r.dis⟩
theorem RepEnv.mono (r : RepEnv K Z O S H σ env) (h : ∀ a, ¬ Z a → O a → O' a) : RepEnv K Z O' S H σ env :=
  ⟨r.len, fun i sv e => let ⟨v, h1, h2⟩ := r.get i sv e; ⟨v, h1, h2.mono h⟩, r.dis⟩
/-- an owned value stands for its datum, in a greater S -/
theorem RepSV.owns (r : RepSV K Z O S H v sv) (h : sv.isOwn) : ∃ p o, v = .ref p ∧ O p ∧ H p = some o ∧ ¬ S p ∧ ¬ Z p := by
  cases sv with
  | own ds => obtain ⟨p, vs, e, o, q, rr, s, z⟩ := r; exact ⟨p, _, e, o, q, s, z⟩
  | ownD ds =>
    obtain ⟨p, e, o, q, s, z⟩ := r
    rcases q with ⟨vs, q, _⟩ | ⟨vs, q, _⟩
    · exact ⟨p, _, e, o, q, s, z⟩
    · exact ⟨p, _, e, o, q, s, z⟩
  | v d => exact h.elim
  | st => exact h.elim
  | scr ns => exact h.elim
  | any => exact h.elim
/-- a slot is set -/
theorem RepEnv.set (r : RepEnv K Z O S H σ env) (i : Nat) (h : RepSV K Z O S H v sv)
    (hd : sv.isOwn → ∀ (j : Nat) (y : SV) (a : Addr), i ≠ j → env[j]? = some (some y) → y.isOwn → σ[j]? = some (some (.ref a)) → v = .ref a → False) : RepEnv K Z O S H (σ.set i (some v)) (env.set i (some sv)) := by
  have hl := r.len
  refine ⟨by simp [hl], fun j y e => ?_, fun j k a x y hjk e1 e2 o1 o2 s1 s2 => ?_⟩
  · by_cases hij : i = j
    · subst hij
      by_cases hi : i < env.length
      · rw [List.getElem?_set_self hi] at e
        cases e
        exact ⟨v, by rw [List.getElem?_set_self (by omega)], h⟩
      · rw [List.getElem?_eq_none_iff.mpr (by simpa using Nat.le_of_not_lt hi)] at e; cases e
    · rw [List.getElem?_set_ne hij] at e ⊢
      exact r.get j y e
  · by_cases h1 : i = j
    · subst h1
      by_cases hi : i < env.length
      · rw [List.getElem?_set_self hi] at e1
        rw [List.getElem?_set_self (by omega)] at s1
        rw [List.getElem?_set_ne hjk] at e2 s2
        cases e1
        injection s1 with s1; injection s1 with s1
        exact hd o1 k y a hjk e2 o2 s2 s1
      · rw [List.getElem?_eq_none_iff.mpr (by simpa using Nat.le_of_not_lt hi)] at e1; cases e1
    · by_cases h2 : i = k
      · subst h2
        by_cases hi : i < env.length
        · rw [List.getElem?_set_self hi] at e2
          rw [List.getElem?_set_self (by omega)] at s2
          rw [List.getElem?_set_ne h1] at e1 s1
          cases e2
          injection s2 with s2; injection s2 with s2
          exact hd o2 j x a (Ne.symm hjk) e1 o1 s1 s2
        · rw [List.getElem?_eq_none_iff.mpr (by simpa using Nat.le_of_not_lt hi)] at e2; cases e2
      · rw [List.getElem?_set_ne h1] at e1 s1
        rw [List.getElem?_set_ne h2] at e2 s2
        exact r.dis j k a x y hjk e1 e2 o1 o2 s1 s2
/-- what is new is no other's own -/
theorem RepEnv.apart (r : RepEnv K Z O S H σ env) {a : Addr} (hn : H a = none) (j : Nat) (y : SV) (e : env[j]? = some (some y)) (o : y.isOwn) (s : σ[j]? = some (some (.ref a))) : False := by
  obtain ⟨v, h1, h2⟩ := r.get j y e
  obtain ⟨p, ob, rfl, _, hp, _⟩ := h2.owns o
  rw [s] at h1
  injection h1 with h1; injection h1 with h1; injection h1 with h1
  subst h1
  rw [hn] at hp; cases hp
/-- a slot is forgotten -/
theorem RepEnv.drop (r : RepEnv K Z O S H σ env) (i : Nat) (x : Option V) : RepEnv K Z O S H (σ.set i x) (env.set i none) := by
  have hl := r.len
  have out : ∀ j (y : SV), (env.set i none)[j]? = some (some y) → i ≠ j ∧ env[j]? = some (some y) := fun j y e => by
    by_cases hij : i = j
    · subst hij
      by_cases hi : i < env.length
      · rw [List.getElem?_set_self hi] at e; cases e
      · rw [List.getElem?_eq_none_iff.mpr (by simpa using Nat.le_of_not_lt hi)] at e; cases e
    · rw [List.getElem?_set_ne hij] at e
      exact ⟨hij, e⟩
  refine ⟨by simp [hl], fun j y e => ?_, fun j k a x y hjk e1 e2 o1 o2 s1 s2 => ?_⟩
  · obtain ⟨hij, e⟩ := out j y e
    rw [List.getElem?_set_ne hij]
    exact r.get j y e
  · obtain ⟨h1, e1⟩ := out j x e1
    obtain ⟨h2, e2⟩ := out k y e2
    rw [List.getElem?_set_ne h1] at s1
    rw [List.getElem?_set_ne h2] at s2
    exact r.dis j k a x y hjk e1 e2 o1 o2 s1 s2
end
end DL
/-! ## DL2 -/
set_option Elab.async false
set_option linter.all false
set_option maxRecDepth 100000
set_option maxHeartbeats 4000000
/-! DL2: judgements of pure expressions. -/
namespace DL
open PySem L2

abbrev PTE := Env → (D → Prop) → Prop
abbrev PTF := Env → (SV → Prop) → Prop
abbrev PTT := Env → (Bool → Prop) → Prop
abbrev PTL := Env → (List D → Prop) → Prop
abbrev PTA := Env → (List SV → Prop) → Prop

/-- a value that is read: it stands for a datum, or is an owned list or dict itself -/
def RepB (Z S : Fp) (H : Hp) (v : V) (d : D) : Prop := Rep S H v d ∨
  (∃ p vs ds, v = .ref p ∧ d = .list ds ∧ H p = some (.lst vs) ∧ Reps S H vs ds ∧ ¬ Z p) ∨
  (∃ p ds, v = .ref p ∧ d = .dict ds ∧ ((∃ vs, H p = some (.dK vs) ∧ RepK S H vs ds) ∨ (∃ vs, H p = some (.dT vs) ∧ RepT S H vs ds)) ∧ ¬ Z p)
inductive RepBs (Z S : Fp) (H : Hp) : List V → List D → Prop where
  | nil : RepBs Z S H [] []
  | cons {v : V} {d : D} {vs : List V} {ds : List D} : RepB Z S H v d → RepBs Z S H vs ds → RepBs Z S H (v :: vs) (d :: ds)
inductive RepSVs (K : PySem.W.Frag) (Z S : Fp) (H : Hp) : List V → List SV → Prop where
  | nil : RepSVs K Z S H [] []
  | cons {v : V} {d : SV} {vs : List V} {ds : List SV} : RepSV K Z (fun _ => False) S H v d → RepSVs K Z S H vs ds → RepSVs K Z S H (v :: vs) (d :: ds)
section
variable {K : PySem.W.Frag} {Z S S' : Fp} {H H' : Hp} {v : V} {d : D}
theorem RepB.wx (r : RepB Z S H v d) (x : Wx Z S H S' H') : RepB Z S' H' v d := by
  rcases r with r | ⟨p, vs, ds, e1, e2, h, r, z⟩ | ⟨p, ds, e1, e2, h, z⟩
  · exact .inl (r.wx x)
  · exact .inr (.inl ⟨p, vs, ds, e1, e2, x.keep _ _ z h, r.wx x, z⟩)
  · rcases h with ⟨vs, h, rr⟩ | ⟨vs, h, rr⟩
    · exact .inr (.inr ⟨p, ds, e1, e2, .inl ⟨vs, x.keep _ _ z h, rr.mono x.sub fun a o s h => x.keep a o (x.notZ s) h⟩, z⟩)
    · exact .inr (.inr ⟨p, ds, e1, e2, .inr ⟨vs, x.keep _ _ z h, rr.mono x.sub fun a o s h => x.keep a o (x.notZ s) h⟩, z⟩)
theorem RepBs.wx (x : Wx Z S H S' H') : ∀ {vs : List V} {ds : List D}, RepBs Z S H vs ds → RepBs Z S' H' vs ds
  | _, _, .nil => .nil
  | _, _, .cons r t => .cons (r.wx x) (RepBs.wx x t)
theorem RepSVs.wx (w : Wd Z S H) (x : Wx Z S H S' H') : ∀ {vs : List V} {ds : List SV}, RepSVs K Z S H vs ds → RepSVs K Z S' H' vs ds
  | _, _, .nil => .nil
  | _, _, .cons r t => .cons (r.wx w x) (RepSVs.wx w x t)
theorem RepSVs.length : ∀ {vs : List V} {ds : List SV}, RepSVs K Z S H vs ds → vs.length = ds.length
  | _, _, .nil => rfl
  | _, _, .cons _ t => congrArg (· + 1) (RepSVs.length t)
theorem RepSVs.get : ∀ {vs : List V} {ds : List SV} {i : Nat} {d : SV}, RepSVs K Z S H vs ds → ds[i]? = some d → ∃ v, vs[i]? = some v ∧ RepSV K Z (fun _ => False) S H v d
  | _, _, i, d, .nil, e => by simp at e
  | _, _, 0, d, .cons r _, e => by simp at e; subst e; exact ⟨_, rfl, r⟩
  | _, _, i + 1, d, .cons _ t, e => by
    obtain ⟨v, h1, h2⟩ := RepSVs.get (i := i) (d := d) t (by simpa using e)
    exact ⟨v, by simpa using h1, h2⟩
theorem RepB.int {i : Int} (r : RepB Z S H v (.int i)) : v = .int i := by
  rcases r with r | ⟨_, _, _, _, e, _⟩ | ⟨_, _, _, e, _⟩
  · cases r; rfl
  · cases e
  · cases e
theorem RepB.bool {i : Bool} (r : RepB Z S H v (.bool i)) : v = .bl i := by
  rcases r with r | ⟨_, _, _, _, e, _⟩ | ⟨_, _, _, e, _⟩
  · cases r; rfl
  · cases e
  · cases e
theorem RepB.str {i : Str} (r : RepB Z S H v (.str i)) : v = .str i := by
  rcases r with r | ⟨_, _, _, _, e, _⟩ | ⟨_, _, _, e, _⟩
  · cases r; rfl
  · cases e
  · cases e
theorem RepB.none (r : RepB Z S H v .none) : v = .non := by
  rcases r with r | ⟨_, _, _, _, e, _⟩ | ⟨_, _, _, e, _⟩
  · cases r; rfl
  · cases e
  · cases e
theorem RepB.list {ds : List D} (r : RepB Z S H v (.list ds)) : ∃ p vs, v = .ref p ∧ H p = some (.lst vs) ∧ Reps S H vs ds := by
  rcases r with r | ⟨p, vs, ds', e1, e, h, r, _⟩ | ⟨_, _, _, e, _⟩
  · cases r with
    | lst s h r => exact ⟨_, _, rfl, h, r⟩
  · cases e; exact ⟨p, vs, e1, h, r⟩
  · cases e
theorem RepB.tuple {ds : List D} (r : RepB Z S H v (.tuple ds)) : ∃ p vs, v = .ref p ∧ S p ∧ H p = some (.tup vs) ∧ Reps S H vs ds := by
  rcases r with r | ⟨p, vs, ds', e1, e, h, r, _⟩ | ⟨_, _, _, e, _⟩
  · cases r with
    | tup s h r => exact ⟨_, _, rfl, s, h, r⟩
  · cases e
  · cases e
theorem RepB.dict {ds : List (D × D)} (r : RepB Z S H v (.dict ds)) : ∃ p, v = .ref p ∧ ((∃ vs, H p = some (.dK vs) ∧ RepK S H vs ds) ∨ (∃ vs, H p = some (.dT vs) ∧ RepT S H vs ds)) := by
  rcases r with r | ⟨p, vs, ds', e1, e, h, r, _⟩ | ⟨p, ds', e1, e, h, _⟩
  · cases r with
    | dk s h r => exact ⟨_, rfl, .inl ⟨_, h, r⟩⟩
    | dt s h r => exact ⟨_, rfl, .inr ⟨_, h, r⟩⟩
  · cases e
  · cases e; exact ⟨p, e1, h⟩
/-! to the kit's own data -/
mutual
theorem Rep.dp : ∀ {v : V} {d : D}, Rep S H v d → d.plain = true → Dp K H v d
  | _, _, .non, _ => .non
  | _, _, .bl b, _ => .bl b
  | _, _, .int i, _ => .int i
  | _, _, .str x, _ => .str x
  | _, _, .lst s h r, p => .lst (SqL.of h) (Reps.dp r (by simpa only [PyData.plain] using p))
  | _, _, .tup s h r, p => .tup (SqT.of h) (Reps.dp r (by simpa only [PyData.plain] using p))
  | _, _, .dk s h r, p => by simp [PyData.plain] at p
  | _, _, .dt s h r, p => by simp [PyData.plain] at p
theorem Reps.dp : ∀ {vs : List V} {ds : List D}, Reps S H vs ds → PyData.plainAll ds = true → DpAll K H vs ds
  | _, _, .nil, _ => .nil
  | _, _, .cons (d := d) (ds := ds) r t, p => by
    have p' : d.plain = true ∧ PyData.plainAll ds = true := by simpa [PyData.plainAll] using p
    exact .cons (Rep.dp r p'.1) (Reps.dp t p'.2)
end
theorem RepB.dp (r : RepB Z S H v d) (p : d.plain = true) : Dp K H v d := by
  rcases r with r | ⟨q, vs, ds, rfl, rfl, h, r, _⟩ | ⟨_, _, _, rfl, _⟩
  · exact r.dp p
  · exact .lst (SqL.of h) (r.dp (by simpa only [PyData.plain] using p))
  · simp [PyData.plain] at p
end

/-! ### readings of pure terms -/
section
variable (K : PySem.W.Frag)
def PureE (t : TE) (f : PTE) : Prop := ∀ (Z O S : Fp) (σ : St) (H : Hp) (env : Env) (Qd : D → Prop) (Q : VK), Wd Z S H → RepEnv K Z O S H σ env → f env Qd →
  (∀ v d S' H', Wx Z S H S' H' → Rep S' H' v d → Qd d → Q v H') → t σ H Q
def PureB (t : TE) (f : PTE) : Prop := ∀ (Z O S : Fp) (σ : St) (H : Hp) (env : Env) (Qd : D → Prop) (Q : VK), Wd Z S H → RepEnv K Z O S H σ env → f env Qd →
  (∀ v d S' H', Wx Z S H S' H' → RepB Z S' H' v d → Qd d → Q v H') → t σ H Q
def PureF (t : TE) (f : PTF) : Prop := ∀ (Z O S : Fp) (σ : St) (H : Hp) (env : Env) (Qd : SV → Prop) (Q : VK), Wd Z S H → RepEnv K Z O S H σ env → f env Qd →
  (∀ v sv S' H', Wx Z S H S' H' → RepSV K Z (fun a => H a = none) S' H' v sv → Qd sv → Q v H') → t σ H Q
def PureT (t : TT) (f : PTT) : Prop := ∀ (Z O S : Fp) (σ : St) (H : Hp) (env : Env) (Qd : Bool → Prop) (Q : Bool → Hp → Prop), Wd Z S H → RepEnv K Z O S H σ env → f env Qd →
  (∀ b S' H', Wx Z S H S' H' → Qd b → Q b H') → t σ H Q
def PureEs (t : TA) (f : PTL) : Prop := ∀ (Z O S : Fp) (σ : St) (H : Hp) (env : Env) (Qd : List D → Prop) (Q : List V → Hp → Prop), Wd Z S H → RepEnv K Z O S H σ env → f env Qd →
  (∀ v d S' H', Wx Z S H S' H' → Reps S' H' v d → Qd d → Q v H') → t σ H Q
def PureBs (t : TA) (f : PTL) : Prop := ∀ (Z O S : Fp) (σ : St) (H : Hp) (env : Env) (Qd : List D → Prop) (Q : List V → Hp → Prop), Wd Z S H → RepEnv K Z O S H σ env → f env Qd →
  (∀ v d S' H', Wx Z S H S' H' → RepBs Z S' H' v d → Qd d → Q v H') → t σ H Q
def PureA (t : TA) (f : PTA) : Prop := ∀ (Z O S : Fp) (σ : St) (H : Hp) (env : Env) (Qd : List SV → Prop) (Q : List V → Hp → Prop), Wd Z S H → RepEnv K Z O S H σ env → f env Qd →
  (∀ v d S' H', Wx Z S H S' H' → RepSVs K Z S' H' v d → Qd d → Q v H') → t σ H Q
end
structure DE (X : Cx) (e : Expr) (t : TE) (f : PTE) : Prop where
  pe : PE X e t
  pu : PureE X.K t f
structure DB (X : Cx) (e : Expr) (t : TE) (f : PTE) : Prop where
  pe : PE X e t
  pu : PureB X.K t f
structure DF (X : Cx) (e : Expr) (t : TE) (f : PTF) : Prop where
  pe : PE X e t
  pu : PureF X.K t f
structure DT (X : Cx) (e : Expr) (t : TT) (f : PTT) : Prop where
  pe : PT X e t
  pu : PureT X.K t f
structure DW (X : Cx) (e : Expr) (t : TT) (f : PTT) : Prop where
  pe : PW X e t
  pu : PureT X.K t f
structure DEs (X : Cx) (es : List Expr) (t : TA) (f : PTL) : Prop where
  pe : PA X es t
  pu : PureEs X.K t f
structure DBs (X : Cx) (es : List Expr) (t : TA) (f : PTL) : Prop where
  pe : PA X es t
  pu : PureBs X.K t f
structure DA (X : Cx) (es : List Expr) (t : TA) (f : PTA) : Prop where
  pe : PA X es t
  pu : PureA X.K t f

/-! ### from one judgement to another -/
/-- an owned value is handed on as a datum -/
def pFz (f : PTF) : PTE := fun env Q => f env fun sv => match sv with
  | .v d => Q d
  | .own ds => Q (.list ds)
  | .ownD ks => Q (.dict ks)
  | _ => False
def pV (f : PTE) : PTF := fun env Q => f env fun d => Q (.v d)
section
variable {X : Cx} {e : Expr} {es : List Expr} {f : PTE} {g : PTF}
theorem DE.db {t : TE} (h : DE X e t f) : DB X e t f := by
  have h1 := h.pe
  have h2 := h.pu
  exact ⟨h1, fun Z O S σ H env Qd Q w r hf k => h2 Z O S σ H env Qd Q w r hf fun v d S' H' x rr q => k v d S' H' x (.inl rr) q⟩
theorem DE.df {t : TE} (h : DE X e t f) : DF X e t (pV f) := by
  have h1 := h.pe
  have h2 := h.pu
  exact ⟨h1, fun Z O S σ H env Qd Q w r hf k => h2 Z O S σ H env _ Q w r hf fun v d S' H' x rr q => k v (.v d) S' H' x rr q⟩
/-- a new object is let into S -/
theorem Wx.letIn {Z S S' : Fp} {H H' : Hp} (x : Wx Z S H S' H') {p : Addr} {o : HO} (h : H p = none) (nz : ¬ Z p) (h' : H' p = some o) : Wx Z S H (fun a => S' a ∨ a = p) H' := by
  refine ⟨x.keep, fun a s => .inl (x.sub a s), fun a s => ?_, fun a s => ?_, fun a z s => ?_, x.wd.zd⟩
  · rcases s with s | rfl
    · exact x.new a s
    · exact .inr h
  · rcases s with s | rfl
    · exact x.wd.sd a s
    · rw [h']; simp
  · rcases s with s | rfl
    · exact x.wd.zs a z s
    · exact nz z
theorem DF.de {t : TE} (h : DF X e t g) : DE X e t (pFz g) := by
  have h1 := h.pe
  have h2 := h.pu
  refine ⟨h1, fun Z O S σ H env Qd Q w r hf k => h2 Z O S σ H env _ Q w r hf fun v sv S' H' x rr q => ?_⟩
  cases sv with
  | v d => exact k v d S' H' x rr q
  | own ds =>
    obtain ⟨p, vs, rfl, hn, hp, rs, ns, nz⟩ := rr
    refine k _ _ _ H' (x.letIn hn nz hp) (.lst (.inr rfl) hp (rs.mono (fun a s => .inl s) fun _ _ _ h => h)) q
  | ownD ds =>
    obtain ⟨p, rfl, hn, hp, ns, nz⟩ := rr
    rcases hp with ⟨vs, hp, rs⟩ | ⟨vs, hp, rs⟩
    · exact k _ _ _ H' (x.letIn hn nz hp) (.dk (.inr rfl) hp (rs.mono (fun a s => .inl s) fun _ _ _ h => h)) q
    · exact k _ _ _ H' (x.letIn hn nz hp) (.dt (.inr rfl) hp (rs.mono (fun a s => .inl s) fun _ _ _ h => h)) q
  | st => exact q.elim
  | scr ns => exact q.elim
  | any => exact q.elim
theorem DF.db {t : TE} (h : DF X e t g) : DB X e t (pFz g) := h.de.db
end

/-! ### slots -/
def slot : Env → Nat → Option SV
  | [], _ => none
  | x :: _, 0 => x
  | _ :: r, n + 1 => slot r n
theorem slot_get : ∀ (env : Env) (i : Nat) (sv : SV), slot env i = some sv → env[i]? = some (some sv)
  | [], _, _, h => by cases h
  | x :: _, 0, _, h => by
    have h' : x = some _ := h
    subst h'; rfl
  | _ :: r, n + 1, sv, h => by
    rw [List.getElem?_cons_succ]
    exact slot_get r n sv h
def pVar (i : Nat) : PTE := fun env Q => match slot env i with
  | some (.v d) => Q d
  | _ => False
def pVarB (i : Nat) : PTE := fun env Q => match slot env i with
  | some (.v d) => Q d
  | some (.own ds) => Q (.list ds)
  | some (.ownD ds) => Q (.dict ds)
  | _ => False
def pC (d : D) : PTE := fun _ Q => Q d
section
variable {X : Cx}
theorem PureE.var {K : PySem.W.Frag} (i : Nat) : PureE K (tVar i) (pVar i) := by
  intro Z O S σ H env Qd Q w r hf k
  unfold pVar at hf
  cases q : slot env i with
  | none => rw [q] at hf; exact hf.elim
  | some sv =>
    rw [q] at hf
    obtain ⟨v, h1, h2⟩ := r.get i sv (slot_get env i sv q)
    cases sv with
    | v d => exact ⟨v, h1, k v d S H (.refl w) h2 hf⟩
    | _ => exact hf.elim
theorem PureB.var {K : PySem.W.Frag} (i : Nat) : PureB K (tVar i) (pVarB i) := by
  intro Z O S σ H env Qd Q w r hf k
  unfold pVarB at hf
  cases q : slot env i with
  | none => rw [q] at hf; exact hf.elim
  | some sv =>
    rw [q] at hf
    obtain ⟨v, h1, h2⟩ := r.get i sv (slot_get env i sv q)
    cases sv with
    | v d => exact ⟨v, h1, k v d S H (.refl w) (.inl h2) hf⟩
    | own ds =>
      obtain ⟨p, vs, rfl, _, hp, rs, ns, nz⟩ := h2
      exact ⟨_, h1, k _ _ S H (.refl w) (.inr (.inl ⟨p, vs, ds, rfl, rfl, hp, rs, nz⟩)) hf⟩
    | ownD ds =>
      obtain ⟨p, rfl, _, hp, ns, nz⟩ := h2
      exact ⟨_, h1, k _ _ S H (.refl w) (.inr (.inr ⟨p, ds, rfl, rfl, hp, nz⟩)) hf⟩
    | _ => exact hf.elim
/-- a name -/
theorem de_var (i : Nat) {x : Str} {pos : Pos} (hN : X.N[i]? = some x := by rfl) (hv : Vis X.env.scope x := by first | exact Or.inl rfl | exact Or.inr (Or.inl rfl) | exact Or.inr (Or.inr rfl)) (hd : (x == ("__debug__" : Str)) = false := by decide)
    (hcd : (x == ("__classdict__" : Str)) = false := by decide) : DE X (.Name x pos) (tVar i) (pVar i) := ⟨pe_var hN hv hd hcd, PureE.var i⟩
theorem db_var (i : Nat) {x : Str} {pos : Pos} (hN : X.N[i]? = some x := by rfl) (hv : Vis X.env.scope x := by first | exact Or.inl rfl | exact Or.inr (Or.inl rfl) | exact Or.inr (Or.inr rfl)) (hd : (x == ("__debug__" : Str)) = false := by decide)
    (hcd : (x == ("__classdict__" : Str)) = false := by decide) : DB X (.Name x pos) (tVar i) (pVarB i) := ⟨pe_var hN hv hd hcd, PureB.var i⟩
theorem PureE.con {K : PySem.W.Frag} {v : V} {d : D} (h : ∀ S H, Rep S H v d) : PureE K (tC v) (pC d) := fun Z O S σ H env Qd Q w r hf k => k v d S H (.refl w) (h S H) hf
theorem de_int {i : Int} {j pos} : DE X (.Constant (.int i) j pos) (tC (.int i)) (pC (.int i)) := ⟨pe_int, .con fun _ _ => .int i⟩
theorem de_bl {b : Bool} {j pos} : DE X (.Constant (.bool b) j pos) (tC (.bl b)) (pC (.bool b)) := ⟨pe_bl, .con fun _ _ => .bl b⟩
theorem de_non {j pos} : DE X (.Constant .none j pos) (tC .non) (pC .none) := ⟨pe_non, .con fun _ _ => .non⟩
theorem de_str {x : Str} {j pos} : DE X (.Constant (.str x) j pos) (tC (.str x)) (pC (.str x)) := ⟨pe_str, .con fun _ _ => .str x⟩
/-- a module's constant -/
theorem de_globS {x z : Str} {t : Tok} {pos : Pos} (hg : Gl X x) (hm : X.mg x = some (.str z t)) (hd : (x == ("__debug__" : Str)) = false := by decide) : DE X (.Name x pos) (tC (.str z)) (pC (.str z)) :=
  ⟨pe_glob hg hm (show RelV (.str z) (.str z t) from ⟨t, rfl⟩) hd, .con fun _ _ => .str z⟩
theorem de_globI {x : Str} {z : Int} {t : Tok} {pos : Pos} (hg : Gl X x) (hm : X.mg x = some (.int z t)) (hd : (x == ("__debug__" : Str)) = false := by decide) : DE X (.Name x pos) (tC (.int z)) (pC (.int z)) :=
  ⟨pe_glob hg hm (show RelV (.int z) (.int z t) from ⟨t, rfl⟩) hd, .con fun _ _ => .int z⟩
end

/-! ### operators by values -/
def PureR (r : R2) (g : D → D → (D → Prop) → Prop) : Prop := ∀ (Z S : Fp) (H : Hp) (x y : V) (a b : D) (Qd : D → Prop) (Q : VK), Wd Z S H → RepB Z S H x a → RepB Z S H y b → g a b Qd →
  (∀ v d S' H', Wx Z S H S' H' → Rep S' H' v d → Qd d → Q v H') → r x y H Q
def PureRF (r : R2) (g : D → D → (SV → Prop) → Prop) : Prop := ∀ (K : PySem.W.Frag) (Z S : Fp) (H : Hp) (x y : V) (a b : D) (Qd : SV → Prop) (Q : VK), Wd Z S H → RepB Z S H x a → RepB Z S H y b → g a b Qd →
  (∀ v sv S' H', Wx Z S H S' H' → RepSV K Z (fun a => H a = none) S' H' v sv → Qd sv → Q v H') → r x y H Q
def pOp (g : D → D → (D → Prop) → Prop) (fa fb : PTE) : PTE := fun env Q => fa env fun x => fb env fun y => g x y Q
def pOpF (g : D → D → (SV → Prop) → Prop) (fa fb : PTE) : PTF := fun env Q => fa env fun x => fb env fun y => g x y Q
def pUn (g : D → (D → Prop) → Prop) (fa : PTE) : PTE := fun env Q => fa env fun x => g x Q
theorem Wx.freshen {K : PySem.W.Frag} {Z S S1 S' : Fp} {H H1 H' : Hp} {v : V} {sv : SV} (x : Wx Z S H S1 H1) (r : RepSV K Z (fun a => H1 a = none) S' H' v sv) : RepSV K Z (fun a => H a = none) S' H' v sv :=
  r.mono fun _ nz h => x.fresh nz h
section
variable {X : Cx} {a b : Expr} {fa fb : PTE} {pos : Pos} {K : PySem.W.Frag} {ta tb : TE}
theorem PureE.op {r : R2} {g : D → D → (D → Prop) → Prop} (hr : PureR r g) (ha : PureB K ta fa) (hb : PureB K tb fb) : PureE K (tOp r ta tb) (pOp g fa fb) := by
  intro Z O S σ H env Qd Q w rr hf k
  refine ha Z O S σ H env _ _ w rr hf fun v d S1 H1 x1 r1 q1 => ?_
  refine hb Z O S1 σ H1 env _ _ x1.wd (rr.wx w x1) q1 fun u e S2 H2 x2 r2 q2 => ?_
  exact hr Z S2 H2 v u d e Qd Q x2.wd (r1.wx x2) r2 q2 fun v' d' S3 H3 x3 r3 q3 => k v' d' S3 H3 ((x1.trans x2).trans x3) r3 q3
theorem PureF.op {r : R2} {g : D → D → (SV → Prop) → Prop} (hr : PureRF r g) (ha : PureB K ta fa) (hb : PureB K tb fb) : PureF K (tOp r ta tb) (pOpF g fa fb) := by
  intro Z O S σ H env Qd Q w rr hf k
  refine ha Z O S σ H env _ _ w rr hf fun v d S1 H1 x1 r1 q1 => ?_
  refine hb Z O S1 σ H1 env _ _ x1.wd (rr.wx w x1) q1 fun u e S2 H2 x2 r2 q2 => ?_
  exact hr K Z S2 H2 v u d e Qd Q x2.wd (r1.wx x2) r2 q2 fun v' d' S3 H3 x3 r3 q3 => k v' d' S3 H3 ((x1.trans x2).trans x3) ((x1.trans x2).freshen r3) q3
theorem de_op {op : Operator} {r : R2} {g : D → D → (D → Prop) → Prop} (ho : OpR X (binaryOp op) r) (hr : PureR r g) (ha : DB X a ta fa) (hb : DB X b tb fb) : DE X (.BinOp a op b pos) (tOp r ta tb) (pOp g fa fb) := by
  have a1 := ha.pe
  have a2 := ha.pu
  have b1 := hb.pe
  have b2 := hb.pu
  exact ⟨pe_op ho a1 b1, .op hr a2 b2⟩
theorem df_op {op : Operator} {r : R2} {g : D → D → (SV → Prop) → Prop} (ho : OpR X (binaryOp op) r) (hr : PureRF r g) (ha : DB X a ta fa) (hb : DB X b tb fb) : DF X (.BinOp a op b pos) (tOp r ta tb) (pOpF g fa fb) := by
  have a1 := ha.pe
  have a2 := ha.pu
  have b1 := hb.pe
  have b2 := hb.pu
  exact ⟨pe_op ho a1 b1, .op hr a2 b2⟩
theorem de_cmp {op : CmpOp} {r : R2} {g : D → D → (D → Prop) → Prop} (ho : OpR X (compareOp op) r) (hr : PureR r g) (ha : DB X a ta fa) (hb : DB X b tb fb) (hm : behindInMarks op b = false) : DE X (.Compare a [op] [b] pos) (tOp r ta tb) (pOp g fa fb) := by
  have a1 := ha.pe
  have a2 := ha.pu
  have b1 := hb.pe
  have b2 := hb.pu
  exact ⟨pe_cmpR ho a1 b1 hm, .op hr a2 b2⟩
/-- a bool as a test -/
def pTest (f : PTE) : PTT := fun env Q => f env fun d => match d with
  | .bool b => Q b
  | _ => False
theorem PureT.test {f : PTE} {t : TE} (h : PureE K t f) : PureT K (tTest t) (pTest f) := by
  intro Z O S σ H env Qd Q w rr hf k
  refine h Z O S σ H env _ _ w rr hf fun v d S1 H1 x1 r1 q1 => ?_
  cases d with
  | bool b =>
    cases r1
    exact ⟨b, rfl, k b S1 H1 x1 q1⟩
  | _ => exact q1.elim
theorem PureT.testB {f : PTE} {t : TE} (h : PureE K t f) : PureT K (tB t) (pTest f) := PureT.test h
theorem dt_cmp {op : CmpOp} {r : R2} {g : D → D → (D → Prop) → Prop} (ho : OpR X (compareOp op) r) (hr : PureR r g) (ha : DB X a ta fa) (hb : DB X b tb fb) (hm : behindInMarks op b = false) : DT X (.Compare a [op] [b] pos) (tTest (tOp r ta tb)) (pTest (pOp g fa fb)) := by
  have a1 := ha.pe
  have a2 := ha.pu
  have b1 := hb.pe
  have b2 := hb.pu
  exact ⟨pt_cmpR ho a1 b1 hm, .test (.op hr a2 b2)⟩
theorem dt_val {e : Expr} {t : TE} {f : PTE} (h : DE X e t f) (he : ∀ whole, isTrue e X.env whole = (do let v ← whole; standAt e.pos; holding [v] (truthy v)) := by intro _; rfl) : DT X e (tB t) (pTest f) := by
  have h1 := h.pe
  have h2 := h.pu
  exact ⟨pt_val h1 he, .testB h2⟩
def PureU (r : V → Hp → VK → Prop) (g : D → (D → Prop) → Prop) : Prop := ∀ (Z S : Fp) (H : Hp) (x : V) (a : D) (Qd : D → Prop) (Q : VK), Wd Z S H → RepB Z S H x a → g a Qd →
  (∀ v d S' H', Wx Z S H S' H' → Rep S' H' v d → Qd d → Q v H') → r x H Q
theorem de_un {op : UnaryOp} {r : V → Hp → VK → Prop} {g : D → (D → Prop) → Prop} (ho : UnR X (unaryOp op) r) (hr : PureU r g) (ha : DB X a ta fa) : DE X (.UnaryOp op a pos) (tUn r ta) (pUn g fa) := by
  have a1 := ha.pe
  have a2 := ha.pu
  refine ⟨pe_un ho a1, fun Z O S σ H env Qd Q w rr hf k => ?_⟩
  refine a2 Z O S σ H env _ _ w rr hf fun v d S1 H1 x1 r1 q1 => ?_
  exact hr Z S1 H1 v d Qd Q x1.wd r1 q1 fun v' d' S3 H3 x3 r3 q3 => k v' d' S3 H3 (x1.trans x3) r3 q3
end

/-! ### tests joined -/
def pAnd (f g : PTT) : PTT := fun env Q => f env fun c => if c = true then g env Q else Q false
def pOr (f g : PTT) : PTT := fun env Q => f env fun c => if c = true then Q true else g env Q
def pNot (f : PTT) : PTT := fun env Q => f env fun c => Q (!c)
def pIf (c : PTT) (fa fb : PTE) : PTE := fun env Q => c env fun b => if b = true then fa env Q else fb env Q
def pAndV (fa fb : PTE) : PTE := fun env Q => fa env fun d => match d with
  | .bool c => if c = true then fb env Q else Q (.bool false)
  | _ => False
def pOrV (fa fb : PTE) : PTE := fun env Q => fa env fun d => match d with
  | .bool c => if c = true then Q (.bool true) else fb env Q
  | _ => False
def pNotV (fa : PTE) : PTE := fun env Q => fa env fun d => match d with
  | .bool c => Q (.bool (!c))
  | _ => False
section
variable {X : Cx} {a b c : Expr} {rest : List Expr} {f g : PTT} {fa fb : PTE} {pos : Pos} {K : PySem.W.Frag} {t u : TT} {ta tb : TE}
theorem PureT.and (h1 : PureT K t f) (h2 : PureT K u g) : PureT K (tAnd t u) (pAnd f g) := by
  intro Z O S σ H env Qd Q w rr hf k
  refine h1 Z O S σ H env _ _ w rr hf fun c S1 H1 x1 q1 => ?_
  cases c with
  | true =>
    rw [if_pos rfl] at q1 ⊢
    exact h2 Z O S1 σ H1 env Qd Q x1.wd (rr.wx w x1) q1 fun b S2 H2 x2 q2 => k b S2 H2 (x1.trans x2) q2
  | false =>
    rw [if_neg Bool.false_ne_true] at q1 ⊢
    exact k false S1 H1 x1 q1
theorem PureT.or (h1 : PureT K t f) (h2 : PureT K u g) : PureT K (tOr t u) (pOr f g) := by
  intro Z O S σ H env Qd Q w rr hf k
  refine h1 Z O S σ H env _ _ w rr hf fun c S1 H1 x1 q1 => ?_
  cases c with
  | true =>
    rw [if_pos rfl] at q1 ⊢
    exact k true S1 H1 x1 q1
  | false =>
    rw [if_neg Bool.false_ne_true] at q1 ⊢
    exact h2 Z O S1 σ H1 env Qd Q x1.wd (rr.wx w x1) q1 fun b S2 H2 x2 q2 => k b S2 H2 (x1.trans x2) q2
theorem PureT.not (h1 : PureT K t f) : PureT K (tNot t) (pNot f) := by
  intro Z O S σ H env Qd Q w rr hf k
  exact h1 Z O S σ H env _ _ w rr hf fun c S1 H1 x1 q1 => k _ S1 H1 x1 q1
theorem dw_and1 (h : DT X a t f) : DW X (.BoolOp .And [a] pos) t f := by
  have h1 := h.pe
  have h2 := h.pu
  exact ⟨pw_and1 h1, h2⟩
theorem dw_or1 (h : DT X a t f) : DW X (.BoolOp .Or [a] pos) t f := by
  have h1 := h.pe
  have h2 := h.pu
  exact ⟨pw_or1 h1, h2⟩
theorem dw_and (h : DT X a t f) (h' : DW X (.BoolOp .And (b :: rest) pos) u g) : DW X (.BoolOp .And (a :: b :: rest) pos) (tAnd t u) (pAnd f g) := by
  have h1 := h.pe
  have h2 := h.pu
  have h1' := h'.pe
  have h2' := h'.pu
  exact ⟨pw_and h1 h1', .and h2 h2'⟩
theorem dw_or (h : DT X a t f) (h' : DW X (.BoolOp .Or (b :: rest) pos) u g) : DW X (.BoolOp .Or (a :: b :: rest) pos) (tOr t u) (pOr f g) := by
  have h1 := h.pe
  have h2 := h.pu
  have h1' := h'.pe
  have h2' := h'.pu
  exact ⟨pw_or h1 h1', .or h2 h2'⟩
theorem DW.dt (h : DW X a t f) : DT X a t f := by
  have h1 := h.pe
  have h2 := h.pu
  exact ⟨h1.pt, h2⟩
theorem dt_not (h : DT X a t f) : DT X (.UnaryOp .Not a pos) (tNot t) (pNot f) := by
  have h1 := h.pe
  have h2 := h.pu
  exact ⟨pt_not h1, .not h2⟩
theorem de_if (hc : DT X c t f) (ha : DE X a ta fa) (hb : DE X b tb fb) : DE X (.IfExp c a b pos) (tIf t ta tb) (pIf f fa fb) := by
  have c1 := hc.pe
  have c2 := hc.pu
  have a1 := ha.pe
  have a2 := ha.pu
  have b1 := hb.pe
  have b2 := hb.pu
  refine ⟨pe_ifExp c1 a1 b1, fun Z O S σ H env Qd Q w rr hf k => ?_⟩
  refine c2 Z O S σ H env _ _ w rr hf fun c S1 H1 x1 q1 => ?_
  cases c with
  | true =>
    rw [if_pos rfl] at q1 ⊢
    exact a2 Z O S1 σ H1 env Qd Q x1.wd (rr.wx w x1) q1 fun v d S2 H2 x2 r2 q2 => k v d S2 H2 (x1.trans x2) r2 q2
  | false =>
    rw [if_neg Bool.false_ne_true] at q1 ⊢
    exact b2 Z O S1 σ H1 env Qd Q x1.wd (rr.wx w x1) q1 fun v d S2 H2 x2 r2 q2 => k v d S2 H2 (x1.trans x2) r2 q2
theorem de_one {op} (h : DE X a ta fa) : DE X (.BoolOp op [a] pos) ta fa := by
  have h1 := h.pe
  have h2 := h.pu
  exact ⟨pe_one h1, h2⟩
theorem de_and (ha : DE X a ta fa) (hb : DE X (.BoolOp .And (b :: rest) pos) tb fb) : DE X (.BoolOp .And (a :: b :: rest) pos) (tAndV ta tb) (pAndV fa fb) := by
  have a1 := ha.pe
  have a2 := ha.pu
  have b1 := hb.pe
  have b2 := hb.pu
  refine ⟨pe_and a1 b1, fun Z O S σ H env Qd Q w rr hf k => ?_⟩
  refine a2 Z O S σ H env _ _ w rr hf fun v d S1 H1 x1 r1 q1 => ?_
  cases d with
  | bool c =>
    cases r1
    refine ⟨c, rfl, ?_⟩
    cases c with
    | true => exact b2 Z O S1 σ H1 env Qd Q x1.wd (rr.wx w x1) q1 fun v d S2 H2 x2 r2 q2 => k v d S2 H2 (x1.trans x2) r2 q2
    | false => exact k _ _ S1 H1 x1 (.bl false) q1
  | _ => exact q1.elim
theorem de_or (ha : DE X a ta fa) (hb : DE X (.BoolOp .Or (b :: rest) pos) tb fb) : DE X (.BoolOp .Or (a :: b :: rest) pos) (tOrV ta tb) (pOrV fa fb) := by
  have a1 := ha.pe
  have a2 := ha.pu
  have b1 := hb.pe
  have b2 := hb.pu
  refine ⟨pe_or a1 b1, fun Z O S σ H env Qd Q w rr hf k => ?_⟩
  refine a2 Z O S σ H env _ _ w rr hf fun v d S1 H1 x1 r1 q1 => ?_
  cases d with
  | bool c =>
    cases r1
    refine ⟨c, rfl, ?_⟩
    cases c with
    | true => exact k _ _ S1 H1 x1 (.bl true) q1
    | false => exact b2 Z O S1 σ H1 env Qd Q x1.wd (rr.wx w x1) q1 fun v d S2 H2 x2 r2 q2 => k v d S2 H2 (x1.trans x2) r2 q2
  | _ => exact q1.elim
theorem de_not (ha : DE X a ta fa) : DE X (.UnaryOp .Not a pos) (tNotV ta) (pNotV fa) := by
  have a1 := ha.pe
  have a2 := ha.pu
  refine ⟨pe_not a1, fun Z O S σ H env Qd Q w rr hf k => ?_⟩
  refine a2 Z O S σ H env _ _ w rr hf fun v d S1 H1 x1 r1 q1 => ?_
  cases d with
  | bool c =>
    cases r1
    exact ⟨c, rfl, k _ _ S1 H1 x1 (.bl _) q1⟩
  | _ => exact q1.elim
end

/-! ### argument lists, displays -/
def pNil : PTL := fun _ Q => Q []
def pCons (f : PTE) (g : PTL) : PTL := fun env Q => f env fun x => g env fun xs => Q (x :: xs)
def aNil : PTA := fun _ Q => Q []
def aCons (f : PTE) (g : PTA) : PTA := fun env Q => f env fun x => g env fun xs => Q (.v x :: xs)
/-- the state, the script: a slot handed as it is -/
def aSlot (i : Nat) (g : PTA) : PTA := fun env Q => match slot env i with
  | some .st => g env fun xs => Q (.st :: xs)
  | some (.scr ns) => g env fun xs => Q (.scr ns :: xs)
  | _ => False
section
variable {X : Cx} {e : Expr} {es : List Expr} {f : PTE} {g : PTL} {ga : PTA} {pos : Pos} {t : TE} {u : TA}
theorem des_nil : DEs X [] tNil pNil := ⟨pa_nil, fun Z O S σ H env Qd Q w rr hf k => k [] [] S H (.refl w) .nil hf⟩
theorem dbs_nil : DBs X [] tNil pNil := ⟨pa_nil, fun Z O S σ H env Qd Q w rr hf k => k [] [] S H (.refl w) .nil hf⟩
theorem da_nil : DA X [] tNil aNil := ⟨pa_nil, fun Z O S σ H env Qd Q w rr hf k => k [] [] S H (.refl w) .nil hf⟩
theorem des_cons (h : DE X e t f) (hr : DEs X es u g) (hs : starEach (e :: es) X.env = (false, eval e X.env) :: starEach es X.env := by rfl) : DEs X (e :: es) (tCons t u) (pCons f g) := by
  have h1 := h.pe
  have h2 := h.pu
  have r1 := hr.pe
  have r2 := hr.pu
  refine ⟨pa_cons h1 r1 hs, fun Z O S σ H env Qd Q w rr hf k => ?_⟩
  refine h2 Z O S σ H env _ _ w rr hf fun v d S1 H1 x1 q1 q => ?_
  refine r2 Z O S1 σ H1 env _ _ x1.wd (rr.wx w x1) q fun vs ds S2 H2 x2 q2 q => ?_
  exact k _ _ S2 H2 (x1.trans x2) (.cons (q1.wx x2) q2) q
theorem dbs_cons (h : DB X e t f) (hr : DBs X es u g) (hs : starEach (e :: es) X.env = (false, eval e X.env) :: starEach es X.env := by rfl) : DBs X (e :: es) (tCons t u) (pCons f g) := by
  have h1 := h.pe
  have h2 := h.pu
  have r1 := hr.pe
  have r2 := hr.pu
  refine ⟨pa_cons h1 r1 hs, fun Z O S σ H env Qd Q w rr hf k => ?_⟩
  refine h2 Z O S σ H env _ _ w rr hf fun v d S1 H1 x1 q1 q => ?_
  refine r2 Z O S1 σ H1 env _ _ x1.wd (rr.wx w x1) q fun vs ds S2 H2 x2 q2 q => ?_
  exact k _ _ S2 H2 (x1.trans x2) (.cons (q1.wx x2) q2) q
theorem da_cons (h : DE X e t f) (hr : DA X es u ga) (hs : starEach (e :: es) X.env = (false, eval e X.env) :: starEach es X.env := by rfl) : DA X (e :: es) (tCons t u) (aCons f ga) := by
  have h1 := h.pe
  have h2 := h.pu
  have r1 := hr.pe
  have r2 := hr.pu
  refine ⟨pa_cons h1 r1 hs, fun Z O S σ H env Qd Q w rr hf k => ?_⟩
  refine h2 Z O S σ H env _ _ w rr hf fun v d S1 H1 x1 q1 q => ?_
  refine r2 Z O S1 σ H1 env _ _ x1.wd (rr.wx w x1) q fun vs ds S2 H2 x2 q2 q => ?_
  exact k _ _ S2 H2 (x1.trans x2) (.cons (show RepSV X.K Z (fun _ => False) S2 H2 v (.v d) from q1.wx x2) q2) q
theorem da_slot (i : Nat) {x : Str} (hr : DA X es u ga) (hN : X.N[i]? = some x := by rfl) (hv : Vis X.env.scope x := by first | exact Or.inl rfl | exact Or.inr (Or.inl rfl) | exact Or.inr (Or.inr rfl)) (hd : (x == ("__debug__" : Str)) = false := by decide)
    (hcd : (x == ("__classdict__" : Str)) = false := by decide) (hs : starEach (.Name x pos :: es) X.env = (false, eval (.Name x pos) X.env) :: starEach es X.env := by rfl) : DA X (.Name x pos :: es) (tCons (tVar i) u) (aSlot i ga) := by
  have r1 := hr.pe
  have r2 := hr.pu
  refine ⟨pa_cons (pe_var hN hv hd hcd) r1 hs, fun Z O S σ H env Qd Q w rr hf k => ?_⟩
  unfold aSlot at hf
  cases q : slot env i with
  | none => rw [q] at hf; exact hf.elim
  | some sv =>
    rw [q] at hf
    obtain ⟨v, h1, h2⟩ := rr.get i sv (slot_get env i sv q)
    cases sv with
    | st => exact ⟨v, h1, r2 Z O S σ H env _ _ w rr hf fun vs ds S2 H2 x2 q2 q => k _ _ S2 H2 x2 (.cons (show RepSV X.K Z (fun _ => False) S2 H2 v .st from h2) q2) q⟩
    | scr ns => exact ⟨v, h1, r2 Z O S σ H env _ _ w rr hf fun vs ds S2 H2 x2 q2 q => k _ _ S2 H2 x2 (.cons (RepSV.wx (K := X.K) (O := fun _ => False) (sv := .scr ns) h2 w x2) q2) q⟩
    | _ => exact hf.elim
/-- displays -/
def lineOk (n : Nat) : Prop := n ≤ sizeLine
theorem lineOk_of {n : Nat} (h : n ≤ 16777216) : lineOk n := by unfold lineOk; rw [sizeLine_eq]; exact h
def pTup (g : PTL) : PTE := fun env Q => g env fun xs => lineOk xs.length ∧ Q (.tuple xs)
def pLst (g : PTL) : PTF := fun env Q => g env fun xs => lineOk xs.length ∧ Q (.own xs)
theorem Wx.newTup {Z S : Fp} {H : Hp} {p : Addr} {vs : List V} {ds : List D} (w : Wd Z S H) (h : H p = none) (r : Reps S H vs ds) : Rep (fun a => S a ∨ a = p) (upd H p (.tup vs)) (.ref p) (.tuple ds) :=
  .tup (.inr rfl) upd_same (r.wx (Wx.layS w h))
theorem Wx.newLst {Z S : Fp} {H : Hp} {p : Addr} {vs : List V} {ds : List D} (w : Wd Z S H) (h : H p = none) (r : Reps S H vs ds) : Rep (fun a => S a ∨ a = p) (upd H p (.lst vs)) (.ref p) (.list ds) :=
  .lst (.inr rfl) upd_same (r.wx (Wx.layS w h))
theorem Wx.newOwn {K : PySem.W.Frag} {Z S : Fp} {H : Hp} {p : Addr} {vs : List V} {ds : List D} (w : Wd Z S H) (h : H p = none) (r : Reps S H vs ds) : RepSV K Z (fun a => H a = none) S (upd H p (.lst vs)) (.ref p) (.own ds) :=
  ⟨p, vs, rfl, h, upd_same, r.wx (Wx.lay w h), w.ns h, w.nz h⟩
theorem de_tup {x1} (h : DEs X es u g) : DE X (.Tuple es x1 pos) (tTup u) (pTup g) := by
  have h1 := h.pe
  have h2 := h.pu
  refine ⟨pe_tup h1, fun Z O S σ H env Qd Q w rr hf k => ?_⟩
  refine h2 Z O S σ H env _ _ w rr hf fun vs ds S1 H1 x1 r1 q1 => ?_
  exact ⟨by rw [r1.length]; exact q1.1, fun p hp => k _ _ _ _ (x1.trans (Wx.layS x1.wd hp)) (Wx.newTup x1.wd hp r1) q1.2⟩
theorem df_lst (h : DEs X es u g) : DF X (.List es pos) (tLst u) (pLst g) := by
  have h1 := h.pe
  have h2 := h.pu
  refine ⟨pe_lst h1, fun Z O S σ H env Qd Q w rr hf k => ?_⟩
  refine h2 Z O S σ H env _ _ w rr hf fun vs ds S1 H1 x1 r1 q1 => ?_
  exact ⟨by rw [r1.length]; exact q1.1, fun p hp => k _ _ _ _ (x1.trans (Wx.lay x1.wd hp)) (x1.freshen (Wx.newOwn x1.wd hp r1)) q1.2⟩
end
end DL
/-! ## DLmul -/
set_option Elab.async false
set_option linter.all false
set_option maxRecDepth 100000
set_option maxHeartbeats 4000000
namespace L2
open PySem PySem.Spec PyProof.Rows
open PySem.SeqAt
open PySem.AutoSeq1 (wpAny_loadPart')
open PySem.MeetsSeq PySem.MeetsSeq2 PySem.MeetsSeq3
theorem tuple_mulS (l : Addr) (items : Array Value) (n : Nat) (dd : Option Addr) (sl : Array (Option Value)) (x : Int) (u : Tok) (c0 : (decide (x < -(2 ^ 63)) || decide (x ≥ 2 ^ 63)) = false) (c1 : (items.isEmpty || x == 1) = true) :
    Meets (Builtin.«tuple.__mul__» ⟨[.ref l, .int x u], []⟩) (fun _ R s => s.heap.get? l = some { cls := .type "tuple", dict := dd, data := .seq items n, slots := sl } ∧ R (.ok (.ret (Value.ref l))) s) :=
  .of_wp fun prog w A R s h => by
    obtain ⟨hp, g, d, tk, os⟩ := s
    obtain ⟨hl, h⟩ := h
    have f1 := AutoSeq1.idx_int
    wp_walk using wpAny_loadPart' hl
    repeat (first
      | (refine wpAny_ite_false (decide_eq_false (by rw [c0]; exact Bool.false_ne_true)) ?_; wp_walk using wpAny_loadPart' hl)
      | (refine wpAny_ite_true (decide_eq_true c1) ?_; wp_walk using wpAny_loadPart' hl))
    exact ⟨_, rfl, h⟩
theorem tuple_mul0 (l : Addr) (items : Array Value) (n : Nat) (dd : Option Addr) (sl : Array (Option Value)) (x : Int) (u : Tok) (c0 : (decide (x < -(2 ^ 63)) || decide (x ≥ 2 ^ 63)) = false) (c1 : (items.isEmpty || x == 1) = false) (c2 : (decide (x ≤ 0) || items.isEmpty) = true) :
    Meets (Builtin.«tuple.__mul__» ⟨[.ref l, .int x u], []⟩) (fun _ R s => s.heap.get? l = some { cls := .type "tuple", dict := dd, data := .seq items n, slots := sl } ∧
      R (.ok (.ret (Value.ref s.heap.objs.size))) { s with heap := s.heap.push { cls := Value.type "tuple", data := Data.seq #[] }, toks := s.toks }) :=
  .of_wp fun prog w A R s h => by
    obtain ⟨hp, g, d, tk, os⟩ := s
    obtain ⟨hl, h⟩ := h
    have f1 := AutoSeq1.idx_int
    wp_walk using wpAny_loadPart' hl
    repeat (first
      | (refine wpAny_ite_false (decide_eq_false (by rw [c0]; exact Bool.false_ne_true)) ?_; wp_walk using wpAny_loadPart' hl)
      | (refine wpAny_ite_false (decide_eq_false (by rw [c1]; exact Bool.false_ne_true)) ?_; wp_walk using wpAny_loadPart' hl)
      | (refine wpAny_ite_true (decide_eq_true c2) ?_; wp_walk using wpAny_loadPart' hl))
    exact ⟨_, rfl, h⟩
/-- tuple * int, all ways -/
def rRepA (K : PySem.W.Frag) : R2 := fun x y H Q => ∃ l k xs, x = .ref l ∧ y = .int k ∧ SqT K H l xs ∧ -1000 ≤ k ∧ k ≤ 1000 ∧ xs.length ≤ 1000 ∧
  ((xs = [] ∨ k = 1) → Q (.ref l) H) ∧ (xs ≠ [] → k ≠ 1 → ∀ p, H p = none → Q (.ref p) (upd H p (.tup (List.replicate k.toNat xs).flatten)))
theorem op_repA {X : Cx} : OpR X (binaryOp .Mult) (rRepA X.K) := by
  intro pins s σ H x y v u Q I rx ry h
  obtain ⟨l, k, xs, rfl, rfl, hT, h0, h1, hz, q1, q2⟩ := h
  by_cases hc : xs ≠ [] ∧ 2 ≤ k
  · exact op_repT pins s σ H _ _ v u Q I rx ry ⟨l, k, xs, rfl, rfl, hT, hc.1, hc.2, h1, hz, q2 hc.1 (by omega)⟩
  cases rx
  obtain ⟨t, rfl⟩ := ry
  obtain ⟨its, r, ⟨⟨cls, dd, data, sl⟩, ho, hcl, n, hd⟩, hs⟩ := I.tuple hT
  simp only at hcl hd
  subst hcl hd
  have hle : its.length = xs.length := r.length.symm
  have c0 : (decide (k < -(2 ^ 63)) || decide (k ≥ 2 ^ 63)) = false := by
    rw [decide_eq_false (by omega), decide_eq_false (by omega)] <;> rfl
  by_cases hs1 : xs = [] ∨ k = 1
  · have c1 : (its.toArray.isEmpty || k == 1) = true := by
      rcases hs1 with e | e
      · subst e
        have : its = [] := List.eq_nil_of_length_eq_zero hle
        subst this; rfl
      · subst e; simp
    refine wpAny_binaryOp_repeat_ref (T := "tuple") (U := "int") (by decide) ⟨_, ho, rfl⟩ (fun s' => typeIs_int s' k t) noFill_tuple_mul F.fills_int_mul F.slot_int_rmul repeat_tuple F.slot_int_index.lookup
      (call_meets F.slot_int_rmul (typeIs_int s k t) F.entry_int_rmul (F.args_int_rmul_2 _ _) (int_rmul_tuple k t l its.toArray n dd sl)
        ⟨ho, rfl, ⟨_, ho, rfl⟩, call_meets F.slot_tuple_mul ⟨_, ho, rfl⟩ F.entry_tuple_mul (F.args_tuple_mul_2 _ _) (tuple_mulS l its.toArray n dd sl k t c0 c1) ⟨ho, ?_⟩⟩)
    exact ⟨.ref l, H, I, rfl, q1 hs1⟩
  · have hne : xs ≠ [] := fun e => hs1 (.inl e)
    have hk1 : k ≠ 1 := fun e => hs1 (.inr e)
    have hk : k ≤ 0 := by
      by_cases h2 : 2 ≤ k
      · exact absurd ⟨hne, h2⟩ hc
      · omega
    have hn : its ≠ [] := fun e => hne (by
      rw [e] at hle
      exact List.eq_nil_of_length_eq_zero hle.symm)
    have hi : its.toArray.isEmpty = false := by
      cases its with
      | nil => exact absurd rfl hn
      | cons a b => rfl
    have c1 : (its.toArray.isEmpty || k == 1) = false := by
      rw [hi, Bool.false_or]
      exact beq_eq_false_iff_ne.mpr hk1
    have c2 : (decide (k ≤ 0) || its.toArray.isEmpty) = true := by
      rw [decide_eq_true hk] <;> rfl
    have e0 : (List.replicate k.toNat xs).flatten = [] := by
      have : k.toNat = 0 := by omega
      rw [this]; rfl
    have q := q2 hne hk1
    rw [e0] at q
    refine wpAny_binaryOp_repeat_ref (T := "tuple") (U := "int") (by decide) ⟨_, ho, rfl⟩ (fun s' => typeIs_int s' k t) noFill_tuple_mul F.fills_int_mul F.slot_int_rmul repeat_tuple F.slot_int_index.lookup
      (call_meets F.slot_int_rmul (typeIs_int s k t) F.entry_int_rmul (F.args_int_rmul_2 _ _) (int_rmul_tuple k t l its.toArray n dd sl)
        ⟨ho, rfl, ⟨_, ho, rfl⟩, call_meets F.slot_tuple_mul ⟨_, ho, rfl⟩ F.entry_tuple_mul (F.args_tuple_mul_2 _ _) (tuple_mul0 l its.toArray n dd sl k t c0 c1 c2) ⟨ho, ?_⟩⟩)
    refine ⟨.ref s.heap.objs.size, _, I.laid (t' := s.toks) (o := .tup []) (fun b ob q => Heap.get?_push_of_some _ q) (Nat.le_refl _) ?_, rfl, q _ (I.hok.fresh (Nat.le_refl _))⟩
    exact ⟨Nat.zero_le _, [], .nil, IsTup.new _ _⟩
end L2
/-! ## DL3 -/
set_option Elab.async false
set_option linter.all false
set_option maxRecDepth 100000
set_option maxHeartbeats 4000000
/-! DL3: the operators on data. -/
namespace DL
open PySem L2

/-! ### equality -/
/-- numbers, texts, None, lists and tuples of such, not deeper than n: no bool, no dict -/
def shp : Nat → D → Prop
  | _, .none => True
  | _, .int _ => True
  | _, .str _ => True
  | n + 1, .list xs => ∀ x ∈ xs, shp n x
  | n + 1, .tuple xs => ∀ x ∈ xs, shp n x
  | _, _ => False
def isB : D → Prop
  | .bool _ => True
  | _ => False
open Classical in
noncomputable def eqb (a b : D) : Bool := decide (a = b)
theorem eqb_true {a b : D} : (eqb a b = true) ↔ a = b := by unfold eqb; simp
theorem eqb_false {a b : D} : (eqb a b = false) ↔ a ≠ b := by unfold eqb; simp
@[simp] theorem eqb_self (a : D) : eqb a a = true := eqb_true.mpr rfl
@[simp] theorem eqb_int (i j : Int) : eqb (.int i) (.int j) = decide (i = j) := by
  by_cases h : i = j
  · subst h; simp
  · rw [decide_eq_false h, eqb_false]; simpa using h
@[simp] theorem eqb_bool (i j : Bool) : eqb (.bool i) (.bool j) = (i == j) := by
  cases i <;> cases j <;> simp [eqb]
@[simp] theorem eqb_str (i j : Str) : eqb (.str i) (.str j) = decide (i = j) := by
  by_cases h : i = j
  · subst h; simp
  · rw [decide_eq_false h, eqb_false]; simpa using h
theorem eqb_iff {a b : D} {c : Bool} (h : a = b ↔ c = true) : eqb a b = c := by
  cases c with
  | true => exact eqb_true.mpr (h.mpr rfl)
  | false => exact eqb_false.mpr (fun e => Bool.false_ne_true (h.mp e))
theorem eqb_comm (a b : D) : eqb a b = eqb b a := eqb_iff (by rw [eqb_true]; exact ⟨Eq.symm, Eq.symm⟩)

theorem shp_plain : ∀ (n : Nat) (d : D), shp n d → d.plain = true
  | _, .none, _ => rfl
  | _, .int _, _ => rfl
  | _, .str _, _ => rfl
  | 0, .bool _, h => h.elim
  | _ + 1, .bool _, h => h.elim
  | 0, .list _, h => h.elim
  | 0, .tuple _, h => h.elim
  | 0, .dict _, h => h.elim
  | _ + 1, .dict _, h => h.elim
  | n + 1, .list xs, h => by
    rw [PyData.plain]
    have h' : ∀ x ∈ xs, shp n x := h
    clear h
    induction xs with
    | nil => rfl
    | cons x xs ih => rw [PyData.plainAll, shp_plain n x (h' x List.mem_cons_self), ih fun y hy => h' y (List.mem_cons_of_mem _ hy)]; rfl
  | n + 1, .tuple xs, h => by
    rw [PyData.plain]
    have h' : ∀ x ∈ xs, shp n x := h
    clear h
    induction xs with
    | nil => rfl
    | cons x xs ih => rw [PyData.plainAll, shp_plain n x (h' x List.mem_cons_self), ih fun y hy => h' y (List.mem_cons_of_mem _ hy)]; rfl
theorem depthAll_le {n : Nat} : ∀ (xs : List D), (∀ x ∈ xs, x.depth ≤ n) → PyData.depthAll xs ≤ n
  | [], _ => by simp [PyData.depthAll]
  | x :: xs, h => by
    have h1 := h x List.mem_cons_self
    have h2 := depthAll_le xs fun y hy => h y (List.mem_cons_of_mem _ hy)
    simp only [PyData.depthAll]
    omega
theorem shp_depth : ∀ (n : Nat) (d : D), shp n d → d.depth ≤ n + 1
  | _, .none, _ => by simp [PyData.depth]
  | _, .int _, _ => by simp [PyData.depth]
  | _, .str _, _ => by simp [PyData.depth]
  | 0, .bool _, h => h.elim
  | _ + 1, .bool _, h => h.elim
  | 0, .list _, h => h.elim
  | 0, .tuple _, h => h.elim
  | 0, .dict _, h => h.elim
  | _ + 1, .dict _, h => h.elim
  | n + 1, .list xs, h => by
    have h' : ∀ x ∈ xs, shp n x := h
    have := depthAll_le xs fun x hx => shp_depth n x (h' x hx)
    simp only [PyData.depth]
    omega
  | n + 1, .tuple xs, h => by
    have h' : ∀ x ∈ xs, shp n x := h
    have := depthAll_le xs fun x hx => shp_depth n x (h' x hx)
    simp only [PyData.depth]
    omega
theorem eqvAll_iff {n m : Nat} (ih : ∀ a b, shp n a → shp m b → (PyData.eqv a b = true ↔ a = b)) : ∀ (xs ys : List D), (∀ x ∈ xs, shp n x) → (∀ y ∈ ys, shp m y) → (PyData.eqvAll xs ys = true ↔ xs = ys)
  | [], [], _, _ => by simp [PyData.eqvAll]
  | [], y :: ys, _, _ => by simp [PyData.eqvAll]
  | x :: xs, [], _, _ => by simp [PyData.eqvAll]
  | x :: xs, y :: ys, hx, hy => by
    rw [PyData.eqvAll, Bool.and_eq_true, ih x y (hx x List.mem_cons_self) (hy y List.mem_cons_self), eqvAll_iff ih xs ys (fun z hz => hx z (List.mem_cons_of_mem _ hz)) fun z hz => hy z (List.mem_cons_of_mem _ hz)]
    simp
theorem eqv_iff : ∀ (n m : Nat) (a b : D), shp n a → shp m b → (PyData.eqv a b = true ↔ a = b)
  | n, m, a, b, ha, hb => by
    cases a with
    | bool x => cases n <;> exact ha.elim
    | dict x => cases n <;> exact ha.elim
    | none => cases b <;> first | (cases m <;> exact False.elim hb) | simp [PyData.eqv]
    | int i => cases b <;> first | (cases m <;> exact False.elim hb) | simp [PyData.eqv]
    | str i => cases b <;> first | (cases m <;> exact False.elim hb) | simp [PyData.eqv]
    | list xs =>
      cases n with
      | zero => exact ha.elim
      | succ n =>
        cases b with
        | list ys =>
          cases m with
          | zero => exact hb.elim
          | succ m =>
            rw [PyData.eqv, eqvAll_iff (eqv_iff n m) xs ys ha hb]
            simp
        | bool _ => cases m <;> exact hb.elim
        | dict _ => cases m <;> exact hb.elim
        | _ => simp [PyData.eqv]
    | tuple xs =>
      cases n with
      | zero => exact ha.elim
      | succ n =>
        cases b with
        | tuple ys =>
          cases m with
          | zero => exact hb.elim
          | succ m =>
            rw [PyData.eqv, eqvAll_iff (eqv_iff n m) xs ys ha hb]
            simp
        | bool _ => cases m <;> exact hb.elim
        | dict _ => cases m <;> exact hb.elim
        | _ => simp [PyData.eqv]
theorem eqv_eqb {n m : Nat} {a b : D} (ha : shp n a) (hb : shp m b) : PyData.eqv a b = eqb a b := by
  cases h : eqb a b with
  | true => exact (eqv_iff n m a b ha hb).mpr (eqb_true.mp h)
  | false =>
    cases q : PyData.eqv a b with
    | false => rfl
    | true => exact absurd ((eqv_iff n m a b ha hb).mp q) (eqb_false.mp h)

def eqOk (a b : D) : Prop := (shp 20 a ∧ shp 20 b) ∨ (isB a ∧ isB b)
def gEq (a b : D) (Q : D → Prop) : Prop := eqOk a b ∧ Q (.bool (eqb a b))
def gNe (a b : D) (Q : D → Prop) : Prop := eqOk a b ∧ Q (.bool (!eqb a b))
def rEqP (K : PySem.W.Frag) (neg : Bool) : R2 := fun x y H Q => ∃ d e, Dp K H x d ∧ Dp K H y e ∧ d.plain = true ∧ e.plain = true ∧ d.depth ≤ 30 ∧ Q (.bl (if neg then !PyData.eqv d e else PyData.eqv d e)) H
section
variable {X : Cx} {K : PySem.W.Frag}
theorem op_eqP (hu : X.A.units + 64 < cLine) : OpR X (compareOp .Eq) (rEqP X.K false) := by
  intro pins s σ H x y v u Q I rx ry h
  obtain ⟨d, e, hd, he, pd, pe, hz, q⟩ := h
  obtain ⟨as, r1⟩ := Dp.reads I d x v hd rx
  obtain ⟨bs, r2⟩ := Dp.reads I e y u he ry
  exact SeqAt.eq_plain r1 r2 pd pe (by have := Nat.min_le_left d.depth e.depth; omega) ⟨.bl _, H, I, rfl, q⟩
theorem op_neP (hu : X.A.units + 64 < cLine) : OpR X (compareOp .NotEq) (rEqP X.K true) := by
  intro pins s σ H x y v u Q I rx ry h
  obtain ⟨d, e, hd, he, pd, pe, hz, q⟩ := h
  obtain ⟨as, r1⟩ := Dp.reads I d x v hd rx
  obtain ⟨bs, r2⟩ := Dp.reads I e y u he ry
  exact SeqAt.ne_plain r1 r2 pd pe (by have := Nat.min_le_left d.depth e.depth; omega) ⟨.bl _, H, I, rfl, q⟩
theorem eqOk_all {a b : D} (h : eqOk a b) : a.plain = true ∧ b.plain = true ∧ a.depth ≤ 30 ∧ PyData.eqv a b = eqb a b := by
  rcases h with ⟨h1, h2⟩ | ⟨h1, h2⟩
  · exact ⟨shp_plain _ _ h1, shp_plain _ _ h2, Nat.le_trans (shp_depth _ _ h1) (by decide), eqv_eqb h1 h2⟩
  · cases a <;> first | exact h1.elim | skip
    cases b <;> first | exact h2.elim | skip
    refine ⟨rfl, rfl, by simp [PyData.depth], ?_⟩
    rw [eqb_bool]
    simp [PyData.eqv]
theorem pr_eq : PureR (rEqP K false) gEq := by
  intro Z S H x y a b Qd Q w ra rb h k
  obtain ⟨p1, p2, p3, p4⟩ := eqOk_all h.1
  exact ⟨a, b, ra.dp p1, rb.dp p2, p1, p2, p3, k _ _ S H (.refl w) (.bl _) (by rw [p4]; exact h.2)⟩
theorem pr_ne : PureR (rEqP K true) gNe := by
  intro Z S H x y a b Qd Q w ra rb h k
  obtain ⟨p1, p2, p3, p4⟩ := eqOk_all h.1
  exact ⟨a, b, ra.dp p1, rb.dp p2, p1, p2, p3, k _ _ S H (.refl w) (.bl _) (by rw [p4]; exact h.2)⟩
end

/-! ### numbers -/
def gI (f : Int → Int → (D → Prop) → Prop) : D → D → (D → Prop) → Prop
  | .int i, .int j, Q => f i j Q
  | _, _, _ => False
theorem pr_I {C : Int → Int → Prop} {g : Int → Int → V} {f : Int → Int → (D → Prop) → Prop} (h : ∀ i j Q, f i j Q → C i j ∧ ∃ d, (∀ S H, Rep S H (g i j) d) ∧ Q d) : PureR (rI C g) (gI f) := by
  intro Z S H x y a b Qd Q w ra rb hf k
  cases a <;> first | exact hf.elim | skip
  cases b <;> first | exact hf.elim | skip
  rename_i i j
  cases ra.int
  cases rb.int
  obtain ⟨c, d, h1, h2⟩ := h i j Qd hf
  exact ⟨i, j, rfl, rfl, c, k _ d S H (.refl w) (h1 S H) h2⟩
theorem pr_I0 {g : Int → Int → V} {f : Int → Int → (D → Prop) → Prop} (h : ∀ i j Q, f i j Q → ∃ d, (∀ S H, Rep S H (g i j) d) ∧ Q d) : PureR (rI0 g) (gI f) := by
  intro Z S H x y a b Qd Q w ra rb hf k
  cases a <;> first | exact hf.elim | skip
  cases b <;> first | exact hf.elim | skip
  rename_i i j
  cases ra.int
  cases rb.int
  obtain ⟨d, h1, h2⟩ := h i j Qd hf
  exact ⟨i, j, rfl, rfl, k _ d S H (.refl w) (h1 S H) h2⟩
def gMinus := gI fun i j Q => Q (.int (i - j))
def gMod := gI fun i j Q => j ≠ 0 ∧ (if 0 < j then Q (.int (i % j)) else Q (.int (i.fmod j)))
def gFdiv := gI fun i j Q => j ≠ 0 ∧ j.natAbs.log2 < 9000 ∧ (if 0 < j then Q (.int (i / j)) else Q (.int (i.fdiv j)))
def gPow := gI fun i j Q => CPow i j ∧ Q (.int (i ^ j.toNat))
def gLt := gI fun i j Q => Q (.bool (decide (i < j)))
def gLe := gI fun i j Q => Q (.bool (decide (i ≤ j)))
def gGt := gI fun i j Q => Q (.bool (decide (j < i)))
def gGe := gI fun i j Q => Q (.bool (decide (j ≤ i)))
theorem pr_sub : PureR (rI0 fun i j => .int (i - j)) gMinus := pr_I0 fun i j Q h => ⟨_, fun _ _ => .int _, h⟩
theorem pr_lt : PureR (rI0 fun i j => .bl (decide (i < j))) gLt := pr_I0 fun i j Q h => ⟨_, fun _ _ => .bl _, h⟩
theorem pr_le : PureR (rI0 fun i j => .bl (decide (i ≤ j))) gLe := pr_I0 fun i j Q h => ⟨_, fun _ _ => .bl _, h⟩
theorem pr_gt : PureR (rI0 fun i j => .bl (decide (j < i))) gGt := pr_I0 fun i j Q h => ⟨_, fun _ _ => .bl _, h⟩
theorem pr_ge : PureR (rI0 fun i j => .bl (decide (j ≤ i))) gGe := pr_I0 fun i j Q h => ⟨_, fun _ _ => .bl _, h⟩
theorem pr_mod : PureR (rI (fun _ j => j ≠ 0) fun i j => .int (i.fmod j)) gMod := pr_I fun i j Q h => by
  refine ⟨h.1, _, fun _ _ => .int _, ?_⟩
  have h2 := h.2
  split at h2
  · rename_i hj; rw [Int.fmod_eq_emod_of_nonneg i (by omega)]; exact h2
  · exact h2
theorem pr_pow : PureR (rI CPow fun i j => .int (i ^ j.toNat)) gPow := pr_I fun i j Q h => ⟨h.1, _, fun _ _ => .int _, h.2⟩
theorem op_fdivA {X : Cx} : OpR X (binaryOp .FloorDiv) (rI (fun _ j => j ≠ 0 ∧ j.natAbs.log2 < 9000) fun i j => .int (i.fdiv j)) := opI fun _ _ _ _ _ _ _ hc q => PyProof.Rows.floordiv_int hc.1 q (.inl (PyProof.noPylong_of_log2 hc.2))
theorem pr_fdiv : PureR (rI (fun _ j => j ≠ 0 ∧ j.natAbs.log2 < 9000) fun i j => .int (i.fdiv j)) gFdiv := pr_I fun i j Q h => by
  refine ⟨⟨h.1, h.2.1⟩, _, fun _ _ => .int _, ?_⟩
  have h2 := h.2.2
  split at h2
  · rename_i hj; rw [Int.fdiv_eq_ediv_of_nonneg i (by omega)]; exact h2
  · exact h2
def gNeg : D → (D → Prop) → Prop
  | .int i, Q => Q (.int (-i))
  | _, _ => False
theorem pu_neg : PureU (rU fun i => .int (-i)) gNeg := by
  intro Z S H x a Qd Q w ra hf k
  cases a <;> first | exact hf.elim | skip
  cases ra.int
  exact ⟨_, rfl, k _ _ S H (.refl w) (.int _) hf⟩

/-! ### + and * -/
def gAdd : D → D → (SV → Prop) → Prop
  | .int i, .int j, Q => Q (.v (.int (i + j)))
  | .tuple xs, .tuple ys, Q => lineOk (xs.length + ys.length) ∧ Q (.v (.tuple (xs ++ ys)))
  | .list xs, .list ys, Q => lineOk (xs.length + ys.length) ∧ Q (.own (xs ++ ys))
  | .str x, .str y, Q => lineOk (x.length + y.length) ∧ Q (.v (.str (x ++ y)))
  | _, _, _ => False
def rAddA (K : PySem.W.Frag) : R2 := fun x y H Q => rI0 (fun i j => .int (i + j)) x y H Q ∨ (rCatA K x y H Q ∨ (rCat x y H Q ∨ ∃ i j, x = .str i ∧ y = .str j ∧ i.length + j.length ≤ sizeLine ∧ Q (.str (i ++ j)) H))
theorem op_addA {X : Cx} : OpR X (binaryOp .Add) (rAddA X.K) := op_add.or (op_catA.or (op_cat.or op_add_str))
theorem pr_add {K : PySem.W.Frag} : PureRF (rAddA K) gAdd := by
  intro K' Z S H x y a b Qd Q w ra rb hf k
  cases a <;> first | exact hf.elim | skip
  · cases b <;> first | exact hf.elim | skip
    cases ra.int
    cases rb.int
    exact .inl ⟨_, _, rfl, rfl, k _ (.v _) S H (.refl w) (Rep.int _) hf⟩
  · cases b <;> first | exact hf.elim | skip
    cases ra.str
    cases rb.str
    exact .inr (.inr (.inr ⟨_, _, rfl, rfl, hf.1, k _ (.v _) S H (.refl w) (Rep.str _) hf.2⟩))
  · cases b <;> first | exact hf.elim | skip
    obtain ⟨p, vs, rfl, hp, r1⟩ := ra.list
    obtain ⟨q, us, rfl, hq, r2⟩ := rb.list
    refine .inr (.inr (.inl ⟨p, q, vs, us, rfl, rfl, hp, hq, by rw [r1.length, r2.length]; exact hf.1, fun l hl => ?_⟩))
    exact k _ _ _ _ (Wx.lay w hl) (Wx.newOwn w hl (r1.append r2)) hf.2
  · cases b <;> first | exact hf.elim | skip
    rename_i xs ys
    obtain ⟨p, vs, rfl, sp, hp, r1⟩ := ra.tuple
    obtain ⟨q, us, rfl, sq, hq, r2⟩ := rb.tuple
    refine .inr (.inl ⟨p, q, vs, us, rfl, rfl, SqT.of hp, SqT.of hq, by rw [r1.length, r2.length]; exact hf.1, fun e => ?_, fun _ e => ?_, fun _ _ l hl => ?_⟩)
    · subst e
      cases r1
      exact k _ (.v _) S H (.refl w) (Rep.tup sq hq r2) hf.2
    · subst e
      cases r2
      have h2 := hf.2
      rw [List.append_nil] at h2
      exact k _ (.v _) S H (.refl w) (Rep.tup sp hp r1) h2
    · exact k _ (.v _) _ _ (Wx.layS w hl) (Wx.newTup w hl (r1.append r2)) hf.2
def gMul : D → D → (SV → Prop) → Prop
  | .int i, .int j, Q => IntMulOk i j ∧ Q (.v (.int (i * j)))
  | .tuple xs, .int k, Q => -1000 ≤ k ∧ k ≤ 1000 ∧ xs.length ≤ 1000 ∧ Q (.v (.tuple (List.replicate k.toNat xs).flatten))
  | .list xs, .int k, Q => -1000 ≤ k ∧ k ≤ 1000 ∧ xs.length ≤ 1000 ∧ Q (.own (List.replicate k.toNat xs).flatten)
  | _, _, _ => False
def rMulA (K : PySem.W.Frag) : R2 := fun x y H Q => rI IntMulOk (fun i j => .int (i * j)) x y H Q ∨ (rRepA K x y H Q ∨ rRep x y H Q)
theorem op_mulA {X : Cx} : OpR X (binaryOp .Mult) (rMulA X.K) := (opI (f := binaryOp .Mult) (C := IntMulOk) (g := fun i j => i * j) fun _ _ _ _ _ _ _ hc q => PyProof.Rows.mul_int q hc).or (op_repA.or op_rep)
theorem flat_nil {α : Type} (k : Nat) : (List.replicate k ([] : List α)).flatten = [] := by
  induction k with
  | zero => rfl
  | succ k ih => rw [List.replicate_succ, List.flatten_cons, ih]; rfl
theorem flat_one {α : Type} (xs : List α) : (List.replicate 1 xs).flatten = xs := by simp
theorem pr_mul {K : PySem.W.Frag} : PureRF (rMulA K) gMul := by
  intro K' Z S H x y a b Qd Q w ra rb hf k
  cases a <;> first | exact hf.elim | skip
  · cases b <;> first | exact hf.elim | skip
    cases ra.int
    cases rb.int
    exact .inl ⟨_, _, rfl, rfl, hf.1, k _ (.v _) S H (.refl w) (Rep.int _) hf.2⟩
  · cases b <;> first | exact hf.elim | skip
    rename_i xs n
    obtain ⟨p, vs, rfl, hp, r1⟩ := ra.list
    cases rb.int
    obtain ⟨h1, h2, h3, h4⟩ := hf
    refine .inr (.inr ⟨p, n, vs, rfl, rfl, hp, by omega, by omega, ?_, fun l hl => ?_⟩)
    · rw [r1.length, sizeLine_eq]
      have a1 : xs.length * n.toNat ≤ 1000 * 1000 := Nat.mul_le_mul h3 (by omega)
      omega
    exact k _ _ _ _ (Wx.lay w hl) (Wx.newOwn w hl (r1.rep _)) h4
  · cases b <;> first | exact hf.elim | skip
    rename_i xs n
    obtain ⟨p, vs, rfl, sp, hp, r1⟩ := ra.tuple
    cases rb.int
    obtain ⟨h1, h2, h3, h4⟩ := hf
    refine .inr (.inl ⟨p, n, vs, rfl, rfl, SqT.of hp, h1, h2, by rw [r1.length]; exact h3, fun e => ?_, fun _ _ l hl => ?_⟩)
    · refine k _ (.v _) S H (.refl w) (Rep.tup sp hp r1) ?_
      rcases e with e | e
      · subst e
        cases r1
        rw [flat_nil] at h4
        exact h4
      · subst e
        have e1 : (1 : Int).toNat = 1 := rfl
        rw [e1, flat_one] at h4
        exact h4
    · exact k _ (.v _) _ _ (Wx.layS w hl) (Wx.newTup w hl (r1.rep _)) h4

/-! ### subscripts -/
def gIx : D → D → (D → Prop) → Prop
  | .list ds, .int k, Q => match atI ds k with
    | some d => Q d
    | none => False
  | .tuple ds, .int k, Q => match atI ds k with
    | some d => Q d
    | none => False
  | .str z, .int k, Q => lineOk z.length ∧ match atI z.cps.toList k with
    | some c => Q (.str ⟨#[c]⟩)
    | none => False
  | _, _, _ => False
theorem pr_ix {K : PySem.W.Frag} : PureR (rIx K) gIx := by
  intro Z S H x y a b Qd Q w ra rb hf k
  cases a <;> first | exact hf.elim | skip
  · cases b <;> first | exact hf.elim | skip
    rename_i z n
    cases ra.str
    cases rb.int
    have h1 : lineOk z.length := hf.1
    have h2 := hf.2
    cases e : atI z.cps.toList n with
    | none => rw [e] at h2; exact h2.elim
    | some c =>
      rw [e] at h2
      exact .inr (.inr ⟨z, n, c, rfl, rfl, h1, e, k _ _ S H (.refl w) (.str _) h2⟩)
  · cases b <;> first | exact hf.elim | skip
    rename_i xs n
    obtain ⟨p, vs, rfl, hp, r1⟩ := ra.list
    cases rb.int
    unfold gIx at hf
    cases e : atI xs n with
    | none => simp only [e] at hf
    | some d =>
      simp only [e] at hf
      obtain ⟨v, hv, rv⟩ := r1.atI e
      exact .inl ⟨p, vs, n, v, rfl, rfl, SqL.of hp, hv, k _ _ S H (.refl w) rv hf⟩
  · cases b <;> first | exact hf.elim | skip
    rename_i xs n
    obtain ⟨p, vs, rfl, sp, hp, r1⟩ := ra.tuple
    cases rb.int
    unfold gIx at hf
    cases e : atI xs n with
    | none => simp only [e] at hf
    | some d =>
      simp only [e] at hf
      obtain ⟨v, hv, rv⟩ := r1.atI e
      exact .inr (.inl ⟨p, vs, n, v, rfl, rfl, SqT.of hp, hv, k _ _ S H (.refl w) rv hf⟩)
theorem de_ix {X : Cx} {a b : Expr} {fa fb : PTE} {ta tb : TE} {pos : Pos} (ha : DB X a ta fa) (hb : DB X b tb fb) (hs : PlainIx b := by exact fun _ _ => rfl) : DE X (.Subscript a b pos) (tOp (rIx X.K) ta tb) (pOp gIx fa fb) :=
  ⟨pe_ix ix_seq ha.pe hb.pe hs, .op pr_ix ha.pu hb.pu⟩

/-! ### slices -/
abbrev PTO := Env → (Option Int → Prop) → Prop
def PureO (K : PySem.W.Frag) (t : TO) (f : PTO) : Prop := ∀ (Z O S : Fp) (σ : St) (H : Hp) (env : Env) (Qd : Option Int → Prop) (Q : Option Int → Hp → Prop), Wd Z S H → RepEnv K Z O S H σ env → f env Qd →
  (∀ o S' H', Wx Z S H S' H' → Qd o → Q o H') → t σ H Q
structure DO (X : Cx) (e : Option Expr) (t : TO) (f : PTO) : Prop where
  pe : PO X e t
  pu : PureO X.K t f
def pNoPart : PTO := fun _ Q => Q none
def pPart (f : PTE) : PTO := fun env Q => f env fun d => match d with
  | .int i => Q (some i)
  | _ => False
def cutD (xs : List D) (lo hi : Option Int) : List D := (xs.drop (HT.sIx xs.length 0 lo)).take (HT.sIx xs.length xs.length hi - HT.sIx xs.length 0 lo)
def gSl : D → Option Int → Option Int → (SV → Prop) → Prop
  | .list xs, lo, hi, Q => Q (.own (cutD xs lo hi))
  | .tuple xs, lo, hi, Q => Q (.v (.tuple (cutD xs lo hi)))
  | _, _, _, _ => False
def pSl (f : PTE) (l h : PTO) : PTF := fun env Q => f env fun d => l env fun lo => h env fun hi => gSl d lo hi Q
def rSlAny (K : PySem.W.Frag) : V → Option Int → Option Int → Hp → VK → Prop := fun x lo hi H Q => rSlL K x lo hi H Q ∨ rSlA K x lo hi H Q
theorem cut_eq {S : Fp} {H : Hp} {vs : List V} {ds : List D} (r : Reps S H vs ds) (lo hi : Option Int) : Reps S H (cutV vs lo hi) (cutD ds lo hi) := by
  unfold cutV cutD
  rw [r.length]
  exact (r.drop _).take _
section
variable {X : Cx} {e : Expr} {te : TE} {f : PTE} {lo hi : Option Expr} {tl th : TO} {fl fh : PTO} {pos p2 : Pos}
theorem do_none : DO X none tNoPart pNoPart := ⟨po_none, fun Z O S σ H env Qd Q w rr hf k => k none S H (.refl w) hf⟩
theorem do_some (h : DE X e te f) : DO X (some e) (tPart te) (pPart f) := by
  refine ⟨po_some h.pe, fun Z O S σ H env Qd Q w rr hf k => ?_⟩
  refine h.pu Z O S σ H env _ _ w rr hf fun v d S1 H1 x1 r1 q1 => ?_
  cases d with
  | int i =>
    cases r1
    exact ⟨i, rfl, k _ S1 H1 x1 q1⟩
  | _ => exact q1.elim
theorem df_slice (he : DB X e te f) (hl : DO X lo tl fl) (hh : DO X hi th fh) : DF X (.Subscript e (.Slice lo hi none p2) pos) (tSl (rSlAny X.K) te tl th) (pSl f fl fh) := by
  refine ⟨pe_slice (sl_list.or sl_tupA) he.pe hl.pe hh.pe, fun Z O S σ H env Qd Q w rr hf k => ?_⟩
  refine he.pu Z O S σ H env _ _ w rr hf fun v d S1 H1 x1 r1 q1 => ?_
  refine hl.pu Z O S1 σ H1 env _ _ x1.wd (rr.wx w x1) q1 fun l S2 H2 x2 q2 => ?_
  refine hh.pu Z O S2 σ H2 env _ _ x2.wd ((rr.wx w x1).wx x1.wd x2) q2 fun u S3 H3 x3 q3 => ?_
  have r3 := (r1.wx x2).wx x3
  have x13 := (x1.trans x2).trans x3
  have w3 := x3.wd
  cases d <;> first | exact q3.elim | skip
  · obtain ⟨p, vs, rfl, hp, r1⟩ := r3.list
    exact .inl ⟨p, vs, rfl, SqL.of hp, fun l hl => k _ _ _ _ (x13.trans (Wx.lay w3 hl)) (x13.freshen (Wx.newOwn w3 hl (cut_eq r1 _ _))) q3⟩
  · rename_i xs
    obtain ⟨p, vs, rfl, sp, hp, r1⟩ := r3.tuple
    refine .inr ⟨p, vs, rfl, SqT.of hp, fun hw => ?_, fun _ l hl => k _ (.v _) _ _ (x13.trans (Wx.layS w3 hl)) (Wx.newTup w3 hl (cut_eq r1 _ _)) q3⟩
    refine k _ (.v _) S3 H3 x13 (Rep.tup sp hp r1) ?_
    have e : cutD xs l u = xs := by
      have hl := r1.length
      unfold cutD
      rw [← hl, hw.1, hw.2, hl]
      simp
    have q3' : Qd (.v (.tuple (cutD xs l u))) := q3
    rw [e] at q3'
    exact q3'
end

/-! ### in -/
def gIn (neg : Bool) : D → D → (D → Prop) → Prop
  | .str x, .str y, Q => ∃ c, x = ⟨#[c]⟩ ∧ Q (.bool (if neg then !decide (c ∈ y.cps.toList) else decide (c ∈ y.cps.toList)))
  | d, .list xs, Q => shp 19 d ∧ (∀ x ∈ xs, shp 19 x) ∧ Q (.bool (if neg then !xs.any (eqb d) else xs.any (eqb d)))
  | d, .tuple xs, Q => shp 19 d ∧ (∀ x ∈ xs, shp 19 x) ∧ Q (.bool (if neg then !xs.any (eqb d) else xs.any (eqb d)))
  | _, _, _ => False
def rInA (K : PySem.W.Frag) (neg : Bool) : R2 := fun x y H Q => (∃ (c : Nat) (z : Str), x = .str ⟨#[c]⟩ ∧ y = .str z ∧ Q (.bl (if neg then !decide (c ∈ z.cps.toList) else decide (c ∈ z.cps.toList))) H) ∨
  (∃ d xs, Dp K H x d ∧ (Dp K H y (.list xs) ∨ Dp K H y (.tuple xs)) ∧ d.plain = true ∧ PyData.plainAll xs = true ∧ d.depth ≤ 30 ∧ Q (.bl (if neg then !xs.any fun y => PyData.eqv y d else xs.any fun y => PyData.eqv y d)) H)
section
variable {X : Cx} {K : PySem.W.Frag}
theorem op_inA (hu : X.A.units + 64 < cLine) : OpR X (compareOp .In) (rInA X.K false) := by
  intro pins s σ H x y v u Q I rx ry h
  rcases h with h | ⟨d, xs, hd, hy, pd, pxs, hz, q⟩
  · exact op_in_sign pins s σ H x y v u Q I rx ry h
  · obtain ⟨as, r1⟩ := Dp.reads I d x v hd rx
    have hm : X.A.units + 1 + min (PyData.depthAll xs) d.depth < cLine := by have := Nat.min_le_right (PyData.depthAll xs) d.depth; omega
    rcases hy with hy | hy
    · obtain ⟨bs, r2⟩ := Dp.reads I _ y u hy ry
      exact SeqAt.in_list_data r2 r1 pxs pd hm ⟨.bl _, H, I, rfl, q⟩
    · obtain ⟨bs, r2⟩ := Dp.reads I _ y u hy ry
      exact SeqAt.in_tuple_data r2 r1 pxs pd hm ⟨.bl _, H, I, rfl, q⟩
theorem op_notInA (hu : X.A.units + 64 < cLine) : OpR X (compareOp .NotIn) (rInA X.K true) := by
  intro pins s σ H x y v u Q I rx ry h
  rcases h with h | ⟨d, xs, hd, hy, pd, pxs, hz, q⟩
  · exact op_notIn_sign pins s σ H x y v u Q I rx ry h
  · obtain ⟨as, r1⟩ := Dp.reads I d x v hd rx
    have hm : X.A.units + 1 + min (PyData.depthAll xs) d.depth < cLine := by have := Nat.min_le_right (PyData.depthAll xs) d.depth; omega
    rcases hy with hy | hy
    · obtain ⟨bs, r2⟩ := Dp.reads I _ y u hy ry
      exact SeqAt.notIn_list_data r2 r1 pxs pd hm ⟨.bl _, H, I, rfl, q⟩
    · obtain ⟨bs, r2⟩ := Dp.reads I _ y u hy ry
      exact SeqAt.notIn_tuple_data r2 r1 pxs pd hm ⟨.bl _, H, I, rfl, q⟩
theorem any_eqb {n m : Nat} {d : D} (hd : shp n d) : ∀ (xs : List D), (∀ x ∈ xs, shp m x) → (xs.any fun y => PyData.eqv y d) = xs.any (eqb d)
  | [], _ => rfl
  | x :: xs, h => by
    rw [List.any_cons, List.any_cons, eqv_eqb (h x List.mem_cons_self) hd, eqb_comm, any_eqb hd xs fun y hy => h y (List.mem_cons_of_mem _ hy)]
theorem plainAll_shp {n : Nat} : ∀ (xs : List D), (∀ x ∈ xs, shp n x) → PyData.plainAll xs = true
  | [], _ => rfl
  | x :: xs, h => by
    rw [PyData.plainAll, shp_plain n x (h x List.mem_cons_self), plainAll_shp xs fun y hy => h y (List.mem_cons_of_mem _ hy)]; rfl
theorem pr_in (neg : Bool) : PureR (rInA K neg) (gIn neg) := by
  intro Z S H x y a b Qd Q w ra rb hf k
  have seq : ∀ xs, (b = .list xs ∨ b = .tuple xs) → shp 19 a ∧ (∀ x ∈ xs, shp 19 x) ∧ Qd (.bool (if neg then !xs.any (eqb a) else xs.any (eqb a))) → rInA K neg x y H Q := fun xs hb h => by
    obtain ⟨h1, h2, h3⟩ := h
    have p := plainAll_shp xs h2
    refine .inr ⟨a, xs, ra.dp (shp_plain _ _ h1), ?_, shp_plain _ _ h1, p, Nat.le_trans (shp_depth _ _ h1) (by decide), k _ _ S H (.refl w) (.bl _) (by rw [any_eqb h1 xs h2]; exact h3)⟩
    rcases hb with rfl | rfl
    · exact .inl (rb.dp (by simp only [PyData.plain]; exact p))
    · exact .inr (rb.dp (by simp only [PyData.plain]; exact p))
  cases b <;> first | (exfalso; cases a <;> exact hf.elim) | skip
  · cases a <;> first | exact hf.elim | skip
    obtain ⟨c, rfl, q⟩ := hf
    cases ra.str
    cases rb.str
    exact .inl ⟨c, _, rfl, rfl, k _ _ S H (.refl w) (.bl _) q⟩
  · rename_i xs
    exact seq xs (.inl rfl) (by cases a <;> exact hf)
  · rename_i xs
    exact seq xs (.inr rfl) (by cases a <;> exact hf)
end
end DL
/-! ## DL4 -/
set_option Elab.async false
set_option linter.all false
set_option maxRecDepth 100000
set_option maxHeartbeats 4000000
/-! DL4: walks, comprehensions, statements, defs. -/
namespace DL
open PySem L2 RZ RT

/-! ### what is walked -/
abbrev PTI := Env → (List D → Prop) → Prop
/-- the walk gives the data ds, as long as S stands -/
def ItOk (Z : Fp) (J : It) (ds : List D) (S : Fp) (H : Hp) : Prop := ∀ S1 H1, Ws S H S1 H1 → Wd Z S1 H1 →
  (∀ i d, ds[i]? = some d → J.go i H1 ∧ ∀ x H2, J.yld i H1 x H2 → ∃ S2, Wx Z S1 H1 S2 H2 ∧ Rep S2 H2 x d) ∧ J.stop ds.length H1
def PureI (K : PySem.W.Frag) (wi : TI) (f : PTI) : Prop := ∀ (Z O S : Fp) (σ : St) (H : Hp) (env : Env) (Qd : List D → Prop) (R : It → Hp → Prop), Wd Z S H → RepEnv K Z O S H σ env → f env Qd →
  (∀ J ds S' H', Wx Z S H S' H' → ItOk Z J ds S' H' → Qd ds → R J H') → wi σ H R
structure DI (X : Cx) (tg iter : Expr) (wi : TI) (f : PTI) : Prop where
  pi : PI X tg iter wi
  pu : PureI X.K wi f
/-- a list or a tuple -/
def iAny (K : PySem.W.Frag) (tl : TE) : TI := fun σ H R => tl σ H fun x H1 => ∃ a, x = .ref a ∧ (((∃ xs, SqL K H1 a xs) ∧ R (Itl K a) H1) ∨ ((∃ xs, SqT K H1 a xs) ∧ R (Itt K a) H1))
theorem pi_any {X : Cx} {tg l : Expr} {tl : TE} (hl : PE X l tl) : PI X tg l (iAny X.K tl) := by
  refine ⟨fun pins s σ H R I h => ?_⟩
  refine thn (hl.run pins s σ H _ I h) fun v s1 ⟨x, H1, I1, r1, q1⟩ => ?_
  obtain ⟨a, e, q1⟩ := q1
  subst e
  cases r1
  rcases q1 with ⟨⟨xs, hq⟩, q⟩ | ⟨⟨xs, hq⟩, q⟩
  · obtain ⟨its, rv, p, hz⟩ := I1.list hq
    refine wpAny_pyIter_list p.isList ?_
    refine ⟨s1.heap.objs.size, [s1.heap.objs.size], _, _, H1, rfl, I1.kept (t' := s1.toks) fun b o e => Heap.get?_push_of_some _ e, turn_list a _, ⟨_, Heap.get?_push_size _ rfl, rfl, rfl⟩, fun b hb => ?_, q⟩
    have e : b = s1.heap.objs.size := by simpa using hb
    subst e
    exact I1.fpOk (Nat.le_refl _) (I1.hok.fresh (Nat.le_refl _))
  · obtain ⟨its, rv, p, hz⟩ := I1.tuple hq
    refine wpAny_pyIter_tuple (show s1.heap.IsTuple a its.toArray from p) ?_
    refine ⟨s1.heap.objs.size, [s1.heap.objs.size], _, _, H1, rfl, I1.kept (t' := s1.toks) fun b o e => Heap.get?_push_of_some _ e, turn_tuple a _, ⟨_, Heap.get?_push_size _ rfl, rfl, rfl⟩, fun b hb => ?_, q⟩
    have e : b = s1.heap.objs.size := by simpa using hb
    subst e
    exact I1.fpOk (Nat.le_refl _) (I1.hok.fresh (Nat.le_refl _))
/-- the items of a list or a tuple -/
def gItems : D → (List D → Prop) → Prop
  | .list xs, Q => Q xs
  | .tuple xs, Q => Q xs
  | _, _ => False
def pIter (f : PTE) : PTI := fun env Q => f env fun d => gItems d Q
section
variable {K : PySem.W.Frag} {Z S : Fp} {H : Hp} {a : Addr} {vs : List V} {ds : List D}
theorem ItOk.list (s : S a) (h : H a = some (.lst vs)) (r : Reps S H vs ds) : ItOk Z (Itl K a) ds S H := by
  intro S1 H1 x w1
  have h1 := x.keep a _ s h
  have r1 := r.ws x
  refine ⟨fun i d e => ?_, ⟨vs, SqL.of h1, by rw [r.length]; exact Nat.le_refl _⟩⟩
  obtain ⟨v, hv, rv⟩ := r1.get e
  refine ⟨⟨vs, v, SqL.of h1, hv⟩, fun y H2 q => ?_⟩
  obtain ⟨rfl, q⟩ := q
  have := q vs (SqL.of h1)
  rw [hv] at this
  cases this
  exact ⟨S1, .refl w1, rv⟩
theorem ItOk.tup (s : S a) (h : H a = some (.tup vs)) (r : Reps S H vs ds) : ItOk Z (Itt K a) ds S H := by
  intro S1 H1 x w1
  have h1 := x.keep a _ s h
  have r1 := r.ws x
  refine ⟨fun i d e => ?_, ⟨vs, SqT.of h1, by rw [r.length]; exact Nat.le_refl _⟩⟩
  obtain ⟨v, hv, rv⟩ := r1.get e
  refine ⟨⟨vs, v, SqT.of h1, hv⟩, fun y H2 q => ?_⟩
  obtain ⟨rfl, q⟩ := q
  have := q vs (SqT.of h1)
  rw [hv] at this
  cases this
  exact ⟨S1, .refl w1, rv⟩
theorem ItOk.revL (s : S a) (h : H a = some (.lst vs)) (r : Reps S H vs ds) : ItOk Z (Itv K a vs.length) ds.reverse S H := by
  intro S1 H1 x w1
  have h1 := x.keep a _ s h
  have r1 := r.ws x
  have hl := r.length
  refine ⟨fun i d e => ?_, by show vs.length ≤ _; simp [hl]⟩
  have hi : i < ds.length := by
    have := (List.getElem?_eq_some_iff.mp e).1
    simpa using this
  rw [List.getElem?_reverse hi] at e
  obtain ⟨v, hv, rv⟩ := r1.get e
  rw [← hl] at hv
  refine ⟨⟨by omega, vs, v, SqL.of h1, hv⟩, fun y H2 q => ?_⟩
  obtain ⟨rfl, q⟩ := q
  have := q vs (SqL.of h1)
  rw [hv] at this
  cases this
  exact ⟨S1, .refl w1, rv⟩
theorem ItOk.revT (s : S a) (h : H a = some (.tup vs)) (r : Reps S H vs ds) : ItOk Z (ItvT K a vs.length) ds.reverse S H := by
  intro S1 H1 x w1
  have h1 := x.keep a _ s h
  have r1 := r.ws x
  have hl := r.length
  refine ⟨fun i d e => ?_, by show vs.length ≤ _; simp [hl]⟩
  have hi : i < ds.length := by
    have := (List.getElem?_eq_some_iff.mp e).1
    simpa using this
  rw [List.getElem?_reverse hi] at e
  obtain ⟨v, hv, rv⟩ := r1.get e
  rw [← hl] at hv
  refine ⟨⟨by omega, vs, v, SqT.of h1, hv⟩, fun y H2 q => ?_⟩
  obtain ⟨rfl, q⟩ := q
  have := q vs (SqT.of h1)
  rw [hv] at this
  cases this
  exact ⟨S1, .refl w1, rv⟩
end
section
variable {X : Cx} {tg e e2 : Expr} {te te2 : TE} {f f2 : PTE} {K : PySem.W.Frag} {pos p tpos : Pos}
theorem di_any (h : DE X e te f) : DI X tg e (iAny X.K te) (pIter f) := by
  refine ⟨pi_any h.pe, fun Z O S σ H env Qd R w rr hf k => ?_⟩
  refine h.pu Z O S σ H env _ _ w rr hf fun v d S1 H1 x1 r1 q1 => ?_
  cases r1 <;> first | exact q1.elim | skip
  · rename_i a vs ds s h r
    exact ⟨a, rfl, .inl ⟨⟨vs, SqL.of h⟩, k _ ds S1 H1 x1 (.list s h r) q1⟩⟩
  · rename_i a vs ds s h r
    exact ⟨a, rfl, .inr ⟨⟨vs, SqT.of h⟩, k _ ds S1 H1 x1 (.tup s h r) q1⟩⟩
def pRev (f : PTE) : PTI := fun env Q => f env fun d => gItems d fun ds => Q ds.reverse
theorem di_rev (hg : Gl X "reversed") (hm : X.mg "reversed" = none) (h : DE X e te f) (hs : starEach [e] X.env = (false, eval e X.env) :: starEach [] X.env := by rfl) : DI X tg (.Call (.Name "reversed" p) [e] [] pos) (iRevA X.K te) (pRev f) := by
  refine ⟨pi_revA hg hm h.pe hs, fun Z O S σ H env Qd R w rr hf k => ?_⟩
  refine h.pu Z O S σ H env _ _ w rr hf fun v d S1 H1 x1 r1 q1 => ?_
  cases r1 <;> first | exact q1.elim | skip
  · rename_i a vs ds s h r
    exact ⟨a, vs, rfl, .inl ⟨SqL.of h, k _ _ S1 H1 x1 (.revL s h r) q1⟩⟩
  · rename_i a vs ds s h r
    exact ⟨a, vs, rfl, .inr ⟨SqT.of h, k _ _ S1 H1 x1 (.revT s h r) q1⟩⟩
/-- range -/
def rngD (lo : Int) (n : Nat) : List D := (List.range n).map fun (i : Nat) => PyData.int (lo + (i : Int))
theorem rngD_get {lo : Int} {n i : Nat} {d : D} (h : (rngD lo n)[i]? = some d) : i < n ∧ d = .int (lo + (i : Int)) := by
  unfold rngD at h
  rw [List.getElem?_map] at h
  cases q : (List.range n)[i]? with
  | none => rw [q] at h; cases h
  | some j =>
    rw [q] at h
    obtain ⟨h1, h2⟩ := List.getElem?_eq_some_iff.mp q
    rw [List.getElem_range] at h2
    subst h2
    rw [List.length_range] at h1
    exact ⟨h1, (Option.some.inj h).symm⟩
@[simp] theorem rngD_length (lo : Int) (n : Nat) : (rngD lo n).length = n := by simp [rngD]
theorem ItOk.rng {Z S : Fp} {H : Hp} (lo : Int) (n : Nat) : ItOk Z (Itr lo n) (rngD lo n) S H := by
  intro S1 H1 x w1
  refine ⟨fun i d e => ?_, by show n ≤ _; simp⟩
  obtain ⟨h1, rfl⟩ := rngD_get e
  refine ⟨h1, fun y H2 q => ?_⟩
  obtain ⟨rfl, rfl⟩ := q
  exact ⟨S1, .refl w1, .int _⟩
def pRange1 (f : PTE) : PTI := fun env Q => f env fun d => match d with
  | .int n => (-(2 ^ 62) ≤ n ∧ n < 2 ^ 62) ∧ Q (rngD 0 n.toNat)
  | _ => False
def pRange2 (f g : PTE) : PTI := fun env Q => f env fun d => g env fun e => match d, e with
  | .int i, .int j => (-(2 ^ 62) ≤ i ∧ i < 2 ^ 62 ∧ -(2 ^ 62) ≤ j ∧ j < 2 ^ 62) ∧ Q (rngD i (j - i).toNat)
  | _, _ => False
theorem di_range1 (hg : Gl X "range") (hm : X.mg "range" = none) (h : DE X e te f) (hs : starEach [e] X.env = [(false, eval e X.env)] := by rfl) : DI X tg (.Call (.Name "range" p) [e] [] pos) (iRng1 (tCons te tNil)) (pRange1 f) := by
  refine ⟨pi_range1 hg hm (pa_cons h.pe pa_nil hs) hs, fun Z O S σ H env Qd R w rr hf k => ?_⟩
  refine h.pu Z O S σ H env _ _ w rr hf fun v d S1 H1 x1 r1 q1 => ?_
  cases r1 <;> first | exact q1.elim | skip
  exact ⟨_, rfl, q1.1.1, q1.1.2, k _ _ S1 H1 x1 (.rng _ _) q1.2⟩
theorem di_range2 (hg : Gl X "range") (hm : X.mg "range" = none) (h : DE X e te f) (h2 : DE X e2 te2 f2) (hs : starEach [e, e2] X.env = [(false, eval e X.env), (false, eval e2 X.env)] := by rfl) (hs2 : starEach [e2] X.env = [(false, eval e2 X.env)] := by rfl) :
    DI X tg (.Call (.Name "range" p) [e, e2] [] pos) (iRng2 (tCons te (tCons te2 tNil))) (pRange2 f f2) := by
  refine ⟨pi_range2 hg hm (pa_cons h.pe (pa_cons h2.pe pa_nil hs2) (by rw [hs, hs2])) hs hs2, fun Z O S σ H env Qd R w rr hf k => ?_⟩
  refine h.pu Z O S σ H env _ _ w rr hf fun v d S1 H1 x1 r1 q1 => ?_
  refine h2.pu Z O S1 σ H1 env _ _ x1.wd (rr.wx w x1) q1 fun u d2 S2 H2 x2 r2 q2 => ?_
  cases r1 <;> first | exact q2.elim | skip
  cases r2 <;> first | exact q2.elim | skip
  exact ⟨_, _, rfl, q2.1, k _ _ S2 H2 (x1.trans x2) (.rng _ _) q2.2⟩
/-- zip -/
def pairs (xs ys : List D) : List D := (xs.zip ys).map fun p => .tuple [p.1, p.2]
theorem pairs_get {xs ys : List D} {i : Nat} {d : D} (h : (pairs xs ys)[i]? = some d) : ∃ x y, xs[i]? = some x ∧ ys[i]? = some y ∧ d = .tuple [x, y] := by
  unfold pairs at h
  rw [List.getElem?_map] at h
  cases q : (xs.zip ys)[i]? with
  | none => rw [q] at h; cases h
  | some pr =>
    rw [q] at h
    rw [List.getElem?_zip_eq_some] at q
    exact ⟨pr.1, pr.2, q.1, q.2, (Option.some.inj h).symm⟩
theorem pairs_length (xs ys : List D) : (pairs xs ys).length = min xs.length ys.length := by simp [pairs]
def pZip (f g : PTE) : PTI := fun env Q => f env fun d => g env fun e => match d, e with
  | .list xs, .list ys => Q (pairs xs ys)
  | .tuple xs, .tuple ys => Q (pairs xs ys)
  | _, _ => False
theorem ItOk.zipL {Z S : Fp} {H : Hp} {a b : Addr} {vs us : List V} {ds es : List D} (sa : S a) (ha : H a = some (.lst vs)) (ra : Reps S H vs ds) (sb : S b) (hb : H b = some (.lst us)) (rb : Reps S H us es) : ItOk Z (Itz K a b) (pairs ds es) S H := by
  intro S1 H1 x w1
  have h1 := x.keep a _ sa ha
  have h2 := x.keep b _ sb hb
  have r1 := ra.ws x
  have r2 := rb.ws x
  refine ⟨fun i d e => ?_, ⟨vs, us, SqL.of h1, SqL.of h2, by rw [pairs_length, ra.length, rb.length]; omega⟩⟩
  obtain ⟨p, q, e1, e2, rfl⟩ := pairs_get e
  obtain ⟨v, hv, rv⟩ := r1.get e1
  obtain ⟨u, hu, ru⟩ := r2.get e2
  refine ⟨⟨vs, us, v, u, SqL.of h1, SqL.of h2, hv, hu⟩, fun y H2 q => ?_⟩
  obtain ⟨T, v', u', rfl, hT, rfl, qa, qb⟩ := q
  have ea := qa vs (SqL.of h1)
  have eb := qb us (SqL.of h2)
  rw [hv] at ea; cases ea
  rw [hu] at eb; cases eb
  exact ⟨_, Wx.layS w1 hT, Wx.newTup w1 hT (.cons rv (.cons ru .nil))⟩
theorem ItOk.zipT {Z S : Fp} {H : Hp} {a b : Addr} {vs us : List V} {ds es : List D} (sa : S a) (ha : H a = some (.tup vs)) (ra : Reps S H vs ds) (sb : S b) (hb : H b = some (.tup us)) (rb : Reps S H us es) : ItOk Z (ItzT K a b) (pairs ds es) S H := by
  intro S1 H1 x w1
  have h1 := x.keep a _ sa ha
  have h2 := x.keep b _ sb hb
  have r1 := ra.ws x
  have r2 := rb.ws x
  refine ⟨fun i d e => ?_, ⟨vs, us, SqT.of h1, SqT.of h2, by rw [pairs_length, ra.length, rb.length]; omega⟩⟩
  obtain ⟨p, q, e1, e2, rfl⟩ := pairs_get e
  obtain ⟨v, hv, rv⟩ := r1.get e1
  obtain ⟨u, hu, ru⟩ := r2.get e2
  refine ⟨⟨vs, us, v, u, SqT.of h1, SqT.of h2, hv, hu⟩, fun y H2 q => ?_⟩
  obtain ⟨T, v', u', rfl, hT, rfl, qa, qb⟩ := q
  have ea := qa vs (SqT.of h1)
  have eb := qb us (SqT.of h2)
  rw [hv] at ea; cases ea
  rw [hu] at eb; cases eb
  exact ⟨_, Wx.layS w1 hT, Wx.newTup w1 hT (.cons rv (.cons ru .nil))⟩
theorem di_zip {elts : List Expr} {kk : Nat} (hg : Gl X "zip") (hm : X.mg "zip" = none) (h : DE X e te f) (h2 : DE X e2 te2 f2) (hs : starEach [e, e2] X.env = (false, eval e X.env) :: starEach [e2] X.env := by rfl) (hs2 : starEach [e2] X.env = (false, eval e2 X.env) :: starEach [] X.env := by rfl)
    (hpl : (backTo pos (starEach [e2] X.env)).any (·.1) = false := by rfl) : DI X (.Tuple elts kk tpos) (.Call (.Name "zip" p) [e, e2] [] pos) (iZipA X.K (tCons te (tCons te2 tNil))) (pZip f f2) := by
  refine ⟨pi_zipA hg hm (pa_cons h.pe (pa_cons h2.pe pa_nil hs2) hs) hs hpl, fun Z O S σ H env Qd R w rr hf k => ?_⟩
  refine h.pu Z O S σ H env _ _ w rr hf fun v d S1 H1 x1 r1 q1 => ?_
  refine h2.pu Z O S1 σ H1 env _ _ x1.wd (rr.wx w x1) q1 fun u d2 S2 H2 x2 r2 q2 => ?_
  have r1' := r1.wx x2
  cases r1' <;> first | exact q2.elim | skip
  · rename_i a vs ds s h r
    cases r2 <;> first | exact q2.elim | skip
    rename_i b us es s2 h2 r2
    exact ⟨a, b, vs, us, rfl, .inl ⟨SqL.of h, SqL.of h2, k _ _ S2 H2 (x1.trans x2) (.zipL s h r s2 h2 r2) q2⟩⟩
  · rename_i a vs ds s h r
    cases r2 <;> first | exact q2.elim | skip
    rename_i b us es s2 h2 r2
    exact ⟨a, b, vs, us, rfl, .inr ⟨SqT.of h, SqT.of h2, k _ _ S2 H2 (x1.trans x2) (.zipT s h r s2 h2 r2) q2⟩⟩
end

/-! ### targets -/
abbrev PTG := D → Env → (Env → Prop) → Prop
abbrev PTGs := List D → Env → (Env → Prop) → Prop
def Only (σ σ' : St) (gs : List Nat) : Prop := σ'.length = σ.length ∧ ∀ j, j ∉ gs → σ'[j]? = σ[j]?
def PureG (K : PySem.W.Frag) (g : TG) (f : PTG) (gs : List Nat) : Prop := ∀ (Z O S : Fp) (σ : St) (H : Hp) (env : Env) (v : V) (d : D) (Qd : Env → Prop) (Q : St → Hp → Prop), RepEnv K Z O S H σ env → Rep S H v d → f d env Qd →
  (∀ σ' env', Only σ σ' gs → RepEnv K Z O S H σ' env' → Qd env' → Q σ' H) → g v σ H Q
def PureGs (K : PySem.W.Frag) (g : TGs) (f : PTGs) (gs : List Nat) : Prop := ∀ (Z O S : Fp) (σ : St) (H : Hp) (env : Env) (v : List V) (d : List D) (Qd : Env → Prop) (Q : St → Hp → Prop), RepEnv K Z O S H σ env → Reps S H v d → f d env Qd →
  (∀ σ' env', Only σ σ' gs → RepEnv K Z O S H σ' env' → Qd env' → Q σ' H) → g v σ H Q
structure DG (X : Cx) (tg : Expr) (g : TG) (f : PTG) (gs : List Nat) : Prop where
  pg : PG X tg g
  pu : PureG X.K g f gs
structure DGs (X : Cx) (ts : List Expr) (g : TGs) (f : PTGs) (gs : List Nat) : Prop where
  pg : PGs X ts g
  pu : PureGs X.K g f gs
def pgName (i : Nat) : PTG := fun d env Q => Q (env.set i (some (.v d)))
def pgNil : PTGs := fun ds env Q => ds = [] ∧ Q env
def pgCons (f : PTG) (g : PTGs) : PTGs := fun ds env Q => match ds with
  | d :: r => f d env fun env' => g r env' Q
  | [] => False
def pgTup (n : Nat) (g : PTGs) : PTG := fun d env Q => match d with
  | .tuple ds => ds.length = n ∧ g ds env Q
  | _ => False
section
variable {X : Cx} {pos : Pos} {e : Expr} {es : List Expr} {g : TG} {h : TGs} {f : PTG} {fs : PTGs} {gs gs' : List Nat}
theorem dg_name (i : Nat) {x : Str} (hN : X.N.Nodup) (hi : X.N[i]? = some x := by rfl) (hx : Loc X.env.scope x := by first | exact Or.inl rfl | exact Or.inr rfl) (hf : X.fn x = true ∨ X.env.scope.names.lookup x = some .local := by first | exact .inl rfl | exact .inr rfl | assumption) : DG X (.Name x pos) (gName i) (pgName i) [i] := by
  refine ⟨pg_name hN hi hx hf, fun Z O S σ H env v d Qd Q rr r hf k => ?_⟩
  exact k _ _ ⟨by simp, fun j hj => by rw [List.getElem?_set_ne (by simp at hj; omega)]⟩ (rr.set i (show RepSV X.K Z O S H v (.v d) from r) fun o => o.elim) hf
theorem dgs_nil : DGs X [] gNil pgNil [] := by
  refine ⟨pgs_nil, fun Z O S σ H env v d Qd Q rr r hf k => ?_⟩
  obtain ⟨rfl, hf⟩ := hf
  cases r
  exact ⟨rfl, k _ _ ⟨rfl, fun _ _ => rfl⟩ rr hf⟩
theorem dgs_cons (h1 : DG X e g f gs) (h2 : DGs X es h fs gs') (hst : List.map (fun x => x.snd) (assignEach (e :: es) X.env) = assign e X.env :: List.map (fun x => x.snd) (assignEach es X.env) := by rfl) : DGs X (e :: es) (gCons g h) (pgCons f fs) (gs ++ gs') := by
  refine ⟨pgs_cons h1.pg h2.pg hst, fun Z O S σ H env v d Qd Q rr r hf k => ?_⟩
  cases r with
  | nil => exact hf.elim
  | cons r1 r2 =>
    refine ⟨_, _, rfl, h1.pu Z O S σ H env _ _ _ _ rr r1 hf fun σ1 env1 o1 rr1 q1 => ?_⟩
    refine h2.pu Z O S σ1 H env1 _ _ _ _ rr1 r2 q1 fun σ2 env2 o2 rr2 q2 => ?_
    exact k σ2 env2 ⟨o2.1.trans o1.1, fun j hj => (o2.2 j (fun z => hj (List.mem_append_right _ z))).trans (o1.2 j fun z => hj (List.mem_append_left _ z))⟩ rr2 q2
theorem dg_tup {k n : Nat} (hc : X.calm = true) (h1 : DGs X es h fs gs) (hn : (assignEach es X.env).length = n := by rfl) (hst : (assignEach es X.env).findIdx? (·.1) = none := by rfl) : DG X (.Tuple es k pos) (gTup X.K n h) (pgTup n fs) gs := by
  refine ⟨pg_tup hc h1.pg hn hst, fun Z O S σ H env v d Qd Q rr r hf k => ?_⟩
  cases r <;> first | exact hf.elim | skip
  rename_i a vs ds s hp r
  exact ⟨a, vs, rfl, SqT.of hp, by rw [r.length]; exact hf.1, h1.pu Z O S σ H env _ _ _ _ rr r hf.2 k⟩
end

/-! ### comprehensions -/
def wipeE (env : Env) : List Nat → Env
  | [] => env
  | v :: vs => (wipeE env vs).set v none
theorem RepEnv.wipe {K : PySem.W.Frag} {Z O S : Fp} {H : Hp} {σ : St} {env : Env} (r : RepEnv K Z O S H σ env) : ∀ vs : List Nat, RepEnv K Z O S H (L2.wipe σ vs) (wipeE env vs)
  | [] => r
  | v :: vs => (RepEnv.wipe r vs).drop v none
theorem wipe_get (σ : St) (i : Nat) : ∀ vs : List Nat, i ∈ vs → i < σ.length → (wipe σ vs)[i]? = some none
  | [], h, _ => by cases h
  | v :: vs, h, hi => by
    unfold wipe
    by_cases e : v = i
    · subst e
      rw [List.getElem?_set_self (by rw [wipe_length]; exact hi)]
    · rw [List.getElem?_set_ne e]
      exact wipe_get σ i vs (by rcases List.mem_cons.mp h with h | h; exact absurd h.symm e; exact h) hi
theorem wipe_only {σ σ' : St} {gs vs : List Nat} (h : Only σ σ' gs) (hg : ∀ g ∈ gs, g ∈ vs) : wipe σ' vs = wipe σ vs := by
  apply List.ext_getElem?
  intro i
  by_cases hi : i ∈ vs
  · by_cases hl : i < σ.length
    · rw [wipe_get σ i vs hi hl, wipe_get σ' i vs hi (by rw [h.1]; exact hl)]
    · rw [List.getElem?_eq_none_iff.mpr (show (wipe σ' vs).length ≤ i by rw [wipe_length, h.1]; omega), List.getElem?_eq_none_iff.mpr (show (wipe σ vs).length ≤ i by rw [wipe_length]; omega)]
  · rw [wipe_out hi, wipe_out hi]
    exact h.2 i fun z => hi (hg i z)
theorem wipe_wipe (σ : St) (vs : List Nat) : wipe (wipe σ vs) vs = wipe σ vs := by
  apply List.ext_getElem?
  intro i
  by_cases hi : i ∈ vs
  · by_cases hl : i < σ.length
    · rw [wipe_get σ i vs hi hl, wipe_get _ i vs hi (by rw [wipe_length]; exact hl)]
    · rw [List.getElem?_eq_none_iff.mpr (by rw [wipe_length, wipe_length]; omega), List.getElem?_eq_none_iff.mpr (by rw [wipe_length]; omega)]
  · rw [wipe_out hi]
structure DTs (X : Cx) (es : List Expr) (t : TT) (f : PTT) : Prop where
  pe : PTs X es t
  pu : PureT X.K t f
def pYes : PTT := fun _ Q => Q true
theorem dts_nil {X : Cx} : DTs X [] tYes pYes := ⟨pts_nil, fun Z O S σ H env Qd Q w rr hf k => k true S H (.refl w) hf⟩
theorem dts_one {X : Cx} {c : Expr} {t : TT} {f : PTT} (h : DT X c t f) : DTs X [c] t f := ⟨pts_one h.pe, h.pu⟩
def pLc (fi : PTI) (tgt : PTG) (cond : PTT) (elt : PTE) (vs : List Nat) : PTF := fun env Q => fi env fun ds => ds.length ≤ 16777216 ∧ ∃ I : Nat → List D → Prop, I 0 [] ∧
  (∀ k acc d, I k acc → ds[k]? = some d → tgt d (wipeE env vs) fun env2 => cond env2 fun b => if b = true then elt env2 fun y => I (k + 1) (acc ++ [y]) else I (k + 1) acc) ∧ (∀ acc, I ds.length acc → Q (.own acc))
theorem PureF.lc {K : PySem.W.Frag} {wi : TI} {g : TG} {tt : TT} {te : TE} {fi : PTI} {tgt : PTG} {cond : PTT} {elt : PTE} {vs gs : List Nat} (hi : PureI K wi fi) (hg : PureG K g tgt gs) (hgs : ∀ i ∈ gs, i ∈ vs) (ht : PureT K tt cond) (he : PureE K te elt) : PureF K (tLc wi g tt te vs) (pLc fi tgt cond elt vs) := by
  intro Z O S σ H env Qd Q w rr hf k
  refine hi Z O S σ H env _ _ w rr hf fun J ds S1 H1 x1 ok q1 => ?_
  obtain ⟨hlen, I, i0, step, fin⟩ := q1
  intro D hD
  have nzD : ¬ Z D := x1.wd.nz hD
  have nsD : ¬ S1 D := x1.wd.ns hD
  have rr1 := rr.wx w x1
  refine ⟨fun i m Hc => m = ds.length - i ∧ i ≤ ds.length ∧ ∃ S' acc us, Wx Z S1 H1 S' Hc ∧ Hc D = some (.lst us) ∧ Reps S' Hc us acc ∧ ¬ S' D ∧ I i acc ∧ us.length ≤ i, ⟨ds.length, rfl, Nat.zero_le _, S1, [], [], Wx.lay x1.wd hD, upd_same, .nil, nsD, i0, Nat.zero_le _⟩, ?_⟩
  rintro i m Hc ⟨rfl, hle, S', acc, us, xc, hDc, rc, nS', Ii, hu⟩
  have okc := ok S' Hc xc.ws xc.wd
  by_cases hlt : i < ds.length
  · right
    have hd : ds[i]? = some ds[i] := by simp [hlt]
    obtain ⟨go, yl⟩ := okc.1 i _ hd
    refine ⟨go, fun Hn => ∃ S' acc us, Wx Z S1 H1 S' Hn ∧ Hn D = some (.lst us) ∧ Reps S' Hn us acc ∧ ¬ S' D ∧ I (i + 1) acc ∧ us.length ≤ i + 1, fun H' h => ⟨ds.length - (i + 1), by omega, rfl, hlt, h⟩, fun x H2 y => ?_⟩
    obtain ⟨S2, x2, rx⟩ := yl x H2 y
    have rrw := ((rr1.wx x1.wd xc).wx xc.wd x2).wipe vs
    refine hg Z O S2 _ H2 _ x _ _ _ rrw rx (step i acc _ Ii hd) fun σ2 env2 o2 rr2 q2 => ⟨?_, ?_⟩
    · rw [wipe_only o2 hgs, wipe_wipe]
    refine ht Z O S2 σ2 H2 env2 _ _ x2.wd rr2 q2 fun b S3 H3 x3 q3 => ?_
    have D2 := x2.keep D _ nzD hDc
    have D3 := x3.keep D _ nzD D2
    have n2 : ¬ S2 D := fun z => by rcases x2.new D z with z | z; exact nS' z; rw [hDc] at z; cases z
    have n3 : ¬ S3 D := fun z => by rcases x3.new D z with z | z; exact n2 z; rw [D2] at z; cases z
    cases b with
    | true =>
      rw [if_pos rfl] at q3 ⊢
      refine he Z O S3 σ2 H3 env2 _ _ x3.wd (rr2.wx x2.wd x3) q3 fun v d S4 H4 x4 r4 q4 => ?_
      have D4 := x4.keep D _ nzD D3
      have n4 : ¬ S4 D := fun z => by rcases x4.new D z with z | z; exact n3 z; rw [D3] at z; cases z
      have x14 := ((xc.trans x2).trans x3).trans x4
      have hup : ∀ a o, S4 a → H4 a = some o → upd H4 D (.lst (us ++ [v])) a = some o := fun a o s h => by
        rw [upd_ne (show a ≠ D by rintro rfl; exact n4 s)]; exact h
      refine ⟨us, D4, ?_, S4, acc ++ [d], us ++ [v], ⟨fun a o nz h => ?_, x14.sub, x14.new, ⟨fun a s => ?_, x14.wd.zs, fun a z => ?_⟩⟩, upd_same, ?_, n4, q4, ?_⟩
      · rw [sizeLine_eq]; omega
      · rw [upd_ne (show a ≠ D by rintro rfl; rw [hD] at h; cases h)]
        exact x14.keep a o nz h
      · rw [upd_ne (show a ≠ D by rintro rfl; exact n4 s)]
        exact x14.wd.sd a s
      · rw [upd_ne (show a ≠ D by rintro rfl; exact nzD z)]
        exact x14.wd.zd a z
      · exact ((((rc.wx x2).wx x3).wx x4).append (.cons r4 .nil)).mono (fun _ s => s) hup
      · simp; omega
    | false =>
      rw [if_neg Bool.false_ne_true] at q3 ⊢
      exact ⟨S3, acc, us, (xc.trans x2).trans x3, D3, (rc.wx x2).wx x3, n3, q3, by omega⟩
  · have e : i = ds.length := by omega
    subst e
    left
    refine ⟨okc.2, k _ (.own acc) S' Hc (x1.trans xc) ⟨D, us, rfl, x1.fresh nzD hD, hDc, rc, nS', nzD⟩ (fin acc Ii)⟩
section
variable {X : Cx} {elt tg iter : Expr} {ifs : List Expr} {scope : Scope} {own : List (Str × Nat)} {pos : Pos} {wi : TI} {g : TG} {tt : TT} {te : TE} {fi : PTI} {tgt : PTG} {cond : PTT} {fe : PTE} {gs : List Nat}
theorem df_lc (own : List (Str × Nat)) (hc : X.calm = true) (hN : X.N.Nodup) (hi : DI X tg iter wi fi) (ok : BlkOk X.N X.env.scope scope own) (hg0 : DG (X.blk X.s_0 (fun _ => none) scope (compEnvC scope [] 0 X.env) []) tg g tgt gs) (hgs : ∀ i ∈ gs, i ∈ own.map (·.2))
    (hg : ∀ (s : Shared) (H : Hp) (C : Addr) (cl : List (Str × Addr)) (fp : List Addr), DG (X.blk s H scope (compEnvC scope cl C X.env) fp) tg g tgt gs)
    (ht0 : DTs (X.blk X.s_0 (fun _ => none) scope (compEnvC scope [] 0 X.env) []) ifs tt cond) (he0 : DE (X.blk X.s_0 (fun _ => none) scope (compEnvC scope [] 0 X.env) []) elt te fe)
    (ht : ∀ (s : Shared) (H : Hp) (C : Addr) (cl : List (Str × Addr)) (fp : List Addr), DTs (X.blk s H scope (compEnvC scope cl C X.env) fp) ifs tt cond)
    (he : ∀ (s : Shared) (H : Hp) (C : Addr) (cl : List (Str × Addr)) (fp : List Addr), DE (X.blk s H scope (compEnvC scope cl C X.env) fp) elt te fe) (hs : ∀ x, foldedSetIterable iter X.env x = pure x := by intro _; rfl) :
    DF X (.ListComp elt [⟨tg, iter, ifs, 0⟩] scope pos) (tLc wi g tt te (own.map (·.2))) (pLc fi tgt cond fe (own.map (·.2))) :=
  ⟨pe_lc hc hN hi.pi ok (fun s H C cl fp => (hg s H C cl fp).pg) (fun s H C cl fp => (ht s H C cl fp).pe) (fun s H C cl fp => (he s H C cl fp).pe) hs,
    .lc hi.pu (hg X.s_0 (fun _ => none) 0 [] []).pu hgs (ht X.s_0 (fun _ => none) 0 [] []).pu (he X.s_0 (fun _ => none) 0 [] []).pu⟩
end
end DL
/-! ## DL5 -/
set_option Elab.async false
set_option linter.all false
set_option maxRecDepth 100000
set_option maxHeartbeats 4000000
/-! DL5: statements, defs, calls. -/
namespace DL
open PySem L2 RZ RT

structure PEnds where
  nx : Env → Prop
  rt : SV → Prop
  bk : Env → Prop
  ct : Env → Prop
abbrev PTS := PEnds → Env → Prop
structure EndsOk (K : PySem.W.Frag) (Z S0 : Fp) (H0 : Hp) (S : Fp) (H : Hp) (D : Ends) (pd : PEnds) : Prop where
  nx : ∀ σ' H' S' env', Wx Z S0 H0 S' H' → Ws S H S' H' → RepEnv K Z (fun a => H0 a = none) S' H' σ' env' → pd.nx env' → D.nx σ' H'
  rt : ∀ v H' S' sv, Wx Z S0 H0 S' H' → RepSV K Z (fun a => H0 a = none) S' H' v sv → pd.rt sv → D.rt v H'
  bk : ∀ σ' H' S' env', Wx Z S0 H0 S' H' → Ws S H S' H' → RepEnv K Z (fun a => H0 a = none) S' H' σ' env' → pd.bk env' → D.bk σ' H'
  ct : ∀ σ' H' S' env', Wx Z S0 H0 S' H' → Ws S H S' H' → RepEnv K Z (fun a => H0 a = none) S' H' σ' env' → pd.ct env' → D.ct σ' H'
theorem EndsOk.shift {K : PySem.W.Frag} {Z S0 S S1 : Fp} {H0 H H1 : Hp} {D : Ends} {pd : PEnds} (e : EndsOk K Z S0 H0 S H D pd) (w : Ws S H S1 H1) : EndsOk K Z S0 H0 S1 H1 D pd :=
  ⟨fun σ' H' S' env' x y => e.nx σ' H' S' env' x (w.trans y), e.rt, fun σ' H' S' env' x y => e.bk σ' H' S' env' x (w.trans y), fun σ' H' S' env' x y => e.ct σ' H' S' env' x (w.trans y)⟩
def PureS (K : PySem.W.Frag) (t : TS) (F : PTS) : Prop := ∀ (Z S0 : Fp) (H0 : Hp) (S : Fp) (σ : St) (H : Hp) (env : Env) (D : Ends) (pd : PEnds), Wx Z S0 H0 S H → RepEnv K Z (fun a => H0 a = none) S H σ env → F pd env → EndsOk K Z S0 H0 S H D pd → t D σ H
structure DS (X : Cx) (st : Stmt) (t : TS) (F : PTS) : Prop where
  ps : PS X st t
  pu : PureS X.K t F
structure DSs (X : Cx) (st : List Stmt) (t : TS) (F : PTS) : Prop where
  ps : PSs X st t
  pu : PureS X.K t F

def pNext : PTS := fun pd env => pd.nx env
def pSeq (F G : PTS) : PTS := fun pd env => F { pd with nx := G pd } env
/-- a word between two statements -/
def pCut (F G : PTS) : PTS := fun pd env => ∃ M : Env → Prop, F { pd with nx := M } env ∧ ∀ env', M env' → G pd env'
def pRet (f : PTE) : PTS := fun pd env => f env fun d => pd.rt (.v d)
def pRetF (f : PTF) : PTS := fun pd env => f env pd.rt
def pRetVar (i : Nat) : PTS := fun pd env => match slot env i with
  | some (.v d) => pd.rt (.v d)
  | some (.own ds) => pd.rt (.own ds)
  | some (.ownD ds) => pd.rt (.ownD ds)
  | _ => False
def pRetN : PTS := fun pd _ => pd.rt (.v .none)
def pIfS (c : PTT) (F G : PTS) : PTS := fun pd env => c env fun b => if b = true then F pd env else G pd env
def pSet (i : Nat) (f : PTE) : PTS := fun pd env => f env fun d => pd.nx (env.set i (some (.v d)))
def pSetF (i : Nat) (f : PTF) : PTS := fun pd env => f env fun sv => pd.nx (env.set i (some sv))
def pTgt (f : PTE) (g : PTG) : PTS := fun pd env => f env fun d => g d env pd.nx
def pDrop (f : PTE) : PTS := fun pd env => f env fun _ => pd.nx env
def pPar (i j : Nat) (f : PTL) : PTS := fun pd env => f env fun ds => match ds with
  | [x, y] => pd.nx ((env.set i (some (.v x))).set j (some (.v y)))
  | _ => False
def pBreak : PTS := fun pd env => pd.bk env
def pCont : PTS := fun pd env => pd.ct env
def pNever : PTS := fun _ _ => False
def pFor (fi : PTI) (tgt : PTG) (F : PTS) : PTS := fun pd env => fi env fun ds => ∃ I : Nat → Env → Prop, I 0 env ∧
  (∀ k env' d, I k env' → ds[k]? = some d → tgt d env' fun env2 => F { pd with nx := I (k + 1), ct := I (k + 1), bk := pd.nx } env2) ∧ (∀ env', I ds.length env' → pd.nx env')
def pWhile (c : PTT) (F : PTS) : PTS := fun pd env => ∃ I : Nat → Env → Prop, (∃ m, I m env) ∧ ∀ m env', I m env' →
  c env' fun b => if b = true then F { pd with nx := fun e => ∃ m', m' < m ∧ I m' e, ct := fun e => ∃ m', m' < m ∧ I m' e, bk := pd.nx } env' else pd.nx env'
def pApp (i : Nat) (f : PTE) : PTS := fun pd env => match slot env i with
  | some (.own ds) => f env fun d => ds.length < 16777216 ∧ pd.nx (env.set i (some (.own (ds ++ [d]))))
  | _ => False
def pExt (i : Nat) (f : PTE) : PTS := fun pd env => match slot env i with
  | some (.own ds) => f env fun d => match d with
    | .list es => ds.length + es.length ≤ 16777216 ∧ pd.nx (env.set i (some (.own (ds ++ es))))
    | _ => False
  | _ => False
def pPop (i : Nat) : PTS := fun pd env => match slot env i with
  | some (.own ds) => ds ≠ [] ∧ pd.nx (env.set i (some (.own ds.dropLast)))
  | _ => False
def pSetIx (i : Nat) (fi fe : PTE) : PTS := fun pd env => match slot env i with
  | some (.own ds) => fe env fun d => fi env fun k => match k with
    | .int n => match ixN ds.length n with
      | some j => pd.nx (env.set i (some (.own (ds.set j d))))
      | none => False
    | _ => False
  | _ => False
/-- an owned slot is a datum from here on -/
def pFreeze (i : Nat) (F : PTS) : PTS := fun pd env => match slot env i with
  | some (.own ds) => F pd (env.set i (some (.v (.list ds))))
  | some (.ownD ds) => F pd (env.set i (some (.v (.dict ds))))
  | _ => F pd env
/-- an owned list of one number is a state from here on -/
def pStify (i : Nat) (F : PTS) : PTS := fun pd env => match slot env i with
  | some (.own [.int s]) => 0 ≤ s ∧ F pd (env.set i (some .st))
  | _ => False

theorem slot_set_self : ∀ (env : Env) (i : Nat) (x : Option SV), i < env.length → slot (env.set i x) i = x
  | [], _, _, h => absurd h (Nat.not_lt_zero _)
  | _ :: _, 0, _, _ => rfl
  | _ :: r, n + 1, x, h => slot_set_self r n x (Nat.lt_of_succ_lt_succ h)

section
variable {K : PySem.W.Frag} {t u : TS} {F G : PTS} {te : TE} {f : PTE} {g : PTF}
theorem PureS.next : PureS K tNext pNext := fun Z S0 H0 S σ H env D pd x r hf e => e.nx σ H S env x .refl r hf
theorem PureS.seq (h1 : PureS K t F) (h2 : PureS K u G) : PureS K (tSeq t u) (pSeq F G) := fun Z S0 H0 S σ H env D pd x r hf e =>
  h1 Z S0 H0 S σ H env _ { pd with nx := G pd } x r hf ⟨fun σ' H' S' env' x' w' r' q => h2 Z S0 H0 S' σ' H' env' D pd x' r' q (e.shift w'), e.rt, e.bk, e.ct⟩
theorem PureS.cut (h1 : PureS K t F) (h2 : PureS K u G) : PureS K (tSeq t u) (pCut F G) := fun Z S0 H0 S σ H env D pd x r hf e => by
  obtain ⟨M, hF, hG⟩ := hf
  exact h1 Z S0 H0 S σ H env _ { pd with nx := M } x r hF ⟨fun σ' H' S' env' x' w' r' q => h2 Z S0 H0 S' σ' H' env' D pd x' r' (hG env' q) (e.shift w'), e.rt, e.bk, e.ct⟩
theorem toH0 {Z S0 S : Fp} {H0 H : Hp} (x : Wx Z S0 H0 S H) : ∀ a, ¬ Z a → H a = none → H0 a = none := fun a nz h => x.fresh nz h
theorem PureS.ret (h : PureE K te f) : PureS K (tRet te) (pRet f) := fun Z S0 H0 S σ H env D pd x r hf e =>
  h Z _ S σ H env _ _ x.wd r hf fun v d S1 H1 x1 r1 q1 => e.rt v H1 S1 (.v d) (x.trans x1) r1 q1
theorem PureS.retF (h : PureF K te g) : PureS K (tRet te) (pRetF g) := fun Z S0 H0 S σ H env D pd x r hf e =>
  h Z _ S σ H env _ _ x.wd r hf fun v sv S1 H1 x1 r1 q1 => e.rt v H1 S1 sv (x.trans x1) (r1.mono (toH0 x)) q1
theorem PureS.retVar (i : Nat) : PureS K (tRet (tVar i)) (pRetVar i) := fun Z S0 H0 S σ H env D pd x r hf e => by
  unfold pRetVar at hf
  cases q : slot env i with
  | none => rw [q] at hf; exact hf.elim
  | some sv =>
    rw [q] at hf
    obtain ⟨v, h1, h2⟩ := r.get i sv (slot_get env i sv q)
    cases sv <;> first | exact hf.elim | skip
    all_goals exact ⟨v, h1, e.rt v H S _ x h2 hf⟩
theorem PureS.retN : PureS K tRetN pRetN := fun Z S0 H0 S σ H env D pd x r hf e => e.rt .non H S (.v .none) x .non hf
theorem PureS.ifS {c : TT} {fc : PTT} (hc : PureT K c fc) (h1 : PureS K t F) (h2 : PureS K u G) : PureS K (tIfS c t u) (pIfS fc F G) := fun Z S0 H0 S σ H env D pd x r hf e => by
  refine hc Z _ S σ H env _ _ x.wd r hf fun b S1 H1 x1 q1 => ?_
  cases b with
  | true =>
    rw [if_pos rfl] at q1 ⊢
    exact h1 Z S0 H0 S1 σ H1 env D pd (x.trans x1) (r.wx x.wd x1) q1 (e.shift x1.ws)
  | false =>
    rw [if_neg Bool.false_ne_true] at q1 ⊢
    exact h2 Z S0 H0 S1 σ H1 env D pd (x.trans x1) (r.wx x.wd x1) q1 (e.shift x1.ws)
theorem PureS.set (i : Nat) (h : PureE K te f) : PureS K (tAsg te (gName i)) (pSet i f) := fun Z S0 H0 S σ H env D pd x r hf e =>
  h Z _ S σ H env _ _ x.wd r hf fun v d S1 H1 x1 r1 q1 => e.nx _ H1 S1 _ (x.trans x1) x1.ws ((r.wx x.wd x1).set i (show RepSV K Z _ S1 H1 v (.v d) from r1) fun o => o.elim) q1
theorem PureS.setF (i : Nat) (h : PureF K te g) : PureS K (tAsg te (gName i)) (pSetF i g) := fun Z S0 H0 S σ H env D pd x r hf e =>
  h Z _ S σ H env _ _ x.wd r hf fun v sv S1 H1 x1 r1 q1 => e.nx _ H1 S1 _ (x.trans x1) x1.ws ((r.wx x.wd x1).set i (r1.mono (toH0 x)) fun o j y a hij ej oy sj ev => by
    obtain ⟨p, ob, e1, hp, _⟩ := r1.owns o
    rw [e1] at ev
    injection ev with ev
    subst ev
    exact r.apart hp j y ej oy sj) q1
theorem PureS.tgt {tg : TG} {fg : PTG} {gs : List Nat} (h : PureE K te f) (hg : PureG K tg fg gs) : PureS K (tAsg te tg) (pTgt f fg) := fun Z S0 H0 S σ H env D pd x r hf e =>
  h Z _ S σ H env _ _ x.wd r hf fun v d S1 H1 x1 r1 q1 => hg Z _ S1 σ H1 env v d _ _ (r.wx x.wd x1) r1 q1 fun σ' env' _ r' q' => e.nx σ' H1 S1 env' (x.trans x1) x1.ws r' q'
theorem PureS.drop (h : PureB K te f) : PureS K (tDrop te) (pDrop f) := fun Z S0 H0 S σ H env D pd x r hf e =>
  h Z _ S σ H env _ _ x.wd r hf fun v d S1 H1 x1 r1 q1 => e.nx σ H1 S1 env (x.trans x1) x1.ws (r.wx x.wd x1) q1
theorem PureS.par (i j : Nat) {ta : TA} {fl : PTL} (h : PureEs K ta fl) : PureS K (tPar i j ta) (pPar i j fl) := fun Z S0 H0 S σ H env D pd x r hf e =>
  h Z _ S σ H env _ _ x.wd r hf fun vs ds S1 H1 x1 r1 q1 => by
    cases r1 with
    | nil => exact q1.elim
    | cons a r1 =>
      cases r1 with
      | nil => exact q1.elim
      | cons b r1 =>
        cases r1 with
        | cons c r1 => exact q1.elim
        | nil =>
          refine ⟨_, _, rfl, e.nx _ H1 S1 _ (x.trans x1) x1.ws ?_ q1⟩
          exact ((r.wx x.wd x1).set i (show RepSV K Z _ S1 H1 _ (.v _) from a) fun o => o.elim).set j (show RepSV K Z _ S1 H1 _ (.v _) from b) fun o => o.elim
theorem PureS.brk : PureS K tBreak pBreak := fun Z S0 H0 S σ H env D pd x r hf e => e.bk σ H S env x .refl r hf
theorem PureS.cont : PureS K tCont pCont := fun Z S0 H0 S σ H env D pd x r hf e => e.ct σ H S env x .refl r hf
theorem PureS.never : PureS K tNever pNever := fun Z S0 H0 S σ H env D pd x r hf e => hf.elim
theorem PureS.whileS {c : TT} {fc : PTT} (hc : PureT K c fc) (hb : PureS K t F) : PureS K (tWhile c t) (pWhile fc F) := fun Z S0 H0 S σ H env D pd x r hf e => by
  obtain ⟨I, ⟨m0, i0⟩, step⟩ := hf
  refine ⟨fun m σ' H' => ∃ S' env', Wx Z S0 H0 S' H' ∧ Ws S H S' H' ∧ RepEnv K Z (fun a => H0 a = none) S' H' σ' env' ∧ I m env', ⟨m0, S, env, x, .refl, r, i0⟩, ?_⟩
  rintro m σ' H' ⟨S', env', x', w', r', i'⟩
  refine hc Z _ S' σ' H' env' _ _ x'.wd r' (step m env' i') fun b S1 H1 x1 q1 => ?_
  have xx := x'.trans x1
  have ww := w'.trans x1.ws
  cases b with
  | true =>
    rw [if_pos rfl] at q1 ⊢
    refine ⟨fun σ2 H2 => ∃ m', m' < m ∧ ∃ S2 env2, Wx Z S0 H0 S2 H2 ∧ Ws S H S2 H2 ∧ RepEnv K Z (fun a => H0 a = none) S2 H2 σ2 env2 ∧ I m' env2, fun σ2 H2 h => h, ?_⟩
    refine hb Z S0 H0 S1 σ' H1 env' _ _ xx (r'.wx x'.wd x1) q1 ⟨?_, e.rt, ?_, ?_⟩
    · rintro σ2 H2 S2 env2 x2 w2 r2 ⟨m', hm, i2⟩
      exact ⟨m', hm, S2, env2, x2, ww.trans w2, r2, i2⟩
    · exact fun σ2 H2 S2 env2 x2 w2 r2 q => e.nx σ2 H2 S2 env2 x2 (ww.trans w2) r2 q
    · rintro σ2 H2 S2 env2 x2 w2 r2 ⟨m', hm, i2⟩
      exact ⟨m', hm, S2, env2, x2, ww.trans w2, r2, i2⟩
  | false =>
    rw [if_neg Bool.false_ne_true] at q1 ⊢
    exact e.nx σ' H1 S1 env' xx ww (r'.wx x'.wd x1) q1
theorem PureS.forS {wi : TI} {fi : PTI} {tg : TG} {fg : PTG} {gs : List Nat} (hi : PureI K wi fi) (hg : PureG K tg fg gs) (hb : PureS K t F) : PureS K (tFor wi tg t) (pFor fi fg F) := fun Z S0 H0 S σ H env D pd x r hf e => by
  refine hi Z _ S σ H env _ _ x.wd r hf fun J ds S1 H1 x1 ok q1 => ?_
  obtain ⟨I, i0, step, fin⟩ := q1
  refine ⟨fun i m σ' H' => m = ds.length - i ∧ i ≤ ds.length ∧ ∃ S' env', Wx Z S0 H0 S' H' ∧ Ws S1 H1 S' H' ∧ RepEnv K Z (fun a => H0 a = none) S' H' σ' env' ∧ I i env', ⟨ds.length, rfl, Nat.zero_le _, S1, env, x.trans x1, .refl, r.wx x.wd x1, i0⟩, ?_⟩
  rintro i m σ' H' ⟨rfl, hle, S', env', x', w', r', i'⟩
  have okc := ok S' H' w' x'.wd
  by_cases hlt : i < ds.length
  · right
    have hd : ds[i]? = some ds[i] := by simp [hlt]
    obtain ⟨go, yl⟩ := okc.1 i _ hd
    refine ⟨go, fun σ2 H2 => ∃ S2 env2, Wx Z S0 H0 S2 H2 ∧ Ws S1 H1 S2 H2 ∧ RepEnv K Z (fun a => H0 a = none) S2 H2 σ2 env2 ∧ I (i + 1) env2, fun σ2 H2 h => ⟨ds.length - (i + 1), by omega, rfl, hlt, h⟩, fun y H2 hy => ?_⟩
    obtain ⟨S2, x2, ry⟩ := yl y H2 hy
    refine hg Z _ S2 σ' H2 env' y _ _ _ (r'.wx x'.wd x2) ry (step i env' _ i' hd) fun σ3 env3 _ r3 q3 => ?_
    have w2 := w'.trans x2.ws
    refine hb Z S0 H0 S2 σ3 H2 env3 _ _ (x'.trans x2) r3 q3 ⟨?_, e.rt, ?_, ?_⟩
    · exact fun σ4 H4 S4 env4 x4 w4 r4 q4 => ⟨S4, env4, x4, w2.trans w4, r4, q4⟩
    · exact fun σ4 H4 S4 env4 x4 w4 r4 q4 => e.nx σ4 H4 S4 env4 x4 (x1.ws.trans (w2.trans w4)) r4 q4
    · exact fun σ4 H4 S4 env4 x4 w4 r4 q4 => ⟨S4, env4, x4, w2.trans w4, r4, q4⟩
  · have ei : i = ds.length := by omega
    subst ei
    exact .inl ⟨okc.2, e.nx σ' H' S' env' x' (x1.ws.trans w') r' (fin env' i')⟩
/-- an owned list is changed -/
theorem RepEnv.mut {Z O S : Fp} {H : Hp} {σ : St} {env : Env} (r : RepEnv K Z O S H σ env) {i : Nat} {ds es : List D} {p : Addr} {us ws : List V} (hi : env[i]? = some (some (.own ds))) (hs : σ[i]? = some (some (.ref p))) (hp : H p = some (.lst us)) (op : O p) (nS : ¬ S p) (nZ : ¬ Z p) (rw' : Reps S H ws es) :
    RepEnv K Z O S (upd H p (.lst ws)) σ (env.set i (some (.own es))) := by
  have hl := r.len
  have hil : i < env.length := (List.getElem?_eq_some_iff.mp hi).1
  have hup : ∀ a o, S a → H a = some o → upd H p (.lst ws) a = some o := fun a o s h => by rw [upd_ne (show a ≠ p by rintro rfl; exact nS s)]; exact h
  have back : ∀ j (y : SV), (env.set i (some (.own es)))[j]? = some (some y) → y.isOwn → ∃ z : SV, env[j]? = some (some z) ∧ z.isOwn := fun j y e o => by
    by_cases hij : i = j
    · subst hij; exact ⟨_, hi, trivial⟩
    · rw [List.getElem?_set_ne hij] at e; exact ⟨y, e, o⟩
  refine ⟨by simp [hl], fun j sv e => ?_, fun j k a x y hjk e1 e2 o1 o2 s1 s2 => ?_⟩
  · by_cases hij : i = j
    · subst hij
      rw [List.getElem?_set_self hil] at e
      cases e
      exact ⟨_, hs, p, ws, rfl, op, upd_same, rw'.mono (fun _ s => s) hup, nS, nZ⟩
    · rw [List.getElem?_set_ne hij] at e
      obtain ⟨v, h1, h2⟩ := r.get j sv e
      refine ⟨v, h1, ?_⟩
      have ne : ∀ q, v = .ref q → sv.isOwn → q ≠ p := fun q e1 o z => by
        subst z; subst e1
        exact r.dis i j q _ sv hij hi e trivial o hs h1
      cases sv with
      | v d => exact Rep.mono (fun _ s => s) hup h2
      | own xs =>
        obtain ⟨q, vs, rfl, oq, hq, rq, nq, zq⟩ := h2
        exact ⟨q, vs, rfl, oq, by rw [upd_ne (ne q rfl trivial)]; exact hq, rq.mono (fun _ s => s) hup, nq, zq⟩
      | ownD xs =>
        obtain ⟨q, rfl, oq, hq, nq, zq⟩ := h2
        refine ⟨q, rfl, oq, ?_, nq, zq⟩
        rw [upd_ne (ne q rfl trivial)]
        rcases hq with ⟨vs, hq, rq⟩ | ⟨vs, hq, rq⟩
        · exact .inl ⟨vs, hq, rq.mono (fun _ s => s) hup⟩
        · exact .inr ⟨vs, hq, rq.mono (fun _ s => s) hup⟩
      | st => exact h2
      | scr ns =>
        obtain ⟨q, rfl, hq⟩ := h2
        refine ⟨q, rfl, fun H2 h => hq H2 fun o u e => h o u ?_⟩
        rw [upd_ne (show q ≠ p by rintro rfl; rw [hp] at e; cases e)]
        exact e
      | any => trivial
  · obtain ⟨x', f1, p1⟩ := back j x e1 o1
    obtain ⟨y', f2, p2⟩ := back k y e2 o2
    exact r.dis j k a x' y' hjk f1 f2 p1 p2 s1 s2
theorem Wx.mut {Z S0 S : Fp} {H0 H : Hp} {p : Addr} {o : HO} (x : Wx Z S0 H0 S H) (hp : H0 p = none) (nS : ¬ S p) (nZ : ¬ Z p) : Wx Z S0 H0 S (upd H p o) :=
  ⟨fun a u nz h => by rw [upd_ne (ne_of_none h hp)]; exact x.keep a u nz h, x.sub, x.new,
    ⟨fun a s => by rw [upd_ne (show a ≠ p by rintro rfl; exact nS s)]; exact x.wd.sd a s, x.wd.zs, fun a z => by rw [upd_ne (show a ≠ p by rintro rfl; exact nZ z)]; exact x.wd.zd a z⟩⟩
theorem Ws.mut {S : Fp} {H : Hp} {p : Addr} {o : HO} (nS : ¬ S p) : Ws S H S (upd H p o) :=
  ⟨fun a u s h => by rw [upd_ne (show a ≠ p by rintro rfl; exact nS s)]; exact h, fun _ s => s⟩
theorem slot_own {env : Env} {i : Nat} {P : List D → Prop} (h : match slot env i with | some (.own ds) => P ds | _ => False) : ∃ ds, slot env i = some (.own ds) ∧ P ds := by
  cases q : slot env i with
  | none => rw [q] at h; exact h.elim
  | some sv =>
    rw [q] at h
    cases sv <;> first | exact h.elim | skip
    exact ⟨_, rfl, h⟩
theorem PureS.app (i : Nat) (h : PureE K te f) : PureS K (tDrop (tBM K "list" rAppend (tVar i) (tCons te tNil))) (pApp i f) := fun Z S0 H0 S σ H env D pd x r hf e => by
  obtain ⟨ds, q, hf⟩ := slot_own hf
  obtain ⟨v, h1, p, us, rfl, op, hp, ru, nS, nZ⟩ := r.get i _ (slot_get env i _ q)
  refine ⟨_, h1, .inl ⟨rfl, us, SqL.of hp⟩, ?_⟩
  refine h Z _ S σ H env _ _ x.wd r hf fun v d S1 H1 x1 r1 q1 => ?_
  have hp1 := x1.keep p _ nZ hp
  have nS1 : ¬ S1 p := fun z => by rcases x1.new p z with z | z; exact nS z; rw [hp] at z; cases z
  refine ⟨p, us, v, rfl, rfl, hp1, by rw [ru.length, sizeLine_eq]; exact q1.1, ?_⟩
  exact e.nx σ _ S1 _ ((x.trans x1).mut op nS1 nZ) (x1.ws.trans (Ws.mut nS1)) ((r.wx x.wd x1).mut (slot_get env i _ q) h1 hp1 op nS1 nZ ((ru.wx x1).append (.cons r1 .nil))) q1.2
theorem PureS.ext (i : Nat) (h : PureE K te f) : PureS K (tDrop (tBM K "list" rExtend (tVar i) (tCons te tNil))) (pExt i f) := fun Z S0 H0 S σ H env D pd x r hf e => by
  obtain ⟨ds, q, hf⟩ := slot_own hf
  obtain ⟨v, h1, p, us, rfl, op, hp, ru, nS, nZ⟩ := r.get i _ (slot_get env i _ q)
  refine ⟨_, h1, .inl ⟨rfl, us, SqL.of hp⟩, ?_⟩
  refine h Z _ S σ H env _ _ x.wd r hf fun v d S1 H1 x1 r1 q1 => ?_
  have hp1 := x1.keep p _ nZ hp
  have nS1 : ¬ S1 p := fun z => by rcases x1.new p z with z | z; exact nS z; rw [hp] at z; cases z
  cases r1 <;> first | exact q1.elim | skip
  rename_i b vs es sb hb rb
  refine ⟨p, b, us, vs, rfl, rfl, hp1, hb, by rw [ru.length, rb.length, sizeLine_eq]; exact q1.1, ?_⟩
  exact e.nx σ _ S1 _ ((x.trans x1).mut op nS1 nZ) (x1.ws.trans (Ws.mut nS1)) ((r.wx x.wd x1).mut (slot_get env i _ q) h1 hp1 op nS1 nZ ((ru.wx x1).append rb)) q1.2
theorem PureS.pop (i : Nat) : PureS K (tDrop (tBM0 K "list" rPop (tVar i))) (pPop i) := fun Z S0 H0 S σ H env D pd x r hf e => by
  obtain ⟨ds, q, hf⟩ := slot_own hf
  obtain ⟨v, h1, p, us, rfl, op, hp, ru, nS, nZ⟩ := r.get i _ (slot_get env i _ q)
  have hl := ru.length
  have hne : us ≠ [] := fun z => hf.1 (List.eq_nil_of_length_eq_zero (by rw [← hl, z]; rfl))
  have h0 : us.length - 1 < us.length := by
    have := List.length_pos_iff.mpr hne
    omega
  refine ⟨_, h1, .inl ⟨rfl, us, SqL.of hp⟩, p, us, us[us.length - 1], rfl, rfl, hp, by simp [h0], ?_⟩
  exact e.nx σ _ S _ (x.mut op nS nZ) (Ws.mut nS) (r.mut (slot_get env i _ q) h1 hp op nS nZ ru.dropLast) hf.2
theorem PureS.setIx (i : Nat) {ti : TE} {fi : PTE} (hi : PureE K ti fi) (h : PureE K te f) : PureS K (tAsg te (gSub (tVar i) ti rSetL)) (pSetIx i fi f) := fun Z S0 H0 S σ H env D pd x r hf e => by
  obtain ⟨ds, q, hf⟩ := slot_own hf
  obtain ⟨v, h1, p, us, rfl, op, hp, ru, nS, nZ⟩ := r.get i _ (slot_get env i _ q)
  refine h Z _ S σ H env _ _ x.wd r hf fun v d S1 H1 x1 r1 q1 => ?_
  refine ⟨_, h1, ?_⟩
  refine hi Z _ S1 σ H1 env _ _ x1.wd (r.wx x.wd x1) q1 fun u k S2 H2 x2 r2 q2 => ?_
  have x12 := x1.trans x2
  have hp2 := x12.keep p _ nZ hp
  have nS2 : ¬ S2 p := fun z => by rcases x12.new p z with z | z; exact nS z; rw [hp] at z; cases z
  cases r2 <;> first | exact q2.elim | skip
  rename_i n
  cases ej : ixN ds.length n with
  | none => simp only [ej] at q2
  | some j =>
    simp only [ej] at q2
    refine ⟨p, us, n, j, rfl, rfl, hp2, by rw [ru.length]; exact ej, ?_⟩
    exact e.nx σ _ S2 _ ((x.trans x12).mut op nS2 nZ) (x12.ws.trans (Ws.mut nS2)) ((r.wx x.wd x12).mut (slot_get env i _ q) h1 hp2 op nS2 nZ ((ru.wx x12).set (r1.wx x2) j)) q2
/-- from here on an owned slot is a datum -/
theorem PureS.freeze (i : Nat) (h : PureS K t F) : PureS K t (pFreeze i F) := fun Z S0 H0 S σ H env D pd x r hf e => by
  unfold pFreeze at hf
  have plain : F pd env → t D σ H := fun hf => h Z S0 H0 S σ H env D pd x r hf e
  have go : ∀ (p : Addr) (o : HO) (d : PyData) (sv0 : SV), env[i]? = some (some sv0) → sv0.isOwn → σ[i]? = some (some (.ref p)) → H0 p = none → H p = some o → ¬ Z p → Rep (fun a => S a ∨ a = p) H (.ref p) d → F pd (env.set i (some (.v d))) → t D σ H := fun p o d sv0 hi0 o0 hs op hp nZ rd hF => by
    have x' := x.letIn op nZ hp
    have ws : Ws S H (fun a => S a ∨ a = p) H := ⟨fun _ _ _ h => h, fun _ s => .inl s⟩
    have hl := r.len
    refine h Z S0 H0 _ σ H _ D pd x' ⟨by simp [hl], fun j sv ej => ?_, fun j k a y z hjk e1 e2 o1 o2 s1 s2 => ?_⟩ hF (e.shift ws)
    · by_cases hij : i = j
      · subst hij
        by_cases hi : i < env.length
        · rw [List.getElem?_set_self hi] at ej
          cases ej
          exact ⟨_, hs, rd⟩
        · rw [List.getElem?_eq_none_iff.mpr (by simpa using Nat.le_of_not_lt hi)] at ej; cases ej
      · rw [List.getElem?_set_ne hij] at ej
        obtain ⟨v, h1, h2⟩ := r.get j sv ej
        refine ⟨v, h1, ?_⟩
        have up : ∀ a, S a → S a ∨ a = p := fun _ s => .inl s
        cases sv with
        | v d => exact Rep.mono up (fun _ _ _ h => h) h2
        | own xs =>
          obtain ⟨q, vs, rfl, oq, hq, rq, nq, zq⟩ := h2
          refine ⟨q, vs, rfl, oq, hq, rq.mono up (fun _ _ _ h => h), fun z => ?_, zq⟩
          rcases z with z | z
          · exact nq z
          · subst z
            exact r.dis i j _ sv0 _ hij hi0 ej o0 trivial hs h1
        | ownD xs =>
          obtain ⟨q, rfl, oq, hq, nq, zq⟩ := h2
          refine ⟨q, rfl, oq, ?_, fun z => ?_, zq⟩
          · rcases hq with ⟨vs, hq, rq⟩ | ⟨vs, hq, rq⟩
            · exact .inl ⟨vs, hq, rq.mono up (fun _ _ _ h => h)⟩
            · exact .inr ⟨vs, hq, rq.mono up (fun _ _ _ h => h)⟩
          · rcases z with z | z
            · exact nq z
            · subst z
              exact r.dis i j _ sv0 _ hij hi0 ej o0 trivial hs h1
        | st => exact h2
        | scr ns => exact h2
        | any => trivial
    · have back : ∀ j (y : SV), (env.set i (some (.v d)))[j]? = some (some y) → y.isOwn → env[j]? = some (some y) := fun j y e o => by
        by_cases hij : i = j
        · subst hij
          by_cases hi : i < env.length
          · rw [List.getElem?_set_self hi] at e; cases e; exact o.elim
          · rw [List.getElem?_eq_none_iff.mpr (by simpa using Nat.le_of_not_lt hi)] at e; cases e
        · rw [List.getElem?_set_ne hij] at e; exact e
      exact r.dis j k a y z hjk (back j y e1 o1) (back k z e2 o2) o1 o2 s1 s2
  cases q : slot env i with
  | none => rw [q] at hf; exact plain hf
  | some sv =>
    rw [q] at hf
    cases sv with
    | own ds =>
      obtain ⟨v, h1, p, us, rfl, op, hp, ru, nS, nZ⟩ := r.get i _ (slot_get env i _ q)
      exact go p _ _ _ (slot_get env i _ q) trivial h1 op hp nZ (.lst (.inr rfl) hp (ru.mono (fun _ s => .inl s) fun _ _ _ h => h)) hf
    | ownD ds =>
      obtain ⟨v, h1, p, rfl, op, hp, nS, nZ⟩ := r.get i _ (slot_get env i _ q)
      rcases hp with ⟨us, hp, ru⟩ | ⟨us, hp, ru⟩
      · exact go p _ _ _ (slot_get env i _ q) trivial h1 op hp nZ (.dk (.inr rfl) hp (ru.mono (fun _ s => .inl s) fun _ _ _ h => h)) hf
      · exact go p _ _ _ (slot_get env i _ q) trivial h1 op hp nZ (.dt (.inr rfl) hp (ru.mono (fun _ s => .inl s) fun _ _ _ h => h)) hf
    | v d => exact plain hf
    | st => exact plain hf
    | scr ns => exact plain hf
    | any => exact plain hf
end
end DL
/-! ## DL6 -/
set_option Elab.async false
set_option linter.all false
set_option maxRecDepth 100000
set_option maxHeartbeats 4000000
/-! DL6: rules of statements, defs, calls, built-in functions. -/
namespace DL
open PySem L2 RZ RT PyProof.Rows

section
variable {X : Cx} {st : Stmt} {rest : List Stmt} {t u : TS} {F G : PTS} {e : Expr} {te : TE} {f : PTE} {g : PTF} {pos : Pos}
theorem dss_nil : DSs X [] tNext pNext := ⟨pss_nil, .next⟩
theorem dss_one (h : DS X st t F) : DSs X [st] t F := ⟨pss_one h.ps, h.pu⟩
theorem dss_cons (h1 : DS X st t F) (h2 : DSs X rest u G) : DSs X (st :: rest) (tSeq t u) (pSeq F G) := ⟨pss_cons h1.ps h2.ps, .seq h1.pu h2.pu⟩
theorem dss_cut (h1 : DS X st t F) (h2 : DSs X rest u G) : DSs X (st :: rest) (tSeq t u) (pCut F G) := ⟨pss_cons h1.ps h2.ps, .cut h1.pu h2.pu⟩
theorem dss_freeze {sts : List Stmt} (i : Nat) (h : DSs X sts t F) : DSs X sts t (pFreeze i F) := ⟨h.ps, .freeze i h.pu⟩
theorem ds_pass : DS X (.Pass pos) tNext pNext := ⟨ps_pass, .next⟩
theorem ds_break : DS X (.Break pos) tBreak pBreak := ⟨ps_break, .brk⟩
theorem ds_continue : DS X (.Continue pos) tCont pCont := ⟨ps_continue, .cont⟩
theorem ds_never : DS X st tNever pNever := ⟨ps_never, .never⟩
theorem dss_never {sts : List Stmt} : DSs X sts tNever pNever := ⟨pss_never, .never⟩
theorem ds_expr (h : DB X e te f) (hs : swapsWith e none pos.line X.env = pure false := by rfl) : DS X (.Expr e pos) (tDrop te) (pDrop f) := ⟨ps_expr h.pe hs, .drop h.pu⟩
theorem ds_ret (h : DE X e te f) : DS X (.Return (some e) pos) (tRet te) (pRet f) := ⟨ps_ret h.pe, .ret h.pu⟩
theorem ds_retF (h : DF X e te g) : DS X (.Return (some e) pos) (tRet te) (pRetF g) := ⟨ps_ret h.pe, .retF h.pu⟩
theorem ds_retVar (i : Nat) {x : Str} {p : Pos} (hN : X.N[i]? = some x := by rfl) (hv : Vis X.env.scope x := by first | exact Or.inl rfl | exact Or.inr (Or.inl rfl) | exact Or.inr (Or.inr rfl)) (hd : (x == ("__debug__" : Str)) = false := by decide)
    (hcd : (x == ("__classdict__" : Str)) = false := by decide) : DS X (.Return (some (.Name x p)) pos) (tRet (tVar i)) (pRetVar i) := ⟨ps_ret (pe_var hN hv hd hcd), .retVar i⟩
theorem ds_retN : DS X (.Return none pos) tRetN pRetN := ⟨ps_retN, .retN⟩
theorem ds_if {c : Expr} {a b : List Stmt} {tc : TT} {fc : PTT} (hc : DT X c tc fc) (ha : DSs X a t F) (hb : DSs X b u G) : DS X (.If c a b pos) (tIfS tc t u) (pIfS fc F G) := ⟨ps_if hc.pe ha.ps hb.ps, .ifS hc.pu ha.pu hb.pu⟩
theorem ds_set (i : Nat) {x : Str} {pos' : Pos} (hN : X.N.Nodup) (h : DE X e te f) (hi : X.N[i]? = some x := by rfl) (hx : Loc X.env.scope x := by first | exact Or.inl rfl | exact Or.inr rfl) (hs : swapsWith e (some (.Name x pos')) pos.line X.env = pure false := by rfl)
    (hf : X.fn x = true ∨ X.env.scope.names.lookup x = some .local := by first | exact .inl rfl | exact .inr rfl | assumption) : DS X (.Assign [.Name x pos'] e pos) (tAsg te (gName i)) (pSet i f) := ⟨ps_set hN hi hx h.pe hs hf, .set i h.pu⟩
theorem ds_setF (i : Nat) {x : Str} {pos' : Pos} (hN : X.N.Nodup) (h : DF X e te g) (hi : X.N[i]? = some x := by rfl) (hx : Loc X.env.scope x := by first | exact Or.inl rfl | exact Or.inr rfl) (hs : swapsWith e (some (.Name x pos')) pos.line X.env = pure false := by rfl)
    (hf : X.fn x = true ∨ X.env.scope.names.lookup x = some .local := by first | exact .inl rfl | exact .inr rfl | assumption) : DS X (.Assign [.Name x pos'] e pos) (tAsg te (gName i)) (pSetF i g) := ⟨ps_set hN hi hx h.pe hs hf, .setF i h.pu⟩
theorem ds_tgt {tg : Expr} {g : TG} {fg : PTG} {gs : List Nat} (h : DE X e te f) (hg : DG X tg g fg gs) (hs : swapsWithSole [tg] e pos.line X.env = pure false := by rfl) (hw : swappedStores [tg] e X.env = pure none := by rfl)
    (h1 : (assignEach [tg] X.env).map (·.2) = [assign tg X.env] := by rfl) : DS X (.Assign [tg] e pos) (tAsg te g) (pTgt f fg) := ⟨ps_asg h.pe hg.pg hs hw h1, .tgt h.pu hg.pu⟩
theorem ds_par (i j : Nat) {x y : Str} {a b : Expr} {ta : TA} {fl : PTL} {px py pt : Pos} {kt k2 pt2} (hN : X.N.Nodup) (ha : DEs X [a, b] ta fl) (hc : X.calm = true := by rfl) (hi : X.N[i]? = some x := by rfl) (hj : X.N[j]? = some y := by rfl) (hij : i ≠ j := by decide)
    (hx : X.env.scope.names.lookup x = some .local := by rfl) (hy : X.env.scope.names.lookup y = some .local := by rfl) (hw : swappedStores [.Tuple [.Name x px, .Name y py] kt pt] (.Tuple [a, b] k2 pt2) X.env = pure (some [x, y]) := by rfl)
    (hs : swapsWithSole [.Tuple [.Name x px, .Name y py] kt pt] (.Tuple [a, b] k2 pt2) pos.line X.env = pure false := by rfl) : DS X (.Assign [.Tuple [.Name x px, .Name y py] kt pt] (.Tuple [a, b] k2 pt2) pos) (tPar i j ta) (pPar i j fl) :=
  ⟨ps_par hc hN hi hj hij hx hy ha.pe hw hs, .par i j ha.pu⟩
theorem ds_while {c : Expr} {body : List Stmt} {tc : TT} {fc : PTT} (hp : PassesOwn (model X.prog X.w) X.A X.env X.xe) (hc : DT X c tc fc) (hb : DSs X body t F) : DS X (.While c body [] pos) (tWhile tc t) (pWhile fc F) := ⟨ps_while hp hc.pe hb.ps, .whileS hc.pu hb.pu⟩
theorem ds_for {tg iter : Expr} {body : List Stmt} {wi : TI} {fi : PTI} {g : TG} {fg : PTG} {gs : List Nat} (hp : PassesOwn (model X.prog X.w) X.A X.env X.xe) (hi : DI X tg iter wi fi) (hg : DG X tg g fg gs) (hb : DSs X body t F) (hc : X.calm = true := by rfl)
    (hs : ∀ x, foldedSetIterable iter X.env x = pure x := by intro _; rfl) : DS X (.For tg iter body [] pos) (tFor wi g t) (pFor fi fg F) := ⟨ps_for hp hc hi.pi hg.pg hb.ps hs, .forS hi.pu hg.pu hb.pu⟩
/-- name = [..] on one line -/
theorem ds_setLc (i : Nat) (own : List (Str × Nat)) {y : Str} {py : Pos} {elt tg iter : Expr} {ifs : List Expr} {scope : Scope} {pos spos : Pos} {wi : TI} {g : TG} {tt : TT} {te : TE} {fi : PTI} {tgt : PTG} {cond : PTT} {fe : PTE} {gs : List Nat} (hN : X.N.Nodup)
    (hsw : swapsWith (.ListComp elt [⟨tg, iter, ifs, 0⟩] scope pos) (some (.Name y py)) spos.line X.env = pure true) (hi : DI X tg iter wi fi) (ok : BlkOk X.N X.env.scope scope own) (hg0 : DG (X.blk X.s_0 (fun _ => none) scope (compEnvC scope [] 0 X.env) []) tg g tgt gs) (hgs : ∀ i ∈ gs, i ∈ own.map (·.2))
    (hg : ∀ (s : Shared) (H : Hp) (C : Addr) (cl : List (Str × Addr)) (fp : List Addr), DG (X.blk s H scope (compEnvC scope cl C X.env) fp) tg g tgt gs)
    (ht0 : DTs (X.blk X.s_0 (fun _ => none) scope (compEnvC scope [] 0 X.env) []) ifs tt cond) (he0 : DE (X.blk X.s_0 (fun _ => none) scope (compEnvC scope [] 0 X.env) []) elt te fe)
    (ht : ∀ (s : Shared) (H : Hp) (C : Addr) (cl : List (Str × Addr)) (fp : List Addr), DTs (X.blk s H scope (compEnvC scope cl C X.env) fp) ifs tt cond)
    (he : ∀ (s : Shared) (H : Hp) (C : Addr) (cl : List (Str × Addr)) (fp : List Addr), DE (X.blk s H scope (compEnvC scope cl C X.env) fp) elt te fe) (hc : X.calm = true := by rfl) (hy : X.N[i]? = some y := by rfl) (hyl : X.env.scope.names.lookup y = some .local := by rfl) (hs : ∀ x, foldedSetIterable iter X.env x = pure x := by intro _; rfl) :
    DS X (.Assign [.Name y py] (.ListComp elt [⟨tg, iter, ifs, 0⟩] scope pos) spos) (tAsg (tLc wi g tt te (own.map (·.2))) (gName i)) (pSetF i (pLc fi tgt cond fe (own.map (·.2)))) :=
  ⟨ps_setLc hc hN hy hyl hsw hi.pi ok (fun s H C cl fp => (hg s H C cl fp).pg) (fun s H C cl fp => (ht s H C cl fp).pe) (fun s H C cl fp => (he s H C cl fp).pe) hs,
    .setF i (.lc hi.pu (hg X.s_0 (fun _ => none) 0 [] []).pu hgs (ht X.s_0 (fun _ => none) 0 [] []).pu (he X.s_0 (fun _ => none) 0 [] []).pu)⟩
end

/-! ### an owned list becomes a state -/
def pStify' (i : Nat) (F : PTS) : PTS := fun pd env => match slot env i with
  | some (.own [.int s]) => 0 ≤ s ∧ F { nx := fun _ => False, bk := fun _ => False, ct := fun _ => False, rt := fun sv => match sv with | .v d => pd.rt (.v d) | _ => False } (env.set i (some .st))
  | _ => False
theorem PureS.stify {K : PySem.W.Frag} {t : TS} {F : PTS} (i : Nat) (h : PureS K t F) : PureS K t (pStify' i F) := fun Z S0 H0 S σ H env En pd x r hf e => by
  unfold pStify' at hf
  split at hf
  · rename_i s q
    obtain ⟨h0, hF⟩ := hf
    obtain ⟨v, h1, p, us, rfl, op, hp, ru, nS, nZ⟩ := r.get i _ (slot_get env i _ q)
    have hu : us = [.int s] := by
      cases ru with
      | cons a b => cases a; cases b; rfl
    subst hu
    have hl := r.len
    have hil : i < env.length := (List.getElem?_eq_some_iff.mp (slot_get env i _ q)).1
    have wd' : ∀ {S' : Fp} {H' : Hp}, Wd (fun a => Z a ∨ a = p) S' H' → Wd Z S' H' := fun w => ⟨w.sd, fun a z => w.zs a (.inl z), fun a z => w.zd a (.inl z)⟩
    have wx' : ∀ {S' : Fp} {H' : Hp}, Wx (fun a => Z a ∨ a = p) S0 H0 S' H' → Wx Z S0 H0 S' H' := fun w => ⟨fun a o nz ha => w.keep a o (fun z => by
      rcases z with z | rfl
      · exact nz z
      · rw [op] at ha; cases ha) ha, w.sub, w.new, wd' w.wd⟩
    refine h (fun a => Z a ∨ a = p) S0 H0 S σ H _ En _ ⟨fun a o nz ha => x.keep a o (fun z => nz (.inl z)) ha, x.sub, x.new, ⟨x.wd.sd, fun a z => ?_, fun a z => ?_⟩⟩ ⟨by simp [hl], fun j sv ej => ?_, fun j k a y z hjk e1 e2 o1 o2 s1 s2 => ?_⟩ hF ⟨fun _ _ _ _ _ _ _ z => z.elim, fun v H' S' sv x' r' z => ?_, fun _ _ _ _ _ _ _ z => z.elim, fun _ _ _ _ _ _ _ z => z.elim⟩
    · rcases z with z | rfl
      · exact x.wd.zs a z
      · exact nS
    · rcases z with z | rfl
      · exact x.wd.zd a z
      · exact ⟨s, h0, hp⟩
    · by_cases hij : i = j
      · subst hij
        rw [List.getElem?_set_self hil] at ej
        cases ej
        exact ⟨_, h1, p, rfl, .inr rfl⟩
      · rw [List.getElem?_set_ne hij] at ej
        obtain ⟨v, k1, k2⟩ := r.get j sv ej
        refine ⟨v, k1, ?_⟩
        cases sv with
        | v d => exact k2
        | own xs =>
          obtain ⟨q', vs, rfl, oq, hq, rq, nq, zq⟩ := k2
          refine ⟨q', vs, rfl, oq, hq, rq, nq, fun z => ?_⟩
          rcases z with z | rfl
          · exact zq z
          · exact r.dis i j _ _ _ hij (slot_get env i _ q) ej trivial trivial h1 k1
        | ownD xs =>
          obtain ⟨q', rfl, oq, hq, nq, zq⟩ := k2
          refine ⟨q', rfl, oq, hq, nq, fun z => ?_⟩
          rcases z with z | rfl
          · exact zq z
          · exact r.dis i j _ _ _ hij (slot_get env i _ q) ej trivial trivial h1 k1
        | st => obtain ⟨q', e1, z⟩ := k2; exact ⟨q', e1, .inl z⟩
        | scr ns => exact k2
        | any => trivial
    · have back : ∀ j (y : SV), (env.set i (some .st))[j]? = some (some y) → y.isOwn → env[j]? = some (some y) := fun j y e o => by
        by_cases hij : i = j
        · subst hij
          rw [List.getElem?_set_self hil] at e; cases e; exact o.elim
        · rw [List.getElem?_set_ne hij] at e; exact e
      exact r.dis j k a y z hjk (back j y e1 o1) (back k z e2 o2) o1 o2 s1 s2
    · cases sv <;> first | exact z.elim | skip
      exact e.rt v H' S' (.v _) (wx' x') (show Rep S' H' v _ from r') z
  · exact hf.elim
theorem dss_stify {X : Cx} {sts : List Stmt} {t : TS} {F : PTS} (i : Nat) (h : DSs X sts t F) : DSs X sts t (pStify' i F) := ⟨h.ps, .stify i h.pu⟩

/-! ### defs -/
abbrev PFn := List SV → (SV → Prop) → Prop
/-- the promise of a def on data -/
def spD (K : PySem.W.Frag) (G : PFn) : Sp := fun vs H Q _ => ∃ (Z S : Fp) (svs : List SV) (Qd : SV → Prop), Wd Z S H ∧ RepSVs K Z S H vs svs ∧ G svs Qd ∧
  ∀ v sv S' H', Wx Z S H S' H' → RepSV K Z (fun a => H a = none) S' H' v sv → Qd sv → Q v H'
theorem start_env {K : PySem.W.Frag} {Z S : Fp} {H : Hp} {vs : List V} {svs : List SV} (r : RepSVs K Z S H vs svs) (O : Fp) (N : List Str) : RepEnv K Z O S H (L2.start N vs) (svs.map some ++ List.replicate (N.length - svs.length) none) := by
  have hl := r.length
  have key : ∀ (i : Nat) (sv : SV), (svs.map some ++ List.replicate (N.length - svs.length) none)[i]? = some (some sv) → svs[i]? = some sv := fun i sv e => by
    by_cases hi : i < svs.length
    · rw [List.getElem?_append_left (by simpa using hi), List.getElem?_map] at e
      cases q : svs[i]? with
      | none => rw [q] at e; cases e
      | some z => rw [q] at e; cases e; rfl
    · rw [List.getElem?_append_right (by simpa using Nat.le_of_not_lt hi), List.getElem?_replicate] at e
      split at e <;> cases e
  refine ⟨by unfold L2.start; simp [hl], fun i sv e => ?_, fun i j a x y hij e1 e2 o1 o2 s1 s2 => ?_⟩
  · obtain ⟨v, h1, h2⟩ := r.get (key i sv e)
    refine ⟨v, ?_, h2.mono fun _ _ z => z.elim⟩
    unfold L2.start
    have hi : i < vs.length := (List.getElem?_eq_some_iff.mp h1).1
    rw [List.getElem?_append_left (by simpa using hi), List.getElem?_map, h1]
    rfl
  · obtain ⟨v, h1, h2⟩ := r.get (key i x e1)
    obtain ⟨p, o, _, f, _⟩ := h2.owns o1
    exact f
theorem def_ok {P : Program} {w : World} {K : PySem.W.Frag} {mg : Str → Option Value} {base : Heap} {x qual : Str} {st : Stmt} {f : Addr} {fd : FuncData} {N ps : List Str} {k : Nat} {Fb : PTS} (G : PFn) (F : Fun K x qual st f fd) (S : FnScope N ps (defScope st))
    (hb : ∀ (cdv : Value) (A : Around) (outer : List PySem.Env) (s : Shared) (H : Hp) (E : XK), Room k (A.deeper (envOfC qual (defScope st) s.heap.objs.size f cdv)) → ∃ tb, DSs (cxOf CX0 P w K mg base N qual (defScope st) f cdv A outer s H E).nox (defBody st) tb Fb)
    (hG : ∀ svs Qd, G svs Qd → svs.length = ps.length ∧ Fb { nx := fun _ => Qd (.v .none), rt := Qd, bk := fun _ => False, ct := fun _ => False } (svs.map some ++ List.replicate (N.length - svs.length) none)) : FnOk P w K mg base CX0 (k + 1) f fd ps (spD K G) := by
  refine F.ok S (fun vs H Q E h => ?_) (fun cdv A outer s H vs Q E hr h => ?_)
  · obtain ⟨Z, S, svs, Qd, w, r, g, _⟩ := h
    rw [r.length]
    exact (hG svs Qd g).1
  · obtain ⟨tb, dss⟩ := hb cdv A outer s H E hr
    refine ⟨tb, dss.ps, ?_⟩
    obtain ⟨Z, S, svs, Qd, w, r, g, q⟩ := h
    refine dss.pu Z S H S _ H _ _ _ (.refl w) (start_env r _ N) (hG svs Qd g).2 ⟨?_, ?_, fun _ _ _ _ _ _ _ z => z.elim, fun _ _ _ _ _ _ _ z => z.elim⟩
    · exact fun σ' H' S' env' x _ _ z => q _ (.v .none) S' H' x (show RepSV K Z _ S' H' .non (.v .none) from Rep.non) z
    · exact fun v H' S' sv x r z => q v sv S' H' x r z
/-- a def that may be called by its name -/
structure Callee (P : Program) (w : World) (K : PySem.W.Frag) (mg : Str → Option Value) (base : Heap) (k : Nat) (x : Str) (G : PFn) : Prop where
  ex : ∃ f fd ps, FnOk P w K mg base CX0 k f fd ps (spD K G) ∧ mg x = some (.ref f) ∧ PySem.W.keepIn K (.ref f) = true ∧ Binds K fd ps []
theorem Callee.imp {P : Program} {w : World} {K : PySem.W.Frag} {mg : Str → Option Value} {base : Heap} {k : Nat} {x : Str} {G G' : PFn} (C : Callee P w K mg base k x G) (h : ∀ svs Q, G' svs Q → G svs Q) : Callee P w K mg base k x G' := by
  obtain ⟨f, fd, ps, F, m, kp, b⟩ := C.ex
  exact ⟨f, fd, ps, F.imp fun vs H Q E ⟨Z, S, svs, Qd, w, r, g, q⟩ => ⟨Z, S, svs, Qd, w, r, h _ _ g, q⟩, m, kp, b⟩
def pCall (G : PFn) (fa : PTA) : PTF := fun env Q => fa env fun svs => G svs Q
section
variable {X : Cx} {e : Expr} {es : List Expr} {x : Str} {p pos : Pos}
theorem df_call {k j : Nat} {G : PFn} {t : TA} {fa : PTA} (C : Callee X.prog X.w X.K X.mg X.base k x G) (hr : Room j X.A) (hk : k ≤ j) (ha : DA X (e :: es) t fa) (hg : Gl X x := by rfl) (hdb : (x == ("__debug__" : Str)) = false := by decide)
    (he : starEach (e :: es) X.env = (false, eval e X.env) :: starEach es X.env := by rfl) (hpl : (backTo pos (starEach es X.env)).any (·.1) = false := by rfl) : DF X (.Call (.Name x p) (e :: es) [] pos) (tCall (spD X.K G) [] E0 t) (pCall G fa) := by
  obtain ⟨f, fd, ps, F, m, kp, b⟩ := C.ex
  refine ⟨pe_call F (hr.mono hk) hg m kp b .nil pass0 ha.pe hdb he hpl, fun Z O S σ H env Qd Q w rr hf k => ?_⟩
  refine ha.pu Z O S σ H env _ _ w rr hf fun vs svs S1 H1 x1 r1 q1 => ?_
  rw [List.append_nil]
  exact ⟨Z, S1, svs, Qd, x1.wd, r1, q1, fun v sv S2 H2 x2 r2 q2 => k v sv S2 H2 (x1.trans x2) (x1.freshen r2) q2⟩
end

/-! ### built-in functions -/
abbrev PBn := List D → (SV → Prop) → Prop
def PureC (r : List V → Hp → VK → Prop) (g : List D → (D → Prop) → Prop) : Prop := ∀ (Z S : Fp) (H : Hp) (xs : List V) (ds : List D) (Qd : D → Prop) (Q : VK), Wd Z S H → RepBs Z S H xs ds → g ds Qd →
  (∀ v d S' H', Wx Z S H S' H' → Rep S' H' v d → Qd d → Q v H') → r xs H Q
def PureCF (r : List V → Hp → VK → Prop) (g : PBn) : Prop := ∀ (K : PySem.W.Frag) (Z S : Fp) (H : Hp) (xs : List V) (ds : List D) (Qd : SV → Prop) (Q : VK), Wd Z S H → RepBs Z S H xs ds → g ds Qd →
  (∀ v sv S' H', Wx Z S H S' H' → RepSV K Z (fun a => H a = none) S' H' v sv → Qd sv → Q v H') → r xs H Q
def pB (g : List D → (D → Prop) → Prop) (fa : PTL) : PTE := fun env Q => fa env fun ds => g ds Q
def pBF (g : PBn) (fa : PTL) : PTF := fun env Q => fa env fun ds => g ds Q
section
variable {X : Cx} {e : Expr} {es : List Expr} {x : Str} {p pos : Pos} {t : TA} {fa : PTL} {id T : String} {r : List V → Hp → VK → Prop} {K : PySem.W.Frag}
theorem PureE.cb {g : List D → (D → Prop) → Prop} (hr : PureC r g) (ha : PureBs K t fa) : PureE K (tCB r t) (pB g fa) := fun Z O S σ H env Qd Q w rr hf k =>
  ha Z O S σ H env _ _ w rr hf fun vs ds S1 H1 x1 r1 q1 => hr Z S1 H1 vs ds Qd Q x1.wd r1 q1 fun v d S2 H2 x2 r2 q2 => k v d S2 H2 (x1.trans x2) r2 q2
theorem PureF.cb {g : PBn} (hr : PureCF r g) (ha : PureBs K t fa) : PureF K (tCB r t) (pBF g fa) := fun Z O S σ H env Qd Q w rr hf k =>
  ha Z O S σ H env _ _ w rr hf fun vs ds S1 H1 x1 r1 q1 => hr K Z S1 H1 vs ds Qd Q x1.wd r1 q1 fun v d S2 H2 x2 r2 q2 => k v d S2 H2 (x1.trans x2) (x1.freshen r2) q2
theorem de_callB {g : List D → (D → Prop) → Prop} (hc : CallR X (.builtin id) r) (hr : PureC r g) (hm : X.mg x = none) (ha : DBs X (e :: es) t fa) (hv : bootBuiltins x = some (.builtin id) := by decide +kernel) (hg : Gl X x := by rfl) (hn : x ≠ "__name__" := by decide) (hdb : (x == ("__debug__" : Str)) = false := by decide)
    (he : starEach (e :: es) X.env = (false, eval e X.env) :: starEach es X.env := by rfl) (hpl : (backTo pos (starEach es X.env)).any (·.1) = false := by rfl) : DE X (.Call (.Name x p) (e :: es) [] pos) (tCB r t) (pB g fa) :=
  ⟨pe_callB hc hg hm hv ha.pe hn hdb he hpl, .cb hr ha.pu⟩
theorem de_callTy {g : List D → (D → Prop) → Prop} (hc : CallR X (.type T) r) (hr : PureC r g) (hm : X.mg x = none) (ha : DBs X (e :: es) t fa) (hv : bootBuiltins x = some (.type T) := by decide +kernel) (hg : Gl X x := by rfl) (hn : x ≠ "__name__" := by decide) (hdb : (x == ("__debug__" : Str)) = false := by decide)
    (he : starEach (e :: es) X.env = (false, eval e X.env) :: starEach es X.env := by rfl) (hpl : (backTo pos (starEach es X.env)).any (·.1) = false := by rfl) : DE X (.Call (.Name x p) (e :: es) [] pos) (tCB r t) (pB g fa) :=
  ⟨pe_callTy hc hg hm hv ha.pe hn hdb he hpl, .cb hr ha.pu⟩
theorem df_callTy {g : PBn} (hc : CallR X (.type T) r) (hr : PureCF r g) (hm : X.mg x = none) (ha : DBs X (e :: es) t fa) (hv : bootBuiltins x = some (.type T) := by decide +kernel) (hg : Gl X x := by rfl) (hn : x ≠ "__name__" := by decide) (hdb : (x == ("__debug__" : Str)) = false := by decide)
    (he : starEach (e :: es) X.env = (false, eval e X.env) :: starEach es X.env := by rfl) (hpl : (backTo pos (starEach es X.env)).any (·.1) = false := by rfl) : DF X (.Call (.Name x p) (e :: es) [] pos) (tCB r t) (pBF g fa) :=
  ⟨pe_callTy hc hg hm hv ha.pe hn hdb he hpl, .cb hr ha.pu⟩
end
def gLen : List D → (D → Prop) → Prop
  | [.list xs], Q => Q (.int xs.length)
  | [.tuple xs], Q => Q (.int xs.length)
  | [.str z], Q => lineOk z.length ∧ Q (.int z.length)
  | _, _ => False
theorem pc_len {K : PySem.W.Frag} : PureC (fun xs H Q => ∃ x n, xs = [x] ∧ LenV K x H n ∧ Q (.int n) H) gLen := by
  intro Z S H xs ds Qd Q w r hf k
  cases r with
  | nil => exact hf.elim
  | cons ra r =>
    rename_i v d vs ds
    cases r with
    | cons _ _ => cases d <;> exact hf.elim
    | nil =>
      cases d <;> first | exact hf.elim | skip
      · cases ra.str
        exact ⟨_, _, rfl, ⟨hf.1, rfl⟩, k _ _ S H (.refl w) (.int _) hf.2⟩
      · obtain ⟨p, us, rfl, hp, r1⟩ := ra.list
        exact ⟨_, us.length, rfl, .inl ⟨us, SqL.of hp, rfl⟩, k _ _ S H (.refl w) (.int _) (by rw [r1.length]; exact hf)⟩
      · obtain ⟨p, us, rfl, sp, hp, r1⟩ := ra.tuple
        exact ⟨_, us.length, rfl, .inr ⟨us, SqT.of hp, rfl⟩, k _ _ S H (.refl w) (.int _) (by rw [r1.length]; exact hf)⟩
def gAbs : List D → (D → Prop) → Prop
  | [.int i], Q => Q (.int (i.natAbs : Int))
  | _, _ => False
theorem pc_abs : PureC (fun xs H Q => ∃ i, xs = [.int i] ∧ Q (.int (if i < 0 then -i else i)) H) gAbs := by
  intro Z S H xs ds Qd Q w r hf k
  cases r with
  | nil => exact hf.elim
  | cons ra r =>
    rename_i v d vs ds
    cases r with
    | cons _ _ => cases d <;> exact hf.elim
    | nil =>
      cases d <;> first | exact hf.elim | skip
      rename_i i
      cases ra.int
      have e : (if i < 0 then -i else i) = (i.natAbs : Int) := by split <;> omega
      exact ⟨_, rfl, by rw [e]; exact k _ _ S H (.refl w) (.int _) hf⟩
def gIntOf : List D → (D → Prop) → Prop
  | [.int i], Q => Q (.int i)
  | [.bool b], Q => Q (.int (if b then 1 else 0))
  | _, _ => False
theorem pc_int : PureC (fun xs H Q => (∃ i, xs = [.int i] ∧ Q (.int i) H) ∨ ∃ k, xs = [.bl k] ∧ Q (.int (if k then 1 else 0)) H) gIntOf := by
  intro Z S H xs ds Qd Q w r hf k
  cases r with
  | nil => exact hf.elim
  | cons ra r =>
    rename_i v d vs ds
    cases r with
    | cons _ _ => cases d <;> exact hf.elim
    | nil =>
      cases d <;> first | exact hf.elim | skip
      · cases ra.bool
        exact .inr ⟨_, rfl, k _ _ S H (.refl w) (.int _) hf⟩
      · cases ra.int
        exact .inl ⟨_, rfl, k _ _ S H (.refl w) (.int _) hf⟩
def gTupOf : List D → (D → Prop) → Prop
  | [.list xs], Q => Q (.tuple xs)
  | [.tuple xs], Q => Q (.tuple xs)
  | _, _ => False
theorem pc_tup {K : PySem.W.Frag} : PureC (fun xs H Q => ∃ p ys, xs = [.ref p] ∧ ((SqL K H p ys ∧ ∀ l, H l = none → Q (.ref l) (upd H l (.tup ys))) ∨ (SqT K H p ys ∧ Q (.ref p) H))) gTupOf := by
  intro Z S H xs ds Qd Q w r hf k
  cases r with
  | nil => exact hf.elim
  | cons ra r =>
    rename_i v d vs ds
    cases r with
    | cons _ _ => cases d <;> exact hf.elim
    | nil =>
      cases d <;> first | exact hf.elim | skip
      · obtain ⟨p, us, rfl, hp, r1⟩ := ra.list
        exact ⟨p, us, rfl, .inl ⟨SqL.of hp, fun l hl => k _ _ _ _ (Wx.layS w hl) (Wx.newTup w hl r1) hf⟩⟩
      · obtain ⟨p, us, rfl, sp, hp, r1⟩ := ra.tuple
        exact ⟨p, us, rfl, .inr ⟨SqT.of hp, k _ _ S H (.refl w) (.tup sp hp r1) hf⟩⟩
def gLstOf : PBn
  | [.list xs], Q => Q (.own xs)
  | [.tuple xs], Q => Q (.own xs)
  | _, _ => False
theorem pc_lst {K : PySem.W.Frag} : PureCF (fun xs H Q => ∃ p ys, xs = [.ref p] ∧ (SqL K H p ys ∨ SqT K H p ys) ∧ ∀ l, H l = none → Q (.ref l) (upd H l (.lst ys))) gLstOf := by
  intro K' Z S H xs ds Qd Q w r hf k
  cases r with
  | nil => exact hf.elim
  | cons ra r =>
    rename_i v d vs ds
    cases r with
    | cons _ _ => cases d <;> exact hf.elim
    | nil =>
      cases d <;> first | exact hf.elim | skip
      · obtain ⟨p, us, rfl, hp, r1⟩ := ra.list
        exact ⟨p, us, rfl, .inl (SqL.of hp), fun l hl => k _ _ _ _ (Wx.lay w hl) (Wx.newOwn w hl r1) hf⟩
      · obtain ⟨p, us, rfl, sp, hp, r1⟩ := ra.tuple
        exact ⟨p, us, rfl, .inr (SqT.of hp), fun l hl => k _ _ _ _ (Wx.lay w hl) (Wx.newOwn w hl r1) hf⟩
/-- isinstance -/
def tyN : D → String
  | .none => "NoneType"
  | .bool _ => "bool"
  | .int _ => "int"
  | .str _ => "str"
  | .list _ => "list"
  | .tuple _ => "tuple"
  | .dict _ => "dict"
def isInt : D → Bool
  | .int _ => true
  | .bool _ => true
  | _ => false
def isBool : D → Bool
  | .bool _ => true
  | _ => false
def isStr : D → Bool
  | .str _ => true
  | _ => false
def isList : D → Bool
  | .list _ => true
  | _ => false
def isTuple : D → Bool
  | .tuple _ => true
  | _ => false
def isDict : D → Bool
  | .dict _ => true
  | _ => false
theorem is_int (d : D) : kitB (tyN d) "int" = some (isInt d) := by cases d <;> (simp only [tyN, isInt]; decide +kernel)
theorem is_bool (d : D) : kitB (tyN d) "bool" = some (isBool d) := by cases d <;> (simp only [tyN, isBool]; decide +kernel)
theorem is_str (d : D) : kitB (tyN d) "str" = some (isStr d) := by cases d <;> (simp only [tyN, isStr]; decide +kernel)
theorem is_list (d : D) : kitB (tyN d) "list" = some (isList d) := by cases d <;> (simp only [tyN, isList]; decide +kernel)
theorem is_tuple (d : D) : kitB (tyN d) "tuple" = some (isTuple d) := by cases d <;> (simp only [tyN, isTuple]; decide +kernel)
theorem is_dict (d : D) : kitB (tyN d) "dict" = some (isDict d) := by cases d <;> (simp only [tyN, isDict]; decide +kernel)
def pIsi (p : D → Bool) (f : PTE) : PTE := fun env Q => f env fun d => Q (.bool (p d))
theorem RepB.ty {K : PySem.W.Frag} {Z S : Fp} {H : Hp} {v : V} {d : D} (r : RepB Z S H v d) : TyX K H v (.type (tyN d)) := by
  cases d with
  | none => cases r.none; exact .base .non
  | bool b => cases r.bool; exact .base (.bl b)
  | int b => cases r.int; exact .base (.int b)
  | str b => cases r.str; exact .base (.str b)
  | list b => obtain ⟨p, us, rfl, hp, _⟩ := r.list; exact .base (.lst hp)
  | tuple b => obtain ⟨p, us, rfl, _, hp, _⟩ := r.tuple; exact .base (.tup hp)
  | dict b =>
    obtain ⟨p, rfl, h⟩ := r.dict
    rcases h with ⟨us, hp, _⟩ | ⟨us, hp, _⟩
    · exact .base (.dK hp)
    · exact .base (.dT hp)
theorem de_isi {X : Cx} {e : Expr} {te : TE} {f : PTE} {T : Str} {n : String} {q : D → Bool} {p pt pos : Pos} (hp : ∀ d, kitB (tyN d) n = some (q d)) (hm : X.mg "isinstance" = none) (hmT : X.mg T = none) (h : DB X e te f) (hvT : bootBuiltins T = some (.type n) := by decide +kernel) (hg : Gl X "isinstance" := by rfl) (hgT : Gl X T := by rfl)
    (hn : T ≠ "__name__" := by decide) (hdb : (T == ("__debug__" : Str)) = false := by decide)
    (he : starEach [e, .Name T pt] X.env = (false, eval e X.env) :: starEach [.Name T pt] X.env := by rfl) (he2 : starEach [.Name T pt] X.env = (false, eval (.Name T pt) X.env) :: starEach [] X.env := by rfl) (hpl : (backTo pos (starEach [.Name T pt] X.env)).any (·.1) = false := by rfl) :
    DE X (.Call (.Name "isinstance" p) [e, .Name T pt] [] pos) (tCB (rIsi X.K) (tCons te (tCons (tC (.ty n)) tNil))) (pIsi q f) := by
  refine ⟨pe_callB call_isi hg hm (by decide +kernel) (pa_cons h.pe (pa_cons (pe_bltn hgT hmT hvT (show RelV (.ty n) (.type n) from rfl) hn hdb) pa_nil he2) he) (by decide) (by decide) he hpl, fun Z O S σ H env Qd Q w rr hf k => ?_⟩
  refine h.pu Z O S σ H env _ _ w rr hf fun v d S1 H1 x1 r1 q1 => ?_
  exact ⟨v, .ty n, _, _, q d, rfl, .ty n, r1.ty, kit_ty (hp d), k _ _ S1 H1 x1 (.bl _) q1⟩
end DL
/-! ## DL7 -/
set_option Elab.async false
set_option linter.all false
set_option maxRecDepth 100000
set_option maxHeartbeats 4000000
/-! DL7: the script and the state of a law; the end of a law's row. -/
namespace DL
open PySem L2 RZ RT PyProof.Rows

section
variable {X : Cx} {e : Expr} {te : TE} {f : PTE} {K : PySem.W.Frag} {pos p : Pos}
theorem SqF.now {H : Hp} {a : Addr} {xs : List V} (h : SqF K H a xs) : SqL K H a xs := h H fun _ _ z => z
def pLenS (i : Nat) : PTE := fun env Q => match slot env i with
  | some (.scr ns) => Q (.int ns.length)
  | _ => False
theorem de_lenS (i : Nat) {x : Str} (hm : X.mg "len" = none) (hN : X.N[i]? = some x := by rfl) (hv : Vis X.env.scope x := by first | exact Or.inl rfl | exact Or.inr (Or.inl rfl) | exact Or.inr (Or.inr rfl)) (hd : (x == ("__debug__" : Str)) = false := by decide) (hcd : (x == ("__classdict__" : Str)) = false := by decide) (hg : Gl X "len" := by rfl)
    (he : starEach [.Name x p2] X.env = (false, eval (.Name x p2) X.env) :: starEach [] X.env := by rfl) : DE X (.Call (.Name "len" p) [.Name x p2] [] pos) (tCB (fun xs H Q => ∃ x n, xs = [x] ∧ LenV X.K x H n ∧ Q (.int n) H) (tCons (tVar i) tNil)) (pLenS i) := by
  refine ⟨pe_callB call_len hg hm boot_len (pa_cons (pe_var hN hv hd hcd) pa_nil he) (by decide) (by decide) he (by rfl), fun Z O S σ H env Qd Q w rr hf k => ?_⟩
  unfold pLenS at hf
  split at hf
  · rename_i ns q
    obtain ⟨v, h1, a, rfl, h2⟩ := rr.get i _ (slot_get env i _ q)
    exact ⟨_, h1, _, ns.length, rfl, .inl ⟨_, h2.now, by simp⟩, k _ _ S H (.refl w) (.int _) hf⟩
  · exact hf.elim
def pIxS (i : Nat) (f : PTE) : PTE := fun env Q => match slot env i with
  | some (.scr ns) => f env fun d => match d with
    | .int j => match atI ns j with
      | some z => Q (.int z)
      | none => False
    | _ => False
  | _ => False
theorem atI_map {α β : Type} (g : α → β) (xs : List α) (j : Int) : atI (xs.map g) j = (atI xs j).map g := by
  unfold atI
  rw [List.length_map]
  cases ixN xs.length j with
  | none => rfl
  | some k => simp
theorem de_ixS (i : Nat) {x : Str} {b : Expr} (h : DE X b te f) (hN : X.N[i]? = some x := by rfl) (hv : Vis X.env.scope x := by first | exact Or.inl rfl | exact Or.inr (Or.inl rfl) | exact Or.inr (Or.inr rfl)) (hd : (x == ("__debug__" : Str)) = false := by decide) (hcd : (x == ("__classdict__" : Str)) = false := by decide) (hs : PlainIx b := by exact fun _ _ => rfl) :
    DE X (.Subscript (.Name x p) b pos) (tOp (rIxL X.K) (tVar i) te) (pIxS i f) := by
  refine ⟨pe_ix ix_list (pe_var hN hv hd hcd) h.pe hs, fun Z O S σ H env Qd Q w rr hf k => ?_⟩
  unfold pIxS at hf
  split at hf
  · rename_i ns q
    obtain ⟨v, h1, h0⟩ := rr.get i _ (slot_get env i _ q)
    obtain ⟨a, rfl, h2⟩ := id h0
    refine ⟨_, h1, h.pu Z O S σ H env _ _ w rr hf fun u d S1 H1 x1 r1 q1 => ?_⟩
    cases r1 <;> first | exact q1.elim | skip
    rename_i j
    obtain ⟨a', e, h3⟩ := RepSV.wx (K := X.K) (O := O) (sv := .scr ns) h0 w x1
    cases e
    cases ea : atI ns j with
    | none => simp only [ea] at q1
    | some z =>
      simp only [ea] at q1
      exact ⟨a, ns.map V.int, j, .int z, rfl, rfl, h3.now, by rw [atI_map, ea]; rfl, k _ _ S1 H1 x1 (.int _) q1⟩
  · exact hf.elim
/-- state[0] -/
def pSt (i : Nat) : PTE := fun env Q => match slot env i with
  | some .st => ∀ s : Int, 0 ≤ s → Q (.int s)
  | _ => False
theorem atI_zero (v : V) : atI [v] 0 = some v := rfl
theorem de_st (i : Nat) {x : Str} {kk : Nat} {pz : Pos} (hN : X.N[i]? = some x := by rfl) (hv : Vis X.env.scope x := by first | exact Or.inl rfl | exact Or.inr (Or.inl rfl) | exact Or.inr (Or.inr rfl)) (hd : (x == ("__debug__" : Str)) = false := by decide) (hcd : (x == ("__classdict__" : Str)) = false := by decide) (hs : PlainIx (.Constant (.int 0) kk pz) := by exact fun _ _ => rfl) :
    DE X (.Subscript (.Name x p) (.Constant (.int 0) kk pz) pos) (tOp (rIxL X.K) (tVar i) (tC (.int 0))) (pSt i) := by
  refine ⟨pe_ix ix_list (pe_var hN hv hd hcd) pe_int hs, fun Z O S σ H env Qd Q w rr hf k => ?_⟩
  unfold pSt at hf
  split at hf
  · rename_i q
    obtain ⟨v, h1, a, rfl, h2⟩ := rr.get i _ (slot_get env i _ q)
    obtain ⟨s, h0, hs⟩ := w.zd a h2
    exact ⟨_, h1, a, [.int s], 0, .int s, rfl, rfl, SqL.of hs, atI_zero _, k _ _ S H (.refl w) (.int _) (hf s h0)⟩
  · exact hf.elim
def pSetSt (i : Nat) (f : PTE) : PTS := fun pd env => match slot env i with
  | some .st => f env fun d => match d with
    | .int s => 0 ≤ s ∧ pd.nx env
    | _ => False
  | _ => False
theorem ds_setSt (i : Nat) {x : Str} {kk : Nat} {pz tp : Pos} (h : DE X e te f) (hN : X.N[i]? = some x := by rfl) (hv : Vis X.env.scope x := by first | exact Or.inl rfl | exact Or.inr (Or.inl rfl) | exact Or.inr (Or.inr rfl)) (hd : (x == ("__debug__" : Str)) = false := by decide) (hcd : (x == ("__classdict__" : Str)) = false := by decide)
    (hpg : PG X (.Subscript (.Name x p) (.Constant (.int 0) kk pz) tp) (L2.gSub (tVar i) (tC (.int 0)) rSetL)) (hs : swapsWithSole [.Subscript (.Name x p) (.Constant (.int 0) kk pz) tp] e pos.line X.env = pure false := by rfl) (hw : swappedStores [.Subscript (.Name x p) (.Constant (.int 0) kk pz) tp] e X.env = pure none := by rfl)
    (h1 : (assignEach [.Subscript (.Name x p) (.Constant (.int 0) kk pz) tp] X.env).map (·.2) = [assign (.Subscript (.Name x p) (.Constant (.int 0) kk pz) tp) X.env] := by rfl) :
    DS X (.Assign [.Subscript (.Name x p) (.Constant (.int 0) kk pz) tp] e pos) (tAsg te (L2.gSub (tVar i) (tC (.int 0)) rSetL)) (pSetSt i f) := by
  refine ⟨ps_asg h.pe hpg hs hw h1, fun Z S0 H0 S σ H env En pd x r hf en => ?_⟩
  unfold pSetSt at hf
  split at hf
  · rename_i q
    obtain ⟨v, h1, a, rfl, h2⟩ := r.get i _ (slot_get env i _ q)
    refine h.pu Z _ S σ H env _ _ x.wd r hf fun u d S1 H1 x1 r1 q1 => ?_
    cases r1 <;> first | exact q1.elim | skip
    rename_i s'
    obtain ⟨s, h0, hs⟩ := x1.wd.zd a h2
    have nS : ¬ S1 a := x1.wd.zs a h2
    refine ⟨_, h1, a, [.int s], 0, 0, rfl, rfl, hs, rfl, ?_⟩
    have wd : Wd Z S1 (upd H1 a (.lst [.int s'])) := ⟨fun b sb => by rw [upd_ne (show b ≠ a by rintro rfl; exact nS sb)]; exact x1.wd.sd b sb, x1.wd.zs, fun b zb => by
      by_cases hb : b = a
      · subst hb; exact ⟨s', q1.1, upd_same⟩
      · rw [upd_ne hb]; exact x1.wd.zd b zb⟩
    have x2 : Wx Z S1 H1 S1 (upd H1 a (.lst [.int s'])) := ⟨fun b o nz hb => by rw [upd_ne (show b ≠ a by rintro rfl; exact nz h2)]; exact hb, fun _ s => s, fun _ s => .inl s, wd⟩
    exact en.nx σ _ S1 env ((x.trans x1).trans x2) (x1.ws.trans x2.ws) ((r.wx x.wd x1).wx x1.wd x2) q1.2
  · exact hf.elim
end

/-! ### the end -/
structure Def (K : PySem.W.Frag) (mg : Str → Option Value) (x : Str) (st : Stmt) (ps : List Str) : Prop where
  ex : ∃ f fd, Fun K x x st f fd ∧ mg x = some (.ref f) ∧ Binds K fd ps [] ∧ (∀ (s : Shared) (us : List Value), us.length = ps.length → BindsTo s fd ⟨us, []⟩ (ps.zip us))
theorem def_at {K : PySem.W.Frag} {h : Heap} {mg : Str → Option Value} {x : Str} {st : Stmt} {ps : List Str} {f : Addr} {oc : Value} {od an : Option Addr} {osl : Array (Option Value)} {kV doc pm cdv ct : Value} (X : K.In h) (G : h.Ns mainGlobals mg)
    (a : PySem.W.nsIn K mainGlobals x = some (some (.ref f))) (l : K.lookup f = some ⟨oc, od, .func (PySem.W.fnOf x x (defArgs st) (defBody st) (defScope st) .none kV doc pm an cdv ct), osl⟩) (c : PySem.W.codeIn K cdv x = true) (k : PySem.W.keepIn K (.ref f) = true)
    (hb : ∀ (kV doc pm : Value) (an : Option Addr) (cdv ct : Value) (us : List Value), us.length = ps.length → bindArgs (PySem.W.fnOf x x (defArgs st) (defBody st) (defScope st) .none kV doc pm an cdv ct) ⟨us, []⟩ = pure (ps.zip us)) : Def K mg x st ps := by
  have F := fun_mk (st := st) l c k
  exact ⟨f, _, F, PySem.W.mg_of X G a, F.binds hb, fun s us hl => .of_eq (hb _ _ _ _ _ _ us hl)⟩
theorem callee_of {P : Program} {w : World} {K : PySem.W.Frag} {mg : Str → Option Value} {base : Heap} {k : Nat} {x : Str} {st : Stmt} {ps : List Str} {G : PFn} (d : Def K mg x st ps) (h : ∀ f fd, Fun K x x st f fd → FnOk P w K mg base CX0 k f fd ps (spD K G)) : Callee P w K mg base k x G := by
  obtain ⟨f, fd, F, m, b, _⟩ := d.ex
  exact ⟨f, fd, ps, h f fd F, m, F.kp, b⟩
/-- what a law promises -/
def G_law : PFn := fun svs Q => ∃ ns : List Int, svs = [.scr ns] ∧ Q (.v (.bool true))
theorem law_end (K : PySem.W.Frag) (H : Hp) (a : Addr) (ns : List Int) (hO : L2.Only H) (hS : SqL K H a (ns.map V.int)) (E : XK) : spD K G_law [.ref a] H (fun v _ => v = .bl true) E := by
  refine ⟨fun _ => False, fun _ => False, [.scr ns], fun sv => sv = .v (.bool true), ⟨fun _ z => z.elim, fun _ z => z.elim, fun _ z => z.elim⟩, .cons ⟨a, rfl, fun H2 h2 => ?_⟩ .nil, ⟨ns, rfl, rfl⟩, fun v sv S' H' _ r e => ?_⟩
  · rcases hS with (h | ⟨o, h⟩) | h
    · rcases hO a with q | ⟨o, xs, q⟩
      · rw [h] at q; cases q
      · rw [h] at q; cases q
    · exact .inl (.inr ⟨o, h2 o _ h⟩)
    · exact .inr h
  · subst e
    cases (show Rep S' H' v (.bool true) from r)
    rfl
theorem law_walk {l : PySem.W.OpenLaw} {k : Nat} {q : Program} {loose : List Str} {XP : (Str → Option Value) → Heap → Prop} {YP : World → Heap → Prop} {d : DefRec} {K : Params → PySem.W.Frag} {st : Stmt} (hn : l.most = some 63) (hdf : d.params.defaults = []) (hr : Room k callerA) (hnm : d.name = "law")
    (hY : ∀ (w : World) (h : Heap), YP w h → (K w.params).In h)
    (F : ∀ (w : World) (mg : Str → Option Value) (h : Heap), (K w.params).In h → h.Ns mainGlobals mg → Def (K w.params) mg "law" st ["script"] ∧
      ∀ (f : Addr) (fd : FuncData), Fun (K w.params) "law" "law" st f fd → ∀ base : Heap, (K w.params).In base → base.Ns mainGlobals mg → FnOk l.prog w (K w.params) mg base CX0 k f fd ["script"] (spD (K w.params) G_law)) :
    PySem.W.WalkO q loose XP YP l.row.toRowW d [] (fun f vs => PySem.call f vs) := by
  refine L2.walk_of (n := 63) (k := k) (x := "script") (K := K) (CX := fun _ => CX0) (sp := fun w => spD (K w.params) G_law) hn (by decide) hdf hr hY (fun w mg fa h KX G hmg => ?_) (fun w H a ns _ hO hS => law_end _ H a ns hO hS _) fun _ _ _ _ _ z => z
  obtain ⟨D, FF⟩ := F w mg h KX G
  obtain ⟨f, fd, Fn, m, _, b⟩ := D.ex
  rw [hnm, m] at hmg
  cases hmg
  exact ⟨fd, fun s u => b s [u] rfl, FF _ fd Fn⟩
end DL
/-! ## DL8 -/
set_option Elab.async false
set_option linter.all false
set_option maxRecDepth 100000
set_option maxHeartbeats 4000000
/-! DL8: is None, chains, a comprehension stored as a datum. -/
namespace DL
open PySem L2 RZ RT PyProof.Rows
section
variable {X : Cx} {a b c : Expr} {fa fb fc : PTE} {ta tb tc : TE} {pos : Pos} {K : PySem.W.Frag}
def isNone : D → Bool
  | .none => true
  | _ => false
def pIsN (f : PTE) : PTE := fun env Q => f env fun d => Q (.bool (isNone d))
def pNotN (f : PTE) : PTE := fun env Q => f env fun d => Q (.bool (!isNone d))
theorem RepB.isN {Z S : Fp} {H : Hp} {v : V} {d : D} (r : RepB Z S H v d) : decide (v = .non) = isNone d := by
  cases d with
  | none => cases r.none; rfl
  | bool b => cases r.bool; rfl
  | int b => cases r.int; rfl
  | str b => cases r.str; rfl
  | list b => obtain ⟨p, us, rfl, hp, _⟩ := r.list; rfl
  | tuple b => obtain ⟨p, us, rfl, _, hp, _⟩ := r.tuple; rfl
  | dict b => obtain ⟨p, rfl, h⟩ := r.dict; rfl
theorem PureE.isN (h : PureB K ta fa) : PureE K (tIsN ta) (pIsN fa) := fun Z O S σ H env Qd Q w rr hf k =>
  h Z O S σ H env _ _ w rr hf fun v d S1 H1 x1 r1 q1 => by rw [r1.isN]; exact k _ _ S1 H1 x1 (.bl _) q1
theorem PureE.notN (h : PureB K ta fa) : PureE K (tNotN ta) (pNotN fa) := fun Z O S σ H env Qd Q w rr hf k =>
  h Z O S σ H env _ _ w rr hf fun v d S1 H1 x1 r1 q1 => by rw [r1.isN]; exact k _ _ S1 H1 x1 (.bl _) q1
theorem de_isN {j pos'} (h : DB X a ta fa) : DE X (.Compare a [.Is] [.Constant .none j pos'] pos) (tIsN ta) (pIsN fa) := ⟨pe_cmp (pc_isN h.pe) rfl, .isN h.pu⟩
theorem de_notN {j pos'} (h : DB X a ta fa) : DE X (.Compare a [.IsNot] [.Constant .none j pos'] pos) (tNotN ta) (pNotN fa) := ⟨pe_cmp (pc_notN h.pe) rfl, .notN h.pu⟩
theorem dt_isN {j pos'} (h : DB X a ta fa) : DT X (.Compare a [.Is] [.Constant .none j pos'] pos) (tB (tIsN ta)) (pTest (pIsN fa)) := ⟨pt_cmp (pc_isN h.pe) rfl, .testB (.isN h.pu)⟩
theorem dt_notN {j pos'} (h : DB X a ta fa) : DT X (.Compare a [.IsNot] [.Constant .none j pos'] pos) (tB (tNotN ta)) (pTest (pNotN fa)) := ⟨pt_cmp (pc_notN h.pe) rfl, .testB (.notN h.pu)⟩
/-- a op b op c -/
def pChain (g g' : D → D → (D → Prop) → Prop) (fa fb fc : PTE) : PTE := fun env Q => fa env fun x => fb env fun y => g x y fun z => match z with
  | .bool k => if k = true then fc env fun w => g' y w Q else Q (.bool false)
  | _ => False
theorem PureE.chain {r r' : R2} {g g' : D → D → (D → Prop) → Prop} (hr : PureR r g) (hr' : PureR r' g') (ha : PureB K ta fa) (hb : PureB K tb fb) (hc : PureB K tc fc) : PureE K (tChain r r' ta tb tc) (pChain g g' fa fb fc) := by
  intro Z O S σ H env Qd Q w rr hf k
  refine ha Z O S σ H env _ _ w rr hf fun v d S1 H1 x1 r1 q1 => ?_
  refine hb Z O S1 σ H1 env _ _ x1.wd (rr.wx w x1) q1 fun u e S2 H2 x2 r2 q2 => ?_
  have x12 := x1.trans x2
  refine hr Z S2 H2 v u d e _ _ x2.wd (r1.wx x2) r2 q2 fun z b S3 H3 x3 r3 q3 => ?_
  cases b <;> first | exact q3.elim | skip
  rename_i b
  cases r3
  refine ⟨b, rfl, ?_⟩
  have x13 := x12.trans x3
  cases b with
  | true => exact hc Z O S3 σ H3 env _ _ x3.wd (rr.wx w x13) q3 fun s f S4 H4 x4 r4 q4 => hr' Z S4 H4 u s e f Qd Q x4.wd ((r2.wx x3).wx x4) r4 q4 fun v' d' S5 H5 x5 r5 q5 => k v' d' S5 H5 ((x13.trans x4).trans x5) r5 q5
  | false => exact k _ _ S3 H3 x13 (.bl _) q3
theorem dt_chain {op op' : CmpOp} {r r' : R2} {g g' : D → D → (D → Prop) → Prop} (ho : OpR X (compareOp op) r) (hr : PureR r g) (ho' : OpR X (compareOp op') r') (hr' : PureR r' g') (ha : DB X a ta fa) (hb : DB X b tb fb) (hc : DB X c tc fc)
    (hm : lastMarks [op, op'] [b, c] = false := by with_unfolding_all rfl) : DT X (.Compare a [op, op'] [b, c] pos) (tTest (tChain r r' ta tb tc)) (pTest (pChain g g' fa fb fc)) :=
  ⟨pt_chain ho ho' ha.pe hb.pe hc.pe hm, .test (.chain hr hr' ha.pu hb.pu hc.pu)⟩
end
theorem PureF.fz {K : PySem.W.Frag} {t : TE} {g : PTF} (h2 : PureF K t g) : PureE K t (pFz g) := fun Z O S σ H env Qd Q w r hf k => h2 Z O S σ H env _ Q w r hf fun v sv S' H' x rr q => by
  cases sv with
  | v d => exact k v d S' H' x rr q
  | own ds =>
    obtain ⟨p, vs, rfl, hn, hp, rs, ns, nz⟩ := rr
    exact k _ _ _ H' (x.letIn hn nz hp) (.lst (.inr rfl) hp (rs.mono (fun a s => .inl s) fun _ _ _ h => h)) q
  | ownD ds =>
    obtain ⟨p, rfl, hn, hp, ns, nz⟩ := rr
    rcases hp with ⟨vs, hp, rs⟩ | ⟨vs, hp, rs⟩
    · exact k _ _ _ H' (x.letIn hn nz hp) (.dk (.inr rfl) hp (rs.mono (fun a s => .inl s) fun _ _ _ h => h)) q
    · exact k _ _ _ H' (x.letIn hn nz hp) (.dt (.inr rfl) hp (rs.mono (fun a s => .inl s) fun _ _ _ h => h)) q
  | st => exact q.elim
  | scr ns => exact q.elim
  | any => exact q.elim
section
variable {X : Cx}
theorem ds_setLcZ (i : Nat) (own : List (Str × Nat)) {y : Str} {py : Pos} {elt tg iter : Expr} {ifs : List Expr} {scope : Scope} {pos spos : Pos} {wi : TI} {g : TG} {tt : TT} {te : TE} {fi : PTI} {tgt : PTG} {cond : PTT} {fe : PTE} {gs : List Nat} (hN : X.N.Nodup)
    (hsw : swapsWith (.ListComp elt [⟨tg, iter, ifs, 0⟩] scope pos) (some (.Name y py)) spos.line X.env = pure true) (hi : DI X tg iter wi fi) (ok : BlkOk X.N X.env.scope scope own) (hg0 : DG (X.blk X.s_0 (fun _ => none) scope (compEnvC scope [] 0 X.env) []) tg g tgt gs) (hgs : ∀ i ∈ gs, i ∈ own.map (·.2))
    (hg : ∀ (s : Shared) (H : Hp) (C : Addr) (cl : List (Str × Addr)) (fp : List Addr), DG (X.blk s H scope (compEnvC scope cl C X.env) fp) tg g tgt gs)
    (ht0 : DTs (X.blk X.s_0 (fun _ => none) scope (compEnvC scope [] 0 X.env) []) ifs tt cond) (he0 : DE (X.blk X.s_0 (fun _ => none) scope (compEnvC scope [] 0 X.env) []) elt te fe)
    (ht : ∀ (s : Shared) (H : Hp) (C : Addr) (cl : List (Str × Addr)) (fp : List Addr), DTs (X.blk s H scope (compEnvC scope cl C X.env) fp) ifs tt cond)
    (he : ∀ (s : Shared) (H : Hp) (C : Addr) (cl : List (Str × Addr)) (fp : List Addr), DE (X.blk s H scope (compEnvC scope cl C X.env) fp) elt te fe) (hc : X.calm = true := by rfl) (hy : X.N[i]? = some y := by rfl) (hyl : X.env.scope.names.lookup y = some .local := by rfl) (hs : ∀ x, foldedSetIterable iter X.env x = pure x := by intro _; rfl) :
    DS X (.Assign [.Name y py] (.ListComp elt [⟨tg, iter, ifs, 0⟩] scope pos) spos) (tAsg (tLc wi g tt te (own.map (·.2))) (gName i)) (pSet i (pFz (pLc fi tgt cond fe (own.map (·.2))))) :=
  ⟨ps_setLc hc hN hy hyl hsw hi.pi ok (fun s H C cl fp => (hg s H C cl fp).pg) (fun s H C cl fp => (ht s H C cl fp).pe) (fun s H C cl fp => (he s H C cl fp).pe) hs,
    .set i (PureF.lc hi.pu (hg X.s_0 (fun _ => none) 0 [] []).pu hgs (ht X.s_0 (fun _ => none) 0 [] []).pu (he X.s_0 (fun _ => none) 0 [] []).pu).fz⟩
/-- statements as they are needed by the printer -/
theorem ds_app (i : Nat) {x : Str} {p apos cpos pos : Pos} {e : Expr} {te : TE} {f : PTE} (h : DE X e te f) (hN : X.N[i]? = some x := by rfl) (hv : Vis X.env.scope x := by first | exact Or.inl rfl | exact Or.inr (Or.inl rfl) | exact Or.inr (Or.inr rfl)) (hd : (x == ("__debug__" : Str)) = false := by decide) (hcd : (x == ("__classdict__" : Str)) = false := by decide)
    (hbase : attributeBase (.Name x p) "append" X.env (eval (.Name x p) X.env) = eval (.Name x p) X.env := by rfl)
    (hfew : ((backTo cpos (starEach (e :: []) X.env)).all (fun x => !x.1) && (backToKw cpos (keywordEach [] X.env)).all (fun x => x.1.isSome)
      && decide ((e :: []).length + ([] : List Keyword).length + (if ([] : List Keyword).isEmpty then 0 else 1) < 30)) = true := by rfl)
    (hline : (apos.endLine == cpos.line) = true := by rfl) (hs1 : starEach (e :: []) X.env = (false, eval e X.env) :: starEach [] X.env := by rfl) (hplain : (backTo cpos (starEach [] X.env)).any (·.1) = false := by rfl)
    (hs : swapsWith (.Call (.Attribute (.Name x p) "append" apos) [e] [] cpos) none pos.line X.env = pure false := by rfl) :
    DS X (.Expr (.Call (.Attribute (.Name x p) "append" apos) [e] [] cpos) pos) (tDrop (tBM X.K "list" rAppend (tVar i) (tCons te tNil))) (pApp i f) :=
  ⟨ps_expr (pe_bm PySem.F.plainAttrs_list PySem.F.slot_list_append PySem.F.type_list_append mt_append (pe_var hN hv hd hcd) (pa_cons h.pe pa_nil hs1) hbase hfew hline hs1 hplain) hs, .app i h.pu⟩
theorem ds_ext (i : Nat) {x : Str} {p apos cpos pos : Pos} {e : Expr} {te : TE} {f : PTE} (h : DE X e te f) (hN : X.N[i]? = some x := by rfl) (hv : Vis X.env.scope x := by first | exact Or.inl rfl | exact Or.inr (Or.inl rfl) | exact Or.inr (Or.inr rfl)) (hd : (x == ("__debug__" : Str)) = false := by decide) (hcd : (x == ("__classdict__" : Str)) = false := by decide)
    (hbase : attributeBase (.Name x p) "extend" X.env (eval (.Name x p) X.env) = eval (.Name x p) X.env := by rfl)
    (hfew : ((backTo cpos (starEach (e :: []) X.env)).all (fun x => !x.1) && (backToKw cpos (keywordEach [] X.env)).all (fun x => x.1.isSome)
      && decide ((e :: []).length + ([] : List Keyword).length + (if ([] : List Keyword).isEmpty then 0 else 1) < 30)) = true := by rfl)
    (hline : (apos.endLine == cpos.line) = true := by rfl) (hs1 : starEach (e :: []) X.env = (false, eval e X.env) :: starEach [] X.env := by rfl) (hplain : (backTo cpos (starEach [] X.env)).any (·.1) = false := by rfl)
    (hs : swapsWith (.Call (.Attribute (.Name x p) "extend" apos) [e] [] cpos) none pos.line X.env = pure false := by rfl) :
    DS X (.Expr (.Call (.Attribute (.Name x p) "extend" apos) [e] [] cpos) pos) (tDrop (tBM X.K "list" rExtend (tVar i) (tCons te tNil))) (pExt i f) :=
  ⟨ps_expr (pe_bm PySem.F.plainAttrs_list PySem.F.slot_list_extend PySem.F.type_list_extend mt_extend (pe_var hN hv hd hcd) (pa_cons h.pe pa_nil hs1) hbase hfew hline hs1 hplain) hs, .ext i h.pu⟩
theorem ds_pop (i : Nat) {x : Str} {p apos cpos pos : Pos} (hN : X.N[i]? = some x := by rfl) (hv : Vis X.env.scope x := by first | exact Or.inl rfl | exact Or.inr (Or.inl rfl) | exact Or.inr (Or.inr rfl)) (hd : (x == ("__debug__" : Str)) = false := by decide) (hcd : (x == ("__classdict__" : Str)) = false := by decide)
    (hbase : attributeBase (.Name x p) "pop" X.env (eval (.Name x p) X.env) = eval (.Name x p) X.env := by rfl) (hline : (apos.endLine == cpos.line) = true := by rfl)
    (hs : swapsWith (.Call (.Attribute (.Name x p) "pop" apos) [] [] cpos) none pos.line X.env = pure false := by rfl) :
    DS X (.Expr (.Call (.Attribute (.Name x p) "pop" apos) [] [] cpos) pos) (tDrop (tBM0 X.K "list" rPop (tVar i))) (pPop i) :=
  ⟨ps_expr (pe_bm0 PySem.F.plainAttrs_list PySem.F.slot_list_pop PySem.F.type_list_pop mt_pop (pe_var hN hv hd hcd) hbase hline) hs, .pop i⟩
theorem ds_setIx (i : Nat) {x : Str} {p tp pos : Pos} {b e : Expr} {ti te : TE} {fi f : PTE} (hi : DE X b ti fi) (h : DE X e te f)
    (hpg : PG X (.Subscript (.Name x p) b tp) (L2.gSub (tVar i) ti rSetL)) (hs : swapsWithSole [.Subscript (.Name x p) b tp] e pos.line X.env = pure false := by rfl) (hw : swappedStores [.Subscript (.Name x p) b tp] e X.env = pure none := by rfl)
    (h1 : (assignEach [.Subscript (.Name x p) b tp] X.env).map (·.2) = [assign (.Subscript (.Name x p) b tp) X.env] := by rfl) :
    DS X (.Assign [.Subscript (.Name x p) b tp] e pos) (tAsg te (L2.gSub (tVar i) ti rSetL)) (pSetIx i fi f) := ⟨ps_asg h.pe hpg hs hw h1, .setIx i hi.pu h.pu⟩
end
/-! ### frozen values, for the walk -/
def frz (Q : D → Prop) : SV → Prop
  | .v d => Q d
  | .own ds => Q (.list ds)
  | .ownD ks => Q (.dict ks)
  | _ => False
theorem pFz_eq (f : PTF) (env : Env) (Q : D → Prop) : pFz f env Q = f env (frz Q) := rfl
theorem frz_v (Q : D → Prop) (d : D) : frz Q (.v d) = Q d := rfl
theorem frz_own (Q : D → Prop) (d : List D) : frz Q (.own d) = Q (.list d) := rfl
theorem frz_ownD (Q : D → Prop) (d : List (D × D)) : frz Q (.ownD d) = Q (.dict d) := rfl
theorem slot_z (x : Option SV) (r : Env) : slot (x :: r) 0 = x := rfl
theorem slot_s (x : Option SV) (r : Env) (n : Nat) : slot (x :: r) (n + 1) = slot r n := rfl
theorem set_z (x y : Option SV) (r : Env) : List.set (x :: r) 0 y = y :: r := rfl
theorem set_s (x y : Option SV) (r : Env) (n : Nat) : List.set (x :: r) (n + 1) y = x :: List.set r n y := rfl
end DL
/-! ## DL9 -/
set_option Elab.async false
set_option linter.all false
set_option maxRecDepth 100000
set_option maxHeartbeats 4000000
/-! DL9: the readings applied, for the walk (printed by mkap.py). -/
namespace DL
open PySem L2 RZ RT PyProof.Rows
def ForB (tgt : PTG) (F : PTS) (pd : PEnds) (ds : List D) (env : Env) : Prop :=  ∃ I : Nat → Env → Prop, I 0 env ∧
  (∀ k env' d, I k env' → ds[k]? = some d → tgt d env' fun env2 => F { pd with nx := I (k + 1), ct := I (k + 1), bk := pd.nx } env2) ∧ (∀ env', I ds.length env' → pd.nx env')
def LcB (tgt : PTG) (cond : PTT) (elt : PTE) (vs : List Nat) (env : Env) (Q : SV → Prop) (ds : List D) : Prop :=  ds.length ≤ 16777216 ∧ ∃ I : Nat → List D → Prop, I 0 [] ∧
  (∀ k acc d, I k acc → ds[k]? = some d → tgt d (wipeE env vs) fun env2 => cond env2 fun b => if b = true then elt env2 fun y => I (k + 1) (acc ++ [y]) else I (k + 1) acc) ∧ (∀ acc, I ds.length acc → Q (.own acc))
theorem pSeq_ap (F G : PTS) (pd : PEnds) (env : Env) : pSeq F G pd env = (F { pd with nx := G pd } env) := rfl
theorem pSet_ap (i : Nat) (f : PTE) (pd : PEnds) (env : Env) : pSet i f pd env = (f env fun d => pd.nx (env.set i (some (.v d)))) := rfl
theorem pSetF_ap (i : Nat) (f : PTF) (pd : PEnds) (env : Env) : pSetF i f pd env = (f env fun sv => pd.nx (env.set i (some sv))) := rfl
theorem pRet_ap (f : PTE) (pd : PEnds) (env : Env) : pRet f pd env = (f env fun d => pd.rt (.v d)) := rfl
theorem pRetF_ap (f : PTF) (pd : PEnds) (env : Env) : pRetF f pd env = (f env pd.rt) := rfl
theorem pRetVar_ap (i : Nat) (pd : PEnds) (env : Env) : pRetVar i pd env = (match slot env i with
  | some (.v d) => pd.rt (.v d)
  | some (.own ds) => pd.rt (.own ds)
  | some (.ownD ds) => pd.rt (.ownD ds)
  | _ => False) := rfl
theorem pRetN_ap  (pd : PEnds) (Q0 : Env) : pRetN  pd Q0 = (pd.rt (.v .none)) := rfl
theorem pIfS_ap (c : PTT) (F G : PTS) (pd : PEnds) (env : Env) : pIfS c F G pd env = (c env fun b => if b = true then F pd env else G pd env) := rfl
theorem pPar_ap (i j : Nat) (f : PTL) (pd : PEnds) (env : Env) : pPar i j f pd env = (f env fun ds => match ds with
  | [x, y] => pd.nx ((env.set i (some (.v x))).set j (some (.v y)))
  | _ => False) := rfl
theorem pNext_ap  (pd : PEnds) (env : Env) : pNext  pd env = (pd.nx env) := rfl
theorem pNever_ap  (env0 : PEnds) (Q0 : Env) : pNever  env0 Q0 = (False) := rfl
theorem pTgt_ap (f : PTE) (g : PTG) (pd : PEnds) (env : Env) : pTgt f g pd env = (f env fun d => g d env pd.nx) := rfl
theorem pDrop_ap (f : PTE) (pd : PEnds) (env : Env) : pDrop f pd env = (f env fun _ => pd.nx env) := rfl
theorem pVar_ap (i : Nat) (env : Env) (Q : D → Prop) : pVar i env Q = (match slot env i with
  | some (.v d) => Q d
  | _ => False) := rfl
theorem pVarB_ap (i : Nat) (env : Env) (Q : D → Prop) : pVarB i env Q = (match slot env i with
  | some (.v d) => Q d
  | some (.own ds) => Q (.list ds)
  | some (.ownD ds) => Q (.dict ds)
  | _ => False) := rfl
theorem pC_ap (d : D) (env0 : Env) (Q : D → Prop) : pC d env0 Q = (Q d) := rfl
theorem pV_ap (f : PTE) (env : Env) (Q : SV → Prop) : pV f env Q = (f env fun d => Q (.v d)) := rfl
theorem pTest_ap (f : PTE) (env : Env) (Q : Bool → Prop) : pTest f env Q = (f env fun d => match d with
  | .bool b => Q b
  | _ => False) := rfl
theorem pAnd_ap (f g : PTT) (env : Env) (Q : Bool → Prop) : pAnd f g env Q = (f env fun c => if c = true then g env Q else Q false) := rfl
theorem pOr_ap (f g : PTT) (env : Env) (Q : Bool → Prop) : pOr f g env Q = (f env fun c => if c = true then Q true else g env Q) := rfl
theorem pNot_ap (f : PTT) (env : Env) (Q : Bool → Prop) : pNot f env Q = (f env fun c => Q (!c)) := rfl
theorem pIf_ap (c : PTT) (fa fb : PTE) (env : Env) (Q : D → Prop) : pIf c fa fb env Q = (c env fun b => if b = true then fa env Q else fb env Q) := rfl
theorem pAndV_ap (fa fb : PTE) (env : Env) (Q : D → Prop) : pAndV fa fb env Q = (fa env fun d => match d with
  | .bool c => if c = true then fb env Q else Q (.bool false)
  | _ => False) := rfl
theorem pOrV_ap (fa fb : PTE) (env : Env) (Q : D → Prop) : pOrV fa fb env Q = (fa env fun d => match d with
  | .bool c => if c = true then Q (.bool true) else fb env Q
  | _ => False) := rfl
theorem pNotV_ap (fa : PTE) (env : Env) (Q : D → Prop) : pNotV fa env Q = (fa env fun d => match d with
  | .bool c => Q (.bool (!c))
  | _ => False) := rfl
theorem pNil_ap  (env0 : Env) (Q : List D → Prop) : pNil  env0 Q = (Q []) := rfl
theorem pCons_ap (f : PTE) (g : PTL) (env : Env) (Q : List D → Prop) : pCons f g env Q = (f env fun x => g env fun xs => Q (x :: xs)) := rfl
theorem aNil_ap  (env0 : Env) (Q : List SV → Prop) : aNil  env0 Q = (Q []) := rfl
theorem aCons_ap (f : PTE) (g : PTA) (env : Env) (Q : List SV → Prop) : aCons f g env Q = (f env fun x => g env fun xs => Q (.v x :: xs)) := rfl
theorem aSlot_ap (i : Nat) (g : PTA) (env : Env) (Q : List SV → Prop) : aSlot i g env Q = (match slot env i with
  | some .st => g env fun xs => Q (.st :: xs)
  | some (.scr ns) => g env fun xs => Q (.scr ns :: xs)
  | _ => False) := rfl
theorem pTup_ap (g : PTL) (env : Env) (Q : D → Prop) : pTup g env Q = (g env fun xs => lineOk xs.length ∧ Q (.tuple xs)) := rfl
theorem pLst_ap (g : PTL) (env : Env) (Q : SV → Prop) : pLst g env Q = (g env fun xs => lineOk xs.length ∧ Q (.own xs)) := rfl
theorem pBF_ap (g : PBn) (fa : PTL) (env : Env) (Q : SV → Prop) : pBF g fa env Q = (fa env fun ds => g ds Q) := rfl
theorem pCall_ap (G : PFn) (fa : PTA) (env : Env) (Q : SV → Prop) : pCall G fa env Q = (fa env fun svs => G svs Q) := rfl
theorem pIsi_ap (p : D → Bool) (f : PTE) (env : Env) (Q : D → Prop) : pIsi p f env Q = (f env fun d => Q (.bool (p d))) := rfl
theorem pIsN_ap (f : PTE) (env : Env) (Q : D → Prop) : pIsN f env Q = (f env fun d => Q (.bool (isNone d))) := rfl
theorem pNotN_ap (f : PTE) (env : Env) (Q : D → Prop) : pNotN f env Q = (f env fun d => Q (.bool (!isNone d))) := rfl
theorem pSt_ap (i : Nat) (env : Env) (Q : D → Prop) : pSt i env Q = (match slot env i with
  | some .st => ∀ s : Int, 0 ≤ s → Q (.int s)
  | _ => False) := rfl
theorem pSetSt_ap (i : Nat) (f : PTE) (pd : PEnds) (env : Env) : pSetSt i f pd env = (match slot env i with
  | some .st => f env fun d => match d with
    | .int s => 0 ≤ s ∧ pd.nx env
    | _ => False
  | _ => False) := rfl
theorem pLenS_ap (i : Nat) (env : Env) (Q : D → Prop) : pLenS i env Q = (match slot env i with
  | some (.scr ns) => Q (.int ns.length)
  | _ => False) := rfl
theorem pIxS_ap (i : Nat) (f : PTE) (env : Env) (Q : D → Prop) : pIxS i f env Q = (match slot env i with
  | some (.scr ns) => f env fun d => match d with
    | .int j => match atI ns j with
      | some z => Q (.int z)
      | none => False
    | _ => False
  | _ => False) := rfl
theorem pFor_ap (fi : PTI) (tgt : PTG) (F : PTS) (pd : PEnds) (env : Env) : pFor fi tgt F pd env = (fi env fun ds => ForB tgt F pd ds env) := rfl
theorem pIter_ap (f : PTE) (env : Env) (Q : List D → Prop) : pIter f env Q = (f env fun d => gItems d Q) := rfl
theorem pRange1_ap (f : PTE) (env : Env) (Q : List D → Prop) : pRange1 f env Q = (f env fun d => match d with
  | .int n => (-(2 ^ 62) ≤ n ∧ n < 2 ^ 62) ∧ Q (rngD 0 n.toNat)
  | _ => False) := rfl
theorem pRange2_ap (f g : PTE) (env : Env) (Q : List D → Prop) : pRange2 f g env Q = (f env fun d => g env fun e => match d, e with
  | .int i, .int j => (-(2 ^ 62) ≤ i ∧ i < 2 ^ 62 ∧ -(2 ^ 62) ≤ j ∧ j < 2 ^ 62) ∧ Q (rngD i (j - i).toNat)
  | _, _ => False) := rfl
theorem pRev_ap (f : PTE) (env : Env) (Q : List D → Prop) : pRev f env Q = (f env fun d => gItems d fun ds => Q ds.reverse) := rfl
theorem pZip_ap (f g : PTE) (env : Env) (Q : List D → Prop) : pZip f g env Q = (f env fun d => g env fun e => match d, e with
  | .list xs, .list ys => Q (pairs xs ys)
  | .tuple xs, .tuple ys => Q (pairs xs ys)
  | _, _ => False) := rfl
theorem pSl_ap (f : PTE) (l h : PTO) (env : Env) (Q : SV → Prop) : pSl f l h env Q = (f env fun d => l env fun lo => h env fun hi => gSl d lo hi Q) := rfl
theorem pNoPart_ap  (env0 : Env) (Q : Option Int → Prop) : pNoPart  env0 Q = (Q none) := rfl
theorem pPart_ap (f : PTE) (env : Env) (Q : Option Int → Prop) : pPart f env Q = (f env fun d => match d with
  | .int i => Q (some i)
  | _ => False) := rfl
theorem pFreeze_ap (i : Nat) (F : PTS) (pd : PEnds) (env : Env) : pFreeze i F pd env = (match slot env i with
  | some (.own ds) => F pd (env.set i (some (.v (.list ds))))
  | some (.ownD ds) => F pd (env.set i (some (.v (.dict ds))))
  | _ => F pd env) := rfl
theorem pApp_ap (i : Nat) (f : PTE) (pd : PEnds) (env : Env) : pApp i f pd env = (match slot env i with
  | some (.own ds) => f env fun d => ds.length < 16777216 ∧ pd.nx (env.set i (some (.own (ds ++ [d]))))
  | _ => False) := rfl
theorem pExt_ap (i : Nat) (f : PTE) (pd : PEnds) (env : Env) : pExt i f pd env = (match slot env i with
  | some (.own ds) => f env fun d => match d with
    | .list es => ds.length + es.length ≤ 16777216 ∧ pd.nx (env.set i (some (.own (ds ++ es))))
    | _ => False
  | _ => False) := rfl
theorem pPop_ap (i : Nat) (pd : PEnds) (env : Env) : pPop i pd env = (match slot env i with
  | some (.own ds) => ds ≠ [] ∧ pd.nx (env.set i (some (.own ds.dropLast)))
  | _ => False) := rfl
theorem pSetIx_ap (i : Nat) (fi fe : PTE) (pd : PEnds) (env : Env) : pSetIx i fi fe pd env = (match slot env i with
  | some (.own ds) => fe env fun d => fi env fun k => match k with
    | .int n => match ixN ds.length n with
      | some j => pd.nx (env.set i (some (.own (ds.set j d))))
      | none => False
    | _ => False
  | _ => False) := rfl
theorem pBreak_ap  (pd : PEnds) (env : Env) : pBreak  pd env = (pd.bk env) := rfl
theorem pCont_ap  (pd : PEnds) (env : Env) : pCont  pd env = (pd.ct env) := rfl
theorem pYes_ap  (env0 : Env) (Q : Bool → Prop) : pYes  env0 Q = (Q true) := rfl
theorem pLc_ap (fi : PTI) (tgt : PTG) (cond : PTT) (elt : PTE) (vs : List Nat) (env : Env) (Q : SV → Prop) : pLc fi tgt cond elt vs env Q = (fi env fun ds => LcB tgt cond elt vs env Q ds) := rfl
theorem atL1_0 (x : D) : atI [x] 0 = some x := rfl
theorem atL2_0 (x y : D) : atI [x, y] 0 = some x := rfl
theorem atL2_1 (x y : D) : atI [x, y] 1 = some y := rfl
theorem atL3_0 (x y z : D) : atI [x, y, z] 0 = some x := rfl
theorem atL3_1 (x y z : D) : atI [x, y, z] 1 = some y := rfl
theorem atL3_2 (x y z : D) : atI [x, y, z] 2 = some z := rfl
theorem pOp_ap (g : D → D → (D → Prop) → Prop) (fa fb : PTE) (env : Env) (Q : D → Prop) : pOp g fa fb env Q = (fa env fun x => fb env fun y => g x y Q) := rfl
theorem pOpF_ap (g : D → D → (SV → Prop) → Prop) (fa fb : PTE) (env : Env) (Q : SV → Prop) : pOpF g fa fb env Q = (fa env fun x => fb env fun y => g x y Q) := rfl
theorem pUn_ap (g : D → (D → Prop) → Prop) (fa : PTE) (env : Env) (Q : D → Prop) : pUn g fa env Q = (fa env fun x => g x Q) := rfl
theorem pB_ap (g : List D → (D → Prop) → Prop) (fa : PTL) (env : Env) (Q : D → Prop) : pB g fa env Q = (fa env fun x => g x Q) := rfl

end DL
/-! ## DLenum -/
set_option Elab.async false
set_option linter.all false
set_option maxRecDepth 100000
set_option maxHeartbeats 4000000
/-! DLenum: enumerate of a list or a tuple. -/
namespace PySem
open Sem (wp)
open AutoSeq1 (wpAny_loadPart')
theorem dl_enum_newT (l : Addr) (items : Array Value) (n : Nat) (dct : Option Addr) (sl : Array (Option Value)) :
    Meets (Builtin.«enumerate.__new__» ⟨[.type "enumerate", .ref l], []⟩) (fun _ R s => s.heap.get? l = some { cls := .type "tuple", dict := dct, data := .seq items n, slots := sl } ∧
      R (.ok (.ret (.ref (s.heap.push { cls := .type "tuple_iterator", data := .fields #[.ref l, .int 0 0] }).objs.size)))
        { s with heap := (s.heap.push { cls := .type "tuple_iterator", data := .fields #[.ref l, .int 0 0] }).push { cls := .type "enumerate", data := .fields #[.none, .bool false, .ref s.heap.objs.size, rawInt 0, .none, .none] } }) :=
  .of_wp fun prog w A R s h => by
    obtain ⟨hp, g, d, tk, os⟩ := s
    obtain ⟨hl, h⟩ := h
    have hsub := sub_enumerate
    have hL : Heap.IsTuple (Shared.heap ⟨hp, g, d, tk, os⟩) l items := ⟨_, hl, rfl, n, rfl⟩
    wp_walk using wpAny_loadPart' hl
    refine wpAny_stack_any fun st => wpAny_pure ?_
    split
    · rename_i c _ _ _ _ _
      cases (c == Value.type "enumerate")
      · wp_walk using wpAny_loadPart' hl, wpAny_pyIter_tuple hL
        exact ⟨_, rfl, h⟩
      · wp_walk using wpAny_loadPart' hl, wpAny_pyIter_tuple hL
        exact ⟨_, rfl, h⟩
    · wp_walk using wpAny_loadPart' hl, wpAny_pyIter_tuple hL
      exact ⟨_, rfl, h⟩
section
variable {prog : Program} {w : World} {A : Around} {E : Value → Shared → Prop} {s : Shared}
theorem dl_call_enum_tuple {l : Addr} {items : Array Value} {Q : Value → Shared → Prop} (hL : s.heap.IsTuple l items)
    (h : ∀ h', IsEnum h' (s.heap.objs.size + 1) s.heap.objs.size 0 .none → h'.IsTupleIter s.heap.objs.size l 0 →
      (∀ b o, s.heap.get? b = some o → h'.get? b = some o) → Q (.ref (s.heap.objs.size + 1)) { s with heap := h' }) :
    wpAny (model prog w) A (call (.type "enumerate") [.ref l]) Q E s := by
  obtain ⟨⟨c, dct, dt, sl⟩, hl, hc, n, hd⟩ := hL
  replace hc : c = .type "tuple" := hc
  replace hd : dt = .seq items n := hd
  subst hc hd
  refine callType_new F.called_enumerate (by decide) (F.typeCall_enumerate_1 _) (F.newCall_enumerate_1 _) (fun obj => F.args_object_init_2 obj _) F.entry_enumerate_new
    (dl_enum_newT l items n dct sl) ⟨hl, ?_⟩
  have hz : (s.heap.push { cls := .type "tuple_iterator", data := .fields #[.ref l, .int 0 0] }).objs.size = s.heap.objs.size + 1 := Heap.size_push ..
  show _ ∧ _
  rw [hz]
  have he : IsEnum ((s.heap.push { cls := .type "tuple_iterator", data := .fields #[.ref l, .int 0 0] }).push
      { cls := .type "enumerate", data := .fields #[.none, .bool false, .ref s.heap.objs.size, rawInt 0, .none, .none] }) (s.heap.objs.size + 1) s.heap.objs.size 0 .none := by
    have q := Heap.get?_push_size (s.heap.push { cls := .type "tuple_iterator", data := .fields #[.ref l, .int 0 0] })
      (o := { cls := .type "enumerate", data := .fields #[.none, .bool false, .ref s.heap.objs.size, rawInt 0, .none, .none] }) rfl
    rw [hz] at q
    exact q
  exact ⟨⟨_, he, rfl⟩, h _ he ⟨_, Heap.get?_push_of_some _ (Heap.get?_push_size _ rfl), rfl, rfl⟩ fun b o x => Heap.get?_push_of_some _ (Heap.get?_push_of_some _ x)⟩
end
end PySem
namespace DL
open PySem L2 RZ RT PyProof.Rows
def IteT (K : PySem.W.Frag) (a : Addr) : It :=
  ⟨fun i H => ∃ (xs : List V) (x : V), SqT K H a xs ∧ xs[i]? = some x, fun i H v H' => ∃ T x, v = .ref T ∧ H T = none ∧ H' = upd H T (.tup [.int (i : Nat), x]) ∧ ∀ xs, SqT K H a xs → xs[i]? = some x, fun i H => ∃ xs : List V, SqT K H a xs ∧ xs.length ≤ i⟩
theorem turn_enumT {P : Program} {w : World} {K : PySem.W.Frag} {elts : List Expr} {kk : Nat} {tpos : Pos} (a e it : Addr) :
    Turn P w K (.Tuple elts kk tpos) (IteT K a) [e, it] e (fun i h => (∃ old, IsEnum h e it ((i : Nat) : Int) old) ∧ h.IsTupleIter it a i ∧ e ≠ it ∧ a ≠ it ∧ a ≠ e) where
  mem := by simp
  obj := fun i h st b hb => by
    obtain ⟨⟨old, he⟩, ⟨o, ho, hc, hd⟩, _⟩ := st
    have e' : b = e ∨ b = it := by simpa using hb
    rcases e' with z | z
    · rw [z]; exact ⟨_, he, fun v q => nomatch q⟩
    · rw [z]; exact ⟨o, ho, fun v q => by rw [hd] at q; cases q⟩
  keep := fun i h h' st k => let ⟨⟨old, he⟩, hi, hne⟩ := st; ⟨⟨old, k e (by simp) _ he⟩, hi.at fun o q => k it (by simp) o q, hne⟩
  item := by
    intro X hP hw hK hc i pins s σ H E I hf st hg
    subst hP hw hK
    obtain ⟨⟨old, he⟩, hit, hne, hai, hae⟩ := st
    obtain ⟨xs, x, hq, hx⟩ := hg
    obtain ⟨its, rv, p, hz⟩ := I.tuple hq
    obtain ⟨u, hu, ru⟩ := rv.get hx
    have hel : e < s.heap.objs.size := Heap.lt_size he
    have hil : it < s.heap.objs.size := by obtain ⟨_, q, _⟩ := hit; exact Heap.lt_size q
    have hin : i < its.toArray.size := by
      have := (List.getElem?_eq_some_iff.mp hu).1
      simpa using this
    refine wpAny_pyNext_enum_itemD (Draws.tuple (by exact I.ok.hd hc) it a hai its.toArray) he ⟨hit, p⟩ hin hne (by simp [hne, Ne.symm hae]) fun x' h' tk hx' ho hit' hT hsz hk => ?_
    have ex : x' = u := by
      have : its.toArray[i]? = some u := by simpa using hu
      rw [this] at hx'
      exact (Option.some.inj hx').symm
    subst ex
    refine ⟨_, rfl, wpAny_letOwnedTupleGo_enum (s := { s with heap := h', toks := tk + 1 }) ho fun h'' he' sb => ?_⟩
    have hT2 : h''.get? s.heap.objs.size = some { cls := .type "tuple", data := .seq #[.int i tk, x'] } := (sb.2 _ (Nat.ne_of_gt hel)).trans hT
    have new : ObjOk X.prog X.w (upd H s.heap.objs.size (.tup [.int (i : Nat), x])) h'' s.heap.objs.size (.tup [.int (i : Nat), x]) :=
      ⟨by show 2 ≤ sizeLine; decide, [.int i tk, x'], .cons ⟨_, rfl⟩ (.cons ru .nil), ⟨_, hT2, rfl, _, rfl⟩⟩
    have I1 : Inv X pins σ (upd H s.heap.objs.size (.tup [.int (i : Nat), x])) { s with heap := h'', toks := tk + 1 } :=
      I.turnedNew (ch := [e, it]) (fun b ob hb q => (sb.2 b (fun z => hb (by simp [z]))).trans (hk b ob (fun z => hb (by simp [z])) (fun z => hb (by simp [z])) q)) hf (Nat.le_refl _) new
    refine ⟨.ref s.heap.objs.size, _, I1, rfl, ⟨_, x, rfl, I.hok.fresh (Nat.le_refl _), rfl, fun ys hy => by rw [I.tuple_inj hy hq]; exact hx⟩, ⟨⟨x', ?_⟩, hit'.1.at fun o q => (sb.2 it (Ne.symm hne)).trans q, hne, hai, hae⟩, fun b hb => ?_⟩
    · have e1 : ((i + 1 : Nat) : Int) = (i : Int) + 1 := by omega
      rw [e1]; exact he'
    · have hb' : b < s.heap.objs.size := by
        have e' : b = e ∨ b = it := by simpa using hb
        rcases e' with z | z
        · rw [z]; exact hel
        · rw [z]; exact hil
      rw [upd_ne (Nat.ne_of_lt hb')]
      exact (hf b hb).1
  done := by
    intro X hP hw hK hc i pins s σ H E I hf st hg
    subst hP hw hK
    obtain ⟨⟨old, he⟩, hit, hne, hai, hae⟩ := st
    obtain ⟨xs, hq, hx⟩ := hg
    obtain ⟨its, rv, p, hz⟩ := I.tuple hq
    obtain ⟨f0, f1, f2, f3, f4, f5⟩ := hf it (by simp)
    have hl := rv.length
    unfold pyNext
    have hT : s.TypeIs (.ref e) "enumerate" := ⟨_, he, rfl⟩
    refine wpAny_bind (wpAny_attempt (wpAny_callSpecial?_slot (name := Str.ofString "__next__") hT F.slot_enumerate_next
      (wpAny_call_entry F.slot_enumerate_next hT F.entry_enumerate_next ?_ (F.args_enumerate_next_1 _))))
    show wpAny _ _ (field (.ref e) 2 >>= _) _ _ _
    refine wpAny_bind (wpAny_field he rfl (x := .ref it) rfl ?_)
    refine wpAny_bind (wpAny_nextOf_tuple_end (by exact I.ok.hd hc) hit p (by simp; omega) fun h' x he' hx' => ?_)
    obtain ⟨o, ho, hc'⟩ := hx'
    refine wpAny_bind (wpAny_isInstance (T := "StopIteration") (b := true) ⟨o, ho, hc'⟩ isSubtype_stop ?_)
    exact wpAny_pure ⟨rfl, I.turned (t' := s.toks) (fun b o hb q => he' b o hb q) f0 f1 f3 f4 f5⟩
  self := fun A i s Q E st h => let ⟨⟨_, he⟩, _⟩ := st; wpAny_pyIter_enum he h
def iEnumA (K : PySem.W.Frag) (ta : TA) : TI := fun σ H R => ta σ H fun vs H1 => ∃ a, vs = [.ref a] ∧ (((∃ xs, SqL K H1 a xs) ∧ R (Ite K a) H1) ∨ ((∃ xs, SqT K H1 a xs) ∧ R (IteT K a) H1))
theorem pi_enumA {X : Cx} {e : Expr} {ta : TA} {p pos tpos : Pos} {elts : List Expr} {kk : Nat} (hg : Gl X "enumerate") (hm : X.mg "enumerate" = none) (ha : PA X [e] ta) (hs : starEach [e] X.env = [(false, eval e X.env)] := by rfl) :
    PI X (.Tuple elts kk tpos) (.Call (.Name "enumerate" p) [e] [] pos) (iEnumA X.K ta) := by
  refine ⟨fun pins s σ H R I h => ?_⟩
  refine Call_ (ld_blt I hg hm boot_enumerate (PyProof.Rows.callWith_type1 (thn (ha.run pos pins s σ H _ I h) fun us s1 ⟨vs, H1, I1, r1, q1⟩ => ?_) hs rfl))
  obtain ⟨a, ex, q⟩ := q1
  subst ex
  cases r1 with
  | cons r rr =>
    cases rr
    cases r
    have fp : ∀ b ∈ [s1.heap.objs.size + 1, s1.heap.objs.size], FpOk X pins H1 b := fun b hb => by
      have e' : b = s1.heap.objs.size + 1 ∨ b = s1.heap.objs.size := by simpa using hb
      have hle : s1.heap.objs.size ≤ b := by
        rcases e' with z | z
        · rw [z]; exact Nat.le_add_right _ _
        · rw [z]; exact Nat.le_refl _
      exact I1.fpOk hle (I1.hok.fresh hle)
    rcases q with ⟨⟨xs, hq⟩, q⟩ | ⟨⟨xs, hq⟩, q⟩
    · obtain ⟨its, rv, p', hz⟩ := I1.list hq
      refine call_enumerate_list p'.isList fun h' he hit hsz hk => wpAny_pyIter_enum he ?_
      have I2 : Inv X pins σ H1 { s1 with heap := h' } := I1.kept (t' := s1.toks) hk
      exact ⟨s1.heap.objs.size + 1, [s1.heap.objs.size + 1, s1.heap.objs.size], _, _, H1, rfl, I2, turn_enum a (s1.heap.objs.size + 1) s1.heap.objs.size, ⟨⟨.none, he⟩, hit, Nat.succ_ne_self _⟩, fp, q⟩
    · obtain ⟨its, rv, p', hz⟩ := I1.tuple hq
      have hal : a < s1.heap.objs.size := by obtain ⟨_, q, _⟩ := (show s1.heap.IsTuple a its.toArray from p'); exact Heap.lt_size q
      refine PySem.dl_call_enum_tuple p' fun h' he hit hk => wpAny_pyIter_enum he ?_
      have I2 : Inv X pins σ H1 { s1 with heap := h' } := I1.kept (t' := s1.toks) hk
      exact ⟨s1.heap.objs.size + 1, [s1.heap.objs.size + 1, s1.heap.objs.size], _, _, H1, rfl, I2, turn_enumT a (s1.heap.objs.size + 1) s1.heap.objs.size, ⟨⟨.none, he⟩, hit, Nat.succ_ne_self _, Nat.ne_of_lt hal, Nat.ne_of_lt (Nat.lt_succ_of_lt hal)⟩, fp, q⟩
def enumD (ds : List D) : List D := ds.mapIdx fun i d => PyData.tuple [.int (i : Nat), d]
theorem enumD_get {ds : List D} {i : Nat} {d : D} (h : (enumD ds)[i]? = some d) : ∃ x, ds[i]? = some x ∧ d = .tuple [.int (i : Nat), x] := by
  unfold enumD at h
  rw [List.getElem?_mapIdx] at h
  cases q : ds[i]? with
  | none => rw [q] at h; cases h
  | some x => rw [q] at h; exact ⟨x, rfl, (Option.some.inj h).symm⟩
section
variable {K : PySem.W.Frag} {Z S : Fp} {H : Hp} {a : Addr} {vs : List V} {ds : List D}
theorem ItOk.enumL (s : S a) (h : H a = some (.lst vs)) (r : Reps S H vs ds) : ItOk Z (Ite K a) (enumD ds) S H := by
  intro S1 H1 x w1
  have h1 := x.keep a _ s h
  have r1 := r.ws x
  refine ⟨fun i d e => ?_, ⟨vs, SqL.of h1, by rw [r.length]; unfold enumD; rw [List.length_mapIdx]; exact Nat.le_refl _⟩⟩
  obtain ⟨y, hy, rfl⟩ := enumD_get e
  obtain ⟨v, hv, rv⟩ := r1.get hy
  refine ⟨⟨vs, v, SqL.of h1, hv⟩, fun y2 H2 q => ?_⟩
  obtain ⟨T, x2, rfl, hT, rfl, q⟩ := q
  have := q vs (SqL.of h1)
  rw [hv] at this
  cases this
  exact ⟨_, Wx.layS w1 hT, Wx.newTup w1 hT (.cons (.int _) (.cons rv .nil))⟩
theorem ItOk.enumT (s : S a) (h : H a = some (.tup vs)) (r : Reps S H vs ds) : ItOk Z (IteT K a) (enumD ds) S H := by
  intro S1 H1 x w1
  have h1 := x.keep a _ s h
  have r1 := r.ws x
  refine ⟨fun i d e => ?_, ⟨vs, SqT.of h1, by rw [r.length]; unfold enumD; rw [List.length_mapIdx]; exact Nat.le_refl _⟩⟩
  obtain ⟨y, hy, rfl⟩ := enumD_get e
  obtain ⟨v, hv, rv⟩ := r1.get hy
  refine ⟨⟨vs, v, SqT.of h1, hv⟩, fun y2 H2 q => ?_⟩
  obtain ⟨T, x2, rfl, hT, rfl, q⟩ := q
  have := q vs (SqT.of h1)
  rw [hv] at this
  cases this
  exact ⟨_, Wx.layS w1 hT, Wx.newTup w1 hT (.cons (.int _) (.cons rv .nil))⟩
end
section
variable {X : Cx} {tg e : Expr} {te : TE} {f : PTE} {pos p tpos : Pos} {elts : List Expr} {kk : Nat}
def pEnum (f : PTE) : PTI := fun env Q => f env fun d => gItems d fun ds => Q (enumD ds)
theorem di_enum (hg : Gl X "enumerate") (hm : X.mg "enumerate" = none) (h : DE X e te f) (hs : starEach [e] X.env = [(false, eval e X.env)] := by rfl) : DI X (.Tuple elts kk tpos) (.Call (.Name "enumerate" p) [e] [] pos) (iEnumA X.K (tCons te tNil)) (pEnum f) := by
  refine ⟨pi_enumA hg hm (pa_cons h.pe pa_nil hs) hs, fun Z O S σ H env Qd R w rr hf k => ?_⟩
  refine h.pu Z O S σ H env _ _ w rr hf fun v d S1 H1 x1 r1 q1 => ?_
  cases r1 <;> first | exact q1.elim | skip
  · rename_i a vs ds s h r
    exact ⟨a, rfl, .inl ⟨⟨vs, SqL.of h⟩, k _ _ S1 H1 x1 (.enumL s h r) q1⟩⟩
  · rename_i a vs ds s h r
    exact ⟨a, rfl, .inr ⟨⟨vs, SqT.of h⟩, k _ _ S1 H1 x1 (.enumT s h r) q1⟩⟩
theorem pEnum_ap (f : PTE) (env : Env) (Q : List D → Prop) : pEnum f env Q = (f env fun d => gItems d fun ds => Q (enumD ds)) := rfl
end
/-! ### name op= e, numbers -/
def gPlusI := gI fun i j Q => Q (.int (i + j))
theorem pr_plusI : PureR (rI0 fun i j => .int (i + j)) gPlusI := pr_I0 fun i j Q h => ⟨_, fun _ _ => .int _, h⟩
def pAug (i : Nat) (g : D → D → (D → Prop) → Prop) (f : PTE) : PTS := fun pd env => match slot env i with
  | some (.v x) => f env fun y => g x y fun d => pd.nx (env.set i (some (.v d)))
  | _ => False
theorem pAug_ap (i : Nat) (g : D → D → (D → Prop) → Prop) (f : PTE) (pd : PEnds) (env : Env) : pAug i g f pd env = (match slot env i with
  | some (.v x) => f env fun y => g x y fun d => pd.nx (env.set i (some (.v d)))
  | _ => False) := rfl
theorem ds_aug (i : Nat) {X : Cx} {r : R2} {g : D → D → (D → Prop) → Prop} {op : Operator} {x : Str} {e : Expr} {te : TE} {f : PTE} {pos pos' : Pos} (hN : X.N.Nodup) (ho : OpR X (inplaceOp op) r) (hr : PureR r g) (h : DE X e te f) (hi : X.N[i]? = some x := by rfl) (hx : Loc X.env.scope x := by first | exact Or.inl rfl | exact Or.inr rfl)
    (hf : X.fn x = true ∨ X.env.scope.names.lookup x = some .local := by first | exact .inl rfl | exact .inr rfl | assumption) : DS X (.AugAssign (.Name x pos') op e pos) (tAug i te r) (pAug i g f) := by
  refine ⟨ps_aug hN hi hx h.pe ho hf, fun Z S0 H0 S σ H env D pd x r hf e => ?_⟩
  unfold pAug at hf
  split at hf
  · rename_i y q
    obtain ⟨v, h1, rv⟩ := r.get i _ (slot_get env i _ q)
    refine ⟨v, h1, ?_⟩
    refine h.pu Z _ S σ H env _ _ x.wd r hf fun u d S1 H1 x1 r1 q1 => ?_
    have rv1 : Rep S1 H1 v y := (show Rep S H v y from rv).wx x1
    refine hr Z S1 H1 v u y d _ _ x1.wd (.inl rv1) (.inl r1) q1 fun z dz S2 H2 x2 r2 q2 => ?_
    exact e.nx _ H2 S2 _ ((x.trans x1).trans x2) (x1.ws.trans x2.ws) (((r.wx x.wd x1).wx x1.wd x2).set i (show RepSV X.K Z _ S2 H2 z (.v dz) from r2) fun o => o.elim) q2
  · exact hf.elim
theorem pChain_ap (g g' : D → D → (D → Prop) → Prop) (fa fb fc : PTE) (env : Env) (Q : D → Prop) : pChain g g' fa fb fc env Q = (fa env fun x => fb env fun y => g x y fun z => match z with
  | .bool k => if k = true then fc env fun w => g' y w Q else Q (.bool false)
  | _ => False) := rfl
theorem gIn_ss (b : Bool) (x y : Str) (Q : D → Prop) : gIn b (.str x) (.str y) Q = (∃ c, x = ⟨#[c]⟩ ∧ Q (.bool (if b then !decide (c ∈ y.cps.toList) else decide (c ∈ y.cps.toList)))) := rfl
theorem gIn_il (b : Bool) (i : Int) (xs : List D) (Q : D → Prop) : gIn b (.int i) (.list xs) Q = (shp 19 (.int i) ∧ (∀ x ∈ xs, shp 19 x) ∧ Q (.bool (if b then !xs.any (eqb (.int i)) else xs.any (eqb (.int i))))) := rfl
theorem gIn_it (b : Bool) (i : Int) (xs : List D) (Q : D → Prop) : gIn b (.int i) (.tuple xs) Q = (shp 19 (.int i) ∧ (∀ x ∈ xs, shp 19 x) ∧ Q (.bool (if b then !xs.any (eqb (.int i)) else xs.any (eqb (.int i))))) := rfl
theorem gIn_tl (b : Bool) (u xs : List D) (Q : D → Prop) : gIn b (.tuple u) (.list xs) Q = (shp 19 (.tuple u) ∧ (∀ x ∈ xs, shp 19 x) ∧ Q (.bool (if b then !xs.any (eqb (.tuple u)) else xs.any (eqb (.tuple u))))) := rfl
theorem gIn_sl (b : Bool) (u : Str) (xs : List D) (Q : D → Prop) : gIn b (.str u) (.list xs) Q = (shp 19 (.str u) ∧ (∀ x ∈ xs, shp 19 x) ∧ Q (.bool (if b then !xs.any (eqb (.str u)) else xs.any (eqb (.str u))))) := rfl
theorem gIn_st (b : Bool) (u : Str) (xs : List D) (Q : D → Prop) : gIn b (.str u) (.tuple xs) Q = (shp 19 (.str u) ∧ (∀ x ∈ xs, shp 19 x) ∧ Q (.bool (if b then !xs.any (eqb (.str u)) else xs.any (eqb (.str u))))) := rfl
theorem gIn_tt (b : Bool) (u xs : List D) (Q : D → Prop) : gIn b (.tuple u) (.tuple xs) Q = (shp 19 (.tuple u) ∧ (∀ x ∈ xs, shp 19 x) ∧ Q (.bool (if b then !xs.any (eqb (.tuple u)) else xs.any (eqb (.tuple u))))) := rfl
end DL
/-! ## LibRat -/
set_option Elab.async false
set_option linter.all false
set_option maxRecDepth 100000
set_option maxHeartbeats 4000000
/-! LibRat: contracts of the numbers' defs and of a law's own helpers. -/
namespace DL
open PySem L2 RZ RT PyProof.Rows
local macro_rules | `(tactic| walk_at "dl") => `(tactic| simp only [↓pSeq_ap, ↓pSet_ap, ↓pSetF_ap, ↓pRet_ap, ↓pRetF_ap, ↓pRetVar_ap, ↓pRetN_ap, ↓pIfS_ap, ↓pPar_ap, ↓pNext_ap, ↓pNever_ap, ↓pTgt_ap, ↓pDrop_ap, ↓pVar_ap, ↓pVarB_ap, ↓pC_ap, ↓pOp_ap, ↓pOpF_ap, ↓pUn_ap, ↓pFz_eq, ↓frz_v, ↓frz_own, ↓frz_ownD, ↓pV_ap, ↓pTest_ap, ↓pAnd_ap, ↓pOr_ap, ↓pNot_ap, ↓pIf_ap, ↓pAndV_ap, ↓pOrV_ap, ↓pNotV_ap, ↓pNil_ap, ↓pCons_ap, ↓aNil_ap, ↓aCons_ap, ↓aSlot_ap, ↓pTup_ap, ↓pLst_ap, ↓pB_ap, ↓pBF_ap, ↓pCall_ap, ↓pIsi_ap, ↓pIsN_ap, ↓pNotN_ap, ↓pSt_ap, ↓pSetSt_ap, ↓pLenS_ap, ↓pIxS_ap, ↓pFor_ap, ↓pIter_ap, ↓pRange1_ap, ↓pRange2_ap, ↓gItems, pgName, slot_z, slot_s, set_z, set_s, ↓gI, ↓gMinus, ↓gMod, ↓gFdiv, ↓gPow, ↓gLt, ↓gLe, ↓gGt, ↓gGe, ↓gNeg, ↓gAdd, ↓gMul, ↓gIx, ↓gEq, ↓gNe, ↓gLen, ↓gAbs, ↓gIntOf, ↓gTupOf, ↓gLstOf, DL.isInt, DL.isBool, DL.isStr, DL.isList, DL.isTuple, DL.isDict, DL.isNone, eqb_int, eqb_bool, eqb_str, eqb_self, List.length, List.replicate, List.map, List.append, List.cons_append, List.nil_append, Bool.not_true, Bool.not_false, if_true, if_false, Bool.false_eq_true, ite_true, ite_false, reduceIte, Int.reduceLT, Int.reduceLE, Int.reduceEq, Int.reduceNe, Int.reduceAdd, Int.reduceSub, Int.reduceMul, Int.reduceNeg, Int.reduceToNat, Int.reducePow, Nat.reduceAdd, Nat.reduceSub, ne_eq, not_false_eq_true, not_true_eq_false, decide_true, decide_false, and_true, true_and, ↓pRev_ap, ↓pZip_ap, ↓pSl_ap, ↓pNoPart_ap, ↓pPart_ap, ↓pFreeze_ap, ↓pApp_ap, ↓pExt_ap, ↓pPop_ap, ↓pSetIx_ap, ↓pBreak_ap, ↓pCont_ap, ↓pYes_ap, ↓pEnum_ap, ↓pAug_ap, ↓gPlusI, ↓pChain_ap, ↓gIn_ss, ↓gIn_il, ↓gIn_it, ↓gIn_tl, ↓gIn_tt, ↓gIn_sl, ↓gIn_st, ↓pLc_ap, ↓gSl, wipeE, pgTup, pgCons, pgNil, atL1_0, atL2_0, atL2_1, atL3_0, atL3_1, atL3_2])
theorem eqOk_int (i j : Int) : eqOk (.int i) (.int j) := .inl ⟨trivial, trivial⟩
theorem eqOk_str (i j : Str) : eqOk (.str i) (.str j) := .inl ⟨trivial, trivial⟩
theorem eqOk_bool (i j : Bool) : eqOk (.bool i) (.bool j) := .inr ⟨trivial, trivial⟩
theorem lineOk_small {n : Nat} (h : n ≤ 1000) : lineOk n := lineOk_of (Nat.le_trans h (by decide))

/-! ### the greatest common divisor -/
def G_divisor : PFn := fun svs Q => ∃ a b : Int, svs = [.v (.int a), .v (.int b)] ∧ Q (.v (.int (Int.gcd a b : Nat)))
/-- slots: 0 one, 1 two -/
def B_divisor : PTS :=
  (pSeq (pPar 0 1 (pCons (pB gAbs (pCons (pVarB 0) pNil)) (pCons (pB gAbs (pCons (pVarB 1) pNil)) pNil)))
    (pSeq (pWhile (pTest (pOp gNe (pVarB 1) (pC (.int 0)))) (pPar 0 1 (pCons (pVar 1) (pCons (pOp gMod (pVarB 0) (pVarB 1)) pNil))))
    (pRetVar 0)))
theorem gcd_turn {x y : Nat} : Nat.gcd y (x % y) = Nat.gcd x y := by
  rw [Nat.gcd_comm x y, Nat.gcd_rec y x, Nat.gcd_comm]
theorem pure_divisor : ∀ svs Qd, G_divisor svs Qd → svs.length = 2 ∧ B_divisor { nx := fun _ => Qd (.v .none), rt := Qd, bk := fun _ => False, ct := fun _ => False } (svs.map some ++ List.replicate (2 - svs.length) none) := by
  rintro svs Qd ⟨a, b, rfl, hq⟩
  refine ⟨rfl, ?_⟩
  unfold B_divisor
  walk_at "dl"
  refine ⟨fun m env => ∃ x y : Nat, m = y ∧ env = [some (.v (.int x)), some (.v (.int y))] ∧ Nat.gcd x y = Int.gcd a b, ?_, ?_⟩
  · exact ⟨_, a.natAbs, b.natAbs, rfl, rfl, rfl⟩
  · rintro m env ⟨x, y, rfl, rfl, h⟩
    walk_at "dl"
    refine ⟨eqOk_int _ _, ?_⟩
    by_cases hm : (m : Int) = 0
    · rw [decide_eq_true hm]
      have : m = 0 := by omega
      subst this
      rw [Nat.gcd_zero_right] at h
      simp only [Bool.not_true, Bool.false_eq_true, if_false]
      rw [h]; exact hq
    · rw [decide_eq_false hm]
      have hp : (0 : Int) < m := by omega
      simp only [Bool.not_false, if_true, if_pos hp]
      exact ⟨hm, x % m, Nat.mod_lt _ (by omega), m, x % m, rfl, by rw [Int.natCast_emod], by rw [gcd_turn]; exact h⟩
def G_law_divisor : PFn := G_divisor
/-- slots: 0 one, 1 two -/
def B_law_divisor : PTS :=
  (pSeq (pPar 0 1 (pCons (pB gAbs (pCons (pVarB 0) pNil)) (pCons (pB gAbs (pCons (pVarB 1) pNil)) pNil)))
    (pSeq (pWhile (pTest (pOp gGt (pVarB 1) (pC (.int 0)))) (pPar 0 1 (pCons (pVar 1) (pCons (pOp gMod (pB gIntOf (pCons (pVarB 0) pNil)) (pVarB 1)) pNil))))
    (pRetVar 0)))
theorem pure_law_divisor : ∀ svs Qd, G_law_divisor svs Qd → svs.length = 2 ∧ B_law_divisor { nx := fun _ => Qd (.v .none), rt := Qd, bk := fun _ => False, ct := fun _ => False } (svs.map some ++ List.replicate (2 - svs.length) none) := by
  rintro svs Qd ⟨a, b, rfl, hq⟩
  refine ⟨rfl, ?_⟩
  unfold B_law_divisor
  walk_at "dl"
  refine ⟨fun m env => ∃ x y : Nat, m = y ∧ env = [some (.v (.int x)), some (.v (.int y))] ∧ Nat.gcd x y = Int.gcd a b, ?_, ?_⟩
  · exact ⟨_, a.natAbs, b.natAbs, rfl, rfl, rfl⟩
  · rintro m env ⟨x, y, rfl, rfl, h⟩
    walk_at "dl"
    by_cases hp : (0 : Int) < m
    · rw [decide_eq_true hp]
      simp only [if_true, if_pos hp]
      exact ⟨by omega, x % m, Nat.mod_lt _ (by omega), m, x % m, rfl, by rw [Int.natCast_emod], by rw [gcd_turn]; exact h⟩
    · rw [decide_eq_false hp]
      have : m = 0 := by omega
      subst this
      rw [Nat.gcd_zero_right] at h
      simp only [Bool.false_eq_true, if_false]
      rw [h]; exact hq

/-! ### fractions -/
def encR (r : Rat) : D := .tuple [.int r.num, .int (r.den : Int)]
def sz (n : Nat) (r : Rat) : Prop := r.num.natAbs < 2 ^ n ∧ r.den < 2 ^ n
theorem log2_of {x n : Nat} (h : x < 2 ^ n) (h0 : 0 < n) : x.log2 < n := PySem.Flt.log2_lt_of h0 h
theorem mulOk {i j : Int} {a b : Nat} (ha : i.natAbs < 2 ^ a) (hb : j.natAbs < 2 ^ b) (h : a + b ≤ 100000) : IntMulOk i j := (mulx_ok ha hb (by omega)).ok
theorem pow_mono {a b : Nat} (h : a ≤ b) {x : Nat} (hx : x < 2 ^ a) : x < 2 ^ b := Nat.lt_of_lt_of_le hx (Nat.pow_le_pow_right (by decide) h)
theorem sz.mono {a b : Nat} {r : Rat} (s : sz a r) (h : a ≤ b) : sz b r := ⟨pow_mono h s.1, pow_mono h s.2⟩
theorem mul_lt {x y a b : Nat} (hx : x < 2 ^ a) (hy : y < 2 ^ b) : x * y < 2 ^ (a + b) := by
  rw [Nat.pow_add]
  exact Nat.mul_lt_mul'' hx hy
theorem sz.pos {n : Nat} {r : Rat} (s : sz n r) : 0 < n := by
  cases n with
  | zero => have := s.2; have := r.den_pos; omega
  | succ n => exact Nat.succ_pos n
/-- the numerator and the denominator shortened -/
theorem ratio_pos {n d : Int} (h : 0 < d) : n / ((Int.gcd n d : Nat) : Int) = (Rat.divInt n d).num ∧ d / ((Int.gcd n d : Nat) : Int) = ((Rat.divInt n d).den : Int) := by
  rw [Rat.num_divInt, Rat.den_divInt, if_neg (by omega), Int.sign_eq_one_of_pos h, Int.one_mul, Int.gcd_comm d n]
  refine ⟨rfl, ?_⟩
  rw [Int.natCast_ediv]
  congr 1
  omega
theorem fdiv_neg_of {n g : Int} (hg : g ≠ 0) (hd : g ∣ n) : n.fdiv (-g) = (-n) / g := by
  obtain ⟨k, rfl⟩ := hd
  rw [Int.neg_mul_eq_mul_neg, Int.mul_ediv_cancel_left _ hg]
  have e : g * k = (-g) * (-k) := by rw [Int.neg_mul_neg]
  rw [e, Int.mul_fdiv_cancel_left _ (by omega)]
theorem ratio_neg {n d : Int} (h : d < 0) : n.fdiv (-((Int.gcd n d : Nat) : Int)) = (Rat.divInt n d).num ∧ d.fdiv (-((Int.gcd n d : Nat) : Int)) = ((Rat.divInt n d).den : Int) := by
  have g0 : ((Int.gcd n d : Nat) : Int) ≠ 0 := by
    intro e
    have : Int.gcd n d = 0 := by omega
    rw [Int.gcd_eq_zero_iff] at this
    omega
  rw [fdiv_neg_of g0 (Int.gcd_dvd_left n d), fdiv_neg_of g0 (Int.gcd_dvd_right n d)]
  rw [Rat.num_divInt, Rat.den_divInt, if_neg (by omega), Int.sign_eq_neg_one_of_neg h, Int.gcd_comm d n]
  refine ⟨by rw [Int.neg_one_mul], ?_⟩
  rw [Int.natCast_ediv]
  congr 1
  omega
def G_ratio : PFn := fun svs Q => ∃ n d : Int, svs = [.v (.int n), .v (.int d)] ∧ d ≠ 0 ∧ d.natAbs.log2 < 9000 ∧ Q (.v (encR (Rat.divInt n d)))
/-- slots: 0 numerator, 1 denominator, 2 common -/
def B_ratio : PTS :=
  (pSeq (pIfS (pTest (pOp gEq (pVarB 1) (pC (.int 0)))) pNever pNext)
    (pSeq (pSet 2 (pFz (pCall G_divisor (aCons (pVar 0) (aCons (pVar 1) aNil)))))
    (pSeq (pIfS (pTest (pOp gLt (pVarB 1) (pC (.int 0)))) (pSet 2 (pUn gNeg (pVarB 2))) pNext)
    (pRet (pTup (pCons (pOp gFdiv (pVarB 0) (pVarB 2)) (pCons (pOp gFdiv (pVarB 1) (pVarB 2)) pNil)))))))
theorem log2_mono {a b : Nat} (h : a ≤ b) (hb : b.log2 < 9000) : a.log2 < 9000 := by
  refine Nat.lt_of_le_of_lt ?_ hb
  by_cases ha : a = 0
  · subst ha; simp
  · exact (Nat.le_log2 (by omega)).mpr (Nat.le_trans (Nat.log2_self_le ha) h)
theorem gcd_log2 {n d : Int} (h0 : d ≠ 0) (h : d.natAbs.log2 < 9000) : (Int.gcd n d).log2 < 9000 := by
  refine log2_mono ?_ h
  exact Nat.le_of_dvd (by omega) (Nat.gcd_dvd_right _ _)
theorem gcd_ne {n d : Int} (h0 : d ≠ 0) : Int.gcd n d ≠ 0 := by
  intro e
  rw [Int.gcd_eq_zero_iff] at e
  exact h0 e.2
theorem pure_ratio : ∀ svs Qd, G_ratio svs Qd → svs.length = 2 ∧ B_ratio { nx := fun _ => Qd (.v .none), rt := Qd, bk := fun _ => False, ct := fun _ => False } (svs.map some ++ List.replicate (3 - svs.length) none) := by
  rintro svs Qd ⟨n, d, rfl, h0, hl, hq⟩
  refine ⟨rfl, ?_⟩
  have hg := gcd_log2 (n := n) h0 hl
  have hn := gcd_ne (n := n) h0
  unfold B_ratio
  walk_at "dl"
  refine ⟨eqOk_int _ _, ?_⟩
  rw [decide_eq_false h0]
  simp only [Bool.false_eq_true, if_false]
  refine ⟨n, d, rfl, ?_⟩
  simp only [frz_v]
  by_cases hd : d < 0
  · rw [decide_eq_true hd]
    simp only [if_true]
    obtain ⟨e1, e2⟩ := ratio_neg (n := n) hd
    have np : ¬ (0 : Int) < -((Int.gcd n d : Nat) : Int) := by omega
    simp only [if_neg np]
    refine ⟨by omega, by rw [Int.natAbs_neg]; exact hg, by omega, by rw [Int.natAbs_neg]; exact hg, lineOk_small (by decide), ?_⟩
    rw [e1, e2]
    exact hq
  · rw [decide_eq_false hd]
    simp only [Bool.false_eq_true, if_false]
    obtain ⟨e1, e2⟩ := ratio_pos (n := n) (d := d) (by omega)
    have np : (0 : Int) < ((Int.gcd n d : Nat) : Int) := by omega
    simp only [if_pos np]
    refine ⟨by omega, hg, by omega, hg, lineOk_small (by decide), ?_⟩
    rw [e1, e2]
    exact hq
def G_law_ratio : PFn := G_ratio
/-- slots: 0 top, 1 low, 2 divisor_v -/
def B_law_ratio : PTS :=
  (pSeq (pSet 2 (pFz (pCall G_law_divisor (aCons (pVar 0) (aCons (pVar 1) aNil)))))
    (pSeq (pIfS (pTest (pOp gLt (pVarB 1) (pC (.int 0)))) (pSet 2 (pUn gNeg (pVarB 2))) pNext)
    (pRet (pTup (pCons (pB gIntOf (pCons (pOp gFdiv (pVarB 0) (pVarB 2)) pNil)) (pCons (pB gIntOf (pCons (pOp gFdiv (pVarB 1) (pVarB 2)) pNil)) pNil))))))
theorem pure_law_ratio : ∀ svs Qd, G_law_ratio svs Qd → svs.length = 2 ∧ B_law_ratio { nx := fun _ => Qd (.v .none), rt := Qd, bk := fun _ => False, ct := fun _ => False } (svs.map some ++ List.replicate (3 - svs.length) none) := by
  rintro svs Qd ⟨n, d, rfl, h0, hl, hq⟩
  refine ⟨rfl, ?_⟩
  have hg := gcd_log2 (n := n) h0 hl
  have hn := gcd_ne (n := n) h0
  unfold B_law_ratio
  walk_at "dl"
  refine ⟨n, d, rfl, ?_⟩
  simp only [frz_v]
  by_cases hd : d < 0
  · rw [decide_eq_true hd]
    simp only [if_true]
    obtain ⟨e1, e2⟩ := ratio_neg (n := n) hd
    have np : ¬ (0 : Int) < -((Int.gcd n d : Nat) : Int) := by omega
    simp only [if_neg np]
    refine ⟨by omega, by rw [Int.natAbs_neg]; exact hg, by omega, by rw [Int.natAbs_neg]; exact hg, lineOk_small (by decide), ?_⟩
    rw [e1, e2]
    exact hq
  · rw [decide_eq_false hd]
    simp only [Bool.false_eq_true, if_false]
    obtain ⟨e1, e2⟩ := ratio_pos (n := n) (d := d) (by omega)
    have np : (0 : Int) < ((Int.gcd n d : Nat) : Int) := by omega
    simp only [if_pos np]
    refine ⟨by omega, hg, by omega, hg, lineOk_small (by decide), ?_⟩
    rw [e1, e2]
    exact hq

/-! sums, products -/
theorem atI2_0 (x y : D) : atI [x, y] 0 = some x := rfl
theorem atI2_1 (x y : D) : atI [x, y] 1 = some y := rfl
theorem den_one {x : Rat} (h : (x.den : Int) = 1) : x = (x.num : Rat) := by
  have e : x.den = 1 := by omega
  apply Rat.ext
  · rfl
  · exact e
theorem enc_int (i : Int) : encR (i : Rat) = .tuple [.int i, .int 1] := rfl
theorem add_div (x y : Rat) : Rat.divInt (x.num * y.den + y.num * x.den) (x.den * y.den) = x + y := by
  rw [← Rat.divInt_add_divInt _ _ (by have := x.den_pos; omega) (by have := y.den_pos; omega), Rat.num_divInt_den, Rat.num_divInt_den]
theorem sub_div (x y : Rat) : Rat.divInt (x.num * y.den - y.num * x.den) (x.den * y.den) = x - y := by
  rw [← Rat.divInt_sub_divInt _ _ (by have := x.den_pos; omega) (by have := y.den_pos; omega), Rat.num_divInt_den, Rat.num_divInt_den]
theorem mul_div (x y : Rat) : Rat.divInt (x.num * y.num) (x.den * y.den) = x * y := by
  rw [← Rat.divInt_mul_divInt, Rat.num_divInt_den, Rat.num_divInt_den]
theorem over_div (x y : Rat) : Rat.divInt (x.num * y.den) (x.den * y.num) = x / y := by
  rw [← Rat.divInt_mul_divInt, Rat.num_divInt_den, ← Rat.inv_divInt, Rat.num_divInt_den, Rat.div_def]
theorem nums_bound {n d : Int} {a : Nat} (hd : d ≠ 0) (hn : n.natAbs < 2 ^ a) (hd2 : d.natAbs < 2 ^ a) : sz a (Rat.divInt n d) := by
  constructor
  · rw [Rat.num_divInt]
    refine Nat.lt_of_le_of_lt ?_ hn
    have h1 : ((d.sign * n) / ((d.gcd n : Nat) : Int)).natAbs ≤ (d.sign * n).natAbs := Int.natAbs_ediv_le_natAbs _ _
    have h2 : (d.sign * n).natAbs ≤ n.natAbs := by
      rw [Int.natAbs_mul, Int.natAbs_sign_of_ne_zero hd, Nat.one_mul]
      exact Nat.le_refl _
    exact Nat.le_trans h1 h2
  · rw [Rat.den_divInt, if_neg hd]
    exact Nat.lt_of_le_of_lt (Nat.div_le_self _ _) hd2
theorem add_lt {x y a : Nat} (hx : x < 2 ^ a) (hy : y < 2 ^ a) : x + y < 2 ^ (a + 1) := by
  rw [Nat.pow_succ]
  omega
theorem natAbs_cast (n : Nat) : (n : Int).natAbs = n := Int.natAbs_natCast n
theorem sz_add {a b : Nat} {x y : Rat} (hx : sz a x) (hy : sz b y) : sz (a + b + 1) (x + y) := by
  rw [← add_div]
  have dx := x.den_pos
  have dy := y.den_pos
  have e : ((x.den : Int) * (y.den : Int)).natAbs = x.den * y.den := by rw [Int.natAbs_mul]; rfl
  refine nums_bound (by have := Int.mul_pos (a := (x.den : Int)) (b := y.den) (by omega) (by omega); omega) ?_ ?_
  · refine Nat.lt_of_le_of_lt (Int.natAbs_add_le _ _) (add_lt ?_ ?_)
    · rw [Int.natAbs_mul]; exact mul_lt hx.1 hy.2
    · rw [Int.natAbs_mul, Nat.add_comm a b]; exact mul_lt hy.1 hx.2
  · rw [e]; exact pow_mono (Nat.le_succ _) (mul_lt hx.2 hy.2)
theorem sz_sub {a b : Nat} {x y : Rat} (hx : sz a x) (hy : sz b y) : sz (a + b + 1) (x - y) := by
  rw [← sub_div]
  have dx := x.den_pos
  have dy := y.den_pos
  have e : ((x.den : Int) * (y.den : Int)).natAbs = x.den * y.den := by rw [Int.natAbs_mul]; rfl
  refine nums_bound (by have := Int.mul_pos (a := (x.den : Int)) (b := y.den) (by omega) (by omega); omega) ?_ ?_
  · refine Nat.lt_of_le_of_lt (Int.natAbs_sub_le _ _) (add_lt ?_ ?_)
    · rw [Int.natAbs_mul]; exact mul_lt hx.1 hy.2
    · rw [Int.natAbs_mul, Nat.add_comm a b]; exact mul_lt hy.1 hx.2
  · rw [e]; exact pow_mono (Nat.le_succ _) (mul_lt hx.2 hy.2)
theorem sz_mul {a b : Nat} {x y : Rat} (hx : sz a x) (hy : sz b y) : sz (a + b) (x * y) := by
  rw [← mul_div]
  have dx := x.den_pos
  have dy := y.den_pos
  have e : ((x.den : Int) * (y.den : Int)).natAbs = x.den * y.den := by rw [Int.natAbs_mul]; rfl
  refine nums_bound (by have := Int.mul_pos (a := (x.den : Int)) (b := y.den) (by omega) (by omega); omega) ?_ ?_
  · rw [Int.natAbs_mul]; exact mul_lt hx.1 hy.1
  · rw [e]; exact mul_lt hx.2 hy.2
theorem sz_div {a b : Nat} {x y : Rat} (hx : sz a x) (hy : sz b y) (h0 : y ≠ 0) : sz (a + b) (x / y) := by
  rw [← over_div]
  have dx := x.den_pos
  have yn : y.num ≠ 0 := by
    intro e
    exact h0 (Rat.num_eq_zero.mp e)
  refine nums_bound (by intro e; rcases Int.mul_eq_zero.mp e with e | e <;> omega) ?_ ?_
  · rw [Int.natAbs_mul]; exact mul_lt hx.1 hy.2
  · rw [Int.natAbs_mul]; exact mul_lt hx.2 hy.1
def G_two (f : Rat → Rat → Rat) (ok : Rat → Prop) : PFn := fun svs Q => ∃ (x y : Rat) (n m : Nat), svs = [.v (encR x), .v (encR y)] ∧ sz n x ∧ sz m y ∧ n + m + 1 ≤ 9000 ∧ ok y ∧ Q (.v (encR (f x y)))
def G_plus : PFn := G_two (· + ·) fun _ => True
def G_minus : PFn := G_two (· - ·) fun _ => True
def G_times : PFn := G_two (· * ·) fun _ => True
def G_over : PFn := G_two (· / ·) fun y => y ≠ 0
/-- slots: 0 one, 1 two -/
def B_plus : PTS :=
  (pSeq (pIfS (pAnd (pTest (pOp gEq (pOp gIx (pVarB 0) (pC (.int 1))) (pC (.int 1)))) (pTest (pOp gEq (pOp gIx (pVarB 1) (pC (.int 1))) (pC (.int 1))))) (pRet (pTup (pCons (pFz (pOpF gAdd (pOp gIx (pVarB 0) (pC (.int 0))) (pOp gIx (pVarB 1) (pC (.int 0))))) (pCons (pC (.int 1)) pNil)))) pNext)
    (pRet (pFz (pCall G_ratio (aCons (pFz (pOpF gAdd (pFz (pOpF gMul (pOp gIx (pVarB 0) (pC (.int 0))) (pOp gIx (pVarB 1) (pC (.int 1))))) (pFz (pOpF gMul (pOp gIx (pVarB 1) (pC (.int 0))) (pOp gIx (pVarB 0) (pC (.int 1))))))) (aCons (pFz (pOpF gMul (pOp gIx (pVarB 0) (pC (.int 1))) (pOp gIx (pVarB 1) (pC (.int 1))))) aNil))))))
/-- slots: 0 one, 1 two -/
def B_minus : PTS :=
  (pSeq (pIfS (pAnd (pTest (pOp gEq (pOp gIx (pVarB 0) (pC (.int 1))) (pC (.int 1)))) (pTest (pOp gEq (pOp gIx (pVarB 1) (pC (.int 1))) (pC (.int 1))))) (pRet (pTup (pCons (pOp gMinus (pOp gIx (pVarB 0) (pC (.int 0))) (pOp gIx (pVarB 1) (pC (.int 0)))) (pCons (pC (.int 1)) pNil)))) pNext)
    (pRet (pFz (pCall G_ratio (aCons (pOp gMinus (pFz (pOpF gMul (pOp gIx (pVarB 0) (pC (.int 0))) (pOp gIx (pVarB 1) (pC (.int 1))))) (pFz (pOpF gMul (pOp gIx (pVarB 1) (pC (.int 0))) (pOp gIx (pVarB 0) (pC (.int 1)))))) (aCons (pFz (pOpF gMul (pOp gIx (pVarB 0) (pC (.int 1))) (pOp gIx (pVarB 1) (pC (.int 1))))) aNil))))))
/-- slots: 0 one, 1 two -/
def B_times : PTS :=
  (pSeq (pIfS (pAnd (pTest (pOp gEq (pOp gIx (pVarB 0) (pC (.int 1))) (pC (.int 1)))) (pTest (pOp gEq (pOp gIx (pVarB 1) (pC (.int 1))) (pC (.int 1))))) (pRet (pTup (pCons (pFz (pOpF gMul (pOp gIx (pVarB 0) (pC (.int 0))) (pOp gIx (pVarB 1) (pC (.int 0))))) (pCons (pC (.int 1)) pNil)))) pNext)
    (pRet (pFz (pCall G_ratio (aCons (pFz (pOpF gMul (pOp gIx (pVarB 0) (pC (.int 0))) (pOp gIx (pVarB 1) (pC (.int 0))))) (aCons (pFz (pOpF gMul (pOp gIx (pVarB 0) (pC (.int 1))) (pOp gIx (pVarB 1) (pC (.int 1))))) aNil))))))
/-- slots: 0 one, 1 two -/
def B_over : PTS :=
  (pRet (pFz (pCall G_ratio (aCons (pFz (pOpF gMul (pOp gIx (pVarB 0) (pC (.int 0))) (pOp gIx (pVarB 1) (pC (.int 1))))) (aCons (pFz (pOpF gMul (pOp gIx (pVarB 0) (pC (.int 1))) (pOp gIx (pVarB 1) (pC (.int 0))))) aNil)))))
theorem pure_plus : ∀ svs Qd, G_plus svs Qd → svs.length = 2 ∧ B_plus { nx := fun _ => Qd (.v .none), rt := Qd, bk := fun _ => False, ct := fun _ => False } (svs.map some ++ List.replicate (2 - svs.length) none) := by
  rintro svs Qd ⟨x, y, n, m, rfl, hx, hy, hnm, -, hq⟩
  refine ⟨rfl, ?_⟩
  have dx := x.den_pos
  have dy := y.den_pos
  have m1 : IntMulOk x.num y.den := mulOk hx.1 (by rw [natAbs_cast]; exact hy.2) (by omega)
  have m2 : IntMulOk y.num x.den := mulOk hy.1 (by rw [natAbs_cast]; exact hx.2) (by omega)
  have m3 : IntMulOk x.den y.den := mulOk (by rw [natAbs_cast]; exact hx.2) (by rw [natAbs_cast]; exact hy.2) (by omega)
  have tail : IntMulOk x.num y.den ∧ IntMulOk y.num x.den ∧ IntMulOk x.den y.den ∧ G_ratio [.v (.int (x.num * y.den + y.num * x.den)), .v (.int (x.den * y.den))] fun sv => match sv with
      | .v d => Qd (.v d)
      | .own ds => Qd (.v (.list ds))
      | .ownD ks => Qd (.v (.dict ks))
      | _ => False := by
    refine ⟨m1, m2, m3, _, _, rfl, ?_, ?_, ?_⟩
    · have := Int.mul_pos (a := (x.den : Int)) (b := y.den) (by omega) (by omega); omega
    · have e : ((x.den : Int) * (y.den : Int)).natAbs = x.den * y.den := by rw [Int.natAbs_mul]; rfl
      rw [e]
      exact Nat.lt_of_lt_of_le (log2_of (mul_lt hx.2 hy.2) (by have := hx.pos; omega)) (by omega)
    · simp only
      rw [add_div]; exact hq
  unfold B_plus encR
  walk_at "dl"
  refine ⟨eqOk_int _ _, ?_⟩
  by_cases h1 : (x.den : Int) = 1
  · rw [decide_eq_true h1]
    simp only [if_true]
    refine ⟨eqOk_int _ _, ?_⟩
    by_cases h2 : (y.den : Int) = 1
    · rw [decide_eq_true h2]
      simp only [if_true]
      refine ⟨lineOk_small (by decide), ?_⟩
      have e : x + y = ((x.num + y.num : Int) : Rat) := by rw [Rat.intCast_add, ← den_one h1, ← den_one h2]
      simp only [e, enc_int] at hq
      exact hq
    · rw [decide_eq_false h2]
      simp only [Bool.false_eq_true, if_false]
      exact tail
  · rw [decide_eq_false h1]
    simp only [Bool.false_eq_true, if_false]
    exact tail
theorem pure_minus : ∀ svs Qd, G_minus svs Qd → svs.length = 2 ∧ B_minus { nx := fun _ => Qd (.v .none), rt := Qd, bk := fun _ => False, ct := fun _ => False } (svs.map some ++ List.replicate (2 - svs.length) none) := by
  rintro svs Qd ⟨x, y, n, m, rfl, hx, hy, hnm, -, hq⟩
  refine ⟨rfl, ?_⟩
  have dx := x.den_pos
  have dy := y.den_pos
  have m1 : IntMulOk x.num y.den := mulOk hx.1 (by rw [natAbs_cast]; exact hy.2) (by omega)
  have m2 : IntMulOk y.num x.den := mulOk hy.1 (by rw [natAbs_cast]; exact hx.2) (by omega)
  have m3 : IntMulOk x.den y.den := mulOk (by rw [natAbs_cast]; exact hx.2) (by rw [natAbs_cast]; exact hy.2) (by omega)
  have tail : IntMulOk x.num y.den ∧ IntMulOk y.num x.den ∧ IntMulOk x.den y.den ∧ G_ratio [.v (.int (x.num * y.den - y.num * x.den)), .v (.int (x.den * y.den))] fun sv => match sv with
      | .v d => Qd (.v d)
      | .own ds => Qd (.v (.list ds))
      | .ownD ks => Qd (.v (.dict ks))
      | _ => False := by
    refine ⟨m1, m2, m3, _, _, rfl, ?_, ?_, ?_⟩
    · have := Int.mul_pos (a := (x.den : Int)) (b := y.den) (by omega) (by omega); omega
    · have e : ((x.den : Int) * (y.den : Int)).natAbs = x.den * y.den := by rw [Int.natAbs_mul]; rfl
      rw [e]
      exact Nat.lt_of_lt_of_le (log2_of (mul_lt hx.2 hy.2) (by have := hx.pos; omega)) (by omega)
    · simp only
      rw [sub_div]; exact hq
  unfold B_minus encR
  walk_at "dl"
  refine ⟨eqOk_int _ _, ?_⟩
  by_cases h1 : (x.den : Int) = 1
  · rw [decide_eq_true h1]
    simp only [if_true]
    refine ⟨eqOk_int _ _, ?_⟩
    by_cases h2 : (y.den : Int) = 1
    · rw [decide_eq_true h2]
      simp only [if_true]
      refine ⟨lineOk_small (by decide), ?_⟩
      have e : x - y = ((x.num - y.num : Int) : Rat) := by rw [Rat.intCast_sub, ← den_one h1, ← den_one h2]
      simp only [e, enc_int] at hq
      exact hq
    · rw [decide_eq_false h2]
      simp only [Bool.false_eq_true, if_false]
      exact tail
  · rw [decide_eq_false h1]
    simp only [Bool.false_eq_true, if_false]
    exact tail
theorem pure_times : ∀ svs Qd, G_times svs Qd → svs.length = 2 ∧ B_times { nx := fun _ => Qd (.v .none), rt := Qd, bk := fun _ => False, ct := fun _ => False } (svs.map some ++ List.replicate (2 - svs.length) none) := by
  rintro svs Qd ⟨x, y, n, m, rfl, hx, hy, hnm, -, hq⟩
  refine ⟨rfl, ?_⟩
  have dx := x.den_pos
  have dy := y.den_pos
  have m1 : IntMulOk x.num y.num := mulOk hx.1 hy.1 (by omega)
  have m3 : IntMulOk x.den y.den := mulOk (by rw [natAbs_cast]; exact hx.2) (by rw [natAbs_cast]; exact hy.2) (by omega)
  have tail : IntMulOk x.num y.num ∧ IntMulOk x.den y.den ∧ G_ratio [.v (.int (x.num * y.num)), .v (.int (x.den * y.den))] fun sv => match sv with
      | .v d => Qd (.v d)
      | .own ds => Qd (.v (.list ds))
      | .ownD ks => Qd (.v (.dict ks))
      | _ => False := by
    refine ⟨m1, m3, _, _, rfl, ?_, ?_, ?_⟩
    · have := Int.mul_pos (a := (x.den : Int)) (b := y.den) (by omega) (by omega); omega
    · have e : ((x.den : Int) * (y.den : Int)).natAbs = x.den * y.den := by rw [Int.natAbs_mul]; rfl
      rw [e]
      exact Nat.lt_of_lt_of_le (log2_of (mul_lt hx.2 hy.2) (by have := hx.pos; omega)) (by omega)
    · simp only
      rw [mul_div]; exact hq
  unfold B_times encR
  walk_at "dl"
  refine ⟨eqOk_int _ _, ?_⟩
  by_cases h1 : (x.den : Int) = 1
  · rw [decide_eq_true h1]
    simp only [if_true]
    refine ⟨eqOk_int _ _, ?_⟩
    by_cases h2 : (y.den : Int) = 1
    · rw [decide_eq_true h2]
      simp only [if_true]
      refine ⟨m1, lineOk_small (by decide), ?_⟩
      have e : x * y = ((x.num * y.num : Int) : Rat) := by rw [Rat.intCast_mul, ← den_one h1, ← den_one h2]
      simp only [e, enc_int] at hq
      exact hq
    · rw [decide_eq_false h2]
      simp only [Bool.false_eq_true, if_false]
      exact tail
  · rw [decide_eq_false h1]
    simp only [Bool.false_eq_true, if_false]
    exact tail
theorem pure_over : ∀ svs Qd, G_over svs Qd → svs.length = 2 ∧ B_over { nx := fun _ => Qd (.v .none), rt := Qd, bk := fun _ => False, ct := fun _ => False } (svs.map some ++ List.replicate (2 - svs.length) none) := by
  rintro svs Qd ⟨x, y, n, m, rfl, hx, hy, hnm, h0, hq⟩
  refine ⟨rfl, ?_⟩
  have dx := x.den_pos
  have dy := y.den_pos
  have yn : y.num ≠ 0 := fun e => h0 (Rat.num_eq_zero.mp e)
  have m1 : IntMulOk x.num y.den := mulOk hx.1 (by rw [natAbs_cast]; exact hy.2) (by omega)
  have m3 : IntMulOk x.den y.num := mulOk (by rw [natAbs_cast]; exact hx.2) hy.1 (by omega)
  unfold B_over encR
  walk_at "dl"
  refine ⟨m1, m3, _, _, rfl, ?_, ?_, ?_⟩
  · intro e; rcases Int.mul_eq_zero.mp e with e | e <;> omega
  · have e : ((x.den : Int) * y.num).natAbs = x.den * y.num.natAbs := by rw [Int.natAbs_mul]; rfl
    rw [e]
    exact Nat.lt_of_lt_of_le (log2_of (mul_lt hx.2 hy.1) (by have := hx.pos; omega)) (by omega)
  · simp only [frz_v]
    rw [over_div]; exact hq
end DL
/-! ## LibLaw -/
set_option Elab.async false
set_option linter.all false
set_option maxRecDepth 100000
set_option maxHeartbeats 4000000
/-! LibLaw: a law's own helpers: cells of the script, draws, the comparison. -/
namespace DL
open PySem L2 RZ RT PyProof.Rows
local macro_rules | `(tactic| walk_at "dl") => `(tactic| simp only [↓pSeq_ap, ↓pSet_ap, ↓pSetF_ap, ↓pRet_ap, ↓pRetF_ap, ↓pRetVar_ap, ↓pRetN_ap, ↓pIfS_ap, ↓pPar_ap, ↓pNext_ap, ↓pNever_ap, ↓pTgt_ap, ↓pDrop_ap, ↓pVar_ap, ↓pVarB_ap, ↓pC_ap, ↓pOp_ap, ↓pOpF_ap, ↓pUn_ap, ↓pFz_eq, ↓frz_v, ↓frz_own, ↓frz_ownD, ↓pV_ap, ↓pTest_ap, ↓pAnd_ap, ↓pOr_ap, ↓pNot_ap, ↓pIf_ap, ↓pAndV_ap, ↓pOrV_ap, ↓pNotV_ap, ↓pNil_ap, ↓pCons_ap, ↓aNil_ap, ↓aCons_ap, ↓aSlot_ap, ↓pTup_ap, ↓pLst_ap, ↓pB_ap, ↓pBF_ap, ↓pCall_ap, ↓pIsi_ap, ↓pIsN_ap, ↓pNotN_ap, ↓pSt_ap, ↓pSetSt_ap, ↓pLenS_ap, ↓pIxS_ap, ↓pFor_ap, ↓pIter_ap, ↓pRange1_ap, ↓pRange2_ap, ↓gItems, pgName, slot_z, slot_s, set_z, set_s, ↓gI, ↓gMinus, ↓gMod, ↓gFdiv, ↓gPow, ↓gLt, ↓gLe, ↓gGt, ↓gGe, ↓gNeg, ↓gAdd, ↓gMul, ↓gIx, ↓gEq, ↓gNe, ↓gLen, ↓gAbs, ↓gIntOf, ↓gTupOf, ↓gLstOf, DL.isInt, DL.isBool, DL.isStr, DL.isList, DL.isTuple, DL.isDict, DL.isNone, eqb_int, eqb_bool, eqb_str, eqb_self, List.length, List.replicate, List.map, List.append, List.cons_append, List.nil_append, Bool.not_true, Bool.not_false, if_true, if_false, Bool.false_eq_true, ite_true, ite_false, reduceIte, Int.reduceLT, Int.reduceLE, Int.reduceEq, Int.reduceNe, Int.reduceAdd, Int.reduceSub, Int.reduceMul, Int.reduceNeg, Int.reduceToNat, Int.reducePow, Nat.reduceAdd, Nat.reduceSub, ne_eq, not_false_eq_true, not_true_eq_false, decide_true, decide_false, and_true, true_and, ↓pRev_ap, ↓pZip_ap, ↓pSl_ap, ↓pNoPart_ap, ↓pPart_ap, ↓pFreeze_ap, ↓pApp_ap, ↓pExt_ap, ↓pPop_ap, ↓pSetIx_ap, ↓pBreak_ap, ↓pCont_ap, ↓pYes_ap, ↓pEnum_ap, ↓pAug_ap, ↓gPlusI, ↓pChain_ap, ↓gIn_ss, ↓gIn_il, ↓gIn_it, ↓gIn_tl, ↓gIn_tt, ↓gIn_sl, ↓gIn_st, ↓pLc_ap, ↓gSl, wipeE, pgTup, pgCons, pgNil, atL1_0, atL2_0, atL2_1, atL3_0, atL3_1, atL3_2])
theorem atI_lt {α : Type} {xs : List α} {k : Int} (h0 : 0 ≤ k) (h : k < xs.length) : ∃ z, atI xs k = some z ∧ xs[k.toNat]? = some z := by
  have hk : k.toNat < xs.length := by omega
  have e : k = ((k.toNat : Nat) : Int) := by omega
  refine ⟨xs[k.toNat], ?_, by simp [hk]⟩
  have q := atI_nat (xs := xs) (j := k.toNat) (v := xs[k.toNat]) (by simp [hk])
  rw [← e] at q
  exact q
theorem mulSmallL {i j : Int} (h : i.natAbs < 2 ^ 60) : IntMulOk i j := (show CMul i j from .inl ⟨by omega, by omega⟩).ok
theorem mulSmallR {i j : Int} (h : j.natAbs < 2 ^ 60) : IntMulOk i j := (show CMul i j from .inr ⟨by omega, by omega⟩).ok
theorem log2_small {n : Nat} (h : n < 2 ^ 60) : n.log2 < 9000 := Nat.lt_of_lt_of_le (PySem.Flt.log2_lt_of (by decide) h) (by decide)

def G_law_cell : PFn := fun svs Q => ∃ (ns : List Int) (k : Int), svs = [.scr ns, .v (.int k)] ∧ 0 ≤ k ∧ ∀ c : Int, 0 ≤ c → Q (.v (.int c))
/-- slots: 0 script, 1 k, 2 cell -/
def B_law_cell : PTS :=
  (pCut (pIfS (pAnd (pTest (pOp gLt (pVarB 1) (pLenS 0))) (pTest (pOp gGe (pIxS 0 (pVar 1)) (pOp gPow (pC (.int 10)) (pC (.int 9)))))) (pRet (pIxS 0 (pVar 1))) pNext)
    (pCut (pSet 2 (pFz (pOpF gAdd (pFz (pOpF gMul (pC (.int 7)) (pVarB 1))) (pC (.int 1)))))
    (pCut (pIfS (pTest (pOp gGt (pLenS 0) (pC (.int 0)))) (pSet 2 (pFz (pOpF gAdd (pVarB 2) (pFz (pOpF gMul (pC (.int 31)) (pIxS 0 (pOp gMod (pB gIntOf (pCons (pVarB 1) pNil)) (pLenS 0)))))))) pNext)
    (pCut (pSet 2 (pOp gMod (pB gIntOf (pCons (pFz (pOpF gAdd (pFz (pOpF gMul (pVarB 2) (pC (.int 48271)))) (pFz (pOpF gMul (pC (.int 69621)) (pVarB 1))))) pNil)) (pC (.int 2147483647))))
    (pRet (pOp gMod (pB gIntOf (pCons (pFz (pOpF gAdd (pFz (pOpF gMul (pVarB 2) (pVarB 2))) (pFz (pOpF gMul (pC (.int 48271)) (pOp gFdiv (pVarB 2) (pC (.int 1000))))))) pNil)) (pC (.int 2147483629))))))))

theorem pure_law_cell : ∀ svs Qd, G_law_cell svs Qd → svs.length = 2 ∧ B_law_cell { nx := fun _ => Qd (.v .none), rt := Qd, bk := fun _ => False, ct := fun _ => False } (svs.map some ++ List.replicate (3 - svs.length) none) := by
  rintro svs Qd ⟨ns, k, rfl, h0, hq⟩
  refine ⟨rfl, ?_⟩
  unfold B_law_cell
  refine ⟨fun env => env = [some (.scr ns), some (.v (.int k)), none], ?_, ?_⟩
  · walk_at "dl"
    by_cases hk : k < (ns.length : Int)
    · rw [decide_eq_true hk]
      simp only [if_true]
      obtain ⟨z, hz, _⟩ := atI_lt h0 hk
      rw [hz]
      simp only
      refine ⟨⟨by decide, by decide, by decide⟩, ?_⟩
      by_cases h9 : (1000000000 : Int) ≤ z
      · rw [decide_eq_true h9]
        simp only [if_true]
        exact hq z (by omega)
      · rw [decide_eq_false h9]
        simp only [Bool.false_eq_true, if_false]
    · rw [decide_eq_false hk]
      simp only [Bool.false_eq_true, if_false]
  rintro env rfl
  refine ⟨fun env => ∃ c : Int, env = [some (.scr ns), some (.v (.int k)), some (.v (.int c))], ?_, ?_⟩
  · walk_at "dl"
    exact ⟨mulSmallL (by decide), _, rfl⟩
  rintro env ⟨c, rfl⟩
  refine ⟨fun env => ∃ c : Int, env = [some (.scr ns), some (.v (.int k)), some (.v (.int c))], ?_, ?_⟩
  · walk_at "dl"
    by_cases hl : (0 : Int) < (ns.length : Int)
    · rw [decide_eq_true hl]
      simp only [if_true, if_pos hl]
      refine ⟨by omega, ?_⟩
      obtain ⟨y, hy, _⟩ := atI_lt (xs := ns) (Int.emod_nonneg k (show (ns.length : Int) ≠ 0 by omega)) (Int.emod_lt_of_pos k hl)
      rw [hy]
      exact ⟨mulSmallL (by decide), _, rfl⟩
    · rw [decide_eq_false hl]
      simp only [Bool.false_eq_true, if_false]
      exact ⟨_, rfl⟩
  rintro env ⟨c, rfl⟩
  refine ⟨fun env => ∃ c : Int, 0 ≤ c ∧ c < 2147483647 ∧ env = [some (.scr ns), some (.v (.int k)), some (.v (.int c))], ?_, ?_⟩
  · walk_at "dl"
    exact ⟨mulSmallR (by decide), mulSmallL (by decide), _, Int.emod_nonneg _ (by decide), Int.emod_lt_of_pos _ (by decide), rfl⟩
  rintro env ⟨c, h1, h2, rfl⟩
  walk_at "dl"
  exact ⟨mulSmallL (by omega), log2_small (by decide), mulSmallL (by decide), hq _ (Int.emod_nonneg _ (by decide))⟩
def G_law_big : PFn := fun svs Q => ∃ (ns : List Int) (at_ count : Int), svs = [.scr ns, .v (.int at_), .v (.int count)] ∧ 0 ≤ at_ ∧ 0 ≤ count ∧ count ≤ 1000 ∧ ∀ s : Int, 0 ≤ s → Q (.own [.int s])
/-- slots: 0 script, 1 at, 2 count, 3 found, 4 k -/
def B_law_big : PTS :=
  (pCut (pSet 3 (pC (.int 0)))
    (pSeq (pFor (pRange1 (pVar 2)) (pgName 4) (pSet 3 (pFz (pOpF gAdd (pFz (pOpF gMul (pVarB 3) (pC (.int 2147483648)))) (pFz (pCall G_law_cell (aSlot 0 (aCons (pFz (pOpF gAdd (pVarB 1) (pVarB 4))) aNil))))))))
    (pRetF (pLst (pCons (pVar 3) pNil)))))

theorem pure_law_big : ∀ svs Qd, G_law_big svs Qd → svs.length = 3 ∧ B_law_big { nx := fun _ => Qd (.v .none), rt := Qd, bk := fun _ => False, ct := fun _ => False } (svs.map some ++ List.replicate (5 - svs.length) none) := by
  rintro svs Qd ⟨ns, at_, count, rfl, h0, h1, h2, hq⟩
  refine ⟨rfl, ?_⟩
  unfold B_law_big
  refine ⟨fun env => env = [some (.scr ns), some (.v (.int at_)), some (.v (.int count)), some (.v (.int 0)), none], rfl, ?_⟩
  rintro env rfl
  refine ⟨⟨(by omega : -(2 ^ 62) ≤ count), (by omega : count < 2 ^ 62)⟩, fun k env => ∃ s : Int, 0 ≤ s ∧ ∃ x, env = [some (.scr ns), some (.v (.int at_)), some (.v (.int count)), some (.v (.int s)), x], ⟨0, Int.le_refl 0, _, rfl⟩, ?_, ?_⟩
  · rintro k env d ⟨s, hs, x, rfl⟩ hd
    obtain ⟨hk, rfl⟩ := rngD_get hd
    walk_at "dl"
    refine ⟨mulSmallR (by decide), ns, _, rfl, by omega, fun c hc => ?_⟩
    simp only [frz_v]
    exact ⟨s * 2147483648 + c, by omega, _, rfl⟩
  · rintro env ⟨s, hs, x, rfl⟩
    walk_at "dl"
    exact ⟨lineOk_small (by decide), hq s hs⟩
def G_law_take : PFn := fun svs Q => ∃ m : Int, svs = [.st, .v (.int m)] ∧ 0 < m ∧ m.natAbs.log2 < 9000 ∧ ∀ x : Int, 0 ≤ x → x < m → Q (.v (.int x))
/-- slots: 0 state, 1 m, 2 x -/
def B_law_take : PTS :=
  (pSeq (pSet 2 (pOp gMod (pB gIntOf (pCons (pSt 0) pNil)) (pVarB 1)))
    (pSeq (pSetSt 0 (pB gIntOf (pCons (pOp gFdiv (pSt 0) (pVarB 1)) pNil)))
    (pRetVar 2)))

theorem pure_law_take : ∀ svs Qd, G_law_take svs Qd → svs.length = 2 ∧ B_law_take { nx := fun _ => Qd (.v .none), rt := Qd, bk := fun _ => False, ct := fun _ => False } (svs.map some ++ List.replicate (3 - svs.length) none) := by
  rintro svs Qd ⟨m, rfl, h0, h1, hq⟩
  refine ⟨rfl, ?_⟩
  unfold B_law_take
  walk_at "dl"
  intro s hs
  simp only [if_pos h0]
  refine ⟨by omega, fun s' hs' => ⟨by omega, h1, Int.ediv_nonneg hs' (by omega), ?_⟩⟩
  exact hq _ (Int.emod_nonneg s (by omega)) (Int.emod_lt_of_pos s h0)

/-! ### the comparison -/
/-- what may be due: no dict, not deeper than n, no list too long -/
def dueOk : Nat → D → Prop
  | _, .none => True
  | _, .int _ => True
  | _, .str _ => True
  | _, .bool _ => True
  | n + 1, .list xs => xs.length ≤ 16777216 ∧ ∀ x ∈ xs, dueOk n x
  | n + 1, .tuple xs => xs.length ≤ 16777216 ∧ ∀ x ∈ xs, dueOk n x
  | _, _ => False
theorem dueOk_mono : ∀ (n m : Nat) (d : D), n ≤ m → dueOk n d → dueOk m d
  | _, _, .none, _, _ => by unfold dueOk; trivial
  | _, _, .int _, _, _ => by unfold dueOk; trivial
  | _, _, .str _, _, _ => by unfold dueOk; trivial
  | _, _, .bool _, _, _ => by unfold dueOk; trivial
  | 0, _, .list _, _, h => h.elim
  | 0, _, .tuple _, _, h => h.elim
  | 0, _, .dict _, _, h => h.elim
  | _ + 1, _, .dict _, _, h => h.elim
  | n + 1, 0, .list _, h, _ => absurd h (Nat.not_succ_le_zero _)
  | n + 1, 0, .tuple _, h, _ => absurd h (Nat.not_succ_le_zero _)
  | n + 1, m + 1, .list xs, h, hd => ⟨hd.1, fun x hx => dueOk_mono n m x (Nat.le_of_succ_le_succ h) (hd.2 x hx)⟩
  | n + 1, m + 1, .tuple xs, h, hd => ⟨hd.1, fun x hx => dueOk_mono n m x (Nat.le_of_succ_le_succ h) (hd.2 x hx)⟩
def G_law_same_n (n : Nat) : PFn := fun svs Q => ∃ a b m, n = m + 1 ∧ svs = [.v a, .v b] ∧ dueOk m b ∧ Q (.v (.bool (eqb a b)))
def G_law_same : PFn := fun svs Q => ∃ a b, svs = [.v a, .v b] ∧ dueOk 8 b ∧ Q (.v (.bool (eqb a b)))
theorem G_law_same_imp : ∀ svs Q, G_law_same svs Q → G_law_same_n 9 svs Q := fun svs Q ⟨a, b, e, h, q⟩ => ⟨a, b, 8, rfl, e, h, q⟩
theorem G_law_same_0 : ∀ svs Q, ¬ G_law_same_n 0 svs Q := fun svs Q ⟨a, b, m, e, _⟩ => absurd e (Nat.succ_ne_zero m).symm
/-- slots: 0 told, 1 due, 2 k, 3 key -/
def B_law_same (G_law_same : PFn) : PTS :=
  (pSeq (pIfS (pOr (pTest (pIsi isList (pVarB 1))) (pTest (pIsi isTuple (pVarB 1)))) (pSeq (pIfS (pOr (pAnd (pTest (pIsi isList (pVarB 1))) (pNot (pTest (pIsi isList (pVarB 0))))) (pAnd (pTest (pIsi isTuple (pVarB 1))) (pNot (pTest (pIsi isTuple (pVarB 0)))))) (pRet (pC (.bool false))) pNext)
    (pSeq (pIfS (pTest (pOp gNe (pB gLen (pCons (pVarB 0) pNil)) (pB gLen (pCons (pVarB 1) pNil)))) (pRet (pC (.bool false))) pNext)
    (pRet (pOp gEq (pFz (pLc (pRange1 (pB gLen (pCons (pVarB 1) pNil))) (pgName 2) (pNot (pTest (pFz (pCall G_law_same (aCons (pOp gIx (pVarB 0) (pVarB 2)) (aCons (pOp gIx (pVarB 1) (pVarB 2)) aNil)))))) (pVar 2) [2])) (pFz (pLst pNil)))))) pNext)
    (pSeq (pIfS (pTest (pIsi isDict (pVarB 1))) pNever pNext)
    (pSeq (pIfS (pTest (pIsN (pVarB 1))) (pRet (pIsN (pVarB 0))) pNext)
    (pSeq (pIfS (pTest (pIsi isBool (pVarB 1))) (pRet (pAndV (pIsi isBool (pVarB 0)) (pOp gEq (pVarB 0) (pVarB 1)))) pNext)
    (pSeq (pIfS (pTest (pIsi isStr (pVarB 1))) (pRet (pAndV (pIsi isStr (pVarB 0)) (pOp gEq (pVarB 0) (pVarB 1)))) pNext)
    (pRet (pAndV (pIsi isInt (pVarB 0)) (pAndV (pNotV (pIsi isBool (pVarB 0))) (pOp gEq (pVarB 0) (pVarB 1))))))))))

theorem def_ok0 {P : Program} {w : World} {K : PySem.W.Frag} {mg : Str → Option Value} {base : Heap} {k : Nat} {f : Addr} {fd : FuncData} {ps : List Str} {G : PFn} (h : ∀ svs Q, ¬ G svs Q) : FnOk P w K mg base CX0 k f fd ps (spD K G) :=
  ⟨fun vs H Q E ⟨Z, S, svs, Qd, w, r, g, _⟩ => absurd g (h svs Qd), fun A outer s H args us vs Q E _ _ _ _ ⟨Z, S, svs, Qd, w, r, g, _⟩ => absurd g (h svs Qd)⟩
open Classical in
noncomputable def gaps (as bs : List D) : Nat → List D
  | 0 => []
  | k + 1 => gaps as bs k ++ (if as[k]? = bs[k]? then [] else [PyData.int (k : Int)])
theorem gaps_nil {as bs : List D} : ∀ n : Nat, gaps as bs n = [] ↔ ∀ k, k < n → as[k]? = bs[k]?
  | 0 => ⟨fun _ k h => absurd h (Nat.not_lt_zero _), fun _ => rfl⟩
  | n + 1 => by
    unfold gaps
    rw [List.append_eq_nil_iff, gaps_nil n]
    constructor
    · rintro ⟨h1, h2⟩ k hk
      by_cases e : k = n
      · subst e
        split at h2
        · assumption
        · cases h2
      · exact h1 k (by omega)
    · intro h
      exact ⟨fun k hk => h k (by omega), if_pos (h n (by omega))⟩
theorem shp_int (n : Nat) (i : Int) : shp n (.int i) := by cases n <;> exact True.intro
theorem gaps_shp {as bs : List D} {m : Nat} : ∀ n : Nat, ∀ d ∈ gaps as bs n, shp m d
  | 0, d, h => by cases h
  | n + 1, d, h => by
    unfold gaps at h
    rcases List.mem_append.mp h with h | h
    · exact gaps_shp n d h
    · split at h
      · cases h
      · rw [List.mem_singleton.mp h]; exact shp_int _ _
theorem lists_eq {as bs : List D} (hl : as.length = bs.length) : (gaps as bs bs.length = []) ↔ as = bs := by
  rw [gaps_nil]
  constructor
  · intro h
    apply List.ext_getElem?
    intro i
    by_cases hi : i < bs.length
    · exact h i hi
    · rw [List.getElem?_eq_none_iff.mpr (by omega), List.getElem?_eq_none_iff.mpr (by omega)]
  · rintro rfl k _
    rfl
theorem eqOk_gaps {as bs : List D} {n : Nat} : eqOk (.list (gaps as bs n)) (.list []) := .inl ⟨fun d h => gaps_shp n d h, fun d h => by cases h⟩
theorem atI_at {α : Type} {xs : List α} {k : Nat} (h : k < xs.length) : atI xs (k : Int) = some xs[k] := atI_nat (by simp [h])
theorem atI_at0 {α : Type} {xs : List α} {k : Nat} (h : k < xs.length) : atI xs (0 + (k : Int)) = some xs[k] := by rw [Int.zero_add]; exact atI_at h
theorem pure_law_same (n : Nat) : ∀ svs Qd, G_law_same_n (n + 1) svs Qd → svs.length = 2 ∧ B_law_same (G_law_same_n n) { nx := fun _ => Qd (.v .none), rt := Qd, bk := fun _ => False, ct := fun _ => False } (svs.map some ++ List.replicate (4 - svs.length) none) := by
  rintro svs Qd ⟨a, b, m, e, rfl, hd, hq⟩
  have em : m = n := by omega
  subst em
  refine ⟨rfl, ?_⟩
  have ne : ∀ {x y : D}, x ≠ y → eqb x y = false := fun h => eqb_false.mpr h
  have turn : ∀ (as bs : List D) (k : Nat) (R : List D → Prop) (h1 : k < as.length) (h2 : k < bs.length), (∀ x ∈ bs, ∃ m', m = m' + 1 ∧ dueOk m' x) → R (gaps as bs (k + 1)) →
      G_law_same_n m [.v as[k], .v bs[k]] (frz fun d => match d with | .bool c => (if (!c) = true then R (gaps as bs k ++ [.int (0 + (k : Int))]) else R (gaps as bs k)) | _ => False) := fun as bs k R h1 h2 hx hr => by
    obtain ⟨m', em, hm⟩ := hx bs[k] (List.getElem_mem h2)
    refine ⟨_, _, m', em, rfl, hm, ?_⟩
    simp only [frz_v]
    unfold gaps at hr
    have g1 : as[k]? = some as[k] := by simp [h1]
    have g2 : bs[k]? = some bs[k] := by simp [h2]
    rw [g1, g2] at hr
    by_cases q : as[k] = bs[k]
    · rw [eqb_true.mpr q]
      rw [if_pos (by rw [q]), List.append_nil] at hr
      simp only [Bool.not_true, Bool.false_eq_true, if_false]
      exact hr
    · rw [eqb_false.mpr q]
      rw [if_neg (fun z => q (Option.some.inj z))] at hr
      simp only [Bool.not_false, if_true]
      rw [Int.zero_add]; exact hr
  unfold B_law_same
  cases b with
  | none =>
    walk_at "dl"
    have e : eqb a .none = isNone a := by cases a <;> first | exact eqb_self _ | exact ne (fun h => by cases h)
    rw [e] at hq
    cases a <;> exact hq
  | bool b =>
    walk_at "dl"
    cases a <;> first | (walk_at "dl"; exact ⟨eqOk_bool _ _, by rw [eqb_bool] at hq; exact hq⟩) | (walk_at "dl"; rw [ne (fun h => by cases h)] at hq; exact hq)
  | str b =>
    walk_at "dl"
    cases a <;> first | (walk_at "dl"; exact ⟨eqOk_str _ _, by rw [eqb_str] at hq; exact hq⟩) | (walk_at "dl"; rw [ne (fun h => by cases h)] at hq; exact hq)
  | int b =>
    walk_at "dl"
    cases a <;> first | (walk_at "dl"; exact ⟨eqOk_int _ _, by rw [eqb_int] at hq; exact hq⟩) | (walk_at "dl"; rw [ne (fun h => by cases h)] at hq; exact hq)
  | dict b => cases m <;> exact hd.elim
  | list bs =>
    cases m with
    | zero => exact hd.elim
    | succ m =>
    walk_at "dl"
    cases a <;> first | (walk_at "dl"; rw [ne (fun h => by cases h)] at hq; exact hq) | skip
    rename_i as
    walk_at "dl"
    refine ⟨eqOk_int _ _, ?_⟩
    by_cases hl : (as.length : Int) = bs.length
    · rw [decide_eq_true hl]
      walk_at "dl"
      have hd1 := hd.1
      refine ⟨⟨by omega, by omega⟩, by rw [rngD_length]; omega, fun k acc => acc = gaps as bs k ∧ k ≤ bs.length, ⟨rfl, Nat.zero_le _⟩, ?_, ?_⟩
      · rintro k acc d ⟨rfl, _⟩ hk
        obtain ⟨hk, rfl⟩ := rngD_get hk
        have h2 : k < bs.length := by omega
        have h1 : k < as.length := by omega
        walk_at "dl"
        rw [atI_at0 h1, atI_at0 h2]
        exact turn as bs k (fun acc => acc = gaps as bs (k + 1) ∧ k + 1 ≤ bs.length) h1 h2 (fun x hx => ⟨m, rfl, hd.2 x hx⟩) ⟨rfl, h2⟩
      · rintro acc ⟨rfl, _⟩
        rw [rngD_length, Int.toNat_natCast]
        refine ⟨lineOk_small (by decide), eqOk_gaps, ?_⟩
        have e1 : eqb (.list as) (.list bs) = eqb (.list (gaps as bs bs.length)) (.list []) := eqb_iff (by
          rw [eqb_true]
          have := lists_eq (as := as) (bs := bs) (by omega)
          simp only [PyData.list.injEq]
          exact this.symm)
        rw [e1] at hq
        exact hq
    · rw [decide_eq_false hl]
      walk_at "dl"
      rw [ne (fun h => hl (by injection h with h; rw [h]))] at hq
      exact hq
  | tuple bs =>
    cases m with
    | zero => exact hd.elim
    | succ m =>
    walk_at "dl"
    cases a <;> first | (walk_at "dl"; rw [ne (fun h => by cases h)] at hq; exact hq) | skip
    rename_i as
    walk_at "dl"
    refine ⟨eqOk_int _ _, ?_⟩
    by_cases hl : (as.length : Int) = bs.length
    · rw [decide_eq_true hl]
      walk_at "dl"
      have hd1 := hd.1
      refine ⟨⟨by omega, by omega⟩, by rw [rngD_length]; omega, fun k acc => acc = gaps as bs k ∧ k ≤ bs.length, ⟨rfl, Nat.zero_le _⟩, ?_, ?_⟩
      · rintro k acc d ⟨rfl, _⟩ hk
        obtain ⟨hk, rfl⟩ := rngD_get hk
        have h2 : k < bs.length := by omega
        have h1 : k < as.length := by omega
        walk_at "dl"
        rw [atI_at0 h1, atI_at0 h2]
        exact turn as bs k (fun acc => acc = gaps as bs (k + 1) ∧ k + 1 ≤ bs.length) h1 h2 (fun x hx => ⟨m, rfl, hd.2 x hx⟩) ⟨rfl, h2⟩
      · rintro acc ⟨rfl, _⟩
        rw [rngD_length, Int.toNat_natCast]
        refine ⟨lineOk_small (by decide), eqOk_gaps, ?_⟩
        have e1 : eqb (.tuple as) (.tuple bs) = eqb (.list (gaps as bs bs.length)) (.list []) := eqb_iff (by
          rw [eqb_true]
          have := lists_eq (as := as) (bs := bs) (by omega)
          simp only [PyData.list.injEq, PyData.tuple.injEq]
          exact this.symm)
        rw [e1] at hq
        exact hq
    · rw [decide_eq_false hl]
      walk_at "dl"
      rw [ne (fun h => hl (by injection h with h; rw [h]))] at hq
      exact hq
end DL
/-! ## WordsM -/
set_option Elab.async false
set_option linter.all false
set_option maxRecDepth 100000
set_option maxHeartbeats 4000000
/-! WordsM: words of letters with signs; shortening; the free group's laws, in plain Lean. -/
namespace WD
open PySem
abbrev P := Str × Int
abbrev W := List P
def inv1 (p : P) : P := (p.1, -p.2)
theorem inv1_inv1 (p : P) : inv1 (inv1 p) = p := by
  obtain ⟨a, b⟩ := p
  simp [inv1]
theorem inv1_inj {p q : P} (h : inv1 p = inv1 q) : p = q := by rw [← inv1_inv1 p, h, inv1_inv1]
theorem inv1_swap {p q : P} : q = inv1 p ↔ p = inv1 q := ⟨fun h => by rw [h, inv1_inv1], fun h => by rw [h, inv1_inv1]⟩
open Classical in
noncomputable def consC (p : P) : W → W
  | q :: r => if q = inv1 p then r else p :: q :: r
  | [] => [p]
theorem consC_yes {p q : P} {r : W} (h : q = inv1 p) : consC p (q :: r) = r := if_pos h
theorem consC_no {p q : P} {r : W} (h : ¬ q = inv1 p) : consC p (q :: r) = p :: q :: r := if_neg h
noncomputable def L (w s : W) : W := w.foldr consC s
noncomputable def nf (w : W) : W := (L w.reverse []).reverse
/-- no letter stands before its opposite -/
def Red (w : W) : Prop := ∀ a p q b, w = a ++ p :: q :: b → q ≠ inv1 p
theorem red_nil : Red [] := fun a p q b h => by
  have := congrArg List.length h
  simp at this
theorem red_one (x : P) : Red [x] := fun a p q b h => by
  have := congrArg List.length h
  simp at this
  omega
theorem red_tail {x : P} {w : W} (h : Red (x :: w)) : Red w := fun a p q b e => h (x :: a) p q b (by rw [e]; rfl)
theorem red_head {x y : P} {w : W} (h : Red (x :: y :: w)) : y ≠ inv1 x := h [] x y w rfl
theorem red_cons {x y : P} {w : W} (h1 : y ≠ inv1 x) (h2 : Red (y :: w)) : Red (x :: y :: w) := fun a p q b e => by
  cases a with
  | nil =>
    injection e with e1 e2
    injection e2 with e2 e3
    subst e1 e2
    exact h1
  | cons c a =>
    injection e with e1 e2
    exact h2 a p q b e2
theorem red_rev {w : W} (h : Red w) : Red w.reverse := fun a p q b e => by
  have e2 : w = b.reverse ++ q :: p :: a.reverse := by
    have := congrArg List.reverse e
    simpa using this
  have := h _ _ _ _ e2
  exact fun z => this (inv1_swap.mp z)
theorem red_map {w : W} (h : Red w) : Red (w.map inv1) := fun a p q b e => by
  rw [List.map_eq_append_iff] at e
  obtain ⟨l1, l2, rfl, rfl, e⟩ := e
  rw [List.map_eq_cons_iff] at e
  obtain ⟨x, l3, rfl, rfl, e⟩ := e
  rw [List.map_eq_cons_iff] at e
  obtain ⟨y, l4, rfl, rfl, e⟩ := e
  have := h _ _ _ _ rfl
  exact fun z => this (inv1_inj z)
theorem red_left {u v : W} (h : Red (u ++ v)) : Red u := fun a p q b e => h a p q (b ++ v) (by rw [e]; simp)
theorem red_right {u v : W} (h : Red (u ++ v)) : Red v := fun a p q b e => h (u ++ a) p q b (by rw [e]; simp)
/-- joined where the letters that meet are not opposite -/
theorem red_join {u v : W} : ∀ (hu : Red u) (hv : Red v), (∀ a p q b, u = a ++ [p] → v = q :: b → q ≠ inv1 p) → Red (u ++ v) := by
  induction u with
  | nil => intro _ hv _; exact hv
  | cons x u ih =>
    intro hu hv h
    cases u with
    | nil =>
      cases v with
      | nil => exact red_one x
      | cons q b => exact red_cons (h [] x q b rfl rfl) hv
    | cons y u =>
      have r := ih (red_tail hu) hv fun a p q b e1 e2 => h (x :: a) p q b (by rw [e1]; rfl) e2
      exact red_cons (red_head hu) r
theorem consC_red {p : P} {s : W} (h : Red s) : Red (consC p s) := by
  cases s with
  | nil => exact red_one p
  | cons q r =>
    by_cases e : q = inv1 p
    · rw [consC_yes e]; exact red_tail h
    · rw [consC_no e]; exact red_cons e h
theorem consC_cancel {p : P} {s : W} (h : Red s) : consC (inv1 p) (consC p s) = s := by
  cases s with
  | nil =>
    exact consC_yes (inv1_inv1 p).symm
  | cons q r =>
    by_cases e : q = inv1 p
    · have e1 : consC p (q :: r) = r := consC_yes e
      rw [e1]
      cases r with
      | nil => rw [e]; rfl
      | cons q2 r2 =>
        have n := red_head h
        rw [consC_no (by rw [← e]; exact n), ← e]
    · have e1 : consC p (q :: r) = p :: q :: r := consC_no e
      rw [e1]
      exact consC_yes (inv1_inv1 p).symm
theorem L_nil (s : W) : L [] s = s := rfl
theorem L_cons (p : P) (w s : W) : L (p :: w) s = consC p (L w s) := rfl
theorem L_app (u v s : W) : L (u ++ v) s = L u (L v s) := List.foldr_append
theorem L_red {w s : W} (h : Red s) : Red (L w s) := by
  induction w with
  | nil => exact h
  | cons p w ih => exact consC_red ih
theorem L_self {w : W} (h : Red w) : L w [] = w := by
  induction w with
  | nil => rfl
  | cons p w ih =>
    rw [L_cons, ih (red_tail h)]
    cases w with
    | nil => rfl
    | cons q r =>
      exact consC_no (red_head h)
theorem L_L (w : W) : ∀ s, Red s → L (L w []) s = L w s := by
  induction w with
  | nil => exact fun s h => rfl
  | cons p w ih =>
    intro s h
    rw [L_cons p w s, ← ih s h, L_cons]
    have hr : Red (L w []) := L_red red_nil
    generalize L w [] = r at hr ⊢
    cases r with
    | nil => rfl
    | cons q r =>
      by_cases e : q = inv1 p
      · have e1 : consC p (q :: r) = r := consC_yes e
        rw [e1, L_cons, e]
        have := consC_cancel (p := inv1 p) (L_red (w := r) h)
        rw [inv1_inv1] at this
        exact this.symm
      · have e1 : consC p (q :: r) = p :: q :: r := consC_no e
        rw [e1]
        rfl
/-- the same element of the free group -/
def Sim (u v : W) : Prop := ∀ s, Red s → L u.reverse s = L v.reverse s
theorem Sim.refl (u : W) : Sim u u := fun _ _ => rfl
theorem Sim.symm {u v : W} (h : Sim u v) : Sim v u := fun s r => (h s r).symm
theorem Sim.trans {u v w : W} (h : Sim u v) (k : Sim v w) : Sim u w := fun s r => (h s r).trans (k s r)
theorem Sim.app {u v u' v' : W} (h : Sim u u') (k : Sim v v') : Sim (u ++ v) (u' ++ v') := fun s r => by
  rw [List.reverse_append, List.reverse_append, L_app, L_app, h s r, k _ (L_red r)]
theorem Sim.left {u v w : W} (h : Sim u v) : Sim (u ++ w) (v ++ w) := h.app (.refl w)
theorem Sim.right {u v w : W} (h : Sim u v) : Sim (w ++ u) (w ++ v) := (Sim.refl w).app h
theorem nf_sim (w : W) : Sim (nf w) w := fun s r => by
  unfold nf
  rw [List.reverse_reverse]
  exact L_L _ s r
theorem nf_eq {u v : W} : nf u = nf v ↔ Sim u v := by
  constructor
  · intro h
    exact (nf_sim u).symm.trans (by rw [h]; exact nf_sim v)
  · intro h
    unfold nf
    rw [h [] red_nil]
theorem nf_red (w : W) : Red (nf w) := red_rev (L_red red_nil)
theorem nf_self {w : W} (h : Red w) : nf w = w := by
  unfold nf
  rw [L_self (red_rev h), List.reverse_reverse]
theorem nf_nf (w : W) : nf (nf w) = nf w := nf_self (nf_red w)
theorem nf_nil : nf [] = [] := rfl
theorem nf_of {u v : W} (h : Sim u v) (r : Red v) : nf u = v := by rw [nf_eq.mpr h, nf_self r]
def winv (w : W) : W := (w.map inv1).reverse
theorem winv_nil : winv [] = [] := rfl
theorem winv_app (u v : W) : winv (u ++ v) = winv v ++ winv u := by simp [winv]
theorem winv_winv (w : W) : winv (winv w) = w := by
  unfold winv
  rw [List.map_reverse, List.reverse_reverse, List.map_map]
  have : (inv1 ∘ inv1) = id := funext inv1_inv1
  rw [this, List.map_id]
theorem winv_length (w : W) : (winv w).length = w.length := by simp [winv]
theorem winv_red {w : W} (h : Red w) : Red (winv w) := red_rev (red_map h)
theorem pair_sim (p : P) : Sim [p, inv1 p] [] := fun s r => by
  show L [inv1 p, p] s = s
  rw [L_cons, L_cons, L_nil]
  exact consC_cancel r
theorem inv_right (w : W) : Sim (w ++ winv w) [] := by
  induction w with
  | nil => exact .refl _
  | cons p w ih =>
    have e : (p :: w) ++ winv (p :: w) = [p] ++ ((w ++ winv w) ++ [inv1 p]) := by simp [winv]
    rw [e]
    exact (Sim.right (ih.left)).trans (pair_sim p)
theorem inv_left (w : W) : Sim (winv w ++ w) [] := by
  have := inv_right (winv w)
  rwa [winv_winv] at this
theorem Sim.inv {u v : W} (h : Sim u v) : Sim (winv u) (winv v) := by
  have h1 : Sim (winv u) (winv u ++ (v ++ winv v)) := by
    have := (Sim.right (w := winv u) (inv_right v)).symm
    rwa [List.append_nil] at this
  have h2 : Sim (winv u ++ (v ++ winv v)) (winv u ++ (u ++ winv v)) := Sim.right (h.symm.left)
  have h3 : Sim (winv u ++ (u ++ winv v)) (winv v) := by
    rw [← List.append_assoc]
    have := (inv_left u).left (w := winv v)
    rwa [List.nil_append] at this
  exact (h1.trans h2).trans h3
theorem nf_winv (w : W) : nf (winv w) = winv (nf w) := nf_of ((nf_sim w).symm.inv) (winv_red (nf_red w))
/-- powers -/
def pw (w : W) (n : Nat) : W := (List.replicate n w).flatten
theorem pw_zero (w : W) : pw w 0 = [] := rfl
theorem pw_succ (w : W) (n : Nat) : pw w (n + 1) = w ++ pw w n := by simp [pw, List.replicate_succ]
theorem pw_add (w : W) (m n : Nat) : pw w (m + n) = pw w m ++ pw w n := by
  induction m with
  | zero => simp [pw_zero]
  | succ m ih => rw [Nat.succ_add, pw_succ, ih, pw_succ, List.append_assoc]
theorem pw_one (w : W) : pw w 1 = w := by simp [pw]
theorem pw_length (w : W) (n : Nat) : (pw w n).length = n * w.length := by
  induction n with
  | zero => simp [pw_zero]
  | succ n ih => rw [pw_succ, List.length_append, ih, Nat.succ_mul, Nat.add_comm]
theorem pw_snoc (w : W) (n : Nat) : pw w (n + 1) = pw w n ++ w := by rw [pw_add, pw_one]
theorem pw_winv (w : W) (n : Nat) : winv (pw w n) = pw (winv w) n := by
  induction n with
  | zero => rfl
  | succ n ih => rw [pw_succ, winv_app, ih, pw_snoc]
theorem Sim.pw {u v : W} (h : Sim u v) (n : Nat) : Sim (pw u n) (pw v n) := by
  induction n with
  | zero => exact .refl _
  | succ n ih => rw [pw_succ, pw_succ]; exact h.app ih
theorem nf_pw (w : W) (n : Nat) : nf (WD.pw (nf w) n) = nf (WD.pw w n) := nf_eq.mpr ((nf_sim w).pw n)
open Classical in
noncomputable def stepW (f : W) (p : P) : W := if f ≠ [] ∧ f.getLast? = some (inv1 p) then f.dropLast else f ++ [p]
theorem stepW_eq (f : W) (p : P) : stepW f p = (consC p f.reverse).reverse := by
  unfold stepW
  rcases List.eq_nil_or_concat f with rfl | ⟨g, q, rfl⟩
  · simp [consC]
  · rw [List.concat_eq_append, List.reverse_append]
    show _ = (consC p (q :: g.reverse)).reverse
    by_cases e : q = inv1 p
    · rw [consC_yes e, if_pos ⟨by simp, by simp [e]⟩]
      simp
    · rw [consC_no e, if_neg (fun h => e (by simpa using h.2))]
      simp
theorem stepW_nil (p : P) : stepW [] p = [p] := by rw [stepW_eq]; rfl
theorem stepW_yes {g : W} {p q : P} (h : q = inv1 p) : stepW (g ++ [q]) p = g := by
  rw [stepW_eq, List.reverse_append]
  show (consC p (q :: g.reverse)).reverse = g
  rw [consC_yes h, List.reverse_reverse]
theorem stepW_no {g : W} {p q : P} (h : ¬ q = inv1 p) : stepW (g ++ [q]) p = g ++ [q] ++ [p] := by
  rw [stepW_eq, List.reverse_append]
  show (consC p (q :: g.reverse)).reverse = _
  rw [consC_no h]
  simp
theorem nf_snoc (w : W) (p : P) : nf (w ++ [p]) = stepW (nf w) p := by
  rw [stepW_eq]
  unfold nf
  rw [List.reverse_append, List.reverse_reverse]
  rfl
theorem nf_length (w : W) : (nf w).length ≤ w.length := by
  unfold nf
  rw [List.length_reverse, ← List.length_reverse (as := w)]
  generalize w.reverse = u
  induction u with
  | nil => exact Nat.le_refl _
  | cons p u ih =>
    rw [L_cons]
    have : (consC p (L u [])).length ≤ (L u []).length + 1 := by
      cases L u [] with
      | nil => exact Nat.le_refl _
      | cons q r =>
        by_cases e : q = inv1 p
        · rw [consC_yes e]; simp; omega
        · rw [consC_no e]; simp
    simp only [List.length_cons]
    omega
theorem nf_mem {w : W} {x : P} (h : x ∈ nf w) : x ∈ w := by
  unfold nf at h
  rw [List.mem_reverse] at h
  have : ∀ u : W, x ∈ L u [] → x ∈ u := fun u => by
    induction u with
    | nil => exact fun h => h
    | cons p u ih =>
      intro h
      rw [L_cons] at h
      have : x = p ∨ x ∈ L u [] := by
        revert h
        cases L u [] with
        | nil => intro h; exact .inl (List.mem_singleton.mp h)
        | cons q r =>
          by_cases e : q = inv1 p
          · rw [consC_yes e]; intro h; exact .inr (List.mem_cons_of_mem _ h)
          · rw [consC_no e]; intro h; exact List.mem_cons.mp h
      rcases this with rfl | h
      · exact List.mem_cons_self
      · exact List.mem_cons_of_mem _ (ih h)
  have := this _ h
  simpa using this
end WD
/-! ## LibWords -/
set_option Elab.async false
set_option linter.all false
set_option maxRecDepth 100000
set_option maxHeartbeats 4000000
/-! LibWords: words as data; the defs of unswapped.groups.words and their mirrors in the laws. -/
namespace DL
open PySem L2 RZ RT PyProof.Rows WD
local macro_rules | `(tactic| walk_at "dl") => `(tactic| simp only [↓pSeq_ap, ↓pSet_ap, ↓pSetF_ap, ↓pRet_ap, ↓pRetF_ap, ↓pRetVar_ap, ↓pRetN_ap, ↓pIfS_ap, ↓pPar_ap, ↓pNext_ap, ↓pNever_ap, ↓pTgt_ap, ↓pDrop_ap, ↓pVar_ap, ↓pVarB_ap, ↓pC_ap, ↓pOp_ap, ↓pOpF_ap, ↓pUn_ap, ↓pFz_eq, ↓frz_v, ↓frz_own, ↓frz_ownD, ↓pV_ap, ↓pTest_ap, ↓pAnd_ap, ↓pOr_ap, ↓pNot_ap, ↓pIf_ap, ↓pAndV_ap, ↓pOrV_ap, ↓pNotV_ap, ↓pNil_ap, ↓pCons_ap, ↓aNil_ap, ↓aCons_ap, ↓aSlot_ap, ↓pTup_ap, ↓pLst_ap, ↓pB_ap, ↓pBF_ap, ↓pCall_ap, ↓pIsi_ap, ↓pIsN_ap, ↓pNotN_ap, ↓pSt_ap, ↓pSetSt_ap, ↓pLenS_ap, ↓pIxS_ap, ↓pFor_ap, ↓pIter_ap, ↓pRange1_ap, ↓pRange2_ap, ↓gItems, pgName, slot_z, slot_s, set_z, set_s, ↓gI, ↓gMinus, ↓gMod, ↓gFdiv, ↓gPow, ↓gLt, ↓gLe, ↓gGt, ↓gGe, ↓gNeg, ↓gAdd, ↓gMul, ↓gIx, ↓gEq, ↓gNe, ↓gLen, ↓gAbs, ↓gIntOf, ↓gTupOf, ↓gLstOf, DL.isInt, DL.isBool, DL.isStr, DL.isList, DL.isTuple, DL.isDict, DL.isNone, eqb_int, eqb_bool, eqb_str, eqb_self, List.length, List.replicate, List.map, List.append, List.cons_append, List.nil_append, Bool.not_true, Bool.not_false, if_true, if_false, Bool.false_eq_true, ite_true, ite_false, reduceIte, Int.reduceLT, Int.reduceLE, Int.reduceEq, Int.reduceNe, Int.reduceAdd, Int.reduceSub, Int.reduceMul, Int.reduceNeg, Int.reduceToNat, Int.reducePow, Nat.reduceAdd, Nat.reduceSub, ne_eq, not_false_eq_true, not_true_eq_false, decide_true, decide_false, and_true, true_and, ↓pRev_ap, ↓pZip_ap, ↓pSl_ap, ↓pNoPart_ap, ↓pPart_ap, ↓pFreeze_ap, ↓pApp_ap, ↓pExt_ap, ↓pPop_ap, ↓pSetIx_ap, ↓pBreak_ap, ↓pCont_ap, ↓pYes_ap, ↓pEnum_ap, ↓pAug_ap, ↓gPlusI, ↓pChain_ap, ↓gIn_ss, ↓gIn_il, ↓gIn_it, ↓gIn_tl, ↓gIn_tt, ↓gIn_sl, ↓gIn_st, ↓pLc_ap, ↓gSl, wipeE, pgTup, pgCons, pgNil, atL1_0, atL2_0, atL2_1, atL3_0, atL3_1, atL3_2])
def pool : List Str := ["x", "y", "z", "a", "b0", "x1", "t9", "w"]
def encP (p : WD.P) : D := .tuple [.str p.1, .int p.2]
def encW (w : W) : D := .tuple (w.map encP)
def okP (p : WD.P) : Prop := p.1 ∈ pool ∧ (p.2 = 1 ∨ p.2 = -1)
def okW (w : W) : Prop := ∀ p ∈ w, okP p
theorem encP_inj {p q : WD.P} (h : encP p = encP q) : p = q := by
  unfold encP at h
  injection h with h
  injection h with h1 h
  injection h with h2 h
  injection h1 with h1
  injection h2 with h2
  exact Prod.ext h1 h2
theorem map_encP_inj : ∀ {u v : W}, u.map encP = v.map encP → u = v
  | [], [], _ => rfl
  | [], _ :: _, h => by cases h
  | _ :: _, [], h => by cases h
  | p :: u, q :: v, h => by
    injection h with h1 h2
    rw [encP_inj h1, map_encP_inj h2]
theorem encW_inj {u v : W} (h : encW u = encW v) : u = v := by
  unfold encW at h
  injection h with h
  exact map_encP_inj h
theorem eqb_P (p q : WD.P) : eqb (encP p) (encP q) = decide (p = q) := by
  by_cases h : p = q
  · rw [decide_eq_true h, h, eqb_self]
  · rw [decide_eq_false h]; exact eqb_false.mpr fun e => h (encP_inj e)
theorem eqb_W (u v : W) : eqb (encW u) (encW v) = decide (u = v) := by
  by_cases h : u = v
  · rw [decide_eq_true h, h, eqb_self]
  · rw [decide_eq_false h]; exact eqb_false.mpr fun e => h (encW_inj e)
theorem shp_P (n : Nat) (p : WD.P) : shp (n + 1) (encP p) := fun x h => by
  rcases List.mem_cons.mp h with rfl | h
  · cases n <;> exact True.intro
  · rw [List.mem_singleton.mp h]; cases n <;> exact True.intro
theorem shp_map (n : Nat) (u : W) : ∀ x ∈ u.map encP, shp (n + 1) x := fun x h => by
  obtain ⟨p, _, rfl⟩ := List.mem_map.mp h
  exact shp_P n p
theorem shp_W (n : Nat) (u : W) : shp (n + 2) (encW u) := shp_map n u
theorem eqOk_P (p q : WD.P) : eqOk (encP p) (encP q) := .inl ⟨shp_P 19 p, shp_P 19 q⟩
theorem eqOk_W (u v : W) : eqOk (encW u) (encW v) := .inl ⟨shp_W 18 u, shp_W 18 v⟩
theorem eqOk_L (u v : W) : eqOk (.list (u.map encP)) (.list (v.map encP)) := .inl ⟨shp_map 18 u, shp_map 18 v⟩
theorem okW_app {u v : W} (hu : okW u) (hv : okW v) : okW (u ++ v) := fun p h => by
  rcases List.mem_append.mp h with h | h
  · exact hu p h
  · exact hv p h
theorem okP_inv {p : WD.P} (h : okP p) : okP (inv1 p) := ⟨h.1, by
  show -p.2 = 1 ∨ -p.2 = -1
  rcases h.2 with e | e <;> omega⟩
theorem okW_winv {w : W} (h : okW w) : okW (winv w) := fun p hp => by
  unfold winv at hp
  rw [List.mem_reverse, List.mem_map] at hp
  obtain ⟨q, hq, rfl⟩ := hp
  exact okP_inv (h q hq)
theorem okW_nf {w : W} (h : okW w) : okW (nf w) := fun p hp => h p (nf_mem hp)
theorem okW_pw {w : W} (h : okW w) (n : Nat) : okW (pw w n) := by
  induction n with
  | zero => exact fun p hp => by cases hp
  | succ n ih => rw [pw_succ]; exact okW_app h ih
theorem okP_ne {p : WD.P} (h : okP p) : p ≠ inv1 p := fun e => by
  have : p.2 = -p.2 := congrArg Prod.snd e
  rcases h.2 with h | h <;> omega
theorem pool_facts (s : Str) (h : s ∈ pool) : 1 ≤ s.length ∧ s.length ≤ 2 ∧ ∃ c cs, s.cps.toList = c :: cs ∧ c ∈ (PySem.Str.ofString "abcdefghijklmnopqrstuvwxyz").cps.toList ∧ (s.length = 1 ∨ (s.length = 2 ∧ ∃ d, cs = [d] ∧ d ∈ (PySem.Str.ofString "0123456789").cps.toList)) := by
  unfold pool at h
  simp only [List.mem_cons, List.not_mem_nil, or_false] at h
  rcases h with rfl | rfl | rfl | rfl | rfl | rfl | rfl | rfl
  · exact ⟨by decide, by decide, _, _, rfl, by decide +kernel, .inl rfl⟩
  · exact ⟨by decide, by decide, _, _, rfl, by decide +kernel, .inl rfl⟩
  · exact ⟨by decide, by decide, _, _, rfl, by decide +kernel, .inl rfl⟩
  · exact ⟨by decide, by decide, _, _, rfl, by decide +kernel, .inl rfl⟩
  · exact ⟨by decide, by decide, _, _, rfl, by decide +kernel, .inr ⟨rfl, _, rfl, by decide +kernel⟩⟩
  · exact ⟨by decide, by decide, _, _, rfl, by decide +kernel, .inr ⟨rfl, _, rfl, by decide +kernel⟩⟩
  · exact ⟨by decide, by decide, _, _, rfl, by decide +kernel, .inr ⟨rfl, _, rfl, by decide +kernel⟩⟩
  · exact ⟨by decide, by decide, _, _, rfl, by decide +kernel, .inl rfl⟩
theorem atN_0 (c : Nat) (cs : List Nat) : atI (c :: cs) 0 = some c := atI_nat (j := 0) rfl
theorem atN_1 (c d : Nat) (cs : List Nat) : atI (c :: d :: cs) 1 = some d := atI_nat (j := 1) rfl

def G_is_letter_name : PFn := fun svs Q => ∃ s, svs = [.v (.str s)] ∧ s ∈ pool ∧ Q (.v (.bool true))
def G_is_sign : PFn := fun svs Q => ∃ i : Int, svs = [.v (.int i)] ∧ (i = 1 ∨ i = -1) ∧ Q (.v (.bool true))
def G_is_pair : PFn := fun svs Q => ∃ p, svs = [.v (encP p)] ∧ okP p ∧ Q (.v (.bool true))
def G_check_group_word : PFn := fun svs Q => ∃ w, svs = [.v (encW w)] ∧ okW w ∧ Q (.v .none)
def G_shortened : PFn := fun svs Q => ∃ w : W, svs = [.v (encW w)] ∧ w.length ≤ 1000 ∧ Q (.v (encW (nf w)))
def G_law_short : PFn := G_shortened
def G_reduced : PFn := fun svs Q => ∃ w, svs = [.v (encW w)] ∧ okW w ∧ w.length ≤ 1000 ∧ Q (.v (encW (nf w)))
def G_opposite : PFn := fun svs Q => ∃ w : W, svs = [.v (encW w)] ∧ w.length ≤ 1000 ∧ Q (.v (encW (winv w)))
def G_law_opposite : PFn := G_opposite
def G_group_product : PFn := fun svs Q => ∃ ws : List W, svs = [.v (.list (ws.map encW))] ∧ (∀ w ∈ ws, okW w) ∧ ws.flatten.length ≤ 1000 ∧ Q (.v (encW (nf ws.flatten)))
def G_group_inverse : PFn := fun svs Q => ∃ w, svs = [.v (encW w)] ∧ okW w ∧ w.length ≤ 1000 ∧ Q (.v (encW (nf (winv w))))
def wpow (w : W) (k : Int) : W := if 0 ≤ k then pw w k.toNat else pw (winv w) (-k).toNat
def G_group_power : PFn := fun svs Q => ∃ (w : W) (k : Int), svs = [.v (encW w), .v (.int k)] ∧ okW w ∧ w.length ≤ 1000 ∧ k.natAbs * w.length ≤ 1000 ∧ k.natAbs ≤ 1000 ∧ Q (.v (encW (nf (wpow w k))))
/-- slots: 0 name -/
def B_is_letter_name : PTS :=
  (pSeq (pIfS (pOr (pNot (pTest (pIsi isStr (pVarB 0)))) (pOr (pNot (pTest (pChain gLe gLe (pC (.int 1)) (pB gLen (pCons (pVarB 0) pNil)) (pC (.int 2))))) (pTest (pOp (gIn true) (pOp gIx (pVarB 0) (pC (.int 0))) (pC (.str (PySem.Str.ofString "abcdefghijklmnopqrstuvwxyz"))))))) (pRet (pC (.bool false))) pNext)
    (pRet (pOrV (pOp gEq (pB gLen (pCons (pVarB 0) pNil)) (pC (.int 1))) (pOp (gIn false) (pOp gIx (pVarB 0) (pC (.int 1))) (pC (.str (PySem.Str.ofString "0123456789")))))))

/-- slots: 0 value -/
def B_is_sign : PTS :=
  (pRet (pAndV (pIsi isInt (pVarB 0)) (pAndV (pNotV (pIsi isBool (pVarB 0))) (pOp (gIn false) (pVarB 0) (pFz (pLst (pCons (pC (.int 1)) (pCons (pUn gNeg (pC (.int 1))) pNil))))))))

/-- slots: 0 value -/
def B_is_pair : PTS :=
  (pRet (pAndV (pIsi isTuple (pVarB 0)) (pAndV (pOp gEq (pB gLen (pCons (pVarB 0) pNil)) (pC (.int 2))) (pAndV (pFz (pCall G_is_letter_name (aCons (pOp gIx (pVarB 0) (pC (.int 0))) aNil))) (pFz (pCall G_is_sign (aCons (pOp gIx (pVarB 0) (pC (.int 1))) aNil)))))))

/-- slots: 0 word, 1 place, 2 pair -/
def B_check_group_word : PTS :=
  (pFor (pEnum (pVar 0)) (pgTup 2 (pgCons (pgName 1) (pgCons (pgName 2) pgNil))) (pIfS (pNot (pTest (pFz (pCall G_is_pair (aCons (pVar 2) aNil))))) pNever pNext))

/-- slots: 0 word, 1 found, 2 name, 3 sign -/
def B_shortened : PTS :=
  (pSeq (pSetF 1 (pLst pNil))
    (pSeq (pFor (pIter (pVar 0)) (pgTup 2 (pgCons (pgName 2) (pgCons (pgName 3) pgNil))) (pIfS (pAnd (pTest (pOp gNe (pVarB 1) (pFz (pLst pNil)))) (pTest (pOp gEq (pOp gIx (pVarB 1) (pUn gNeg (pC (.int 1)))) (pTup (pCons (pVar 2) (pCons (pUn gNeg (pVarB 3)) pNil)))))) (pPop 1) (pApp 1 (pTup (pCons (pVar 2) (pCons (pVar 3) pNil))))))
    (pRet (pB gTupOf (pCons (pVarB 1) pNil)))))

/-- slots: 0 word -/
def B_reduced : PTS :=
  (pSeq (pDrop (pFz (pCall G_check_group_word (aCons (pVar 0) aNil))))
    (pRet (pFz (pCall G_shortened (aCons (pVar 0) aNil)))))

/-- slots: 0 word, 1 name, 2 sign -/
def B_opposite : PTS :=
  (pRet (pB gTupOf (pCons (pFz (pLc (pRev (pVar 0)) (pgTup 2 (pgCons (pgName 1) (pgCons (pgName 2) pgNil))) pYes (pTup (pCons (pVar 1) (pCons (pUn gNeg (pVarB 2)) pNil))) [1, 2])) pNil)))

/-- slots: 0 rows, 1 whole, 2 word -/
def B_group_product : PTS :=
  (pSeq (pSet 1 (pTup pNil))
    (pSeq (pFor (pIter (pVar 0)) (pgName 2) (pSeq (pDrop (pFz (pCall G_check_group_word (aCons (pVar 2) aNil))))
    (pSet 1 (pFz (pOpF gAdd (pVarB 1) (pVarB 2))))))
    (pRet (pFz (pCall G_shortened (aCons (pVar 1) aNil))))))

/-- slots: 0 word -/
def B_group_inverse : PTS :=
  (pRet (pFz (pCall G_opposite (aCons (pFz (pCall G_reduced (aCons (pVar 0) aNil))) aNil))))

/-- slots: 0 word, 1 count, 2 one -/
def B_group_power : PTS :=
  (pSeq (pSet 2 (pIf (pTest (pOp gGe (pVarB 1) (pC (.int 0)))) (pFz (pCall G_reduced (aCons (pVar 0) aNil))) (pFz (pCall G_group_inverse (aCons (pVar 0) aNil)))))
    (pRet (pFz (pCall G_shortened (aCons (pFz (pOpF gMul (pVarB 2) (pB gAbs (pCons (pVarB 1) pNil)))) aNil)))))

/-- slots: 0 word, 1 found, 2 name, 3 sign -/
def B_law_short : PTS :=
  (pSeq (pSetF 1 (pLst pNil))
    (pSeq (pFor (pIter (pVar 0)) (pgTup 2 (pgCons (pgName 2) (pgCons (pgName 3) pgNil))) (pIfS (pAnd (pTest (pOp gNe (pVarB 1) (pFz (pLst pNil)))) (pTest (pOp gEq (pOp gIx (pVarB 1) (pUn gNeg (pC (.int 1)))) (pTup (pCons (pVar 2) (pCons (pUn gNeg (pVarB 3)) pNil)))))) (pSetF 1 (pSl (pVarB 1) pNoPart (pPart (pUn gNeg (pC (.int 1)))))) (pApp 1 (pTup (pCons (pVar 2) (pCons (pVar 3) pNil))))))
    (pRet (pB gTupOf (pCons (pVarB 1) pNil)))))

/-- slots: 0 word, 1 name, 2 sign -/
def B_law_opposite : PTS :=
  (pRet (pB gTupOf (pCons (pFz (pLc (pRev (pVar 0)) (pgTup 2 (pgCons (pgName 1) (pgCons (pgName 2) pgNil))) pYes (pTup (pCons (pVar 1) (pCons (pUn gNeg (pVarB 2)) pNil))) [1, 2])) pNil)))

theorem pure_is_letter_name : ∀ svs Qd, G_is_letter_name svs Qd → svs.length = 1 ∧ B_is_letter_name { nx := fun _ => Qd (.v .none), rt := Qd, bk := fun _ => False, ct := fun _ => False } (svs.map some ++ List.replicate (1 - svs.length) none) := by
  rintro svs Qd ⟨s, rfl, hs, hq⟩
  refine ⟨rfl, ?_⟩
  obtain ⟨l1, l2, c, cs, e, hc, hd⟩ := pool_facts s hs
  have lk : lineOk s.length := lineOk_small (by omega)
  unfold B_is_letter_name
  walk_at "dl"
  refine ⟨lk, ?_⟩
  rw [decide_eq_true (show (1 : Int) ≤ (s.length : Int) by omega)]
  walk_at "dl"
  rw [decide_eq_true (show (s.length : Int) ≤ 2 by omega)]
  walk_at "dl"
  refine ⟨lk, ?_⟩
  rw [e, atN_0]
  simp only [gIn_ss]
  refine ⟨c, rfl, ?_⟩
  rw [decide_eq_true hc]
  walk_at "dl"
  refine ⟨lk, eqOk_int _ _, ?_⟩
  rcases hd with h | ⟨h, d, rfl, hd⟩
  · rw [decide_eq_true (show (s.length : Int) = 1 by omega)]
    walk_at "dl"
    exact hq
  · rw [decide_eq_false (show ¬ (s.length : Int) = 1 by omega)]
    walk_at "dl"
    refine ⟨lk, ?_⟩
    rw [atN_1]
    simp only [gIn_ss]
    refine ⟨d, rfl, ?_⟩
    rw [decide_eq_true hd]
    exact hq
theorem pure_is_sign : ∀ svs Qd, G_is_sign svs Qd → svs.length = 1 ∧ B_is_sign { nx := fun _ => Qd (.v .none), rt := Qd, bk := fun _ => False, ct := fun _ => False } (svs.map some ++ List.replicate (1 - svs.length) none) := by
  rintro svs Qd ⟨i, rfl, hi, hq⟩
  refine ⟨rfl, ?_⟩
  unfold B_is_sign
  walk_at "dl"
  refine ⟨lineOk_small (by decide), shp_int _ _, fun x h => ?_, ?_⟩
  · rcases List.mem_cons.mp h with rfl | h
    · exact shp_int _ _
    · rw [List.mem_singleton.mp h]; exact shp_int _ _
  · have e : ([PyData.int 1, PyData.int (-1)].any (eqb (PyData.int i))) = true := by
      rcases hi with rfl | rfl <;> simp [eqb_int]
    simp only [e, Bool.false_eq_true, if_false]
    exact hq
theorem pure_is_pair : ∀ svs Qd, G_is_pair svs Qd → svs.length = 1 ∧ B_is_pair { nx := fun _ => Qd (.v .none), rt := Qd, bk := fun _ => False, ct := fun _ => False } (svs.map some ++ List.replicate (1 - svs.length) none) := by
  rintro svs Qd ⟨p, rfl, hp, hq⟩
  refine ⟨rfl, ?_⟩
  unfold B_is_pair encP
  walk_at "dl"
  refine ⟨eqOk_int _ _, ?_⟩
  refine ⟨p.1, rfl, hp.1, ?_⟩
  walk_at "dl"
  refine ⟨p.2, rfl, hp.2, ?_⟩
  exact hq
theorem pure_check_group_word : ∀ svs Qd, G_check_group_word svs Qd → svs.length = 1 ∧ B_check_group_word { nx := fun _ => Qd (.v .none), rt := Qd, bk := fun _ => False, ct := fun _ => False } (svs.map some ++ List.replicate (3 - svs.length) none) := by
  rintro svs Qd ⟨w, rfl, hw, hq⟩
  refine ⟨rfl, ?_⟩
  unfold B_check_group_word encW
  walk_at "dl"
  refine ⟨fun k env => ∃ x1 x2, env = [some (.v (.tuple (w.map encP))), x1, x2], ⟨_, _, rfl⟩, ?_, fun env _ => hq⟩
  rintro k env d ⟨x1, x2, rfl⟩ hd
  obtain ⟨x, hx, rfl⟩ := enumD_get hd
  rw [List.getElem?_map] at hx
  obtain ⟨p, hp, rfl⟩ := Option.map_eq_some_iff.mp hx
  walk_at "dl"
  refine ⟨p, rfl, hw p (List.mem_of_getElem? hp), ?_⟩
  walk_at "dl"
  exact ⟨_, _, rfl⟩
theorem cutD_last (xs : List D) : cutD xs none (some (-1)) = xs.dropLast := by
  unfold cutD HT.sIx
  simp only [Nat.sub_zero, List.drop_zero]
  rw [if_pos (by decide), List.dropLast_eq_take]
  congr 1
  omega
theorem atD_last (xs : List D) (x : D) : atI (xs ++ [x]) (-1) = some x := by
  unfold atI ixN
  simp only [List.length_append, List.length_cons, List.length_nil]
  rw [if_neg (by decide), if_pos (by omega)]
  show (xs ++ [x])[(-1 + ((xs.length + 1 : Nat) : Int)).toNat]? = _
  rw [show (-1 + ((xs.length + 1 : Nat) : Int)).toNat = xs.length by omega]
  simp
theorem eqb_Lnil (f : W) : eqb (.list (f.map encP)) (.list []) = decide (f = []) := by
  by_cases h : f = []
  · rw [decide_eq_true h, h]; exact eqb_self _
  · rw [decide_eq_false h]
    refine eqb_false.mpr fun e => h ?_
    injection e with e
    exact List.map_eq_nil_iff.mp e
theorem take_snoc {w : W} {k : Nat} {p : WD.P} (h : w[k]? = some p) : w.take (k + 1) = w.take k ++ [p] := by
  rw [List.take_add_one, h]
  rfl
theorem map_flat (n : Nat) (w : W) : (List.replicate n (w.map encP)).flatten = (pw w n).map encP := by
  unfold pw
  rw [List.map_flatten, List.map_replicate]
theorem pure_short (B : PTS) (st : Nat → Prop) : True := trivial
theorem pure_shortened : ∀ svs Qd, G_shortened svs Qd → svs.length = 1 ∧ B_shortened { nx := fun _ => Qd (.v .none), rt := Qd, bk := fun _ => False, ct := fun _ => False } (svs.map some ++ List.replicate (4 - svs.length) none) := by
  rintro svs Qd ⟨w, rfl, hl, hq⟩
  refine ⟨rfl, ?_⟩
  unfold B_shortened encW
  walk_at "dl"
  refine ⟨lineOk_small (by decide), fun k env => ∃ x2 x3, env = [some (.v (.tuple (w.map encP))), some (.own ((nf (w.take k)).map encP)), x2, x3], ⟨_, _, rfl⟩, ?_, ?_⟩
  · rintro k env d ⟨x2, x3, rfl⟩ hd
    rw [List.getElem?_map] at hd
    obtain ⟨p, hp, rfl⟩ := Option.map_eq_some_iff.mp hd
    have es := nf_snoc (w.take k) p
    rw [← take_snoc hp] at es
    have fl : (nf (w.take k)).length ≤ 1000 := Nat.le_trans (nf_length _) (by rw [List.length_take]; omega)
    rw [show encP p = PyData.tuple [.str p.1, .int p.2] from rfl]
    walk_at "dl"
    rw [es]
    generalize nf (w.take k) = f at fl ⊢
    refine ⟨lineOk_small (by decide), eqOk_L f [], ?_⟩
    rw [eqb_Lnil]
    rcases List.eq_nil_or_concat f with rfl | ⟨g, q, rfl⟩
    · rw [decide_eq_true rfl]
      walk_at "dl"
      rw [stepW_nil]
      exact ⟨lineOk_small (by decide), by simp, _, _, rfl⟩
    · rw [List.concat_eq_append] at fl ⊢
      rw [decide_eq_false (by simp)]
      walk_at "dl"
      rw [List.map_append, show [q].map encP = [encP q] from rfl, atD_last]
      refine ⟨lineOk_small (by decide), eqOk_P q (inv1 p), ?_⟩
      have ee : eqb (encP q) (.tuple [.str p.1, .int (-p.2)]) = decide (q = inv1 p) := eqb_P q (inv1 p)
      rw [ee]
      by_cases h : q = inv1 p
      · rw [decide_eq_true h, stepW_yes h]
        walk_at "dl"
        rw [List.dropLast_concat]
        exact ⟨by simp, _, _, rfl⟩
      · rw [decide_eq_false h, stepW_no h]
        walk_at "dl"
        rw [List.map_append, List.map_append]
        refine ⟨lineOk_small (by decide), ?_, _, _, rfl⟩
        simp at fl ⊢
        omega
  · rintro env ⟨x2, x3, rfl⟩
    walk_at "dl"
    rw [List.length_map, List.take_length]
    exact hq
theorem pure_law_short : ∀ svs Qd, G_law_short svs Qd → svs.length = 1 ∧ B_law_short { nx := fun _ => Qd (.v .none), rt := Qd, bk := fun _ => False, ct := fun _ => False } (svs.map some ++ List.replicate (4 - svs.length) none) := by
  rintro svs Qd ⟨w, rfl, hl, hq⟩
  refine ⟨rfl, ?_⟩
  unfold B_law_short encW
  walk_at "dl"
  refine ⟨lineOk_small (by decide), fun k env => ∃ x2 x3, env = [some (.v (.tuple (w.map encP))), some (.own ((nf (w.take k)).map encP)), x2, x3], ⟨_, _, rfl⟩, ?_, ?_⟩
  · rintro k env d ⟨x2, x3, rfl⟩ hd
    rw [List.getElem?_map] at hd
    obtain ⟨p, hp, rfl⟩ := Option.map_eq_some_iff.mp hd
    have es := nf_snoc (w.take k) p
    rw [← take_snoc hp] at es
    have fl : (nf (w.take k)).length ≤ 1000 := Nat.le_trans (nf_length _) (by rw [List.length_take]; omega)
    rw [show encP p = PyData.tuple [.str p.1, .int p.2] from rfl]
    walk_at "dl"
    rw [es]
    generalize nf (w.take k) = f at fl ⊢
    refine ⟨lineOk_small (by decide), eqOk_L f [], ?_⟩
    rw [eqb_Lnil]
    rcases List.eq_nil_or_concat f with rfl | ⟨g, q, rfl⟩
    · rw [decide_eq_true rfl]
      walk_at "dl"
      rw [stepW_nil]
      exact ⟨lineOk_small (by decide), by simp, _, _, rfl⟩
    · rw [List.concat_eq_append] at fl ⊢
      rw [decide_eq_false (by simp)]
      walk_at "dl"
      rw [List.map_append, show [q].map encP = [encP q] from rfl, atD_last]
      refine ⟨lineOk_small (by decide), eqOk_P q (inv1 p), ?_⟩
      have ee : eqb (encP q) (.tuple [.str p.1, .int (-p.2)]) = decide (q = inv1 p) := eqb_P q (inv1 p)
      rw [ee, cutD_last]
      by_cases h : q = inv1 p
      · rw [decide_eq_true h, stepW_yes h]
        walk_at "dl"
        rw [List.dropLast_concat]
        exact ⟨_, _, rfl⟩
      · rw [decide_eq_false h, stepW_no h]
        walk_at "dl"
        rw [List.map_append, List.map_append]
        refine ⟨lineOk_small (by decide), ?_, _, _, rfl⟩
        simp at fl ⊢
        omega
  · rintro env ⟨x2, x3, rfl⟩
    walk_at "dl"
    rw [List.length_map, List.take_length]
    exact hq
theorem pure_opposite : ∀ svs Qd, G_opposite svs Qd → svs.length = 1 ∧ B_opposite { nx := fun _ => Qd (.v .none), rt := Qd, bk := fun _ => False, ct := fun _ => False } (svs.map some ++ List.replicate (3 - svs.length) none) := by
  rintro svs Qd ⟨w, rfl, hl, hq⟩
  refine ⟨rfl, ?_⟩
  unfold B_opposite encW
  walk_at "dl"
  refine ⟨by rw [List.length_reverse, List.length_map]; omega, fun k acc => acc = (w.reverse.take k).map fun p => encP (inv1 p), rfl, ?_, ?_⟩
  · rintro k acc d rfl hd
    rw [← List.map_reverse, List.getElem?_map] at hd
    obtain ⟨p, hp, rfl⟩ := Option.map_eq_some_iff.mp hd
    unfold encP
    walk_at "dl"
    refine ⟨lineOk_small (by decide), ?_⟩
    rw [take_snoc hp, List.map_append]
    rfl
  · rintro acc rfl
    walk_at "dl"
    rw [List.length_reverse, List.length_map, ← List.length_reverse (as := w), List.take_length]
    have e : (w.reverse.map fun p => encP (inv1 p)) = (winv w).map encP := by
      unfold winv
      rw [← List.map_reverse, List.map_map]
      rfl
    rw [e]
    exact hq
theorem pure_law_opposite : ∀ svs Qd, G_law_opposite svs Qd → svs.length = 1 ∧ B_law_opposite { nx := fun _ => Qd (.v .none), rt := Qd, bk := fun _ => False, ct := fun _ => False } (svs.map some ++ List.replicate (3 - svs.length) none) := pure_opposite
theorem pure_reduced : ∀ svs Qd, G_reduced svs Qd → svs.length = 1 ∧ B_reduced { nx := fun _ => Qd (.v .none), rt := Qd, bk := fun _ => False, ct := fun _ => False } (svs.map some ++ List.replicate (1 - svs.length) none) := by
  rintro svs Qd ⟨w, rfl, hw, hl, hq⟩
  refine ⟨rfl, ?_⟩
  unfold B_reduced
  walk_at "dl"
  refine ⟨w, rfl, hw, ?_⟩
  walk_at "dl"
  exact ⟨w, rfl, hl, hq⟩
theorem pure_group_inverse : ∀ svs Qd, G_group_inverse svs Qd → svs.length = 1 ∧ B_group_inverse { nx := fun _ => Qd (.v .none), rt := Qd, bk := fun _ => False, ct := fun _ => False } (svs.map some ++ List.replicate (1 - svs.length) none) := by
  rintro svs Qd ⟨w, rfl, hw, hl, hq⟩
  refine ⟨rfl, ?_⟩
  unfold B_group_inverse
  walk_at "dl"
  refine ⟨w, rfl, hw, hl, ?_⟩
  walk_at "dl"
  refine ⟨nf w, rfl, Nat.le_trans (nf_length w) hl, ?_⟩
  rw [← nf_winv]
  exact hq
theorem pure_group_product : ∀ svs Qd, G_group_product svs Qd → svs.length = 1 ∧ B_group_product { nx := fun _ => Qd (.v .none), rt := Qd, bk := fun _ => False, ct := fun _ => False } (svs.map some ++ List.replicate (3 - svs.length) none) := by
  rintro svs Qd ⟨ws, rfl, hw, hl, hq⟩
  refine ⟨rfl, ?_⟩
  unfold B_group_product
  walk_at "dl"
  refine ⟨lineOk_small (by decide), fun k env => ∃ x2, env = [some (.v (.list (ws.map encW))), some (.v (encW (ws.take k).flatten)), x2], ⟨_, rfl⟩, ?_, ?_⟩
  · rintro k env d ⟨x2, rfl⟩ hd
    rw [List.getElem?_map] at hd
    obtain ⟨w, hp, rfl⟩ := Option.map_eq_some_iff.mp hd
    have hk := (List.getElem?_eq_some_iff.mp hp).1
    have e : (ws.take (k + 1)).flatten = (ws.take k).flatten ++ w := by
      rw [List.take_add_one, hp]
      simp
    have hle : ((ws.take (k + 1)).flatten).length ≤ ws.flatten.length := by
      have := congrArg List.flatten (List.take_append_drop (k + 1) ws)
      rw [List.flatten_append] at this
      rw [← this, List.length_append]
      omega
    rw [e] at hle
    rw [List.length_append] at hle
    walk_at "dl"
    refine ⟨w, rfl, hw w (List.mem_of_getElem? hp), ?_⟩
    rw [e]
    unfold encW
    walk_at "dl"
    refine ⟨lineOk_small (by simp only [List.length_map]; omega), ?_⟩
    rw [List.map_append]
    exact ⟨_, rfl⟩
  · rintro env ⟨x2, rfl⟩
    rw [List.length_map, List.take_length]
    walk_at "dl"
    exact ⟨_, rfl, hl, hq⟩
theorem pure_group_power : ∀ svs Qd, G_group_power svs Qd → svs.length = 2 ∧ B_group_power { nx := fun _ => Qd (.v .none), rt := Qd, bk := fun _ => False, ct := fun _ => False } (svs.map some ++ List.replicate (3 - svs.length) none) := by
  rintro svs Qd ⟨w, k, rfl, hw, hl, hm, hk, hq⟩
  refine ⟨rfl, ?_⟩
  unfold B_group_power
  unfold wpow at hq
  have key : ∀ (u : W) (n : Nat), n = k.natAbs → u.length ≤ w.length → (∀ Q : SV → Prop, Q (.v (encW (nf (pw u n)))) → ∀ v : W, v.length ≤ u.length → nf (pw v n) = nf (pw u n) → (gMul (encW v) (.int (k.natAbs : Int)) (frz fun d => G_shortened [.v d] Q))) := fun u n hn hu Q hQ v hv e => by
    refine ⟨by omega, by omega, by rw [List.length_map]; omega, ?_⟩
    rw [Int.toNat_natCast, map_flat, ← hn]
    refine ⟨pw v n, rfl, ?_, by rw [e]; exact hQ⟩
    rw [pw_length, hn]
    exact Nat.le_trans (Nat.mul_le_mul_left _ (Nat.le_trans hv hu)) hm
  walk_at "dl"
  by_cases h : 0 ≤ k
  · rw [decide_eq_true h]
    rw [if_pos h] at hq
    walk_at "dl"
    refine ⟨w, rfl, hw, hl, ?_⟩
    have := key w k.toNat (by omega) (Nat.le_refl _) Qd hq (nf w) (nf_length w) (nf_pw w _)
    walk_at "dl"
    exact this
  · rw [decide_eq_false h]
    rw [if_neg h] at hq
    walk_at "dl"
    refine ⟨w, rfl, hw, hl, ?_⟩
    have := key (winv w) (-k).toNat (by omega) (by rw [winv_length]; exact Nat.le_refl _) Qd hq (nf (winv w)) (nf_length _) (nf_pw _ _)
    walk_at "dl"
    exact this
end DL
/-! ## LibWords2 -/
set_option Elab.async false
set_option linter.all false
set_option maxRecDepth 100000
set_option maxHeartbeats 4000000
/-! LibWords2: the laws' names and drawn words. -/
namespace DL
open PySem L2 RZ RT PyProof.Rows WD
local macro_rules | `(tactic| walk_at "dl") => `(tactic| simp only [↓pSeq_ap, ↓pSet_ap, ↓pSetF_ap, ↓pRet_ap, ↓pRetF_ap, ↓pRetVar_ap, ↓pRetN_ap, ↓pIfS_ap, ↓pPar_ap, ↓pNext_ap, ↓pNever_ap, ↓pTgt_ap, ↓pDrop_ap, ↓pVar_ap, ↓pVarB_ap, ↓pC_ap, ↓pOp_ap, ↓pOpF_ap, ↓pUn_ap, ↓pFz_eq, ↓frz_v, ↓frz_own, ↓frz_ownD, ↓pV_ap, ↓pTest_ap, ↓pAnd_ap, ↓pOr_ap, ↓pNot_ap, ↓pIf_ap, ↓pAndV_ap, ↓pOrV_ap, ↓pNotV_ap, ↓pNil_ap, ↓pCons_ap, ↓aNil_ap, ↓aCons_ap, ↓aSlot_ap, ↓pTup_ap, ↓pLst_ap, ↓pB_ap, ↓pBF_ap, ↓pCall_ap, ↓pIsi_ap, ↓pIsN_ap, ↓pNotN_ap, ↓pSt_ap, ↓pSetSt_ap, ↓pLenS_ap, ↓pIxS_ap, ↓pFor_ap, ↓pIter_ap, ↓pRange1_ap, ↓pRange2_ap, ↓gItems, pgName, slot_z, slot_s, set_z, set_s, ↓gI, ↓gMinus, ↓gMod, ↓gFdiv, ↓gPow, ↓gLt, ↓gLe, ↓gGt, ↓gGe, ↓gNeg, ↓gAdd, ↓gMul, ↓gIx, ↓gEq, ↓gNe, ↓gLen, ↓gAbs, ↓gIntOf, ↓gTupOf, ↓gLstOf, DL.isInt, DL.isBool, DL.isStr, DL.isList, DL.isTuple, DL.isDict, DL.isNone, eqb_int, eqb_bool, eqb_str, eqb_self, List.length, List.replicate, List.map, List.append, List.cons_append, List.nil_append, Bool.not_true, Bool.not_false, if_true, if_false, Bool.false_eq_true, ite_true, ite_false, reduceIte, Int.reduceLT, Int.reduceLE, Int.reduceEq, Int.reduceNe, Int.reduceAdd, Int.reduceSub, Int.reduceMul, Int.reduceNeg, Int.reduceToNat, Int.reducePow, Nat.reduceAdd, Nat.reduceSub, ne_eq, not_false_eq_true, not_true_eq_false, decide_true, decide_false, and_true, true_and, ↓pRev_ap, ↓pZip_ap, ↓pSl_ap, ↓pNoPart_ap, ↓pPart_ap, ↓pFreeze_ap, ↓pApp_ap, ↓pExt_ap, ↓pPop_ap, ↓pSetIx_ap, ↓pBreak_ap, ↓pCont_ap, ↓pYes_ap, ↓pEnum_ap, ↓pAug_ap, ↓gPlusI, ↓pChain_ap, ↓gIn_ss, ↓gIn_il, ↓gIn_it, ↓gIn_tl, ↓gIn_tt, ↓gIn_sl, ↓gIn_st, ↓pLc_ap, ↓gSl, wipeE, pgTup, pgCons, pgNil, atL1_0, atL2_0, atL2_1, atL3_0, atL3_1, atL3_2])
def namesOf (start step c : Nat) : List Str := (List.range c).map fun k => pool.getD ((start + k * step) % 8) "x"
theorem names_nodup : ∀ start, start < 8 → ∀ t, t < 4 → (namesOf start (1 + 2 * t) 8).Nodup := by decide +kernel
theorem names_take (start step c : Nat) (h : c ≤ 8) : namesOf start step c = (namesOf start step 8).take c := by
  unfold namesOf
  rw [← List.map_take, List.take_range, Nat.min_eq_left h]
theorem pool_mem : ∀ i, i < 8 → pool.getD i "x" ∈ pool := by decide +kernel
theorem names_pool {start step c : Nat} {s : Str} (h : s ∈ namesOf start step c) : s ∈ pool := by
  obtain ⟨k, _, rfl⟩ := List.mem_map.mp h
  exact pool_mem _ (Nat.mod_lt _ (by decide))
def poolD : List D := [.str "x", .str "y", .str "z", .str "a", .str "b0", .str "x1", .str "t9", .str "w"]
theorem pool_at (i : Nat) (h : i < 8) : atI poolD ((i : Nat) : Int) = some (.str (pool.getD i "x")) := by
  refine atI_nat (j := i) ?_
  have : i = 0 ∨ i = 1 ∨ i = 2 ∨ i = 3 ∨ i = 4 ∨ i = 5 ∨ i = 6 ∨ i = 7 := by omega
  rcases this with rfl | rfl | rfl | rfl | rfl | rfl | rfl | rfl <;> rfl
theorem tk (m : Int) (Q : SV → Prop) (h0 : 0 < m) (h1 : m < 2 ^ 60) (h : ∀ x : Int, 0 ≤ x → x < m → Q (.v (.int x))) : G_law_take [.st, .v (.int m)] Q := ⟨m, rfl, h0, log2_small (by omega), h⟩
def G_law_names : PFn := fun svs Q => ∃ c : Int, svs = [.st, .v (.int c)] ∧ 0 ≤ c ∧ c ≤ 8 ∧ ∀ names : List Str, names.length = c.toNat → (∀ s ∈ names, s ∈ pool) → names.Nodup → Q (.own (names.map PyData.str))
def G_law_group_word : PFn := fun svs Q => ∃ (names : List Str) (c : Int), svs = [.st, .v (.list (names.map PyData.str)), .v (.int c)] ∧ names ≠ [] ∧ names.length ≤ 1000 ∧ (∀ s ∈ names, s ∈ pool) ∧ 0 ≤ c ∧ c ≤ 1000 ∧ ∀ w : W, w.length = c.toNat → (∀ p ∈ w, p.1 ∈ names ∧ (p.2 = 1 ∨ p.2 = -1)) → Q (.v (encW w))
/-- slots: 0 state, 1 count, 2 pool, 3 start, 4 step, 5 k -/
def B_law_names : PTS :=
  (pSeq (pSet 2 (pFz (pLst (pCons (pC (.str (PySem.Str.ofString "x"))) (pCons (pC (.str (PySem.Str.ofString "y"))) (pCons (pC (.str (PySem.Str.ofString "z"))) (pCons (pC (.str (PySem.Str.ofString "a"))) (pCons (pC (.str (PySem.Str.ofString "b0"))) (pCons (pC (.str (PySem.Str.ofString "x1"))) (pCons (pC (.str (PySem.Str.ofString "t9"))) (pCons (pC (.str (PySem.Str.ofString "w"))) pNil)))))))))))
    (pSeq (pTgt (pTup (pCons (pFz (pCall G_law_take (aSlot 0 (aCons (pC (.int 8)) aNil)))) (pCons (pFz (pOpF gAdd (pC (.int 1)) (pFz (pOpF gMul (pC (.int 2)) (pFz (pCall G_law_take (aSlot 0 (aCons (pC (.int 4)) aNil)))))))) pNil))) (pgTup 2 (pgCons (pgName 3) (pgCons (pgName 4) pgNil))))
    (pRetF (pLc (pRange1 (pVar 1)) (pgName 5) pYes (pOp gIx (pVarB 2) (pOp gMod (pB gIntOf (pCons (pFz (pOpF gAdd (pVarB 3) (pFz (pOpF gMul (pVarB 5) (pVarB 4))))) pNil)) (pC (.int 8)))) [5]))))

/-- slots: 0 state, 1 names, 2 length, 3 k -/
def B_law_group_word : PTS :=
  (pRet (pB gTupOf (pCons (pFz (pLc (pRange1 (pVar 2)) (pgName 3) pYes (pTup (pCons (pOp gIx (pVarB 1) (pFz (pCall G_law_take (aSlot 0 (aCons (pB gLen (pCons (pVarB 1) pNil)) aNil))))) (pCons (pOp gMinus (pC (.int 1)) (pFz (pOpF gMul (pC (.int 2)) (pFz (pCall G_law_take (aSlot 0 (aCons (pC (.int 2)) aNil))))))) pNil))) [3])) pNil)))

theorem pure_law_names : ∀ svs Qd, G_law_names svs Qd → svs.length = 2 ∧ B_law_names { nx := fun _ => Qd (.v .none), rt := Qd, bk := fun _ => False, ct := fun _ => False } (svs.map some ++ List.replicate (6 - svs.length) none) := by
  rintro svs Qd ⟨c, rfl, c0, c8, hq⟩
  refine ⟨rfl, ?_⟩
  unfold B_law_names
  walk_at "dl"
  refine ⟨lineOk_small (by decide), tk 8 _ (by decide) (by decide) fun x hx0 hx1 => ?_⟩
  walk_at "dl"
  refine tk 4 _ (by decide) (by decide) fun y hy0 hy1 => ?_
  walk_at "dl"
  refine ⟨mulSmallL (by decide), lineOk_small (by decide), ⟨by omega, by omega⟩, ?_⟩
  obtain ⟨x, rfl⟩ := Int.eq_ofNat_of_zero_le hx0
  obtain ⟨y, rfl⟩ := Int.eq_ofNat_of_zero_le hy0
  obtain ⟨c, rfl⟩ := Int.eq_ofNat_of_zero_le c0
  rw [Int.toNat_natCast] at hq ⊢
  refine ⟨by rw [rngD_length]; omega, fun k acc => acc = (namesOf x (1 + 2 * y) k).map PyData.str, rfl, ?_, ?_⟩
  · rintro k acc d rfl hd
    obtain ⟨hk, rfl⟩ := rngD_get hd
    walk_at "dl"
    have e : ((x : Int) + (0 + (k : Int)) * (1 + 2 * (y : Int))) % 8 = (((x + k * (1 + 2 * y)) % 8 : Nat) : Int) := by
      rw [Int.natCast_emod, Int.natCast_add, Int.natCast_mul, Int.natCast_add, Int.natCast_mul, Int.zero_add]
      rfl
    refine ⟨mulSmallR (by omega), ?_⟩
    rw [e]
    have := pool_at ((x + k * (1 + 2 * y)) % 8) (Nat.mod_lt _ (by decide))
    unfold poolD at this
    rw [this]
    unfold namesOf
    rw [List.range_succ, List.map_append, List.map_append]
    rfl
  · rintro acc rfl
    rw [rngD_length]
    refine hq _ (by unfold namesOf; simp) (fun s hs => names_pool hs) ?_
    rw [names_take _ _ _ (by omega)]
    exact (names_nodup x (by omega) y (by omega)).sublist (List.take_sublist _ _)
theorem pure_law_group_word : ∀ svs Qd, G_law_group_word svs Qd → svs.length = 3 ∧ B_law_group_word { nx := fun _ => Qd (.v .none), rt := Qd, bk := fun _ => False, ct := fun _ => False } (svs.map some ++ List.replicate (4 - svs.length) none) := by
  rintro svs Qd ⟨names, c, rfl, n0, nl, hp, c0, c1, hq⟩
  refine ⟨rfl, ?_⟩
  have npos : 0 < names.length := List.length_pos_iff.mpr n0
  unfold B_law_group_word
  walk_at "dl"
  refine ⟨⟨by omega, by omega⟩, by rw [rngD_length]; omega, fun k acc => ∃ w : W, acc = w.map encP ∧ w.length = k ∧ ∀ p ∈ w, p.1 ∈ names ∧ (p.2 = 1 ∨ p.2 = -1), ⟨[], rfl, rfl, fun p h => by cases h⟩, ?_, ?_⟩
  · rintro k acc d ⟨w, rfl, hl, hw⟩ hd
    obtain ⟨hk, rfl⟩ := rngD_get hd
    walk_at "dl"
    refine tk _ _ (by rw [List.length_map]; omega) (by rw [List.length_map]; omega) fun x hx0 hx1 => ?_
    rw [List.length_map] at hx1
    walk_at "dl"
    obtain ⟨s, hs, hg⟩ := atI_lt (xs := names) hx0 hx1
    rw [atI_map, hs]
    refine tk 2 _ (by decide) (by decide) fun y hy0 hy1 => ?_
    walk_at "dl"
    refine ⟨mulSmallL (by decide), lineOk_small (by decide), w ++ [(s, 1 - 2 * y)], by rw [List.map_append]; rfl, by rw [List.length_append, hl]; rfl, fun p h => ?_⟩
    rcases List.mem_append.mp h with h | h
    · exact hw p h
    · rw [List.mem_singleton.mp h]
      exact ⟨List.mem_of_getElem? hg, by show 1 - 2 * y = 1 ∨ 1 - 2 * y = -1; omega⟩
  · rintro acc ⟨w, rfl, hl, hw⟩
    walk_at "dl"
    rw [rngD_length] at hl
    exact hq w hl hw
end DL
/-! ## K18M -/
set_option Elab.async false
set_option linter.all false
set_option maxRecDepth 100000
set_option maxHeartbeats 4000000
/-! K18M: cores, what stands around them, roots. -/
namespace WD
open PySem DL
theorem pw_get (u : W) : ∀ (n i : Nat), i < n * u.length → (pw u n)[i]? = u[i % u.length]?
  | 0, i, h => by simp at h
  | n + 1, i, h => by
    rw [pw_succ]
    by_cases hi : i < u.length
    · rw [List.getElem?_append_left hi, Nat.mod_eq_of_lt hi]
    · rw [List.getElem?_append_right (by omega), pw_get u n _ (by rw [Nat.succ_mul] at h; omega)]
      congr 1
      exact (Nat.mod_eq_sub_mod (by omega)).symm
theorem pw_pw (u : W) (a : Nat) : ∀ b, pw (pw u a) b = pw u (a * b)
  | 0 => rfl
  | b + 1 => by rw [pw_succ, pw_pw u a b, ← pw_add, Nat.mul_succ, Nat.add_comm]
def Per (f : Nat → Option P) (p : Nat) : Prop := ∀ i, f (i + p) = f i
theorem Per.mul {f : Nat → Option P} {p : Nat} (h : Per f p) : ∀ k i, f (i + p * k) = f i
  | 0, i => rfl
  | k + 1, i => by rw [Nat.mul_succ, ← Nat.add_assoc, h, h.mul k i]
theorem Per.gcd {f : Nat → Option P} : ∀ m n, Per f m → Per f n → Per f (Nat.gcd m n) := by
  intro m n
  induction m, n using Nat.gcd.induction with
  | H0 n => intro _ h; rw [Nat.gcd_zero_left]; exact h
  | H1 m n hm ih =>
    intro h1 h2
    rw [Nat.gcd_rec]
    refine ih (fun i => ?_) h1
    have := h1.mul (n / m) (i + n % m)
    rw [← this, Nat.add_assoc, Nat.mod_add_div]
    exact h2 i
theorem ext_get {u v : W} (h : u.length = v.length) (k : ∀ i, i < v.length → u[i]? = v[i]?) : u = v := by
  refine List.ext_getElem? fun i => ?_
  by_cases hi : i < v.length
  · exact k i hi
  · rw [List.getElem?_eq_none_iff.mpr (by omega), List.getElem?_eq_none_iff.mpr (by omega)]
def Prim (C : W) : Prop := ∀ t, 1 ≤ t → t < C.length → t ∣ C.length → pw (C.take t) (C.length / t) ≠ C
theorem prim_pow {C : W} (hp : Prim C) {n s : Nat} (hn : 1 ≤ n) (h1 : 1 ≤ s) (h2 : s < C.length) (hd : s ∣ n * C.length) : pw ((pw C n).take s) (n * C.length / s) ≠ pw C n := by
  intro e
  have hN : s ≤ n * C.length := Nat.le_trans (Nat.le_of_lt h2) (Nat.le_mul_of_pos_left _ hn)
  have hl : ((pw C n).take s).length = s := by rw [List.length_take, pw_length]; omega
  generalize (pw C n).take s = u at e hl
  have hNpos : 0 < n * C.length := by omega
  have hf : ∀ i, C[i % C.length]? = u[i % s]? := fun i => by
    have hi : i % (n * C.length) < n * C.length := Nat.mod_lt _ hNpos
    have a1 := pw_get C n _ hi
    rw [← e, pw_get u _ _ (by rw [hl, Nat.div_mul_cancel hd]; exact hi), hl, Nat.mod_mod_of_dvd _ hd, Nat.mod_mod_of_dvd _ (Nat.dvd_mul_left _ _)] at a1
    exact a1.symm
  have p1 : Per (fun i => C[i % C.length]?) C.length := fun i => by show C[(i + C.length) % C.length]? = _; rw [Nat.add_mod_right]
  have p2 : Per (fun i => C[i % C.length]?) s := fun i => by show C[(i + s) % C.length]? = C[i % C.length]?; rw [hf, hf, Nat.add_mod_right]
  have p3 := Per.gcd _ _ p2 p1
  have g1 : 1 ≤ Nat.gcd s C.length := Nat.gcd_pos_of_pos_left _ (by omega)
  have g2 : Nat.gcd s C.length ≤ s := Nat.gcd_le_left _ (by omega)
  have g3 : Nat.gcd s C.length ∣ C.length := Nat.gcd_dvd_right _ _
  generalize Nat.gcd s C.length = g at p3 g1 g2 g3
  have tl : (C.take g).length = g := by rw [List.length_take]; omega
  refine hp g g1 (by omega) g3 (ext_get ?_ fun i hi => ?_)
  · rw [pw_length, tl, Nat.div_mul_cancel g3]
  · rw [pw_get _ _ _ (by rw [tl, Nat.div_mul_cancel g3]; exact hi), tl, List.getElem?_take_of_lt (Nat.mod_lt _ (by omega))]
    have := p3.mul (i / g) (i % g)
    simp only [Nat.mod_add_div] at this
    rw [Nat.mod_eq_of_lt hi, Nat.mod_eq_of_lt (Nat.lt_of_lt_of_le (Nat.mod_lt _ (by omega)) (by omega))] at this
    exact this.symm
def Cyc (C : W) : Prop := ∀ p q a b, C = p :: a → C = b ++ [q] → p ≠ inv1 q
theorem pw_front {C : W} {n : Nat} {q : P} {b : W} (h : pw C n = q :: b) : ∃ r, C = q :: r := by
  cases n with
  | zero => cases h
  | succ n =>
    rw [pw_succ] at h
    cases C with
    | nil =>
      rw [List.nil_append] at h
      have := congrArg List.length h
      rw [pw_length] at this
      simp at this
    | cons c r =>
      injection h with h1 h2
      exact ⟨r, by rw [h1]⟩
theorem pw_back {C : W} {n : Nat} {q : P} {b : W} (h : pw C n = b ++ [q]) : ∃ r, C = r ++ [q] := by
  cases n with
  | zero =>
    have := congrArg List.length h
    simp [pw_zero] at this
  | succ n =>
    rw [pw_snoc] at h
    rcases List.eq_nil_or_concat C with rfl | ⟨r, z, rfl⟩
    · have := congrArg List.length h
      rw [List.append_nil, pw_length] at this
      simp at this
    · rw [List.concat_eq_append, ← List.append_assoc] at h
      have := List.append_inj_right' h rfl
      injection this with this
      exact ⟨r, by rw [this, List.concat_eq_append]⟩
theorem cyc_pw {C : W} (h : Cyc C) (n : Nat) : Cyc (pw C n) := fun p q a b e1 e2 => by
  obtain ⟨r, hr⟩ := pw_front e1
  obtain ⟨t, ht⟩ := pw_back e2
  exact h p q r t hr ht
theorem pw_red {C : W} (hr : Red C) (hc : Cyc C) : ∀ n, Red (pw C n)
  | 0 => red_nil
  | n + 1 => by
    rw [pw_succ]
    refine red_join hr (pw_red hr hc n) fun a p q b e1 e2 => ?_
    obtain ⟨r, h⟩ := pw_front e2
    exact hc q p r a h e1
structure Core (C : W) : Prop where
  ne : C ≠ []
  ok : okW C
  red : Red C
  cyc : Cyc C
  prim : Prim C
  len : C.length ≤ 4
structure Arnd (C A : W) : Prop where
  front : ∀ a x c r, A = a ++ [x] → C = c :: r → x ≠ inv1 c
  back : ∀ a x b z, A = a ++ [x] → C = b ++ [z] → x ≠ z
theorem winv_snoc (a : W) (x : P) : winv (a ++ [x]) = inv1 x :: winv a := by rw [winv_app]; rfl
theorem winv_cons (a : W) (x : P) : winv (x :: a) = winv a ++ [inv1 x] := by simp [winv]
theorem word_red {C A : W} (hr : Red C) (hc : Cyc C) (ha : Red A) (h : Arnd C A) {n : Nat} (hn : 1 ≤ n) (hne : C ≠ []) : Red (A ++ pw C n ++ winv A) := by
  refine red_join (red_join ha (pw_red hr hc n) fun a p q b e1 e2 => ?_) (winv_red ha) fun a p q b e1 e2 => ?_
  · obtain ⟨r, hC⟩ := pw_front e2
    exact fun z => h.front a p q r e1 hC (inv1_swap.mp z)
  · rcases List.eq_nil_or_concat A with rfl | ⟨a2, x, rfl⟩
    · rw [winv_nil] at e2; cases e2
    · rw [List.concat_eq_append] at h e1 e2
      rw [winv_snoc] at e2
      injection e2 with e2 _
      rcases List.eq_nil_or_concat (pw C n) with hp | ⟨b2, z, hp⟩
      · have := congrArg List.length hp
        rw [pw_length] at this
        have : 0 < C.length := List.length_pos_iff.mpr hne
        have : 0 < n * C.length := Nat.mul_pos hn this
        simp at *
        omega
      · rw [List.concat_eq_append] at hp
        obtain ⟨r, hC⟩ := pw_back hp
        rw [hp, ← List.append_assoc] at e1
        have := List.append_inj_right' e1 rfl
        injection this with this
        have hx := h.back a2 x r z rfl hC
        rw [← e2, ← this]
        exact fun k => hx (inv1_inj k)
theorem cyc_winv {C : W} (h : Cyc C) : Cyc (winv C) := fun p q a b e1 e2 => by
  have f1 : C = winv a ++ [inv1 p] := by rw [← winv_winv C, e1, winv_cons]
  have f2 : C = inv1 q :: winv b := by rw [← winv_winv C, e2, winv_snoc]
  have := h _ _ _ _ f2 f1
  rw [inv1_inv1] at this
  exact fun z => this z.symm
theorem arnd_winv {C A : W} (h : Arnd C A) : Arnd (winv C) A where
  front := fun a x c r e1 e2 => by
    have f1 : C = winv r ++ [inv1 c] := by rw [← winv_winv C, e2, winv_cons]
    exact h.back _ _ _ _ e1 f1
  back := fun a x b z e1 e2 => by
    have f2 : C = inv1 z :: winv b := by rw [← winv_winv C, e2, winv_snoc]
    have := h.front _ _ _ _ e1 f2
    rwa [inv1_inv1] at this
/-- the letter c places from the front and from the end -/
theorem sides {A D : W} {c : Nat} (h : c < A.length) : ∃ p, (A ++ D ++ winv A)[c]? = some p ∧ (A ++ D ++ winv A)[(A ++ D ++ winv A).length - 1 - c]? = some (inv1 p) := by
  refine ⟨A[c], ?_, ?_⟩
  · rw [List.append_assoc, List.getElem?_append_left h]; simp [h]
  · have l1 : (A ++ D ++ winv A).length - 1 - c = (A ++ D).length + (A.length - 1 - c) := by simp only [List.length_append, winv_length]; omega
    rw [l1, List.getElem?_append_right (by omega), Nat.add_sub_cancel_left]
    unfold winv
    rw [List.getElem?_reverse (by rw [List.length_map]; omega), List.length_map, show A.length - 1 - (A.length - 1 - c) = c by omega, List.getElem?_map]
    simp [h]
theorem middle {A D : W} (hD : D ≠ []) : ∃ p q a b, D = p :: a ∧ D = b ++ [q] ∧ (A ++ D ++ winv A)[A.length]? = some p ∧ (A ++ D ++ winv A)[(A ++ D ++ winv A).length - 1 - A.length]? = some q := by
  obtain ⟨b, q, e2⟩ : ∃ b q, D = b ++ [q] := ⟨D.dropLast, D.getLast hD, (List.dropLast_concat_getLast hD).symm⟩
  cases D with
  | nil => exact (hD rfl).elim
  | cons p a =>
    refine ⟨p, q, a, b, rfl, e2, ?_, ?_⟩
    · rw [List.append_assoc, List.getElem?_append_right (by omega), Nat.sub_self]; rfl
    · rw [e2]
      have l1 : (A ++ (b ++ [q]) ++ winv A).length - 1 - A.length = A.length + b.length := by simp only [List.length_append, winv_length, List.length_cons, List.length_nil]; omega
      rw [l1, List.append_assoc, List.getElem?_append_right (by omega), Nat.add_sub_cancel_left, List.append_assoc, List.getElem?_append_right (by omega), Nat.sub_self]
      rfl
theorem core_sub {f : W} {s : Nat} (h0 : okW f) (hr : Red f) (hc : Cyc f) (hl : f.length ≤ 4) (h1 : 1 ≤ s) (h2 : s < f.length) (hd : f.length / s * s = f.length) (he : pw (f.take s) (f.length / s) = f)
    (no : ∀ t, 1 ≤ t → t < s → ¬ (f.length / t * t = f.length ∧ pw (f.take t) (f.length / t) = f)) : Core (f.take s) := by
  have tl : (f.take s).length = s := by rw [List.length_take]; omega
  have hq : 1 ≤ f.length / s := Nat.div_pos (by omega) (by omega)
  obtain ⟨n, hn⟩ : ∃ n, f.length / s = n + 1 := ⟨f.length / s - 1, by omega⟩
  refine ⟨fun e => ?_, fun p hp => h0 p (List.mem_of_mem_take hp), ?_, fun p q a b e1 e2 => ?_, fun t t1 t2 td te => ?_, by rw [tl]; omega⟩
  · rw [e] at tl; simp at tl; omega
  · have : f = f.take s ++ f.drop s := (List.take_append_drop s f).symm
    rw [this] at hr
    exact red_left hr
  · have f1 : f = p :: (a ++ f.drop s) := by
      have := List.take_append_drop s f
      rw [e1] at this
      exact this.symm
    have f2 : f = (pw (f.take s) n ++ b) ++ [q] := by
      have := he
      rw [hn, pw_snoc] at this
      rw [List.append_assoc, ← e2]
      exact this.symm
    exact hc p q _ _ f1 f2
  · rw [tl] at t2 td te
    rw [List.take_take, Nat.min_eq_left (by omega)] at te
    have ds : s ∣ f.length := ⟨f.length / s, by rw [Nat.mul_comm]; exact hd.symm⟩
    have dt : t ∣ f.length := Nat.dvd_trans td ds
    refine no t t1 t2 ⟨Nat.div_mul_cancel dt, ?_⟩
    have e3 : s / t * (f.length / s) = f.length / t := by
      obtain ⟨k, rfl⟩ := td
      obtain ⟨j, hj⟩ := ds
      rw [hj, Nat.mul_div_cancel_left _ (by omega), Nat.mul_div_cancel_left _ (by omega), Nat.mul_assoc, Nat.mul_div_cancel_left _ (by omega)]
    rw [← e3, ← pw_pw, te]
    exact he
theorem core_self {f : W} (h0 : okW f) (hr : Red f) (hc : Cyc f) (hl : f.length ≤ 4) (hne : f ≠ []) (no : ∀ t, 1 ≤ t → t < f.length → ¬ (f.length / t * t = f.length ∧ pw (f.take t) (f.length / t) = f)) : Core f :=
  ⟨hne, h0, hr, hc, fun t t1 t2 td te => no t t1 t2 ⟨Nat.div_mul_cancel td, te⟩, hl⟩
theorem core_one {p : P} (h : okP p) : Core [p] := by
  refine ⟨by simp, fun q hq => by rw [List.mem_singleton.mp hq]; exact h, red_one p, fun x q a b e1 e2 => ?_, fun t t1 t2 _ => ?_, by simp⟩
  · injection e1 with e1 _
    have : b = [] := by
      have := congrArg List.length e2
      simp at this
      exact this
    subst this
    injection e2 with e2 _
    rw [← e1, ← e2]
    exact okP_ne h
  · simp at t2; omega
end WD
/-! ## K18 -/
set_option Elab.async false
set_option linter.all false
set_option maxRecDepth 100000
set_option maxHeartbeats 4000000
/-! k18: the defs and the law. -/
namespace DL
open PySem L2 RZ RT PyProof.Rows WD
local macro_rules | `(tactic| walk_at "dl") => `(tactic| simp only [↓pSeq_ap, ↓pSet_ap, ↓pSetF_ap, ↓pRet_ap, ↓pRetF_ap, ↓pRetVar_ap, ↓pRetN_ap, ↓pIfS_ap, ↓pPar_ap, ↓pNext_ap, ↓pNever_ap, ↓pTgt_ap, ↓pDrop_ap, ↓pVar_ap, ↓pVarB_ap, ↓pC_ap, ↓pOp_ap, ↓pOpF_ap, ↓pUn_ap, ↓pFz_eq, ↓frz_v, ↓frz_own, ↓frz_ownD, ↓pV_ap, ↓pTest_ap, ↓pAnd_ap, ↓pOr_ap, ↓pNot_ap, ↓pIf_ap, ↓pAndV_ap, ↓pOrV_ap, ↓pNotV_ap, ↓pNil_ap, ↓pCons_ap, ↓aNil_ap, ↓aCons_ap, ↓aSlot_ap, ↓pTup_ap, ↓pLst_ap, ↓pB_ap, ↓pBF_ap, ↓pCall_ap, ↓pIsi_ap, ↓pIsN_ap, ↓pNotN_ap, ↓pSt_ap, ↓pSetSt_ap, ↓pLenS_ap, ↓pIxS_ap, ↓pFor_ap, ↓pIter_ap, ↓pRange1_ap, ↓pRange2_ap, ↓gItems, pgName, slot_z, slot_s, set_z, set_s, ↓gI, ↓gMinus, ↓gMod, ↓gFdiv, ↓gPow, ↓gLt, ↓gLe, ↓gGt, ↓gGe, ↓gNeg, ↓gAdd, ↓gMul, ↓gIx, ↓gEq, ↓gNe, ↓gLen, ↓gAbs, ↓gIntOf, ↓gTupOf, ↓gLstOf, DL.isInt, DL.isBool, DL.isStr, DL.isList, DL.isTuple, DL.isDict, DL.isNone, eqb_int, eqb_bool, eqb_str, eqb_self, List.length, List.replicate, List.map, List.append, List.cons_append, List.nil_append, Bool.not_true, Bool.not_false, if_true, if_false, Bool.false_eq_true, ite_true, ite_false, reduceIte, Int.reduceLT, Int.reduceLE, Int.reduceEq, Int.reduceNe, Int.reduceAdd, Int.reduceSub, Int.reduceMul, Int.reduceNeg, Int.reduceToNat, Int.reducePow, Nat.reduceAdd, Nat.reduceSub, ne_eq, not_false_eq_true, not_true_eq_false, decide_true, decide_false, and_true, true_and, ↓pRev_ap, ↓pZip_ap, ↓pSl_ap, ↓pNoPart_ap, ↓pPart_ap, ↓pFreeze_ap, ↓pApp_ap, ↓pExt_ap, ↓pPop_ap, ↓pSetIx_ap, ↓pBreak_ap, ↓pCont_ap, ↓pYes_ap, ↓pEnum_ap, ↓pAug_ap, ↓gPlusI, ↓pChain_ap, ↓gIn_ss, ↓gIn_il, ↓gIn_it, ↓gIn_tl, ↓gIn_tt, ↓gIn_sl, ↓gIn_st, ↓pLc_ap, ↓gSl, wipeE, pgTup, pgCons, pgNil, atL1_0, atL2_0, atL2_1, atL3_0, atL3_1, atL3_2])
def cutW (xs : W) (lo hi : Option Int) : W := (xs.drop (HT.sIx xs.length 0 lo)).take (HT.sIx xs.length xs.length hi - HT.sIx xs.length 0 lo)
theorem cutD_map (w : W) (lo hi : Option Int) : cutD (w.map encP) lo hi = (cutW w lo hi).map encP := by
  unfold cutD cutW
  rw [List.length_map, ← List.map_drop, ← List.map_take]
theorem sIx_nn (n d : Nat) (k : Nat) (h : k ≤ n) : HT.sIx n d (some (k : Int)) = k := by rw [HT.sIx_nat]; omega
theorem cutW_to (w : W) (k : Nat) (h : k ≤ w.length) : cutW w none (some (k : Int)) = w.take k := by
  unfold cutW
  rw [sIx_nn _ _ _ h]
  simp [HT.sIx]
theorem cutW_in (w : W) (k m : Nat) (h : k ≤ m) (hm : m ≤ w.length) : cutW w (some (k : Int)) (some (m : Int)) = (w.drop k).take (m - k) := by
  unfold cutW
  rw [sIx_nn _ _ k (by omega), sIx_nn _ _ m hm]
theorem cutW_mid (w : W) (h : 1 ≤ w.length) : cutW w (some 1) (some (-1)) = w.tail.dropLast := by
  unfold cutW
  have e1 : HT.sIx w.length 0 (some 1) = 1 := sIx_nn _ _ 1 h
  have e2 : HT.sIx w.length w.length (some (-1)) = w.length - 1 := by
    unfold HT.sIx
    simp only
    rw [if_pos (by decide)]
    omega
  rw [e1, e2, List.drop_one, List.dropLast_eq_take, List.length_tail]
theorem cutW_one (w : W) (c : Nat) (h : c < w.length) (x : WD.P) (hx : w[w.length - 1 - c]? = some x) : cutW w (some (-1 - (c : Int))) (some ((w.length : Int) - c)) = [x] := by
  unfold cutW
  have e1 : HT.sIx w.length 0 (some (-1 - (c : Int))) = w.length - 1 - c := by
    unfold HT.sIx
    simp only
    rw [if_pos (by omega)]
    omega
  have e2 : HT.sIx w.length w.length (some ((w.length : Int) - c)) = w.length - c := by
    rw [show (w.length : Int) - c = ((w.length - c : Nat) : Int) by omega]
    exact sIx_nn _ _ _ (by omega)
  rw [e1, e2, show w.length - c - (w.length - 1 - c) = 1 by omega]
  obtain ⟨hlt, e⟩ := List.getElem?_eq_some_iff.mp hx
  rw [List.drop_eq_getElem_cons hlt, e]
  rfl
theorem addW (u v : W) (Q : SV → Prop) (h : u.length + v.length ≤ 1000) (k : Q (.v (encW (u ++ v)))) : gAdd (encW u) (encW v) Q := by
  refine ⟨lineOk_small (by simp only [List.length_map]; exact h), ?_⟩
  unfold encW at k
  rw [List.map_append] at k
  exact k
theorem mulW (u : W) (n : Int) (Q : SV → Prop) (h0 : 0 ≤ n) (h1 : n ≤ 1000) (h : u.length ≤ 1000) (k : Q (.v (encW (pw u n.toNat)))) : gMul (encW u) (.int n) Q := by
  refine ⟨by omega, h1, by rw [List.length_map]; exact h, ?_⟩
  rw [map_flat]
  exact k
theorem atW {w : W} {j : Nat} {p : WD.P} (h : w[j]? = some p) : atI (w.map encP) (j : Int) = some (encP p) := by
  rw [atI_map, atI_nat h]
  rfl
theorem atW0 {p : WD.P} {w : W} : atI ((p :: w).map encP) 0 = some (encP p) := atW (j := 0) rfl
theorem eqP (p q : WD.P) (Q : D → Prop) (h : Q (.bool (decide (p = q)))) : gEq (encP p) (encP q) Q := ⟨eqOk_P p q, by rw [eqb_P]; exact h⟩
theorem eqW (p q : W) (Q : D → Prop) (h : Q (.bool (decide (p = q)))) : gEq (encW p) (encW q) Q := ⟨eqOk_W p q, by rw [eqb_W]; exact h⟩
theorem neW (p q : W) (Q : D → Prop) (h : Q (.bool (!decide (p = q)))) : gNe (encW p) (encW q) Q := ⟨eqOk_W p q, by rw [eqb_W]; exact h⟩
theorem dueW (w : W) (h : w.length ≤ 1000) : dueOk 2 (encW w) := ⟨by rw [List.length_map]; omega, fun x hx => by
  obtain ⟨p, _, rfl⟩ := List.mem_map.mp hx
  exact ⟨by show 2 ≤ 16777216; decide, fun x h => by
    rcases List.mem_cons.mp h with rfl | h
    · trivial
    · rw [List.mem_singleton.mp h]; trivial⟩⟩
theorem dueWs (u v : D) (h1 : dueOk 2 u) (h2 : dueOk 2 v) : dueOk 8 (.tuple [u, v]) := dueOk_mono 3 8 _ (by decide) ⟨by show 2 ≤ 16777216; decide, fun x h => by
  rcases List.mem_cons.mp h with rfl | h
  · exact h1
  · rw [List.mem_singleton.mp h]; exact h2⟩
def G_split_core : PFn := fun svs Q => ∃ A D' : W, svs = [.v (encW (A ++ D' ++ winv A))] ∧ (A ++ D' ++ winv A).length ≤ 1000 ∧ (D' ≠ [] ∨ A = []) ∧ (D'.length ≤ 1 ∨ Cyc D') ∧ Q (.v (.tuple [encW A, encW D']))
def G_core_of : PFn := fun svs Q => ∃ A D' : W, svs = [.v (encW (A ++ D' ++ winv A))] ∧ (A ++ D' ++ winv A).length ≤ 1000 ∧ okW (A ++ D' ++ winv A) ∧ Red (A ++ D' ++ winv A) ∧ (D' ≠ [] ∨ A = []) ∧ (D'.length ≤ 1 ∨ Cyc D') ∧ Q (.v (.tuple [encW A, encW D']))
def G_root_of : PFn := fun svs Q => (∃ (A C : W) (n : Nat), svs = [.v (encW (A ++ pw C n ++ winv A))] ∧ (A ++ pw C n ++ winv A).length ≤ 1000 ∧ okW A ∧ okW C ∧ Red (A ++ pw C n ++ winv A) ∧ C ≠ [] ∧ 1 ≤ n ∧ Cyc C ∧ Prim C ∧ Q (.v (.tuple [encW (nf (A ++ C ++ winv A)), .int (n : Int)]))) ∨ (svs = [.v (encW [])] ∧ Q (.v .none))
def G_commute : PFn := fun svs Q => ∃ u v : W, svs = [.v (encW u), .v (encW v)] ∧ okW u ∧ okW v ∧ u.length + v.length ≤ 1000 ∧ Q (.v (.bool (decide (nf (u ++ v) = nf (v ++ u)))))
def G_law_core : PFn := fun svs Q => ∃ names : List Str, svs = [.st, .v (.list (names.map PyData.str))] ∧ names ≠ [] ∧ names.length ≤ 8 ∧ (∀ s ∈ names, s ∈ pool) ∧ ∀ C, Core C → Q (.v (encW C))
def G_law_around : PFn := fun svs Q => ∃ (names : List Str) (C : W), svs = [.st, .v (.list (names.map PyData.str)), .v (encW C)] ∧ names ≠ [] ∧ names.length ≤ 8 ∧ (∀ s ∈ names, s ∈ pool) ∧ Core C ∧ ∀ A, okW A → A.length ≤ 4 → Red A → Arnd C A → Q (.v (encW A))
/-- slots: 0 word, 1 count -/
def B_split_core : PTS :=
  (pSeq (pSet 1 (pC (.int 0)))
    (pSeq (pWhile (pAnd (pTest (pOp gGt (pOp gMinus (pB gLen (pCons (pVarB 0) pNil)) (pFz (pOpF gMul (pC (.int 2)) (pVarB 1)))) (pC (.int 1)))) (pTest (pOp gEq (pOp gIx (pVarB 0) (pVarB 1)) (pOp gIx (pFz (pCall G_opposite (aCons (pFz (pSl (pVarB 0) (pPart (pOp gMinus (pUn gNeg (pC (.int 1))) (pVarB 1))) (pPart (pOp gMinus (pB gLen (pCons (pVarB 0) pNil)) (pVarB 1))))) aNil))) (pC (.int 0)))))) (pAug 1 gPlusI (pC (.int 1))))
    (pRet (pTup (pCons (pFz (pSl (pVarB 0) pNoPart (pPart (pVar 1)))) (pCons (pFz (pSl (pVarB 0) (pPart (pVar 1)) (pPart (pOp gMinus (pB gLen (pCons (pVarB 0) pNil)) (pVarB 1))))) pNil))))))

/-- slots: 0 word -/
def B_core_of : PTS :=
  (pRet (pFz (pCall G_split_core (aCons (pFz (pCall G_reduced (aCons (pVar 0) aNil))) aNil))))

/-- slots: 0 word, 1 around, 2 core, 3 size -/
def B_root_of : PTS :=
  (pSeq (pTgt (pFz (pCall G_split_core (aCons (pFz (pCall G_reduced (aCons (pVar 0) aNil))) aNil))) (pgTup 2 (pgCons (pgName 1) (pgCons (pgName 2) pgNil))))
    (pSeq (pIfS (pTest (pOp gEq (pVarB 2) (pTup pNil))) (pRet (pC .none)) pNext)
    (pSeq (pSet 3 (pC (.int 1)))
    (pSeq (pWhile (pOr (pTest (pOp gNe (pOp gMod (pB gLen (pCons (pVarB 2) pNil)) (pVarB 3)) (pC (.int 0)))) (pTest (pOp gNe (pFz (pOpF gMul (pFz (pSl (pVarB 2) pNoPart (pPart (pVar 3)))) (pOp gFdiv (pB gLen (pCons (pVarB 2) pNil)) (pVarB 3)))) (pVarB 2)))) (pAug 3 gPlusI (pC (.int 1))))
    (pRet (pTup (pCons (pFz (pCall G_group_product (aCons (pFz (pLst (pCons (pVar 1) (pCons (pFz (pSl (pVarB 2) pNoPart (pPart (pVar 3)))) (pCons (pFz (pCall G_opposite (aCons (pVar 1) aNil))) pNil))))) aNil))) (pCons (pOp gFdiv (pB gLen (pCons (pVarB 2) pNil)) (pVarB 3)) pNil))))))))

/-- slots: 0 one, 1 two -/
def B_commute : PTS :=
  (pSeq (pDrop (pFz (pCall G_check_group_word (aCons (pVar 0) aNil))))
    (pSeq (pDrop (pFz (pCall G_check_group_word (aCons (pVar 1) aNil))))
    (pRet (pOp gEq (pFz (pCall G_group_product (aCons (pFz (pLst (pCons (pVar 0) (pCons (pVar 1) pNil)))) aNil))) (pFz (pCall G_group_product (aCons (pFz (pLst (pCons (pVar 1) (pCons (pVar 0) pNil)))) aNil)))))))

/-- slots: 0 state, 1 names, 2 found, 3 size -/
def B_law_core : PTS :=
  (pCut (pSet 2 (pFz (pCall G_law_group_word (aSlot 0 (aCons (pVar 1) (aCons (pFz (pOpF gAdd (pC (.int 1)) (pFz (pCall G_law_take (aSlot 0 (aCons (pC (.int 4)) aNil)))))) aNil))))))
    (pCut (pSet 2 (pFz (pCall G_law_short (aCons (pVar 2) aNil))))
    (pCut (pWhile (pAnd (pTest (pOp gGt (pB gLen (pCons (pVarB 2) pNil)) (pC (.int 1)))) (pTest (pOp gEq (pOp gIx (pVarB 2) (pC (.int 0))) (pTup (pCons (pOp gIx (pOp gIx (pVarB 2) (pUn gNeg (pC (.int 1)))) (pC (.int 0))) (pCons (pUn gNeg (pOp gIx (pOp gIx (pVarB 2) (pUn gNeg (pC (.int 1)))) (pC (.int 1)))) pNil)))))) (pSet 2 (pFz (pSl (pVarB 2) (pPart (pC (.int 1))) (pPart (pUn gNeg (pC (.int 1))))))))
    (pCut (pFor (pRange2 (pC (.int 1)) (pB gLen (pCons (pVarB 2) pNil))) (pgName 3) (pIfS (pAnd (pTest (pOp gEq (pFz (pOpF gMul (pOp gFdiv (pB gLen (pCons (pVarB 2) pNil)) (pVarB 3)) (pVarB 3))) (pB gLen (pCons (pVarB 2) pNil)))) (pTest (pOp gEq (pFz (pOpF gMul (pFz (pSl (pVarB 2) pNoPart (pPart (pVar 3)))) (pOp gFdiv (pB gLen (pCons (pVarB 2) pNil)) (pVarB 3)))) (pVarB 2)))) (pRet (pFz (pSl (pVarB 2) pNoPart (pPart (pVar 3))))) pNext))
    (pRet (pIf (pTest (pOp gNe (pVarB 2) (pTup pNil))) (pVar 2) (pTup (pCons (pTup (pCons (pOp gIx (pVarB 1) (pC (.int 0))) (pCons (pC (.int 1)) pNil))) pNil))))))))

/-- slots: 0 state, 1 names, 2 core, 3 found, 4 turn, 5 pair, 6 after, 7 barred -/
def B_law_around : PTS :=
  (pCut (pSet 3 (pTup pNil))
    (pSeq (pFor (pRange1 (pFz (pCall G_law_take (aSlot 0 (aCons (pC (.int 5)) aNil))))) (pgName 4) (pCut (pSet 5 (pOp gIx (pFz (pCall G_law_group_word (aSlot 0 (aCons (pVar 1) (aCons (pC (.int 1)) aNil))))) (pC (.int 0))))
    (pCut (pSet 6 (pIf (pTest (pOp gNe (pVarB 3) (pTup pNil))) (pOp gIx (pVarB 3) (pC (.int 0))) (pC .none)))
    (pCut (pSet 7 (pIf (pTest (pNotN (pVarB 6))) (pFz (pLst (pCons (pTup (pCons (pOp gIx (pVarB 6) (pC (.int 0))) (pCons (pUn gNeg (pOp gIx (pVarB 6) (pC (.int 1)))) pNil))) pNil))) (pFz (pLst (pCons (pTup (pCons (pOp gIx (pOp gIx (pVarB 2) (pC (.int 0))) (pC (.int 0))) (pCons (pUn gNeg (pOp gIx (pOp gIx (pVarB 2) (pC (.int 0))) (pC (.int 1)))) pNil))) (pCons (pOp gIx (pVarB 2) (pUn gNeg (pC (.int 1)))) pNil))))))
    (pIfS (pTest (pOp (gIn true) (pVarB 5) (pVarB 7))) (pSet 3 (pFz (pOpF gAdd (pTup (pCons (pVar 5) pNil)) (pVarB 3)))) pNext)))))
    (pRetVar 3)))

/-- slots: 0 script, 1 state, 2 names, 3 core, 4 around, 5 count, 6 word, 7 root, 8 turned, 9 other, 10 due, 11 more, 12 swap -/
def B_law : PTS :=
  (pSeq (pSetF 1 (pCall G_law_big (aSlot 0 (aCons (pC (.int 0)) (aCons (pC (.int 16)) aNil)))))
    (pStify' 1 (pCut (pSet 2 (pFz (pCall G_law_names (aSlot 1 (aCons (pFz (pOpF gAdd (pC (.int 2)) (pFz (pCall G_law_take (aSlot 1 (aCons (pC (.int 2)) aNil)))))) aNil)))))
    (pCut (pSet 3 (pFz (pCall G_law_core (aSlot 1 (aCons (pVar 2) aNil)))))
    (pCut (pSet 4 (pFz (pCall G_law_around (aSlot 1 (aCons (pVar 2) (aCons (pVar 3) aNil))))))
    (pCut (pSet 5 (pFz (pOpF gAdd (pC (.int 1)) (pFz (pCall G_law_take (aSlot 1 (aCons (pC (.int 5)) aNil)))))))
    (pCut (pSet 6 (pFz (pOpF gAdd (pFz (pOpF gAdd (pVarB 4) (pFz (pOpF gMul (pVarB 3) (pVarB 5))))) (pFz (pCall G_law_opposite (aCons (pVar 4) aNil))))))
    (pCut (pIfS (pTest (pOp gNe (pFz (pCall G_law_short (aCons (pVar 6) aNil))) (pVarB 6))) pNever pNext)
    (pCut (pSet 7 (pFz (pOpF gAdd (pFz (pOpF gAdd (pVarB 4) (pVarB 3))) (pFz (pCall G_law_opposite (aCons (pVar 4) aNil))))))
    (pCut (pIfS (pOr (pNot (pTest (pFz (pCall G_law_same (aCons (pFz (pCall G_core_of (aCons (pVar 6) aNil))) (aCons (pTup (pCons (pVar 4) (pCons (pFz (pOpF gMul (pVarB 3) (pVarB 5))) pNil))) aNil)))))) (pNot (pTest (pFz (pCall G_law_same (aCons (pFz (pCall G_root_of (aCons (pVar 6) aNil))) (aCons (pTup (pCons (pVar 7) (pCons (pVar 5) pNil))) aNil))))))) pNever pNext)
    (pCut (pIfS (pOr (pNot (pTest (pFz (pCall G_law_same (aCons (pFz (pCall G_group_power (aCons (pVar 7) (aCons (pVar 5) aNil)))) (aCons (pVar 6) aNil)))))) (pNot (pTest (pFz (pCall G_law_same (aCons (pFz (pCall G_group_inverse (aCons (pVar 6) aNil))) (aCons (pFz (pCall G_law_opposite (aCons (pVar 6) aNil))) aNil))))))) pNever pNext)
    (pCut (pSet 8 (pTup (pCons (pVar 4) (pCons (pFz (pOpF gMul (pFz (pCall G_law_opposite (aCons (pVar 3) aNil))) (pVarB 5))) pNil))))
    (pCut (pIfS (pNot (pTest (pFz (pCall G_law_same (aCons (pFz (pCall G_core_of (aCons (pFz (pCall G_law_opposite (aCons (pVar 6) aNil))) aNil))) (aCons (pVar 8) aNil)))))) pNever pNext)
    (pCut (pSet 9 (pOp gMinus (pFz (pCall G_law_take (aSlot 1 (aCons (pC (.int 7)) aNil)))) (pC (.int 3))))
    (pCut (pSet 10 (pFz (pOpF gAdd (pFz (pOpF gAdd (pVarB 4) (pIf (pTest (pOp gGe (pVarB 9) (pC (.int 0)))) (pFz (pOpF gMul (pVarB 3) (pVarB 9))) (pFz (pOpF gMul (pFz (pCall G_law_opposite (aCons (pVar 3) aNil))) (pUn gNeg (pVarB 9))))))) (pFz (pCall G_law_opposite (aCons (pVar 4) aNil))))))
    (pCut (pIfS (pOr (pNot (pTest (pFz (pCall G_law_same (aCons (pFz (pCall G_group_power (aCons (pVar 7) (aCons (pVar 9) aNil)))) (aCons (pFz (pCall G_law_short (aCons (pVar 10) aNil))) aNil)))))) (pNot (pTest (pFz (pCall G_law_same (aCons (pFz (pCall G_commute (aCons (pVar 6) (aCons (pFz (pCall G_law_short (aCons (pVar 10) aNil))) aNil)))) (aCons (pC (.bool true)) aNil))))))) pNever pNext)
    (pCut (pSet 11 (pFz (pCall G_law_group_word (aSlot 1 (aCons (pVar 2) (aCons (pFz (pOpF gAdd (pC (.int 1)) (pFz (pCall G_law_take (aSlot 1 (aCons (pC (.int 4)) aNil)))))) aNil))))))
    (pCut (pSet 12 (pOp gEq (pFz (pCall G_law_short (aCons (pFz (pOpF gAdd (pVarB 6) (pVarB 11))) aNil))) (pFz (pCall G_law_short (aCons (pFz (pOpF gAdd (pVarB 11) (pVarB 6))) aNil)))))
    (pCut (pIfS (pOr (pNot (pTest (pFz (pCall G_law_same (aCons (pFz (pCall G_commute (aCons (pVar 6) (aCons (pVar 11) aNil)))) (aCons (pVar 12) aNil)))))) (pNot (pTest (pFz (pCall G_law_same (aCons (pFz (pCall G_commute (aCons (pVar 11) (aCons (pVar 6) aNil)))) (aCons (pVar 12) aNil))))))) pNever pNext)
    (pRet (pAndV (pFz (pCall G_law_same (aCons (pFz (pCall G_root_of (aCons (pFz (pCall G_group_power (aCons (pVar 6) (aCons (pC (.int 0)) aNil)))) aNil))) (aCons (pC .none) aNil)))) (pFz (pCall G_law_same (aCons (pFz (pCall G_core_of (aCons (pTup pNil) aNil))) (aCons (pTup (pCons (pTup pNil) (pCons (pTup pNil) pNil))) aNil)))))))))))))))))))))))))

theorem pure_split_core : ∀ svs Qd, G_split_core svs Qd → svs.length = 1 ∧ B_split_core { nx := fun _ => Qd (.v .none), rt := Qd, bk := fun _ => False, ct := fun _ => False } (svs.map some ++ List.replicate (2 - svs.length) none) := by
  rintro svs Qd ⟨A, D', rfl, hl, hne, hst, hq⟩
  refine ⟨rfl, ?_⟩
  unfold B_split_core
  have tot : (A ++ D' ++ winv A).length = 2 * A.length + D'.length := by simp only [List.length_append, winv_length]; omega
  have opp1 : ∀ (x : WD.P) (Q : SV → Prop), Q (.v (.tuple [encP (inv1 x)])) → G_opposite [.v (.tuple [encP x])] Q := fun x Q h => ⟨[x], rfl, by simp, h⟩
  have e0 : encW (A ++ D' ++ winv A) = .tuple ((A ++ D' ++ winv A).map encP) := rfl
  rw [e0]
  walk_at "dl"
  refine ⟨fun m env => ∃ c : Nat, m = A.length - c ∧ c ≤ A.length ∧ env = [some (.v (.tuple ((A ++ D' ++ winv A).map encP))), some (.v (.int (c : Int)))], ⟨_, 0, rfl, Nat.zero_le _, rfl⟩, ?_⟩
  rintro m env ⟨c, rfl, hc, rfl⟩
  walk_at "dl"
  refine ⟨mulSmallL (by decide), ?_⟩
  rw [List.length_map]
  by_cases h : c < A.length
  · have hD : D' ≠ [] := by
      rcases hne with h1 | h1
      · exact h1
      · rw [h1] at h; simp at h
    have hDl : 0 < D'.length := List.length_pos_iff.mpr hD
    rw [decide_eq_true (by omega)]
    obtain ⟨p, h1, h2⟩ := sides (D := D') h
    rw [atW h1, cutD_map, cutW_one _ c (by omega) _ h2]
    walk_at "dl"
    refine opp1 _ _ ?_
    rw [inv1_inv1]
    walk_at "dl"
    exact ⟨eqOk_P _ _, _, by omega, c + 1, rfl, h, by rw [Int.natCast_add]; rfl⟩
  · have hc2 : c = A.length := by omega
    subst hc2
    have fin : Qd (.v (.tuple [.tuple (cutD ((A ++ D' ++ winv A).map encP) none (some (A.length : Int))), .tuple (cutD ((A ++ D' ++ winv A).map encP) (some (A.length : Int)) (some (((A ++ D' ++ winv A).length : Int) - (A.length : Int))))])) := by
      rw [cutD_map, cutD_map, cutW_to _ _ (by omega), show (((A ++ D' ++ winv A).length : Int) - (A.length : Int)) = ((A.length + D'.length : Nat) : Int) by omega, cutW_in _ _ _ (by omega) (by omega)]
      rw [show A.length + D'.length - A.length = D'.length by omega, List.append_assoc, List.take_left', List.drop_left', List.take_left']
      · exact hq
      · rfl
      · rfl
      · rfl
    by_cases hd : D'.length ≤ 1
    · rw [decide_eq_false (by omega)]
      walk_at "dl"
      exact ⟨lineOk_small (by decide), fin⟩
    · rw [decide_eq_true (by omega)]
      have hcy : Cyc D' := hst.resolve_left hd
      have hD : D' ≠ [] := by rintro rfl; simp at hd
      obtain ⟨p, q, a, b, f1, f2, h1, h2⟩ := middle (A := A) hD
      rw [atW h1, cutD_map, cutW_one _ A.length (by omega) _ h2]
      walk_at "dl"
      refine opp1 _ _ ?_
      walk_at "dl"
      refine ⟨eqOk_P _ _, ?_⟩
      rw [eqb_P, decide_eq_false (hcy p q a b f1 f2)]
      walk_at "dl"
      exact ⟨lineOk_small (by decide), fin⟩
theorem pure_core_of : ∀ svs Qd, G_core_of svs Qd → svs.length = 1 ∧ B_core_of { nx := fun _ => Qd (.v .none), rt := Qd, bk := fun _ => False, ct := fun _ => False } (svs.map some ++ List.replicate (1 - svs.length) none) := by
  rintro svs Qd ⟨A, D', rfl, hl, ho, hr, hne, hst, hq⟩
  refine ⟨rfl, ?_⟩
  unfold B_core_of
  walk_at "dl"
  refine ⟨_, rfl, ho, hl, ?_⟩
  rw [nf_self hr]
  walk_at "dl"
  exact ⟨A, D', rfl, hl, hne, hst, hq⟩
theorem pure_commute : ∀ svs Qd, G_commute svs Qd → svs.length = 2 ∧ B_commute { nx := fun _ => Qd (.v .none), rt := Qd, bk := fun _ => False, ct := fun _ => False } (svs.map some ++ List.replicate (2 - svs.length) none) := by
  rintro svs Qd ⟨u, v, rfl, hu, hv, hl, hq⟩
  refine ⟨rfl, ?_⟩
  unfold B_commute
  walk_at "dl"
  refine ⟨u, rfl, hu, ?_⟩
  walk_at "dl"
  refine ⟨v, rfl, hv, ?_⟩
  walk_at "dl"
  have two : ∀ (a b : W) (Q : SV → Prop), okW a → okW b → a.length + b.length ≤ 1000 → Q (.v (encW (nf (a ++ b)))) → G_group_product [.v (.list [encW a, encW b])] Q := fun a b Q ha hb hl h => ⟨[a, b], rfl, fun x hx => by
    rcases List.mem_cons.mp hx with rfl | hx
    · exact ha
    · rw [List.mem_singleton.mp hx]; exact hb, by simp; exact hl, by simpa using h⟩
  refine ⟨lineOk_small (by decide), two u v _ hu hv hl ?_⟩
  walk_at "dl"
  refine ⟨lineOk_small (by decide), two v u _ hv hu (by omega) ?_⟩
  walk_at "dl"
  exact ⟨eqOk_W _ _, by rw [eqb_W]; exact hq⟩
theorem pure_root_of : ∀ svs Qd, G_root_of svs Qd → svs.length = 1 ∧ B_root_of { nx := fun _ => Qd (.v .none), rt := Qd, bk := fun _ => False, ct := fun _ => False } (svs.map some ++ List.replicate (4 - svs.length) none) := by
  rintro svs Qd (⟨A, C, n, rfl, hl, hA, hC, hr, hne, hn, hcy, hp, hq⟩ | ⟨rfl, hq⟩)
  · refine ⟨rfl, ?_⟩
    have hCl : 0 < C.length := List.length_pos_iff.mpr hne
    have dl : (pw C n).length = n * C.length := pw_length C n
    have dpos : 0 < n * C.length := Nat.mul_pos hn hCl
    have dne : pw C n ≠ [] := fun e => by rw [e] at dl; simp at dl; omega
    have tot : (A ++ pw C n ++ winv A).length = 2 * A.length + n * C.length := by simp only [List.length_append, winv_length, dl]; omega
    unfold B_root_of
    walk_at "dl"
    refine ⟨_, rfl, okW_app (okW_app hA (okW_pw hC n)) (okW_winv hA), hl, ?_⟩
    rw [nf_self hr]
    walk_at "dl"
    refine ⟨A, pw C n, rfl, hl, .inl dne, .inr (cyc_pw hcy n), ?_⟩
    walk_at "dl"
    refine ⟨lineOk_small (by decide), eqOk_W (pw C n) [], ?_⟩
    rw [show eqb (encW (pw C n)) (.tuple []) = decide (pw C n = []) from eqb_W (pw C n) [], decide_eq_false dne]
    rw [show encW (pw C n) = .tuple ((pw C n).map encP) from rfl]
    walk_at "dl"
    refine ⟨fun m env => ∃ s : Nat, m = C.length - s ∧ 1 ≤ s ∧ s ≤ C.length ∧ env = [some (.v (encW (A ++ pw C n ++ winv A))), some (.v (encW A)), some (.v (.tuple ((pw C n).map encP))), some (.v (.int (s : Int)))], ⟨_, 1, rfl, Nat.le_refl _, hCl, rfl⟩, ?_⟩
    rintro m env ⟨s, rfl, s1, s2, rfl⟩
    have sp : (0 : Int) < (s : Int) := by omega
    have slog : (s : Int).natAbs.log2 < 9000 := log2_small (by rw [Int.natAbs_natCast]; have : C.length ≤ n * C.length := Nat.le_mul_of_pos_left _ hn; omega)
    have sd : s ≤ n * C.length := Nat.le_trans s2 (Nat.le_mul_of_pos_left _ hn)
    walk_at "dl"
    rw [List.length_map, dl]
    simp only [if_pos sp]
    have ec : ((n * C.length : Nat) : Int) / (s : Int) = ((n * C.length / s : Nat) : Int) := (Int.natCast_ediv _ _).symm
    have em : ((n * C.length : Nat) : Int) % (s : Int) = ((n * C.length % s : Nat) : Int) := (Int.natCast_emod _ _).symm
    have hk : n * C.length / s ≤ 1000 := Nat.le_trans (Nat.div_le_self _ _) (by omega)
    refine ⟨by omega, eqOk_int _ _, ?_⟩
    rw [em, ec]
    by_cases hdiv : n * C.length % s = 0
    · rw [decide_eq_true (by omega)]
      walk_at "dl"
      rw [cutD_map, cutW_to _ _ (by rw [dl]; exact sd), Int.toNat_natCast, map_flat]
      refine ⟨by omega, slog, Int.le_trans (by decide) (Int.natCast_nonneg _), Int.ofNat_le.mpr hk, by rw [List.length_map, List.length_take]; omega, eqOk_W _ _, ?_⟩
      rw [show eqb (.tuple ((pw ((pw C n).take s) (n * C.length / s)).map encP)) (.tuple ((pw C n).map encP)) = decide (pw ((pw C n).take s) (n * C.length / s) = pw C n) from eqb_W _ _]
      by_cases hs : s < C.length
      · rw [decide_eq_false (prim_pow hp hn s1 hs (Nat.dvd_of_mod_eq_zero hdiv))]
        walk_at "dl"
        exact ⟨_, by omega, s + 1, rfl, by omega, hs, by rw [Int.natCast_add]; rfl⟩
      · have hsc : s = C.length := by omega
        subst hsc
        have tkC : (pw C n).take C.length = C := by
          obtain ⟨k, rfl⟩ : ∃ k, n = k + 1 := ⟨n - 1, by omega⟩
          rw [pw_succ, List.take_left']
          rfl
        rw [tkC, Nat.mul_div_cancel _ hCl, decide_eq_true rfl]
        walk_at "dl"
        refine ⟨A, rfl, by omega, ?_⟩
        walk_at "dl"
        refine ⟨lineOk_small (by decide), [A, C, winv A], rfl, fun x hx => ?_, ?_, ?_⟩
        · rcases List.mem_cons.mp hx with rfl | hx
          · exact hA
          · rcases List.mem_cons.mp hx with rfl | hx
            · exact hC
            · rw [List.mem_singleton.mp hx]; exact okW_winv hA
        · have : C.length ≤ n * C.length := Nat.le_mul_of_pos_left _ hn
          simp only [List.flatten_cons, List.flatten_nil, List.append_nil, List.length_append, winv_length]
          omega
        · simp only [List.flatten_cons, List.flatten_nil, List.append_nil]
          rw [← List.append_assoc]
          walk_at "dl"
          exact ⟨by omega, slog, lineOk_small (by decide), hq⟩
    · rw [decide_eq_false (by omega)]
      walk_at "dl"
      have hs : s < C.length := by
        refine Nat.lt_of_le_of_ne s2 fun e => hdiv ?_
        rw [e]
        exact Nat.mul_mod_left _ _
      exact ⟨_, by omega, s + 1, rfl, by omega, hs, by rw [Int.natCast_add]; rfl⟩
  · refine ⟨rfl, ?_⟩
    unfold B_root_of
    walk_at "dl"
    refine ⟨[], rfl, (fun p h => nomatch h), Nat.zero_le _, ?_⟩
    rw [nf_nil]
    walk_at "dl"
    refine ⟨[], [], rfl, Nat.zero_le _, .inr rfl, .inl (Nat.zero_le _), ?_⟩
    walk_at "dl"
    refine ⟨lineOk_small (by decide), eqOk_W [] [], ?_⟩
    rw [show eqb (encW []) (.tuple []) = true from eqb_self _]
    walk_at "dl"
    exact hq
theorem atW_last {f b : W} {q : WD.P} (h : f = b ++ [q]) : atI (f.map encP) (-1) = some (encP q) := by
  rw [h, List.map_append]
  exact atD_last _ _
theorem encP_eq (p : WD.P) : encP p = .tuple [.str p.1, .int p.2] := rfl
theorem eqb_Pi (p q : WD.P) : eqb (.tuple [.str p.1, .int p.2]) (.tuple [.str q.1, .int (-q.2)]) = decide (p = inv1 q) := eqb_P p (inv1 q)
theorem eqOk_Pi (p q : WD.P) : eqOk (.tuple [.str p.1, .int p.2]) (.tuple [.str q.1, .int (-q.2)]) := eqOk_P p (inv1 q)
theorem cyc_short {f : W} (ho : okW f) (h : f.length ≤ 1) : Cyc f := fun p q a b e1 e2 => by
  have l1 := congrArg List.length e1
  have l2 := congrArg List.length e2
  simp at l1 l2
  have hb : b = [] := List.length_eq_zero_iff.mp (by omega)
  subst hb
  rw [e2] at e1
  injection e1 with e1 _
  rw [← e1]
  exact okP_ne (ho q (by rw [e2]; simp))
theorem pure_law_core : ∀ svs Qd, G_law_core svs Qd → svs.length = 2 ∧ B_law_core { nx := fun _ => Qd (.v .none), rt := Qd, bk := fun _ => False, ct := fun _ => False } (svs.map some ++ List.replicate (4 - svs.length) none) := by
  rintro svs Qd ⟨names, rfl, n0, nl, hn, hq⟩
  refine ⟨rfl, ?_⟩
  unfold B_law_core
  refine ⟨fun env => ∃ w : W, okW w ∧ w.length ≤ 4 ∧ env = [some .st, some (.v (.list (names.map PyData.str))), some (.v (encW w)), none], ?_, ?_⟩
  · walk_at "dl"
    refine tk 4 _ (by decide) (by decide) fun x hx0 hx1 => ?_
    walk_at "dl"
    refine ⟨names, 1 + x, rfl, n0, by omega, hn, by omega, by omega, fun w hl hw => ?_⟩
    walk_at "dl"
    exact ⟨w, fun p hp => ⟨hn _ (hw p hp).1, (hw p hp).2⟩, by omega, rfl⟩
  rintro env ⟨w, wo, wl, rfl⟩
  refine ⟨fun env => ∃ f : W, okW f ∧ Red f ∧ f.length ≤ 4 ∧ env = [some .st, some (.v (.list (names.map PyData.str))), some (.v (encW f)), none], ?_, ?_⟩
  · walk_at "dl"
    refine ⟨w, rfl, by omega, ?_⟩
    walk_at "dl"
    exact ⟨nf w, okW_nf wo, nf_red w, Nat.le_trans (nf_length w) wl, rfl⟩
  rintro env ⟨f, fo, fr, fl, rfl⟩
  refine ⟨fun env => ∃ f : W, okW f ∧ Red f ∧ Cyc f ∧ f.length ≤ 4 ∧ env = [some .st, some (.v (.list (names.map PyData.str))), some (.v (encW f)), none], ?_, ?_⟩
  · refine ⟨fun m env => ∃ f : W, m = f.length ∧ okW f ∧ Red f ∧ f.length ≤ 4 ∧ env = [some .st, some (.v (.list (names.map PyData.str))), some (.v (.tuple (f.map encP))), none], ⟨_, f, rfl, fo, fr, fl, rfl⟩, ?_⟩
    clear fo fr fl
    rintro m env ⟨f, rfl, fo, fr, fl, rfl⟩
    walk_at "dl"
    rw [List.length_map]
    by_cases h : 1 < f.length
    · rw [decide_eq_true (by omega)]
      have fne : f ≠ [] := by rintro rfl; simp at h
      obtain ⟨b, q, e2⟩ : ∃ b q, f = b ++ [q] := ⟨f.dropLast, f.getLast fne, (List.dropLast_concat_getLast fne).symm⟩
      obtain ⟨p, a, e1⟩ : ∃ p a, f = p :: a := by
        cases f with
        | nil => exact (fne rfl).elim
        | cons p a => exact ⟨p, a, rfl⟩
      have h0 : atI (f.map encP) 0 = some (encP p) := by rw [e1]; exact atW0
      rw [h0, atW_last e2, encP_eq p, encP_eq q]
      walk_at "dl"
      refine ⟨lineOk_small (by decide), eqOk_Pi p q, ?_⟩
      rw [eqb_Pi]
      by_cases hpq : p = inv1 q
      · rw [decide_eq_true hpq]
        walk_at "dl"
        rw [cutD_map, cutW_mid _ (by omega)]
        have l2 : f.tail.dropLast.length = f.length - 2 := by rw [List.length_dropLast, List.length_tail]; omega
        refine ⟨_, by omega, f.tail.dropLast, rfl, fun x hx => fo x (List.mem_of_mem_tail (List.dropLast_subset _ hx)), ?_, by omega, rfl⟩
        have fr2 : Red f.tail := by rw [e1]; rw [e1] at fr; exact red_tail fr
        have ane : f.tail ≠ [] := fun e => by
          have := congrArg List.length e
          rw [List.length_tail] at this
          simp at this
          omega
        rw [← List.dropLast_concat_getLast ane] at fr2
        exact red_left fr2
      · rw [decide_eq_false hpq]
        walk_at "dl"
        refine ⟨f, fo, fr, fun p' q' a' b' f1 f2 => ?_, fl, rfl⟩
        rw [e1] at f1
        injection f1 with f1 _
        rw [e2] at f2
        have f2 := List.append_inj_right' f2 rfl
        injection f2 with f2 _
        rw [← f1, ← f2]
        exact hpq
    · rw [decide_eq_false (by omega)]
      walk_at "dl"
      exact ⟨f, fo, fr, cyc_short fo (by omega), fl, rfl⟩
  clear fo fr fl
  rintro env ⟨f, fo, fr, fc, fl, rfl⟩
  refine ⟨fun env => (∃ x3, env = [some .st, some (.v (.list (names.map PyData.str))), some (.v (.tuple (f.map encP))), x3]) ∧ ∀ t, 1 ≤ t → t < f.length → ¬ (f.length / t * t = f.length ∧ pw (f.take t) (f.length / t) = f), ?_, ?_⟩
  · rw [show encW f = .tuple (f.map encP) from rfl]
    walk_at "dl"
    rw [List.length_map]
    refine ⟨⟨by omega, by omega⟩, fun k env => (∃ x3, env = [some .st, some (.v (.list (names.map PyData.str))), some (.v (.tuple (f.map encP))), x3]) ∧ ∀ t, 1 ≤ t → t < 1 + k → ¬ (f.length / t * t = f.length ∧ pw (f.take t) (f.length / t) = f), ⟨⟨_, rfl⟩, fun t t1 t2 => by omega⟩, ?_, ?_⟩
    · rintro k env d ⟨⟨x3, rfl⟩, no⟩ hd
      obtain ⟨hk, rfl⟩ := rngD_get hd
      have es : (1 : Int) + (k : Int) = ((1 + k : Nat) : Int) := by omega
      have hs : 1 + k < f.length := by omega
      rw [es]
      have sp : (0 : Int) < ((1 + k : Nat) : Int) := by omega
      have slog : ((1 + k : Nat) : Int).natAbs.log2 < 9000 := log2_small (by rw [Int.natAbs_natCast]; omega)
      have ec : (f.length : Int) / ((1 + k : Nat) : Int) = ((f.length / (1 + k) : Nat) : Int) := (Int.natCast_ediv _ _).symm
      have hq2 : f.length / (1 + k) ≤ 1000 := Nat.le_trans (Nat.div_le_self _ _) (by omega)
      walk_at "dl"
      rw [List.length_map, ec, cutD_map, cutW_to _ _ (Nat.le_of_lt hs), Int.toNat_natCast, map_flat]
      simp only [if_pos sp]
      have next : ¬ (f.length / (1 + k) * (1 + k) = f.length ∧ pw (f.take (1 + k)) (f.length / (1 + k)) = f) → (∃ x3_1, [some SV.st, some (SV.v (PyData.list (List.map PyData.str names))), some (SV.v (PyData.tuple (List.map encP f))), some (SV.v (PyData.int ((1 + k : Nat) : Int)))] = [some SV.st, some (SV.v (PyData.list (List.map PyData.str names))), some (SV.v (PyData.tuple (List.map encP f))), x3_1]) ∧ ∀ t, 1 ≤ t → t < 1 + (k + 1) → ¬ (f.length / t * t = f.length ∧ pw (f.take t) (f.length / t) = f) := fun h => ⟨⟨_, rfl⟩, fun t t1 t2 => by
        by_cases e : t = 1 + k
        · rw [e]; exact h
        · exact no t t1 (by omega)⟩
      refine ⟨by omega, slog, mulSmallL (by rw [Int.natAbs_natCast]; omega), eqOk_int _ _, ?_⟩
      by_cases h1 : f.length / (1 + k) * (1 + k) = f.length
      · rw [decide_eq_true (by rw [← Int.natCast_mul, h1])]
        walk_at "dl"
        refine ⟨by omega, slog, Int.le_trans (by decide) (Int.natCast_nonneg _), Int.ofNat_le.mpr hq2, by rw [List.length_map, List.length_take]; omega, eqOk_W _ _, ?_⟩
        rw [show eqb (.tuple ((pw (f.take (1 + k)) (f.length / (1 + k))).map encP)) (.tuple (f.map encP)) = decide (pw (f.take (1 + k)) (f.length / (1 + k)) = f) from eqb_W _ _]
        by_cases h2 : pw (f.take (1 + k)) (f.length / (1 + k)) = f
        · rw [decide_eq_true h2]
          walk_at "dl"
          exact hq _ (core_sub fo fr fc fl (by omega) hs h1 h2 no)
        · rw [decide_eq_false h2]
          walk_at "dl"
          exact next fun z => h2 z.2
      · rw [decide_eq_false (fun z => h1 (by rw [← Int.natCast_mul] at z; exact Int.ofNat.inj z))]
        walk_at "dl"
        exact next fun z => h1 z.1
    · rintro env ⟨h1, h2⟩
      rw [rngD_length] at h2
      exact ⟨h1, fun t t1 t2 => h2 t t1 (by omega)⟩
  rintro env ⟨⟨x3, rfl⟩, no⟩
  walk_at "dl"
  refine ⟨lineOk_small (by decide), eqOk_W f [], ?_⟩
  rw [show eqb (.tuple (f.map encP)) (.tuple []) = decide (f = []) from eqb_W f []]
  by_cases hf : f = []
  · rw [decide_eq_true hf]
    walk_at "dl"
    obtain ⟨s, r, rfl⟩ : ∃ s r, names = s :: r := by
      cases names with
      | nil => exact (n0 rfl).elim
      | cons s r => exact ⟨s, r, rfl⟩
    rw [show atI ((s :: r).map PyData.str) 0 = some (.str s) from atI_nat (j := 0) rfl]
    exact ⟨lineOk_small (by decide), lineOk_small (by decide), hq [(s, 1)] (core_one ⟨hn s List.mem_cons_self, .inl rfl⟩)⟩
  · rw [decide_eq_false hf]
    walk_at "dl"
    exact hq f (core_self fo fr fc fl hf no)
theorem any_P (p : WD.P) (u : W) : ((u.map encP).any (eqb (.tuple [.str p.1, .int p.2]))) = decide (p ∈ u) := by
  induction u with
  | nil => rfl
  | cons q u ih =>
    rw [List.map_cons, List.any_cons, ih, show eqb (.tuple [.str p.1, .int p.2]) (encP q) = decide (p = q) from eqb_P p q, ← Bool.decide_or]
    simp
theorem shp_P19 (p : WD.P) : shp 19 (.tuple [.str p.1, .int p.2]) := shp_P 18 p
theorem pure_law_around : ∀ svs Qd, G_law_around svs Qd → svs.length = 3 ∧ B_law_around { nx := fun _ => Qd (.v .none), rt := Qd, bk := fun _ => False, ct := fun _ => False } (svs.map some ++ List.replicate (8 - svs.length) none) := by
  rintro svs Qd ⟨names, C, rfl, n0, nl, hn, hC, hq⟩
  refine ⟨rfl, ?_⟩
  unfold B_law_around
  obtain ⟨b, z, e2⟩ : ∃ b z, C = b ++ [z] := ⟨C.dropLast, C.getLast hC.ne, (List.dropLast_concat_getLast hC.ne).symm⟩
  obtain ⟨c, r, e1⟩ : ∃ c r, C = c :: r := by
    have := hC.ne
    cases C with
    | nil => exact (this rfl).elim
    | cons c r => exact ⟨c, r, rfl⟩
  have hc0 : atI (C.map encP) 0 = some (encP c) := by rw [e1]; exact atW0
  have hz : atI (C.map encP) (-1) = some (encP z) := atW_last e2
  refine ⟨fun env => env = [some .st, some (.v (.list (names.map PyData.str))), some (.v (encW C)), some (.v (encW [])), none, none, none, none], ?_, ?_⟩
  · walk_at "dl"
    exact ⟨lineOk_small (by decide), rfl⟩
  rintro env rfl
  walk_at "dl"
  refine tk 5 _ (by decide) (by decide) fun x hx0 hx1 => ?_
  walk_at "dl"
  refine ⟨⟨by omega, by omega⟩, fun k env => ∃ (A : W) (x4 x5 x6 x7 : Option SV), okW A ∧ A.length ≤ k ∧ Red A ∧ Arnd C A ∧ env = [some .st, some (.v (.list (names.map PyData.str))), some (.v (encW C)), some (.v (encW A)), x4, x5, x6, x7], ⟨[], _, _, _, _, (fun p h => nomatch h), Nat.le_refl _, red_nil, ⟨(fun a x c r h => by simp at h), (fun a x b z h => by simp at h)⟩, rfl⟩, ?_, ?_⟩
  · rintro k env d ⟨A, x4, x5, x6, x7, Ao, Al, Ar, An, rfl⟩ hd
    obtain ⟨hk, rfl⟩ := rngD_get hd
    refine ⟨fun env => ∃ (p : WD.P) (x4 : Option SV), okP p ∧ env = [some .st, some (.v (.list (names.map PyData.str))), some (.v (encW C)), some (.v (encW A)), x4, some (.v (encP p)), x6, x7], ?_, ?_⟩
    · walk_at "dl"
      refine ⟨names, 1, rfl, n0, by omega, hn, by decide, by decide, fun w hl hw => ?_⟩
      obtain ⟨p, rfl⟩ : ∃ p, w = [p] := List.length_eq_one_iff.mp hl
      walk_at "dl"
      have hp := hw p List.mem_cons_self
      exact ⟨p, _, ⟨hn _ hp.1, hp.2⟩, rfl⟩
    rintro env ⟨p, x4, hp, rfl⟩
    have fin : ∀ (u : W), (p ∉ u → Red (p :: A) ∧ Arnd C (p :: A)) → ∀ (y6 : Option SV), pIfS (pTest (pOp (gIn true) (pVarB 5) (pVarB 7))) (pSet 3 (pFz (pOpF gAdd (pTup (pCons (pVar 5) pNil)) (pVarB 3)))) pNext
        { nx := fun env => ∃ (A : W) (x4 x5 x6 x7 : Option SV), okW A ∧ A.length ≤ k + 1 ∧ Red A ∧ Arnd C A ∧ env = [some .st, some (.v (.list (names.map PyData.str))), some (.v (encW C)), some (.v (encW A)), x4, x5, x6, x7], rt := Qd, bk := fun _ => False, ct := fun _ => False }
        [some .st, some (.v (.list (names.map PyData.str))), some (.v (encW C)), some (.v (encW A)), x4, some (.v (encP p)), y6, some (.v (.list (u.map encP)))] := fun u hu y6 => by
      rw [show encP p = .tuple [.str p.1, .int p.2] from rfl]
      walk_at "dl"
      refine ⟨shp_P19 p, fun x hx => shp_map 18 u x hx, ?_⟩
      rw [any_P]
      by_cases h : p ∈ u
      · rw [decide_eq_true h]
        walk_at "dl"
        exact ⟨A, _, _, _, _, Ao, by omega, Ar, An, rfl⟩
      · rw [decide_eq_false h]
        walk_at "dl"
        obtain ⟨h1, h2⟩ := hu h
        refine ⟨lineOk_small (by decide), addW [p] A _ (by simp; omega) ?_⟩
        walk_at "dl"
        exact ⟨p :: A, _, _, _, _, okW_app (u := [p]) (fun q hq => by rw [List.mem_singleton.mp hq]; exact hp) Ao, by simp; omega, h1, h2, rfl⟩
    cases A with
    | nil =>
      refine ⟨fun env => env = [some .st, some (.v (.list (names.map PyData.str))), some (.v (encW C)), some (.v (encW [])), x4, some (.v (encP p)), some (.v .none), x7], ?_, ?_⟩
      · walk_at "dl"
        refine ⟨lineOk_small (by decide), eqOk_W [] [], ?_⟩
        rw [show eqb (encW []) (.tuple []) = true from eqb_self _]
        walk_at "dl"
      rintro env rfl
      refine ⟨fun env => env = [some .st, some (.v (.list (names.map PyData.str))), some (.v (encW C)), some (.v (encW [])), x4, some (.v (encP p)), some (.v .none), some (.v (.list ([inv1 c, z].map encP)))], ?_, ?_⟩
      · rw [show encW C = .tuple (C.map encP) from rfl]
        walk_at "dl"
        rw [hc0, hz, encP_eq c]
        walk_at "dl"
        exact ⟨lineOk_small (by decide), lineOk_small (by decide), rfl⟩
      rintro env rfl
      refine fin _ (fun h => ⟨red_one p, ⟨fun a x c' r' h1 h2 => ?_, fun a x b' z' h1 h2 => ?_⟩⟩) _
      · have ha : a = [] := by
          have := congrArg List.length h1
          simp at this
          exact this
        subst ha
        injection h1 with h1 _
        rw [e1] at h2
        injection h2 with h2 _
        rw [← h1, ← h2]
        exact fun e => h (by rw [e]; simp)
      · have ha : a = [] := by
          have := congrArg List.length h1
          simp at this
          exact this
        subst ha
        injection h1 with h1 _
        rw [e2] at h2
        have h2 := List.append_inj_right' h2 rfl
        injection h2 with h2 _
        rw [← h1, ← h2]
        exact fun e => h (by rw [e]; simp)
    | cons a0 A =>
      refine ⟨fun env => env = [some .st, some (.v (.list (names.map PyData.str))), some (.v (encW C)), some (.v (encW (a0 :: A))), x4, some (.v (encP p)), some (.v (encP a0)), x7], ?_, ?_⟩
      · rw [show encW (a0 :: A) = .tuple ((a0 :: A).map encP) from rfl]
        walk_at "dl"
        refine ⟨lineOk_small (by decide), eqOk_W (a0 :: A) [], ?_⟩
        rw [show eqb (.tuple (encP a0 :: A.map encP)) (.tuple []) = false from eqb_false.mpr (by simp)]
        walk_at "dl"
        rw [show atI (encP a0 :: A.map encP) 0 = some (encP a0) from atW0 (w := A)]
      rintro env rfl
      refine ⟨fun env => env = [some .st, some (.v (.list (names.map PyData.str))), some (.v (encW C)), some (.v (encW (a0 :: A))), x4, some (.v (encP p)), some (.v (encP a0)), some (.v (.list ([inv1 a0].map encP)))], ?_, ?_⟩
      · rw [encP_eq a0]
        walk_at "dl"
        exact ⟨lineOk_small (by decide), lineOk_small (by decide), rfl⟩
      rintro env rfl
      refine fin _ (fun h => ⟨red_cons (fun e => h (by rw [inv1_swap.mp e]; simp)) Ar, ⟨fun a x c' r' h1 h2 => ?_, fun a x b' z' h1 h2 => ?_⟩⟩) _
      · cases a with
        | nil => simp at h1
        | cons y a =>
          injection h1 with _ h1
          exact An.front a x c' r' h1 h2
      · cases a with
        | nil => simp at h1
        | cons y a =>
          injection h1 with _ h1
          exact An.back a x b' z' h1 h2
  · rintro env ⟨A, x4, x5, x6, x7, Ao, Al, Ar, An, rfl⟩
    rw [rngD_length] at Al
    walk_at "dl"
    exact hq A Ao (by omega) Ar An
theorem conj_pw (A C : W) : ∀ n, Sim (pw (A ++ C ++ winv A) n) (A ++ pw C n ++ winv A)
  | 0 => by rw [pw_zero, pw_zero, List.append_nil]; exact (inv_right A).symm
  | n + 1 => by
    rw [pw_succ, pw_succ]
    have h1 : Sim ((A ++ C ++ winv A) ++ pw (A ++ C ++ winv A) n) ((A ++ C ++ winv A) ++ (A ++ pw C n ++ winv A)) := Sim.right (conj_pw A C n)
    have e : (A ++ C ++ winv A) ++ (A ++ pw C n ++ winv A) = (A ++ C) ++ (winv A ++ A) ++ (pw C n ++ winv A) := by simp only [List.append_assoc]
    have h2 : Sim ((A ++ C) ++ (winv A ++ A) ++ (pw C n ++ winv A)) ((A ++ C) ++ [] ++ (pw C n ++ winv A)) := Sim.left (Sim.right (inv_left A))
    rw [e] at h1
    have := h1.trans h2
    simp only [List.append_nil, List.append_assoc] at this ⊢
    exact this
theorem winv_conj (A C : W) : winv (A ++ C ++ winv A) = A ++ winv C ++ winv A := by rw [winv_app, winv_app, winv_winv, List.append_assoc]
theorem conj_wpow (A C : W) (o : Int) : Sim (wpow (A ++ C ++ winv A) o) (A ++ wpow C o ++ winv A) := by
  unfold wpow
  split
  · exact conj_pw A C _
  · rw [winv_conj]; exact conj_pw A (winv C) _
theorem pw_comm (C : W) (n m : Nat) : pw C n ++ pw C m = pw C m ++ pw C n := by rw [← pw_add, ← pw_add, Nat.add_comm]
theorem sim_comm_inv {x y : W} (h : x ++ y = y ++ x) : Sim (x ++ winv y) (winv y ++ x) := by
  have h1 : Sim (x ++ winv y) ((winv y ++ y) ++ (x ++ winv y)) := by
    have := (inv_left y).symm.left (w := x ++ winv y)
    rwa [List.nil_append] at this
  have e : (winv y ++ y) ++ (x ++ winv y) = (winv y ++ x) ++ (y ++ winv y) := by
    rw [List.append_assoc, ← List.append_assoc y, ← h]
    simp only [List.append_assoc]
  rw [e] at h1
  have h2 := Sim.right (w := winv y ++ x) (inv_right y)
  rw [List.append_nil] at h2
  exact h1.trans h2
theorem pw_wpow_comm (C : W) (n : Nat) (o : Int) : Sim (pw C n ++ wpow C o) (wpow C o ++ pw C n) := by
  unfold wpow
  split
  · rw [pw_comm]; exact .refl _
  · rw [← pw_winv]; exact sim_comm_inv (pw_comm C n _)
theorem conj_comm (A x y : W) (h : Sim (x ++ y) (y ++ x)) : Sim ((A ++ x ++ winv A) ++ (A ++ y ++ winv A)) ((A ++ y ++ winv A) ++ (A ++ x ++ winv A)) := by
  have key : ∀ u v : W, Sim ((A ++ u ++ winv A) ++ (A ++ v ++ winv A)) (A ++ (u ++ v) ++ winv A) := fun u v => by
    have e : (A ++ u ++ winv A) ++ (A ++ v ++ winv A) = (A ++ u) ++ (winv A ++ A) ++ (v ++ winv A) := by simp only [List.append_assoc]
    have h2 : Sim ((A ++ u) ++ (winv A ++ A) ++ (v ++ winv A)) ((A ++ u) ++ [] ++ (v ++ winv A)) := Sim.left (Sim.right (inv_left A))
    rw [e]
    simp only [List.append_nil, List.append_assoc] at h2 ⊢
    exact h2
  exact ((key x y).trans (Sim.left (Sim.right h))).trans (key y x).symm
theorem okW_wpow {C : W} (h : okW C) (o : Int) : okW (wpow C o) := by
  unfold wpow
  split
  · exact okW_pw h _
  · exact okW_pw (okW_winv h) _
theorem wpow_length (C : W) (o : Int) : (wpow C o).length = o.natAbs * C.length := by
  unfold wpow
  split
  · rw [pw_length]; congr 1; omega
  · rw [pw_length, winv_length]; congr 1; omega
theorem pure_law : ∀ svs Qd, G_law svs Qd → svs.length = 1 ∧ B_law { nx := fun _ => Qd (.v .none), rt := Qd, bk := fun _ => False, ct := fun _ => False } (svs.map some ++ List.replicate (13 - svs.length) none) := by
  rintro svs Qd ⟨ns, rfl, hq⟩
  refine ⟨rfl, ?_⟩
  unfold B_law
  have sm : ∀ (d : D) (Q : SV → Prop), dueOk 8 d → Q (.v (.bool true)) → G_law_same [.v d, .v d] Q := fun d Q h q => ⟨d, d, rfl, h, by rw [eqb_self]; exact q⟩
  have d8 : ∀ w : W, w.length ≤ 1000 → dueOk 8 (encW w) := fun w h => dueOk_mono 2 8 _ (by decide) (dueW w h)
  refine ⟨ns, 0, 16, rfl, by decide, by decide, by decide, fun s hs => ?_⟩
  refine ⟨hs, ?_⟩
  refine ⟨fun env => ∃ names : List Str, names ≠ [] ∧ names.length ≤ 8 ∧ (∀ s ∈ names, s ∈ pool) ∧ env = [some (.scr ns), some .st, some (.v (.list (names.map PyData.str))), none, none, none, none, none, none, none, none, none, none], ?_, ?_⟩
  · walk_at "dl"
    refine tk 2 _ (by decide) (by decide) fun x hx0 hx1 => ?_
    walk_at "dl"
    refine ⟨2 + x, rfl, by omega, by omega, fun names hl hp _ => ?_⟩
    walk_at "dl"
    exact ⟨names, by rintro rfl; simp at hl; omega, by omega, hp, rfl⟩
  rintro env ⟨names, n0, nl, hn, rfl⟩
  refine ⟨fun env => ∃ C, Core C ∧ env = [some (.scr ns), some .st, some (.v (.list (names.map PyData.str))), some (.v (encW C)), none, none, none, none, none, none, none, none, none], ?_, ?_⟩
  · walk_at "dl"
    refine ⟨names, rfl, n0, nl, hn, fun C hC => ?_⟩
    walk_at "dl"
    exact ⟨C, hC, rfl⟩
  rintro env ⟨C, hC, rfl⟩
  refine ⟨fun env => ∃ A, okW A ∧ A.length ≤ 4 ∧ Red A ∧ Arnd C A ∧ env = [some (.scr ns), some .st, some (.v (.list (names.map PyData.str))), some (.v (encW C)), some (.v (encW A)), none, none, none, none, none, none, none, none], ?_, ?_⟩
  · walk_at "dl"
    refine ⟨names, C, rfl, n0, nl, hn, hC, fun A h1 h2 h3 h4 => ?_⟩
    walk_at "dl"
    exact ⟨A, h1, h2, h3, h4, rfl⟩
  rintro env ⟨A, hA, Al, Ar, An, rfl⟩
  refine ⟨fun env => ∃ n : Nat, 1 ≤ n ∧ n ≤ 5 ∧ env = [some (.scr ns), some .st, some (.v (.list (names.map PyData.str))), some (.v (encW C)), some (.v (encW A)), some (.v (.int (n : Int))), none, none, none, none, none, none, none], ?_, ?_⟩
  · walk_at "dl"
    refine tk 5 _ (by decide) (by decide) fun x hx0 hx1 => ?_
    walk_at "dl"
    exact ⟨(1 + x).toNat, by omega, by omega, by rw [show (((1 + x).toNat : Nat) : Int) = 1 + x by omega]⟩
  rintro env ⟨n, n1, n5, rfl⟩
  have Cl := hC.len
  have pl : ∀ (u : W) (k : Nat), k ≤ 5 → u.length ≤ 4 → (pw u k).length ≤ 20 := fun u k hk hu => by
    rw [pw_length]
    exact Nat.mul_le_mul hk hu
  have wr : Red (A ++ pw C n ++ winv A) := word_red hC.red hC.cyc Ar An n1 hC.ne
  have wo : okW (A ++ pw C n ++ winv A) := okW_app (okW_app hA (okW_pw hC.ok n)) (okW_winv hA)
  have wl : (A ++ pw C n ++ winv A).length ≤ 100 := by
    have := pl C n n5 Cl
    simp only [List.length_append, winv_length]
    omega
  have rr : Red (A ++ C ++ winv A) := by
    have := word_red hC.red hC.cyc Ar An (Nat.le_refl 1) hC.ne
    rwa [pw_one] at this
  have ro : okW (A ++ C ++ winv A) := okW_app (okW_app hA hC.ok) (okW_winv hA)
  have rl : (A ++ C ++ winv A).length ≤ 12 := by
    simp only [List.length_append, winv_length]
    omega
  have pne : pw C n ≠ [] := fun e => by
    have := pw_length C n
    rw [e] at this
    have h2 : 0 < C.length := List.length_pos_iff.mpr hC.ne
    have := Nat.mul_pos n1 h2
    simp at *
    omega
  have opA : ∀ (Q : SV → Prop), Q (.v (encW (winv A))) → G_law_opposite [.v (encW A)] Q := fun Q h => ⟨A, rfl, by omega, h⟩
  refine ⟨fun env => env = [some (.scr ns), some .st, some (.v (.list (names.map PyData.str))), some (.v (encW C)), some (.v (encW A)), some (.v (.int (n : Int))), some (.v (encW (A ++ pw C n ++ winv A))), none, none, none, none, none, none], ?_, ?_⟩
  · walk_at "dl"
    refine mulW C n _ (by omega) (by omega) (by omega) ?_
    walk_at "dl"
    refine addW A (pw C n) _ (by have := pl C n n5 Cl; omega) ?_
    walk_at "dl"
    refine opA _ ?_
    walk_at "dl"
    refine addW _ _ _ (by have := pl C n n5 Cl; simp only [List.length_append, winv_length]; omega) ?_
    walk_at "dl"
  rintro env rfl
  refine ⟨fun env => env = [some (.scr ns), some .st, some (.v (.list (names.map PyData.str))), some (.v (encW C)), some (.v (encW A)), some (.v (.int (n : Int))), some (.v (encW (A ++ pw C n ++ winv A))), none, none, none, none, none, none], ?_, ?_⟩
  · walk_at "dl"
    refine ⟨_, rfl, by omega, ?_⟩
    rw [nf_self wr]
    walk_at "dl"
    exact eqOk_W _ _
  rintro env rfl
  refine ⟨fun env => env = [some (.scr ns), some .st, some (.v (.list (names.map PyData.str))), some (.v (encW C)), some (.v (encW A)), some (.v (.int (n : Int))), some (.v (encW (A ++ pw C n ++ winv A))), some (.v (encW (A ++ C ++ winv A))), none, none, none, none, none], ?_, ?_⟩
  · walk_at "dl"
    refine addW A C _ (by omega) ?_
    walk_at "dl"
    refine opA _ ?_
    walk_at "dl"
    refine addW _ _ _ (by simp only [List.length_append, winv_length]; omega) ?_
    walk_at "dl"
  rintro env rfl
  have two : ∀ (u v : W), u.length ≤ 1000 → v.length ≤ 1000 → dueOk 8 (.tuple [encW u, encW v]) := fun u v h1 h2 => dueWs _ _ (dueW u h1) (dueW v h2)
  refine ⟨fun env => env = [some (.scr ns), some .st, some (.v (.list (names.map PyData.str))), some (.v (encW C)), some (.v (encW A)), some (.v (.int (n : Int))), some (.v (encW (A ++ pw C n ++ winv A))), some (.v (encW (A ++ C ++ winv A))), none, none, none, none, none], ?_, ?_⟩
  · walk_at "dl"
    refine ⟨A, pw C n, rfl, by omega, wo, wr, .inl pne, .inr (cyc_pw hC.cyc n), ?_⟩
    walk_at "dl"
    refine mulW C n _ (by omega) (by omega) (by omega) ?_
    walk_at "dl"
    refine ⟨lineOk_small (by decide), sm _ _ (two _ _ (by omega) (by have := pl C n n5 Cl; omega)) ?_⟩
    walk_at "dl"
    refine .inl ⟨A, C, n, rfl, by omega, hA, hC.ok, wr, hC.ne, n1, hC.cyc, hC.prim, ?_⟩
    rw [nf_self rr]
    walk_at "dl"
    refine ⟨lineOk_small (by decide), sm _ _ (dueWs _ _ (dueW _ (by omega)) (dueOk_mono 0 2 _ (by decide) trivial)) ?_⟩
    walk_at "dl"
  rintro env rfl
  have nat5 : ∀ (u : W), u.length ≤ 12 → ∀ k : Nat, k ≤ 5 → k * u.length ≤ 1000 := fun u hu k hk => Nat.le_trans (Nat.mul_le_mul hk hu) (by decide)
  refine ⟨fun env => env = [some (.scr ns), some .st, some (.v (.list (names.map PyData.str))), some (.v (encW C)), some (.v (encW A)), some (.v (.int (n : Int))), some (.v (encW (A ++ pw C n ++ winv A))), some (.v (encW (A ++ C ++ winv A))), none, none, none, none, none], ?_, ?_⟩
  · walk_at "dl"
    refine ⟨_, (n : Int), rfl, ro, by omega, by rw [Int.natAbs_natCast]; exact nat5 _ rl n n5, by omega, ?_⟩
    have e1 : nf (wpow (A ++ C ++ winv A) (n : Int)) = A ++ pw C n ++ winv A := by
      have h := conj_wpow A C (n : Int)
      have e : wpow C (n : Int) = pw C n := by unfold wpow; rw [if_pos (by omega), Int.toNat_natCast]
      rw [e] at h
      exact nf_of h wr
    rw [e1]
    walk_at "dl"
    refine sm _ _ (d8 _ (by omega)) ?_
    walk_at "dl"
    refine ⟨_, rfl, wo, by omega, ?_⟩
    rw [nf_self (winv_red wr)]
    walk_at "dl"
    refine ⟨_, rfl, by omega, ?_⟩
    walk_at "dl"
    refine sm _ _ (d8 _ (by rw [winv_length]; omega)) ?_
    walk_at "dl"
  rintro env rfl
  have Cil : (winv C).length ≤ 4 := by rw [winv_length]; exact Cl
  refine ⟨fun env => env = [some (.scr ns), some .st, some (.v (.list (names.map PyData.str))), some (.v (encW C)), some (.v (encW A)), some (.v (.int (n : Int))), some (.v (encW (A ++ pw C n ++ winv A))), some (.v (encW (A ++ C ++ winv A))), some (.v (.tuple [encW A, encW (pw (winv C) n)])), none, none, none, none], ?_, ?_⟩
  · walk_at "dl"
    refine ⟨C, rfl, by omega, ?_⟩
    walk_at "dl"
    refine mulW (winv C) n _ (by omega) (by omega) (by omega) ?_
    walk_at "dl"
    first | exact lineOk_small (n := 2) (by decide) | exact ⟨lineOk_small (n := 2) (by decide), rfl⟩
  rintro env rfl
  have iw : winv (A ++ pw C n ++ winv A) = A ++ pw (winv C) n ++ winv A := by rw [winv_conj, pw_winv]
  refine ⟨fun env => env = [some (.scr ns), some .st, some (.v (.list (names.map PyData.str))), some (.v (encW C)), some (.v (encW A)), some (.v (.int (n : Int))), some (.v (encW (A ++ pw C n ++ winv A))), some (.v (encW (A ++ C ++ winv A))), some (.v (.tuple [encW A, encW (pw (winv C) n)])), none, none, none, none], ?_, ?_⟩
  · walk_at "dl"
    refine ⟨_, rfl, by omega, ?_⟩
    rw [iw]
    walk_at "dl"
    refine ⟨A, pw (winv C) n, rfl, by rw [← iw, winv_length]; omega, by rw [← iw]; exact okW_winv wo, by rw [← iw]; exact winv_red wr, .inl ?_, .inr (cyc_pw (cyc_winv hC.cyc) n), ?_⟩
    · rw [← pw_winv]
      intro e
      have := winv_length (pw C n)
      rw [e] at this
      exact pne (List.length_eq_zero_iff.mp this.symm)
    walk_at "dl"
    refine sm _ _ (two _ _ (by omega) (by have := pl (winv C) n n5 Cil; omega)) ?_
    walk_at "dl"
  rintro env rfl
  refine ⟨fun env => ∃ o : Int, -3 ≤ o ∧ o ≤ 3 ∧ env = [some (.scr ns), some .st, some (.v (.list (names.map PyData.str))), some (.v (encW C)), some (.v (encW A)), some (.v (.int (n : Int))), some (.v (encW (A ++ pw C n ++ winv A))), some (.v (encW (A ++ C ++ winv A))), some (.v (.tuple [encW A, encW (pw (winv C) n)])), some (.v (.int o)), none, none, none], ?_, ?_⟩
  · walk_at "dl"
    refine tk 7 _ (by decide) (by decide) fun x hx0 hx1 => ?_
    walk_at "dl"
    exact ⟨x - 3, by omega, by omega, rfl⟩
  rintro env ⟨o, o0, o1, rfl⟩
  have ol : (wpow C o).length ≤ 12 := by
    rw [wpow_length]
    exact Nat.mul_le_mul (show o.natAbs ≤ 3 by omega) Cl
  have dl2 : (A ++ wpow C o ++ winv A).length ≤ 20 := by simp only [List.length_append, winv_length]; omega
  refine ⟨fun env => env = [some (.scr ns), some .st, some (.v (.list (names.map PyData.str))), some (.v (encW C)), some (.v (encW A)), some (.v (.int (n : Int))), some (.v (encW (A ++ pw C n ++ winv A))), some (.v (encW (A ++ C ++ winv A))), some (.v (.tuple [encW A, encW (pw (winv C) n)])), some (.v (.int o)), some (.v (encW (A ++ wpow C o ++ winv A))), none, none], ?_, ?_⟩
  · have fin : ∀ Q : SV → Prop, Q (.v (encW (A ++ wpow C o ++ winv A))) → gAdd (encW A) (encW (wpow C o)) (frz fun d => G_law_opposite [.v (encW A)] (frz fun e => gAdd d e Q)) := fun Q h => by
      refine addW A (wpow C o) _ (by omega) ?_
      walk_at "dl"
      refine opA _ ?_
      walk_at "dl"
      exact addW _ _ _ (by simp only [List.length_append, winv_length]; omega) h
    walk_at "dl"
    by_cases h : 0 ≤ o
    · rw [decide_eq_true h]
      walk_at "dl"
      refine mulW C o _ h (by omega) (by omega) ?_
      have e : wpow C o = pw C o.toNat := by unfold wpow; rw [if_pos h]
      rw [← e]
      walk_at "dl"
      refine fin _ ?_
      rfl
    · rw [decide_eq_false h]
      walk_at "dl"
      refine ⟨C, rfl, by omega, ?_⟩
      walk_at "dl"
      refine mulW (winv C) (-o) _ (by omega) (by omega) (by omega) ?_
      have e : wpow C o = pw (winv C) (-o).toNat := by unfold wpow; rw [if_neg h]
      rw [← e]
      walk_at "dl"
      refine fin _ ?_
      rfl
  rintro env rfl
  have dob : okW (A ++ wpow C o ++ winv A) := okW_app (okW_app hA (okW_wpow hC.ok o)) (okW_winv hA)
  have nfl : (nf (A ++ wpow C o ++ winv A)).length ≤ 20 := Nat.le_trans (nf_length _) dl2
  refine ⟨fun env => env = [some (.scr ns), some .st, some (.v (.list (names.map PyData.str))), some (.v (encW C)), some (.v (encW A)), some (.v (.int (n : Int))), some (.v (encW (A ++ pw C n ++ winv A))), some (.v (encW (A ++ C ++ winv A))), some (.v (.tuple [encW A, encW (pw (winv C) n)])), some (.v (.int o)), some (.v (encW (A ++ wpow C o ++ winv A))), none, none], ?_, ?_⟩
  · walk_at "dl"
    refine ⟨_, o, rfl, ro, by omega, nat5 _ rl o.natAbs (by omega), by omega, ?_⟩
    rw [nf_eq.mpr (conj_wpow A C o)]
    walk_at "dl"
    refine ⟨_, rfl, by omega, ?_⟩
    walk_at "dl"
    refine sm _ _ (d8 _ (by omega)) ?_
    walk_at "dl"
    refine ⟨_, rfl, by omega, ?_⟩
    walk_at "dl"
    refine ⟨_, _, rfl, wo, okW_nf dob, by omega, ?_⟩
    have e1 : nf ((A ++ pw C n ++ winv A) ++ nf (A ++ wpow C o ++ winv A)) = nf (nf (A ++ wpow C o ++ winv A) ++ (A ++ pw C n ++ winv A)) := by
      refine nf_eq.mpr ?_
      have h1 := Sim.right (w := A ++ pw C n ++ winv A) (nf_sim (A ++ wpow C o ++ winv A))
      have h2 := Sim.left (w := A ++ pw C n ++ winv A) (nf_sim (A ++ wpow C o ++ winv A))
      exact (h1.trans (conj_comm A _ _ (pw_wpow_comm C n o))).trans h2.symm
    rw [decide_eq_true e1]
    walk_at "dl"
    refine sm _ _ trivial ?_
    walk_at "dl"
  rintro env rfl
  refine ⟨fun env => ∃ w : W, okW w ∧ w.length ≤ 4 ∧ env = [some (.scr ns), some .st, some (.v (.list (names.map PyData.str))), some (.v (encW C)), some (.v (encW A)), some (.v (.int (n : Int))), some (.v (encW (A ++ pw C n ++ winv A))), some (.v (encW (A ++ C ++ winv A))), some (.v (.tuple [encW A, encW (pw (winv C) n)])), some (.v (.int o)), some (.v (encW (A ++ wpow C o ++ winv A))), some (.v (encW w)), none], ?_, ?_⟩
  · walk_at "dl"
    refine tk 4 _ (by decide) (by decide) fun x hx0 hx1 => ?_
    walk_at "dl"
    refine ⟨names, 1 + x, rfl, n0, by omega, hn, by omega, by omega, fun w hl hw => ?_⟩
    walk_at "dl"
    exact ⟨w, fun p hp => ⟨hn _ (hw p hp).1, (hw p hp).2⟩, by omega, rfl⟩
  rintro env ⟨w, wo2, wl2, rfl⟩
  refine ⟨fun env => env = [some (.scr ns), some .st, some (.v (.list (names.map PyData.str))), some (.v (encW C)), some (.v (encW A)), some (.v (.int (n : Int))), some (.v (encW (A ++ pw C n ++ winv A))), some (.v (encW (A ++ C ++ winv A))), some (.v (.tuple [encW A, encW (pw (winv C) n)])), some (.v (.int o)), some (.v (encW (A ++ wpow C o ++ winv A))), some (.v (encW w)), some (.v (.bool (decide (nf ((A ++ pw C n ++ winv A) ++ w) = nf (w ++ (A ++ pw C n ++ winv A))))))], ?_, ?_⟩
  · walk_at "dl"
    refine addW _ _ _ (by omega) ?_
    walk_at "dl"
    refine ⟨_, rfl, by rw [List.length_append]; omega, ?_⟩
    walk_at "dl"
    refine addW _ _ _ (by omega) ?_
    walk_at "dl"
    refine ⟨_, rfl, by rw [List.length_append]; omega, ?_⟩
    walk_at "dl"
    refine ⟨eqOk_W _ _, ?_⟩
    rw [eqb_W]
  rintro env rfl
  refine ⟨fun env => env = [some (.scr ns), some .st, some (.v (.list (names.map PyData.str))), some (.v (encW C)), some (.v (encW A)), some (.v (.int (n : Int))), some (.v (encW (A ++ pw C n ++ winv A))), some (.v (encW (A ++ C ++ winv A))), some (.v (.tuple [encW A, encW (pw (winv C) n)])), some (.v (.int o)), some (.v (encW (A ++ wpow C o ++ winv A))), some (.v (encW w)), some (.v (.bool (decide (nf ((A ++ pw C n ++ winv A) ++ w) = nf (w ++ (A ++ pw C n ++ winv A))))))], ?_, ?_⟩
  · walk_at "dl"
    refine ⟨_, _, rfl, wo, wo2, by omega, ?_⟩
    walk_at "dl"
    refine sm _ _ trivial ?_
    walk_at "dl"
    refine ⟨_, _, rfl, wo2, wo, by omega, ?_⟩
    rw [decide_eq_decide.mpr (show (nf (w ++ (A ++ pw C n ++ winv A)) = nf ((A ++ pw C n ++ winv A) ++ w)) ↔ (nf ((A ++ pw C n ++ winv A) ++ w) = nf (w ++ (A ++ pw C n ++ winv A))) from ⟨Eq.symm, Eq.symm⟩)]
    walk_at "dl"
    refine sm _ _ trivial ?_
    walk_at "dl"
  rintro env rfl
  walk_at "dl"
  refine ⟨_, 0, rfl, wo, by omega, by simp, by decide, ?_⟩
  rw [show nf (wpow (A ++ pw C n ++ winv A) 0) = [] from rfl]
  walk_at "dl"
  refine .inr ⟨rfl, ?_⟩
  walk_at "dl"
  refine sm _ _ trivial ?_
  walk_at "dl"
  refine ⟨lineOk_small (by decide), [], [], rfl, Nat.zero_le _, (fun p h => nomatch h), red_nil, .inr rfl, .inl (Nat.zero_le _), ?_⟩
  walk_at "dl"
  refine ⟨lineOk_small (by decide), ?_⟩
  refine ⟨lineOk_small (by decide), ?_⟩
  refine ⟨lineOk_small (by decide), ?_⟩
  exact sm (.tuple [encW [], encW []]) _ (two [] [] (Nat.zero_le _) (Nat.zero_le _)) hq
end DL
/-! ## L18 -/
set_option Elab.async false
set_option linter.all false
set_option maxRecDepth 100000
set_option maxHeartbeats 4000000
namespace Law
open PySem L2 RZ RT PyProof.Rows DL
local macro_rules | `(tactic| walk_at "dl") => `(tactic| simp only [↓pSeq_ap, ↓pSet_ap, ↓pSetF_ap, ↓pRet_ap, ↓pRetF_ap, ↓pRetVar_ap, ↓pRetN_ap, ↓pIfS_ap, ↓pPar_ap, ↓pNext_ap, ↓pNever_ap, ↓pTgt_ap, ↓pDrop_ap, ↓pVar_ap, ↓pVarB_ap, ↓pC_ap, ↓pOp_ap, ↓pOpF_ap, ↓pUn_ap, ↓pFz_eq, ↓frz_v, ↓frz_own, ↓frz_ownD, ↓pV_ap, ↓pTest_ap, ↓pAnd_ap, ↓pOr_ap, ↓pNot_ap, ↓pIf_ap, ↓pAndV_ap, ↓pOrV_ap, ↓pNotV_ap, ↓pNil_ap, ↓pCons_ap, ↓aNil_ap, ↓aCons_ap, ↓aSlot_ap, ↓pTup_ap, ↓pLst_ap, ↓pB_ap, ↓pBF_ap, ↓pCall_ap, ↓pIsi_ap, ↓pIsN_ap, ↓pNotN_ap, ↓pSt_ap, ↓pSetSt_ap, ↓pLenS_ap, ↓pIxS_ap, ↓pFor_ap, ↓pIter_ap, ↓pRange1_ap, ↓pRange2_ap, ↓gItems, pgName, slot_z, slot_s, set_z, set_s, ↓gI, ↓gMinus, ↓gMod, ↓gFdiv, ↓gPow, ↓gLt, ↓gLe, ↓gGt, ↓gGe, ↓gNeg, ↓gAdd, ↓gMul, ↓gIx, ↓gEq, ↓gNe, ↓gLen, ↓gAbs, ↓gIntOf, ↓gTupOf, ↓gLstOf, DL.isInt, DL.isBool, DL.isStr, DL.isList, DL.isTuple, DL.isDict, DL.isNone, eqb_int, eqb_bool, eqb_str, eqb_self, List.length, List.replicate, List.map, List.append, List.cons_append, List.nil_append, Bool.not_true, Bool.not_false, if_true, if_false, Bool.false_eq_true, ite_true, ite_false, reduceIte, Int.reduceLT, Int.reduceLE, Int.reduceEq, Int.reduceNe, Int.reduceAdd, Int.reduceSub, Int.reduceMul, Int.reduceNeg, Int.reduceToNat, Int.reducePow, Nat.reduceAdd, Nat.reduceSub, ne_eq, not_false_eq_true, not_true_eq_false, decide_true, decide_false, and_true, true_and, ↓pRev_ap, ↓pZip_ap, ↓pSl_ap, ↓pNoPart_ap, ↓pPart_ap, ↓pFreeze_ap, ↓pApp_ap, ↓pExt_ap, ↓pPop_ap, ↓pSetIx_ap, ↓pBreak_ap, ↓pCont_ap, ↓pYes_ap, ↓pEnum_ap, ↓pAug_ap, ↓gPlusI, ↓pChain_ap, ↓gIn_ss, ↓gIn_il, ↓gIn_it, ↓gIn_tl, ↓gIn_tt, ↓gIn_sl, ↓gIn_st, ↓pLc_ap, ↓gSl, wipeE, pgTup, pgCons, pgNil, atL1_0, atL2_0, atL2_1, atL3_0, atL3_1, atL3_2])
def top (i : Nat) : Stmt := PySem.Challenge.pw_unswapped_k18_roots_and_cores_that_are_k.main.body.getD i (.Pass ⟨0, 0, 0, 0⟩)
abbrev s_is_letter_name : Stmt := top 6
abbrev s_is_sign : Stmt := top 8
abbrev s_is_pair : Stmt := top 9
abbrev s_check_group_word : Stmt := top 10
abbrev s_shortened : Stmt := top 11
abbrev s_reduced : Stmt := top 12
abbrev s_opposite : Stmt := top 13
abbrev s_group_product : Stmt := top 14
abbrev s_group_inverse : Stmt := top 15
abbrev s_group_power : Stmt := top 16
abbrev s_split_core : Stmt := top 18
abbrev s_core_of : Stmt := top 19
abbrev s_root_of : Stmt := top 20
abbrev s_commute : Stmt := top 21
abbrev s_law_cell : Stmt := top 23
abbrev s_law_big : Stmt := top 24
abbrev s_law_take : Stmt := top 25
abbrev s_law_same : Stmt := top 26
abbrev s_law_names : Stmt := top 27
abbrev s_law_short : Stmt := top 28
abbrev s_law_opposite : Stmt := top 29
abbrev s_law_group_word : Stmt := top 30
abbrev s_law_core : Stmt := top 31
abbrev s_law_around : Stmt := top 32
abbrev s_law : Stmt := top 33
structure Top (K : PySem.W.Frag) (mg : Str → Option Value) : Prop where
  n_abs : mg "abs" = none
  n_bool : mg "bool" = none
  n_dict : mg "dict" = none
  n_enumerate : mg "enumerate" = none
  n_int : mg "int" = none
  n_isinstance : mg "isinstance" = none
  n_len : mg "len" = none
  n_list : mg "list" = none
  n_range : mg "range" = none
  n_reversed : mg "reversed" = none
  n_str : mg "str" = none
  n_tuple : mg "tuple" = none
  g_FIGURES : ∃ t, mg "FIGURES" = some (.str (PySem.Str.ofString "0123456789") t)
  g_SIGNS : ∃ t, mg "SIGNS" = some (.str (PySem.Str.ofString "abcdefghijklmnopqrstuvwxyz") t)
theorem topOf {K : PySem.W.Frag} {mg : Str → Option Value} {h : Heap} (_ : K.In h) (n_abs : mg "abs" = none) (n_bool : mg "bool" = none) (n_dict : mg "dict" = none) (n_enumerate : mg "enumerate" = none) (n_int : mg "int" = none) (n_isinstance : mg "isinstance" = none) (n_len : mg "len" = none) (n_list : mg "list" = none) (n_range : mg "range" = none) (n_reversed : mg "reversed" = none) (n_str : mg "str" = none) (n_tuple : mg "tuple" = none) (g_FIGURES : ∃ t, mg "FIGURES" = some (.str (PySem.Str.ofString "0123456789") t)) (g_SIGNS : ∃ t, mg "SIGNS" = some (.str (PySem.Str.ofString "abcdefghijklmnopqrstuvwxyz") t)) : Top K mg := ⟨n_abs, n_bool, n_dict, n_enumerate, n_int, n_isinstance, n_len, n_list, n_range, n_reversed, n_str, n_tuple, g_FIGURES, g_SIGNS⟩
section
variable {P : Program} {w : World} {K : PySem.W.Frag} {mg : Str → Option Value} {base : Heap}
theorem sc_is_letter_name : FnScope ["name"] ["name"] (defScope s_is_letter_name) := ⟨rfl, rfl, rfl, by decide +kernel, rfl, by decide +kernel, by decide +kernel⟩
theorem cal_is_letter_name (T : Top K mg) (d : Def K mg "is_letter_name" s_is_letter_name ["name"])  : Callee P w K mg base 1 "is_letter_name" G_is_letter_name :=
  callee_of d fun f fd F => def_ok (Fb := B_is_letter_name) G_is_letter_name F sc_is_letter_name (fun cdv A outer s H E hr => ⟨_,
  (dss_cons (ds_if (DW.dt (dw_or (dt_not (dt_val (de_isi is_str T.n_isinstance T.n_str (db_var 0)))) (dw_or (dt_not (dt_chain op_le pr_le op_le pr_le (DE.db de_int) (DE.db (de_callB call_len pc_len T.n_len (dbs_cons (db_var 0) dbs_nil))) (DE.db de_int))) (dw_or1 (dt_cmp (op_notInA hr.units) (pr_in _) (DE.db (de_ix (db_var 0) (DE.db de_int))) (DE.db (de_globS (by rfl) T.g_SIGNS.choose_spec)) (by rfl)))))) (dss_one (ds_ret de_bl)) dss_nil)
    (dss_one (ds_ret (de_or (de_cmp (op_eqP hr.units) pr_eq (DE.db (de_callB call_len pc_len T.n_len (dbs_cons (db_var 0) dbs_nil))) (DE.db de_int) (nomark _)) (de_one (de_cmp (op_inA hr.units) (pr_in _) (DE.db (de_ix (db_var 0) (DE.db de_int))) (DE.db (de_globS (by rfl) T.g_FIGURES.choose_spec)) (by rfl)))))))⟩) pure_is_letter_name
theorem sc_is_sign : FnScope ["value"] ["value"] (defScope s_is_sign) := ⟨rfl, rfl, rfl, by decide +kernel, rfl, by decide +kernel, by decide +kernel⟩
theorem cal_is_sign (T : Top K mg) (d : Def K mg "is_sign" s_is_sign ["value"])  : Callee P w K mg base 1 "is_sign" G_is_sign :=
  callee_of d fun f fd F => def_ok (Fb := B_is_sign) G_is_sign F sc_is_sign (fun cdv A outer s H E hr => ⟨_,
  (dss_one (ds_ret (de_and (de_isi is_int T.n_isinstance T.n_int (db_var 0)) (de_and (de_not (de_isi is_bool T.n_isinstance T.n_bool (db_var 0))) (de_one (de_cmp (op_inA hr.units) (pr_in _) (db_var 0) (DE.db (DF.de (df_lst (des_cons de_int (des_cons (de_un un_neg pu_neg (DE.db de_int)) des_nil))))) (by rfl)))))))⟩) pure_is_sign
theorem sc_is_pair : FnScope ["value"] ["value"] (defScope s_is_pair) := ⟨rfl, rfl, rfl, by decide +kernel, rfl, by decide +kernel, by decide +kernel⟩
theorem cal_is_pair (T : Top K mg) (d : Def K mg "is_pair" s_is_pair ["value"]) (c_is_letter_name : Callee P w K mg base 1 "is_letter_name" G_is_letter_name) (c_is_sign : Callee P w K mg base 1 "is_sign" G_is_sign) : Callee P w K mg base 2 "is_pair" G_is_pair :=
  callee_of d fun f fd F => def_ok (Fb := B_is_pair) G_is_pair F sc_is_pair (fun cdv A outer s H E hr => ⟨_,
  (dss_one (ds_ret (de_and (de_isi is_tuple T.n_isinstance T.n_tuple (db_var 0)) (de_and (de_cmp (op_eqP hr.units) pr_eq (DE.db (de_callB call_len pc_len T.n_len (dbs_cons (db_var 0) dbs_nil))) (DE.db de_int) (nomark _)) (de_and (DF.de (df_call c_is_letter_name hr (by decide) (da_cons (de_ix (db_var 0) (DE.db de_int)) da_nil))) (de_one (DF.de (df_call c_is_sign hr (by decide) (da_cons (de_ix (db_var 0) (DE.db de_int)) da_nil)))))))))⟩) pure_is_pair
theorem sc_check_group_word : FnScope ["word", "place", "pair"] ["word"] (defScope s_check_group_word) := ⟨rfl, rfl, rfl, by decide +kernel, rfl, by decide +kernel, by decide +kernel⟩
theorem cal_check_group_word (T : Top K mg) (d : Def K mg "check_group_word" s_check_group_word ["word"]) (c_is_pair : Callee P w K mg base 2 "is_pair" G_is_pair) : Callee P w K mg base 3 "check_group_word" G_check_group_word :=
  callee_of d fun f fd F => def_ok (Fb := B_check_group_word) G_check_group_word F sc_check_group_word (fun cdv A outer s H E hr => ⟨_,
  (dss_one (ds_for PassesOwn.never (di_enum (by rfl) T.n_enumerate (de_var 0)) (dg_tup rfl (dgs_cons (dg_name 1 sc_check_group_word.nd) (dgs_cons (dg_name 2 sc_check_group_word.nd) dgs_nil))) (dss_one (ds_if (dt_not (dt_val (DF.de (df_call c_is_pair hr (by decide) (da_cons (de_var 2) da_nil))))) (dss_one ds_never) dss_nil))))⟩) pure_check_group_word
theorem sc_shortened : FnScope ["word", "found", "name", "sign"] ["word"] (defScope s_shortened) := ⟨rfl, rfl, rfl, by decide +kernel, rfl, by decide +kernel, by decide +kernel⟩
theorem cal_shortened (T : Top K mg) (d : Def K mg "shortened" s_shortened ["word"])  : Callee P w K mg base 1 "shortened" G_shortened :=
  callee_of d fun f fd F => def_ok (Fb := B_shortened) G_shortened F sc_shortened (fun cdv A outer s H E hr => ⟨_,
  (dss_cons (ds_setF 1 sc_shortened.nd (df_lst des_nil))
    (dss_cons (ds_for PassesOwn.never (di_any (de_var 0)) (dg_tup rfl (dgs_cons (dg_name 2 sc_shortened.nd) (dgs_cons (dg_name 3 sc_shortened.nd) dgs_nil))) (dss_one (ds_if (DW.dt (dw_and (dt_cmp (op_neP hr.units) pr_ne (db_var 1) (DE.db (DF.de (df_lst des_nil))) (nomark _)) (dw_and1 (dt_cmp (op_eqP hr.units) pr_eq (DE.db (de_ix (db_var 1) (DE.db (de_un un_neg pu_neg (DE.db de_int))))) (DE.db (de_tup (des_cons (de_var 2) (des_cons (de_un un_neg pu_neg (db_var 3)) des_nil)))) (nomark _))))) (dss_one (ds_pop 1)) (dss_one (ds_app 1 (de_tup (des_cons (de_var 2) (des_cons (de_var 3) des_nil))))))))
    (dss_one (ds_ret (de_callTy call_tuple_of pc_tup T.n_tuple (dbs_cons (db_var 1) dbs_nil))))))⟩) pure_shortened
theorem sc_reduced : FnScope ["word"] ["word"] (defScope s_reduced) := ⟨rfl, rfl, rfl, by decide +kernel, rfl, by decide +kernel, by decide +kernel⟩
theorem cal_reduced (T : Top K mg) (d : Def K mg "reduced" s_reduced ["word"]) (c_check_group_word : Callee P w K mg base 3 "check_group_word" G_check_group_word) (c_shortened : Callee P w K mg base 1 "shortened" G_shortened) : Callee P w K mg base 4 "reduced" G_reduced :=
  callee_of d fun f fd F => def_ok (Fb := B_reduced) G_reduced F sc_reduced (fun cdv A outer s H E hr => ⟨_,
  (dss_cons (ds_expr (DE.db (DF.de (df_call c_check_group_word hr (by decide) (da_cons (de_var 0) da_nil)))))
    (dss_one (ds_ret (DF.de (df_call c_shortened hr (by decide) (da_cons (de_var 0) da_nil))))))⟩) pure_reduced
theorem sc_opposite : FnScope ["word", "name", "sign"] ["word"] (defScope s_opposite) := ⟨rfl, rfl, rfl, by decide +kernel, rfl, by decide +kernel, by decide +kernel⟩
theorem cal_opposite (T : Top K mg) (d : Def K mg "opposite" s_opposite ["word"])  : Callee P w K mg base 1 "opposite" G_opposite :=
  callee_of d fun f fd F => def_ok (Fb := B_opposite) G_opposite F sc_opposite (fun cdv A outer s H E hr => ⟨_,
  (dss_one (ds_ret (de_callTy call_tuple_of pc_tup T.n_tuple (dbs_cons (DE.db (DF.de (df_lc [("name", 1), ("sign", 2)] rfl sc_opposite.nd (di_rev (by rfl) T.n_reversed (de_var 0)) (blkOk_by (by show blkC ["word", "name", "sign"] (defScope s_opposite) _ _ = true; decide +kernel)) (dg_tup rfl (dgs_cons (dg_name 1 sc_opposite.nd) (dgs_cons (dg_name 2 sc_opposite.nd) dgs_nil))) (by decide) (fun _ _ _ _ _ => (dg_tup rfl (dgs_cons (dg_name 1 sc_opposite.nd) (dgs_cons (dg_name 2 sc_opposite.nd) dgs_nil)))) dts_nil (de_tup (des_cons (de_var 1) (des_cons (de_un un_neg pu_neg (db_var 2)) des_nil))) (fun _ _ _ _ _ => dts_nil) (fun _ _ _ _ _ => (de_tup (des_cons (de_var 1) (des_cons (de_un un_neg pu_neg (db_var 2)) des_nil))))))) dbs_nil))))⟩) pure_opposite
theorem sc_group_product : FnScope ["rows", "whole", "word"] ["rows"] (defScope s_group_product) := ⟨rfl, rfl, rfl, by decide +kernel, rfl, by decide +kernel, by decide +kernel⟩
theorem cal_group_product (T : Top K mg) (d : Def K mg "group_product" s_group_product ["rows"]) (c_check_group_word : Callee P w K mg base 3 "check_group_word" G_check_group_word) (c_shortened : Callee P w K mg base 1 "shortened" G_shortened) : Callee P w K mg base 4 "group_product" G_group_product :=
  callee_of d fun f fd F => def_ok (Fb := B_group_product) G_group_product F sc_group_product (fun cdv A outer s H E hr => ⟨_,
  (dss_cons (ds_set 1 sc_group_product.nd (de_tup des_nil))
    (dss_cons (ds_for PassesOwn.never (di_any (de_var 0)) (dg_name 2 sc_group_product.nd) (dss_cons (ds_expr (DE.db (DF.de (df_call c_check_group_word hr (by decide) (da_cons (de_var 2) da_nil)))))
    (dss_one (ds_set 1 sc_group_product.nd (DF.de (df_op op_addA pr_add (db_var 1) (db_var 2)))))))
    (dss_one (ds_ret (DF.de (df_call c_shortened hr (by decide) (da_cons (de_var 1) da_nil)))))))⟩) pure_group_product
theorem sc_group_inverse : FnScope ["word"] ["word"] (defScope s_group_inverse) := ⟨rfl, rfl, rfl, by decide +kernel, rfl, by decide +kernel, by decide +kernel⟩
theorem cal_group_inverse (T : Top K mg) (d : Def K mg "group_inverse" s_group_inverse ["word"]) (c_reduced : Callee P w K mg base 4 "reduced" G_reduced) (c_opposite : Callee P w K mg base 1 "opposite" G_opposite) : Callee P w K mg base 5 "group_inverse" G_group_inverse :=
  callee_of d fun f fd F => def_ok (Fb := B_group_inverse) G_group_inverse F sc_group_inverse (fun cdv A outer s H E hr => ⟨_,
  (dss_one (ds_ret (DF.de (df_call c_opposite hr (by decide) (da_cons (DF.de (df_call c_reduced hr (by decide) (da_cons (de_var 0) da_nil))) da_nil)))))⟩) pure_group_inverse
theorem sc_group_power : FnScope ["word", "count", "one"] ["word", "count"] (defScope s_group_power) := ⟨rfl, rfl, rfl, by decide +kernel, rfl, by decide +kernel, by decide +kernel⟩
theorem cal_group_power (T : Top K mg) (d : Def K mg "group_power" s_group_power ["word", "count"]) (c_shortened : Callee P w K mg base 1 "shortened" G_shortened) (c_reduced : Callee P w K mg base 4 "reduced" G_reduced) (c_group_inverse : Callee P w K mg base 5 "group_inverse" G_group_inverse) : Callee P w K mg base 6 "group_power" G_group_power :=
  callee_of d fun f fd F => def_ok (Fb := B_group_power) G_group_power F sc_group_power (fun cdv A outer s H E hr => ⟨_,
  (dss_cons (ds_set 2 sc_group_power.nd (de_if (dt_cmp op_ge pr_ge (db_var 1) (DE.db de_int) (nomark _)) (DF.de (df_call c_reduced hr (by decide) (da_cons (de_var 0) da_nil))) (DF.de (df_call c_group_inverse hr (by decide) (da_cons (de_var 0) da_nil)))))
    (dss_one (ds_ret (DF.de (df_call c_shortened hr (by decide) (da_cons (DF.de (df_op op_mulA pr_mul (db_var 2) (DE.db (de_callB call_abs pc_abs T.n_abs (dbs_cons (db_var 1) dbs_nil))))) da_nil))))))⟩) pure_group_power
theorem sc_split_core : FnScope ["word", "count"] ["word"] (defScope s_split_core) := ⟨rfl, rfl, rfl, by decide +kernel, rfl, by decide +kernel, by decide +kernel⟩
theorem cal_split_core (T : Top K mg) (d : Def K mg "split_core" s_split_core ["word"]) (c_opposite : Callee P w K mg base 1 "opposite" G_opposite) : Callee P w K mg base 2 "split_core" G_split_core :=
  callee_of d fun f fd F => def_ok (Fb := B_split_core) G_split_core F sc_split_core (fun cdv A outer s H E hr => ⟨_,
  (dss_cons (ds_set 1 sc_split_core.nd de_int)
    (dss_cons (ds_while PassesOwn.never (DW.dt (dw_and (dt_cmp op_gt pr_gt (DE.db (de_op op_sub pr_sub (DE.db (de_callB call_len pc_len T.n_len (dbs_cons (db_var 0) dbs_nil))) (DE.db (DF.de (df_op op_mulA pr_mul (DE.db de_int) (db_var 1)))))) (DE.db de_int) (nomark _)) (dw_and1 (dt_cmp (op_eqP hr.units) pr_eq (DE.db (de_ix (db_var 0) (db_var 1))) (DE.db (de_ix (DE.db (DF.de (df_call c_opposite hr (by decide) (da_cons (DF.de (df_slice (db_var 0) (do_some (de_op op_sub pr_sub (DE.db (de_un un_neg pu_neg (DE.db de_int))) (db_var 1))) (do_some (de_op op_sub pr_sub (DE.db (de_callB call_len pc_len T.n_len (dbs_cons (db_var 0) dbs_nil))) (db_var 1))))) da_nil)))) (DE.db de_int))) (nomark _))))) (dss_one (ds_aug 1 sc_split_core.nd iop_add pr_plusI de_int)))
    (dss_one (ds_ret (de_tup (des_cons (DF.de (df_slice (db_var 0) do_none (do_some (de_var 1)))) (des_cons (DF.de (df_slice (db_var 0) (do_some (de_var 1)) (do_some (de_op op_sub pr_sub (DE.db (de_callB call_len pc_len T.n_len (dbs_cons (db_var 0) dbs_nil))) (db_var 1))))) des_nil)))))))⟩) pure_split_core
theorem sc_core_of : FnScope ["word"] ["word"] (defScope s_core_of) := ⟨rfl, rfl, rfl, by decide +kernel, rfl, by decide +kernel, by decide +kernel⟩
theorem cal_core_of (T : Top K mg) (d : Def K mg "core_of" s_core_of ["word"]) (c_reduced : Callee P w K mg base 4 "reduced" G_reduced) (c_split_core : Callee P w K mg base 2 "split_core" G_split_core) : Callee P w K mg base 5 "core_of" G_core_of :=
  callee_of d fun f fd F => def_ok (Fb := B_core_of) G_core_of F sc_core_of (fun cdv A outer s H E hr => ⟨_,
  (dss_one (ds_ret (DF.de (df_call c_split_core hr (by decide) (da_cons (DF.de (df_call c_reduced hr (by decide) (da_cons (de_var 0) da_nil))) da_nil)))))⟩) pure_core_of
theorem sc_root_of : FnScope ["word", "around", "core", "size"] ["word"] (defScope s_root_of) := ⟨rfl, rfl, rfl, by decide +kernel, rfl, by decide +kernel, by decide +kernel⟩
theorem cal_root_of (T : Top K mg) (d : Def K mg "root_of" s_root_of ["word"]) (c_reduced : Callee P w K mg base 4 "reduced" G_reduced) (c_opposite : Callee P w K mg base 1 "opposite" G_opposite) (c_group_product : Callee P w K mg base 4 "group_product" G_group_product) (c_split_core : Callee P w K mg base 2 "split_core" G_split_core) : Callee P w K mg base 5 "root_of" G_root_of :=
  callee_of d fun f fd F => def_ok (Fb := B_root_of) G_root_of F sc_root_of (fun cdv A outer s H E hr => ⟨_,
  (dss_cons (ds_tgt (DF.de (df_call c_split_core hr (by decide) (da_cons (DF.de (df_call c_reduced hr (by decide) (da_cons (de_var 0) da_nil))) da_nil))) (dg_tup rfl (dgs_cons (dg_name 1 sc_root_of.nd) (dgs_cons (dg_name 2 sc_root_of.nd) dgs_nil))))
    (dss_cons (ds_if (dt_cmp (op_eqP hr.units) pr_eq (db_var 2) (DE.db (de_tup des_nil)) (nomark _)) (dss_one (ds_ret de_non)) dss_nil)
    (dss_cons (ds_set 3 sc_root_of.nd de_int)
    (dss_cons (ds_while PassesOwn.never (DW.dt (dw_or (dt_cmp (op_neP hr.units) pr_ne (DE.db (de_op op_modN pr_mod (DE.db (de_callB call_len pc_len T.n_len (dbs_cons (db_var 2) dbs_nil))) (db_var 3))) (DE.db de_int) (nomark _)) (dw_or1 (dt_cmp (op_neP hr.units) pr_ne (DE.db (DF.de (df_op op_mulA pr_mul (DE.db (DF.de (df_slice (db_var 2) do_none (do_some (de_var 3))))) (DE.db (de_op op_fdivA pr_fdiv (DE.db (de_callB call_len pc_len T.n_len (dbs_cons (db_var 2) dbs_nil))) (db_var 3)))))) (db_var 2) (nomark _))))) (dss_one (ds_aug 3 sc_root_of.nd iop_add pr_plusI de_int)))
    (dss_one (ds_ret (de_tup (des_cons (DF.de (df_call c_group_product hr (by decide) (da_cons (DF.de (df_lst (des_cons (de_var 1) (des_cons (DF.de (df_slice (db_var 2) do_none (do_some (de_var 3)))) (des_cons (DF.de (df_call c_opposite hr (by decide) (da_cons (de_var 1) da_nil))) des_nil))))) da_nil))) (des_cons (de_op op_fdivA pr_fdiv (DE.db (de_callB call_len pc_len T.n_len (dbs_cons (db_var 2) dbs_nil))) (db_var 3)) des_nil)))))))))⟩) pure_root_of
theorem sc_commute : FnScope ["one", "two"] ["one", "two"] (defScope s_commute) := ⟨rfl, rfl, rfl, by decide +kernel, rfl, by decide +kernel, by decide +kernel⟩
theorem cal_commute (T : Top K mg) (d : Def K mg "commute" s_commute ["one", "two"]) (c_check_group_word : Callee P w K mg base 3 "check_group_word" G_check_group_word) (c_group_product : Callee P w K mg base 4 "group_product" G_group_product) : Callee P w K mg base 5 "commute" G_commute :=
  callee_of d fun f fd F => def_ok (Fb := B_commute) G_commute F sc_commute (fun cdv A outer s H E hr => ⟨_,
  (dss_cons (ds_expr (DE.db (DF.de (df_call c_check_group_word hr (by decide) (da_cons (de_var 0) da_nil)))))
    (dss_cons (ds_expr (DE.db (DF.de (df_call c_check_group_word hr (by decide) (da_cons (de_var 1) da_nil)))))
    (dss_one (ds_ret (de_cmp (op_eqP hr.units) pr_eq (DE.db (DF.de (df_call c_group_product hr (by decide) (da_cons (DF.de (df_lst (des_cons (de_var 0) (des_cons (de_var 1) des_nil)))) da_nil)))) (DE.db (DF.de (df_call c_group_product hr (by decide) (da_cons (DF.de (df_lst (des_cons (de_var 1) (des_cons (de_var 0) des_nil)))) da_nil)))) (nomark _))))))⟩) pure_commute
theorem sc_law_cell : FnScope ["script", "k", "cell"] ["script", "k"] (defScope s_law_cell) := ⟨rfl, rfl, rfl, by decide +kernel, rfl, by decide +kernel, by decide +kernel⟩
theorem cal_law_cell (T : Top K mg) (d : Def K mg "_law_cell" s_law_cell ["script", "k"])  : Callee P w K mg base 1 "_law_cell" G_law_cell :=
  callee_of d fun f fd F => def_ok (Fb := B_law_cell) G_law_cell F sc_law_cell (fun cdv A outer s H E hr => ⟨_,
  (dss_cut (ds_if (DW.dt (dw_and (dt_cmp op_lt pr_lt (db_var 1) (DE.db (de_lenS 0 T.n_len)) (nomark _)) (dw_and1 (dt_cmp op_ge pr_ge (DE.db (de_ixS 0 (de_var 1))) (DE.db (de_op op_pow pr_pow (DE.db de_int) (DE.db de_int))) (nomark _))))) (dss_one (ds_ret (de_ixS 0 (de_var 1)))) dss_nil)
    (dss_cut (ds_set 2 sc_law_cell.nd (DF.de (df_op op_addA pr_add (DE.db (DF.de (df_op op_mulA pr_mul (DE.db de_int) (db_var 1)))) (DE.db de_int))))
    (dss_cut (ds_if (dt_cmp op_gt pr_gt (DE.db (de_lenS 0 T.n_len)) (DE.db de_int) (nomark _)) (dss_one (ds_set 2 sc_law_cell.nd (DF.de (df_op op_addA pr_add (db_var 2) (DE.db (DF.de (df_op op_mulA pr_mul (DE.db de_int) (DE.db (de_ixS 0 (de_op op_modN pr_mod (DE.db (de_callTy call_int1 pc_int T.n_int (dbs_cons (db_var 1) dbs_nil))) (DE.db (de_lenS 0 T.n_len)))))))))))) dss_nil)
    (dss_cut (ds_set 2 sc_law_cell.nd (de_op op_modN pr_mod (DE.db (de_callTy call_int1 pc_int T.n_int (dbs_cons (DE.db (DF.de (df_op op_addA pr_add (DE.db (DF.de (df_op op_mulA pr_mul (db_var 2) (DE.db de_int)))) (DE.db (DF.de (df_op op_mulA pr_mul (DE.db de_int) (db_var 1))))))) dbs_nil))) (DE.db de_int)))
    (dss_one (ds_ret (de_op op_modN pr_mod (DE.db (de_callTy call_int1 pc_int T.n_int (dbs_cons (DE.db (DF.de (df_op op_addA pr_add (DE.db (DF.de (df_op op_mulA pr_mul (db_var 2) (db_var 2)))) (DE.db (DF.de (df_op op_mulA pr_mul (DE.db de_int) (DE.db (de_op op_fdivA pr_fdiv (db_var 2) (DE.db de_int))))))))) dbs_nil))) (DE.db de_int))))))))⟩) pure_law_cell
theorem sc_law_big : FnScope ["script", "at", "count", "found", "k"] ["script", "at", "count"] (defScope s_law_big) := ⟨rfl, rfl, rfl, by decide +kernel, rfl, by decide +kernel, by decide +kernel⟩
theorem cal_law_big (T : Top K mg) (d : Def K mg "_law_big" s_law_big ["script", "at", "count"]) (c_law_cell : Callee P w K mg base 1 "_law_cell" G_law_cell) : Callee P w K mg base 2 "_law_big" G_law_big :=
  callee_of d fun f fd F => def_ok (Fb := B_law_big) G_law_big F sc_law_big (fun cdv A outer s H E hr => ⟨_,
  (dss_cut (ds_set 3 sc_law_big.nd de_int)
    (dss_cons (ds_for PassesOwn.never (di_range1 (by rfl) T.n_range (de_var 2)) (dg_name 4 sc_law_big.nd) (dss_one (ds_set 3 sc_law_big.nd (DF.de (df_op op_addA pr_add (DE.db (DF.de (df_op op_mulA pr_mul (db_var 3) (DE.db de_int)))) (DE.db (DF.de (df_call c_law_cell hr (by decide) (da_slot 0 (da_cons (DF.de (df_op op_addA pr_add (db_var 1) (db_var 4))) da_nil))))))))))
    (dss_one (ds_retF (df_lst (des_cons (de_var 3) des_nil))))))⟩) pure_law_big
theorem sc_law_take : FnScope ["state", "m", "x"] ["state", "m"] (defScope s_law_take) := ⟨rfl, rfl, rfl, by decide +kernel, rfl, by decide +kernel, by decide +kernel⟩
theorem cal_law_take (T : Top K mg) (d : Def K mg "_law_take" s_law_take ["state", "m"])  : Callee P w K mg base 1 "_law_take" G_law_take :=
  callee_of d fun f fd F => def_ok (Fb := B_law_take) G_law_take F sc_law_take (fun cdv A outer s H E hr => ⟨_,
  (dss_cons (ds_set 2 sc_law_take.nd (de_op op_modN pr_mod (DE.db (de_callTy call_int1 pc_int T.n_int (dbs_cons (DE.db (de_st 0)) dbs_nil))) (db_var 1)))
    (dss_cons (ds_setSt 0 (de_callTy call_int1 pc_int T.n_int (dbs_cons (DE.db (de_op op_fdivA pr_fdiv (DE.db (de_st 0)) (db_var 1))) dbs_nil)) (hpg := pg_sub (pv 0) pe_int set_list))
    (dss_one (ds_retVar 2))))⟩) pure_law_take
theorem sc_law_same : FnScope ["told", "due", "k", "key"] ["told", "due"] (defScope s_law_same) := ⟨rfl, rfl, rfl, by decide +kernel, rfl, by decide +kernel, by decide +kernel⟩
theorem ok_law_same (T : Top K mg) {f : Addr} {fd : FuncData} (F : Fun K "_law_same" "_law_same" s_law_same f fd) (mF : mg "_law_same" = some (.ref f)) (bF : Binds K fd ["told", "due"] [])  : ∀ n : Nat, FnOk P w K mg base CX0 (n + 100) f fd ["told", "due"] (spD K (G_law_same_n n))
  | 0 => def_ok0 G_law_same_0
  | n + 1 => by
    have c_law_same : Callee P w K mg base (n + 100) "_law_same" (G_law_same_n n) := ⟨f, fd, _, ok_law_same T F mF bF  n, mF, F.kp, bF⟩
    exact def_ok (Fb := B_law_same (G_law_same_n n)) (G_law_same_n (n + 1)) F sc_law_same (fun cdv A outer s H E hr => ⟨_,
  (dss_cons (ds_if (DW.dt (dw_or (dt_val (de_isi is_list T.n_isinstance T.n_list (db_var 1))) (dw_or1 (dt_val (de_isi is_tuple T.n_isinstance T.n_tuple (db_var 1)))))) (dss_cons (ds_if (DW.dt (dw_or (DW.dt (dw_and (dt_val (de_isi is_list T.n_isinstance T.n_list (db_var 1))) (dw_and1 (dt_not (dt_val (de_isi is_list T.n_isinstance T.n_list (db_var 0))))))) (dw_or1 (DW.dt (dw_and (dt_val (de_isi is_tuple T.n_isinstance T.n_tuple (db_var 1))) (dw_and1 (dt_not (dt_val (de_isi is_tuple T.n_isinstance T.n_tuple (db_var 0)))))))))) (dss_one (ds_ret de_bl)) dss_nil)
    (dss_cons (ds_if (dt_cmp (op_neP hr.units) pr_ne (DE.db (de_callB call_len pc_len T.n_len (dbs_cons (db_var 0) dbs_nil))) (DE.db (de_callB call_len pc_len T.n_len (dbs_cons (db_var 1) dbs_nil))) (nomark _)) (dss_one (ds_ret de_bl)) dss_nil)
    (dss_one (ds_ret (de_cmp (op_eqP hr.units) pr_eq (DE.db (DF.de (df_lc [("k", 2)] rfl sc_law_same.nd (di_range1 (by rfl) T.n_range (de_callB call_len pc_len T.n_len (dbs_cons (db_var 1) dbs_nil))) (blkOk_by (by show blkC ["told", "due", "k", "key"] (defScope s_law_same) _ _ = true; decide +kernel)) (dg_name 2 sc_law_same.nd) (by decide) (fun _ _ _ _ _ => (dg_name 2 sc_law_same.nd)) (dts_one (dt_not (dt_val (DF.de (df_call c_law_same hr (Nat.le_refl _) (da_cons (de_ix (db_var 0) (db_var 2)) (da_cons (de_ix (db_var 1) (db_var 2)) da_nil))))))) (de_var 2) (fun _ _ _ _ _ => (dts_one (dt_not (dt_val (DF.de (df_call c_law_same hr (Nat.le_refl _) (da_cons (de_ix (db_var 0) (db_var 2)) (da_cons (de_ix (db_var 1) (db_var 2)) da_nil)))))))) (fun _ _ _ _ _ => (de_var 2))))) (DE.db (DF.de (df_lst des_nil))) (nomark _)))))) dss_nil)
    (dss_cons (ds_if (dt_val (de_isi is_dict T.n_isinstance T.n_dict (db_var 1))) dss_never dss_nil)
    (dss_cons (ds_if (dt_isN (db_var 1)) (dss_one (ds_ret (de_isN (db_var 0)))) dss_nil)
    (dss_cons (ds_if (dt_val (de_isi is_bool T.n_isinstance T.n_bool (db_var 1))) (dss_one (ds_ret (de_and (de_isi is_bool T.n_isinstance T.n_bool (db_var 0)) (de_one (de_cmp (op_eqP hr.units) pr_eq (db_var 0) (db_var 1) (nomark _)))))) dss_nil)
    (dss_cons (ds_if (dt_val (de_isi is_str T.n_isinstance T.n_str (db_var 1))) (dss_one (ds_ret (de_and (de_isi is_str T.n_isinstance T.n_str (db_var 0)) (de_one (de_cmp (op_eqP hr.units) pr_eq (db_var 0) (db_var 1) (nomark _)))))) dss_nil)
    (dss_one (ds_ret (de_and (de_isi is_int T.n_isinstance T.n_int (db_var 0)) (de_and (de_not (de_isi is_bool T.n_isinstance T.n_bool (db_var 0))) (de_one (de_cmp (op_eqP hr.units) pr_eq (db_var 0) (db_var 1) (nomark _))))))))))))⟩) (pure_law_same n)
theorem cal_law_same (T : Top K mg) (d : Def K mg "_law_same" s_law_same ["told", "due"])  : Callee P w K mg base 109 "_law_same" G_law_same := by
  obtain ⟨f, fd, F, mF, bF, _⟩ := d.ex
  exact Callee.imp ⟨f, fd, _, ok_law_same T F mF bF  9, mF, F.kp, bF⟩ G_law_same_imp
theorem sc_law_names : FnScope ["state", "count", "pool", "start", "step", "k"] ["state", "count"] (defScope s_law_names) := ⟨rfl, rfl, rfl, by decide +kernel, rfl, by decide +kernel, by decide +kernel⟩
theorem cal_law_names (T : Top K mg) (d : Def K mg "_law_names" s_law_names ["state", "count"]) (c_law_take : Callee P w K mg base 1 "_law_take" G_law_take) : Callee P w K mg base 2 "_law_names" G_law_names :=
  callee_of d fun f fd F => def_ok (Fb := B_law_names) G_law_names F sc_law_names (fun cdv A outer s H E hr => ⟨_,
  (dss_cons (ds_set 2 sc_law_names.nd (DF.de (df_lst (des_cons de_str (des_cons de_str (des_cons de_str (des_cons de_str (des_cons de_str (des_cons de_str (des_cons de_str (des_cons de_str des_nil)))))))))))
    (dss_cons (ds_tgt (de_tup (des_cons (DF.de (df_call c_law_take hr (by decide) (da_slot 0 (da_cons de_int da_nil)))) (des_cons (DF.de (df_op op_addA pr_add (DE.db de_int) (DE.db (DF.de (df_op op_mulA pr_mul (DE.db de_int) (DE.db (DF.de (df_call c_law_take hr (by decide) (da_slot 0 (da_cons de_int da_nil)))))))))) des_nil))) (dg_tup rfl (dgs_cons (dg_name 3 sc_law_names.nd) (dgs_cons (dg_name 4 sc_law_names.nd) dgs_nil))))
    (dss_one (ds_retF (df_lc [("k", 5)] rfl sc_law_names.nd (di_range1 (by rfl) T.n_range (de_var 1)) (blkOk_by (by show blkC ["state", "count", "pool", "start", "step", "k"] (defScope s_law_names) _ _ = true; decide +kernel)) (dg_name 5 sc_law_names.nd) (by decide) (fun _ _ _ _ _ => (dg_name 5 sc_law_names.nd)) dts_nil (de_ix (db_var 2) (DE.db (de_op op_modN pr_mod (DE.db (de_callTy call_int1 pc_int T.n_int (dbs_cons (DE.db (DF.de (df_op op_addA pr_add (db_var 3) (DE.db (DF.de (df_op op_mulA pr_mul (db_var 5) (db_var 4))))))) dbs_nil))) (DE.db de_int)))) (fun _ _ _ _ _ => dts_nil) (fun _ _ _ _ _ => (de_ix (db_var 2) (DE.db (de_op op_modN pr_mod (DE.db (de_callTy call_int1 pc_int T.n_int (dbs_cons (DE.db (DF.de (df_op op_addA pr_add (db_var 3) (DE.db (DF.de (df_op op_mulA pr_mul (db_var 5) (db_var 4))))))) dbs_nil))) (DE.db de_int))))))))))⟩) pure_law_names
theorem sc_law_short : FnScope ["word", "found", "name", "sign"] ["word"] (defScope s_law_short) := ⟨rfl, rfl, rfl, by decide +kernel, rfl, by decide +kernel, by decide +kernel⟩
theorem cal_law_short (T : Top K mg) (d : Def K mg "_law_short" s_law_short ["word"])  : Callee P w K mg base 1 "_law_short" G_law_short :=
  callee_of d fun f fd F => def_ok (Fb := B_law_short) G_law_short F sc_law_short (fun cdv A outer s H E hr => ⟨_,
  (dss_cons (ds_setF 1 sc_law_short.nd (df_lst des_nil))
    (dss_cons (ds_for PassesOwn.never (di_any (de_var 0)) (dg_tup rfl (dgs_cons (dg_name 2 sc_law_short.nd) (dgs_cons (dg_name 3 sc_law_short.nd) dgs_nil))) (dss_one (ds_if (DW.dt (dw_and (dt_cmp (op_neP hr.units) pr_ne (db_var 1) (DE.db (DF.de (df_lst des_nil))) (nomark _)) (dw_and1 (dt_cmp (op_eqP hr.units) pr_eq (DE.db (de_ix (db_var 1) (DE.db (de_un un_neg pu_neg (DE.db de_int))))) (DE.db (de_tup (des_cons (de_var 2) (des_cons (de_un un_neg pu_neg (db_var 3)) des_nil)))) (nomark _))))) (dss_one (ds_setF 1 sc_law_short.nd (df_slice (db_var 1) do_none (do_some (de_un un_neg pu_neg (DE.db de_int)))))) (dss_one (ds_app 1 (de_tup (des_cons (de_var 2) (des_cons (de_var 3) des_nil))))))))
    (dss_one (ds_ret (de_callTy call_tuple_of pc_tup T.n_tuple (dbs_cons (db_var 1) dbs_nil))))))⟩) pure_law_short
theorem sc_law_opposite : FnScope ["word", "name", "sign"] ["word"] (defScope s_law_opposite) := ⟨rfl, rfl, rfl, by decide +kernel, rfl, by decide +kernel, by decide +kernel⟩
theorem cal_law_opposite (T : Top K mg) (d : Def K mg "_law_opposite" s_law_opposite ["word"])  : Callee P w K mg base 1 "_law_opposite" G_law_opposite :=
  callee_of d fun f fd F => def_ok (Fb := B_law_opposite) G_law_opposite F sc_law_opposite (fun cdv A outer s H E hr => ⟨_,
  (dss_one (ds_ret (de_callTy call_tuple_of pc_tup T.n_tuple (dbs_cons (DE.db (DF.de (df_lc [("name", 1), ("sign", 2)] rfl sc_law_opposite.nd (di_rev (by rfl) T.n_reversed (de_var 0)) (blkOk_by (by show blkC ["word", "name", "sign"] (defScope s_law_opposite) _ _ = true; decide +kernel)) (dg_tup rfl (dgs_cons (dg_name 1 sc_law_opposite.nd) (dgs_cons (dg_name 2 sc_law_opposite.nd) dgs_nil))) (by decide) (fun _ _ _ _ _ => (dg_tup rfl (dgs_cons (dg_name 1 sc_law_opposite.nd) (dgs_cons (dg_name 2 sc_law_opposite.nd) dgs_nil)))) dts_nil (de_tup (des_cons (de_var 1) (des_cons (de_un un_neg pu_neg (db_var 2)) des_nil))) (fun _ _ _ _ _ => dts_nil) (fun _ _ _ _ _ => (de_tup (des_cons (de_var 1) (des_cons (de_un un_neg pu_neg (db_var 2)) des_nil))))))) dbs_nil))))⟩) pure_law_opposite
theorem sc_law_group_word : FnScope ["state", "names", "length", "k"] ["state", "names", "length"] (defScope s_law_group_word) := ⟨rfl, rfl, rfl, by decide +kernel, rfl, by decide +kernel, by decide +kernel⟩
theorem cal_law_group_word (T : Top K mg) (d : Def K mg "_law_group_word" s_law_group_word ["state", "names", "length"]) (c_law_take : Callee P w K mg base 1 "_law_take" G_law_take) : Callee P w K mg base 2 "_law_group_word" G_law_group_word :=
  callee_of d fun f fd F => def_ok (Fb := B_law_group_word) G_law_group_word F sc_law_group_word (fun cdv A outer s H E hr => ⟨_,
  (dss_one (ds_ret (de_callTy call_tuple_of pc_tup T.n_tuple (dbs_cons (DE.db (DF.de (df_lc [("k", 3)] rfl sc_law_group_word.nd (di_range1 (by rfl) T.n_range (de_var 2)) (blkOk_by (by show blkC ["state", "names", "length", "k"] (defScope s_law_group_word) _ _ = true; decide +kernel)) (dg_name 3 sc_law_group_word.nd) (by decide) (fun _ _ _ _ _ => (dg_name 3 sc_law_group_word.nd)) dts_nil (de_tup (des_cons (de_ix (db_var 1) (DE.db (DF.de (df_call c_law_take hr (by decide) (da_slot 0 (da_cons (de_callB call_len pc_len T.n_len (dbs_cons (db_var 1) dbs_nil)) da_nil)))))) (des_cons (de_op op_sub pr_sub (DE.db de_int) (DE.db (DF.de (df_op op_mulA pr_mul (DE.db de_int) (DE.db (DF.de (df_call c_law_take hr (by decide) (da_slot 0 (da_cons de_int da_nil))))))))) des_nil))) (fun _ _ _ _ _ => dts_nil) (fun _ _ _ _ _ => (de_tup (des_cons (de_ix (db_var 1) (DE.db (DF.de (df_call c_law_take hr (by decide) (da_slot 0 (da_cons (de_callB call_len pc_len T.n_len (dbs_cons (db_var 1) dbs_nil)) da_nil)))))) (des_cons (de_op op_sub pr_sub (DE.db de_int) (DE.db (DF.de (df_op op_mulA pr_mul (DE.db de_int) (DE.db (DF.de (df_call c_law_take hr (by decide) (da_slot 0 (da_cons de_int da_nil))))))))) des_nil))))))) dbs_nil))))⟩) pure_law_group_word
theorem sc_law_core : FnScope ["state", "names", "found", "size"] ["state", "names"] (defScope s_law_core) := ⟨rfl, rfl, rfl, by decide +kernel, rfl, by decide +kernel, by decide +kernel⟩
theorem cal_law_core (T : Top K mg) (d : Def K mg "_law_core" s_law_core ["state", "names"]) (c_law_take : Callee P w K mg base 1 "_law_take" G_law_take) (c_law_short : Callee P w K mg base 1 "_law_short" G_law_short) (c_law_group_word : Callee P w K mg base 2 "_law_group_word" G_law_group_word) : Callee P w K mg base 3 "_law_core" G_law_core :=
  callee_of d fun f fd F => def_ok (Fb := B_law_core) G_law_core F sc_law_core (fun cdv A outer s H E hr => ⟨_,
  (dss_cut (ds_set 2 sc_law_core.nd (DF.de (df_call c_law_group_word hr (by decide) (da_slot 0 (da_cons (de_var 1) (da_cons (DF.de (df_op op_addA pr_add (DE.db de_int) (DE.db (DF.de (df_call c_law_take hr (by decide) (da_slot 0 (da_cons de_int da_nil))))))) da_nil))))))
    (dss_cut (ds_set 2 sc_law_core.nd (DF.de (df_call c_law_short hr (by decide) (da_cons (de_var 2) da_nil))))
    (dss_cut (ds_while PassesOwn.never (DW.dt (dw_and (dt_cmp op_gt pr_gt (DE.db (de_callB call_len pc_len T.n_len (dbs_cons (db_var 2) dbs_nil))) (DE.db de_int) (nomark _)) (dw_and1 (dt_cmp (op_eqP hr.units) pr_eq (DE.db (de_ix (db_var 2) (DE.db de_int))) (DE.db (de_tup (des_cons (de_ix (DE.db (de_ix (db_var 2) (DE.db (de_un un_neg pu_neg (DE.db de_int))))) (DE.db de_int)) (des_cons (de_un un_neg pu_neg (DE.db (de_ix (DE.db (de_ix (db_var 2) (DE.db (de_un un_neg pu_neg (DE.db de_int))))) (DE.db de_int)))) des_nil)))) (nomark _))))) (dss_one (ds_set 2 sc_law_core.nd (DF.de (df_slice (db_var 2) (do_some de_int) (do_some (de_un un_neg pu_neg (DE.db de_int))))))))
    (dss_cut (ds_for PassesOwn.never (di_range2 (by rfl) T.n_range de_int (de_callB call_len pc_len T.n_len (dbs_cons (db_var 2) dbs_nil))) (dg_name 3 sc_law_core.nd) (dss_one (ds_if (DW.dt (dw_and (dt_cmp (op_eqP hr.units) pr_eq (DE.db (DF.de (df_op op_mulA pr_mul (DE.db (de_op op_fdivA pr_fdiv (DE.db (de_callB call_len pc_len T.n_len (dbs_cons (db_var 2) dbs_nil))) (db_var 3))) (db_var 3)))) (DE.db (de_callB call_len pc_len T.n_len (dbs_cons (db_var 2) dbs_nil))) (nomark _)) (dw_and1 (dt_cmp (op_eqP hr.units) pr_eq (DE.db (DF.de (df_op op_mulA pr_mul (DE.db (DF.de (df_slice (db_var 2) do_none (do_some (de_var 3))))) (DE.db (de_op op_fdivA pr_fdiv (DE.db (de_callB call_len pc_len T.n_len (dbs_cons (db_var 2) dbs_nil))) (db_var 3)))))) (db_var 2) (nomark _))))) (dss_one (ds_ret (DF.de (df_slice (db_var 2) do_none (do_some (de_var 3)))))) dss_nil)))
    (dss_one (ds_ret (de_if (dt_cmp (op_neP hr.units) pr_ne (db_var 2) (DE.db (de_tup des_nil)) (nomark _)) (de_var 2) (de_tup (des_cons (de_tup (des_cons (de_ix (db_var 1) (DE.db de_int)) (des_cons de_int des_nil))) des_nil)))))))))⟩) pure_law_core
theorem sc_law_around : FnScope ["state", "names", "core", "found", "turn", "pair", "after", "barred"] ["state", "names", "core"] (defScope s_law_around) := ⟨rfl, rfl, rfl, by decide +kernel, rfl, by decide +kernel, by decide +kernel⟩
theorem cal_law_around (T : Top K mg) (d : Def K mg "_law_around" s_law_around ["state", "names", "core"]) (c_law_take : Callee P w K mg base 1 "_law_take" G_law_take) (c_law_group_word : Callee P w K mg base 2 "_law_group_word" G_law_group_word) : Callee P w K mg base 3 "_law_around" G_law_around :=
  callee_of d fun f fd F => def_ok (Fb := B_law_around) G_law_around F sc_law_around (fun cdv A outer s H E hr => ⟨_,
  (dss_cut (ds_set 3 sc_law_around.nd (de_tup des_nil))
    (dss_cons (ds_for PassesOwn.never (di_range1 (by rfl) T.n_range (DF.de (df_call c_law_take hr (by decide) (da_slot 0 (da_cons de_int da_nil))))) (dg_name 4 sc_law_around.nd) (dss_cut (ds_set 5 sc_law_around.nd (de_ix (DE.db (DF.de (df_call c_law_group_word hr (by decide) (da_slot 0 (da_cons (de_var 1) (da_cons de_int da_nil)))))) (DE.db de_int)))
    (dss_cut (ds_set 6 sc_law_around.nd (de_if (dt_cmp (op_neP hr.units) pr_ne (db_var 3) (DE.db (de_tup des_nil)) (nomark _)) (de_ix (db_var 3) (DE.db de_int)) de_non))
    (dss_cut (ds_set 7 sc_law_around.nd (de_if (dt_notN (db_var 6)) (DF.de (df_lst (des_cons (de_tup (des_cons (de_ix (db_var 6) (DE.db de_int)) (des_cons (de_un un_neg pu_neg (DE.db (de_ix (db_var 6) (DE.db de_int)))) des_nil))) des_nil))) (DF.de (df_lst (des_cons (de_tup (des_cons (de_ix (DE.db (de_ix (db_var 2) (DE.db de_int))) (DE.db de_int)) (des_cons (de_un un_neg pu_neg (DE.db (de_ix (DE.db (de_ix (db_var 2) (DE.db de_int))) (DE.db de_int)))) des_nil))) (des_cons (de_ix (db_var 2) (DE.db (de_un un_neg pu_neg (DE.db de_int)))) des_nil))))))
    (dss_one (ds_if (dt_cmp (op_notInA hr.units) (pr_in _) (db_var 5) (db_var 7) (by rfl)) (dss_one (ds_set 3 sc_law_around.nd (DF.de (df_op op_addA pr_add (DE.db (de_tup (des_cons (de_var 5) des_nil))) (db_var 3))))) dss_nil))))))
    (dss_one (ds_retVar 3))))⟩) pure_law_around
theorem sc_law : FnScope ["script", "state", "names", "core", "around", "count", "word", "root", "turned", "other", "due", "more", "swap"] ["script"] (defScope s_law) := ⟨rfl, rfl, rfl, by decide +kernel, rfl, by decide +kernel, by decide +kernel⟩
theorem ok_law (T : Top K mg) (c_group_inverse : Callee P w K mg base 5 "group_inverse" G_group_inverse) (c_group_power : Callee P w K mg base 6 "group_power" G_group_power) (c_core_of : Callee P w K mg base 5 "core_of" G_core_of) (c_root_of : Callee P w K mg base 5 "root_of" G_root_of) (c_commute : Callee P w K mg base 5 "commute" G_commute) (c_law_big : Callee P w K mg base 2 "_law_big" G_law_big) (c_law_take : Callee P w K mg base 1 "_law_take" G_law_take) (c_law_same : Callee P w K mg base 109 "_law_same" G_law_same) (c_law_names : Callee P w K mg base 2 "_law_names" G_law_names) (c_law_short : Callee P w K mg base 1 "_law_short" G_law_short) (c_law_opposite : Callee P w K mg base 1 "_law_opposite" G_law_opposite) (c_law_group_word : Callee P w K mg base 2 "_law_group_word" G_law_group_word) (c_law_core : Callee P w K mg base 3 "_law_core" G_law_core) (c_law_around : Callee P w K mg base 3 "_law_around" G_law_around) {f : Addr} {fd : FuncData} (F : Fun K "law" "law" s_law f fd) : FnOk P w K mg base CX0 110 f fd ["script"] (spD K G_law) :=
  def_ok (Fb := B_law) G_law F sc_law (fun cdv A outer s H E hr => ⟨_,
  (dss_cons (ds_setF 1 sc_law.nd (df_call c_law_big hr (by decide) (da_slot 0 (da_cons de_int (da_cons de_int da_nil)))))
    (dss_stify 1 (dss_cut (ds_set 2 sc_law.nd (DF.de (df_call c_law_names hr (by decide) (da_slot 1 (da_cons (DF.de (df_op op_addA pr_add (DE.db de_int) (DE.db (DF.de (df_call c_law_take hr (by decide) (da_slot 1 (da_cons de_int da_nil))))))) da_nil)))))
    (dss_cut (ds_set 3 sc_law.nd (DF.de (df_call c_law_core hr (by decide) (da_slot 1 (da_cons (de_var 2) da_nil)))))
    (dss_cut (ds_set 4 sc_law.nd (DF.de (df_call c_law_around hr (by decide) (da_slot 1 (da_cons (de_var 2) (da_cons (de_var 3) da_nil))))))
    (dss_cut (ds_set 5 sc_law.nd (DF.de (df_op op_addA pr_add (DE.db de_int) (DE.db (DF.de (df_call c_law_take hr (by decide) (da_slot 1 (da_cons de_int da_nil))))))))
    (dss_cut (ds_set 6 sc_law.nd (DF.de (df_op op_addA pr_add (DE.db (DF.de (df_op op_addA pr_add (db_var 4) (DE.db (DF.de (df_op op_mulA pr_mul (db_var 3) (db_var 5))))))) (DE.db (DF.de (df_call c_law_opposite hr (by decide) (da_cons (de_var 4) da_nil)))))))
    (dss_cut (ds_if (dt_cmp (op_neP hr.units) pr_ne (DE.db (DF.de (df_call c_law_short hr (by decide) (da_cons (de_var 6) da_nil)))) (db_var 6) (nomark _)) dss_never dss_nil)
    (dss_cut (ds_set 7 sc_law.nd (DF.de (df_op op_addA pr_add (DE.db (DF.de (df_op op_addA pr_add (db_var 4) (db_var 3)))) (DE.db (DF.de (df_call c_law_opposite hr (by decide) (da_cons (de_var 4) da_nil)))))))
    (dss_cut (ds_if (DW.dt (dw_or (dt_not (dt_val (DF.de (df_call c_law_same hr (by decide) (da_cons (DF.de (df_call c_core_of hr (by decide) (da_cons (de_var 6) da_nil))) (da_cons (de_tup (des_cons (de_var 4) (des_cons (DF.de (df_op op_mulA pr_mul (db_var 3) (db_var 5))) des_nil))) da_nil)))))) (dw_or1 (dt_not (dt_val (DF.de (df_call c_law_same hr (by decide) (da_cons (DF.de (df_call c_root_of hr (by decide) (da_cons (de_var 6) da_nil))) (da_cons (de_tup (des_cons (de_var 7) (des_cons (de_var 5) des_nil))) da_nil))))))))) dss_never dss_nil)
    (dss_cut (ds_if (DW.dt (dw_or (dt_not (dt_val (DF.de (df_call c_law_same hr (by decide) (da_cons (DF.de (df_call c_group_power hr (by decide) (da_cons (de_var 7) (da_cons (de_var 5) da_nil)))) (da_cons (de_var 6) da_nil)))))) (dw_or1 (dt_not (dt_val (DF.de (df_call c_law_same hr (by decide) (da_cons (DF.de (df_call c_group_inverse hr (by decide) (da_cons (de_var 6) da_nil))) (da_cons (DF.de (df_call c_law_opposite hr (by decide) (da_cons (de_var 6) da_nil))) da_nil))))))))) dss_never dss_nil)
    (dss_cut (ds_set 8 sc_law.nd (de_tup (des_cons (de_var 4) (des_cons (DF.de (df_op op_mulA pr_mul (DE.db (DF.de (df_call c_law_opposite hr (by decide) (da_cons (de_var 3) da_nil)))) (db_var 5))) des_nil))))
    (dss_cut (ds_if (dt_not (dt_val (DF.de (df_call c_law_same hr (by decide) (da_cons (DF.de (df_call c_core_of hr (by decide) (da_cons (DF.de (df_call c_law_opposite hr (by decide) (da_cons (de_var 6) da_nil))) da_nil))) (da_cons (de_var 8) da_nil)))))) dss_never dss_nil)
    (dss_cut (ds_set 9 sc_law.nd (de_op op_sub pr_sub (DE.db (DF.de (df_call c_law_take hr (by decide) (da_slot 1 (da_cons de_int da_nil))))) (DE.db de_int)))
    (dss_cut (ds_set 10 sc_law.nd (DF.de (df_op op_addA pr_add (DE.db (DF.de (df_op op_addA pr_add (db_var 4) (DE.db (de_if (dt_cmp op_ge pr_ge (db_var 9) (DE.db de_int) (nomark _)) (DF.de (df_op op_mulA pr_mul (db_var 3) (db_var 9))) (DF.de (df_op op_mulA pr_mul (DE.db (DF.de (df_call c_law_opposite hr (by decide) (da_cons (de_var 3) da_nil)))) (DE.db (de_un un_neg pu_neg (db_var 9)))))))))) (DE.db (DF.de (df_call c_law_opposite hr (by decide) (da_cons (de_var 4) da_nil)))))))
    (dss_cut (ds_if (DW.dt (dw_or (dt_not (dt_val (DF.de (df_call c_law_same hr (by decide) (da_cons (DF.de (df_call c_group_power hr (by decide) (da_cons (de_var 7) (da_cons (de_var 9) da_nil)))) (da_cons (DF.de (df_call c_law_short hr (by decide) (da_cons (de_var 10) da_nil))) da_nil)))))) (dw_or1 (dt_not (dt_val (DF.de (df_call c_law_same hr (by decide) (da_cons (DF.de (df_call c_commute hr (by decide) (da_cons (de_var 6) (da_cons (DF.de (df_call c_law_short hr (by decide) (da_cons (de_var 10) da_nil))) da_nil)))) (da_cons de_bl da_nil))))))))) dss_never dss_nil)
    (dss_cut (ds_set 11 sc_law.nd (DF.de (df_call c_law_group_word hr (by decide) (da_slot 1 (da_cons (de_var 2) (da_cons (DF.de (df_op op_addA pr_add (DE.db de_int) (DE.db (DF.de (df_call c_law_take hr (by decide) (da_slot 1 (da_cons de_int da_nil))))))) da_nil))))))
    (dss_cut (ds_set 12 sc_law.nd (de_cmp (op_eqP hr.units) pr_eq (DE.db (DF.de (df_call c_law_short hr (by decide) (da_cons (DF.de (df_op op_addA pr_add (db_var 6) (db_var 11))) da_nil)))) (DE.db (DF.de (df_call c_law_short hr (by decide) (da_cons (DF.de (df_op op_addA pr_add (db_var 11) (db_var 6))) da_nil)))) (nomark _)))
    (dss_cut (ds_if (DW.dt (dw_or (dt_not (dt_val (DF.de (df_call c_law_same hr (by decide) (da_cons (DF.de (df_call c_commute hr (by decide) (da_cons (de_var 6) (da_cons (de_var 11) da_nil)))) (da_cons (de_var 12) da_nil)))))) (dw_or1 (dt_not (dt_val (DF.de (df_call c_law_same hr (by decide) (da_cons (DF.de (df_call c_commute hr (by decide) (da_cons (de_var 11) (da_cons (de_var 6) da_nil)))) (da_cons (de_var 12) da_nil))))))))) dss_never dss_nil)
    (dss_one (ds_ret (de_and (DF.de (df_call c_law_same hr (by decide) (da_cons (DF.de (df_call c_root_of hr (by decide) (da_cons (DF.de (df_call c_group_power hr (by decide) (da_cons (de_var 6) (da_cons de_int da_nil)))) da_nil))) (da_cons de_non da_nil)))) (de_one (DF.de (df_call c_law_same hr (by decide) (da_cons (DF.de (df_call c_core_of hr (by decide) (da_cons (de_tup des_nil) da_nil))) (da_cons (de_tup (des_cons (de_tup des_nil) (des_cons (de_tup des_nil) des_nil))) da_nil)))))))))))))))))))))))))))⟩) pure_law
end
end Law
open PySem PySem.W PyProof.Rows DL in
set_option maxRecDepth 100000 in
set_option maxHeartbeats 0 in
theorem PySem.Challenge.cw_unswapped_k18_roots_and_cores_that_are_k_holds : PySem.Challenge.rw_unswapped_k18_roots_and_cores_that_are_k.Holds := by
  w_on; o_law; k_head; (case hw => w_witness2)
  k_fill
  refine DL.law_walk (l := PySem.Challenge.rw_unswapped_k18_roots_and_cores_that_are_k) (k := 110) (st := Law.s_law) rfl rfl ⟨rfl, by decide, by decide⟩ rfl (fun w h Y => PySem.W.kIn_of Y) ?F
  case F =>
    intro w mg h KX G
    have n_abs : mg "abs" = none := PySem.W.mg_none_of KX G (by k_is)
    have n_bool : mg "bool" = none := PySem.W.mg_none_of KX G (by k_is)
    have n_dict : mg "dict" = none := PySem.W.mg_none_of KX G (by k_is)
    have n_enumerate : mg "enumerate" = none := PySem.W.mg_none_of KX G (by k_is)
    have n_int : mg "int" = none := PySem.W.mg_none_of KX G (by k_is)
    have n_isinstance : mg "isinstance" = none := PySem.W.mg_none_of KX G (by k_is)
    have n_len : mg "len" = none := PySem.W.mg_none_of KX G (by k_is)
    have n_list : mg "list" = none := PySem.W.mg_none_of KX G (by k_is)
    have n_range : mg "range" = none := PySem.W.mg_none_of KX G (by k_is)
    have n_reversed : mg "reversed" = none := PySem.W.mg_none_of KX G (by k_is)
    have n_str : mg "str" = none := PySem.W.mg_none_of KX G (by k_is)
    have n_tuple : mg "tuple" = none := PySem.W.mg_none_of KX G (by k_is)
    have g_FIGURES : ∃ t, mg "FIGURES" = some (.str (PySem.Str.ofString "0123456789") t) := ⟨_, PySem.W.mg_of KX G (by k_is)⟩
    have g_SIGNS : ∃ t, mg "SIGNS" = some (.str (PySem.Str.ofString "abcdefghijklmnopqrstuvwxyz") t) := ⟨_, PySem.W.mg_of KX G (by k_is)⟩
    have T := Law.topOf KX n_abs n_bool n_dict n_enumerate n_int n_isinstance n_len n_list n_range n_reversed n_str n_tuple g_FIGURES g_SIGNS
    refine' (fun d_is_letter_name => ?r7_is_letter_name) (def_at (x := "is_letter_name") (st := Law.s_is_letter_name) (ps := ["name"]) KX G ?a7_is_letter_name ?l7_is_letter_name ?c7_is_letter_name ?k7_is_letter_name (fun _ _ _ _ _ _ us hl => match us, hl with | [_], _ => rfl))
    (case a7_is_letter_name => k_is); (case l7_is_letter_name => k_is); (case c7_is_letter_name => k_is); (case k7_is_letter_name => k_is)
    refine' (fun d_is_sign => ?r7_is_sign) (def_at (x := "is_sign") (st := Law.s_is_sign) (ps := ["value"]) KX G ?a7_is_sign ?l7_is_sign ?c7_is_sign ?k7_is_sign (fun _ _ _ _ _ _ us hl => match us, hl with | [_], _ => rfl))
    (case a7_is_sign => k_is); (case l7_is_sign => k_is); (case c7_is_sign => k_is); (case k7_is_sign => k_is)
    refine' (fun d_is_pair => ?r7_is_pair) (def_at (x := "is_pair") (st := Law.s_is_pair) (ps := ["value"]) KX G ?a7_is_pair ?l7_is_pair ?c7_is_pair ?k7_is_pair (fun _ _ _ _ _ _ us hl => match us, hl with | [_], _ => rfl))
    (case a7_is_pair => k_is); (case l7_is_pair => k_is); (case c7_is_pair => k_is); (case k7_is_pair => k_is)
    refine' (fun d_check_group_word => ?r7_check_group_word) (def_at (x := "check_group_word") (st := Law.s_check_group_word) (ps := ["word"]) KX G ?a7_check_group_word ?l7_check_group_word ?c7_check_group_word ?k7_check_group_word (fun _ _ _ _ _ _ us hl => match us, hl with | [_], _ => rfl))
    (case a7_check_group_word => k_is); (case l7_check_group_word => k_is); (case c7_check_group_word => k_is); (case k7_check_group_word => k_is)
    refine' (fun d_shortened => ?r7_shortened) (def_at (x := "shortened") (st := Law.s_shortened) (ps := ["word"]) KX G ?a7_shortened ?l7_shortened ?c7_shortened ?k7_shortened (fun _ _ _ _ _ _ us hl => match us, hl with | [_], _ => rfl))
    (case a7_shortened => k_is); (case l7_shortened => k_is); (case c7_shortened => k_is); (case k7_shortened => k_is)
    refine' (fun d_reduced => ?r7_reduced) (def_at (x := "reduced") (st := Law.s_reduced) (ps := ["word"]) KX G ?a7_reduced ?l7_reduced ?c7_reduced ?k7_reduced (fun _ _ _ _ _ _ us hl => match us, hl with | [_], _ => rfl))
    (case a7_reduced => k_is); (case l7_reduced => k_is); (case c7_reduced => k_is); (case k7_reduced => k_is)
    refine' (fun d_opposite => ?r7_opposite) (def_at (x := "opposite") (st := Law.s_opposite) (ps := ["word"]) KX G ?a7_opposite ?l7_opposite ?c7_opposite ?k7_opposite (fun _ _ _ _ _ _ us hl => match us, hl with | [_], _ => rfl))
    (case a7_opposite => k_is); (case l7_opposite => k_is); (case c7_opposite => k_is); (case k7_opposite => k_is)
    refine' (fun d_group_product => ?r7_group_product) (def_at (x := "group_product") (st := Law.s_group_product) (ps := ["rows"]) KX G ?a7_group_product ?l7_group_product ?c7_group_product ?k7_group_product (fun _ _ _ _ _ _ us hl => match us, hl with | [_], _ => rfl))
    (case a7_group_product => k_is); (case l7_group_product => k_is); (case c7_group_product => k_is); (case k7_group_product => k_is)
    refine' (fun d_group_inverse => ?r7_group_inverse) (def_at (x := "group_inverse") (st := Law.s_group_inverse) (ps := ["word"]) KX G ?a7_group_inverse ?l7_group_inverse ?c7_group_inverse ?k7_group_inverse (fun _ _ _ _ _ _ us hl => match us, hl with | [_], _ => rfl))
    (case a7_group_inverse => k_is); (case l7_group_inverse => k_is); (case c7_group_inverse => k_is); (case k7_group_inverse => k_is)
    refine' (fun d_group_power => ?r7_group_power) (def_at (x := "group_power") (st := Law.s_group_power) (ps := ["word", "count"]) KX G ?a7_group_power ?l7_group_power ?c7_group_power ?k7_group_power (fun _ _ _ _ _ _ us hl => match us, hl with | [_, _], _ => rfl))
    (case a7_group_power => k_is); (case l7_group_power => k_is); (case c7_group_power => k_is); (case k7_group_power => k_is)
    refine' (fun d_split_core => ?r7_split_core) (def_at (x := "split_core") (st := Law.s_split_core) (ps := ["word"]) KX G ?a7_split_core ?l7_split_core ?c7_split_core ?k7_split_core (fun _ _ _ _ _ _ us hl => match us, hl with | [_], _ => rfl))
    (case a7_split_core => k_is); (case l7_split_core => k_is); (case c7_split_core => k_is); (case k7_split_core => k_is)
    refine' (fun d_core_of => ?r7_core_of) (def_at (x := "core_of") (st := Law.s_core_of) (ps := ["word"]) KX G ?a7_core_of ?l7_core_of ?c7_core_of ?k7_core_of (fun _ _ _ _ _ _ us hl => match us, hl with | [_], _ => rfl))
    (case a7_core_of => k_is); (case l7_core_of => k_is); (case c7_core_of => k_is); (case k7_core_of => k_is)
    refine' (fun d_root_of => ?r7_root_of) (def_at (x := "root_of") (st := Law.s_root_of) (ps := ["word"]) KX G ?a7_root_of ?l7_root_of ?c7_root_of ?k7_root_of (fun _ _ _ _ _ _ us hl => match us, hl with | [_], _ => rfl))
    (case a7_root_of => k_is); (case l7_root_of => k_is); (case c7_root_of => k_is); (case k7_root_of => k_is)
    refine' (fun d_commute => ?r7_commute) (def_at (x := "commute") (st := Law.s_commute) (ps := ["one", "two"]) KX G ?a7_commute ?l7_commute ?c7_commute ?k7_commute (fun _ _ _ _ _ _ us hl => match us, hl with | [_, _], _ => rfl))
    (case a7_commute => k_is); (case l7_commute => k_is); (case c7_commute => k_is); (case k7_commute => k_is)
    refine' (fun d_law_cell => ?r7_law_cell) (def_at (x := "_law_cell") (st := Law.s_law_cell) (ps := ["script", "k"]) KX G ?a7_law_cell ?l7_law_cell ?c7_law_cell ?k7_law_cell (fun _ _ _ _ _ _ us hl => match us, hl with | [_, _], _ => rfl))
    (case a7_law_cell => k_is); (case l7_law_cell => k_is); (case c7_law_cell => k_is); (case k7_law_cell => k_is)
    refine' (fun d_law_big => ?r7_law_big) (def_at (x := "_law_big") (st := Law.s_law_big) (ps := ["script", "at", "count"]) KX G ?a7_law_big ?l7_law_big ?c7_law_big ?k7_law_big (fun _ _ _ _ _ _ us hl => match us, hl with | [_, _, _], _ => rfl))
    (case a7_law_big => k_is); (case l7_law_big => k_is); (case c7_law_big => k_is); (case k7_law_big => k_is)
    refine' (fun d_law_take => ?r7_law_take) (def_at (x := "_law_take") (st := Law.s_law_take) (ps := ["state", "m"]) KX G ?a7_law_take ?l7_law_take ?c7_law_take ?k7_law_take (fun _ _ _ _ _ _ us hl => match us, hl with | [_, _], _ => rfl))
    (case a7_law_take => k_is); (case l7_law_take => k_is); (case c7_law_take => k_is); (case k7_law_take => k_is)
    refine' (fun d_law_same => ?r7_law_same) (def_at (x := "_law_same") (st := Law.s_law_same) (ps := ["told", "due"]) KX G ?a7_law_same ?l7_law_same ?c7_law_same ?k7_law_same (fun _ _ _ _ _ _ us hl => match us, hl with | [_, _], _ => rfl))
    (case a7_law_same => k_is); (case l7_law_same => k_is); (case c7_law_same => k_is); (case k7_law_same => k_is)
    refine' (fun d_law_names => ?r7_law_names) (def_at (x := "_law_names") (st := Law.s_law_names) (ps := ["state", "count"]) KX G ?a7_law_names ?l7_law_names ?c7_law_names ?k7_law_names (fun _ _ _ _ _ _ us hl => match us, hl with | [_, _], _ => rfl))
    (case a7_law_names => k_is); (case l7_law_names => k_is); (case c7_law_names => k_is); (case k7_law_names => k_is)
    refine' (fun d_law_short => ?r7_law_short) (def_at (x := "_law_short") (st := Law.s_law_short) (ps := ["word"]) KX G ?a7_law_short ?l7_law_short ?c7_law_short ?k7_law_short (fun _ _ _ _ _ _ us hl => match us, hl with | [_], _ => rfl))
    (case a7_law_short => k_is); (case l7_law_short => k_is); (case c7_law_short => k_is); (case k7_law_short => k_is)
    refine' (fun d_law_opposite => ?r7_law_opposite) (def_at (x := "_law_opposite") (st := Law.s_law_opposite) (ps := ["word"]) KX G ?a7_law_opposite ?l7_law_opposite ?c7_law_opposite ?k7_law_opposite (fun _ _ _ _ _ _ us hl => match us, hl with | [_], _ => rfl))
    (case a7_law_opposite => k_is); (case l7_law_opposite => k_is); (case c7_law_opposite => k_is); (case k7_law_opposite => k_is)
    refine' (fun d_law_group_word => ?r7_law_group_word) (def_at (x := "_law_group_word") (st := Law.s_law_group_word) (ps := ["state", "names", "length"]) KX G ?a7_law_group_word ?l7_law_group_word ?c7_law_group_word ?k7_law_group_word (fun _ _ _ _ _ _ us hl => match us, hl with | [_, _, _], _ => rfl))
    (case a7_law_group_word => k_is); (case l7_law_group_word => k_is); (case c7_law_group_word => k_is); (case k7_law_group_word => k_is)
    refine' (fun d_law_core => ?r7_law_core) (def_at (x := "_law_core") (st := Law.s_law_core) (ps := ["state", "names"]) KX G ?a7_law_core ?l7_law_core ?c7_law_core ?k7_law_core (fun _ _ _ _ _ _ us hl => match us, hl with | [_, _], _ => rfl))
    (case a7_law_core => k_is); (case l7_law_core => k_is); (case c7_law_core => k_is); (case k7_law_core => k_is)
    refine' (fun d_law_around => ?r7_law_around) (def_at (x := "_law_around") (st := Law.s_law_around) (ps := ["state", "names", "core"]) KX G ?a7_law_around ?l7_law_around ?c7_law_around ?k7_law_around (fun _ _ _ _ _ _ us hl => match us, hl with | [_, _, _], _ => rfl))
    (case a7_law_around => k_is); (case l7_law_around => k_is); (case c7_law_around => k_is); (case k7_law_around => k_is)
    refine' (fun d_law => ?r7_law) (def_at (x := "law") (st := Law.s_law) (ps := ["script"]) KX G ?a7_law ?l7_law ?c7_law ?k7_law (fun _ _ _ _ _ _ us hl => match us, hl with | [_], _ => rfl))
    (case a7_law => k_is); (case l7_law => k_is); (case c7_law => k_is); (case k7_law => k_is)
    refine ⟨d_law, fun f fd F base _ _ => ?_⟩
    have c_is_letter_name := Law.cal_is_letter_name (P := PySem.Challenge.rw_unswapped_k18_roots_and_cores_that_are_k.prog) (w := w) (base := base) T d_is_letter_name 
    have c_is_sign := Law.cal_is_sign (P := PySem.Challenge.rw_unswapped_k18_roots_and_cores_that_are_k.prog) (w := w) (base := base) T d_is_sign 
    have c_is_pair := Law.cal_is_pair (P := PySem.Challenge.rw_unswapped_k18_roots_and_cores_that_are_k.prog) (w := w) (base := base) T d_is_pair c_is_letter_name c_is_sign
    have c_check_group_word := Law.cal_check_group_word (P := PySem.Challenge.rw_unswapped_k18_roots_and_cores_that_are_k.prog) (w := w) (base := base) T d_check_group_word c_is_pair
    have c_shortened := Law.cal_shortened (P := PySem.Challenge.rw_unswapped_k18_roots_and_cores_that_are_k.prog) (w := w) (base := base) T d_shortened 
    have c_reduced := Law.cal_reduced (P := PySem.Challenge.rw_unswapped_k18_roots_and_cores_that_are_k.prog) (w := w) (base := base) T d_reduced c_check_group_word c_shortened
    have c_opposite := Law.cal_opposite (P := PySem.Challenge.rw_unswapped_k18_roots_and_cores_that_are_k.prog) (w := w) (base := base) T d_opposite 
    have c_group_product := Law.cal_group_product (P := PySem.Challenge.rw_unswapped_k18_roots_and_cores_that_are_k.prog) (w := w) (base := base) T d_group_product c_check_group_word c_shortened
    have c_group_inverse := Law.cal_group_inverse (P := PySem.Challenge.rw_unswapped_k18_roots_and_cores_that_are_k.prog) (w := w) (base := base) T d_group_inverse c_reduced c_opposite
    have c_group_power := Law.cal_group_power (P := PySem.Challenge.rw_unswapped_k18_roots_and_cores_that_are_k.prog) (w := w) (base := base) T d_group_power c_shortened c_reduced c_group_inverse
    have c_split_core := Law.cal_split_core (P := PySem.Challenge.rw_unswapped_k18_roots_and_cores_that_are_k.prog) (w := w) (base := base) T d_split_core c_opposite
    have c_core_of := Law.cal_core_of (P := PySem.Challenge.rw_unswapped_k18_roots_and_cores_that_are_k.prog) (w := w) (base := base) T d_core_of c_reduced c_split_core
    have c_root_of := Law.cal_root_of (P := PySem.Challenge.rw_unswapped_k18_roots_and_cores_that_are_k.prog) (w := w) (base := base) T d_root_of c_reduced c_opposite c_group_product c_split_core
    have c_commute := Law.cal_commute (P := PySem.Challenge.rw_unswapped_k18_roots_and_cores_that_are_k.prog) (w := w) (base := base) T d_commute c_check_group_word c_group_product
    have c_law_cell := Law.cal_law_cell (P := PySem.Challenge.rw_unswapped_k18_roots_and_cores_that_are_k.prog) (w := w) (base := base) T d_law_cell 
    have c_law_big := Law.cal_law_big (P := PySem.Challenge.rw_unswapped_k18_roots_and_cores_that_are_k.prog) (w := w) (base := base) T d_law_big c_law_cell
    have c_law_take := Law.cal_law_take (P := PySem.Challenge.rw_unswapped_k18_roots_and_cores_that_are_k.prog) (w := w) (base := base) T d_law_take 
    have c_law_same := Law.cal_law_same (P := PySem.Challenge.rw_unswapped_k18_roots_and_cores_that_are_k.prog) (w := w) (base := base) T d_law_same 
    have c_law_names := Law.cal_law_names (P := PySem.Challenge.rw_unswapped_k18_roots_and_cores_that_are_k.prog) (w := w) (base := base) T d_law_names c_law_take
    have c_law_short := Law.cal_law_short (P := PySem.Challenge.rw_unswapped_k18_roots_and_cores_that_are_k.prog) (w := w) (base := base) T d_law_short 
    have c_law_opposite := Law.cal_law_opposite (P := PySem.Challenge.rw_unswapped_k18_roots_and_cores_that_are_k.prog) (w := w) (base := base) T d_law_opposite 
    have c_law_group_word := Law.cal_law_group_word (P := PySem.Challenge.rw_unswapped_k18_roots_and_cores_that_are_k.prog) (w := w) (base := base) T d_law_group_word c_law_take
    have c_law_core := Law.cal_law_core (P := PySem.Challenge.rw_unswapped_k18_roots_and_cores_that_are_k.prog) (w := w) (base := base) T d_law_core c_law_take c_law_short c_law_group_word
    have c_law_around := Law.cal_law_around (P := PySem.Challenge.rw_unswapped_k18_roots_and_cores_that_are_k.prog) (w := w) (base := base) T d_law_around c_law_take c_law_group_word
    exact Law.ok_law T c_group_inverse c_group_power c_core_of c_root_of c_commute c_law_big c_law_take c_law_same c_law_names c_law_short c_law_opposite c_law_group_word c_law_core c_law_around F
