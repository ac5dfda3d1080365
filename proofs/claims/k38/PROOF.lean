import PyProof.Rows.All
import Wide.All
import OpenK.AllK
import Wide.FinOn
import HandS.ForMost
import HandS.Wide
import HandS.IsInst
import HandS.TupAny
import KE.DataEq
import HandS.TupMul
import HandS.Text
import HandS.Rev
import HandS.Zip
import HandS.ExcIs
import HandS.ExcOwn
import HandS.WordsExc
import HandS.WideBits
import PySem.Challenge.RW_unswapped_k38_fractions_that_fold_togeth
/-! ## DL1 -/
set_option Elab.async false
set_option linter.all false
set_option maxRecDepth 100000
set_option maxHeartbeats 4000000
/-! DL: a layer of pure data over HandS. A value stands for a datum (PyData); footprints tell which objects it may reach; owned lists may be changed. -/
namespace DL
open PySem L2

abbrev D := PyData
abbrev Fp := Addr → Prop
def kD : Key → D
  | .inl i => .int i
  | .inr x => .str x

mutual
/-- the value stands for the datum; all that it reaches lies in S -/
inductive Rep (S : Fp) (H : Hp) : V → D → Prop where
  | non : Rep S H .non .none
  | bl (b : Bool) : Rep S H (.bl b) (.bool b)
  | int (i : Int) : Rep S H (.int i) (.int i)
  | str (x : Str) : Rep S H (.str x) (.str x)
  | lst {a : Addr} {vs : List V} {ds : List D} : S a → H a = some (.lst vs) → Reps S H vs ds → Rep S H (.ref a) (.list ds)
  | tup {a : Addr} {vs : List V} {ds : List D} : S a → H a = some (.tup vs) → Reps S H vs ds → Rep S H (.ref a) (.tuple ds)
  | dk {a : Addr} {vs : List (Key × V)} {ds : List (D × D)} : S a → H a = some (.dK vs) → RepK S H vs ds → Rep S H (.ref a) (.dict ds)
  | dt {a : Addr} {vs : List (List Key × V)} {ds : List (D × D)} : S a → H a = some (.dT vs) → RepT S H vs ds → Rep S H (.ref a) (.dict ds)
inductive Reps (S : Fp) (H : Hp) : List V → List D → Prop where
  | nil : Reps S H [] []
  | cons {v : V} {d : D} {vs : List V} {ds : List D} : Rep S H v d → Reps S H vs ds → Reps S H (v :: vs) (d :: ds)
inductive RepK (S : Fp) (H : Hp) : List (Key × V) → List (D × D) → Prop where
  | nil : RepK S H [] []
  | cons {k : Key} {v : V} {d : D} {vs : List (Key × V)} {ds : List (D × D)} : Rep S H v d → RepK S H vs ds → RepK S H ((k, v) :: vs) ((kD k, d) :: ds)
inductive RepT (S : Fp) (H : Hp) : List (List Key × V) → List (D × D) → Prop where
  | nil : RepT S H [] []
  | cons {k : List Key} {v : V} {d : D} {vs : List (List Key × V)} {ds : List (D × D)} : Rep S H v d → RepT S H vs ds → RepT S H ((k, v) :: vs) ((.tuple (k.map kD), d) :: ds)
end

section
variable {S S' : Fp} {H H' : Hp}
mutual
theorem Rep.mono (hS : ∀ a, S a → S' a) (hH : ∀ a o, S a → H a = some o → H' a = some o) : ∀ {v : V} {d : D}, Rep S H v d → Rep S' H' v d
  | _, _, .non => .non
  | _, _, .bl b => .bl b
  | _, _, .int i => .int i
  | _, _, .str x => .str x
  | _, _, .lst s h r => .lst (hS _ s) (hH _ _ s h) (Reps.mono hS hH r)
  | _, _, .tup s h r => .tup (hS _ s) (hH _ _ s h) (Reps.mono hS hH r)
  | _, _, .dk s h r => .dk (hS _ s) (hH _ _ s h) (RepK.mono hS hH r)
  | _, _, .dt s h r => .dt (hS _ s) (hH _ _ s h) (RepT.mono hS hH r)
theorem Reps.mono (hS : ∀ a, S a → S' a) (hH : ∀ a o, S a → H a = some o → H' a = some o) : ∀ {vs : List V} {ds : List D}, Reps S H vs ds → Reps S' H' vs ds
  | _, _, .nil => .nil
  | _, _, .cons r t => .cons (Rep.mono hS hH r) (Reps.mono hS hH t)
theorem RepK.mono (hS : ∀ a, S a → S' a) (hH : ∀ a o, S a → H a = some o → H' a = some o) : ∀ {vs : List (Key × V)} {ds : List (D × D)}, RepK S H vs ds → RepK S' H' vs ds
  | _, _, .nil => .nil
  | _, _, .cons r t => .cons (Rep.mono hS hH r) (RepK.mono hS hH t)
theorem RepT.mono (hS : ∀ a, S a → S' a) (hH : ∀ a o, S a → H a = some o → H' a = some o) : ∀ {vs : List (List Key × V)} {ds : List (D × D)}, RepT S H vs ds → RepT S' H' vs ds
  | _, _, .nil => .nil
  | _, _, .cons r t => .cons (Rep.mono hS hH r) (RepT.mono hS hH t)
end
theorem Reps.length : ∀ {vs : List V} {ds : List D}, Reps S H vs ds → vs.length = ds.length
  | _, _, .nil => rfl
  | _, _, .cons _ t => congrArg (· + 1) (Reps.length t)
theorem Reps.get : ∀ {vs : List V} {ds : List D} {i : Nat} {d : D}, Reps S H vs ds → ds[i]? = some d → ∃ v, vs[i]? = some v ∧ Rep S H v d
  | _, _, i, d, .nil, e => by simp at e
  | _, _, 0, d, .cons r _, e => by simp at e; subst e; exact ⟨_, rfl, r⟩
  | _, _, i + 1, d, .cons _ t, e => by
    obtain ⟨v, h1, h2⟩ := Reps.get (i := i) (d := d) t (by simpa using e)
    exact ⟨v, by simpa using h1, h2⟩
theorem Reps.get' : ∀ {vs : List V} {ds : List D} {i : Nat} {v : V}, Reps S H vs ds → vs[i]? = some v → ∃ d, ds[i]? = some d ∧ Rep S H v d
  | _, _, i, d, .nil, e => by simp at e
  | _, _, 0, d, .cons r _, e => by simp at e; subst e; exact ⟨_, rfl, r⟩
  | _, _, i + 1, d, .cons _ t, e => by
    obtain ⟨v, h1, h2⟩ := Reps.get' (i := i) (v := d) t (by simpa using e)
    exact ⟨v, by simpa using h1, h2⟩
theorem Reps.append : ∀ {vs us : List V} {ds es : List D}, Reps S H vs ds → Reps S H us es → Reps S H (vs ++ us) (ds ++ es)
  | _, _, _, _, .nil, s => s
  | _, _, _, _, .cons r t, s => .cons r (Reps.append t s)
theorem Reps.set {v : V} {d : D} (r : Rep S H v d) : ∀ {vs : List V} {ds : List D} (i : Nat), Reps S H vs ds → Reps S H (vs.set i v) (ds.set i d)
  | _, _, _, .nil => .nil
  | _, _, 0, .cons _ t => .cons r t
  | _, _, i + 1, .cons q t => .cons q (Reps.set r i t)
theorem Reps.take : ∀ {vs : List V} {ds : List D} (n : Nat), Reps S H vs ds → Reps S H (vs.take n) (ds.take n)
  | _, _, 0, _ => by rw [List.take_zero, List.take_zero]; exact .nil
  | _, _, _ + 1, .nil => .nil
  | _, _, n + 1, .cons r t => .cons r (Reps.take n t)
theorem Reps.drop : ∀ {vs : List V} {ds : List D} (n : Nat), Reps S H vs ds → Reps S H (vs.drop n) (ds.drop n)
  | _, _, 0, r => r
  | _, _, _ + 1, .nil => .nil
  | _, _, n + 1, .cons _ t => Reps.drop n t
theorem Reps.dropLast : ∀ {vs : List V} {ds : List D}, Reps S H vs ds → Reps S H vs.dropLast ds.dropLast
  | _, _, .nil => .nil
  | _, _, .cons _ .nil => .nil
  | _, _, .cons r (.cons q t) => .cons r (Reps.dropLast (.cons q t))
theorem Reps.rep {vs : List V} {ds : List D} (h : Reps S H vs ds) : ∀ k : Nat, Reps S H (List.replicate k vs).flatten (List.replicate k ds).flatten
  | 0 => .nil
  | k + 1 => by
    rw [List.replicate_succ, List.replicate_succ, List.flatten_cons, List.flatten_cons]
    exact h.append (Reps.rep h k)
theorem Reps.reverse {vs : List V} {ds : List D} (h : Reps S H vs ds) : Reps S H vs.reverse ds.reverse := by
  induction vs generalizing ds with
  | nil => cases h; exact .nil
  | cons v vs ih =>
    cases h with
    | cons r t => rw [List.reverse_cons, List.reverse_cons]; exact (ih t).append (.cons r .nil)
theorem Reps.none {vs : List V} {ds : List D} {i : Nat} (h : Reps S H vs ds) (e : ds[i]? = Option.none) : vs[i]? = Option.none := by
  have := h.length
  rw [List.getElem?_eq_none_iff] at e ⊢
  omega
theorem Reps.atI {vs : List V} {ds : List D} {i : Int} {d : D} (h : Reps S H vs ds) (e : atI ds i = some d) : ∃ v, L2.atI vs i = some v ∧ Rep S H v d := by
  have hl := h.length
  unfold L2.atI at e ⊢
  rw [hl]
  cases q : ixN ds.length i with
  | none => rw [q] at e; cases e
  | some j =>
    rw [q] at e
    exact h.get e
end

/-! ### the world -/
structure Wd (Z S : Fp) (H : Hp) : Prop where
  sd : ∀ a, S a → H a ≠ none
  zs : ∀ a, Z a → ¬ S a
  zd : ∀ a, Z a → ∃ s : Int, 0 ≤ s ∧ H a = some (.lst [.int s])
/-- the world grows: all but the states stands, S grows by new objects -/
structure Wx (Z S : Fp) (H : Hp) (S' : Fp) (H' : Hp) : Prop where
  keep : ∀ a o, ¬ Z a → H a = some o → H' a = some o
  sub : ∀ a, S a → S' a
  new : ∀ a, S' a → S a ∨ H a = none
  wd : Wd Z S' H'
/-- the same, where owned objects may have been changed -/
structure Ws (S : Fp) (H : Hp) (S' : Fp) (H' : Hp) : Prop where
  keep : ∀ a o, S a → H a = some o → H' a = some o
  sub : ∀ a, S a → S' a
section
variable {Z S S1 S2 S' : Fp} {H H1 H2 H' : Hp}
theorem Wx.refl (w : Wd Z S H) : Wx Z S H S H := ⟨fun _ _ _ h => h, fun _ h => h, fun _ h => .inl h, w⟩
theorem Wx.notZ (x : Wx Z S H S' H') {a : Addr} (h : S a) : ¬ Z a := fun z => x.wd.zs a z (x.sub a h)
theorem Wx.trans (x : Wx Z S H S1 H1) (y : Wx Z S1 H1 S2 H2) : Wx Z S H S2 H2 := by
  refine ⟨fun a o z h => y.keep a o z (x.keep a o z h), fun a h => y.sub a (x.sub a h), fun a h => ?_, y.wd⟩
  have nz : ¬ Z a := fun z => y.wd.zs a z h
  rcases y.new a h with h1 | h1
  · exact x.new a h1
  · cases q : H a with
    | none => exact .inr rfl
    | some o => rw [x.keep a o nz q] at h1; cases h1
theorem Wx.fresh (x : Wx Z S H S' H') {a : Addr} (nz : ¬ Z a) (h : H' a = none) : H a = none := by
  cases q : H a with
  | none => rfl
  | some o => rw [x.keep a o nz q] at h; cases h
theorem Wx.ws (x : Wx Z S H S' H') : Ws S H S' H' := ⟨fun a o s h => x.keep a o (x.notZ s) h, x.sub⟩
theorem Ws.refl : Ws S H S H := ⟨fun _ _ _ h => h, fun _ h => h⟩
theorem Ws.trans (x : Ws S H S1 H1) (y : Ws S1 H1 S2 H2) : Ws S H S2 H2 := ⟨fun a o s h => y.keep a o (x.sub a s) (x.keep a o s h), fun a h => y.sub a (x.sub a h)⟩
theorem Rep.wx {v : V} {d : D} (r : Rep S H v d) (x : Wx Z S H S' H') : Rep S' H' v d := r.mono x.sub fun a o s h => x.keep a o (x.notZ s) h
theorem Reps.wx {v : List V} {d : List D} (r : Reps S H v d) (x : Wx Z S H S' H') : Reps S' H' v d := r.mono x.sub fun a o s h => x.keep a o (x.notZ s) h
theorem Rep.ws {v : V} {d : D} (r : Rep S H v d) (x : Ws S H S' H') : Rep S' H' v d := r.mono x.sub x.keep
theorem Reps.ws {v : List V} {d : List D} (r : Reps S H v d) (x : Ws S H S' H') : Reps S' H' v d := r.mono x.sub x.keep
/-- a new object, in S or owned -/
theorem Wd.nz (w : Wd Z S H) {p : Addr} (h : H p = none) : ¬ Z p := fun z => by
  obtain ⟨s, _, e⟩ := w.zd p z
  rw [h] at e; cases e
theorem Wd.ns (w : Wd Z S H) {p : Addr} (h : H p = none) : ¬ S p := fun z => w.sd p z h
theorem Wx.lay (w : Wd Z S H) {p : Addr} {o : HO} (h : H p = none) : Wx Z S H S (upd H p o) := by
  refine ⟨fun a u _ q => by rw [upd_ne (ne_of_none q h)]; exact q, fun _ h => h, fun _ h => .inl h, ⟨fun a s => ?_, w.zs, fun a z => ?_⟩⟩
  · rw [upd_ne (show a ≠ p by rintro rfl; exact w.ns h s)]
    exact w.sd a s
  · rw [upd_ne (show a ≠ p by rintro rfl; exact w.nz h z)]
    exact w.zd a z
theorem Wx.layS (w : Wd Z S H) {p : Addr} {o : HO} (h : H p = none) : Wx Z S H (fun a => S a ∨ a = p) (upd H p o) := by
  refine ⟨fun a u _ q => by rw [upd_ne (ne_of_none q h)]; exact q, fun _ h => .inl h, fun a hs => ?_, ⟨fun a s => ?_, fun a z s => ?_, fun a z => ?_⟩⟩
  · rcases hs with s | rfl
    · exact .inl s
    · exact .inr h
  · rcases s with s | rfl
    · rw [upd_ne (show a ≠ p by rintro rfl; exact w.ns h s)]
      exact w.sd a s
    · rw [upd_same]; simp
  · rcases s with s | rfl
    · exact w.zs a z s
    · exact w.nz h z
  · rw [upd_ne (show a ≠ p by rintro rfl; exact w.nz h z)]
    exact w.zd a z
end

/-! ### slots -/
inductive SV where
  | v (d : D) | own (xs : List D) | ownD (ks : List (D × D)) | st | scr (ns : List Int) | any
def SV.isOwn : SV → Prop
  | .own _ => True
  | .ownD _ => True
  | _ => False
/-- a list that is read, known to the object -/
def SqF (K : PySem.W.Frag) (H : Hp) (p : Addr) (xs : List V) : Prop := ∀ H2 : Hp, (∀ o u, H p = some (.frz o u) → H2 p = some (.frz o u)) → SqL K H2 p xs
def RepSV (K : PySem.W.Frag) (Z O S : Fp) (H : Hp) (v : V) : SV → Prop
  | .v d => Rep S H v d
  | .own ds => ∃ p vs, v = .ref p ∧ O p ∧ H p = some (.lst vs) ∧ Reps S H vs ds ∧ ¬ S p ∧ ¬ Z p
  | .ownD ds => ∃ p, v = .ref p ∧ O p ∧ ((∃ vs, H p = some (.dK vs) ∧ RepK S H vs ds) ∨ (∃ vs, H p = some (.dT vs) ∧ RepT S H vs ds)) ∧ ¬ S p ∧ ¬ Z p
  | .st => ∃ p, v = .ref p ∧ Z p
  | .scr ns => ∃ p, v = .ref p ∧ SqF K H p (ns.map V.int)
  | .any => True
abbrev Env := List (Option SV)
structure RepEnv (K : PySem.W.Frag) (Z O S : Fp) (H : Hp) (σ : St) (env : Env) : Prop where
  len : σ.length = env.length
  get : ∀ (i : Nat) (sv : SV), env[i]? = some (some sv) → ∃ v, σ[i]? = some (some v) ∧ RepSV K Z O S H v sv
  dis : ∀ (i j : Nat) (a : Addr) (x y : SV), i ≠ j → env[i]? = some (some x) → env[j]? = some (some y) → x.isOwn → y.isOwn → σ[i]? = some (some (.ref a)) → σ[j]? = some (some (.ref a)) → False

section
variable {K : PySem.W.Frag} {Z O O' S S' : Fp} {H H' : Hp} {σ : St} {env : Env} {v : V} {sv : SV}
theorem RepSV.wx (r : RepSV K Z O S H v sv) (w : Wd Z S H) (x : Wx Z S H S' H') : RepSV K Z O S' H' v sv := by
  have ns : ∀ p o, H p = some o → ¬ S p → ¬ Z p → ¬ S' p := fun p o h s z h' => by
    rcases x.new p h' with q | q
    · exact s q
    · rw [h] at q; cases q
  cases sv with
  | v d => exact Rep.wx r x
  | own ds =>
    obtain ⟨p, vs, rfl, o, h, rr, s, z⟩ := r
    exact ⟨p, vs, rfl, o, x.keep _ _ z h, rr.wx x, ns p _ h s z, z⟩
  | ownD ds =>
    obtain ⟨p, rfl, o, h, s, z⟩ := r
    rcases h with ⟨vs, h, rr⟩ | ⟨vs, h, rr⟩
    · exact ⟨p, rfl, o, .inl ⟨vs, x.keep _ _ z h, rr.mono x.sub fun a o s h => x.keep a o (x.notZ s) h⟩, ns p _ h s z, z⟩
    · exact ⟨p, rfl, o, .inr ⟨vs, x.keep _ _ z h, rr.mono x.sub fun a o s h => x.keep a o (x.notZ s) h⟩, ns p _ h s z, z⟩
  | st => exact r
  | scr ns =>
    obtain ⟨p, rfl, q⟩ := r
    refine ⟨p, rfl, fun H2 h2 => q H2 fun o u e => h2 o u (x.keep p _ (fun z => ?_) e)⟩
    obtain ⟨s, _, e'⟩ := w.zd p z
    rw [e] at e'; cases e'
  | any => trivial
theorem RepSV.mono (r : RepSV K Z O S H v sv) (h : ∀ a, ¬ Z a → O a → O' a) : RepSV K Z O' S H v sv := by
  cases sv with
  | own ds => obtain ⟨p, vs, e, o, q, rr, s, z⟩ := r; exact ⟨p, vs, e, h p z o, q, rr, s, z⟩
  | ownD ds => obtain ⟨p, e, o, q, s, z⟩ := r; exact ⟨p, e, h p z o, q, s, z⟩
  | v d => exact r
  | st => exact r
  | scr ns => exact r
  | any => trivial
theorem RepEnv.wx (r : RepEnv K Z O S H σ env) (w : Wd Z S H) (x : Wx Z S H S' H') : RepEnv K Z O S' H' σ env :=
  ⟨r.len, fun i sv e => let ⟨v, h1, h2⟩ := r.get i sv e; ⟨v, h1, h2.wx w x⟩, r.dis⟩
theorem RepEnv.mono (r : RepEnv K Z O S H σ env) (h : ∀ a, ¬ Z a → O a → O' a) : RepEnv K Z O' S H σ env :=
  ⟨r.len, fun i sv e => let ⟨v, h1, h2⟩ := r.get i sv e; ⟨v, h1, h2.mono h⟩, r.dis⟩
/-- an owned value stands for its datum, in a greater S -/
theorem RepSV.owns (r : RepSV K Z O S H v sv) (h : sv.isOwn) : ∃ p o, v = .ref p ∧ O p ∧ H p = some o ∧ ¬ S p ∧ ¬ Z p := by
  cases sv with
  | own ds => obtain ⟨p, vs, e, o, q, rr, s, z⟩ := r; exact ⟨p, _, e, o, q, s, z⟩
  | ownD ds =>
    obtain ⟨p, e, o, q, s, z⟩ := r
    rcases q with ⟨vs, q, _⟩ | ⟨vs, q, _⟩
    · exact ⟨p, _, e, o, q, s, z⟩
    · exact ⟨p, _, e, o, q, s, z⟩
  | v d => exact h.elim
  | st => exact h.elim
  | scr ns => exact h.elim
  | any => exact h.elim
/-- a slot is set -/
theorem RepEnv.set (r : RepEnv K Z O S H σ env) (i : Nat) (h : RepSV K Z O S H v sv)
    (hd : sv.isOwn → ∀ (j : Nat) (y : SV) (a : Addr), i ≠ j → env[j]? = some (some y) → y.isOwn → σ[j]? = some (some (.ref a)) → v = .ref a → False) : RepEnv K Z O S H (σ.set i (some v)) (env.set i (some sv)) := by
  have hl := r.len
  refine ⟨by simp [hl], fun j y e => ?_, fun j k a x y hjk e1 e2 o1 o2 s1 s2 => ?_⟩
  · by_cases hij : i = j
    · subst hij
      by_cases hi : i < env.length
      · rw [List.getElem?_set_self hi] at e
        cases e
        exact ⟨v, by rw [List.getElem?_set_self (by omega)], h⟩
      · rw [List.getElem?_eq_none_iff.mpr (by simpa using Nat.le_of_not_lt hi)] at e; cases e
    · rw [List.getElem?_set_ne hij] at e ⊢
      exact r.get j y e
  · by_cases h1 : i = j
    · subst h1
      by_cases hi : i < env.length
      · rw [List.getElem?_set_self hi] at e1
        rw [List.getElem?_set_self (by omega)] at s1
        rw [List.getElem?_set_ne hjk] at e2 s2
        cases e1
        injection s1 with s1; injection s1 with s1
        exact hd o1 k y a hjk e2 o2 s2 s1
      · rw [List.getElem?_eq_none_iff.mpr (by simpa using Nat.le_of_not_lt hi)] at e1; cases e1
    · by_cases h2 : i = k
      · subst h2
        by_cases hi : i < env.length
        · rw [List.getElem?_set_self hi] at e2
          rw [List.getElem?_set_self (by omega)] at s2
          rw [List.getElem?_set_ne h1] at e1 s1
          cases e2
          injection s2 with s2; injection s2 with s2
          exact hd o2 j x a (Ne.symm hjk) e1 o1 s1 s2
        · rw [List.getElem?_eq_none_iff.mpr (by simpa using Nat.le_of_not_lt hi)] at e2; cases e2
      · rw [List.getElem?_set_ne h1] at e1 s1
        rw [List.getElem?_set_ne h2] at e2 s2
        exact r.dis j k a x y hjk e1 e2 o1 o2 s1 s2
/-- what is new is no other's own -/
theorem RepEnv.apart (r : RepEnv K Z O S H σ env) {a : Addr} (hn : H a = none) (j : Nat) (y : SV) (e : env[j]? = some (some y)) (o : y.isOwn) (s : σ[j]? = some (some (.ref a))) : False := by
  obtain ⟨v, h1, h2⟩ := r.get j y e
  obtain ⟨p, ob, rfl, _, hp, _⟩ := h2.owns o
  rw [s] at h1
  injection h1 with h1; injection h1 with h1; injection h1 with h1
  subst h1
  rw [hn] at hp; cases hp
/-- a slot is forgotten -/
theorem RepEnv.drop (r : RepEnv K Z O S H σ env) (i : Nat) (x : Option V) : RepEnv K Z O S H (σ.set i x) (env.set i none) := by
  have hl := r.len
  have out : ∀ j (y : SV), (env.set i none)[j]? = some (some y) → i ≠ j ∧ env[j]? = some (some y) := fun j y e => by
    by_cases hij : i = j
    · subst hij
      by_cases hi : i < env.length
      · rw [List.getElem?_set_self hi] at e; cases e
      · rw [List.getElem?_eq_none_iff.mpr (by simpa using Nat.le_of_not_lt hi)] at e; cases e
    · rw [List.getElem?_set_ne hij] at e
      exact ⟨hij, e⟩
  refine ⟨by simp [hl], fun j y e => ?_, fun j k a x y hjk e1 e2 o1 o2 s1 s2 => ?_⟩
  · obtain ⟨hij, e⟩ := out j y e
    rw [List.getElem?_set_ne hij]
    exact r.get j y e
  · obtain ⟨h1, e1⟩ := out j x e1
    obtain ⟨h2, e2⟩ := out k y e2
    rw [List.getElem?_set_ne h1] at s1
    rw [List.getElem?_set_ne h2] at s2
    exact r.dis j k a x y hjk e1 e2 o1 o2 s1 s2
end
end DL
/-! ## DL2 -/
set_option Elab.async false
set_option linter.all false
set_option maxRecDepth 100000
set_option maxHeartbeats 4000000
/-! DL2: judgements of pure expressions. -/
namespace DL
open PySem L2

abbrev PTE := Env → (D → Prop) → Prop
abbrev PTF := Env → (SV → Prop) → Prop
abbrev PTT := Env → (Bool → Prop) → Prop
abbrev PTL := Env → (List D → Prop) → Prop
abbrev PTA := Env → (List SV → Prop) → Prop

/-- a value that is read: it stands for a datum, or is an owned list or dict itself -/
def RepB (Z S : Fp) (H : Hp) (v : V) (d : D) : Prop := Rep S H v d ∨
  (∃ p vs ds, v = .ref p ∧ d = .list ds ∧ H p = some (.lst vs) ∧ Reps S H vs ds ∧ ¬ Z p) ∨
  (∃ p ds, v = .ref p ∧ d = .dict ds ∧ ((∃ vs, H p = some (.dK vs) ∧ RepK S H vs ds) ∨ (∃ vs, H p = some (.dT vs) ∧ RepT S H vs ds)) ∧ ¬ Z p)
inductive RepBs (Z S : Fp) (H : Hp) : List V → List D → Prop where
  | nil : RepBs Z S H [] []
  | cons {v : V} {d : D} {vs : List V} {ds : List D} : RepB Z S H v d → RepBs Z S H vs ds → RepBs Z S H (v :: vs) (d :: ds)
inductive RepSVs (K : PySem.W.Frag) (Z S : Fp) (H : Hp) : List V → List SV → Prop where
  | nil : RepSVs K Z S H [] []
  | cons {v : V} {d : SV} {vs : List V} {ds : List SV} : RepSV K Z (fun _ => False) S H v d → RepSVs K Z S H vs ds → RepSVs K Z S H (v :: vs) (d :: ds)
section
variable {K : PySem.W.Frag} {Z S S' : Fp} {H H' : Hp} {v : V} {d : D}
theorem RepB.wx (r : RepB Z S H v d) (x : Wx Z S H S' H') : RepB Z S' H' v d := by
  rcases r with r | ⟨p, vs, ds, e1, e2, h, r, z⟩ | ⟨p, ds, e1, e2, h, z⟩
  · exact .inl (r.wx x)
  · exact .inr (.inl ⟨p, vs, ds, e1, e2, x.keep _ _ z h, r.wx x, z⟩)
  · rcases h with ⟨vs, h, rr⟩ | ⟨vs, h, rr⟩
    · exact .inr (.inr ⟨p, ds, e1, e2, .inl ⟨vs, x.keep _ _ z h, rr.mono x.sub fun a o s h => x.keep a o (x.notZ s) h⟩, z⟩)
    · exact .inr (.inr ⟨p, ds, e1, e2, .inr ⟨vs, x.keep _ _ z h, rr.mono x.sub fun a o s h => x.keep a o (x.notZ s) h⟩, z⟩)
theorem RepBs.wx (x : Wx Z S H S' H') : ∀ {vs : List V} {ds : List D}, RepBs Z S H vs ds → RepBs Z S' H' vs ds
  | _, _, .nil => .nil
  | _, _, .cons r t => .cons (r.wx x) (RepBs.wx x t)
theorem RepSVs.wx (w : Wd Z S H) (x : Wx Z S H S' H') : ∀ {vs : List V} {ds : List SV}, RepSVs K Z S H vs ds → RepSVs K Z S' H' vs ds
  | _, _, .nil => .nil
  | _, _, .cons r t => .cons (r.wx w x) (RepSVs.wx w x t)
theorem RepSVs.length : ∀ {vs : List V} {ds : List SV}, RepSVs K Z S H vs ds → vs.length = ds.length
  | _, _, .nil => rfl
  | _, _, .cons _ t => congrArg (· + 1) (RepSVs.length t)
theorem RepSVs.get : ∀ {vs : List V} {ds : List SV} {i : Nat} {d : SV}, RepSVs K Z S H vs ds → ds[i]? = some d → ∃ v, vs[i]? = some v ∧ RepSV K Z (fun _ => False) S H v d
  | _, _, i, d, .nil, e => by simp at e
  | _, _, 0, d, .cons r _, e => by simp at e; subst e; exact ⟨_, rfl, r⟩
  | _, _, i + 1, d, .cons _ t, e => by
    obtain ⟨v, h1, h2⟩ := RepSVs.get (i := i) (d := d) t (by simpa using e)
    exact ⟨v, by simpa using h1, h2⟩
theorem RepB.int {i : Int} (r : RepB Z S H v (.int i)) : v = .int i := by
  rcases r with r | ⟨_, _, _, _, e, _⟩ | ⟨_, _, _, e, _⟩
  · cases r; rfl
  · cases e
  · cases e
theorem RepB.bool {i : Bool} (r : RepB Z S H v (.bool i)) : v = .bl i := by
  rcases r with r | ⟨_, _, _, _, e, _⟩ | ⟨_, _, _, e, _⟩
  · cases r; rfl
  · cases e
  · cases e
theorem RepB.str {i : Str} (r : RepB Z S H v (.str i)) : v = .str i := by
  rcases r with r | ⟨_, _, _, _, e, _⟩ | ⟨_, _, _, e, _⟩
  · cases r; rfl
  · cases e
  · cases e
theorem RepB.none (r : RepB Z S H v .none) : v = .non := by
  rcases r with r | ⟨_, _, _, _, e, _⟩ | ⟨_, _, _, e, _⟩
  · cases r; rfl
  · cases e
  · cases e
theorem RepB.list {ds : List D} (r : RepB Z S H v (.list ds)) : ∃ p vs, v = .ref p ∧ H p = some (.lst vs) ∧ Reps S H vs ds := by
  rcases r with r | ⟨p, vs, ds', e1, e, h, r, _⟩ | ⟨_, _, _, e, _⟩
  · cases r with
    | lst s h r => exact ⟨_, _, rfl, h, r⟩
  · cases e; exact ⟨p, vs, e1, h, r⟩
  · cases e
theorem RepB.tuple {ds : List D} (r : RepB Z S H v (.tuple ds)) : ∃ p vs, v = .ref p ∧ S p ∧ H p = some (.tup vs) ∧ Reps S H vs ds := by
  rcases r with r | ⟨p, vs, ds', e1, e, h, r, _⟩ | ⟨_, _, _, e, _⟩
  · cases r with
    | tup s h r => exact ⟨_, _, rfl, s, h, r⟩
  · cases e
  · cases e
theorem RepB.dict {ds : List (D × D)} (r : RepB Z S H v (.dict ds)) : ∃ p, v = .ref p ∧ ((∃ vs, H p = some (.dK vs) ∧ RepK S H vs ds) ∨ (∃ vs, H p = some (.dT vs) ∧ RepT S H vs ds)) := by
  rcases r with r | ⟨p, vs, ds', e1, e, h, r, _⟩ | ⟨p, ds', e1, e, h, _⟩
  · cases r with
    | dk s h r => exact ⟨_, rfl, .inl ⟨_, h, r⟩⟩
    | dt s h r => exact ⟨_, rfl, .inr ⟨_, h, r⟩⟩
  · cases e
  · cases e; exact ⟨p, e1, h⟩
/-! to the kit's own data -/
mutual
theorem Rep.dp : ∀ {v : V} {d : D}, Rep S H v d → d.plain = true → Dp K H v d
  | _, _, .non, _ => .non
  | _, _, .bl b, _ => .bl b
  | _, _, .int i, _ => .int i
  | _, _, .str x, _ => .str x
  | _, _, .lst s h r, p => .lst (SqL.of h) (Reps.dp r (by simpa only [PyData.plain] using p))
  | _, _, .tup s h r, p => .tup (SqT.of h) (Reps.dp r (by simpa only [PyData.plain] using p))
  | _, _, .dk s h r, p => by simp [PyData.plain] at p
  | _, _, .dt s h r, p => by simp [PyData.plain] at p
theorem Reps.dp : ∀ {vs : List V} {ds : List D}, Reps S H vs ds → PyData.plainAll ds = true → DpAll K H vs ds
  | _, _, .nil, _ => .nil
  | _, _, .cons (d := d) (ds := ds) r t, p => by
    have p' : d.plain = true ∧ PyData.plainAll ds = true := by simpa [PyData.plainAll] using p
    exact .cons (Rep.dp r p'.1) (Reps.dp t p'.2)
end
theorem RepB.dp (r : RepB Z S H v d) (p : d.plain = true) : Dp K H v d := by
  rcases r with r | ⟨q, vs, ds, rfl, rfl, h, r, _⟩ | ⟨_, _, _, rfl, _⟩
  · exact r.dp p
  · exact .lst (SqL.of h) (r.dp (by simpa only [PyData.plain] using p))
  · simp [PyData.plain] at p
end

/-! ### readings of pure terms -/
section
variable (K : PySem.W.Frag)
def PureE (t : TE) (f : PTE) : Prop := ∀ (Z O S : Fp) (σ : St) (H : Hp) (env : Env) (Qd : D → Prop) (Q : VK), Wd Z S H → RepEnv K Z O S H σ env → f env Qd →
  (∀ v d S' H', Wx Z S H S' H' → Rep S' H' v d → Qd d → Q v H') → t σ H Q
def PureB (t : TE) (f : PTE) : Prop := ∀ (Z O S : Fp) (σ : St) (H : Hp) (env : Env) (Qd : D → Prop) (Q : VK), Wd Z S H → RepEnv K Z O S H σ env → f env Qd →
  (∀ v d S' H', Wx Z S H S' H' → RepB Z S' H' v d → Qd d → Q v H') → t σ H Q
def PureF (t : TE) (f : PTF) : Prop := ∀ (Z O S : Fp) (σ : St) (H : Hp) (env : Env) (Qd : SV → Prop) (Q : VK), Wd Z S H → RepEnv K Z O S H σ env → f env Qd →
  (∀ v sv S' H', Wx Z S H S' H' → RepSV K Z (fun a => H a = none) S' H' v sv → Qd sv → Q v H') → t σ H Q
def PureT (t : TT) (f : PTT) : Prop := ∀ (Z O S : Fp) (σ : St) (H : Hp) (env : Env) (Qd : Bool → Prop) (Q : Bool → Hp → Prop), Wd Z S H → RepEnv K Z O S H σ env → f env Qd →
  (∀ b S' H', Wx Z S H S' H' → Qd b → Q b H') → t σ H Q
def PureEs (t : TA) (f : PTL) : Prop := ∀ (Z O S : Fp) (σ : St) (H : Hp) (env : Env) (Qd : List D → Prop) (Q : List V → Hp → Prop), Wd Z S H → RepEnv K Z O S H σ env → f env Qd →
  (∀ v d S' H', Wx Z S H S' H' → Reps S' H' v d → Qd d → Q v H') → t σ H Q
def PureBs (t : TA) (f : PTL) : Prop := ∀ (Z O S : Fp) (σ : St) (H : Hp) (env : Env) (Qd : List D → Prop) (Q : List V → Hp → Prop), Wd Z S H → RepEnv K Z O S H σ env → f env Qd →
  (∀ v d S' H', Wx Z S H S' H' → RepBs Z S' H' v d → Qd d → Q v H') → t σ H Q
def PureA (t : TA) (f : PTA) : Prop := ∀ (Z O S : Fp) (σ : St) (H : Hp) (env : Env) (Qd : List SV → Prop) (Q : List V → Hp → Prop), Wd Z S H → RepEnv K Z O S H σ env → f env Qd →
  (∀ v d S' H', Wx Z S H S' H' → RepSVs K Z S' H' v d → Qd d → Q v H') → t σ H Q
end
structure DE (X : Cx) (e : Expr) (t : TE) (f : PTE) : Prop where
  pe : PE X e t
  pu : PureE X.K t f
structure DB (X : Cx) (e : Expr) (t : TE) (f : PTE) : Prop where
  pe : PE X e t
  pu : PureB X.K t f
structure DF (X : Cx) (e : Expr) (t : TE) (f : PTF) : Prop where
  pe : PE X e t
  pu : PureF X.K t f
structure DT (X : Cx) (e : Expr) (t : TT) (f : PTT) : Prop where
  pe : PT X e t
  pu : PureT X.K t f
structure DW (X : Cx) (e : Expr) (t : TT) (f : PTT) : Prop where
  pe : PW X e t
  pu : PureT X.K t f
structure DEs (X : Cx) (es : List Expr) (t : TA) (f : PTL) : Prop where
  pe : PA X es t
  pu : PureEs X.K t f
structure DBs (X : Cx) (es : List Expr) (t : TA) (f : PTL) : Prop where
  pe : PA X es t
  pu : PureBs X.K t f
structure DA (X : Cx) (es : List Expr) (t : TA) (f : PTA) : Prop where
  pe : PA X es t
  pu : PureA X.K t f

/-! ### from one judgement to another -/
/-- an owned value is handed on as a datum -/
def pFz (f : PTF) : PTE := fun env Q => f env fun sv => match sv with
  | .v d => Q d
  | .own ds => Q (.list ds)
  | .ownD ks => Q (.dict ks)
  | _ => False
def pV (f : PTE) : PTF := fun env Q => f env fun d => Q (.v d)
section
variable {X : Cx} {e : Expr} {es : List Expr} {f : PTE} {g : PTF}
theorem DE.db {t : TE} (h : DE X e t f) : DB X e t f := by
  have h1 := h.pe
  have h2 := h.pu
  exact ⟨h1, fun Z O S σ H env Qd Q w r hf k => h2 Z O S σ H env Qd Q w r hf fun v d S' H' x rr q => k v d S' H' x (.inl rr) q⟩
theorem DE.df {t : TE} (h : DE X e t f) : DF X e t (pV f) := by
  have h1 := h.pe
  have h2 := h.pu
  exact ⟨h1, fun Z O S σ H env Qd Q w r hf k => h2 Z O S σ H env _ Q w r hf fun v d S' H' x rr q => k v (.v d) S' H' x rr q⟩
/-- a new object is let into S -/
theorem Wx.letIn {Z S S' : Fp} {H H' : Hp} (x : Wx Z S H S' H') {p : Addr} {o : HO} (h : H p = none) (nz : ¬ Z p) (h' : H' p = some o) : Wx Z S H (fun a => S' a ∨ a = p) H' := by
  refine ⟨x.keep, fun a s => .inl (x.sub a s), fun a s => ?_, fun a s => ?_, fun a z s => ?_, x.wd.zd⟩
  · rcases s with s | rfl
    · exact x.new a s
    · exact .inr h
  · rcases s with s | rfl
    · exact x.wd.sd a s
    · rw [h']; simp
  · rcases s with s | rfl
    · exact x.wd.zs a z s
    · exact nz z
theorem DF.de {t : TE} (h : DF X e t g) : DE X e t (pFz g) := by
  have h1 := h.pe
  have h2 := h.pu
  refine ⟨h1, fun Z O S σ H env Qd Q w r hf k => h2 Z O S σ H env _ Q w r hf fun v sv S' H' x rr q => ?_⟩
  cases sv with
  | v d => exact k v d S' H' x rr q
  | own ds =>
    obtain ⟨p, vs, rfl, hn, hp, rs, ns, nz⟩ := rr
    refine k _ _ _ H' (x.letIn hn nz hp) (.lst (.inr rfl) hp (rs.mono (fun a s => .inl s) fun _ _ _ h => h)) q
  | ownD ds =>
    obtain ⟨p, rfl, hn, hp, ns, nz⟩ := rr
    rcases hp with ⟨vs, hp, rs⟩ | ⟨vs, hp, rs⟩
    · exact k _ _ _ H' (x.letIn hn nz hp) (.dk (.inr rfl) hp (rs.mono (fun a s => .inl s) fun _ _ _ h => h)) q
    · exact k _ _ _ H' (x.letIn hn nz hp) (.dt (.inr rfl) hp (rs.mono (fun a s => .inl s) fun _ _ _ h => h)) q
  | st => exact q.elim
  | scr ns => exact q.elim
  | any => exact q.elim
theorem DF.db {t : TE} (h : DF X e t g) : DB X e t (pFz g) := h.de.db
end

/-! ### slots -/
def slot : Env → Nat → Option SV
  | [], _ => none
  | x :: _, 0 => x
  | _ :: r, n + 1 => slot r n
theorem slot_get : ∀ (env : Env) (i : Nat) (sv : SV), slot env i = some sv → env[i]? = some (some sv)
  | [], _, _, h => by cases h
  | x :: _, 0, _, h => by
    have h' : x = some _ := h
    subst h'; rfl
  | _ :: r, n + 1, sv, h => by
    rw [List.getElem?_cons_succ]
    exact slot_get r n sv h
def pVar (i : Nat) : PTE := fun env Q => match slot env i with
  | some (.v d) => Q d
  | _ => False
def pVarB (i : Nat) : PTE := fun env Q => match slot env i with
  | some (.v d) => Q d
  | some (.own ds) => Q (.list ds)
  | some (.ownD ds) => Q (.dict ds)
  | _ => False
def pC (d : D) : PTE := fun _ Q => Q d
section
variable {X : Cx}
theorem PureE.var {K : PySem.W.Frag} (i : Nat) : PureE K (tVar i) (pVar i) := by
  intro Z O S σ H env Qd Q w r hf k
  unfold pVar at hf
  cases q : slot env i with
  | none => rw [q] at hf; exact hf.elim
  | some sv =>
    rw [q] at hf
    obtain ⟨v, h1, h2⟩ := r.get i sv (slot_get env i sv q)
    cases sv with
    | v d => exact ⟨v, h1, k v d S H (.refl w) h2 hf⟩
    | _ => exact hf.elim
theorem PureB.var {K : PySem.W.Frag} (i : Nat) : PureB K (tVar i) (pVarB i) := by
  intro Z O S σ H env Qd Q w r hf k
  unfold pVarB at hf
  cases q : slot env i with
  | none => rw [q] at hf; exact hf.elim
  | some sv =>
    rw [q] at hf
    obtain ⟨v, h1, h2⟩ := r.get i sv (slot_get env i sv q)
    cases sv with
    | v d => exact ⟨v, h1, k v d S H (.refl w) (.inl h2) hf⟩
    | own ds =>
      obtain ⟨p, vs, rfl, _, hp, rs, ns, nz⟩ := h2
      exact ⟨_, h1, k _ _ S H (.refl w) (.inr (.inl ⟨p, vs, ds, rfl, rfl, hp, rs, nz⟩)) hf⟩
    | ownD ds =>
      obtain ⟨p, rfl, _, hp, ns, nz⟩ := h2
      exact ⟨_, h1, k _ _ S H (.refl w) (.inr (.inr ⟨p, ds, rfl, rfl, hp, nz⟩)) hf⟩
    | _ => exact hf.elim
/-- a name -/
theorem de_var (i : Nat) {x : Str} {pos : Pos} (hN : X.N[i]? = some x := by rfl) (hv : Vis X.env.scope x := by first | exact Or.inl rfl | exact Or.inr (Or.inl rfl) | exact Or.inr (Or.inr rfl)) (hd : (x == ("__debug__" : Str)) = false := by decide)
    (hcd : (x == ("__classdict__" : Str)) = false := by decide) : DE X (.Name x pos) (tVar i) (pVar i) := ⟨pe_var hN hv hd hcd, PureE.var i⟩
theorem db_var (i : Nat) {x : Str} {pos : Pos} (hN : X.N[i]? = some x := by rfl) (hv : Vis X.env.scope x := by first | exact Or.inl rfl | exact Or.inr (Or.inl rfl) | exact Or.inr (Or.inr rfl)) (hd : (x == ("__debug__" : Str)) = false := by decide)
    (hcd : (x == ("__classdict__" : Str)) = false := by decide) : DB X (.Name x pos) (tVar i) (pVarB i) := ⟨pe_var hN hv hd hcd, PureB.var i⟩
theorem PureE.con {K : PySem.W.Frag} {v : V} {d : D} (h : ∀ S H, Rep S H v d) : PureE K (tC v) (pC d) := fun Z O S σ H env Qd Q w r hf k => k v d S H (.refl w) (h S H) hf
theorem de_int {i : Int} {j pos} : DE X (.Constant (.int i) j pos) (tC (.int i)) (pC (.int i)) := ⟨pe_int, .con fun _ _ => .int i⟩
theorem de_bl {b : Bool} {j pos} : DE X (.Constant (.bool b) j pos) (tC (.bl b)) (pC (.bool b)) := ⟨pe_bl, .con fun _ _ => .bl b⟩
theorem de_non {j pos} : DE X (.Constant .none j pos) (tC .non) (pC .none) := ⟨pe_non, .con fun _ _ => .non⟩
theorem de_str {x : Str} {j pos} : DE X (.Constant (.str x) j pos) (tC (.str x)) (pC (.str x)) := ⟨pe_str, .con fun _ _ => .str x⟩
/-- a module's constant -/
theorem de_globS {x z : Str} {t : Tok} {pos : Pos} (hg : Gl X x) (hm : X.mg x = some (.str z t)) (hd : (x == ("__debug__" : Str)) = false := by decide) : DE X (.Name x pos) (tC (.str z)) (pC (.str z)) :=
  ⟨pe_glob hg hm (show RelV (.str z) (.str z t) from ⟨t, rfl⟩) hd, .con fun _ _ => .str z⟩
theorem de_globI {x : Str} {z : Int} {t : Tok} {pos : Pos} (hg : Gl X x) (hm : X.mg x = some (.int z t)) (hd : (x == ("__debug__" : Str)) = false := by decide) : DE X (.Name x pos) (tC (.int z)) (pC (.int z)) :=
  ⟨pe_glob hg hm (show RelV (.int z) (.int z t) from ⟨t, rfl⟩) hd, .con fun _ _ => .int z⟩
end

/-! ### operators by values -/
def PureR (r : R2) (g : D → D → (D → Prop) → Prop) : Prop := ∀ (Z S : Fp) (H : Hp) (x y : V) (a b : D) (Qd : D → Prop) (Q : VK), Wd Z S H → RepB Z S H x a → RepB Z S H y b → g a b Qd →
  (∀ v d S' H', Wx Z S H S' H' → Rep S' H' v d → Qd d → Q v H') → r x y H Q
def PureRF (r : R2) (g : D → D → (SV → Prop) → Prop) : Prop := ∀ (K : PySem.W.Frag) (Z S : Fp) (H : Hp) (x y : V) (a b : D) (Qd : SV → Prop) (Q : VK), Wd Z S H → RepB Z S H x a → RepB Z S H y b → g a b Qd →
  (∀ v sv S' H', Wx Z S H S' H' → RepSV K Z (fun a => H a = none) S' H' v sv → Qd sv → Q v H') → r x y H Q
def pOp (g : D → D → (D → Prop) → Prop) (fa fb : PTE) : PTE := fun env Q => fa env fun x => fb env fun y => g x y Q
def pOpF (g : D → D → (SV → Prop) → Prop) (fa fb : PTE) : PTF := fun env Q => fa env fun x => fb env fun y => g x y Q
def pUn (g : D → (D → Prop) → Prop) (fa : PTE) : PTE := fun env Q => fa env fun x => g x Q
theorem Wx.freshen {K : PySem.W.Frag} {Z S S1 S' : Fp} {H H1 H' : Hp} {v : V} {sv : SV} (x : Wx Z S H S1 H1) (r : RepSV K Z (fun a => H1 a = none) S' H' v sv) : RepSV K Z (fun a => H a = none) S' H' v sv :=
  r.mono fun _ nz h => x.fresh nz h
section
variable {X : Cx} {a b : Expr} {fa fb : PTE} {pos : Pos} {K : PySem.W.Frag} {ta tb : TE}
theorem PureE.op {r : R2} {g : D → D → (D → Prop) → Prop} (hr : PureR r g) (ha : PureB K ta fa) (hb : PureB K tb fb) : PureE K (tOp r ta tb) (pOp g fa fb) := by
  intro Z O S σ H env Qd Q w rr hf k
  refine ha Z O S σ H env _ _ w rr hf fun v d S1 H1 x1 r1 q1 => ?_
  refine hb Z O S1 σ H1 env _ _ x1.wd (rr.wx w x1) q1 fun u e S2 H2 x2 r2 q2 => ?_
  exact hr Z S2 H2 v u d e Qd Q x2.wd (r1.wx x2) r2 q2 fun v' d' S3 H3 x3 r3 q3 => k v' d' S3 H3 ((x1.trans x2).trans x3) r3 q3
theorem PureF.op {r : R2} {g : D → D → (SV → Prop) → Prop} (hr : PureRF r g) (ha : PureB K ta fa) (hb : PureB K tb fb) : PureF K (tOp r ta tb) (pOpF g fa fb) := by
  intro Z O S σ H env Qd Q w rr hf k
  refine ha Z O S σ H env _ _ w rr hf fun v d S1 H1 x1 r1 q1 => ?_
  refine hb Z O S1 σ H1 env _ _ x1.wd (rr.wx w x1) q1 fun u e S2 H2 x2 r2 q2 => ?_
  exact hr K Z S2 H2 v u d e Qd Q x2.wd (r1.wx x2) r2 q2 fun v' d' S3 H3 x3 r3 q3 => k v' d' S3 H3 ((x1.trans x2).trans x3) ((x1.trans x2).freshen r3) q3
theorem de_op {op : Operator} {r : R2} {g : D → D → (D → Prop) → Prop} (ho : OpR X (binaryOp op) r) (hr : PureR r g) (ha : DB X a ta fa) (hb : DB X b tb fb) : DE X (.BinOp a op b pos) (tOp r ta tb) (pOp g fa fb) := by
  have a1 := ha.pe
  have a2 := ha.pu
  have b1 := hb.pe
  have b2 := hb.pu
  exact ⟨pe_op ho a1 b1, .op hr a2 b2⟩
theorem df_op {op : Operator} {r : R2} {g : D → D → (SV → Prop) → Prop} (ho : OpR X (binaryOp op) r) (hr : PureRF r g) (ha : DB X a ta fa) (hb : DB X b tb fb) : DF X (.BinOp a op b pos) (tOp r ta tb) (pOpF g fa fb) := by
  have a1 := ha.pe
  have a2 := ha.pu
  have b1 := hb.pe
  have b2 := hb.pu
  exact ⟨pe_op ho a1 b1, .op hr a2 b2⟩
theorem de_cmp {op : CmpOp} {r : R2} {g : D → D → (D → Prop) → Prop} (ho : OpR X (compareOp op) r) (hr : PureR r g) (ha : DB X a ta fa) (hb : DB X b tb fb) (hm : behindInMarks op b = false) : DE X (.Compare a [op] [b] pos) (tOp r ta tb) (pOp g fa fb) := by
  have a1 := ha.pe
  have a2 := ha.pu
  have b1 := hb.pe
  have b2 := hb.pu
  exact ⟨pe_cmpR ho a1 b1 hm, .op hr a2 b2⟩
/-- a bool as a test -/
def pTest (f : PTE) : PTT := fun env Q => f env fun d => match d with
  | .bool b => Q b
  | _ => False
theorem PureT.test {f : PTE} {t : TE} (h : PureE K t f) : PureT K (tTest t) (pTest f) := by
  intro Z O S σ H env Qd Q w rr hf k
  refine h Z O S σ H env _ _ w rr hf fun v d S1 H1 x1 r1 q1 => ?_
  cases d with
  | bool b =>
    cases r1
    exact ⟨b, rfl, k b S1 H1 x1 q1⟩
  | _ => exact q1.elim
theorem PureT.testB {f : PTE} {t : TE} (h : PureE K t f) : PureT K (tB t) (pTest f) := PureT.test h
theorem dt_cmp {op : CmpOp} {r : R2} {g : D → D → (D → Prop) → Prop} (ho : OpR X (compareOp op) r) (hr : PureR r g) (ha : DB X a ta fa) (hb : DB X b tb fb) (hm : behindInMarks op b = false) : DT X (.Compare a [op] [b] pos) (tTest (tOp r ta tb)) (pTest (pOp g fa fb)) := by
  have a1 := ha.pe
  have a2 := ha.pu
  have b1 := hb.pe
  have b2 := hb.pu
  exact ⟨pt_cmpR ho a1 b1 hm, .test (.op hr a2 b2)⟩
theorem dt_val {e : Expr} {t : TE} {f : PTE} (h : DE X e t f) (he : ∀ whole, isTrue e X.env whole = (do let v ← whole; standAt e.pos; holding [v] (truthy v)) := by intro _; rfl) : DT X e (tB t) (pTest f) := by
  have h1 := h.pe
  have h2 := h.pu
  exact ⟨pt_val h1 he, .testB h2⟩
def PureU (r : V → Hp → VK → Prop) (g : D → (D → Prop) → Prop) : Prop := ∀ (Z S : Fp) (H : Hp) (x : V) (a : D) (Qd : D → Prop) (Q : VK), Wd Z S H → RepB Z S H x a → g a Qd →
  (∀ v d S' H', Wx Z S H S' H' → Rep S' H' v d → Qd d → Q v H') → r x H Q
theorem de_un {op : UnaryOp} {r : V → Hp → VK → Prop} {g : D → (D → Prop) → Prop} (ho : UnR X (unaryOp op) r) (hr : PureU r g) (ha : DB X a ta fa) : DE X (.UnaryOp op a pos) (tUn r ta) (pUn g fa) := by
  have a1 := ha.pe
  have a2 := ha.pu
  refine ⟨pe_un ho a1, fun Z O S σ H env Qd Q w rr hf k => ?_⟩
  refine a2 Z O S σ H env _ _ w rr hf fun v d S1 H1 x1 r1 q1 => ?_
  exact hr Z S1 H1 v d Qd Q x1.wd r1 q1 fun v' d' S3 H3 x3 r3 q3 => k v' d' S3 H3 (x1.trans x3) r3 q3
end

/-! ### tests joined -/
def pAnd (f g : PTT) : PTT := fun env Q => f env fun c => if c = true then g env Q else Q false
def pOr (f g : PTT) : PTT := fun env Q => f env fun c => if c = true then Q true else g env Q
def pNot (f : PTT) : PTT := fun env Q => f env fun c => Q (!c)
def pIf (c : PTT) (fa fb : PTE) : PTE := fun env Q => c env fun b => if b = true then fa env Q else fb env Q
def pAndV (fa fb : PTE) : PTE := fun env Q => fa env fun d => match d with
  | .bool c => if c = true then fb env Q else Q (.bool false)
  | _ => False
def pOrV (fa fb : PTE) : PTE := fun env Q => fa env fun d => match d with
  | .bool c => if c = true then Q (.bool true) else fb env Q
  | _ => False
def pNotV (fa : PTE) : PTE := fun env Q => fa env fun d => match d with
  | .bool c => Q (.bool (!c))
  | _ => False
section
variable {X : Cx} {a b c : Expr} {rest : List Expr} {f g : PTT} {fa fb : PTE} {pos : Pos} {K : PySem.W.Frag} {t u : TT} {ta tb : TE}
theorem PureT.and (h1 : PureT K t f) (h2 : PureT K u g) : PureT K (tAnd t u) (pAnd f g) := by
  intro Z O S σ H env Qd Q w rr hf k
  refine h1 Z O S σ H env _ _ w rr hf fun c S1 H1 x1 q1 => ?_
  cases c with
  | true =>
    rw [if_pos rfl] at q1 ⊢
    exact h2 Z O S1 σ H1 env Qd Q x1.wd (rr.wx w x1) q1 fun b S2 H2 x2 q2 => k b S2 H2 (x1.trans x2) q2
  | false =>
    rw [if_neg Bool.false_ne_true] at q1 ⊢
    exact k false S1 H1 x1 q1
theorem PureT.or (h1 : PureT K t f) (h2 : PureT K u g) : PureT K (tOr t u) (pOr f g) := by
  intro Z O S σ H env Qd Q w rr hf k
  refine h1 Z O S σ H env _ _ w rr hf fun c S1 H1 x1 q1 => ?_
  cases c with
  | true =>
    rw [if_pos rfl] at q1 ⊢
    exact k true S1 H1 x1 q1
  | false =>
    rw [if_neg Bool.false_ne_true] at q1 ⊢
    exact h2 Z O S1 σ H1 env Qd Q x1.wd (rr.wx w x1) q1 fun b S2 H2 x2 q2 => k b S2 H2 (x1.trans x2) q2
theorem PureT.not (h1 : PureT K t f) : PureT K (tNot t) (pNot f) := by
  intro Z O S σ H env Qd Q w rr hf k
  exact h1 Z O S σ H env _ _ w rr hf fun c S1 H1 x1 q1 => k _ S1 H1 x1 q1
theorem dw_and1 (h : DT X a t f) : DW X (.BoolOp .And [a] pos) t f := by
  have h1 := h.pe
  have h2 := h.pu
  exact ⟨pw_and1 h1, h2⟩
theorem dw_or1 (h : DT X a t f) : DW X (.BoolOp .Or [a] pos) t f := by
  have h1 := h.pe
  have h2 := h.pu
  exact ⟨pw_or1 h1, h2⟩
theorem dw_and (h : DT X a t f) (h' : DW X (.BoolOp .And (b :: rest) pos) u g) : DW X (.BoolOp .And (a :: b :: rest) pos) (tAnd t u) (pAnd f g) := by
  have h1 := h.pe
  have h2 := h.pu
  have h1' := h'.pe
  have h2' := h'.pu
  exact ⟨pw_and h1 h1', .and h2 h2'⟩
theorem dw_or (h : DT X a t f) (h' : DW X (.BoolOp .Or (b :: rest) pos) u g) : DW X (.BoolOp .Or (a :: b :: rest) pos) (tOr t u) (pOr f g) := by
  have h1 := h.pe
  have h2 := h.pu
  have h1' := h'.pe
  have h2' := h'.pu
  exact ⟨pw_or h1 h1', .or h2 h2'⟩
theorem DW.dt (h : DW X a t f) : DT X a t f := by
  have h1 := h.pe
  have h2 := h.pu
  exact ⟨h1.pt, h2⟩
theorem dt_not (h : DT X a t f) : DT X (.UnaryOp .Not a pos) (tNot t) (pNot f) := by
  have h1 := h.pe
  have h2 := h.pu
  exact ⟨pt_not h1, .not h2⟩
theorem de_if (hc : DT X c t f) (ha : DE X a ta fa) (hb : DE X b tb fb) : DE X (.IfExp c a b pos) (tIf t ta tb) (pIf f fa fb) := by
  have c1 := hc.pe
  have c2 := hc.pu
  have a1 := ha.pe
  have a2 := ha.pu
  have b1 := hb.pe
  have b2 := hb.pu
  refine ⟨pe_ifExp c1 a1 b1, fun Z O S σ H env Qd Q w rr hf k => ?_⟩
  refine c2 Z O S σ H env _ _ w rr hf fun c S1 H1 x1 q1 => ?_
  cases c with
  | true =>
    rw [if_pos rfl] at q1 ⊢
    exact a2 Z O S1 σ H1 env Qd Q x1.wd (rr.wx w x1) q1 fun v d S2 H2 x2 r2 q2 => k v d S2 H2 (x1.trans x2) r2 q2
  | false =>
    rw [if_neg Bool.false_ne_true] at q1 ⊢
    exact b2 Z O S1 σ H1 env Qd Q x1.wd (rr.wx w x1) q1 fun v d S2 H2 x2 r2 q2 => k v d S2 H2 (x1.trans x2) r2 q2
theorem de_one {op} (h : DE X a ta fa) : DE X (.BoolOp op [a] pos) ta fa := by
  have h1 := h.pe
  have h2 := h.pu
  exact ⟨pe_one h1, h2⟩
theorem de_and (ha : DE X a ta fa) (hb : DE X (.BoolOp .And (b :: rest) pos) tb fb) : DE X (.BoolOp .And (a :: b :: rest) pos) (tAndV ta tb) (pAndV fa fb) := by
  have a1 := ha.pe
  have a2 := ha.pu
  have b1 := hb.pe
  have b2 := hb.pu
  refine ⟨pe_and a1 b1, fun Z O S σ H env Qd Q w rr hf k => ?_⟩
  refine a2 Z O S σ H env _ _ w rr hf fun v d S1 H1 x1 r1 q1 => ?_
  cases d with
  | bool c =>
    cases r1
    refine ⟨c, rfl, ?_⟩
    cases c with
    | true => exact b2 Z O S1 σ H1 env Qd Q x1.wd (rr.wx w x1) q1 fun v d S2 H2 x2 r2 q2 => k v d S2 H2 (x1.trans x2) r2 q2
    | false => exact k _ _ S1 H1 x1 (.bl false) q1
  | _ => exact q1.elim
theorem de_or (ha : DE X a ta fa) (hb : DE X (.BoolOp .Or (b :: rest) pos) tb fb) : DE X (.BoolOp .Or (a :: b :: rest) pos) (tOrV ta tb) (pOrV fa fb) := by
  have a1 := ha.pe
  have a2 := ha.pu
  have b1 := hb.pe
  have b2 := hb.pu
  refine ⟨pe_or a1 b1, fun Z O S σ H env Qd Q w rr hf k => ?_⟩
  refine a2 Z O S σ H env _ _ w rr hf fun v d S1 H1 x1 r1 q1 => ?_
  cases d with
  | bool c =>
    cases r1
    refine ⟨c, rfl, ?_⟩
    cases c with
    | true => exact k _ _ S1 H1 x1 (.bl true) q1
    | false => exact b2 Z O S1 σ H1 env Qd Q x1.wd (rr.wx w x1) q1 fun v d S2 H2 x2 r2 q2 => k v d S2 H2 (x1.trans x2) r2 q2
  | _ => exact q1.elim
theorem de_not (ha : DE X a ta fa) : DE X (.UnaryOp .Not a pos) (tNotV ta) (pNotV fa) := by
  have a1 := ha.pe
  have a2 := ha.pu
  refine ⟨pe_not a1, fun Z O S σ H env Qd Q w rr hf k => ?_⟩
  refine a2 Z O S σ H env _ _ w rr hf fun v d S1 H1 x1 r1 q1 => ?_
  cases d with
  | bool c =>
    cases r1
    exact ⟨c, rfl, k _ _ S1 H1 x1 (.bl _) q1⟩
  | _ => exact q1.elim
end

/-! ### argument lists, displays -/
def pNil : PTL := fun _ Q => Q []
def pCons (f : PTE) (g : PTL) : PTL := fun env Q => f env fun x => g env fun xs => Q (x :: xs)
def aNil : PTA := fun _ Q => Q []
def aCons (f : PTE) (g : PTA) : PTA := fun env Q => f env fun x => g env fun xs => Q (.v x :: xs)
/-- the state, the script: a slot handed as it is -/
def aSlot (i : Nat) (g : PTA) : PTA := fun env Q => match slot env i with
  | some .st => g env fun xs => Q (.st :: xs)
  | some (.scr ns) => g env fun xs => Q (.scr ns :: xs)
  | _ => False
section
variable {X : Cx} {e : Expr} {es : List Expr} {f : PTE} {g : PTL} {ga : PTA} {pos : Pos} {t : TE} {u : TA}
theorem des_nil : DEs X [] tNil pNil := ⟨pa_nil, fun Z O S σ H env Qd Q w rr hf k => k [] [] S H (.refl w) .nil hf⟩
theorem dbs_nil : DBs X [] tNil pNil := ⟨pa_nil, fun Z O S σ H env Qd Q w rr hf k => k [] [] S H (.refl w) .nil hf⟩
theorem da_nil : DA X [] tNil aNil := ⟨pa_nil, fun Z O S σ H env Qd Q w rr hf k => k [] [] S H (.refl w) .nil hf⟩
theorem des_cons (h : DE X e t f) (hr : DEs X es u g) (hs : starEach (e :: es) X.env = (false, eval e X.env) :: starEach es X.env := by rfl) : DEs X (e :: es) (tCons t u) (pCons f g) := by
  have h1 := h.pe
  have h2 := h.pu
  have r1 := hr.pe
  have r2 := hr.pu
  refine ⟨pa_cons h1 r1 hs, fun Z O S σ H env Qd Q w rr hf k => ?_⟩
  refine h2 Z O S σ H env _ _ w rr hf fun v d S1 H1 x1 q1 q => ?_
  refine r2 Z O S1 σ H1 env _ _ x1.wd (rr.wx w x1) q fun vs ds S2 H2 x2 q2 q => ?_
  exact k _ _ S2 H2 (x1.trans x2) (.cons (q1.wx x2) q2) q
theorem dbs_cons (h : DB X e t f) (hr : DBs X es u g) (hs : starEach (e :: es) X.env = (false, eval e X.env) :: starEach es X.env := by rfl) : DBs X (e :: es) (tCons t u) (pCons f g) := by
  have h1 := h.pe
  have h2 := h.pu
  have r1 := hr.pe
  have r2 := hr.pu
  refine ⟨pa_cons h1 r1 hs, fun Z O S σ H env Qd Q w rr hf k => ?_⟩
  refine h2 Z O S σ H env _ _ w rr hf fun v d S1 H1 x1 q1 q => ?_
  refine r2 Z O S1 σ H1 env _ _ x1.wd (rr.wx w x1) q fun vs ds S2 H2 x2 q2 q => ?_
  exact k _ _ S2 H2 (x1.trans x2) (.cons (q1.wx x2) q2) q
theorem da_cons (h : DE X e t f) (hr : DA X es u ga) (hs : starEach (e :: es) X.env = (false, eval e X.env) :: starEach es X.env := by rfl) : DA X (e :: es) (tCons t u) (aCons f ga) := by
  have h1 := h.pe
  have h2 := h.pu
  have r1 := hr.pe
  have r2 := hr.pu
  refine ⟨pa_cons h1 r1 hs, fun Z O S σ H env Qd Q w rr hf k => ?_⟩
  refine h2 Z O S σ H env _ _ w rr hf fun v d S1 H1 x1 q1 q => ?_
  refine r2 Z O S1 σ H1 env _ _ x1.wd (rr.wx w x1) q fun vs ds S2 H2 x2 q2 q => ?_
  exact k _ _ S2 H2 (x1.trans x2) (.cons (show RepSV X.K Z (fun _ => False) S2 H2 v (.v d) from q1.wx x2) q2) q
theorem da_slot (i : Nat) {x : Str} (hr : DA X es u ga) (hN : X.N[i]? = some x := by rfl) (hv : Vis X.env.scope x := by first | exact Or.inl rfl | exact Or.inr (Or.inl rfl) | exact Or.inr (Or.inr rfl)) (hd : (x == ("__debug__" : Str)) = false := by decide)
    (hcd : (x == ("__classdict__" : Str)) = false := by decide) (hs : starEach (.Name x pos :: es) X.env = (false, eval (.Name x pos) X.env) :: starEach es X.env := by rfl) : DA X (.Name x pos :: es) (tCons (tVar i) u) (aSlot i ga) := by
  have r1 := hr.pe
  have r2 := hr.pu
  refine ⟨pa_cons (pe_var hN hv hd hcd) r1 hs, fun Z O S σ H env Qd Q w rr hf k => ?_⟩
  unfold aSlot at hf
  cases q : slot env i with
  | none => rw [q] at hf; exact hf.elim
  | some sv =>
    rw [q] at hf
    obtain ⟨v, h1, h2⟩ := rr.get i sv (slot_get env i sv q)
    cases sv with
    | st => exact ⟨v, h1, r2 Z O S σ H env _ _ w rr hf fun vs ds S2 H2 x2 q2 q => k _ _ S2 H2 x2 (.cons (show RepSV X.K Z (fun _ => False) S2 H2 v .st from h2) q2) q⟩
    | scr ns => exact ⟨v, h1, r2 Z O S σ H env _ _ w rr hf fun vs ds S2 H2 x2 q2 q => k _ _ S2 H2 x2 (.cons (RepSV.wx (K := X.K) (O := fun _ => False) (sv := .scr ns) h2 w x2) q2) q⟩
    | _ => exact hf.elim
/-- displays -/
def lineOk (n : Nat) : Prop := n ≤ sizeLine
theorem lineOk_of {n : Nat} (h : n ≤ 16777216) : lineOk n := by unfold lineOk; rw [sizeLine_eq]; exact h
def pTup (g : PTL) : PTE := fun env Q => g env fun xs => lineOk xs.length ∧ Q (.tuple xs)
def pLst (g : PTL) : PTF := fun env Q => g env fun xs => lineOk xs.length ∧ Q (.own xs)
theorem Wx.newTup {Z S : Fp} {H : Hp} {p : Addr} {vs : List V} {ds : List D} (w : Wd Z S H) (h : H p = none) (r : Reps S H vs ds) : Rep (fun a => S a ∨ a = p) (upd H p (.tup vs)) (.ref p) (.tuple ds) :=
  .tup (.inr rfl) upd_same (r.wx (Wx.layS w h))
theorem Wx.newLst {Z S : Fp} {H : Hp} {p : Addr} {vs : List V} {ds : List D} (w : Wd Z S H) (h : H p = none) (r : Reps S H vs ds) : Rep (fun a => S a ∨ a = p) (upd H p (.lst vs)) (.ref p) (.list ds) :=
  .lst (.inr rfl) upd_same (r.wx (Wx.layS w h))
theorem Wx.newOwn {K : PySem.W.Frag} {Z S : Fp} {H : Hp} {p : Addr} {vs : List V} {ds : List D} (w : Wd Z S H) (h : H p = none) (r : Reps S H vs ds) : RepSV K Z (fun a => H a = none) S (upd H p (.lst vs)) (.ref p) (.own ds) :=
  ⟨p, vs, rfl, h, upd_same, r.wx (Wx.lay w h), w.ns h, w.nz h⟩
theorem de_tup {x1} (h : DEs X es u g) : DE X (.Tuple es x1 pos) (tTup u) (pTup g) := by
  have h1 := h.pe
  have h2 := h.pu
  refine ⟨pe_tup h1, fun Z O S σ H env Qd Q w rr hf k => ?_⟩
  refine h2 Z O S σ H env _ _ w rr hf fun vs ds S1 H1 x1 r1 q1 => ?_
  exact ⟨by rw [r1.length]; exact q1.1, fun p hp => k _ _ _ _ (x1.trans (Wx.layS x1.wd hp)) (Wx.newTup x1.wd hp r1) q1.2⟩
theorem df_lst (h : DEs X es u g) : DF X (.List es pos) (tLst u) (pLst g) := by
  have h1 := h.pe
  have h2 := h.pu
  refine ⟨pe_lst h1, fun Z O S σ H env Qd Q w rr hf k => ?_⟩
  refine h2 Z O S σ H env _ _ w rr hf fun vs ds S1 H1 x1 r1 q1 => ?_
  exact ⟨by rw [r1.length]; exact q1.1, fun p hp => k _ _ _ _ (x1.trans (Wx.lay x1.wd hp)) (x1.freshen (Wx.newOwn x1.wd hp r1)) q1.2⟩
end
end DL
/-! ## DLmul -/
set_option Elab.async false
set_option linter.all false
set_option maxRecDepth 100000
set_option maxHeartbeats 4000000
namespace L2
open PySem PySem.Spec PyProof.Rows
open PySem.SeqAt
open PySem.AutoSeq1 (wpAny_loadPart')
open PySem.MeetsSeq PySem.MeetsSeq2 PySem.MeetsSeq3
theorem tuple_mulS (l : Addr) (items : Array Value) (n : Nat) (dd : Option Addr) (sl : Array (Option Value)) (x : Int) (u : Tok) (c0 : (decide (x < -(2 ^ 63)) || decide (x ≥ 2 ^ 63)) = false) (c1 : (items.isEmpty || x == 1) = true) :
    Meets (Builtin.«tuple.__mul__» ⟨[.ref l, .int x u], []⟩) (fun _ R s => s.heap.get? l = some { cls := .type "tuple", dict := dd, data := .seq items n, slots := sl } ∧ R (.ok (.ret (Value.ref l))) s) :=
  .of_wp fun prog w A R s h => by
    obtain ⟨hp, g, d, tk, os⟩ := s
    obtain ⟨hl, h⟩ := h
    have f1 := AutoSeq1.idx_int
    wp_walk using wpAny_loadPart' hl
    repeat (first
      | (refine wpAny_ite_false (decide_eq_false (by rw [c0]; exact Bool.false_ne_true)) ?_; wp_walk using wpAny_loadPart' hl)
      | (refine wpAny_ite_true (decide_eq_true c1) ?_; wp_walk using wpAny_loadPart' hl))
    exact ⟨_, rfl, h⟩
theorem tuple_mul0 (l : Addr) (items : Array Value) (n : Nat) (dd : Option Addr) (sl : Array (Option Value)) (x : Int) (u : Tok) (c0 : (decide (x < -(2 ^ 63)) || decide (x ≥ 2 ^ 63)) = false) (c1 : (items.isEmpty || x == 1) = false) (c2 : (decide (x ≤ 0) || items.isEmpty) = true) :
    Meets (Builtin.«tuple.__mul__» ⟨[.ref l, .int x u], []⟩) (fun _ R s => s.heap.get? l = some { cls := .type "tuple", dict := dd, data := .seq items n, slots := sl } ∧
      R (.ok (.ret (Value.ref s.heap.objs.size))) { s with heap := s.heap.push { cls := Value.type "tuple", data := Data.seq #[] }, toks := s.toks }) :=
  .of_wp fun prog w A R s h => by
    obtain ⟨hp, g, d, tk, os⟩ := s
    obtain ⟨hl, h⟩ := h
    have f1 := AutoSeq1.idx_int
    wp_walk using wpAny_loadPart' hl
    repeat (first
      | (refine wpAny_ite_false (decide_eq_false (by rw [c0]; exact Bool.false_ne_true)) ?_; wp_walk using wpAny_loadPart' hl)
      | (refine wpAny_ite_false (decide_eq_false (by rw [c1]; exact Bool.false_ne_true)) ?_; wp_walk using wpAny_loadPart' hl)
      | (refine wpAny_ite_true (decide_eq_true c2) ?_; wp_walk using wpAny_loadPart' hl))
    exact ⟨_, rfl, h⟩
/-- tuple * int, all ways -/
def rRepA (K : PySem.W.Frag) : R2 := fun x y H Q => ∃ l k xs, x = .ref l ∧ y = .int k ∧ SqT K H l xs ∧ -1000 ≤ k ∧ k ≤ 1000 ∧ xs.length ≤ 1000 ∧
  ((xs = [] ∨ k = 1) → Q (.ref l) H) ∧ (xs ≠ [] → k ≠ 1 → ∀ p, H p = none → Q (.ref p) (upd H p (.tup (List.replicate k.toNat xs).flatten)))
theorem op_repA {X : Cx} : OpR X (binaryOp .Mult) (rRepA X.K) := by
  intro pins s σ H x y v u Q I rx ry h
  obtain ⟨l, k, xs, rfl, rfl, hT, h0, h1, hz, q1, q2⟩ := h
  by_cases hc : xs ≠ [] ∧ 2 ≤ k
  · exact op_repT pins s σ H _ _ v u Q I rx ry ⟨l, k, xs, rfl, rfl, hT, hc.1, hc.2, h1, hz, q2 hc.1 (by omega)⟩
  cases rx
  obtain ⟨t, rfl⟩ := ry
  obtain ⟨its, r, ⟨⟨cls, dd, data, sl⟩, ho, hcl, n, hd⟩, hs⟩ := I.tuple hT
  simp only at hcl hd
  subst hcl hd
  have hle : its.length = xs.length := r.length.symm
  have c0 : (decide (k < -(2 ^ 63)) || decide (k ≥ 2 ^ 63)) = false := by
    rw [decide_eq_false (by omega), decide_eq_false (by omega)] <;> rfl
  by_cases hs1 : xs = [] ∨ k = 1
  · have c1 : (its.toArray.isEmpty || k == 1) = true := by
      rcases hs1 with e | e
      · subst e
        have : its = [] := List.eq_nil_of_length_eq_zero hle
        subst this; rfl
      · subst e; simp
    refine wpAny_binaryOp_repeat_ref (T := "tuple") (U := "int") (by decide) ⟨_, ho, rfl⟩ (fun s' => typeIs_int s' k t) noFill_tuple_mul F.fills_int_mul F.slot_int_rmul repeat_tuple F.slot_int_index.lookup
      (call_meets F.slot_int_rmul (typeIs_int s k t) F.entry_int_rmul (F.args_int_rmul_2 _ _) (int_rmul_tuple k t l its.toArray n dd sl)
        ⟨ho, rfl, ⟨_, ho, rfl⟩, call_meets F.slot_tuple_mul ⟨_, ho, rfl⟩ F.entry_tuple_mul (F.args_tuple_mul_2 _ _) (tuple_mulS l its.toArray n dd sl k t c0 c1) ⟨ho, ?_⟩⟩)
    exact ⟨.ref l, H, I, rfl, q1 hs1⟩
  · have hne : xs ≠ [] := fun e => hs1 (.inl e)
    have hk1 : k ≠ 1 := fun e => hs1 (.inr e)
    have hk : k ≤ 0 := by
      by_cases h2 : 2 ≤ k
      · exact absurd ⟨hne, h2⟩ hc
      · omega
    have hn : its ≠ [] := fun e => hne (by
      rw [e] at hle
      exact List.eq_nil_of_length_eq_zero hle.symm)
    have hi : its.toArray.isEmpty = false := by
      cases its with
      | nil => exact absurd rfl hn
      | cons a b => rfl
    have c1 : (its.toArray.isEmpty || k == 1) = false := by
      rw [hi, Bool.false_or]
      exact beq_eq_false_iff_ne.mpr hk1
    have c2 : (decide (k ≤ 0) || its.toArray.isEmpty) = true := by
      rw [decide_eq_true hk] <;> rfl
    have e0 : (List.replicate k.toNat xs).flatten = [] := by
      have : k.toNat = 0 := by omega
      rw [this]; rfl
    have q := q2 hne hk1
    rw [e0] at q
    refine wpAny_binaryOp_repeat_ref (T := "tuple") (U := "int") (by decide) ⟨_, ho, rfl⟩ (fun s' => typeIs_int s' k t) noFill_tuple_mul F.fills_int_mul F.slot_int_rmul repeat_tuple F.slot_int_index.lookup
      (call_meets F.slot_int_rmul (typeIs_int s k t) F.entry_int_rmul (F.args_int_rmul_2 _ _) (int_rmul_tuple k t l its.toArray n dd sl)
        ⟨ho, rfl, ⟨_, ho, rfl⟩, call_meets F.slot_tuple_mul ⟨_, ho, rfl⟩ F.entry_tuple_mul (F.args_tuple_mul_2 _ _) (tuple_mul0 l its.toArray n dd sl k t c0 c1 c2) ⟨ho, ?_⟩⟩)
    refine ⟨.ref s.heap.objs.size, _, I.laid (t' := s.toks) (o := .tup []) (fun b ob q => Heap.get?_push_of_some _ q) (Nat.le_refl _) ?_, rfl, q _ (I.hok.fresh (Nat.le_refl _))⟩
    exact ⟨Nat.zero_le _, [], .nil, IsTup.new _ _⟩
end L2
/-! ## DL3 -/
set_option Elab.async false
set_option linter.all false
set_option maxRecDepth 100000
set_option maxHeartbeats 4000000
/-! DL3: the operators on data. -/
namespace DL
open PySem L2

/-! ### equality -/
/-- numbers, texts, None, lists and tuples of such, not deeper than n: no bool, no dict -/
def shp : Nat → D → Prop
  | _, .none => True
  | _, .int _ => True
  | _, .str _ => True
  | n + 1, .list xs => ∀ x ∈ xs, shp n x
  | n + 1, .tuple xs => ∀ x ∈ xs, shp n x
  | _, _ => False
def isB : D → Prop
  | .bool _ => True
  | _ => False
open Classical in
noncomputable def eqb (a b : D) : Bool := decide (a = b)
theorem eqb_true {a b : D} : (eqb a b = true) ↔ a = b := by unfold eqb; simp
theorem eqb_false {a b : D} : (eqb a b = false) ↔ a ≠ b := by unfold eqb; simp
@[simp] theorem eqb_self (a : D) : eqb a a = true := eqb_true.mpr rfl
@[simp] theorem eqb_int (i j : Int) : eqb (.int i) (.int j) = decide (i = j) := by
  by_cases h : i = j
  · subst h; simp
  · rw [decide_eq_false h, eqb_false]; simpa using h
@[simp] theorem eqb_bool (i j : Bool) : eqb (.bool i) (.bool j) = (i == j) := by
  cases i <;> cases j <;> simp [eqb]
@[simp] theorem eqb_str (i j : Str) : eqb (.str i) (.str j) = decide (i = j) := by
  by_cases h : i = j
  · subst h; simp
  · rw [decide_eq_false h, eqb_false]; simpa using h
theorem eqb_iff {a b : D} {c : Bool} (h : a = b ↔ c = true) : eqb a b = c := by
  cases c with
  | true => exact eqb_true.mpr (h.mpr rfl)
  | false => exact eqb_false.mpr (fun e => Bool.false_ne_true (h.mp e))
theorem eqb_comm (a b : D) : eqb a b = eqb b a := eqb_iff (by rw [eqb_true]; exact ⟨Eq.symm, Eq.symm⟩)

theorem shp_plain : ∀ (n : Nat) (d : D), shp n d → d.plain = true
  | _, .none, _ => rfl
  | _, .int _, _ => rfl
  | _, .str _, _ => rfl
  | 0, .bool _, h => h.elim
  | _ + 1, .bool _, h => h.elim
  | 0, .list _, h => h.elim
  | 0, .tuple _, h => h.elim
  | 0, .dict _, h => h.elim
  | _ + 1, .dict _, h => h.elim
  | n + 1, .list xs, h => by
    rw [PyData.plain]
    have h' : ∀ x ∈ xs, shp n x := h
    clear h
    induction xs with
    | nil => rfl
    | cons x xs ih => rw [PyData.plainAll, shp_plain n x (h' x List.mem_cons_self), ih fun y hy => h' y (List.mem_cons_of_mem _ hy)]; rfl
  | n + 1, .tuple xs, h => by
    rw [PyData.plain]
    have h' : ∀ x ∈ xs, shp n x := h
    clear h
    induction xs with
    | nil => rfl
    | cons x xs ih => rw [PyData.plainAll, shp_plain n x (h' x List.mem_cons_self), ih fun y hy => h' y (List.mem_cons_of_mem _ hy)]; rfl
theorem depthAll_le {n : Nat} : ∀ (xs : List D), (∀ x ∈ xs, x.depth ≤ n) → PyData.depthAll xs ≤ n
  | [], _ => by simp [PyData.depthAll]
  | x :: xs, h => by
    have h1 := h x List.mem_cons_self
    have h2 := depthAll_le xs fun y hy => h y (List.mem_cons_of_mem _ hy)
    simp only [PyData.depthAll]
    omega
theorem shp_depth : ∀ (n : Nat) (d : D), shp n d → d.depth ≤ n + 1
  | _, .none, _ => by simp [PyData.depth]
  | _, .int _, _ => by simp [PyData.depth]
  | _, .str _, _ => by simp [PyData.depth]
  | 0, .bool _, h => h.elim
  | _ + 1, .bool _, h => h.elim
  | 0, .list _, h => h.elim
  | 0, .tuple _, h => h.elim
  | 0, .dict _, h => h.elim
  | _ + 1, .dict _, h => h.elim
  | n + 1, .list xs, h => by
    have h' : ∀ x ∈ xs, shp n x := h
    have := depthAll_le xs fun x hx => shp_depth n x (h' x hx)
    simp only [PyData.depth]
    omega
  | n + 1, .tuple xs, h => by
    have h' : ∀ x ∈ xs, shp n x := h
    have := depthAll_le xs fun x hx => shp_depth n x (h' x hx)
    simp only [PyData.depth]
    omega
theorem eqvAll_iff {n m : Nat} (ih : ∀ a b, shp n a → shp m b → (PyData.eqv a b = true ↔ a = b)) : ∀ (xs ys : List D), (∀ x ∈ xs, shp n x) → (∀ y ∈ ys, shp m y) → (PyData.eqvAll xs ys = true ↔ xs = ys)
  | [], [], _, _ => by simp [PyData.eqvAll]
  | [], y :: ys, _, _ => by simp [PyData.eqvAll]
  | x :: xs, [], _, _ => by simp [PyData.eqvAll]
  | x :: xs, y :: ys, hx, hy => by
    rw [PyData.eqvAll, Bool.and_eq_true, ih x y (hx x List.mem_cons_self) (hy y List.mem_cons_self), eqvAll_iff ih xs ys (fun z hz => hx z (List.mem_cons_of_mem _ hz)) fun z hz => hy z (List.mem_cons_of_mem _ hz)]
    simp
theorem eqv_iff : ∀ (n m : Nat) (a b : D), shp n a → shp m b → (PyData.eqv a b = true ↔ a = b)
  | n, m, a, b, ha, hb => by
    cases a with
    | bool x => cases n <;> exact ha.elim
    | dict x => cases n <;> exact ha.elim
    | none => cases b <;> first | (cases m <;> exact False.elim hb) | simp [PyData.eqv]
    | int i => cases b <;> first | (cases m <;> exact False.elim hb) | simp [PyData.eqv]
    | str i => cases b <;> first | (cases m <;> exact False.elim hb) | simp [PyData.eqv]
    | list xs =>
      cases n with
      | zero => exact ha.elim
      | succ n =>
        cases b with
        | list ys =>
          cases m with
          | zero => exact hb.elim
          | succ m =>
            rw [PyData.eqv, eqvAll_iff (eqv_iff n m) xs ys ha hb]
            simp
        | bool _ => cases m <;> exact hb.elim
        | dict _ => cases m <;> exact hb.elim
        | _ => simp [PyData.eqv]
    | tuple xs =>
      cases n with
      | zero => exact ha.elim
      | succ n =>
        cases b with
        | tuple ys =>
          cases m with
          | zero => exact hb.elim
          | succ m =>
            rw [PyData.eqv, eqvAll_iff (eqv_iff n m) xs ys ha hb]
            simp
        | bool _ => cases m <;> exact hb.elim
        | dict _ => cases m <;> exact hb.elim
        | _ => simp [PyData.eqv]
theorem eqv_eqb {n m : Nat} {a b : D} (ha : shp n a) (hb : shp m b) : PyData.eqv a b = eqb a b := by
  cases h : eqb a b with
  | true => exact (eqv_iff n m a b ha hb).mpr (eqb_true.mp h)
  | false =>
    cases q : PyData.eqv a b with
    | false => rfl
    | true => exact absurd ((eqv_iff n m a b ha hb).mp q) (eqb_false.mp h)

def eqOk (a b : D) : Prop := (shp 20 a ∧ shp 20 b) ∨ (isB a ∧ isB b)
def gEq (a b : D) (Q : D → Prop) : Prop := eqOk a b ∧ Q (.bool (eqb a b))
def gNe (a b : D) (Q : D → Prop) : Prop := eqOk a b ∧ Q (.bool (!eqb a b))
def rEqP (K : PySem.W.Frag) (neg : Bool) : R2 := fun x y H Q => ∃ d e, Dp K H x d ∧ Dp K H y e ∧ d.plain = true ∧ e.plain = true ∧ d.depth ≤ 30 ∧ Q (.bl (if neg then !PyData.eqv d e else PyData.eqv d e)) H
section
variable {X : Cx} {K : PySem.W.Frag}
theorem op_eqP (hu : X.A.units + 64 < cLine) : OpR X (compareOp .Eq) (rEqP X.K false) := by
  intro pins s σ H x y v u Q I rx ry h
  obtain ⟨d, e, hd, he, pd, pe, hz, q⟩ := h
  obtain ⟨as, r1⟩ := Dp.reads I d x v hd rx
  obtain ⟨bs, r2⟩ := Dp.reads I e y u he ry
  exact SeqAt.eq_plain r1 r2 pd pe (by have := Nat.min_le_left d.depth e.depth; omega) ⟨.bl _, H, I, rfl, q⟩
theorem op_neP (hu : X.A.units + 64 < cLine) : OpR X (compareOp .NotEq) (rEqP X.K true) := by
  intro pins s σ H x y v u Q I rx ry h
  obtain ⟨d, e, hd, he, pd, pe, hz, q⟩ := h
  obtain ⟨as, r1⟩ := Dp.reads I d x v hd rx
  obtain ⟨bs, r2⟩ := Dp.reads I e y u he ry
  exact SeqAt.ne_plain r1 r2 pd pe (by have := Nat.min_le_left d.depth e.depth; omega) ⟨.bl _, H, I, rfl, q⟩
theorem eqOk_all {a b : D} (h : eqOk a b) : a.plain = true ∧ b.plain = true ∧ a.depth ≤ 30 ∧ PyData.eqv a b = eqb a b := by
  rcases h with ⟨h1, h2⟩ | ⟨h1, h2⟩
  · exact ⟨shp_plain _ _ h1, shp_plain _ _ h2, Nat.le_trans (shp_depth _ _ h1) (by decide), eqv_eqb h1 h2⟩
  · cases a <;> first | exact h1.elim | skip
    cases b <;> first | exact h2.elim | skip
    refine ⟨rfl, rfl, by simp [PyData.depth], ?_⟩
    rw [eqb_bool]
    simp [PyData.eqv]
theorem pr_eq : PureR (rEqP K false) gEq := by
  intro Z S H x y a b Qd Q w ra rb h k
  obtain ⟨p1, p2, p3, p4⟩ := eqOk_all h.1
  exact ⟨a, b, ra.dp p1, rb.dp p2, p1, p2, p3, k _ _ S H (.refl w) (.bl _) (by rw [p4]; exact h.2)⟩
theorem pr_ne : PureR (rEqP K true) gNe := by
  intro Z S H x y a b Qd Q w ra rb h k
  obtain ⟨p1, p2, p3, p4⟩ := eqOk_all h.1
  exact ⟨a, b, ra.dp p1, rb.dp p2, p1, p2, p3, k _ _ S H (.refl w) (.bl _) (by rw [p4]; exact h.2)⟩
end

/-! ### numbers -/
def gI (f : Int → Int → (D → Prop) → Prop) : D → D → (D → Prop) → Prop
  | .int i, .int j, Q => f i j Q
  | _, _, _ => False
theorem pr_I {C : Int → Int → Prop} {g : Int → Int → V} {f : Int → Int → (D → Prop) → Prop} (h : ∀ i j Q, f i j Q → C i j ∧ ∃ d, (∀ S H, Rep S H (g i j) d) ∧ Q d) : PureR (rI C g) (gI f) := by
  intro Z S H x y a b Qd Q w ra rb hf k
  cases a <;> first | exact hf.elim | skip
  cases b <;> first | exact hf.elim | skip
  rename_i i j
  cases ra.int
  cases rb.int
  obtain ⟨c, d, h1, h2⟩ := h i j Qd hf
  exact ⟨i, j, rfl, rfl, c, k _ d S H (.refl w) (h1 S H) h2⟩
theorem pr_I0 {g : Int → Int → V} {f : Int → Int → (D → Prop) → Prop} (h : ∀ i j Q, f i j Q → ∃ d, (∀ S H, Rep S H (g i j) d) ∧ Q d) : PureR (rI0 g) (gI f) := by
  intro Z S H x y a b Qd Q w ra rb hf k
  cases a <;> first | exact hf.elim | skip
  cases b <;> first | exact hf.elim | skip
  rename_i i j
  cases ra.int
  cases rb.int
  obtain ⟨d, h1, h2⟩ := h i j Qd hf
  exact ⟨i, j, rfl, rfl, k _ d S H (.refl w) (h1 S H) h2⟩
def gMinus := gI fun i j Q => Q (.int (i - j))
def gMod := gI fun i j Q => j ≠ 0 ∧ (if 0 < j then Q (.int (i % j)) else Q (.int (i.fmod j)))
def gFdiv := gI fun i j Q => j ≠ 0 ∧ j.natAbs.log2 < 9000 ∧ (if 0 < j then Q (.int (i / j)) else Q (.int (i.fdiv j)))
def gPow := gI fun i j Q => CPow i j ∧ Q (.int (i ^ j.toNat))
def gLt := gI fun i j Q => Q (.bool (decide (i < j)))
def gLe := gI fun i j Q => Q (.bool (decide (i ≤ j)))
def gGt := gI fun i j Q => Q (.bool (decide (j < i)))
def gGe := gI fun i j Q => Q (.bool (decide (j ≤ i)))
theorem pr_sub : PureR (rI0 fun i j => .int (i - j)) gMinus := pr_I0 fun i j Q h => ⟨_, fun _ _ => .int _, h⟩
theorem pr_lt : PureR (rI0 fun i j => .bl (decide (i < j))) gLt := pr_I0 fun i j Q h => ⟨_, fun _ _ => .bl _, h⟩
theorem pr_le : PureR (rI0 fun i j => .bl (decide (i ≤ j))) gLe := pr_I0 fun i j Q h => ⟨_, fun _ _ => .bl _, h⟩
theorem pr_gt : PureR (rI0 fun i j => .bl (decide (j < i))) gGt := pr_I0 fun i j Q h => ⟨_, fun _ _ => .bl _, h⟩
theorem pr_ge : PureR (rI0 fun i j => .bl (decide (j ≤ i))) gGe := pr_I0 fun i j Q h => ⟨_, fun _ _ => .bl _, h⟩
theorem pr_mod : PureR (rI (fun _ j => j ≠ 0) fun i j => .int (i.fmod j)) gMod := pr_I fun i j Q h => by
  refine ⟨h.1, _, fun _ _ => .int _, ?_⟩
  have h2 := h.2
  split at h2
  · rename_i hj; rw [Int.fmod_eq_emod_of_nonneg i (by omega)]; exact h2
  · exact h2
theorem pr_pow : PureR (rI CPow fun i j => .int (i ^ j.toNat)) gPow := pr_I fun i j Q h => ⟨h.1, _, fun _ _ => .int _, h.2⟩
theorem op_fdivA {X : Cx} : OpR X (binaryOp .FloorDiv) (rI (fun _ j => j ≠ 0 ∧ j.natAbs.log2 < 9000) fun i j => .int (i.fdiv j)) := opI fun _ _ _ _ _ _ _ hc q => PyProof.Rows.floordiv_int hc.1 q (.inl (PyProof.noPylong_of_log2 hc.2))
theorem pr_fdiv : PureR (rI (fun _ j => j ≠ 0 ∧ j.natAbs.log2 < 9000) fun i j => .int (i.fdiv j)) gFdiv := pr_I fun i j Q h => by
  refine ⟨⟨h.1, h.2.1⟩, _, fun _ _ => .int _, ?_⟩
  have h2 := h.2.2
  split at h2
  · rename_i hj; rw [Int.fdiv_eq_ediv_of_nonneg i (by omega)]; exact h2
  · exact h2
def gNeg : D → (D → Prop) → Prop
  | .int i, Q => Q (.int (-i))
  | _, _ => False
theorem pu_neg : PureU (rU fun i => .int (-i)) gNeg := by
  intro Z S H x a Qd Q w ra hf k
  cases a <;> first | exact hf.elim | skip
  cases ra.int
  exact ⟨_, rfl, k _ _ S H (.refl w) (.int _) hf⟩

/-! ### + and * -/
def gAdd : D → D → (SV → Prop) → Prop
  | .int i, .int j, Q => Q (.v (.int (i + j)))
  | .tuple xs, .tuple ys, Q => lineOk (xs.length + ys.length) ∧ Q (.v (.tuple (xs ++ ys)))
  | .list xs, .list ys, Q => lineOk (xs.length + ys.length) ∧ Q (.own (xs ++ ys))
  | .str x, .str y, Q => lineOk (x.length + y.length) ∧ Q (.v (.str (x ++ y)))
  | _, _, _ => False
def rAddA (K : PySem.W.Frag) : R2 := fun x y H Q => rI0 (fun i j => .int (i + j)) x y H Q ∨ (rCatA K x y H Q ∨ (rCat x y H Q ∨ ∃ i j, x = .str i ∧ y = .str j ∧ i.length + j.length ≤ sizeLine ∧ Q (.str (i ++ j)) H))
theorem op_addA {X : Cx} : OpR X (binaryOp .Add) (rAddA X.K) := op_add.or (op_catA.or (op_cat.or op_add_str))
theorem pr_add {K : PySem.W.Frag} : PureRF (rAddA K) gAdd := by
  intro K' Z S H x y a b Qd Q w ra rb hf k
  cases a <;> first | exact hf.elim | skip
  · cases b <;> first | exact hf.elim | skip
    cases ra.int
    cases rb.int
    exact .inl ⟨_, _, rfl, rfl, k _ (.v _) S H (.refl w) (Rep.int _) hf⟩
  · cases b <;> first | exact hf.elim | skip
    cases ra.str
    cases rb.str
    exact .inr (.inr (.inr ⟨_, _, rfl, rfl, hf.1, k _ (.v _) S H (.refl w) (Rep.str _) hf.2⟩))
  · cases b <;> first | exact hf.elim | skip
    obtain ⟨p, vs, rfl, hp, r1⟩ := ra.list
    obtain ⟨q, us, rfl, hq, r2⟩ := rb.list
    refine .inr (.inr (.inl ⟨p, q, vs, us, rfl, rfl, hp, hq, by rw [r1.length, r2.length]; exact hf.1, fun l hl => ?_⟩))
    exact k _ _ _ _ (Wx.lay w hl) (Wx.newOwn w hl (r1.append r2)) hf.2
  · cases b <;> first | exact hf.elim | skip
    rename_i xs ys
    obtain ⟨p, vs, rfl, sp, hp, r1⟩ := ra.tuple
    obtain ⟨q, us, rfl, sq, hq, r2⟩ := rb.tuple
    refine .inr (.inl ⟨p, q, vs, us, rfl, rfl, SqT.of hp, SqT.of hq, by rw [r1.length, r2.length]; exact hf.1, fun e => ?_, fun _ e => ?_, fun _ _ l hl => ?_⟩)
    · subst e
      cases r1
      exact k _ (.v _) S H (.refl w) (Rep.tup sq hq r2) hf.2
    · subst e
      cases r2
      have h2 := hf.2
      rw [List.append_nil] at h2
      exact k _ (.v _) S H (.refl w) (Rep.tup sp hp r1) h2
    · exact k _ (.v _) _ _ (Wx.layS w hl) (Wx.newTup w hl (r1.append r2)) hf.2
def gMul : D → D → (SV → Prop) → Prop
  | .int i, .int j, Q => IntMulOk i j ∧ Q (.v (.int (i * j)))
  | .tuple xs, .int k, Q => -1000 ≤ k ∧ k ≤ 1000 ∧ xs.length ≤ 1000 ∧ Q (.v (.tuple (List.replicate k.toNat xs).flatten))
  | .list xs, .int k, Q => -1000 ≤ k ∧ k ≤ 1000 ∧ xs.length ≤ 1000 ∧ Q (.own (List.replicate k.toNat xs).flatten)
  | _, _, _ => False
def rMulA (K : PySem.W.Frag) : R2 := fun x y H Q => rI IntMulOk (fun i j => .int (i * j)) x y H Q ∨ (rRepA K x y H Q ∨ rRep x y H Q)
theorem op_mulA {X : Cx} : OpR X (binaryOp .Mult) (rMulA X.K) := (opI (f := binaryOp .Mult) (C := IntMulOk) (g := fun i j => i * j) fun _ _ _ _ _ _ _ hc q => PyProof.Rows.mul_int q hc).or (op_repA.or op_rep)
theorem flat_nil {α : Type} (k : Nat) : (List.replicate k ([] : List α)).flatten = [] := by
  induction k with
  | zero => rfl
  | succ k ih => rw [List.replicate_succ, List.flatten_cons, ih]; rfl
theorem flat_one {α : Type} (xs : List α) : (List.replicate 1 xs).flatten = xs := by simp
theorem pr_mul {K : PySem.W.Frag} : PureRF (rMulA K) gMul := by
  intro K' Z S H x y a b Qd Q w ra rb hf k
  cases a <;> first | exact hf.elim | skip
  · cases b <;> first | exact hf.elim | skip
    cases ra.int
    cases rb.int
    exact .inl ⟨_, _, rfl, rfl, hf.1, k _ (.v _) S H (.refl w) (Rep.int _) hf.2⟩
  · cases b <;> first | exact hf.elim | skip
    rename_i xs n
    obtain ⟨p, vs, rfl, hp, r1⟩ := ra.list
    cases rb.int
    obtain ⟨h1, h2, h3, h4⟩ := hf
    refine .inr (.inr ⟨p, n, vs, rfl, rfl, hp, by omega, by omega, ?_, fun l hl => ?_⟩)
    · rw [r1.length, sizeLine_eq]
      have a1 : xs.length * n.toNat ≤ 1000 * 1000 := Nat.mul_le_mul h3 (by omega)
      omega
    exact k _ _ _ _ (Wx.lay w hl) (Wx.newOwn w hl (r1.rep _)) h4
  · cases b <;> first | exact hf.elim | skip
    rename_i xs n
    obtain ⟨p, vs, rfl, sp, hp, r1⟩ := ra.tuple
    cases rb.int
    obtain ⟨h1, h2, h3, h4⟩ := hf
    refine .inr (.inl ⟨p, n, vs, rfl, rfl, SqT.of hp, h1, h2, by rw [r1.length]; exact h3, fun e => ?_, fun _ _ l hl => ?_⟩)
    · refine k _ (.v _) S H (.refl w) (Rep.tup sp hp r1) ?_
      rcases e with e | e
      · subst e
        cases r1
        rw [flat_nil] at h4
        exact h4
      · subst e
        have e1 : (1 : Int).toNat = 1 := rfl
        rw [e1, flat_one] at h4
        exact h4
    · exact k _ (.v _) _ _ (Wx.layS w hl) (Wx.newTup w hl (r1.rep _)) h4

/-! ### subscripts -/
def gIx : D → D → (D → Prop) → Prop
  | .list ds, .int k, Q => match atI ds k with
    | some d => Q d
    | none => False
  | .tuple ds, .int k, Q => match atI ds k with
    | some d => Q d
    | none => False
  | .str z, .int k, Q => lineOk z.length ∧ match atI z.cps.toList k with
    | some c => Q (.str ⟨#[c]⟩)
    | none => False
  | _, _, _ => False
theorem pr_ix {K : PySem.W.Frag} : PureR (rIx K) gIx := by
  intro Z S H x y a b Qd Q w ra rb hf k
  cases a <;> first | exact hf.elim | skip
  · cases b <;> first | exact hf.elim | skip
    rename_i z n
    cases ra.str
    cases rb.int
    have h1 : lineOk z.length := hf.1
    have h2 := hf.2
    cases e : atI z.cps.toList n with
    | none => rw [e] at h2; exact h2.elim
    | some c =>
      rw [e] at h2
      exact .inr (.inr ⟨z, n, c, rfl, rfl, h1, e, k _ _ S H (.refl w) (.str _) h2⟩)
  · cases b <;> first | exact hf.elim | skip
    rename_i xs n
    obtain ⟨p, vs, rfl, hp, r1⟩ := ra.list
    cases rb.int
    unfold gIx at hf
    cases e : atI xs n with
    | none => simp only [e] at hf
    | some d =>
      simp only [e] at hf
      obtain ⟨v, hv, rv⟩ := r1.atI e
      exact .inl ⟨p, vs, n, v, rfl, rfl, SqL.of hp, hv, k _ _ S H (.refl w) rv hf⟩
  · cases b <;> first | exact hf.elim | skip
    rename_i xs n
    obtain ⟨p, vs, rfl, sp, hp, r1⟩ := ra.tuple
    cases rb.int
    unfold gIx at hf
    cases e : atI xs n with
    | none => simp only [e] at hf
    | some d =>
      simp only [e] at hf
      obtain ⟨v, hv, rv⟩ := r1.atI e
      exact .inr (.inl ⟨p, vs, n, v, rfl, rfl, SqT.of hp, hv, k _ _ S H (.refl w) rv hf⟩)
theorem de_ix {X : Cx} {a b : Expr} {fa fb : PTE} {ta tb : TE} {pos : Pos} (ha : DB X a ta fa) (hb : DB X b tb fb) (hs : PlainIx b := by exact fun _ _ => rfl) : DE X (.Subscript a b pos) (tOp (rIx X.K) ta tb) (pOp gIx fa fb) :=
  ⟨pe_ix ix_seq ha.pe hb.pe hs, .op pr_ix ha.pu hb.pu⟩

/-! ### slices -/
abbrev PTO := Env → (Option Int → Prop) → Prop
def PureO (K : PySem.W.Frag) (t : TO) (f : PTO) : Prop := ∀ (Z O S : Fp) (σ : St) (H : Hp) (env : Env) (Qd : Option Int → Prop) (Q : Option Int → Hp → Prop), Wd Z S H → RepEnv K Z O S H σ env → f env Qd →
  (∀ o S' H', Wx Z S H S' H' → Qd o → Q o H') → t σ H Q
structure DO (X : Cx) (e : Option Expr) (t : TO) (f : PTO) : Prop where
  pe : PO X e t
  pu : PureO X.K t f
def pNoPart : PTO := fun _ Q => Q none
def pPart (f : PTE) : PTO := fun env Q => f env fun d => match d with
  | .int i => Q (some i)
  | _ => False
def cutD (xs : List D) (lo hi : Option Int) : List D := (xs.drop (HT.sIx xs.length 0 lo)).take (HT.sIx xs.length xs.length hi - HT.sIx xs.length 0 lo)
def gSl : D → Option Int → Option Int → (SV → Prop) → Prop
  | .list xs, lo, hi, Q => Q (.own (cutD xs lo hi))
  | .tuple xs, lo, hi, Q => Q (.v (.tuple (cutD xs lo hi)))
  | _, _, _, _ => False
def pSl (f : PTE) (l h : PTO) : PTF := fun env Q => f env fun d => l env fun lo => h env fun hi => gSl d lo hi Q
def rSlAny (K : PySem.W.Frag) : V → Option Int → Option Int → Hp → VK → Prop := fun x lo hi H Q => rSlL K x lo hi H Q ∨ rSlA K x lo hi H Q
theorem cut_eq {S : Fp} {H : Hp} {vs : List V} {ds : List D} (r : Reps S H vs ds) (lo hi : Option Int) : Reps S H (cutV vs lo hi) (cutD ds lo hi) := by
  unfold cutV cutD
  rw [r.length]
  exact (r.drop _).take _
section
variable {X : Cx} {e : Expr} {te : TE} {f : PTE} {lo hi : Option Expr} {tl th : TO} {fl fh : PTO} {pos p2 : Pos}
theorem do_none : DO X none tNoPart pNoPart := ⟨po_none, fun Z O S σ H env Qd Q w rr hf k => k none S H (.refl w) hf⟩
theorem do_some (h : DE X e te f) : DO X (some e) (tPart te) (pPart f) := by
  refine ⟨po_some h.pe, fun Z O S σ H env Qd Q w rr hf k => ?_⟩
  refine h.pu Z O S σ H env _ _ w rr hf fun v d S1 H1 x1 r1 q1 => ?_
  cases d with
  | int i =>
    cases r1
    exact ⟨i, rfl, k _ S1 H1 x1 q1⟩
  | _ => exact q1.elim
theorem df_slice (he : DB X e te f) (hl : DO X lo tl fl) (hh : DO X hi th fh) : DF X (.Subscript e (.Slice lo hi none p2) pos) (tSl (rSlAny X.K) te tl th) (pSl f fl fh) := by
  refine ⟨pe_slice (sl_list.or sl_tupA) he.pe hl.pe hh.pe, fun Z O S σ H env Qd Q w rr hf k => ?_⟩
  refine he.pu Z O S σ H env _ _ w rr hf fun v d S1 H1 x1 r1 q1 => ?_
  refine hl.pu Z O S1 σ H1 env _ _ x1.wd (rr.wx w x1) q1 fun l S2 H2 x2 q2 => ?_
  refine hh.pu Z O S2 σ H2 env _ _ x2.wd ((rr.wx w x1).wx x1.wd x2) q2 fun u S3 H3 x3 q3 => ?_
  have r3 := (r1.wx x2).wx x3
  have x13 := (x1.trans x2).trans x3
  have w3 := x3.wd
  cases d <;> first | exact q3.elim | skip
  · obtain ⟨p, vs, rfl, hp, r1⟩ := r3.list
    exact .inl ⟨p, vs, rfl, SqL.of hp, fun l hl => k _ _ _ _ (x13.trans (Wx.lay w3 hl)) (x13.freshen (Wx.newOwn w3 hl (cut_eq r1 _ _))) q3⟩
  · rename_i xs
    obtain ⟨p, vs, rfl, sp, hp, r1⟩ := r3.tuple
    refine .inr ⟨p, vs, rfl, SqT.of hp, fun hw => ?_, fun _ l hl => k _ (.v _) _ _ (x13.trans (Wx.layS w3 hl)) (Wx.newTup w3 hl (cut_eq r1 _ _)) q3⟩
    refine k _ (.v _) S3 H3 x13 (Rep.tup sp hp r1) ?_
    have e : cutD xs l u = xs := by
      have hl := r1.length
      unfold cutD
      rw [← hl, hw.1, hw.2, hl]
      simp
    have q3' : Qd (.v (.tuple (cutD xs l u))) := q3
    rw [e] at q3'
    exact q3'
end

/-! ### in -/
def gIn (neg : Bool) : D → D → (D → Prop) → Prop
  | .str x, .str y, Q => ∃ c, x = ⟨#[c]⟩ ∧ Q (.bool (if neg then !decide (c ∈ y.cps.toList) else decide (c ∈ y.cps.toList)))
  | d, .list xs, Q => shp 19 d ∧ (∀ x ∈ xs, shp 19 x) ∧ Q (.bool (if neg then !xs.any (eqb d) else xs.any (eqb d)))
  | d, .tuple xs, Q => shp 19 d ∧ (∀ x ∈ xs, shp 19 x) ∧ Q (.bool (if neg then !xs.any (eqb d) else xs.any (eqb d)))
  | _, _, _ => False
def rInA (K : PySem.W.Frag) (neg : Bool) : R2 := fun x y H Q => (∃ (c : Nat) (z : Str), x = .str ⟨#[c]⟩ ∧ y = .str z ∧ Q (.bl (if neg then !decide (c ∈ z.cps.toList) else decide (c ∈ z.cps.toList))) H) ∨
  (∃ d xs, Dp K H x d ∧ (Dp K H y (.list xs) ∨ Dp K H y (.tuple xs)) ∧ d.plain = true ∧ PyData.plainAll xs = true ∧ d.depth ≤ 30 ∧ Q (.bl (if neg then !xs.any fun y => PyData.eqv y d else xs.any fun y => PyData.eqv y d)) H)
section
variable {X : Cx} {K : PySem.W.Frag}
theorem op_inA (hu : X.A.units + 64 < cLine) : OpR X (compareOp .In) (rInA X.K false) := by
  intro pins s σ H x y v u Q I rx ry h
  rcases h with h | ⟨d, xs, hd, hy, pd, pxs, hz, q⟩
  · exact op_in_sign pins s σ H x y v u Q I rx ry h
  · obtain ⟨as, r1⟩ := Dp.reads I d x v hd rx
    have hm : X.A.units + 1 + min (PyData.depthAll xs) d.depth < cLine := by have := Nat.min_le_right (PyData.depthAll xs) d.depth; omega
    rcases hy with hy | hy
    · obtain ⟨bs, r2⟩ := Dp.reads I _ y u hy ry
      exact SeqAt.in_list_data r2 r1 pxs pd hm ⟨.bl _, H, I, rfl, q⟩
    · obtain ⟨bs, r2⟩ := Dp.reads I _ y u hy ry
      exact SeqAt.in_tuple_data r2 r1 pxs pd hm ⟨.bl _, H, I, rfl, q⟩
theorem op_notInA (hu : X.A.units + 64 < cLine) : OpR X (compareOp .NotIn) (rInA X.K true) := by
  intro pins s σ H x y v u Q I rx ry h
  rcases h with h | ⟨d, xs, hd, hy, pd, pxs, hz, q⟩
  · exact op_notIn_sign pins s σ H x y v u Q I rx ry h
  · obtain ⟨as, r1⟩ := Dp.reads I d x v hd rx
    have hm : X.A.units + 1 + min (PyData.depthAll xs) d.depth < cLine := by have := Nat.min_le_right (PyData.depthAll xs) d.depth; omega
    rcases hy with hy | hy
    · obtain ⟨bs, r2⟩ := Dp.reads I _ y u hy ry
      exact SeqAt.notIn_list_data r2 r1 pxs pd hm ⟨.bl _, H, I, rfl, q⟩
    · obtain ⟨bs, r2⟩ := Dp.reads I _ y u hy ry
      exact SeqAt.notIn_tuple_data r2 r1 pxs pd hm ⟨.bl _, H, I, rfl, q⟩
theorem any_eqb {n m : Nat} {d : D} (hd : shp n d) : ∀ (xs : List D), (∀ x ∈ xs, shp m x) → (xs.any fun y => PyData.eqv y d) = xs.any (eqb d)
  | [], _ => rfl
  | x :: xs, h => by
    rw [List.any_cons, List.any_cons, eqv_eqb (h x List.mem_cons_self) hd, eqb_comm, any_eqb hd xs fun y hy => h y (List.mem_cons_of_mem _ hy)]
theorem plainAll_shp {n : Nat} : ∀ (xs : List D), (∀ x ∈ xs, shp n x) → PyData.plainAll xs = true
  | [], _ => rfl
  | x :: xs, h => by
    rw [PyData.plainAll, shp_plain n x (h x List.mem_cons_self), plainAll_shp xs fun y hy => h y (List.mem_cons_of_mem _ hy)]; rfl
theorem pr_in (neg : Bool) : PureR (rInA K neg) (gIn neg) := by
  intro Z S H x y a b Qd Q w ra rb hf k
  have seq : ∀ xs, (b = .list xs ∨ b = .tuple xs) → shp 19 a ∧ (∀ x ∈ xs, shp 19 x) ∧ Qd (.bool (if neg then !xs.any (eqb a) else xs.any (eqb a))) → rInA K neg x y H Q := fun xs hb h => by
    obtain ⟨h1, h2, h3⟩ := h
    have p := plainAll_shp xs h2
    refine .inr ⟨a, xs, ra.dp (shp_plain _ _ h1), ?_, shp_plain _ _ h1, p, Nat.le_trans (shp_depth _ _ h1) (by decide), k _ _ S H (.refl w) (.bl _) (by rw [any_eqb h1 xs h2]; exact h3)⟩
    rcases hb with rfl | rfl
    · exact .inl (rb.dp (by simp only [PyData.plain]; exact p))
    · exact .inr (rb.dp (by simp only [PyData.plain]; exact p))
  cases b <;> first | (exfalso; cases a <;> exact hf.elim) | skip
  · cases a <;> first | exact hf.elim | skip
    obtain ⟨c, rfl, q⟩ := hf
    cases ra.str
    cases rb.str
    exact .inl ⟨c, _, rfl, rfl, k _ _ S H (.refl w) (.bl _) q⟩
  · rename_i xs
    exact seq xs (.inl rfl) (by cases a <;> exact hf)
  · rename_i xs
    exact seq xs (.inr rfl) (by cases a <;> exact hf)
end
end DL
/-! ## DL4 -/
set_option Elab.async false
set_option linter.all false
set_option maxRecDepth 100000
set_option maxHeartbeats 4000000
/-! DL4: walks, comprehensions, statements, defs. -/
namespace DL
open PySem L2 RZ RT

/-! ### what is walked -/
abbrev PTI := Env → (List D → Prop) → Prop
/-- the walk gives the data ds, as long as S stands -/
def ItOk (Z : Fp) (J : It) (ds : List D) (S : Fp) (H : Hp) : Prop := ∀ S1 H1, Ws S H S1 H1 → Wd Z S1 H1 →
  (∀ i d, ds[i]? = some d → J.go i H1 ∧ ∀ x H2, J.yld i H1 x H2 → ∃ S2, Wx Z S1 H1 S2 H2 ∧ Rep S2 H2 x d) ∧ J.stop ds.length H1
def PureI (K : PySem.W.Frag) (wi : TI) (f : PTI) : Prop := ∀ (Z O S : Fp) (σ : St) (H : Hp) (env : Env) (Qd : List D → Prop) (R : It → Hp → Prop), Wd Z S H → RepEnv K Z O S H σ env → f env Qd →
  (∀ J ds S' H', Wx Z S H S' H' → ItOk Z J ds S' H' → Qd ds → R J H') → wi σ H R
structure DI (X : Cx) (tg iter : Expr) (wi : TI) (f : PTI) : Prop where
  pi : PI X tg iter wi
  pu : PureI X.K wi f
/-- a list or a tuple -/
def iAny (K : PySem.W.Frag) (tl : TE) : TI := fun σ H R => tl σ H fun x H1 => ∃ a, x = .ref a ∧ (((∃ xs, SqL K H1 a xs) ∧ R (Itl K a) H1) ∨ ((∃ xs, SqT K H1 a xs) ∧ R (Itt K a) H1))
theorem pi_any {X : Cx} {tg l : Expr} {tl : TE} (hl : PE X l tl) : PI X tg l (iAny X.K tl) := by
  refine ⟨fun pins s σ H R I h => ?_⟩
  refine thn (hl.run pins s σ H _ I h) fun v s1 ⟨x, H1, I1, r1, q1⟩ => ?_
  obtain ⟨a, e, q1⟩ := q1
  subst e
  cases r1
  rcases q1 with ⟨⟨xs, hq⟩, q⟩ | ⟨⟨xs, hq⟩, q⟩
  · obtain ⟨its, rv, p, hz⟩ := I1.list hq
    refine wpAny_pyIter_list p.isList ?_
    refine ⟨s1.heap.objs.size, [s1.heap.objs.size], _, _, H1, rfl, I1.kept (t' := s1.toks) fun b o e => Heap.get?_push_of_some _ e, turn_list a _, ⟨_, Heap.get?_push_size _ rfl, rfl, rfl⟩, fun b hb => ?_, q⟩
    have e : b = s1.heap.objs.size := by simpa using hb
    subst e
    exact I1.fpOk (Nat.le_refl _) (I1.hok.fresh (Nat.le_refl _))
  · obtain ⟨its, rv, p, hz⟩ := I1.tuple hq
    refine wpAny_pyIter_tuple (show s1.heap.IsTuple a its.toArray from p) ?_
    refine ⟨s1.heap.objs.size, [s1.heap.objs.size], _, _, H1, rfl, I1.kept (t' := s1.toks) fun b o e => Heap.get?_push_of_some _ e, turn_tuple a _, ⟨_, Heap.get?_push_size _ rfl, rfl, rfl⟩, fun b hb => ?_, q⟩
    have e : b = s1.heap.objs.size := by simpa using hb
    subst e
    exact I1.fpOk (Nat.le_refl _) (I1.hok.fresh (Nat.le_refl _))
/-- the items of a list or a tuple -/
def gItems : D → (List D → Prop) → Prop
  | .list xs, Q => Q xs
  | .tuple xs, Q => Q xs
  | _, _ => False
def pIter (f : PTE) : PTI := fun env Q => f env fun d => gItems d Q
section
variable {K : PySem.W.Frag} {Z S : Fp} {H : Hp} {a : Addr} {vs : List V} {ds : List D}
theorem ItOk.list (s : S a) (h : H a = some (.lst vs)) (r : Reps S H vs ds) : ItOk Z (Itl K a) ds S H := by
  intro S1 H1 x w1
  have h1 := x.keep a _ s h
  have r1 := r.ws x
  refine ⟨fun i d e => ?_, ⟨vs, SqL.of h1, by rw [r.length]; exact Nat.le_refl _⟩⟩
  obtain ⟨v, hv, rv⟩ := r1.get e
  refine ⟨⟨vs, v, SqL.of h1, hv⟩, fun y H2 q => ?_⟩
  obtain ⟨rfl, q⟩ := q
  have := q vs (SqL.of h1)
  rw [hv] at this
  cases this
  exact ⟨S1, .refl w1, rv⟩
theorem ItOk.tup (s : S a) (h : H a = some (.tup vs)) (r : Reps S H vs ds) : ItOk Z (Itt K a) ds S H := by
  intro S1 H1 x w1
  have h1 := x.keep a _ s h
  have r1 := r.ws x
  refine ⟨fun i d e => ?_, ⟨vs, SqT.of h1, by rw [r.length]; exact Nat.le_refl _⟩⟩
  obtain ⟨v, hv, rv⟩ := r1.get e
  refine ⟨⟨vs, v, SqT.of h1, hv⟩, fun y H2 q => ?_⟩
  obtain ⟨rfl, q⟩ := q
  have := q vs (SqT.of h1)
  rw [hv] at this
  cases this
  exact ⟨S1, .refl w1, rv⟩
theorem ItOk.revL (s : S a) (h : H a = some (.lst vs)) (r : Reps S H vs ds) : ItOk Z (Itv K a vs.length) ds.reverse S H := by
  intro S1 H1 x w1
  have h1 := x.keep a _ s h
  have r1 := r.ws x
  have hl := r.length
  refine ⟨fun i d e => ?_, by show vs.length ≤ _; simp [hl]⟩
  have hi : i < ds.length := by
    have := (List.getElem?_eq_some_iff.mp e).1
    simpa using this
  rw [List.getElem?_reverse hi] at e
  obtain ⟨v, hv, rv⟩ := r1.get e
  rw [← hl] at hv
  refine ⟨⟨by omega, vs, v, SqL.of h1, hv⟩, fun y H2 q => ?_⟩
  obtain ⟨rfl, q⟩ := q
  have := q vs (SqL.of h1)
  rw [hv] at this
  cases this
  exact ⟨S1, .refl w1, rv⟩
theorem ItOk.revT (s : S a) (h : H a = some (.tup vs)) (r : Reps S H vs ds) : ItOk Z (ItvT K a vs.length) ds.reverse S H := by
  intro S1 H1 x w1
  have h1 := x.keep a _ s h
  have r1 := r.ws x
  have hl := r.length
  refine ⟨fun i d e => ?_, by show vs.length ≤ _; simp [hl]⟩
  have hi : i < ds.length := by
    have := (List.getElem?_eq_some_iff.mp e).1
    simpa using this
  rw [List.getElem?_reverse hi] at e
  obtain ⟨v, hv, rv⟩ := r1.get e
  rw [← hl] at hv
  refine ⟨⟨by omega, vs, v, SqT.of h1, hv⟩, fun y H2 q => ?_⟩
  obtain ⟨rfl, q⟩ := q
  have := q vs (SqT.of h1)
  rw [hv] at this
  cases this
  exact ⟨S1, .refl w1, rv⟩
end
section
variable {X : Cx} {tg e e2 : Expr} {te te2 : TE} {f f2 : PTE} {K : PySem.W.Frag} {pos p tpos : Pos}
theorem di_any (h : DE X e te f) : DI X tg e (iAny X.K te) (pIter f) := by
  refine ⟨pi_any h.pe, fun Z O S σ H env Qd R w rr hf k => ?_⟩
  refine h.pu Z O S σ H env _ _ w rr hf fun v d S1 H1 x1 r1 q1 => ?_
  cases r1 <;> first | exact q1.elim | skip
  · rename_i a vs ds s h r
    exact ⟨a, rfl, .inl ⟨⟨vs, SqL.of h⟩, k _ ds S1 H1 x1 (.list s h r) q1⟩⟩
  · rename_i a vs ds s h r
    exact ⟨a, rfl, .inr ⟨⟨vs, SqT.of h⟩, k _ ds S1 H1 x1 (.tup s h r) q1⟩⟩
def pRev (f : PTE) : PTI := fun env Q => f env fun d => gItems d fun ds => Q ds.reverse
theorem di_rev (hg : Gl X "reversed") (hm : X.mg "reversed" = none) (h : DE X e te f) (hs : starEach [e] X.env = (false, eval e X.env) :: starEach [] X.env := by rfl) : DI X tg (.Call (.Name "reversed" p) [e] [] pos) (iRevA X.K te) (pRev f) := by
  refine ⟨pi_revA hg hm h.pe hs, fun Z O S σ H env Qd R w rr hf k => ?_⟩
  refine h.pu Z O S σ H env _ _ w rr hf fun v d S1 H1 x1 r1 q1 => ?_
  cases r1 <;> first | exact q1.elim | skip
  · rename_i a vs ds s h r
    exact ⟨a, vs, rfl, .inl ⟨SqL.of h, k _ _ S1 H1 x1 (.revL s h r) q1⟩⟩
  · rename_i a vs ds s h r
    exact ⟨a, vs, rfl, .inr ⟨SqT.of h, k _ _ S1 H1 x1 (.revT s h r) q1⟩⟩
/-- range -/
def rngD (lo : Int) (n : Nat) : List D := (List.range n).map fun (i : Nat) => PyData.int (lo + (i : Int))
theorem rngD_get {lo : Int} {n i : Nat} {d : D} (h : (rngD lo n)[i]? = some d) : i < n ∧ d = .int (lo + (i : Int)) := by
  unfold rngD at h
  rw [List.getElem?_map] at h
  cases q : (List.range n)[i]? with
  | none => rw [q] at h; cases h
  | some j =>
    rw [q] at h
    obtain ⟨h1, h2⟩ := List.getElem?_eq_some_iff.mp q
    rw [List.getElem_range] at h2
    subst h2
    rw [List.length_range] at h1
    exact ⟨h1, (Option.some.inj h).symm⟩
@[simp] theorem rngD_length (lo : Int) (n : Nat) : (rngD lo n).length = n := by simp [rngD]
theorem ItOk.rng {Z S : Fp} {H : Hp} (lo : Int) (n : Nat) : ItOk Z (Itr lo n) (rngD lo n) S H := by
  intro S1 H1 x w1
  refine ⟨fun i d e => ?_, by show n ≤ _; simp⟩
  obtain ⟨h1, rfl⟩ := rngD_get e
  refine ⟨h1, fun y H2 q => ?_⟩
  obtain ⟨rfl, rfl⟩ := q
  exact ⟨S1, .refl w1, .int _⟩
def pRange1 (f : PTE) : PTI := fun env Q => f env fun d => match d with
  | .int n => (-(2 ^ 62) ≤ n ∧ n < 2 ^ 62) ∧ Q (rngD 0 n.toNat)
  | _ => False
def pRange2 (f g : PTE) : PTI := fun env Q => f env fun d => g env fun e => match d, e with
  | .int i, .int j => (-(2 ^ 62) ≤ i ∧ i < 2 ^ 62 ∧ -(2 ^ 62) ≤ j ∧ j < 2 ^ 62) ∧ Q (rngD i (j - i).toNat)
  | _, _ => False
theorem di_range1 (hg : Gl X "range") (hm : X.mg "range" = none) (h : DE X e te f) (hs : starEach [e] X.env = [(false, eval e X.env)] := by rfl) : DI X tg (.Call (.Name "range" p) [e] [] pos) (iRng1 (tCons te tNil)) (pRange1 f) := by
  refine ⟨pi_range1 hg hm (pa_cons h.pe pa_nil hs) hs, fun Z O S σ H env Qd R w rr hf k => ?_⟩
  refine h.pu Z O S σ H env _ _ w rr hf fun v d S1 H1 x1 r1 q1 => ?_
  cases r1 <;> first | exact q1.elim | skip
  exact ⟨_, rfl, q1.1.1, q1.1.2, k _ _ S1 H1 x1 (.rng _ _) q1.2⟩
theorem di_range2 (hg : Gl X "range") (hm : X.mg "range" = none) (h : DE X e te f) (h2 : DE X e2 te2 f2) (hs : starEach [e, e2] X.env = [(false, eval e X.env), (false, eval e2 X.env)] := by rfl) (hs2 : starEach [e2] X.env = [(false, eval e2 X.env)] := by rfl) :
    DI X tg (.Call (.Name "range" p) [e, e2] [] pos) (iRng2 (tCons te (tCons te2 tNil))) (pRange2 f f2) := by
  refine ⟨pi_range2 hg hm (pa_cons h.pe (pa_cons h2.pe pa_nil hs2) (by rw [hs, hs2])) hs hs2, fun Z O S σ H env Qd R w rr hf k => ?_⟩
  refine h.pu Z O S σ H env _ _ w rr hf fun v d S1 H1 x1 r1 q1 => ?_
  refine h2.pu Z O S1 σ H1 env _ _ x1.wd (rr.wx w x1) q1 fun u d2 S2 H2 x2 r2 q2 => ?_
  cases r1 <;> first | exact q2.elim | skip
  cases r2 <;> first | exact q2.elim | skip
  exact ⟨_, _, rfl, q2.1, k _ _ S2 H2 (x1.trans x2) (.rng _ _) q2.2⟩
/-- zip -/
def pairs (xs ys : List D) : List D := (xs.zip ys).map fun p => .tuple [p.1, p.2]
theorem pairs_get {xs ys : List D} {i : Nat} {d : D} (h : (pairs xs ys)[i]? = some d) : ∃ x y, xs[i]? = some x ∧ ys[i]? = some y ∧ d = .tuple [x, y] := by
  unfold pairs at h
  rw [List.getElem?_map] at h
  cases q : (xs.zip ys)[i]? with
  | none => rw [q] at h; cases h
  | some pr =>
    rw [q] at h
    rw [List.getElem?_zip_eq_some] at q
    exact ⟨pr.1, pr.2, q.1, q.2, (Option.some.inj h).symm⟩
theorem pairs_length (xs ys : List D) : (pairs xs ys).length = min xs.length ys.length := by simp [pairs]
def pZip (f g : PTE) : PTI := fun env Q => f env fun d => g env fun e => match d, e with
  | .list xs, .list ys => Q (pairs xs ys)
  | .tuple xs, .tuple ys => Q (pairs xs ys)
  | _, _ => False
theorem ItOk.zipL {Z S : Fp} {H : Hp} {a b : Addr} {vs us : List V} {ds es : List D} (sa : S a) (ha : H a = some (.lst vs)) (ra : Reps S H vs ds) (sb : S b) (hb : H b = some (.lst us)) (rb : Reps S H us es) : ItOk Z (Itz K a b) (pairs ds es) S H := by
  intro S1 H1 x w1
  have h1 := x.keep a _ sa ha
  have h2 := x.keep b _ sb hb
  have r1 := ra.ws x
  have r2 := rb.ws x
  refine ⟨fun i d e => ?_, ⟨vs, us, SqL.of h1, SqL.of h2, by rw [pairs_length, ra.length, rb.length]; omega⟩⟩
  obtain ⟨p, q, e1, e2, rfl⟩ := pairs_get e
  obtain ⟨v, hv, rv⟩ := r1.get e1
  obtain ⟨u, hu, ru⟩ := r2.get e2
  refine ⟨⟨vs, us, v, u, SqL.of h1, SqL.of h2, hv, hu⟩, fun y H2 q => ?_⟩
  obtain ⟨T, v', u', rfl, hT, rfl, qa, qb⟩ := q
  have ea := qa vs (SqL.of h1)
  have eb := qb us (SqL.of h2)
  rw [hv] at ea; cases ea
  rw [hu] at eb; cases eb
  exact ⟨_, Wx.layS w1 hT, Wx.newTup w1 hT (.cons rv (.cons ru .nil))⟩
theorem ItOk.zipT {Z S : Fp} {H : Hp} {a b : Addr} {vs us : List V} {ds es : List D} (sa : S a) (ha : H a = some (.tup vs)) (ra : Reps S H vs ds) (sb : S b) (hb : H b = some (.tup us)) (rb : Reps S H us es) : ItOk Z (ItzT K a b) (pairs ds es) S H := by
  intro S1 H1 x w1
  have h1 := x.keep a _ sa ha
  have h2 := x.keep b _ sb hb
  have r1 := ra.ws x
  have r2 := rb.ws x
  refine ⟨fun i d e => ?_, ⟨vs, us, SqT.of h1, SqT.of h2, by rw [pairs_length, ra.length, rb.length]; omega⟩⟩
  obtain ⟨p, q, e1, e2, rfl⟩ := pairs_get e
  obtain ⟨v, hv, rv⟩ := r1.get e1
  obtain ⟨u, hu, ru⟩ := r2.get e2
  refine ⟨⟨vs, us, v, u, SqT.of h1, SqT.of h2, hv, hu⟩, fun y H2 q => ?_⟩
  obtain ⟨T, v', u', rfl, hT, rfl, qa, qb⟩ := q
  have ea := qa vs (SqT.of h1)
  have eb := qb us (SqT.of h2)
  rw [hv] at ea; cases ea
  rw [hu] at eb; cases eb
  exact ⟨_, Wx.layS w1 hT, Wx.newTup w1 hT (.cons rv (.cons ru .nil))⟩
theorem di_zip {elts : List Expr} {kk : Nat} (hg : Gl X "zip") (hm : X.mg "zip" = none) (h : DE X e te f) (h2 : DE X e2 te2 f2) (hs : starEach [e, e2] X.env = (false, eval e X.env) :: starEach [e2] X.env := by rfl) (hs2 : starEach [e2] X.env = (false, eval e2 X.env) :: starEach [] X.env := by rfl)
    (hpl : (backTo pos (starEach [e2] X.env)).any (·.1) = false := by rfl) : DI X (.Tuple elts kk tpos) (.Call (.Name "zip" p) [e, e2] [] pos) (iZipA X.K (tCons te (tCons te2 tNil))) (pZip f f2) := by
  refine ⟨pi_zipA hg hm (pa_cons h.pe (pa_cons h2.pe pa_nil hs2) hs) hs hpl, fun Z O S σ H env Qd R w rr hf k => ?_⟩
  refine h.pu Z O S σ H env _ _ w rr hf fun v d S1 H1 x1 r1 q1 => ?_
  refine h2.pu Z O S1 σ H1 env _ _ x1.wd (rr.wx w x1) q1 fun u d2 S2 H2 x2 r2 q2 => ?_
  have r1' := r1.wx x2
  cases r1' <;> first | exact q2.elim | skip
  · rename_i a vs ds s h r
    cases r2 <;> first | exact q2.elim | skip
    rename_i b us es s2 h2 r2
    exact ⟨a, b, vs, us, rfl, .inl ⟨SqL.of h, SqL.of h2, k _ _ S2 H2 (x1.trans x2) (.zipL s h r s2 h2 r2) q2⟩⟩
  · rename_i a vs ds s h r
    cases r2 <;> first | exact q2.elim | skip
    rename_i b us es s2 h2 r2
    exact ⟨a, b, vs, us, rfl, .inr ⟨SqT.of h, SqT.of h2, k _ _ S2 H2 (x1.trans x2) (.zipT s h r s2 h2 r2) q2⟩⟩
end

/-! ### targets -/
abbrev PTG := D → Env → (Env → Prop) → Prop
abbrev PTGs := List D → Env → (Env → Prop) → Prop
def Only (σ σ' : St) (gs : List Nat) : Prop := σ'.length = σ.length ∧ ∀ j, j ∉ gs → σ'[j]? = σ[j]?
def PureG (K : PySem.W.Frag) (g : TG) (f : PTG) (gs : List Nat) : Prop := ∀ (Z O S : Fp) (σ : St) (H : Hp) (env : Env) (v : V) (d : D) (Qd : Env → Prop) (Q : St → Hp → Prop), RepEnv K Z O S H σ env → Rep S H v d → f d env Qd →
  (∀ σ' env', Only σ σ' gs → RepEnv K Z O S H σ' env' → Qd env' → Q σ' H) → g v σ H Q
def PureGs (K : PySem.W.Frag) (g : TGs) (f : PTGs) (gs : List Nat) : Prop := ∀ (Z O S : Fp) (σ : St) (H : Hp) (env : Env) (v : List V) (d : List D) (Qd : Env → Prop) (Q : St → Hp → Prop), RepEnv K Z O S H σ env → Reps S H v d → f d env Qd →
  (∀ σ' env', Only σ σ' gs → RepEnv K Z O S H σ' env' → Qd env' → Q σ' H) → g v σ H Q
structure DG (X : Cx) (tg : Expr) (g : TG) (f : PTG) (gs : List Nat) : Prop where
  pg : PG X tg g
  pu : PureG X.K g f gs
structure DGs (X : Cx) (ts : List Expr) (g : TGs) (f : PTGs) (gs : List Nat) : Prop where
  pg : PGs X ts g
  pu : PureGs X.K g f gs
def pgName (i : Nat) : PTG := fun d env Q => Q (env.set i (some (.v d)))
def pgNil : PTGs := fun ds env Q => ds = [] ∧ Q env
def pgCons (f : PTG) (g : PTGs) : PTGs := fun ds env Q => match ds with
  | d :: r => f d env fun env' => g r env' Q
  | [] => False
def pgTup (n : Nat) (g : PTGs) : PTG := fun d env Q => match d with
  | .tuple ds => ds.length = n ∧ g ds env Q
  | _ => False
section
variable {X : Cx} {pos : Pos} {e : Expr} {es : List Expr} {g : TG} {h : TGs} {f : PTG} {fs : PTGs} {gs gs' : List Nat}
theorem dg_name (i : Nat) {x : Str} (hN : X.N.Nodup) (hi : X.N[i]? = some x := by rfl) (hx : Loc X.env.scope x := by first | exact Or.inl rfl | exact Or.inr rfl) (hf : X.fn x = true ∨ X.env.scope.names.lookup x = some .local := by first | exact .inl rfl | exact .inr rfl | assumption) : DG X (.Name x pos) (gName i) (pgName i) [i] := by
  refine ⟨pg_name hN hi hx hf, fun Z O S σ H env v d Qd Q rr r hf k => ?_⟩
  exact k _ _ ⟨by simp, fun j hj => by rw [List.getElem?_set_ne (by simp at hj; omega)]⟩ (rr.set i (show RepSV X.K Z O S H v (.v d) from r) fun o => o.elim) hf
theorem dgs_nil : DGs X [] gNil pgNil [] := by
  refine ⟨pgs_nil, fun Z O S σ H env v d Qd Q rr r hf k => ?_⟩
  obtain ⟨rfl, hf⟩ := hf
  cases r
  exact ⟨rfl, k _ _ ⟨rfl, fun _ _ => rfl⟩ rr hf⟩
theorem dgs_cons (h1 : DG X e g f gs) (h2 : DGs X es h fs gs') (hst : List.map (fun x => x.snd) (assignEach (e :: es) X.env) = assign e X.env :: List.map (fun x => x.snd) (assignEach es X.env) := by rfl) : DGs X (e :: es) (gCons g h) (pgCons f fs) (gs ++ gs') := by
  refine ⟨pgs_cons h1.pg h2.pg hst, fun Z O S σ H env v d Qd Q rr r hf k => ?_⟩
  cases r with
  | nil => exact hf.elim
  | cons r1 r2 =>
    refine ⟨_, _, rfl, h1.pu Z O S σ H env _ _ _ _ rr r1 hf fun σ1 env1 o1 rr1 q1 => ?_⟩
    refine h2.pu Z O S σ1 H env1 _ _ _ _ rr1 r2 q1 fun σ2 env2 o2 rr2 q2 => ?_
    exact k σ2 env2 ⟨o2.1.trans o1.1, fun j hj => (o2.2 j (fun z => hj (List.mem_append_right _ z))).trans (o1.2 j fun z => hj (List.mem_append_left _ z))⟩ rr2 q2
theorem dg_tup {k n : Nat} (hc : X.calm = true) (h1 : DGs X es h fs gs) (hn : (assignEach es X.env).length = n := by rfl) (hst : (assignEach es X.env).findIdx? (·.1) = none := by rfl) : DG X (.Tuple es k pos) (gTup X.K n h) (pgTup n fs) gs := by
  refine ⟨pg_tup hc h1.pg hn hst, fun Z O S σ H env v d Qd Q rr r hf k => ?_⟩
  cases r <;> first | exact hf.elim | skip
  rename_i a vs ds s hp r
  exact ⟨a, vs, rfl, SqT.of hp, by rw [r.length]; exact hf.1, h1.pu Z O S σ H env _ _ _ _ rr r hf.2 k⟩
end

/-! ### comprehensions -/
def wipeE (env : Env) : List Nat → Env
  | [] => env
  | v :: vs => (wipeE env vs).set v none
theorem RepEnv.wipe {K : PySem.W.Frag} {Z O S : Fp} {H : Hp} {σ : St} {env : Env} (r : RepEnv K Z O S H σ env) : ∀ vs : List Nat, RepEnv K Z O S H (L2.wipe σ vs) (wipeE env vs)
  | [] => r
  | v :: vs => (RepEnv.wipe r vs).drop v none
theorem wipe_get (σ : St) (i : Nat) : ∀ vs : List Nat, i ∈ vs → i < σ.length → (wipe σ vs)[i]? = some none
  | [], h, _ => by cases h
  | v :: vs, h, hi => by
    unfold wipe
    by_cases e : v = i
    · subst e
      rw [List.getElem?_set_self (by rw [wipe_length]; exact hi)]
    · rw [List.getElem?_set_ne e]
      exact wipe_get σ i vs (by rcases List.mem_cons.mp h with h | h; exact absurd h.symm e; exact h) hi
theorem wipe_only {σ σ' : St} {gs vs : List Nat} (h : Only σ σ' gs) (hg : ∀ g ∈ gs, g ∈ vs) : wipe σ' vs = wipe σ vs := by
  apply List.ext_getElem?
  intro i
  by_cases hi : i ∈ vs
  · by_cases hl : i < σ.length
    · rw [wipe_get σ i vs hi hl, wipe_get σ' i vs hi (by rw [h.1]; exact hl)]
    · rw [List.getElem?_eq_none_iff.mpr (show (wipe σ' vs).length ≤ i by rw [wipe_length, h.1]; omega), List.getElem?_eq_none_iff.mpr (show (wipe σ vs).length ≤ i by rw [wipe_length]; omega)]
  · rw [wipe_out hi, wipe_out hi]
    exact h.2 i fun z => hi (hg i z)
theorem wipe_wipe (σ : St) (vs : List Nat) : wipe (wipe σ vs) vs = wipe σ vs := by
  apply List.ext_getElem?
  intro i
  by_cases hi : i ∈ vs
  · by_cases hl : i < σ.length
    · rw [wipe_get σ i vs hi hl, wipe_get _ i vs hi (by rw [wipe_length]; exact hl)]
    · rw [List.getElem?_eq_none_iff.mpr (by rw [wipe_length, wipe_length]; omega), List.getElem?_eq_none_iff.mpr (by rw [wipe_length]; omega)]
  · rw [wipe_out hi]
structure DTs (X : Cx) (es : List Expr) (t : TT) (f : PTT) : Prop where
  pe : PTs X es t
  pu : PureT X.K t f
def pYes : PTT := fun _ Q => Q true
theorem dts_nil {X : Cx} : DTs X [] tYes pYes := ⟨pts_nil, fun Z O S σ H env Qd Q w rr hf k => k true S H (.refl w) hf⟩
theorem dts_one {X : Cx} {c : Expr} {t : TT} {f : PTT} (h : DT X c t f) : DTs X [c] t f := ⟨pts_one h.pe, h.pu⟩
def pLc (fi : PTI) (tgt : PTG) (cond : PTT) (elt : PTE) (vs : List Nat) : PTF := fun env Q => fi env fun ds => ds.length ≤ 16777216 ∧ ∃ I : Nat → List D → Prop, I 0 [] ∧
  (∀ k acc d, I k acc → ds[k]? = some d → tgt d (wipeE env vs) fun env2 => cond env2 fun b => if b = true then elt env2 fun y => I (k + 1) (acc ++ [y]) else I (k + 1) acc) ∧ (∀ acc, I ds.length acc → Q (.own acc))
theorem PureF.lc {K : PySem.W.Frag} {wi : TI} {g : TG} {tt : TT} {te : TE} {fi : PTI} {tgt : PTG} {cond : PTT} {elt : PTE} {vs gs : List Nat} (hi : PureI K wi fi) (hg : PureG K g tgt gs) (hgs : ∀ i ∈ gs, i ∈ vs) (ht : PureT K tt cond) (he : PureE K te elt) : PureF K (tLc wi g tt te vs) (pLc fi tgt cond elt vs) := by
  intro Z O S σ H env Qd Q w rr hf k
  refine hi Z O S σ H env _ _ w rr hf fun J ds S1 H1 x1 ok q1 => ?_
  obtain ⟨hlen, I, i0, step, fin⟩ := q1
  intro D hD
  have nzD : ¬ Z D := x1.wd.nz hD
  have nsD : ¬ S1 D := x1.wd.ns hD
  have rr1 := rr.wx w x1
  refine ⟨fun i m Hc => m = ds.length - i ∧ i ≤ ds.length ∧ ∃ S' acc us, Wx Z S1 H1 S' Hc ∧ Hc D = some (.lst us) ∧ Reps S' Hc us acc ∧ ¬ S' D ∧ I i acc ∧ us.length ≤ i, ⟨ds.length, rfl, Nat.zero_le _, S1, [], [], Wx.lay x1.wd hD, upd_same, .nil, nsD, i0, Nat.zero_le _⟩, ?_⟩
  rintro i m Hc ⟨rfl, hle, S', acc, us, xc, hDc, rc, nS', Ii, hu⟩
  have okc := ok S' Hc xc.ws xc.wd
  by_cases hlt : i < ds.length
  · right
    have hd : ds[i]? = some ds[i] := by simp [hlt]
    obtain ⟨go, yl⟩ := okc.1 i _ hd
    refine ⟨go, fun Hn => ∃ S' acc us, Wx Z S1 H1 S' Hn ∧ Hn D = some (.lst us) ∧ Reps S' Hn us acc ∧ ¬ S' D ∧ I (i + 1) acc ∧ us.length ≤ i + 1, fun H' h => ⟨ds.length - (i + 1), by omega, rfl, hlt, h⟩, fun x H2 y => ?_⟩
    obtain ⟨S2, x2, rx⟩ := yl x H2 y
    have rrw := ((rr1.wx x1.wd xc).wx xc.wd x2).wipe vs
    refine hg Z O S2 _ H2 _ x _ _ _ rrw rx (step i acc _ Ii hd) fun σ2 env2 o2 rr2 q2 => ⟨?_, ?_⟩
    · rw [wipe_only o2 hgs, wipe_wipe]
    refine ht Z O S2 σ2 H2 env2 _ _ x2.wd rr2 q2 fun b S3 H3 x3 q3 => ?_
    have D2 := x2.keep D _ nzD hDc
    have D3 := x3.keep D _ nzD D2
    have n2 : ¬ S2 D := fun z => by rcases x2.new D z with z | z; exact nS' z; rw [hDc] at z; cases z
    have n3 : ¬ S3 D := fun z => by rcases x3.new D z with z | z; exact n2 z; rw [D2] at z; cases z
    cases b with
    | true =>
      rw [if_pos rfl] at q3 ⊢
      refine he Z O S3 σ2 H3 env2 _ _ x3.wd (rr2.wx x2.wd x3) q3 fun v d S4 H4 x4 r4 q4 => ?_
      have D4 := x4.keep D _ nzD D3
      have n4 : ¬ S4 D := fun z => by rcases x4.new D z with z | z; exact n3 z; rw [D3] at z; cases z
      have x14 := ((xc.trans x2).trans x3).trans x4
      have hup : ∀ a o, S4 a → H4 a = some o → upd H4 D (.lst (us ++ [v])) a = some o := fun a o s h => by
        rw [upd_ne (show a ≠ D by rintro rfl; exact n4 s)]; exact h
      refine ⟨us, D4, ?_, S4, acc ++ [d], us ++ [v], ⟨fun a o nz h => ?_, x14.sub, x14.new, ⟨fun a s => ?_, x14.wd.zs, fun a z => ?_⟩⟩, upd_same, ?_, n4, q4, ?_⟩
      · rw [sizeLine_eq]; omega
      · rw [upd_ne (show a ≠ D by rintro rfl; rw [hD] at h; cases h)]
        exact x14.keep a o nz h
      · rw [upd_ne (show a ≠ D by rintro rfl; exact n4 s)]
        exact x14.wd.sd a s
      · rw [upd_ne (show a ≠ D by rintro rfl; exact nzD z)]
        exact x14.wd.zd a z
      · exact ((((rc.wx x2).wx x3).wx x4).append (.cons r4 .nil)).mono (fun _ s => s) hup
      · simp; omega
    | false =>
      rw [if_neg Bool.false_ne_true] at q3 ⊢
      exact ⟨S3, acc, us, (xc.trans x2).trans x3, D3, (rc.wx x2).wx x3, n3, q3, by omega⟩
  · have e : i = ds.length := by omega
    subst e
    left
    refine ⟨okc.2, k _ (.own acc) S' Hc (x1.trans xc) ⟨D, us, rfl, x1.fresh nzD hD, hDc, rc, nS', nzD⟩ (fin acc Ii)⟩
section
variable {X : Cx} {elt tg iter : Expr} {ifs : List Expr} {scope : Scope} {own : List (Str × Nat)} {pos : Pos} {wi : TI} {g : TG} {tt : TT} {te : TE} {fi : PTI} {tgt : PTG} {cond : PTT} {fe : PTE} {gs : List Nat}
theorem df_lc (own : List (Str × Nat)) (hc : X.calm = true) (hN : X.N.Nodup) (hi : DI X tg iter wi fi) (ok : BlkOk X.N X.env.scope scope own) (hgs : ∀ i ∈ gs, i ∈ own.map (·.2))
    (hg : ∀ (s : Shared) (H : Hp) (C : Addr) (cl : List (Str × Addr)) (fp : List Addr), DG (X.blk s H scope (compEnvC scope cl C X.env) fp) tg g tgt gs)
    (ht0 : DTs (X.blk X.s_0 (fun _ => none) scope (compEnvC scope [] 0 X.env) []) ifs tt cond) (he0 : DE (X.blk X.s_0 (fun _ => none) scope (compEnvC scope [] 0 X.env) []) elt te fe)
    (ht : ∀ (s : Shared) (H : Hp) (C : Addr) (cl : List (Str × Addr)) (fp : List Addr), DTs (X.blk s H scope (compEnvC scope cl C X.env) fp) ifs tt cond)
    (he : ∀ (s : Shared) (H : Hp) (C : Addr) (cl : List (Str × Addr)) (fp : List Addr), DE (X.blk s H scope (compEnvC scope cl C X.env) fp) elt te fe) (hs : ∀ x, foldedSetIterable iter X.env x = pure x := by intro _; rfl) :
    DF X (.ListComp elt [⟨tg, iter, ifs, 0⟩] scope pos) (tLc wi g tt te (own.map (·.2))) (pLc fi tgt cond fe (own.map (·.2))) :=
  ⟨pe_lc hc hN hi.pi ok (fun s H C cl fp => (hg s H C cl fp).pg) (fun s H C cl fp => (ht s H C cl fp).pe) (fun s H C cl fp => (he s H C cl fp).pe) hs,
    .lc hi.pu (hg X.s_0 (fun _ => none) 0 [] []).pu hgs (ht X.s_0 (fun _ => none) 0 [] []).pu (he X.s_0 (fun _ => none) 0 [] []).pu⟩
end
end DL
/-! ## DL5 -/
set_option Elab.async false
set_option linter.all false
set_option maxRecDepth 100000
set_option maxHeartbeats 4000000
/-! DL5: statements, defs, calls. -/
namespace DL
open PySem L2 RZ RT

structure PEnds where
  nx : Env → Prop
  rt : SV → Prop
  bk : Env → Prop
  ct : Env → Prop
abbrev PTS := PEnds → Env → Prop
structure EndsOk (K : PySem.W.Frag) (Z S0 : Fp) (H0 : Hp) (S : Fp) (H : Hp) (D : Ends) (pd : PEnds) : Prop where
  nx : ∀ σ' H' S' env', Wx Z S0 H0 S' H' → Ws S H S' H' → RepEnv K Z (fun a => H0 a = none) S' H' σ' env' → pd.nx env' → D.nx σ' H'
  rt : ∀ v H' S' sv, Wx Z S0 H0 S' H' → RepSV K Z (fun a => H0 a = none) S' H' v sv → pd.rt sv → D.rt v H'
  bk : ∀ σ' H' S' env', Wx Z S0 H0 S' H' → Ws S H S' H' → RepEnv K Z (fun a => H0 a = none) S' H' σ' env' → pd.bk env' → D.bk σ' H'
  ct : ∀ σ' H' S' env', Wx Z S0 H0 S' H' → Ws S H S' H' → RepEnv K Z (fun a => H0 a = none) S' H' σ' env' → pd.ct env' → D.ct σ' H'
theorem EndsOk.shift {K : PySem.W.Frag} {Z S0 S S1 : Fp} {H0 H H1 : Hp} {D : Ends} {pd : PEnds} (e : EndsOk K Z S0 H0 S H D pd) (w : Ws S H S1 H1) : EndsOk K Z S0 H0 S1 H1 D pd :=
  ⟨fun σ' H' S' env' x y => e.nx σ' H' S' env' x (w.trans y), e.rt, fun σ' H' S' env' x y => e.bk σ' H' S' env' x (w.trans y), fun σ' H' S' env' x y => e.ct σ' H' S' env' x (w.trans y)⟩
def PureS (K : PySem.W.Frag) (t : TS) (F : PTS) : Prop := ∀ (Z S0 : Fp) (H0 : Hp) (S : Fp) (σ : St) (H : Hp) (env : Env) (D : Ends) (pd : PEnds), Wx Z S0 H0 S H → RepEnv K Z (fun a => H0 a = none) S H σ env → F pd env → EndsOk K Z S0 H0 S H D pd → t D σ H
structure DS (X : Cx) (st : Stmt) (t : TS) (F : PTS) : Prop where
  ps : PS X st t
  pu : PureS X.K t F
structure DSs (X : Cx) (st : List Stmt) (t : TS) (F : PTS) : Prop where
  ps : PSs X st t
  pu : PureS X.K t F

def pNext : PTS := fun pd env => pd.nx env
def pSeq (F G : PTS) : PTS := fun pd env => F { pd with nx := G pd } env
/-- a word between two statements -/
def pCut (F G : PTS) : PTS := fun pd env => ∃ M : Env → Prop, F { pd with nx := M } env ∧ ∀ env', M env' → G pd env'
def pRet (f : PTE) : PTS := fun pd env => f env fun d => pd.rt (.v d)
def pRetF (f : PTF) : PTS := fun pd env => f env pd.rt
def pRetVar (i : Nat) : PTS := fun pd env => match slot env i with
  | some (.v d) => pd.rt (.v d)
  | some (.own ds) => pd.rt (.own ds)
  | some (.ownD ds) => pd.rt (.ownD ds)
  | _ => False
def pRetN : PTS := fun pd _ => pd.rt (.v .none)
def pIfS (c : PTT) (F G : PTS) : PTS := fun pd env => c env fun b => if b = true then F pd env else G pd env
def pSet (i : Nat) (f : PTE) : PTS := fun pd env => f env fun d => pd.nx (env.set i (some (.v d)))
def pSetF (i : Nat) (f : PTF) : PTS := fun pd env => f env fun sv => pd.nx (env.set i (some sv))
def pTgt (f : PTE) (g : PTG) : PTS := fun pd env => f env fun d => g d env pd.nx
def pDrop (f : PTE) : PTS := fun pd env => f env fun _ => pd.nx env
def pPar (i j : Nat) (f : PTL) : PTS := fun pd env => f env fun ds => match ds with
  | [x, y] => pd.nx ((env.set i (some (.v x))).set j (some (.v y)))
  | _ => False
def pBreak : PTS := fun pd env => pd.bk env
def pCont : PTS := fun pd env => pd.ct env
def pNever : PTS := fun _ _ => False
def pFor (fi : PTI) (tgt : PTG) (F : PTS) : PTS := fun pd env => fi env fun ds => ∃ I : Nat → Env → Prop, I 0 env ∧
  (∀ k env' d, I k env' → ds[k]? = some d → tgt d env' fun env2 => F { pd with nx := I (k + 1), ct := I (k + 1), bk := pd.nx } env2) ∧ (∀ env', I ds.length env' → pd.nx env')
def pWhile (c : PTT) (F : PTS) : PTS := fun pd env => ∃ I : Nat → Env → Prop, (∃ m, I m env) ∧ ∀ m env', I m env' →
  c env' fun b => if b = true then F { pd with nx := fun e => ∃ m', m' < m ∧ I m' e, ct := fun e => ∃ m', m' < m ∧ I m' e, bk := pd.nx } env' else pd.nx env'
def pApp (i : Nat) (f : PTE) : PTS := fun pd env => match slot env i with
  | some (.own ds) => f env fun d => ds.length < 16777216 ∧ pd.nx (env.set i (some (.own (ds ++ [d]))))
  | _ => False
def pExt (i : Nat) (f : PTE) : PTS := fun pd env => match slot env i with
  | some (.own ds) => f env fun d => match d with
    | .list es => ds.length + es.length ≤ 16777216 ∧ pd.nx (env.set i (some (.own (ds ++ es))))
    | _ => False
  | _ => False
def pPop (i : Nat) : PTS := fun pd env => match slot env i with
  | some (.own ds) => ds ≠ [] ∧ pd.nx (env.set i (some (.own ds.dropLast)))
  | _ => False
def pSetIx (i : Nat) (fi fe : PTE) : PTS := fun pd env => match slot env i with
  | some (.own ds) => fe env fun d => fi env fun k => match k with
    | .int n => match ixN ds.length n with
      | some j => pd.nx (env.set i (some (.own (ds.set j d))))
      | none => False
    | _ => False
  | _ => False
/-- an owned slot is a datum from here on -/
def pFreeze (i : Nat) (F : PTS) : PTS := fun pd env => match slot env i with
  | some (.own ds) => F pd (env.set i (some (.v (.list ds))))
  | some (.ownD ds) => F pd (env.set i (some (.v (.dict ds))))
  | _ => F pd env
/-- an owned list of one number is a state from here on -/
def pStify (i : Nat) (F : PTS) : PTS := fun pd env => match slot env i with
  | some (.own [.int s]) => 0 ≤ s ∧ F pd (env.set i (some .st))
  | _ => False

theorem slot_set_self : ∀ (env : Env) (i : Nat) (x : Option SV), i < env.length → slot (env.set i x) i = x
  | [], _, _, h => absurd h (Nat.not_lt_zero _)
  | _ :: _, 0, _, _ => rfl
  | _ :: r, n + 1, x, h => slot_set_self r n x (Nat.lt_of_succ_lt_succ h)

section
variable {K : PySem.W.Frag} {t u : TS} {F G : PTS} {te : TE} {f : PTE} {g : PTF}
theorem PureS.next : PureS K tNext pNext := fun Z S0 H0 S σ H env D pd x r hf e => e.nx σ H S env x .refl r hf
theorem PureS.seq (h1 : PureS K t F) (h2 : PureS K u G) : PureS K (tSeq t u) (pSeq F G) := fun Z S0 H0 S σ H env D pd x r hf e =>
  h1 Z S0 H0 S σ H env _ { pd with nx := G pd } x r hf ⟨fun σ' H' S' env' x' w' r' q => h2 Z S0 H0 S' σ' H' env' D pd x' r' q (e.shift w'), e.rt, e.bk, e.ct⟩
theorem PureS.cut (h1 : PureS K t F) (h2 : PureS K u G) : PureS K (tSeq t u) (pCut F G) := fun Z S0 H0 S σ H env D pd x r hf e => by
  obtain ⟨M, hF, hG⟩ := hf
  exact h1 Z S0 H0 S σ H env _ { pd with nx := M } x r hF ⟨fun σ' H' S' env' x' w' r' q => h2 Z S0 H0 S' σ' H' env' D pd x' r' (hG env' q) (e.shift w'), e.rt, e.bk, e.ct⟩
theorem toH0 {Z S0 S : Fp} {H0 H : Hp} (x : Wx Z S0 H0 S H) : ∀ a, ¬ Z a → H a = none → H0 a = none := fun a nz h => x.fresh nz h
theorem PureS.ret (h : PureE K te f) : PureS K (tRet te) (pRet f) := fun Z S0 H0 S σ H env D pd x r hf e =>
  h Z _ S σ H env _ _ x.wd r hf fun v d S1 H1 x1 r1 q1 => e.rt v H1 S1 (.v d) (x.trans x1) r1 q1
theorem PureS.retF (h : PureF K te g) : PureS K (tRet te) (pRetF g) := fun Z S0 H0 S σ H env D pd x r hf e =>
  h Z _ S σ H env _ _ x.wd r hf fun v sv S1 H1 x1 r1 q1 => e.rt v H1 S1 sv (x.trans x1) (r1.mono (toH0 x)) q1
theorem PureS.retVar (i : Nat) : PureS K (tRet (tVar i)) (pRetVar i) := fun Z S0 H0 S σ H env D pd x r hf e => by
  unfold pRetVar at hf
  cases q : slot env i with
  | none => rw [q] at hf; exact hf.elim
  | some sv =>
    rw [q] at hf
    obtain ⟨v, h1, h2⟩ := r.get i sv (slot_get env i sv q)
    cases sv <;> first | exact hf.elim | skip
    all_goals exact ⟨v, h1, e.rt v H S _ x h2 hf⟩
theorem PureS.retN : PureS K tRetN pRetN := fun Z S0 H0 S σ H env D pd x r hf e => e.rt .non H S (.v .none) x .non hf
theorem PureS.ifS {c : TT} {fc : PTT} (hc : PureT K c fc) (h1 : PureS K t F) (h2 : PureS K u G) : PureS K (tIfS c t u) (pIfS fc F G) := fun Z S0 H0 S σ H env D pd x r hf e => by
  refine hc Z _ S σ H env _ _ x.wd r hf fun b S1 H1 x1 q1 => ?_
  cases b with
  | true =>
    rw [if_pos rfl] at q1 ⊢
    exact h1 Z S0 H0 S1 σ H1 env D pd (x.trans x1) (r.wx x.wd x1) q1 (e.shift x1.ws)
  | false =>
    rw [if_neg Bool.false_ne_true] at q1 ⊢
    exact h2 Z S0 H0 S1 σ H1 env D pd (x.trans x1) (r.wx x.wd x1) q1 (e.shift x1.ws)
theorem PureS.set (i : Nat) (h : PureE K te f) : PureS K (tAsg te (gName i)) (pSet i f) := fun Z S0 H0 S σ H env D pd x r hf e =>
  h Z _ S σ H env _ _ x.wd r hf fun v d S1 H1 x1 r1 q1 => e.nx _ H1 S1 _ (x.trans x1) x1.ws ((r.wx x.wd x1).set i (show RepSV K Z _ S1 H1 v (.v d) from r1) fun o => o.elim) q1
theorem PureS.setF (i : Nat) (h : PureF K te g) : PureS K (tAsg te (gName i)) (pSetF i g) := fun Z S0 H0 S σ H env D pd x r hf e =>
  h Z _ S σ H env _ _ x.wd r hf fun v sv S1 H1 x1 r1 q1 => e.nx _ H1 S1 _ (x.trans x1) x1.ws ((r.wx x.wd x1).set i (r1.mono (toH0 x)) fun o j y a hij ej oy sj ev => by
    obtain ⟨p, ob, e1, hp, _⟩ := r1.owns o
    rw [e1] at ev
    injection ev with ev
    subst ev
    exact r.apart hp j y ej oy sj) q1
theorem PureS.tgt {tg : TG} {fg : PTG} {gs : List Nat} (h : PureE K te f) (hg : PureG K tg fg gs) : PureS K (tAsg te tg) (pTgt f fg) := fun Z S0 H0 S σ H env D pd x r hf e =>
  h Z _ S σ H env _ _ x.wd r hf fun v d S1 H1 x1 r1 q1 => hg Z _ S1 σ H1 env v d _ _ (r.wx x.wd x1) r1 q1 fun σ' env' _ r' q' => e.nx σ' H1 S1 env' (x.trans x1) x1.ws r' q'
theorem PureS.drop (h : PureB K te f) : PureS K (tDrop te) (pDrop f) := fun Z S0 H0 S σ H env D pd x r hf e =>
  h Z _ S σ H env _ _ x.wd r hf fun v d S1 H1 x1 r1 q1 => e.nx σ H1 S1 env (x.trans x1) x1.ws (r.wx x.wd x1) q1
theorem PureS.par (i j : Nat) {ta : TA} {fl : PTL} (h : PureEs K ta fl) : PureS K (tPar i j ta) (pPar i j fl) := fun Z S0 H0 S σ H env D pd x r hf e =>
  h Z _ S σ H env _ _ x.wd r hf fun vs ds S1 H1 x1 r1 q1 => by
    cases r1 with
    | nil => exact q1.elim
    | cons a r1 =>
      cases r1 with
      | nil => exact q1.elim
      | cons b r1 =>
        cases r1 with
        | cons c r1 => exact q1.elim
        | nil =>
          refine ⟨_, _, rfl, e.nx _ H1 S1 _ (x.trans x1) x1.ws ?_ q1⟩
          exact ((r.wx x.wd x1).set i (show RepSV K Z _ S1 H1 _ (.v _) from a) fun o => o.elim).set j (show RepSV K Z _ S1 H1 _ (.v _) from b) fun o => o.elim
theorem PureS.brk : PureS K tBreak pBreak := fun Z S0 H0 S σ H env D pd x r hf e => e.bk σ H S env x .refl r hf
theorem PureS.cont : PureS K tCont pCont := fun Z S0 H0 S σ H env D pd x r hf e => e.ct σ H S env x .refl r hf
theorem PureS.never : PureS K tNever pNever := fun Z S0 H0 S σ H env D pd x r hf e => hf.elim
theorem PureS.whileS {c : TT} {fc : PTT} (hc : PureT K c fc) (hb : PureS K t F) : PureS K (tWhile c t) (pWhile fc F) := fun Z S0 H0 S σ H env D pd x r hf e => by
  obtain ⟨I, ⟨m0, i0⟩, step⟩ := hf
  refine ⟨fun m σ' H' => ∃ S' env', Wx Z S0 H0 S' H' ∧ Ws S H S' H' ∧ RepEnv K Z (fun a => H0 a = none) S' H' σ' env' ∧ I m env', ⟨m0, S, env, x, .refl, r, i0⟩, ?_⟩
  rintro m σ' H' ⟨S', env', x', w', r', i'⟩
  refine hc Z _ S' σ' H' env' _ _ x'.wd r' (step m env' i') fun b S1 H1 x1 q1 => ?_
  have xx := x'.trans x1
  have ww := w'.trans x1.ws
  cases b with
  | true =>
    rw [if_pos rfl] at q1 ⊢
    refine ⟨fun σ2 H2 => ∃ m', m' < m ∧ ∃ S2 env2, Wx Z S0 H0 S2 H2 ∧ Ws S H S2 H2 ∧ RepEnv K Z (fun a => H0 a = none) S2 H2 σ2 env2 ∧ I m' env2, fun σ2 H2 h => h, ?_⟩
    refine hb Z S0 H0 S1 σ' H1 env' _ _ xx (r'.wx x'.wd x1) q1 ⟨?_, e.rt, ?_, ?_⟩
    · rintro σ2 H2 S2 env2 x2 w2 r2 ⟨m', hm, i2⟩
      exact ⟨m', hm, S2, env2, x2, ww.trans w2, r2, i2⟩
    · exact fun σ2 H2 S2 env2 x2 w2 r2 q => e.nx σ2 H2 S2 env2 x2 (ww.trans w2) r2 q
    · rintro σ2 H2 S2 env2 x2 w2 r2 ⟨m', hm, i2⟩
      exact ⟨m', hm, S2, env2, x2, ww.trans w2, r2, i2⟩
  | false =>
    rw [if_neg Bool.false_ne_true] at q1 ⊢
    exact e.nx σ' H1 S1 env' xx ww (r'.wx x'.wd x1) q1
theorem PureS.forS {wi : TI} {fi : PTI} {tg : TG} {fg : PTG} {gs : List Nat} (hi : PureI K wi fi) (hg : PureG K tg fg gs) (hb : PureS K t F) : PureS K (tFor wi tg t) (pFor fi fg F) := fun Z S0 H0 S σ H env D pd x r hf e => by
  refine hi Z _ S σ H env _ _ x.wd r hf fun J ds S1 H1 x1 ok q1 => ?_
  obtain ⟨I, i0, step, fin⟩ := q1
  refine ⟨fun i m σ' H' => m = ds.length - i ∧ i ≤ ds.length ∧ ∃ S' env', Wx Z S0 H0 S' H' ∧ Ws S1 H1 S' H' ∧ RepEnv K Z (fun a => H0 a = none) S' H' σ' env' ∧ I i env', ⟨ds.length, rfl, Nat.zero_le _, S1, env, x.trans x1, .refl, r.wx x.wd x1, i0⟩, ?_⟩
  rintro i m σ' H' ⟨rfl, hle, S', env', x', w', r', i'⟩
  have okc := ok S' H' w' x'.wd
  by_cases hlt : i < ds.length
  · right
    have hd : ds[i]? = some ds[i] := by simp [hlt]
    obtain ⟨go, yl⟩ := okc.1 i _ hd
    refine ⟨go, fun σ2 H2 => ∃ S2 env2, Wx Z S0 H0 S2 H2 ∧ Ws S1 H1 S2 H2 ∧ RepEnv K Z (fun a => H0 a = none) S2 H2 σ2 env2 ∧ I (i + 1) env2, fun σ2 H2 h => ⟨ds.length - (i + 1), by omega, rfl, hlt, h⟩, fun y H2 hy => ?_⟩
    obtain ⟨S2, x2, ry⟩ := yl y H2 hy
    refine hg Z _ S2 σ' H2 env' y _ _ _ (r'.wx x'.wd x2) ry (step i env' _ i' hd) fun σ3 env3 _ r3 q3 => ?_
    have w2 := w'.trans x2.ws
    refine hb Z S0 H0 S2 σ3 H2 env3 _ _ (x'.trans x2) r3 q3 ⟨?_, e.rt, ?_, ?_⟩
    · exact fun σ4 H4 S4 env4 x4 w4 r4 q4 => ⟨S4, env4, x4, w2.trans w4, r4, q4⟩
    · exact fun σ4 H4 S4 env4 x4 w4 r4 q4 => e.nx σ4 H4 S4 env4 x4 (x1.ws.trans (w2.trans w4)) r4 q4
    · exact fun σ4 H4 S4 env4 x4 w4 r4 q4 => ⟨S4, env4, x4, w2.trans w4, r4, q4⟩
  · have ei : i = ds.length := by omega
    subst ei
    exact .inl ⟨okc.2, e.nx σ' H' S' env' x' (x1.ws.trans w') r' (fin env' i')⟩
/-- an owned list is changed -/
theorem RepEnv.mut {Z O S : Fp} {H : Hp} {σ : St} {env : Env} (r : RepEnv K Z O S H σ env) {i : Nat} {ds es : List D} {p : Addr} {us ws : List V} (hi : env[i]? = some (some (.own ds))) (hs : σ[i]? = some (some (.ref p))) (hp : H p = some (.lst us)) (op : O p) (nS : ¬ S p) (nZ : ¬ Z p) (rw' : Reps S H ws es) :
    RepEnv K Z O S (upd H p (.lst ws)) σ (env.set i (some (.own es))) := by
  have hl := r.len
  have hil : i < env.length := (List.getElem?_eq_some_iff.mp hi).1
  have hup : ∀ a o, S a → H a = some o → upd H p (.lst ws) a = some o := fun a o s h => by rw [upd_ne (show a ≠ p by rintro rfl; exact nS s)]; exact h
  have back : ∀ j (y : SV), (env.set i (some (.own es)))[j]? = some (some y) → y.isOwn → ∃ z : SV, env[j]? = some (some z) ∧ z.isOwn := fun j y e o => by
    by_cases hij : i = j
    · subst hij; exact ⟨_, hi, trivial⟩
    · rw [List.getElem?_set_ne hij] at e; exact ⟨y, e, o⟩
  refine ⟨by simp [hl], fun j sv e => ?_, fun j k a x y hjk e1 e2 o1 o2 s1 s2 => ?_⟩
  · by_cases hij : i = j
    · subst hij
      rw [List.getElem?_set_self hil] at e
      cases e
      exact ⟨_, hs, p, ws, rfl, op, upd_same, rw'.mono (fun _ s => s) hup, nS, nZ⟩
    · rw [List.getElem?_set_ne hij] at e
      obtain ⟨v, h1, h2⟩ := r.get j sv e
      refine ⟨v, h1, ?_⟩
      have ne : ∀ q, v = .ref q → sv.isOwn → q ≠ p := fun q e1 o z => by
        subst z; subst e1
        exact r.dis i j q _ sv hij hi e trivial o hs h1
      cases sv with
      | v d => exact Rep.mono (fun _ s => s) hup h2
      | own xs =>
        obtain ⟨q, vs, rfl, oq, hq, rq, nq, zq⟩ := h2
        exact ⟨q, vs, rfl, oq, by rw [upd_ne (ne q rfl trivial)]; exact hq, rq.mono (fun _ s => s) hup, nq, zq⟩
      | ownD xs =>
        obtain ⟨q, rfl, oq, hq, nq, zq⟩ := h2
        refine ⟨q, rfl, oq, ?_, nq, zq⟩
        rw [upd_ne (ne q rfl trivial)]
        rcases hq with ⟨vs, hq, rq⟩ | ⟨vs, hq, rq⟩
        · exact .inl ⟨vs, hq, rq.mono (fun _ s => s) hup⟩
        · exact .inr ⟨vs, hq, rq.mono (fun _ s => s) hup⟩
      | st => exact h2
      | scr ns =>
        obtain ⟨q, rfl, hq⟩ := h2
        refine ⟨q, rfl, fun H2 h => hq H2 fun o u e => h o u ?_⟩
        rw [upd_ne (show q ≠ p by rintro rfl; rw [hp] at e; cases e)]
        exact e
      | any => trivial
  · obtain ⟨x', f1, p1⟩ := back j x e1 o1
    obtain ⟨y', f2, p2⟩ := back k y e2 o2
    exact r.dis j k a x' y' hjk f1 f2 p1 p2 s1 s2
theorem Wx.mut {Z S0 S : Fp} {H0 H : Hp} {p : Addr} {o : HO} (x : Wx Z S0 H0 S H) (hp : H0 p = none) (nS : ¬ S p) (nZ : ¬ Z p) : Wx Z S0 H0 S (upd H p o) :=
  ⟨fun a u nz h => by rw [upd_ne (ne_of_none h hp)]; exact x.keep a u nz h, x.sub, x.new,
    ⟨fun a s => by rw [upd_ne (show a ≠ p by rintro rfl; exact nS s)]; exact x.wd.sd a s, x.wd.zs, fun a z => by rw [upd_ne (show a ≠ p by rintro rfl; exact nZ z)]; exact x.wd.zd a z⟩⟩
theorem Ws.mut {S : Fp} {H : Hp} {p : Addr} {o : HO} (nS : ¬ S p) : Ws S H S (upd H p o) :=
  ⟨fun a u s h => by rw [upd_ne (show a ≠ p by rintro rfl; exact nS s)]; exact h, fun _ s => s⟩
theorem slot_own {env : Env} {i : Nat} {P : List D → Prop} (h : match slot env i with | some (.own ds) => P ds | _ => False) : ∃ ds, slot env i = some (.own ds) ∧ P ds := by
  cases q : slot env i with
  | none => rw [q] at h; exact h.elim
  | some sv =>
    rw [q] at h
    cases sv <;> first | exact h.elim | skip
    exact ⟨_, rfl, h⟩
theorem PureS.app (i : Nat) (h : PureE K te f) : PureS K (tDrop (tBM K "list" rAppend (tVar i) (tCons te tNil))) (pApp i f) := fun Z S0 H0 S σ H env D pd x r hf e => by
  obtain ⟨ds, q, hf⟩ := slot_own hf
  obtain ⟨v, h1, p, us, rfl, op, hp, ru, nS, nZ⟩ := r.get i _ (slot_get env i _ q)
  refine ⟨_, h1, .inl ⟨rfl, us, SqL.of hp⟩, ?_⟩
  refine h Z _ S σ H env _ _ x.wd r hf fun v d S1 H1 x1 r1 q1 => ?_
  have hp1 := x1.keep p _ nZ hp
  have nS1 : ¬ S1 p := fun z => by rcases x1.new p z with z | z; exact nS z; rw [hp] at z; cases z
  refine ⟨p, us, v, rfl, rfl, hp1, by rw [ru.length, sizeLine_eq]; exact q1.1, ?_⟩
  exact e.nx σ _ S1 _ ((x.trans x1).mut op nS1 nZ) (x1.ws.trans (Ws.mut nS1)) ((r.wx x.wd x1).mut (slot_get env i _ q) h1 hp1 op nS1 nZ ((ru.wx x1).append (.cons r1 .nil))) q1.2
theorem PureS.ext (i : Nat) (h : PureE K te f) : PureS K (tDrop (tBM K "list" rExtend (tVar i) (tCons te tNil))) (pExt i f) := fun Z S0 H0 S σ H env D pd x r hf e => by
  obtain ⟨ds, q, hf⟩ := slot_own hf
  obtain ⟨v, h1, p, us, rfl, op, hp, ru, nS, nZ⟩ := r.get i _ (slot_get env i _ q)
  refine ⟨_, h1, .inl ⟨rfl, us, SqL.of hp⟩, ?_⟩
  refine h Z _ S σ H env _ _ x.wd r hf fun v d S1 H1 x1 r1 q1 => ?_
  have hp1 := x1.keep p _ nZ hp
  have nS1 : ¬ S1 p := fun z => by rcases x1.new p z with z | z; exact nS z; rw [hp] at z; cases z
  cases r1 <;> first | exact q1.elim | skip
  rename_i b vs es sb hb rb
  refine ⟨p, b, us, vs, rfl, rfl, hp1, hb, by rw [ru.length, rb.length, sizeLine_eq]; exact q1.1, ?_⟩
  exact e.nx σ _ S1 _ ((x.trans x1).mut op nS1 nZ) (x1.ws.trans (Ws.mut nS1)) ((r.wx x.wd x1).mut (slot_get env i _ q) h1 hp1 op nS1 nZ ((ru.wx x1).append rb)) q1.2
theorem PureS.pop (i : Nat) : PureS K (tDrop (tBM0 K "list" rPop (tVar i))) (pPop i) := fun Z S0 H0 S σ H env D pd x r hf e => by
  obtain ⟨ds, q, hf⟩ := slot_own hf
  obtain ⟨v, h1, p, us, rfl, op, hp, ru, nS, nZ⟩ := r.get i _ (slot_get env i _ q)
  have hl := ru.length
  have hne : us ≠ [] := fun z => hf.1 (List.eq_nil_of_length_eq_zero (by rw [← hl, z]; rfl))
  have h0 : us.length - 1 < us.length := by
    have := List.length_pos_iff.mpr hne
    omega
  refine ⟨_, h1, .inl ⟨rfl, us, SqL.of hp⟩, p, us, us[us.length - 1], rfl, rfl, hp, by simp [h0], ?_⟩
  exact e.nx σ _ S _ (x.mut op nS nZ) (Ws.mut nS) (r.mut (slot_get env i _ q) h1 hp op nS nZ ru.dropLast) hf.2
theorem PureS.setIx (i : Nat) {ti : TE} {fi : PTE} (hi : PureE K ti fi) (h : PureE K te f) : PureS K (tAsg te (gSub (tVar i) ti rSetL)) (pSetIx i fi f) := fun Z S0 H0 S σ H env D pd x r hf e => by
  obtain ⟨ds, q, hf⟩ := slot_own hf
  obtain ⟨v, h1, p, us, rfl, op, hp, ru, nS, nZ⟩ := r.get i _ (slot_get env i _ q)
  refine h Z _ S σ H env _ _ x.wd r hf fun v d S1 H1 x1 r1 q1 => ?_
  refine ⟨_, h1, ?_⟩
  refine hi Z _ S1 σ H1 env _ _ x1.wd (r.wx x.wd x1) q1 fun u k S2 H2 x2 r2 q2 => ?_
  have x12 := x1.trans x2
  have hp2 := x12.keep p _ nZ hp
  have nS2 : ¬ S2 p := fun z => by rcases x12.new p z with z | z; exact nS z; rw [hp] at z; cases z
  cases r2 <;> first | exact q2.elim | skip
  rename_i n
  cases ej : ixN ds.length n with
  | none => simp only [ej] at q2
  | some j =>
    simp only [ej] at q2
    refine ⟨p, us, n, j, rfl, rfl, hp2, by rw [ru.length]; exact ej, ?_⟩
    exact e.nx σ _ S2 _ ((x.trans x12).mut op nS2 nZ) (x12.ws.trans (Ws.mut nS2)) ((r.wx x.wd x12).mut (slot_get env i _ q) h1 hp2 op nS2 nZ ((ru.wx x12).set (r1.wx x2) j)) q2
/-- from here on an owned slot is a datum -/
theorem PureS.freeze (i : Nat) (h : PureS K t F) : PureS K t (pFreeze i F) := fun Z S0 H0 S σ H env D pd x r hf e => by
  unfold pFreeze at hf
  have plain : F pd env → t D σ H := fun hf => h Z S0 H0 S σ H env D pd x r hf e
  have go : ∀ (p : Addr) (o : HO) (d : PyData) (sv0 : SV), env[i]? = some (some sv0) → sv0.isOwn → σ[i]? = some (some (.ref p)) → H0 p = none → H p = some o → ¬ Z p → Rep (fun a => S a ∨ a = p) H (.ref p) d → F pd (env.set i (some (.v d))) → t D σ H := fun p o d sv0 hi0 o0 hs op hp nZ rd hF => by
    have x' := x.letIn op nZ hp
    have ws : Ws S H (fun a => S a ∨ a = p) H := ⟨fun _ _ _ h => h, fun _ s => .inl s⟩
    have hl := r.len
    refine h Z S0 H0 _ σ H _ D pd x' ⟨by simp [hl], fun j sv ej => ?_, fun j k a y z hjk e1 e2 o1 o2 s1 s2 => ?_⟩ hF (e.shift ws)
    · by_cases hij : i = j
      · subst hij
        by_cases hi : i < env.length
        · rw [List.getElem?_set_self hi] at ej
          cases ej
          exact ⟨_, hs, rd⟩
        · rw [List.getElem?_eq_none_iff.mpr (by simpa using Nat.le_of_not_lt hi)] at ej; cases ej
      · rw [List.getElem?_set_ne hij] at ej
        obtain ⟨v, h1, h2⟩ := r.get j sv ej
        refine ⟨v, h1, ?_⟩
        have up : ∀ a, S a → S a ∨ a = p := fun _ s => .inl s
        cases sv with
        | v d => exact Rep.mono up (fun _ _ _ h => h) h2
        | own xs =>
          obtain ⟨q, vs, rfl, oq, hq, rq, nq, zq⟩ := h2
          refine ⟨q, vs, rfl, oq, hq, rq.mono up (fun _ _ _ h => h), fun z => ?_, zq⟩
          rcases z with z | z
          · exact nq z
          · subst z
            exact r.dis i j _ sv0 _ hij hi0 ej o0 trivial hs h1
        | ownD xs =>
          obtain ⟨q, rfl, oq, hq, nq, zq⟩ := h2
          refine ⟨q, rfl, oq, ?_, fun z => ?_, zq⟩
          · rcases hq with ⟨vs, hq, rq⟩ | ⟨vs, hq, rq⟩
            · exact .inl ⟨vs, hq, rq.mono up (fun _ _ _ h => h)⟩
            · exact .inr ⟨vs, hq, rq.mono up (fun _ _ _ h => h)⟩
          · rcases z with z | z
            · exact nq z
            · subst z
              exact r.dis i j _ sv0 _ hij hi0 ej o0 trivial hs h1
        | st => exact h2
        | scr ns => exact h2
        | any => trivial
    · have back : ∀ j (y : SV), (env.set i (some (.v d)))[j]? = some (some y) → y.isOwn → env[j]? = some (some y) := fun j y e o => by
        by_cases hij : i = j
        · subst hij
          by_cases hi : i < env.length
          · rw [List.getElem?_set_self hi] at e; cases e; exact o.elim
          · rw [List.getElem?_eq_none_iff.mpr (by simpa using Nat.le_of_not_lt hi)] at e; cases e
        · rw [List.getElem?_set_ne hij] at e; exact e
      exact r.dis j k a y z hjk (back j y e1 o1) (back k z e2 o2) o1 o2 s1 s2
  cases q : slot env i with
  | none => rw [q] at hf; exact plain hf
  | some sv =>
    rw [q] at hf
    cases sv with
    | own ds =>
      obtain ⟨v, h1, p, us, rfl, op, hp, ru, nS, nZ⟩ := r.get i _ (slot_get env i _ q)
      exact go p _ _ _ (slot_get env i _ q) trivial h1 op hp nZ (.lst (.inr rfl) hp (ru.mono (fun _ s => .inl s) fun _ _ _ h => h)) hf
    | ownD ds =>
      obtain ⟨v, h1, p, rfl, op, hp, nS, nZ⟩ := r.get i _ (slot_get env i _ q)
      rcases hp with ⟨us, hp, ru⟩ | ⟨us, hp, ru⟩
      · exact go p _ _ _ (slot_get env i _ q) trivial h1 op hp nZ (.dk (.inr rfl) hp (ru.mono (fun _ s => .inl s) fun _ _ _ h => h)) hf
      · exact go p _ _ _ (slot_get env i _ q) trivial h1 op hp nZ (.dt (.inr rfl) hp (ru.mono (fun _ s => .inl s) fun _ _ _ h => h)) hf
    | v d => exact plain hf
    | st => exact plain hf
    | scr ns => exact plain hf
    | any => exact plain hf
end
end DL
/-! ## DL6 -/
set_option Elab.async false
set_option linter.all false
set_option maxRecDepth 100000
set_option maxHeartbeats 4000000
/-! DL6: rules of statements, defs, calls, built-in functions. -/
namespace DL
open PySem L2 RZ RT PyProof.Rows

section
variable {X : Cx} {st : Stmt} {rest : List Stmt} {t u : TS} {F G : PTS} {e : Expr} {te : TE} {f : PTE} {g : PTF} {pos : Pos}
theorem dss_nil : DSs X [] tNext pNext := ⟨pss_nil, .next⟩
theorem dss_one (h : DS X st t F) : DSs X [st] t F := ⟨pss_one h.ps, h.pu⟩
theorem dss_cons (h1 : DS X st t F) (h2 : DSs X rest u G) : DSs X (st :: rest) (tSeq t u) (pSeq F G) := ⟨pss_cons h1.ps h2.ps, .seq h1.pu h2.pu⟩
theorem dss_cut (h1 : DS X st t F) (h2 : DSs X rest u G) : DSs X (st :: rest) (tSeq t u) (pCut F G) := ⟨pss_cons h1.ps h2.ps, .cut h1.pu h2.pu⟩
theorem dss_freeze {sts : List Stmt} (i : Nat) (h : DSs X sts t F) : DSs X sts t (pFreeze i F) := ⟨h.ps, .freeze i h.pu⟩
theorem ds_pass : DS X (.Pass pos) tNext pNext := ⟨ps_pass, .next⟩
theorem ds_break : DS X (.Break pos) tBreak pBreak := ⟨ps_break, .brk⟩
theorem ds_continue : DS X (.Continue pos) tCont pCont := ⟨ps_continue, .cont⟩
theorem ds_never : DS X st tNever pNever := ⟨ps_never, .never⟩
theorem dss_never {sts : List Stmt} : DSs X sts tNever pNever := ⟨pss_never, .never⟩
theorem ds_expr (h : DB X e te f) (hs : swapsWith e none pos.line X.env = pure false := by rfl) : DS X (.Expr e pos) (tDrop te) (pDrop f) := ⟨ps_expr h.pe hs, .drop h.pu⟩
theorem ds_ret (h : DE X e te f) : DS X (.Return (some e) pos) (tRet te) (pRet f) := ⟨ps_ret h.pe, .ret h.pu⟩
theorem ds_retF (h : DF X e te g) : DS X (.Return (some e) pos) (tRet te) (pRetF g) := ⟨ps_ret h.pe, .retF h.pu⟩
theorem ds_retVar (i : Nat) {x : Str} {p : Pos} (hN : X.N[i]? = some x := by rfl) (hv : Vis X.env.scope x := by first | exact Or.inl rfl | exact Or.inr (Or.inl rfl) | exact Or.inr (Or.inr rfl)) (hd : (x == ("__debug__" : Str)) = false := by decide)
    (hcd : (x == ("__classdict__" : Str)) = false := by decide) : DS X (.Return (some (.Name x p)) pos) (tRet (tVar i)) (pRetVar i) := ⟨ps_ret (pe_var hN hv hd hcd), .retVar i⟩
theorem ds_retN : DS X (.Return none pos) tRetN pRetN := ⟨ps_retN, .retN⟩
theorem ds_if {c : Expr} {a b : List Stmt} {tc : TT} {fc : PTT} (hc : DT X c tc fc) (ha : DSs X a t F) (hb : DSs X b u G) : DS X (.If c a b pos) (tIfS tc t u) (pIfS fc F G) := ⟨ps_if hc.pe ha.ps hb.ps, .ifS hc.pu ha.pu hb.pu⟩
theorem ds_set (i : Nat) {x : Str} {pos' : Pos} (hN : X.N.Nodup) (h : DE X e te f) (hi : X.N[i]? = some x := by rfl) (hx : Loc X.env.scope x := by first | exact Or.inl rfl | exact Or.inr rfl) (hs : swapsWith e (some (.Name x pos')) pos.line X.env = pure false := by rfl)
    (hf : X.fn x = true ∨ X.env.scope.names.lookup x = some .local := by first | exact .inl rfl | exact .inr rfl | assumption) : DS X (.Assign [.Name x pos'] e pos) (tAsg te (gName i)) (pSet i f) := ⟨ps_set hN hi hx h.pe hs hf, .set i h.pu⟩
theorem ds_setF (i : Nat) {x : Str} {pos' : Pos} (hN : X.N.Nodup) (h : DF X e te g) (hi : X.N[i]? = some x := by rfl) (hx : Loc X.env.scope x := by first | exact Or.inl rfl | exact Or.inr rfl) (hs : swapsWith e (some (.Name x pos')) pos.line X.env = pure false := by rfl)
    (hf : X.fn x = true ∨ X.env.scope.names.lookup x = some .local := by first | exact .inl rfl | exact .inr rfl | assumption) : DS X (.Assign [.Name x pos'] e pos) (tAsg te (gName i)) (pSetF i g) := ⟨ps_set hN hi hx h.pe hs hf, .setF i h.pu⟩
theorem ds_tgt {tg : Expr} {g : TG} {fg : PTG} {gs : List Nat} (h : DE X e te f) (hg : DG X tg g fg gs) (hs : swapsWithSole [tg] e pos.line X.env = pure false := by rfl) (hw : swappedStores [tg] e X.env = pure none := by rfl)
    (h1 : (assignEach [tg] X.env).map (·.2) = [assign tg X.env] := by rfl) : DS X (.Assign [tg] e pos) (tAsg te g) (pTgt f fg) := ⟨ps_asg h.pe hg.pg hs hw h1, .tgt h.pu hg.pu⟩
theorem ds_par (i j : Nat) {x y : Str} {a b : Expr} {ta : TA} {fl : PTL} {px py pt : Pos} {kt k2 pt2} (hN : X.N.Nodup) (ha : DEs X [a, b] ta fl) (hc : X.calm = true := by rfl) (hi : X.N[i]? = some x := by rfl) (hj : X.N[j]? = some y := by rfl) (hij : i ≠ j := by decide)
    (hx : X.env.scope.names.lookup x = some .local := by rfl) (hy : X.env.scope.names.lookup y = some .local := by rfl) (hw : swappedStores [.Tuple [.Name x px, .Name y py] kt pt] (.Tuple [a, b] k2 pt2) X.env = pure (some [x, y]) := by rfl)
    (hs : swapsWithSole [.Tuple [.Name x px, .Name y py] kt pt] (.Tuple [a, b] k2 pt2) pos.line X.env = pure false := by rfl) : DS X (.Assign [.Tuple [.Name x px, .Name y py] kt pt] (.Tuple [a, b] k2 pt2) pos) (tPar i j ta) (pPar i j fl) :=
  ⟨ps_par hc hN hi hj hij hx hy ha.pe hw hs, .par i j ha.pu⟩
theorem ds_while {c : Expr} {body : List Stmt} {tc : TT} {fc : PTT} (hp : PassesOwn (model X.prog X.w) X.A X.env X.xe) (hc : DT X c tc fc) (hb : DSs X body t F) : DS X (.While c body [] pos) (tWhile tc t) (pWhile fc F) := ⟨ps_while hp hc.pe hb.ps, .whileS hc.pu hb.pu⟩
theorem ds_for {tg iter : Expr} {body : List Stmt} {wi : TI} {fi : PTI} {g : TG} {fg : PTG} {gs : List Nat} (hp : PassesOwn (model X.prog X.w) X.A X.env X.xe) (hi : DI X tg iter wi fi) (hg : DG X tg g fg gs) (hb : DSs X body t F) (hc : X.calm = true := by rfl)
    (hs : ∀ x, foldedSetIterable iter X.env x = pure x := by intro _; rfl) : DS X (.For tg iter body [] pos) (tFor wi g t) (pFor fi fg F) := ⟨ps_for hp hc hi.pi hg.pg hb.ps hs, .forS hi.pu hg.pu hb.pu⟩
/-- name = [..] on one line -/
theorem ds_setLc (i : Nat) (own : List (Str × Nat)) {y : Str} {py : Pos} {elt tg iter : Expr} {ifs : List Expr} {scope : Scope} {pos spos : Pos} {wi : TI} {g : TG} {tt : TT} {te : TE} {fi : PTI} {tgt : PTG} {cond : PTT} {fe : PTE} {gs : List Nat} (hN : X.N.Nodup)
    (hsw : swapsWith (.ListComp elt [⟨tg, iter, ifs, 0⟩] scope pos) (some (.Name y py)) spos.line X.env = pure true) (hi : DI X tg iter wi fi) (ok : BlkOk X.N X.env.scope scope own) (hgs : ∀ i ∈ gs, i ∈ own.map (·.2))
    (hg : ∀ (s : Shared) (H : Hp) (C : Addr) (cl : List (Str × Addr)) (fp : List Addr), DG (X.blk s H scope (compEnvC scope cl C X.env) fp) tg g tgt gs)
    (ht0 : DTs (X.blk X.s_0 (fun _ => none) scope (compEnvC scope [] 0 X.env) []) ifs tt cond) (he0 : DE (X.blk X.s_0 (fun _ => none) scope (compEnvC scope [] 0 X.env) []) elt te fe)
    (ht : ∀ (s : Shared) (H : Hp) (C : Addr) (cl : List (Str × Addr)) (fp : List Addr), DTs (X.blk s H scope (compEnvC scope cl C X.env) fp) ifs tt cond)
    (he : ∀ (s : Shared) (H : Hp) (C : Addr) (cl : List (Str × Addr)) (fp : List Addr), DE (X.blk s H scope (compEnvC scope cl C X.env) fp) elt te fe) (hc : X.calm = true := by rfl) (hy : X.N[i]? = some y := by rfl) (hyl : X.env.scope.names.lookup y = some .local := by rfl) (hs : ∀ x, foldedSetIterable iter X.env x = pure x := by intro _; rfl) :
    DS X (.Assign [.Name y py] (.ListComp elt [⟨tg, iter, ifs, 0⟩] scope pos) spos) (tAsg (tLc wi g tt te (own.map (·.2))) (gName i)) (pSetF i (pLc fi tgt cond fe (own.map (·.2)))) :=
  ⟨ps_setLc hc hN hy hyl hsw hi.pi ok (fun s H C cl fp => (hg s H C cl fp).pg) (fun s H C cl fp => (ht s H C cl fp).pe) (fun s H C cl fp => (he s H C cl fp).pe) hs,
    .setF i (.lc hi.pu (hg X.s_0 (fun _ => none) 0 [] []).pu hgs (ht X.s_0 (fun _ => none) 0 [] []).pu (he X.s_0 (fun _ => none) 0 [] []).pu)⟩
end

/-! ### an owned list becomes a state -/
def pStify' (i : Nat) (F : PTS) : PTS := fun pd env => match slot env i with
  | some (.own [.int s]) => 0 ≤ s ∧ F { nx := fun _ => False, bk := fun _ => False, ct := fun _ => False, rt := fun sv => match sv with | .v d => pd.rt (.v d) | _ => False } (env.set i (some .st))
  | _ => False
theorem PureS.stify {K : PySem.W.Frag} {t : TS} {F : PTS} (i : Nat) (h : PureS K t F) : PureS K t (pStify' i F) := fun Z S0 H0 S σ H env En pd x r hf e => by
  unfold pStify' at hf
  split at hf
  · rename_i s q
    obtain ⟨h0, hF⟩ := hf
    obtain ⟨v, h1, p, us, rfl, op, hp, ru, nS, nZ⟩ := r.get i _ (slot_get env i _ q)
    have hu : us = [.int s] := by
      cases ru with
      | cons a b => cases a; cases b; rfl
    subst hu
    have hl := r.len
    have hil : i < env.length := (List.getElem?_eq_some_iff.mp (slot_get env i _ q)).1
    have wd' : ∀ {S' : Fp} {H' : Hp}, Wd (fun a => Z a ∨ a = p) S' H' → Wd Z S' H' := fun w => ⟨w.sd, fun a z => w.zs a (.inl z), fun a z => w.zd a (.inl z)⟩
    have wx' : ∀ {S' : Fp} {H' : Hp}, Wx (fun a => Z a ∨ a = p) S0 H0 S' H' → Wx Z S0 H0 S' H' := fun w => ⟨fun a o nz ha => w.keep a o (fun z => by
      rcases z with z | rfl
      · exact nz z
      · rw [op] at ha; cases ha) ha, w.sub, w.new, wd' w.wd⟩
    refine h (fun a => Z a ∨ a = p) S0 H0 S σ H _ En _ ⟨fun a o nz ha => x.keep a o (fun z => nz (.inl z)) ha, x.sub, x.new, ⟨x.wd.sd, fun a z => ?_, fun a z => ?_⟩⟩ ⟨by simp [hl], fun j sv ej => ?_, fun j k a y z hjk e1 e2 o1 o2 s1 s2 => ?_⟩ hF ⟨fun _ _ _ _ _ _ _ z => z.elim, fun v H' S' sv x' r' z => ?_, fun _ _ _ _ _ _ _ z => z.elim, fun _ _ _ _ _ _ _ z => z.elim⟩
    · rcases z with z | rfl
      · exact x.wd.zs a z
      · exact nS
    · rcases z with z | rfl
      · exact x.wd.zd a z
      · exact ⟨s, h0, hp⟩
    · by_cases hij : i = j
      · subst hij
        rw [List.getElem?_set_self hil] at ej
        cases ej
        exact ⟨_, h1, p, rfl, .inr rfl⟩
      · rw [List.getElem?_set_ne hij] at ej
        obtain ⟨v, k1, k2⟩ := r.get j sv ej
        refine ⟨v, k1, ?_⟩
        cases sv with
        | v d => exact k2
        | own xs =>
          obtain ⟨q', vs, rfl, oq, hq, rq, nq, zq⟩ := k2
          refine ⟨q', vs, rfl, oq, hq, rq, nq, fun z => ?_⟩
          rcases z with z | rfl
          · exact zq z
          · exact r.dis i j _ _ _ hij (slot_get env i _ q) ej trivial trivial h1 k1
        | ownD xs =>
          obtain ⟨q', rfl, oq, hq, nq, zq⟩ := k2
          refine ⟨q', rfl, oq, hq, nq, fun z => ?_⟩
          rcases z with z | rfl
          · exact zq z
          · exact r.dis i j _ _ _ hij (slot_get env i _ q) ej trivial trivial h1 k1
        | st => obtain ⟨q', e1, z⟩ := k2; exact ⟨q', e1, .inl z⟩
        | scr ns => exact k2
        | any => trivial
    · have back : ∀ j (y : SV), (env.set i (some .st))[j]? = some (some y) → y.isOwn → env[j]? = some (some y) := fun j y e o => by
        by_cases hij : i = j
        · subst hij
          rw [List.getElem?_set_self hil] at e; cases e; exact o.elim
        · rw [List.getElem?_set_ne hij] at e; exact e
      exact r.dis j k a y z hjk (back j y e1 o1) (back k z e2 o2) o1 o2 s1 s2
    · cases sv <;> first | exact z.elim | skip
      exact e.rt v H' S' (.v _) (wx' x') (show Rep S' H' v _ from r') z
  · exact hf.elim
theorem dss_stify {X : Cx} {sts : List Stmt} {t : TS} {F : PTS} (i : Nat) (h : DSs X sts t F) : DSs X sts t (pStify' i F) := ⟨h.ps, .stify i h.pu⟩

/-! ### defs -/
abbrev PFn := List SV → (SV → Prop) → Prop
/-- the promise of a def on data -/
def spD (K : PySem.W.Frag) (G : PFn) : Sp := fun vs H Q _ => ∃ (Z S : Fp) (svs : List SV) (Qd : SV → Prop), Wd Z S H ∧ RepSVs K Z S H vs svs ∧ G svs Qd ∧
  ∀ v sv S' H', Wx Z S H S' H' → RepSV K Z (fun a => H a = none) S' H' v sv → Qd sv → Q v H'
theorem start_env {K : PySem.W.Frag} {Z S : Fp} {H : Hp} {vs : List V} {svs : List SV} (r : RepSVs K Z S H vs svs) (O : Fp) (N : List Str) : RepEnv K Z O S H (L2.start N vs) (svs.map some ++ List.replicate (N.length - svs.length) none) := by
  have hl := r.length
  have key : ∀ (i : Nat) (sv : SV), (svs.map some ++ List.replicate (N.length - svs.length) none)[i]? = some (some sv) → svs[i]? = some sv := fun i sv e => by
    by_cases hi : i < svs.length
    · rw [List.getElem?_append_left (by simpa using hi), List.getElem?_map] at e
      cases q : svs[i]? with
      | none => rw [q] at e; cases e
      | some z => rw [q] at e; cases e; rfl
    · rw [List.getElem?_append_right (by simpa using Nat.le_of_not_lt hi), List.getElem?_replicate] at e
      split at e <;> cases e
  refine ⟨by unfold L2.start; simp [hl], fun i sv e => ?_, fun i j a x y hij e1 e2 o1 o2 s1 s2 => ?_⟩
  · obtain ⟨v, h1, h2⟩ := r.get (key i sv e)
    refine ⟨v, ?_, h2.mono fun _ _ z => z.elim⟩
    unfold L2.start
    have hi : i < vs.length := (List.getElem?_eq_some_iff.mp h1).1
    rw [List.getElem?_append_left (by simpa using hi), List.getElem?_map, h1]
    rfl
  · obtain ⟨v, h1, h2⟩ := r.get (key i x e1)
    obtain ⟨p, o, _, f, _⟩ := h2.owns o1
    exact f
theorem def_ok {P : Program} {w : World} {K : PySem.W.Frag} {mg : Str → Option Value} {base : Heap} {x qual : Str} {st : Stmt} {f : Addr} {fd : FuncData} {N ps : List Str} {k : Nat} {Fb : PTS} (G : PFn) (F : Fun K x qual st f fd) (S : FnScope N ps (defScope st))
    (hb : ∀ (cdv : Value) (A : Around) (outer : List PySem.Env) (s : Shared) (H : Hp) (E : XK), Room k (A.deeper (envOfC qual (defScope st) s.heap.objs.size f cdv)) → ∃ tb, DSs (cxOf CX0 P w K mg base N qual (defScope st) f cdv A outer s H E).nox (defBody st) tb Fb)
    (hG : ∀ svs Qd, G svs Qd → svs.length = ps.length ∧ Fb { nx := fun _ => Qd (.v .none), rt := Qd, bk := fun _ => False, ct := fun _ => False } (svs.map some ++ List.replicate (N.length - svs.length) none)) : FnOk P w K mg base CX0 (k + 1) f fd ps (spD K G) := by
  refine F.ok S (fun vs H Q E h => ?_) (fun cdv A outer s H vs Q E hr h => ?_)
  · obtain ⟨Z, S, svs, Qd, w, r, g, _⟩ := h
    rw [r.length]
    exact (hG svs Qd g).1
  · obtain ⟨tb, dss⟩ := hb cdv A outer s H E hr
    refine ⟨tb, dss.ps, ?_⟩
    obtain ⟨Z, S, svs, Qd, w, r, g, q⟩ := h
    refine dss.pu Z S H S _ H _ _ _ (.refl w) (start_env r _ N) (hG svs Qd g).2 ⟨?_, ?_, fun _ _ _ _ _ _ _ z => z.elim, fun _ _ _ _ _ _ _ z => z.elim⟩
    · exact fun σ' H' S' env' x _ _ z => q _ (.v .none) S' H' x (show RepSV K Z _ S' H' .non (.v .none) from Rep.non) z
    · exact fun v H' S' sv x r z => q v sv S' H' x r z
/-- a def that may be called by its name -/
structure Callee (P : Program) (w : World) (K : PySem.W.Frag) (mg : Str → Option Value) (base : Heap) (k : Nat) (x : Str) (G : PFn) : Prop where
  ex : ∃ f fd ps, FnOk P w K mg base CX0 k f fd ps (spD K G) ∧ mg x = some (.ref f) ∧ PySem.W.keepIn K (.ref f) = true ∧ Binds K fd ps []
theorem Callee.imp {P : Program} {w : World} {K : PySem.W.Frag} {mg : Str → Option Value} {base : Heap} {k : Nat} {x : Str} {G G' : PFn} (C : Callee P w K mg base k x G) (h : ∀ svs Q, G' svs Q → G svs Q) : Callee P w K mg base k x G' := by
  obtain ⟨f, fd, ps, F, m, kp, b⟩ := C.ex
  exact ⟨f, fd, ps, F.imp fun vs H Q E ⟨Z, S, svs, Qd, w, r, g, q⟩ => ⟨Z, S, svs, Qd, w, r, h _ _ g, q⟩, m, kp, b⟩
def pCall (G : PFn) (fa : PTA) : PTF := fun env Q => fa env fun svs => G svs Q
section
variable {X : Cx} {e : Expr} {es : List Expr} {x : Str} {p pos : Pos}
theorem df_call {k j : Nat} {G : PFn} {t : TA} {fa : PTA} (C : Callee X.prog X.w X.K X.mg X.base k x G) (hr : Room j X.A) (hk : k ≤ j) (ha : DA X (e :: es) t fa) (hg : Gl X x := by rfl) (hdb : (x == ("__debug__" : Str)) = false := by decide)
    (he : starEach (e :: es) X.env = (false, eval e X.env) :: starEach es X.env := by rfl) (hpl : (backTo pos (starEach es X.env)).any (·.1) = false := by rfl) : DF X (.Call (.Name x p) (e :: es) [] pos) (tCall (spD X.K G) [] E0 t) (pCall G fa) := by
  obtain ⟨f, fd, ps, F, m, kp, b⟩ := C.ex
  refine ⟨pe_call F (hr.mono hk) hg m kp b .nil pass0 ha.pe hdb he hpl, fun Z O S σ H env Qd Q w rr hf k => ?_⟩
  refine ha.pu Z O S σ H env _ _ w rr hf fun vs svs S1 H1 x1 r1 q1 => ?_
  rw [List.append_nil]
  exact ⟨Z, S1, svs, Qd, x1.wd, r1, q1, fun v sv S2 H2 x2 r2 q2 => k v sv S2 H2 (x1.trans x2) (x1.freshen r2) q2⟩
end

/-! ### built-in functions -/
abbrev PBn := List D → (SV → Prop) → Prop
def PureC (r : List V → Hp → VK → Prop) (g : List D → (D → Prop) → Prop) : Prop := ∀ (Z S : Fp) (H : Hp) (xs : List V) (ds : List D) (Qd : D → Prop) (Q : VK), Wd Z S H → RepBs Z S H xs ds → g ds Qd →
  (∀ v d S' H', Wx Z S H S' H' → Rep S' H' v d → Qd d → Q v H') → r xs H Q
def PureCF (r : List V → Hp → VK → Prop) (g : PBn) : Prop := ∀ (K : PySem.W.Frag) (Z S : Fp) (H : Hp) (xs : List V) (ds : List D) (Qd : SV → Prop) (Q : VK), Wd Z S H → RepBs Z S H xs ds → g ds Qd →
  (∀ v sv S' H', Wx Z S H S' H' → RepSV K Z (fun a => H a = none) S' H' v sv → Qd sv → Q v H') → r xs H Q
def pB (g : List D → (D → Prop) → Prop) (fa : PTL) : PTE := fun env Q => fa env fun ds => g ds Q
def pBF (g : PBn) (fa : PTL) : PTF := fun env Q => fa env fun ds => g ds Q
section
variable {X : Cx} {e : Expr} {es : List Expr} {x : Str} {p pos : Pos} {t : TA} {fa : PTL} {id T : String} {r : List V → Hp → VK → Prop} {K : PySem.W.Frag}
theorem PureE.cb {g : List D → (D → Prop) → Prop} (hr : PureC r g) (ha : PureBs K t fa) : PureE K (tCB r t) (pB g fa) := fun Z O S σ H env Qd Q w rr hf k =>
  ha Z O S σ H env _ _ w rr hf fun vs ds S1 H1 x1 r1 q1 => hr Z S1 H1 vs ds Qd Q x1.wd r1 q1 fun v d S2 H2 x2 r2 q2 => k v d S2 H2 (x1.trans x2) r2 q2
theorem PureF.cb {g : PBn} (hr : PureCF r g) (ha : PureBs K t fa) : PureF K (tCB r t) (pBF g fa) := fun Z O S σ H env Qd Q w rr hf k =>
  ha Z O S σ H env _ _ w rr hf fun vs ds S1 H1 x1 r1 q1 => hr K Z S1 H1 vs ds Qd Q x1.wd r1 q1 fun v d S2 H2 x2 r2 q2 => k v d S2 H2 (x1.trans x2) (x1.freshen r2) q2
theorem de_callB {g : List D → (D → Prop) → Prop} (hc : CallR X (.builtin id) r) (hr : PureC r g) (hm : X.mg x = none) (ha : DBs X (e :: es) t fa) (hv : bootBuiltins x = some (.builtin id) := by decide +kernel) (hg : Gl X x := by rfl) (hn : x ≠ "__name__" := by decide) (hdb : (x == ("__debug__" : Str)) = false := by decide)
    (he : starEach (e :: es) X.env = (false, eval e X.env) :: starEach es X.env := by rfl) (hpl : (backTo pos (starEach es X.env)).any (·.1) = false := by rfl) : DE X (.Call (.Name x p) (e :: es) [] pos) (tCB r t) (pB g fa) :=
  ⟨pe_callB hc hg hm hv ha.pe hn hdb he hpl, .cb hr ha.pu⟩
theorem de_callTy {g : List D → (D → Prop) → Prop} (hc : CallR X (.type T) r) (hr : PureC r g) (hm : X.mg x = none) (ha : DBs X (e :: es) t fa) (hv : bootBuiltins x = some (.type T) := by decide +kernel) (hg : Gl X x := by rfl) (hn : x ≠ "__name__" := by decide) (hdb : (x == ("__debug__" : Str)) = false := by decide)
    (he : starEach (e :: es) X.env = (false, eval e X.env) :: starEach es X.env := by rfl) (hpl : (backTo pos (starEach es X.env)).any (·.1) = false := by rfl) : DE X (.Call (.Name x p) (e :: es) [] pos) (tCB r t) (pB g fa) :=
  ⟨pe_callTy hc hg hm hv ha.pe hn hdb he hpl, .cb hr ha.pu⟩
theorem df_callTy {g : PBn} (hc : CallR X (.type T) r) (hr : PureCF r g) (hm : X.mg x = none) (ha : DBs X (e :: es) t fa) (hv : bootBuiltins x = some (.type T) := by decide +kernel) (hg : Gl X x := by rfl) (hn : x ≠ "__name__" := by decide) (hdb : (x == ("__debug__" : Str)) = false := by decide)
    (he : starEach (e :: es) X.env = (false, eval e X.env) :: starEach es X.env := by rfl) (hpl : (backTo pos (starEach es X.env)).any (·.1) = false := by rfl) : DF X (.Call (.Name x p) (e :: es) [] pos) (tCB r t) (pBF g fa) :=
  ⟨pe_callTy hc hg hm hv ha.pe hn hdb he hpl, .cb hr ha.pu⟩
end
def gLen : List D → (D → Prop) → Prop
  | [.list xs], Q => Q (.int xs.length)
  | [.tuple xs], Q => Q (.int xs.length)
  | [.str z], Q => lineOk z.length ∧ Q (.int z.length)
  | _, _ => False
theorem pc_len {K : PySem.W.Frag} : PureC (fun xs H Q => ∃ x n, xs = [x] ∧ LenV K x H n ∧ Q (.int n) H) gLen := by
  intro Z S H xs ds Qd Q w r hf k
  cases r with
  | nil => exact hf.elim
  | cons ra r =>
    rename_i v d vs ds
    cases r with
    | cons _ _ => cases d <;> exact hf.elim
    | nil =>
      cases d <;> first | exact hf.elim | skip
      · cases ra.str
        exact ⟨_, _, rfl, ⟨hf.1, rfl⟩, k _ _ S H (.refl w) (.int _) hf.2⟩
      · obtain ⟨p, us, rfl, hp, r1⟩ := ra.list
        exact ⟨_, us.length, rfl, .inl ⟨us, SqL.of hp, rfl⟩, k _ _ S H (.refl w) (.int _) (by rw [r1.length]; exact hf)⟩
      · obtain ⟨p, us, rfl, sp, hp, r1⟩ := ra.tuple
        exact ⟨_, us.length, rfl, .inr ⟨us, SqT.of hp, rfl⟩, k _ _ S H (.refl w) (.int _) (by rw [r1.length]; exact hf)⟩
def gAbs : List D → (D → Prop) → Prop
  | [.int i], Q => Q (.int (i.natAbs : Int))
  | _, _ => False
theorem pc_abs : PureC (fun xs H Q => ∃ i, xs = [.int i] ∧ Q (.int (if i < 0 then -i else i)) H) gAbs := by
  intro Z S H xs ds Qd Q w r hf k
  cases r with
  | nil => exact hf.elim
  | cons ra r =>
    rename_i v d vs ds
    cases r with
    | cons _ _ => cases d <;> exact hf.elim
    | nil =>
      cases d <;> first | exact hf.elim | skip
      rename_i i
      cases ra.int
      have e : (if i < 0 then -i else i) = (i.natAbs : Int) := by split <;> omega
      exact ⟨_, rfl, by rw [e]; exact k _ _ S H (.refl w) (.int _) hf⟩
def gIntOf : List D → (D → Prop) → Prop
  | [.int i], Q => Q (.int i)
  | [.bool b], Q => Q (.int (if b then 1 else 0))
  | _, _ => False
theorem pc_int : PureC (fun xs H Q => (∃ i, xs = [.int i] ∧ Q (.int i) H) ∨ ∃ k, xs = [.bl k] ∧ Q (.int (if k then 1 else 0)) H) gIntOf := by
  intro Z S H xs ds Qd Q w r hf k
  cases r with
  | nil => exact hf.elim
  | cons ra r =>
    rename_i v d vs ds
    cases r with
    | cons _ _ => cases d <;> exact hf.elim
    | nil =>
      cases d <;> first | exact hf.elim | skip
      · cases ra.bool
        exact .inr ⟨_, rfl, k _ _ S H (.refl w) (.int _) hf⟩
      · cases ra.int
        exact .inl ⟨_, rfl, k _ _ S H (.refl w) (.int _) hf⟩
def gTupOf : List D → (D → Prop) → Prop
  | [.list xs], Q => Q (.tuple xs)
  | [.tuple xs], Q => Q (.tuple xs)
  | _, _ => False
theorem pc_tup {K : PySem.W.Frag} : PureC (fun xs H Q => ∃ p ys, xs = [.ref p] ∧ ((SqL K H p ys ∧ ∀ l, H l = none → Q (.ref l) (upd H l (.tup ys))) ∨ (SqT K H p ys ∧ Q (.ref p) H))) gTupOf := by
  intro Z S H xs ds Qd Q w r hf k
  cases r with
  | nil => exact hf.elim
  | cons ra r =>
    rename_i v d vs ds
    cases r with
    | cons _ _ => cases d <;> exact hf.elim
    | nil =>
      cases d <;> first | exact hf.elim | skip
      · obtain ⟨p, us, rfl, hp, r1⟩ := ra.list
        exact ⟨p, us, rfl, .inl ⟨SqL.of hp, fun l hl => k _ _ _ _ (Wx.layS w hl) (Wx.newTup w hl r1) hf⟩⟩
      · obtain ⟨p, us, rfl, sp, hp, r1⟩ := ra.tuple
        exact ⟨p, us, rfl, .inr ⟨SqT.of hp, k _ _ S H (.refl w) (.tup sp hp r1) hf⟩⟩
def gLstOf : PBn
  | [.list xs], Q => Q (.own xs)
  | [.tuple xs], Q => Q (.own xs)
  | _, _ => False
theorem pc_lst {K : PySem.W.Frag} : PureCF (fun xs H Q => ∃ p ys, xs = [.ref p] ∧ (SqL K H p ys ∨ SqT K H p ys) ∧ ∀ l, H l = none → Q (.ref l) (upd H l (.lst ys))) gLstOf := by
  intro K' Z S H xs ds Qd Q w r hf k
  cases r with
  | nil => exact hf.elim
  | cons ra r =>
    rename_i v d vs ds
    cases r with
    | cons _ _ => cases d <;> exact hf.elim
    | nil =>
      cases d <;> first | exact hf.elim | skip
      · obtain ⟨p, us, rfl, hp, r1⟩ := ra.list
        exact ⟨p, us, rfl, .inl (SqL.of hp), fun l hl => k _ _ _ _ (Wx.lay w hl) (Wx.newOwn w hl r1) hf⟩
      · obtain ⟨p, us, rfl, sp, hp, r1⟩ := ra.tuple
        exact ⟨p, us, rfl, .inr (SqT.of hp), fun l hl => k _ _ _ _ (Wx.lay w hl) (Wx.newOwn w hl r1) hf⟩
/-- isinstance -/
def tyN : D → String
  | .none => "NoneType"
  | .bool _ => "bool"
  | .int _ => "int"
  | .str _ => "str"
  | .list _ => "list"
  | .tuple _ => "tuple"
  | .dict _ => "dict"
def isInt : D → Bool
  | .int _ => true
  | .bool _ => true
  | _ => false
def isBool : D → Bool
  | .bool _ => true
  | _ => false
def isStr : D → Bool
  | .str _ => true
  | _ => false
def isList : D → Bool
  | .list _ => true
  | _ => false
def isTuple : D → Bool
  | .tuple _ => true
  | _ => false
def isDict : D → Bool
  | .dict _ => true
  | _ => false
theorem is_int (d : D) : kitB (tyN d) "int" = some (isInt d) := by cases d <;> (simp only [tyN, isInt]; decide +kernel)
theorem is_bool (d : D) : kitB (tyN d) "bool" = some (isBool d) := by cases d <;> (simp only [tyN, isBool]; decide +kernel)
theorem is_str (d : D) : kitB (tyN d) "str" = some (isStr d) := by cases d <;> (simp only [tyN, isStr]; decide +kernel)
theorem is_list (d : D) : kitB (tyN d) "list" = some (isList d) := by cases d <;> (simp only [tyN, isList]; decide +kernel)
theorem is_tuple (d : D) : kitB (tyN d) "tuple" = some (isTuple d) := by cases d <;> (simp only [tyN, isTuple]; decide +kernel)
theorem is_dict (d : D) : kitB (tyN d) "dict" = some (isDict d) := by cases d <;> (simp only [tyN, isDict]; decide +kernel)
def pIsi (p : D → Bool) (f : PTE) : PTE := fun env Q => f env fun d => Q (.bool (p d))
theorem RepB.ty {K : PySem.W.Frag} {Z S : Fp} {H : Hp} {v : V} {d : D} (r : RepB Z S H v d) : TyX K H v (.type (tyN d)) := by
  cases d with
  | none => cases r.none; exact .base .non
  | bool b => cases r.bool; exact .base (.bl b)
  | int b => cases r.int; exact .base (.int b)
  | str b => cases r.str; exact .base (.str b)
  | list b => obtain ⟨p, us, rfl, hp, _⟩ := r.list; exact .base (.lst hp)
  | tuple b => obtain ⟨p, us, rfl, _, hp, _⟩ := r.tuple; exact .base (.tup hp)
  | dict b =>
    obtain ⟨p, rfl, h⟩ := r.dict
    rcases h with ⟨us, hp, _⟩ | ⟨us, hp, _⟩
    · exact .base (.dK hp)
    · exact .base (.dT hp)
theorem de_isi {X : Cx} {e : Expr} {te : TE} {f : PTE} {T : Str} {n : String} {q : D → Bool} {p pt pos : Pos} (hp : ∀ d, kitB (tyN d) n = some (q d)) (hm : X.mg "isinstance" = none) (hmT : X.mg T = none) (h : DB X e te f) (hvT : bootBuiltins T = some (.type n) := by decide +kernel) (hg : Gl X "isinstance" := by rfl) (hgT : Gl X T := by rfl)
    (hn : T ≠ "__name__" := by decide) (hdb : (T == ("__debug__" : Str)) = false := by decide)
    (he : starEach [e, .Name T pt] X.env = (false, eval e X.env) :: starEach [.Name T pt] X.env := by rfl) (he2 : starEach [.Name T pt] X.env = (false, eval (.Name T pt) X.env) :: starEach [] X.env := by rfl) (hpl : (backTo pos (starEach [.Name T pt] X.env)).any (·.1) = false := by rfl) :
    DE X (.Call (.Name "isinstance" p) [e, .Name T pt] [] pos) (tCB (rIsi X.K) (tCons te (tCons (tC (.ty n)) tNil))) (pIsi q f) := by
  refine ⟨pe_callB call_isi hg hm (by decide +kernel) (pa_cons h.pe (pa_cons (pe_bltn hgT hmT hvT (show RelV (.ty n) (.type n) from rfl) hn hdb) pa_nil he2) he) (by decide) (by decide) he hpl, fun Z O S σ H env Qd Q w rr hf k => ?_⟩
  refine h.pu Z O S σ H env _ _ w rr hf fun v d S1 H1 x1 r1 q1 => ?_
  exact ⟨v, .ty n, _, _, q d, rfl, .ty n, r1.ty, kit_ty (hp d), k _ _ S1 H1 x1 (.bl _) q1⟩
end DL
/-! ## DL7 -/
set_option Elab.async false
set_option linter.all false
set_option maxRecDepth 100000
set_option maxHeartbeats 4000000
/-! DL7: the script and the state of a law; the end of a law's row. -/
namespace DL
open PySem L2 RZ RT PyProof.Rows

section
variable {X : Cx} {e : Expr} {te : TE} {f : PTE} {K : PySem.W.Frag} {pos p : Pos}
theorem SqF.now {H : Hp} {a : Addr} {xs : List V} (h : SqF K H a xs) : SqL K H a xs := h H fun _ _ z => z
def pLenS (i : Nat) : PTE := fun env Q => match slot env i with
  | some (.scr ns) => Q (.int ns.length)
  | _ => False
theorem de_lenS (i : Nat) {x : Str} (hm : X.mg "len" = none) (hN : X.N[i]? = some x := by rfl) (hv : Vis X.env.scope x := by first | exact Or.inl rfl | exact Or.inr (Or.inl rfl) | exact Or.inr (Or.inr rfl)) (hd : (x == ("__debug__" : Str)) = false := by decide) (hcd : (x == ("__classdict__" : Str)) = false := by decide) (hg : Gl X "len" := by rfl)
    (he : starEach [.Name x p2] X.env = (false, eval (.Name x p2) X.env) :: starEach [] X.env := by rfl) : DE X (.Call (.Name "len" p) [.Name x p2] [] pos) (tCB (fun xs H Q => ∃ x n, xs = [x] ∧ LenV X.K x H n ∧ Q (.int n) H) (tCons (tVar i) tNil)) (pLenS i) := by
  refine ⟨pe_callB call_len hg hm boot_len (pa_cons (pe_var hN hv hd hcd) pa_nil he) (by decide) (by decide) he (by rfl), fun Z O S σ H env Qd Q w rr hf k => ?_⟩
  unfold pLenS at hf
  split at hf
  · rename_i ns q
    obtain ⟨v, h1, a, rfl, h2⟩ := rr.get i _ (slot_get env i _ q)
    exact ⟨_, h1, _, ns.length, rfl, .inl ⟨_, h2.now, by simp⟩, k _ _ S H (.refl w) (.int _) hf⟩
  · exact hf.elim
def pIxS (i : Nat) (f : PTE) : PTE := fun env Q => match slot env i with
  | some (.scr ns) => f env fun d => match d with
    | .int j => match atI ns j with
      | some z => Q (.int z)
      | none => False
    | _ => False
  | _ => False
theorem atI_map {α β : Type} (g : α → β) (xs : List α) (j : Int) : atI (xs.map g) j = (atI xs j).map g := by
  unfold atI
  rw [List.length_map]
  cases ixN xs.length j with
  | none => rfl
  | some k => simp
theorem de_ixS (i : Nat) {x : Str} {b : Expr} (h : DE X b te f) (hN : X.N[i]? = some x := by rfl) (hv : Vis X.env.scope x := by first | exact Or.inl rfl | exact Or.inr (Or.inl rfl) | exact Or.inr (Or.inr rfl)) (hd : (x == ("__debug__" : Str)) = false := by decide) (hcd : (x == ("__classdict__" : Str)) = false := by decide) (hs : PlainIx b := by exact fun _ _ => rfl) :
    DE X (.Subscript (.Name x p) b pos) (tOp (rIxL X.K) (tVar i) te) (pIxS i f) := by
  refine ⟨pe_ix ix_list (pe_var hN hv hd hcd) h.pe hs, fun Z O S σ H env Qd Q w rr hf k => ?_⟩
  unfold pIxS at hf
  split at hf
  · rename_i ns q
    obtain ⟨v, h1, h0⟩ := rr.get i _ (slot_get env i _ q)
    obtain ⟨a, rfl, h2⟩ := id h0
    refine ⟨_, h1, h.pu Z O S σ H env _ _ w rr hf fun u d S1 H1 x1 r1 q1 => ?_⟩
    cases r1 <;> first | exact q1.elim | skip
    rename_i j
    obtain ⟨a', e, h3⟩ := RepSV.wx (K := X.K) (O := O) (sv := .scr ns) h0 w x1
    cases e
    cases ea : atI ns j with
    | none => simp only [ea] at q1
    | some z =>
      simp only [ea] at q1
      exact ⟨a, ns.map V.int, j, .int z, rfl, rfl, h3.now, by rw [atI_map, ea]; rfl, k _ _ S1 H1 x1 (.int _) q1⟩
  · exact hf.elim
/-- state[0] -/
def pSt (i : Nat) : PTE := fun env Q => match slot env i with
  | some .st => ∀ s : Int, 0 ≤ s → Q (.int s)
  | _ => False
theorem atI_zero (v : V) : atI [v] 0 = some v := rfl
theorem de_st (i : Nat) {x : Str} {kk : Nat} {pz : Pos} (hN : X.N[i]? = some x := by rfl) (hv : Vis X.env.scope x := by first | exact Or.inl rfl | exact Or.inr (Or.inl rfl) | exact Or.inr (Or.inr rfl)) (hd : (x == ("__debug__" : Str)) = false := by decide) (hcd : (x == ("__classdict__" : Str)) = false := by decide) (hs : PlainIx (.Constant (.int 0) kk pz) := by exact fun _ _ => rfl) :
    DE X (.Subscript (.Name x p) (.Constant (.int 0) kk pz) pos) (tOp (rIxL X.K) (tVar i) (tC (.int 0))) (pSt i) := by
  refine ⟨pe_ix ix_list (pe_var hN hv hd hcd) pe_int hs, fun Z O S σ H env Qd Q w rr hf k => ?_⟩
  unfold pSt at hf
  split at hf
  · rename_i q
    obtain ⟨v, h1, a, rfl, h2⟩ := rr.get i _ (slot_get env i _ q)
    obtain ⟨s, h0, hs⟩ := w.zd a h2
    exact ⟨_, h1, a, [.int s], 0, .int s, rfl, rfl, SqL.of hs, atI_zero _, k _ _ S H (.refl w) (.int _) (hf s h0)⟩
  · exact hf.elim
def pSetSt (i : Nat) (f : PTE) : PTS := fun pd env => match slot env i with
  | some .st => f env fun d => match d with
    | .int s => 0 ≤ s ∧ pd.nx env
    | _ => False
  | _ => False
theorem ds_setSt (i : Nat) {x : Str} {kk : Nat} {pz tp : Pos} (h : DE X e te f) (hN : X.N[i]? = some x := by rfl) (hv : Vis X.env.scope x := by first | exact Or.inl rfl | exact Or.inr (Or.inl rfl) | exact Or.inr (Or.inr rfl)) (hd : (x == ("__debug__" : Str)) = false := by decide) (hcd : (x == ("__classdict__" : Str)) = false := by decide)
    (hpg : PG X (.Subscript (.Name x p) (.Constant (.int 0) kk pz) tp) (L2.gSub (tVar i) (tC (.int 0)) rSetL)) (hs : swapsWithSole [.Subscript (.Name x p) (.Constant (.int 0) kk pz) tp] e pos.line X.env = pure false := by rfl) (hw : swappedStores [.Subscript (.Name x p) (.Constant (.int 0) kk pz) tp] e X.env = pure none := by rfl)
    (h1 : (assignEach [.Subscript (.Name x p) (.Constant (.int 0) kk pz) tp] X.env).map (·.2) = [assign (.Subscript (.Name x p) (.Constant (.int 0) kk pz) tp) X.env] := by rfl) :
    DS X (.Assign [.Subscript (.Name x p) (.Constant (.int 0) kk pz) tp] e pos) (tAsg te (L2.gSub (tVar i) (tC (.int 0)) rSetL)) (pSetSt i f) := by
  refine ⟨ps_asg h.pe hpg hs hw h1, fun Z S0 H0 S σ H env En pd x r hf en => ?_⟩
  unfold pSetSt at hf
  split at hf
  · rename_i q
    obtain ⟨v, h1, a, rfl, h2⟩ := r.get i _ (slot_get env i _ q)
    refine h.pu Z _ S σ H env _ _ x.wd r hf fun u d S1 H1 x1 r1 q1 => ?_
    cases r1 <;> first | exact q1.elim | skip
    rename_i s'
    obtain ⟨s, h0, hs⟩ := x1.wd.zd a h2
    have nS : ¬ S1 a := x1.wd.zs a h2
    refine ⟨_, h1, a, [.int s], 0, 0, rfl, rfl, hs, rfl, ?_⟩
    have wd : Wd Z S1 (upd H1 a (.lst [.int s'])) := ⟨fun b sb => by rw [upd_ne (show b ≠ a by rintro rfl; exact nS sb)]; exact x1.wd.sd b sb, x1.wd.zs, fun b zb => by
      by_cases hb : b = a
      · subst hb; exact ⟨s', q1.1, upd_same⟩
      · rw [upd_ne hb]; exact x1.wd.zd b zb⟩
    have x2 : Wx Z S1 H1 S1 (upd H1 a (.lst [.int s'])) := ⟨fun b o nz hb => by rw [upd_ne (show b ≠ a by rintro rfl; exact nz h2)]; exact hb, fun _ s => s, fun _ s => .inl s, wd⟩
    exact en.nx σ _ S1 env ((x.trans x1).trans x2) (x1.ws.trans x2.ws) ((r.wx x.wd x1).wx x1.wd x2) q1.2
  · exact hf.elim
end

/-! ### the end -/
structure Def (K : PySem.W.Frag) (mg : Str → Option Value) (x : Str) (st : Stmt) (ps : List Str) : Prop where
  ex : ∃ f fd, Fun K x x st f fd ∧ mg x = some (.ref f) ∧ Binds K fd ps [] ∧ (∀ (s : Shared) (us : List Value), us.length = ps.length → BindsTo s fd ⟨us, []⟩ (ps.zip us))
theorem def_at {K : PySem.W.Frag} {h : Heap} {mg : Str → Option Value} {x : Str} {st : Stmt} {ps : List Str} {f : Addr} {oc : Value} {od an : Option Addr} {osl : Array (Option Value)} {kV doc pm cdv ct : Value} (X : K.In h) (G : h.Ns mainGlobals mg)
    (a : PySem.W.nsIn K mainGlobals x = some (some (.ref f))) (l : K.lookup f = some ⟨oc, od, .func (PySem.W.fnOf x x (defArgs st) (defBody st) (defScope st) .none kV doc pm an cdv ct), osl⟩) (c : PySem.W.codeIn K cdv x = true) (k : PySem.W.keepIn K (.ref f) = true)
    (hb : ∀ (kV doc pm : Value) (an : Option Addr) (cdv ct : Value) (us : List Value), us.length = ps.length → bindArgs (PySem.W.fnOf x x (defArgs st) (defBody st) (defScope st) .none kV doc pm an cdv ct) ⟨us, []⟩ = pure (ps.zip us)) : Def K mg x st ps := by
  have F := fun_mk (st := st) l c k
  exact ⟨f, _, F, PySem.W.mg_of X G a, F.binds hb, fun s us hl => .of_eq (hb _ _ _ _ _ _ us hl)⟩
theorem callee_of {P : Program} {w : World} {K : PySem.W.Frag} {mg : Str → Option Value} {base : Heap} {k : Nat} {x : Str} {st : Stmt} {ps : List Str} {G : PFn} (d : Def K mg x st ps) (h : ∀ f fd, Fun K x x st f fd → FnOk P w K mg base CX0 k f fd ps (spD K G)) : Callee P w K mg base k x G := by
  obtain ⟨f, fd, F, m, b, _⟩ := d.ex
  exact ⟨f, fd, ps, h f fd F, m, F.kp, b⟩
/-- what a law promises -/
def G_law : PFn := fun svs Q => ∃ ns : List Int, svs = [.scr ns] ∧ Q (.v (.bool true))
theorem law_end (K : PySem.W.Frag) (H : Hp) (a : Addr) (ns : List Int) (hO : L2.Only H) (hS : SqL K H a (ns.map V.int)) (E : XK) : spD K G_law [.ref a] H (fun v _ => v = .bl true) E := by
  refine ⟨fun _ => False, fun _ => False, [.scr ns], fun sv => sv = .v (.bool true), ⟨fun _ z => z.elim, fun _ z => z.elim, fun _ z => z.elim⟩, .cons ⟨a, rfl, fun H2 h2 => ?_⟩ .nil, ⟨ns, rfl, rfl⟩, fun v sv S' H' _ r e => ?_⟩
  · rcases hS with (h | ⟨o, h⟩) | h
    · rcases hO a with q | ⟨o, xs, q⟩
      · rw [h] at q; cases q
      · rw [h] at q; cases q
    · exact .inl (.inr ⟨o, h2 o _ h⟩)
    · exact .inr h
  · subst e
    cases (show Rep S' H' v (.bool true) from r)
    rfl
theorem law_walk {l : PySem.W.OpenLaw} {k : Nat} {q : Program} {loose : List Str} {XP : (Str → Option Value) → Heap → Prop} {YP : World → Heap → Prop} {d : DefRec} {K : Params → PySem.W.Frag} {st : Stmt} (hn : l.most = some 63) (hdf : d.params.defaults = []) (hr : Room k callerA) (hnm : d.name = "law")
    (hY : ∀ (w : World) (h : Heap), YP w h → (K w.params).In h)
    (F : ∀ (w : World) (mg : Str → Option Value) (h : Heap), (K w.params).In h → h.Ns mainGlobals mg → Def (K w.params) mg "law" st ["script"] ∧
      ∀ (f : Addr) (fd : FuncData), Fun (K w.params) "law" "law" st f fd → ∀ base : Heap, (K w.params).In base → base.Ns mainGlobals mg → FnOk l.prog w (K w.params) mg base CX0 k f fd ["script"] (spD (K w.params) G_law)) :
    PySem.W.WalkO q loose XP YP l.row.toRowW d [] (fun f vs => PySem.call f vs) := by
  refine L2.walk_of (n := 63) (k := k) (x := "script") (K := K) (CX := fun _ => CX0) (sp := fun w => spD (K w.params) G_law) hn (by decide) hdf hr hY (fun w mg fa h KX G hmg => ?_) (fun w H a ns _ hO hS => law_end _ H a ns hO hS _) fun _ _ _ _ _ z => z
  obtain ⟨D, FF⟩ := F w mg h KX G
  obtain ⟨f, fd, Fn, m, _, b⟩ := D.ex
  rw [hnm, m] at hmg
  cases hmg
  exact ⟨fd, fun s u => b s [u] rfl, FF _ fd Fn⟩
end DL
/-! ## DL8 -/
set_option Elab.async false
set_option linter.all false
set_option maxRecDepth 100000
set_option maxHeartbeats 4000000
/-! DL8: is None, chains, a comprehension stored as a datum. -/
namespace DL
open PySem L2 RZ RT PyProof.Rows
section
variable {X : Cx} {a b c : Expr} {fa fb fc : PTE} {ta tb tc : TE} {pos : Pos} {K : PySem.W.Frag}
def isNone : D → Bool
  | .none => true
  | _ => false
def pIsN (f : PTE) : PTE := fun env Q => f env fun d => Q (.bool (isNone d))
def pNotN (f : PTE) : PTE := fun env Q => f env fun d => Q (.bool (!isNone d))
theorem RepB.isN {Z S : Fp} {H : Hp} {v : V} {d : D} (r : RepB Z S H v d) : decide (v = .non) = isNone d := by
  cases d with
  | none => cases r.none; rfl
  | bool b => cases r.bool; rfl
  | int b => cases r.int; rfl
  | str b => cases r.str; rfl
  | list b => obtain ⟨p, us, rfl, hp, _⟩ := r.list; rfl
  | tuple b => obtain ⟨p, us, rfl, _, hp, _⟩ := r.tuple; rfl
  | dict b => obtain ⟨p, rfl, h⟩ := r.dict; rfl
theorem PureE.isN (h : PureB K ta fa) : PureE K (tIsN ta) (pIsN fa) := fun Z O S σ H env Qd Q w rr hf k =>
  h Z O S σ H env _ _ w rr hf fun v d S1 H1 x1 r1 q1 => by rw [r1.isN]; exact k _ _ S1 H1 x1 (.bl _) q1
theorem PureE.notN (h : PureB K ta fa) : PureE K (tNotN ta) (pNotN fa) := fun Z O S σ H env Qd Q w rr hf k =>
  h Z O S σ H env _ _ w rr hf fun v d S1 H1 x1 r1 q1 => by rw [r1.isN]; exact k _ _ S1 H1 x1 (.bl _) q1
theorem de_isN {j pos'} (h : DB X a ta fa) : DE X (.Compare a [.Is] [.Constant .none j pos'] pos) (tIsN ta) (pIsN fa) := ⟨pe_cmp (pc_isN h.pe) rfl, .isN h.pu⟩
theorem de_notN {j pos'} (h : DB X a ta fa) : DE X (.Compare a [.IsNot] [.Constant .none j pos'] pos) (tNotN ta) (pNotN fa) := ⟨pe_cmp (pc_notN h.pe) rfl, .notN h.pu⟩
theorem dt_isN {j pos'} (h : DB X a ta fa) : DT X (.Compare a [.Is] [.Constant .none j pos'] pos) (tB (tIsN ta)) (pTest (pIsN fa)) := ⟨pt_cmp (pc_isN h.pe) rfl, .testB (.isN h.pu)⟩
theorem dt_notN {j pos'} (h : DB X a ta fa) : DT X (.Compare a [.IsNot] [.Constant .none j pos'] pos) (tB (tNotN ta)) (pTest (pNotN fa)) := ⟨pt_cmp (pc_notN h.pe) rfl, .testB (.notN h.pu)⟩
/-- a op b op c -/
def pChain (g g' : D → D → (D → Prop) → Prop) (fa fb fc : PTE) : PTE := fun env Q => fa env fun x => fb env fun y => g x y fun z => match z with
  | .bool k => if k = true then fc env fun w => g' y w Q else Q (.bool false)
  | _ => False
theorem PureE.chain {r r' : R2} {g g' : D → D → (D → Prop) → Prop} (hr : PureR r g) (hr' : PureR r' g') (ha : PureB K ta fa) (hb : PureB K tb fb) (hc : PureB K tc fc) : PureE K (tChain r r' ta tb tc) (pChain g g' fa fb fc) := by
  intro Z O S σ H env Qd Q w rr hf k
  refine ha Z O S σ H env _ _ w rr hf fun v d S1 H1 x1 r1 q1 => ?_
  refine hb Z O S1 σ H1 env _ _ x1.wd (rr.wx w x1) q1 fun u e S2 H2 x2 r2 q2 => ?_
  have x12 := x1.trans x2
  refine hr Z S2 H2 v u d e _ _ x2.wd (r1.wx x2) r2 q2 fun z b S3 H3 x3 r3 q3 => ?_
  cases b <;> first | exact q3.elim | skip
  rename_i b
  cases r3
  refine ⟨b, rfl, ?_⟩
  have x13 := x12.trans x3
  cases b with
  | true => exact hc Z O S3 σ H3 env _ _ x3.wd (rr.wx w x13) q3 fun s f S4 H4 x4 r4 q4 => hr' Z S4 H4 u s e f Qd Q x4.wd ((r2.wx x3).wx x4) r4 q4 fun v' d' S5 H5 x5 r5 q5 => k v' d' S5 H5 ((x13.trans x4).trans x5) r5 q5
  | false => exact k _ _ S3 H3 x13 (.bl _) q3
theorem dt_chain {op op' : CmpOp} {r r' : R2} {g g' : D → D → (D → Prop) → Prop} (ho : OpR X (compareOp op) r) (hr : PureR r g) (ho' : OpR X (compareOp op') r') (hr' : PureR r' g') (ha : DB X a ta fa) (hb : DB X b tb fb) (hc : DB X c tc fc)
    (hm : lastMarks [op, op'] [b, c] = false := by with_unfolding_all rfl) : DT X (.Compare a [op, op'] [b, c] pos) (tTest (tChain r r' ta tb tc)) (pTest (pChain g g' fa fb fc)) :=
  ⟨pt_chain ho ho' ha.pe hb.pe hc.pe hm, .test (.chain hr hr' ha.pu hb.pu hc.pu)⟩
end
theorem PureF.fz {K : PySem.W.Frag} {t : TE} {g : PTF} (h2 : PureF K t g) : PureE K t (pFz g) := fun Z O S σ H env Qd Q w r hf k => h2 Z O S σ H env _ Q w r hf fun v sv S' H' x rr q => by
  cases sv with
  | v d => exact k v d S' H' x rr q
  | own ds =>
    obtain ⟨p, vs, rfl, hn, hp, rs, ns, nz⟩ := rr
    exact k _ _ _ H' (x.letIn hn nz hp) (.lst (.inr rfl) hp (rs.mono (fun a s => .inl s) fun _ _ _ h => h)) q
  | ownD ds =>
    obtain ⟨p, rfl, hn, hp, ns, nz⟩ := rr
    rcases hp with ⟨vs, hp, rs⟩ | ⟨vs, hp, rs⟩
    · exact k _ _ _ H' (x.letIn hn nz hp) (.dk (.inr rfl) hp (rs.mono (fun a s => .inl s) fun _ _ _ h => h)) q
    · exact k _ _ _ H' (x.letIn hn nz hp) (.dt (.inr rfl) hp (rs.mono (fun a s => .inl s) fun _ _ _ h => h)) q
  | st => exact q.elim
  | scr ns => exact q.elim
  | any => exact q.elim
section
variable {X : Cx}
theorem ds_setLcZ (i : Nat) (own : List (Str × Nat)) {y : Str} {py : Pos} {elt tg iter : Expr} {ifs : List Expr} {scope : Scope} {pos spos : Pos} {wi : TI} {g : TG} {tt : TT} {te : TE} {fi : PTI} {tgt : PTG} {cond : PTT} {fe : PTE} {gs : List Nat} (hN : X.N.Nodup)
    (hsw : swapsWith (.ListComp elt [⟨tg, iter, ifs, 0⟩] scope pos) (some (.Name y py)) spos.line X.env = pure true) (hi : DI X tg iter wi fi) (ok : BlkOk X.N X.env.scope scope own) (hgs : ∀ i ∈ gs, i ∈ own.map (·.2))
    (hg : ∀ (s : Shared) (H : Hp) (C : Addr) (cl : List (Str × Addr)) (fp : List Addr), DG (X.blk s H scope (compEnvC scope cl C X.env) fp) tg g tgt gs)
    (ht0 : DTs (X.blk X.s_0 (fun _ => none) scope (compEnvC scope [] 0 X.env) []) ifs tt cond) (he0 : DE (X.blk X.s_0 (fun _ => none) scope (compEnvC scope [] 0 X.env) []) elt te fe)
    (ht : ∀ (s : Shared) (H : Hp) (C : Addr) (cl : List (Str × Addr)) (fp : List Addr), DTs (X.blk s H scope (compEnvC scope cl C X.env) fp) ifs tt cond)
    (he : ∀ (s : Shared) (H : Hp) (C : Addr) (cl : List (Str × Addr)) (fp : List Addr), DE (X.blk s H scope (compEnvC scope cl C X.env) fp) elt te fe) (hc : X.calm = true := by rfl) (hy : X.N[i]? = some y := by rfl) (hyl : X.env.scope.names.lookup y = some .local := by rfl) (hs : ∀ x, foldedSetIterable iter X.env x = pure x := by intro _; rfl) :
    DS X (.Assign [.Name y py] (.ListComp elt [⟨tg, iter, ifs, 0⟩] scope pos) spos) (tAsg (tLc wi g tt te (own.map (·.2))) (gName i)) (pSet i (pFz (pLc fi tgt cond fe (own.map (·.2))))) :=
  ⟨ps_setLc hc hN hy hyl hsw hi.pi ok (fun s H C cl fp => (hg s H C cl fp).pg) (fun s H C cl fp => (ht s H C cl fp).pe) (fun s H C cl fp => (he s H C cl fp).pe) hs,
    .set i (PureF.lc hi.pu (hg X.s_0 (fun _ => none) 0 [] []).pu hgs (ht X.s_0 (fun _ => none) 0 [] []).pu (he X.s_0 (fun _ => none) 0 [] []).pu).fz⟩
/-- statements as they are needed by the printer -/
theorem ds_app (i : Nat) {x : Str} {p apos cpos pos : Pos} {e : Expr} {te : TE} {f : PTE} (h : DE X e te f) (hN : X.N[i]? = some x := by rfl) (hv : Vis X.env.scope x := by first | exact Or.inl rfl | exact Or.inr (Or.inl rfl) | exact Or.inr (Or.inr rfl)) (hd : (x == ("__debug__" : Str)) = false := by decide) (hcd : (x == ("__classdict__" : Str)) = false := by decide)
    (hbase : attributeBase (.Name x p) "append" X.env (eval (.Name x p) X.env) = eval (.Name x p) X.env := by rfl)
    (hfew : ((backTo cpos (starEach (e :: []) X.env)).all (fun x => !x.1) && (backToKw cpos (keywordEach [] X.env)).all (fun x => x.1.isSome)
      && decide ((e :: []).length + ([] : List Keyword).length + (if ([] : List Keyword).isEmpty then 0 else 1) < 30)) = true := by rfl)
    (hline : (apos.endLine == cpos.line) = true := by rfl) (hs1 : starEach (e :: []) X.env = (false, eval e X.env) :: starEach [] X.env := by rfl) (hplain : (backTo cpos (starEach [] X.env)).any (·.1) = false := by rfl)
    (hs : swapsWith (.Call (.Attribute (.Name x p) "append" apos) [e] [] cpos) none pos.line X.env = pure false := by rfl) :
    DS X (.Expr (.Call (.Attribute (.Name x p) "append" apos) [e] [] cpos) pos) (tDrop (tBM X.K "list" rAppend (tVar i) (tCons te tNil))) (pApp i f) :=
  ⟨ps_expr (pe_bm PySem.F.plainAttrs_list PySem.F.slot_list_append PySem.F.type_list_append mt_append (pe_var hN hv hd hcd) (pa_cons h.pe pa_nil hs1) hbase hfew hline hs1 hplain) hs, .app i h.pu⟩
theorem ds_ext (i : Nat) {x : Str} {p apos cpos pos : Pos} {e : Expr} {te : TE} {f : PTE} (h : DE X e te f) (hN : X.N[i]? = some x := by rfl) (hv : Vis X.env.scope x := by first | exact Or.inl rfl | exact Or.inr (Or.inl rfl) | exact Or.inr (Or.inr rfl)) (hd : (x == ("__debug__" : Str)) = false := by decide) (hcd : (x == ("__classdict__" : Str)) = false := by decide)
    (hbase : attributeBase (.Name x p) "extend" X.env (eval (.Name x p) X.env) = eval (.Name x p) X.env := by rfl)
    (hfew : ((backTo cpos (starEach (e :: []) X.env)).all (fun x => !x.1) && (backToKw cpos (keywordEach [] X.env)).all (fun x => x.1.isSome)
      && decide ((e :: []).length + ([] : List Keyword).length + (if ([] : List Keyword).isEmpty then 0 else 1) < 30)) = true := by rfl)
    (hline : (apos.endLine == cpos.line) = true := by rfl) (hs1 : starEach (e :: []) X.env = (false, eval e X.env) :: starEach [] X.env := by rfl) (hplain : (backTo cpos (starEach [] X.env)).any (·.1) = false := by rfl)
    (hs : swapsWith (.Call (.Attribute (.Name x p) "extend" apos) [e] [] cpos) none pos.line X.env = pure false := by rfl) :
    DS X (.Expr (.Call (.Attribute (.Name x p) "extend" apos) [e] [] cpos) pos) (tDrop (tBM X.K "list" rExtend (tVar i) (tCons te tNil))) (pExt i f) :=
  ⟨ps_expr (pe_bm PySem.F.plainAttrs_list PySem.F.slot_list_extend PySem.F.type_list_extend mt_extend (pe_var hN hv hd hcd) (pa_cons h.pe pa_nil hs1) hbase hfew hline hs1 hplain) hs, .ext i h.pu⟩
theorem ds_pop (i : Nat) {x : Str} {p apos cpos pos : Pos} (hN : X.N[i]? = some x := by rfl) (hv : Vis X.env.scope x := by first | exact Or.inl rfl | exact Or.inr (Or.inl rfl) | exact Or.inr (Or.inr rfl)) (hd : (x == ("__debug__" : Str)) = false := by decide) (hcd : (x == ("__classdict__" : Str)) = false := by decide)
    (hbase : attributeBase (.Name x p) "pop" X.env (eval (.Name x p) X.env) = eval (.Name x p) X.env := by rfl) (hline : (apos.endLine == cpos.line) = true := by rfl)
    (hs : swapsWith (.Call (.Attribute (.Name x p) "pop" apos) [] [] cpos) none pos.line X.env = pure false := by rfl) :
    DS X (.Expr (.Call (.Attribute (.Name x p) "pop" apos) [] [] cpos) pos) (tDrop (tBM0 X.K "list" rPop (tVar i))) (pPop i) :=
  ⟨ps_expr (pe_bm0 PySem.F.plainAttrs_list PySem.F.slot_list_pop PySem.F.type_list_pop mt_pop (pe_var hN hv hd hcd) hbase hline) hs, .pop i⟩
theorem ds_setIx (i : Nat) {x : Str} {p tp pos : Pos} {b e : Expr} {ti te : TE} {fi f : PTE} (hi : DE X b ti fi) (h : DE X e te f)
    (hpg : PG X (.Subscript (.Name x p) b tp) (L2.gSub (tVar i) ti rSetL)) (hs : swapsWithSole [.Subscript (.Name x p) b tp] e pos.line X.env = pure false := by rfl) (hw : swappedStores [.Subscript (.Name x p) b tp] e X.env = pure none := by rfl)
    (h1 : (assignEach [.Subscript (.Name x p) b tp] X.env).map (·.2) = [assign (.Subscript (.Name x p) b tp) X.env] := by rfl) :
    DS X (.Assign [.Subscript (.Name x p) b tp] e pos) (tAsg te (L2.gSub (tVar i) ti rSetL)) (pSetIx i fi f) := ⟨ps_asg h.pe hpg hs hw h1, .setIx i hi.pu h.pu⟩
end
/-! ### frozen values, for the walk -/
def frz (Q : D → Prop) : SV → Prop
  | .v d => Q d
  | .own ds => Q (.list ds)
  | .ownD ks => Q (.dict ks)
  | _ => False
theorem pFz_eq (f : PTF) (env : Env) (Q : D → Prop) : pFz f env Q = f env (frz Q) := rfl
theorem frz_v (Q : D → Prop) (d : D) : frz Q (.v d) = Q d := rfl
theorem frz_own (Q : D → Prop) (d : List D) : frz Q (.own d) = Q (.list d) := rfl
theorem frz_ownD (Q : D → Prop) (d : List (D × D)) : frz Q (.ownD d) = Q (.dict d) := rfl
theorem slot_z (x : Option SV) (r : Env) : slot (x :: r) 0 = x := rfl
theorem slot_s (x : Option SV) (r : Env) (n : Nat) : slot (x :: r) (n + 1) = slot r n := rfl
theorem set_z (x y : Option SV) (r : Env) : List.set (x :: r) 0 y = y :: r := rfl
theorem set_s (x y : Option SV) (r : Env) (n : Nat) : List.set (x :: r) (n + 1) y = x :: List.set r n y := rfl
end DL
/-! ## DL9 -/
set_option Elab.async false
set_option linter.all false
set_option maxRecDepth 100000
set_option maxHeartbeats 4000000
/-! DL9: the readings applied, for the walk (printed by mkap.py). -/
namespace DL
open PySem L2 RZ RT PyProof.Rows
def ForB (tgt : PTG) (F : PTS) (pd : PEnds) (ds : List D) (env : Env) : Prop :=  ∃ I : Nat → Env → Prop, I 0 env ∧
  (∀ k env' d, I k env' → ds[k]? = some d → tgt d env' fun env2 => F { pd with nx := I (k + 1), ct := I (k + 1), bk := pd.nx } env2) ∧ (∀ env', I ds.length env' → pd.nx env')
def LcB (tgt : PTG) (cond : PTT) (elt : PTE) (vs : List Nat) (env : Env) (Q : SV → Prop) (ds : List D) : Prop :=  ds.length ≤ 16777216 ∧ ∃ I : Nat → List D → Prop, I 0 [] ∧
  (∀ k acc d, I k acc → ds[k]? = some d → tgt d (wipeE env vs) fun env2 => cond env2 fun b => if b = true then elt env2 fun y => I (k + 1) (acc ++ [y]) else I (k + 1) acc) ∧ (∀ acc, I ds.length acc → Q (.own acc))
theorem pSeq_ap (F G : PTS) (pd : PEnds) (env : Env) : pSeq F G pd env = (F { pd with nx := G pd } env) := rfl
theorem pSet_ap (i : Nat) (f : PTE) (pd : PEnds) (env : Env) : pSet i f pd env = (f env fun d => pd.nx (env.set i (some (.v d)))) := rfl
theorem pSetF_ap (i : Nat) (f : PTF) (pd : PEnds) (env : Env) : pSetF i f pd env = (f env fun sv => pd.nx (env.set i (some sv))) := rfl
theorem pRet_ap (f : PTE) (pd : PEnds) (env : Env) : pRet f pd env = (f env fun d => pd.rt (.v d)) := rfl
theorem pRetF_ap (f : PTF) (pd : PEnds) (env : Env) : pRetF f pd env = (f env pd.rt) := rfl
theorem pRetVar_ap (i : Nat) (pd : PEnds) (env : Env) : pRetVar i pd env = (match slot env i with
  | some (.v d) => pd.rt (.v d)
  | some (.own ds) => pd.rt (.own ds)
  | some (.ownD ds) => pd.rt (.ownD ds)
  | _ => False) := rfl
theorem pRetN_ap  (pd : PEnds) (Q0 : Env) : pRetN  pd Q0 = (pd.rt (.v .none)) := rfl
theorem pIfS_ap (c : PTT) (F G : PTS) (pd : PEnds) (env : Env) : pIfS c F G pd env = (c env fun b => if b = true then F pd env else G pd env) := rfl
theorem pPar_ap (i j : Nat) (f : PTL) (pd : PEnds) (env : Env) : pPar i j f pd env = (f env fun ds => match ds with
  | [x, y] => pd.nx ((env.set i (some (.v x))).set j (some (.v y)))
  | _ => False) := rfl
theorem pNext_ap  (pd : PEnds) (env : Env) : pNext  pd env = (pd.nx env) := rfl
theorem pNever_ap  (env0 : PEnds) (Q0 : Env) : pNever  env0 Q0 = (False) := rfl
theorem pTgt_ap (f : PTE) (g : PTG) (pd : PEnds) (env : Env) : pTgt f g pd env = (f env fun d => g d env pd.nx) := rfl
theorem pDrop_ap (f : PTE) (pd : PEnds) (env : Env) : pDrop f pd env = (f env fun _ => pd.nx env) := rfl
theorem pVar_ap (i : Nat) (env : Env) (Q : D → Prop) : pVar i env Q = (match slot env i with
  | some (.v d) => Q d
  | _ => False) := rfl
theorem pVarB_ap (i : Nat) (env : Env) (Q : D → Prop) : pVarB i env Q = (match slot env i with
  | some (.v d) => Q d
  | some (.own ds) => Q (.list ds)
  | some (.ownD ds) => Q (.dict ds)
  | _ => False) := rfl
theorem pC_ap (d : D) (env0 : Env) (Q : D → Prop) : pC d env0 Q = (Q d) := rfl
theorem pV_ap (f : PTE) (env : Env) (Q : SV → Prop) : pV f env Q = (f env fun d => Q (.v d)) := rfl
theorem pTest_ap (f : PTE) (env : Env) (Q : Bool → Prop) : pTest f env Q = (f env fun d => match d with
  | .bool b => Q b
  | _ => False) := rfl
theorem pAnd_ap (f g : PTT) (env : Env) (Q : Bool → Prop) : pAnd f g env Q = (f env fun c => if c = true then g env Q else Q false) := rfl
theorem pOr_ap (f g : PTT) (env : Env) (Q : Bool → Prop) : pOr f g env Q = (f env fun c => if c = true then Q true else g env Q) := rfl
theorem pNot_ap (f : PTT) (env : Env) (Q : Bool → Prop) : pNot f env Q = (f env fun c => Q (!c)) := rfl
theorem pIf_ap (c : PTT) (fa fb : PTE) (env : Env) (Q : D → Prop) : pIf c fa fb env Q = (c env fun b => if b = true then fa env Q else fb env Q) := rfl
theorem pAndV_ap (fa fb : PTE) (env : Env) (Q : D → Prop) : pAndV fa fb env Q = (fa env fun d => match d with
  | .bool c => if c = true then fb env Q else Q (.bool false)
  | _ => False) := rfl
theorem pOrV_ap (fa fb : PTE) (env : Env) (Q : D → Prop) : pOrV fa fb env Q = (fa env fun d => match d with
  | .bool c => if c = true then Q (.bool true) else fb env Q
  | _ => False) := rfl
theorem pNotV_ap (fa : PTE) (env : Env) (Q : D → Prop) : pNotV fa env Q = (fa env fun d => match d with
  | .bool c => Q (.bool (!c))
  | _ => False) := rfl
theorem pNil_ap  (env0 : Env) (Q : List D → Prop) : pNil  env0 Q = (Q []) := rfl
theorem pCons_ap (f : PTE) (g : PTL) (env : Env) (Q : List D → Prop) : pCons f g env Q = (f env fun x => g env fun xs => Q (x :: xs)) := rfl
theorem aNil_ap  (env0 : Env) (Q : List SV → Prop) : aNil  env0 Q = (Q []) := rfl
theorem aCons_ap (f : PTE) (g : PTA) (env : Env) (Q : List SV → Prop) : aCons f g env Q = (f env fun x => g env fun xs => Q (.v x :: xs)) := rfl
theorem aSlot_ap (i : Nat) (g : PTA) (env : Env) (Q : List SV → Prop) : aSlot i g env Q = (match slot env i with
  | some .st => g env fun xs => Q (.st :: xs)
  | some (.scr ns) => g env fun xs => Q (.scr ns :: xs)
  | _ => False) := rfl
theorem pTup_ap (g : PTL) (env : Env) (Q : D → Prop) : pTup g env Q = (g env fun xs => lineOk xs.length ∧ Q (.tuple xs)) := rfl
theorem pLst_ap (g : PTL) (env : Env) (Q : SV → Prop) : pLst g env Q = (g env fun xs => lineOk xs.length ∧ Q (.own xs)) := rfl
theorem pBF_ap (g : PBn) (fa : PTL) (env : Env) (Q : SV → Prop) : pBF g fa env Q = (fa env fun ds => g ds Q) := rfl
theorem pCall_ap (G : PFn) (fa : PTA) (env : Env) (Q : SV → Prop) : pCall G fa env Q = (fa env fun svs => G svs Q) := rfl
theorem pIsi_ap (p : D → Bool) (f : PTE) (env : Env) (Q : D → Prop) : pIsi p f env Q = (f env fun d => Q (.bool (p d))) := rfl
theorem pIsN_ap (f : PTE) (env : Env) (Q : D → Prop) : pIsN f env Q = (f env fun d => Q (.bool (isNone d))) := rfl
theorem pNotN_ap (f : PTE) (env : Env) (Q : D → Prop) : pNotN f env Q = (f env fun d => Q (.bool (!isNone d))) := rfl
theorem pSt_ap (i : Nat) (env : Env) (Q : D → Prop) : pSt i env Q = (match slot env i with
  | some .st => ∀ s : Int, 0 ≤ s → Q (.int s)
  | _ => False) := rfl
theorem pSetSt_ap (i : Nat) (f : PTE) (pd : PEnds) (env : Env) : pSetSt i f pd env = (match slot env i with
  | some .st => f env fun d => match d with
    | .int s => 0 ≤ s ∧ pd.nx env
    | _ => False
  | _ => False) := rfl
theorem pLenS_ap (i : Nat) (env : Env) (Q : D → Prop) : pLenS i env Q = (match slot env i with
  | some (.scr ns) => Q (.int ns.length)
  | _ => False) := rfl
theorem pIxS_ap (i : Nat) (f : PTE) (env : Env) (Q : D → Prop) : pIxS i f env Q = (match slot env i with
  | some (.scr ns) => f env fun d => match d with
    | .int j => match atI ns j with
      | some z => Q (.int z)
      | none => False
    | _ => False
  | _ => False) := rfl
theorem pFor_ap (fi : PTI) (tgt : PTG) (F : PTS) (pd : PEnds) (env : Env) : pFor fi tgt F pd env = (fi env fun ds => ForB tgt F pd ds env) := rfl
theorem pIter_ap (f : PTE) (env : Env) (Q : List D → Prop) : pIter f env Q = (f env fun d => gItems d Q) := rfl
theorem pRange1_ap (f : PTE) (env : Env) (Q : List D → Prop) : pRange1 f env Q = (f env fun d => match d with
  | .int n => (-(2 ^ 62) ≤ n ∧ n < 2 ^ 62) ∧ Q (rngD 0 n.toNat)
  | _ => False) := rfl
theorem pRange2_ap (f g : PTE) (env : Env) (Q : List D → Prop) : pRange2 f g env Q = (f env fun d => g env fun e => match d, e with
  | .int i, .int j => (-(2 ^ 62) ≤ i ∧ i < 2 ^ 62 ∧ -(2 ^ 62) ≤ j ∧ j < 2 ^ 62) ∧ Q (rngD i (j - i).toNat)
  | _, _ => False) := rfl
theorem pRev_ap (f : PTE) (env : Env) (Q : List D → Prop) : pRev f env Q = (f env fun d => gItems d fun ds => Q ds.reverse) := rfl
theorem pZip_ap (f g : PTE) (env : Env) (Q : List D → Prop) : pZip f g env Q = (f env fun d => g env fun e => match d, e with
  | .list xs, .list ys => Q (pairs xs ys)
  | .tuple xs, .tuple ys => Q (pairs xs ys)
  | _, _ => False) := rfl
theorem pSl_ap (f : PTE) (l h : PTO) (env : Env) (Q : SV → Prop) : pSl f l h env Q = (f env fun d => l env fun lo => h env fun hi => gSl d lo hi Q) := rfl
theorem pNoPart_ap  (env0 : Env) (Q : Option Int → Prop) : pNoPart  env0 Q = (Q none) := rfl
theorem pPart_ap (f : PTE) (env : Env) (Q : Option Int → Prop) : pPart f env Q = (f env fun d => match d with
  | .int i => Q (some i)
  | _ => False) := rfl
theorem pFreeze_ap (i : Nat) (F : PTS) (pd : PEnds) (env : Env) : pFreeze i F pd env = (match slot env i with
  | some (.own ds) => F pd (env.set i (some (.v (.list ds))))
  | some (.ownD ds) => F pd (env.set i (some (.v (.dict ds))))
  | _ => F pd env) := rfl
theorem pApp_ap (i : Nat) (f : PTE) (pd : PEnds) (env : Env) : pApp i f pd env = (match slot env i with
  | some (.own ds) => f env fun d => ds.length < 16777216 ∧ pd.nx (env.set i (some (.own (ds ++ [d]))))
  | _ => False) := rfl
theorem pExt_ap (i : Nat) (f : PTE) (pd : PEnds) (env : Env) : pExt i f pd env = (match slot env i with
  | some (.own ds) => f env fun d => match d with
    | .list es => ds.length + es.length ≤ 16777216 ∧ pd.nx (env.set i (some (.own (ds ++ es))))
    | _ => False
  | _ => False) := rfl
theorem pPop_ap (i : Nat) (pd : PEnds) (env : Env) : pPop i pd env = (match slot env i with
  | some (.own ds) => ds ≠ [] ∧ pd.nx (env.set i (some (.own ds.dropLast)))
  | _ => False) := rfl
theorem pSetIx_ap (i : Nat) (fi fe : PTE) (pd : PEnds) (env : Env) : pSetIx i fi fe pd env = (match slot env i with
  | some (.own ds) => fe env fun d => fi env fun k => match k with
    | .int n => match ixN ds.length n with
      | some j => pd.nx (env.set i (some (.own (ds.set j d))))
      | none => False
    | _ => False
  | _ => False) := rfl
theorem pBreak_ap  (pd : PEnds) (env : Env) : pBreak  pd env = (pd.bk env) := rfl
theorem pCont_ap  (pd : PEnds) (env : Env) : pCont  pd env = (pd.ct env) := rfl
theorem pYes_ap  (env0 : Env) (Q : Bool → Prop) : pYes  env0 Q = (Q true) := rfl
theorem pLc_ap (fi : PTI) (tgt : PTG) (cond : PTT) (elt : PTE) (vs : List Nat) (env : Env) (Q : SV → Prop) : pLc fi tgt cond elt vs env Q = (fi env fun ds => LcB tgt cond elt vs env Q ds) := rfl
theorem atL1_0 (x : D) : atI [x] 0 = some x := rfl
theorem atL2_0 (x y : D) : atI [x, y] 0 = some x := rfl
theorem atL2_1 (x y : D) : atI [x, y] 1 = some y := rfl
theorem atL3_0 (x y z : D) : atI [x, y, z] 0 = some x := rfl
theorem atL3_1 (x y z : D) : atI [x, y, z] 1 = some y := rfl
theorem atL3_2 (x y z : D) : atI [x, y, z] 2 = some z := rfl
theorem pOp_ap (g : D → D → (D → Prop) → Prop) (fa fb : PTE) (env : Env) (Q : D → Prop) : pOp g fa fb env Q = (fa env fun x => fb env fun y => g x y Q) := rfl
theorem pOpF_ap (g : D → D → (SV → Prop) → Prop) (fa fb : PTE) (env : Env) (Q : SV → Prop) : pOpF g fa fb env Q = (fa env fun x => fb env fun y => g x y Q) := rfl
theorem pUn_ap (g : D → (D → Prop) → Prop) (fa : PTE) (env : Env) (Q : D → Prop) : pUn g fa env Q = (fa env fun x => g x Q) := rfl
theorem pB_ap (g : List D → (D → Prop) → Prop) (fa : PTL) (env : Env) (Q : D → Prop) : pB g fa env Q = (fa env fun x => g x Q) := rfl

end DL
/-! ## DLexc -/
set_option Elab.async false
set_option linter.all false
set_option maxRecDepth 100000
set_option maxHeartbeats 4000000
/-! DLexc: defs that raise an own error without fields. -/
namespace DL
open PySem L2 RZ RT PyProof.Rows PySem.Spec
def veB : List Value := [.type "ValueError", .type "Exception", .type "BaseException", .type "object"]
/-- the error class C below U, by their names -/
structure ExcT (K : PySem.W.Frag) (mg : Str → Option Value) (x y : Str) (C U : Addr) : Prop where
  gC : mg x = some (.ref C)
  gU : mg y = some (.ref U)
  q : PySem.W.excIn K C veB "ValueError.__new__" = true
  kC : PySem.W.keepIn K (.ref C) = true
  sC : PySem.W.subIn K (.ref C) (.type "BaseException") = some true
  tC : PySem.W.typeIn K (.ref C) = some (.type "type")
  em : PySem.W.exmOne K (.ref C) (.ref U) = some true
  ec : ExcC K C
theorem exc_at {K : PySem.W.Frag} {h : Heap} {mg : Str → Option Value} {x y : Str} {C U : Addr} (X : K.In h) (G : h.Ns mainGlobals mg)
    (a : PySem.W.nsIn K mainGlobals x = some (some (.ref C))) (b : PySem.W.nsIn K mainGlobals y = some (some (.ref U)))
    (q : PySem.W.excIn K C [.type "ValueError", .type "Exception", .type "BaseException", .type "object"] "ValueError.__new__" = true) (kC : PySem.W.keepIn K (.ref C) = true) (sC : PySem.W.subIn K (.ref C) (.type "BaseException") = some true) (tC : PySem.W.typeIn K (.ref C) = some (.type "type"))
    (sU : PySem.W.subIn K (.ref U) (.type "BaseException") = some true) (hU : PySem.W.hasDictIn K U = true) (tU : PySem.W.typeIn K (.ref U) = some (.type "type")) (sCU : PySem.W.subIn K (.ref C) (.ref U) = some true)
    (hg : PySem.W.findIn K (.ref C) "__getattribute__" = some (some (.builtin "BaseException.__getattribute__"))) (hk : PySem.W.findIn K (.ref C) "__getattr__" = some none) (hd : PySem.W.hasDictIn K C = true)
    (ha : PySem.W.findIn K (.ref C) "__class__" = some (some (.builtin "object.__class__"))) (hn : PySem.W.specialIn K (.builtin "object.__class__") "__get__" = some (some (.builtin "getset_descriptor.__get__"))) (ht : PySem.W.takesIn K (.builtin "object.__class__") = some true)
    (hm : PySem.W.mroIn K C (.type "object") = some true) : ∃ C U, ExcT K mg x y C U :=
  ⟨C, U, PySem.W.mg_of X G a, PySem.W.mg_of X G b, q, kC, sC, tC, PySem.W.exm_ref sU hU tU sCU, ⟨hg, hk, sC, hd, ha, hn, ht, hm⟩⟩
section
variable {X : Cx} {C : Addr} {bmB : List Value} {B newId initId : String}
theorem pmk_own0 {x : Str} {p pos : Pos} (F : ExcBaseFacts B newId initId bmB) (q : PySem.W.excIn X.K C bmB newId = true) (gC : X.mg x = some (.ref C)) (kC : PySem.W.keepIn X.K (.ref C) = true) (r : Raises X (.ref C)) (hg : Gl X x)
    (hdb : (x == ("__debug__" : Str)) = false := by decide) : PMk X (.Call (.Name x p) [] [] pos) (fun _ H Q => Q (.ref C) none H) := by
  intro pins s σ H Q I h
  refine wpAny_Call_Name_kw (ld_glob I hg gC ?_ hdb)
  refine PySem.W.callWith_K0 I.kIn kC ?_
  show wpAny _ _ (call (.ref C) []) _ _ _
  obtain ⟨bm, N, nm, qn, bs, hdct, sn, sub, ab, col, dd, k0, k1, k2, k3, k5, mN, hC, hN, hni, T⟩ := exc_obj I.kIn q
  refine wpAny_call_exc_subT F T hC hN hni (fun h' e hm => ?_) (by show 0 ≤ sizeLine; omega)
  exact mk_of I hm r h (I.hok.gone hm.new)
end
/-- a def that raises C on data of G -/
abbrev PDom := List SV → Prop
def spX (K : PySem.W.Frag) (C : Addr) (G : PDom) : Sp := fun vs H _ E => ∃ (Z S : Fp) (svs : List SV), Wd Z S H ∧ RepSVs K Z S H vs svs ∧ G svs ∧ ∀ S' H', Wx Z S H S' H' → E (.ref C) none H'
structure CalleeX (P : Program) (w : World) (K : PySem.W.Frag) (mg : Str → Option Value) (base : Heap) (k : Nat) (x : Str) (C : Addr) (G : PDom) : Prop where
  ex : ∃ f fd ps, FnOk P w K mg base (L2.CX P w) k f fd ps (spX K C G) ∧ mg x = some (.ref f) ∧ PySem.W.keepIn K (.ref f) = true ∧ Binds K fd ps []
theorem call_raises {X : Cx} {es : List Expr} {K : PySem.W.Frag} {C : Addr} {G : PDom} {E : L2.St → XK} {t : TA} {fa : PTA} {Z O S : Fp} {σ : L2.St} {H : Hp} {env : Env} {Q : VK} (ha : DA X es t fa) (hK : K = X.K) (w : Wd Z S H) (rr : RepEnv X.K Z O S H σ env) (hf : fa env G)
    (hE : ∀ S1 H1, Wx Z S H S1 H1 → E σ (.ref C) none H1) : tCallS (spX K C G) E t σ H Q := by
  subst hK
  refine ha.pu Z O S σ H env _ _ w rr hf fun vs svs S1 H1 x1 r1 q1 => ?_
  exact ⟨Z, S1, svs, x1.wd, r1, q1, fun S' H' x' => hE S' H' (x1.trans x')⟩
/-- isinstance(e, C) of the caught error -/
def rIsX (K : PySem.W.Frag) (cls : Value) (d : Option Addr) (C a : Addr) : List V → Hp → VK → Prop := fun xs H Q => cls = .ref C ∧ d = none ∧ xs = [.ref a, .ref C] ∧ Q (.bl true) H
theorem call_isX {X : Cx} {a C : Addr} {cls : Value} {d : Option Addr} {oe : Obj} {pn : List (Addr × Obj)} (T : ExcC X.K C) (hz : Zc cls d oe) (hf : ∃ vs, oe.data = .fields vs) : CallR (X.suite a ((a, oe) :: pn)) (.builtin "isinstance") (rIsX X.K cls d C a) := by
  intro pins s σ H xs us Q I r h
  obtain ⟨rfl, rfl, rfl, q⟩ := h
  refine call_isE T hz hf pins s σ H _ us Q I r ⟨.ref C, .ref C, true, rfl, fun u r => ?_, ?_, q⟩
  · exact r
  · unfold PySem.W.kitOne
    rw [if_pos (beq_self_eq_true _)]
theorem raises_of {X : Cx} {x y : Str} {C U : Addr} (T : ExcT X.K X.mg x y C U) : Raises X (.ref C) := raises_own T.sC T.tC
/-- raise C() -/
theorem ps_raise0 {X : Cx} {W : WX} {x y : Str} {C U : Addr} {p pos pos2 : Pos} (hc : X.calm = true) (tk : Takes X W) (T : ExcT X.K X.mg x y C U) (hg : Gl X x) (hdb : (x == ("__debug__" : Str)) = false := by decide) :
    PS X (.Raise (some (.Call (.Name x p) [] [] pos)) none pos2) (fun _ σ H => W (.ref C) none σ H) := ps_raise hc tk (pmk_own0 PySem.F.excBase_ValueError T.q T.gC T.kC (raises_of T) hg hdb)
/-- if test: raise C(), and the rest, where the test holds -/
theorem raises_if {K : PySem.W.Frag} {C : Addr} {tc : TT} {fc : PTT} {Z S : Fp} {σ : L2.St} {H : Hp} {env : Env} {D : Ends} {u v : TS} {W : WX} (hc : PureT K tc fc) (w : Wd Z S H) (rr : RepEnv K Z S S H σ env) (hf : fc env fun b => b = true)
    (hE : ∀ S1 H1, Wx Z S H S1 H1 → W (.ref C) none σ H1) : tSeq (tIfS tc (fun _ σ H => W (.ref C) none σ H) u) v D σ H := by
  refine hc Z S S σ H env _ _ w rr hf fun c S1 H1 x1 q => ?_
  subst q
  exact hE S1 H1 x1
end DL
/-! ## LibRat -/
set_option Elab.async false
set_option linter.all false
set_option maxRecDepth 100000
set_option maxHeartbeats 4000000
/-! LibRat: contracts of the numbers' defs and of a law's own helpers. -/
namespace DL
open PySem L2 RZ RT PyProof.Rows
local macro_rules | `(tactic| walk_at "dl") => `(tactic| simp only [↓pSeq_ap, ↓pSet_ap, ↓pSetF_ap, ↓pRet_ap, ↓pRetF_ap, ↓pRetVar_ap, ↓pRetN_ap, ↓pIfS_ap, ↓pPar_ap, ↓pNext_ap, ↓pNever_ap, ↓pTgt_ap, ↓pDrop_ap, ↓pVar_ap, ↓pVarB_ap, ↓pC_ap, ↓pOp_ap, ↓pOpF_ap, ↓pUn_ap, ↓pFz_eq, ↓frz_v, ↓frz_own, ↓frz_ownD, ↓pV_ap, ↓pTest_ap, ↓pAnd_ap, ↓pOr_ap, ↓pNot_ap, ↓pIf_ap, ↓pAndV_ap, ↓pOrV_ap, ↓pNotV_ap, ↓pNil_ap, ↓pCons_ap, ↓aNil_ap, ↓aCons_ap, ↓aSlot_ap, ↓pTup_ap, ↓pLst_ap, ↓pB_ap, ↓pBF_ap, ↓pCall_ap, ↓pIsi_ap, ↓pIsN_ap, ↓pNotN_ap, ↓pSt_ap, ↓pSetSt_ap, ↓pLenS_ap, ↓pIxS_ap, ↓pFor_ap, ↓pIter_ap, ↓pRange1_ap, ↓pRange2_ap, ↓gItems, pgName, slot_z, slot_s, set_z, set_s, ↓gI, ↓gMinus, ↓gMod, ↓gFdiv, ↓gPow, ↓gLt, ↓gLe, ↓gGt, ↓gGe, ↓gNeg, ↓gAdd, ↓gMul, ↓gIx, ↓gEq, ↓gNe, ↓gLen, ↓gAbs, ↓gIntOf, ↓gTupOf, ↓gLstOf, isInt, isBool, isStr, isList, isTuple, isDict, isNone, eqb_int, eqb_bool, eqb_str, eqb_self, List.length, List.replicate, List.map, List.append, List.cons_append, List.nil_append, Bool.not_true, Bool.not_false, if_true, if_false, Bool.false_eq_true, ite_true, ite_false, reduceIte, Int.reduceLT, Int.reduceLE, Int.reduceEq, Int.reduceNe, Int.reduceAdd, Int.reduceSub, Int.reduceMul, Int.reduceNeg, Int.reduceToNat, Int.reducePow, Nat.reduceAdd, Nat.reduceSub, ne_eq, not_false_eq_true, not_true_eq_false, decide_true, decide_false, and_true, true_and, ↓pRev_ap, ↓pZip_ap, ↓pSl_ap, ↓pNoPart_ap, ↓pPart_ap, ↓pFreeze_ap, ↓pApp_ap, ↓pExt_ap, ↓pPop_ap, ↓pSetIx_ap, ↓pBreak_ap, ↓pCont_ap, ↓pYes_ap, ↓pLc_ap, ↓gSl, wipeE, atL1_0, atL2_0, atL2_1, atL3_0, atL3_1, atL3_2])
theorem eqOk_int (i j : Int) : eqOk (.int i) (.int j) := .inl ⟨trivial, trivial⟩
theorem eqOk_str (i j : Str) : eqOk (.str i) (.str j) := .inl ⟨trivial, trivial⟩
theorem eqOk_bool (i j : Bool) : eqOk (.bool i) (.bool j) := .inr ⟨trivial, trivial⟩
theorem lineOk_small {n : Nat} (h : n ≤ 1000) : lineOk n := lineOk_of (Nat.le_trans h (by decide))

/-! ### the greatest common divisor -/
def G_divisor : PFn := fun svs Q => ∃ a b : Int, svs = [.v (.int a), .v (.int b)] ∧ Q (.v (.int (Int.gcd a b : Nat)))
/-- slots: 0 one, 1 two -/
def B_divisor : PTS :=
  (pSeq (pPar 0 1 (pCons (pB gAbs (pCons (pVarB 0) pNil)) (pCons (pB gAbs (pCons (pVarB 1) pNil)) pNil)))
    (pSeq (pWhile (pTest (pOp gNe (pVarB 1) (pC (.int 0)))) (pPar 0 1 (pCons (pVar 1) (pCons (pOp gMod (pVarB 0) (pVarB 1)) pNil))))
    (pRetVar 0)))
theorem gcd_turn {x y : Nat} : Nat.gcd y (x % y) = Nat.gcd x y := by
  rw [Nat.gcd_comm x y, Nat.gcd_rec y x, Nat.gcd_comm]
theorem pure_divisor : ∀ svs Qd, G_divisor svs Qd → svs.length = 2 ∧ B_divisor { nx := fun _ => Qd (.v .none), rt := Qd, bk := fun _ => False, ct := fun _ => False } (svs.map some ++ List.replicate (2 - svs.length) none) := by
  rintro svs Qd ⟨a, b, rfl, hq⟩
  refine ⟨rfl, ?_⟩
  unfold B_divisor
  walk_at "dl"
  refine ⟨fun m env => ∃ x y : Nat, m = y ∧ env = [some (.v (.int x)), some (.v (.int y))] ∧ Nat.gcd x y = Int.gcd a b, ?_, ?_⟩
  · exact ⟨_, a.natAbs, b.natAbs, rfl, rfl, rfl⟩
  · rintro m env ⟨x, y, rfl, rfl, h⟩
    walk_at "dl"
    refine ⟨eqOk_int _ _, ?_⟩
    by_cases hm : (m : Int) = 0
    · rw [decide_eq_true hm]
      have : m = 0 := by omega
      subst this
      rw [Nat.gcd_zero_right] at h
      simp only [Bool.not_true, Bool.false_eq_true, if_false]
      rw [h]; exact hq
    · rw [decide_eq_false hm]
      have hp : (0 : Int) < m := by omega
      simp only [Bool.not_false, if_true, if_pos hp]
      exact ⟨hm, x % m, Nat.mod_lt _ (by omega), m, x % m, rfl, by rw [Int.natCast_emod], by rw [gcd_turn]; exact h⟩
def G_law_divisor : PFn := G_divisor
/-- slots: 0 one, 1 two -/
def B_law_divisor : PTS :=
  (pSeq (pPar 0 1 (pCons (pB gAbs (pCons (pVarB 0) pNil)) (pCons (pB gAbs (pCons (pVarB 1) pNil)) pNil)))
    (pSeq (pWhile (pTest (pOp gGt (pVarB 1) (pC (.int 0)))) (pPar 0 1 (pCons (pVar 1) (pCons (pOp gMod (pB gIntOf (pCons (pVarB 0) pNil)) (pVarB 1)) pNil))))
    (pRetVar 0)))
theorem pure_law_divisor : ∀ svs Qd, G_law_divisor svs Qd → svs.length = 2 ∧ B_law_divisor { nx := fun _ => Qd (.v .none), rt := Qd, bk := fun _ => False, ct := fun _ => False } (svs.map some ++ List.replicate (2 - svs.length) none) := by
  rintro svs Qd ⟨a, b, rfl, hq⟩
  refine ⟨rfl, ?_⟩
  unfold B_law_divisor
  walk_at "dl"
  refine ⟨fun m env => ∃ x y : Nat, m = y ∧ env = [some (.v (.int x)), some (.v (.int y))] ∧ Nat.gcd x y = Int.gcd a b, ?_, ?_⟩
  · exact ⟨_, a.natAbs, b.natAbs, rfl, rfl, rfl⟩
  · rintro m env ⟨x, y, rfl, rfl, h⟩
    walk_at "dl"
    by_cases hp : (0 : Int) < m
    · rw [decide_eq_true hp]
      simp only [if_true, if_pos hp]
      exact ⟨by omega, x % m, Nat.mod_lt _ (by omega), m, x % m, rfl, by rw [Int.natCast_emod], by rw [gcd_turn]; exact h⟩
    · rw [decide_eq_false hp]
      have : m = 0 := by omega
      subst this
      rw [Nat.gcd_zero_right] at h
      simp only [Bool.false_eq_true, if_false]
      rw [h]; exact hq

/-! ### fractions -/
def encR (r : Rat) : D := .tuple [.int r.num, .int (r.den : Int)]
def sz (n : Nat) (r : Rat) : Prop := r.num.natAbs < 2 ^ n ∧ r.den < 2 ^ n
theorem log2_of {x n : Nat} (h : x < 2 ^ n) (h0 : 0 < n) : x.log2 < n := PySem.Flt.log2_lt_of h0 h
theorem mulOk {i j : Int} {a b : Nat} (ha : i.natAbs < 2 ^ a) (hb : j.natAbs < 2 ^ b) (h : a + b ≤ 100000) : IntMulOk i j := (mulx_ok ha hb (by omega)).ok
theorem pow_mono {a b : Nat} (h : a ≤ b) {x : Nat} (hx : x < 2 ^ a) : x < 2 ^ b := Nat.lt_of_lt_of_le hx (Nat.pow_le_pow_right (by decide) h)
theorem sz.mono {a b : Nat} {r : Rat} (s : sz a r) (h : a ≤ b) : sz b r := ⟨pow_mono h s.1, pow_mono h s.2⟩
theorem mul_lt {x y a b : Nat} (hx : x < 2 ^ a) (hy : y < 2 ^ b) : x * y < 2 ^ (a + b) := by
  rw [Nat.pow_add]
  exact Nat.mul_lt_mul'' hx hy
theorem sz.pos {n : Nat} {r : Rat} (s : sz n r) : 0 < n := by
  cases n with
  | zero => have := s.2; have := r.den_pos; omega
  | succ n => exact Nat.succ_pos n
/-- the numerator and the denominator shortened -/
theorem ratio_pos {n d : Int} (h : 0 < d) : n / ((Int.gcd n d : Nat) : Int) = (Rat.divInt n d).num ∧ d / ((Int.gcd n d : Nat) : Int) = ((Rat.divInt n d).den : Int) := by
  rw [Rat.num_divInt, Rat.den_divInt, if_neg (by omega), Int.sign_eq_one_of_pos h, Int.one_mul, Int.gcd_comm d n]
  refine ⟨rfl, ?_⟩
  rw [Int.natCast_ediv]
  congr 1
  omega
theorem fdiv_neg_of {n g : Int} (hg : g ≠ 0) (hd : g ∣ n) : n.fdiv (-g) = (-n) / g := by
  obtain ⟨k, rfl⟩ := hd
  rw [Int.neg_mul_eq_mul_neg, Int.mul_ediv_cancel_left _ hg]
  have e : g * k = (-g) * (-k) := by rw [Int.neg_mul_neg]
  rw [e, Int.mul_fdiv_cancel_left _ (by omega)]
theorem ratio_neg {n d : Int} (h : d < 0) : n.fdiv (-((Int.gcd n d : Nat) : Int)) = (Rat.divInt n d).num ∧ d.fdiv (-((Int.gcd n d : Nat) : Int)) = ((Rat.divInt n d).den : Int) := by
  have g0 : ((Int.gcd n d : Nat) : Int) ≠ 0 := by
    intro e
    have : Int.gcd n d = 0 := by omega
    rw [Int.gcd_eq_zero_iff] at this
    omega
  rw [fdiv_neg_of g0 (Int.gcd_dvd_left n d), fdiv_neg_of g0 (Int.gcd_dvd_right n d)]
  rw [Rat.num_divInt, Rat.den_divInt, if_neg (by omega), Int.sign_eq_neg_one_of_neg h, Int.gcd_comm d n]
  refine ⟨by rw [Int.neg_one_mul], ?_⟩
  rw [Int.natCast_ediv]
  congr 1
  omega
def G_ratio : PFn := fun svs Q => ∃ n d : Int, svs = [.v (.int n), .v (.int d)] ∧ d ≠ 0 ∧ d.natAbs.log2 < 9000 ∧ Q (.v (encR (Rat.divInt n d)))
/-- slots: 0 numerator, 1 denominator, 2 common -/
def B_ratio : PTS :=
  (pSeq (pIfS (pTest (pOp gEq (pVarB 1) (pC (.int 0)))) pNever pNext)
    (pSeq (pSet 2 (pFz (pCall G_divisor (aCons (pVar 0) (aCons (pVar 1) aNil)))))
    (pSeq (pIfS (pTest (pOp gLt (pVarB 1) (pC (.int 0)))) (pSet 2 (pUn gNeg (pVarB 2))) pNext)
    (pRet (pTup (pCons (pOp gFdiv (pVarB 0) (pVarB 2)) (pCons (pOp gFdiv (pVarB 1) (pVarB 2)) pNil)))))))
theorem log2_mono {a b : Nat} (h : a ≤ b) (hb : b.log2 < 9000) : a.log2 < 9000 := by
  refine Nat.lt_of_le_of_lt ?_ hb
  by_cases ha : a = 0
  · subst ha; simp
  · exact (Nat.le_log2 (by omega)).mpr (Nat.le_trans (Nat.log2_self_le ha) h)
theorem gcd_log2 {n d : Int} (h0 : d ≠ 0) (h : d.natAbs.log2 < 9000) : (Int.gcd n d).log2 < 9000 := by
  refine log2_mono ?_ h
  exact Nat.le_of_dvd (by omega) (Nat.gcd_dvd_right _ _)
theorem gcd_ne {n d : Int} (h0 : d ≠ 0) : Int.gcd n d ≠ 0 := by
  intro e
  rw [Int.gcd_eq_zero_iff] at e
  exact h0 e.2
theorem pure_ratio : ∀ svs Qd, G_ratio svs Qd → svs.length = 2 ∧ B_ratio { nx := fun _ => Qd (.v .none), rt := Qd, bk := fun _ => False, ct := fun _ => False } (svs.map some ++ List.replicate (3 - svs.length) none) := by
  rintro svs Qd ⟨n, d, rfl, h0, hl, hq⟩
  refine ⟨rfl, ?_⟩
  have hg := gcd_log2 (n := n) h0 hl
  have hn := gcd_ne (n := n) h0
  unfold B_ratio
  walk_at "dl"
  refine ⟨eqOk_int _ _, ?_⟩
  rw [decide_eq_false h0]
  simp only [Bool.false_eq_true, if_false]
  refine ⟨n, d, rfl, ?_⟩
  simp only [frz_v]
  by_cases hd : d < 0
  · rw [decide_eq_true hd]
    simp only [if_true]
    obtain ⟨e1, e2⟩ := ratio_neg (n := n) hd
    have np : ¬ (0 : Int) < -((Int.gcd n d : Nat) : Int) := by omega
    simp only [if_neg np]
    refine ⟨by omega, by rw [Int.natAbs_neg]; exact hg, by omega, by rw [Int.natAbs_neg]; exact hg, lineOk_small (by decide), ?_⟩
    rw [e1, e2]
    exact hq
  · rw [decide_eq_false hd]
    simp only [Bool.false_eq_true, if_false]
    obtain ⟨e1, e2⟩ := ratio_pos (n := n) (d := d) (by omega)
    have np : (0 : Int) < ((Int.gcd n d : Nat) : Int) := by omega
    simp only [if_pos np]
    refine ⟨by omega, hg, by omega, hg, lineOk_small (by decide), ?_⟩
    rw [e1, e2]
    exact hq
def G_law_ratio : PFn := G_ratio
/-- slots: 0 top, 1 low, 2 divisor_v -/
def B_law_ratio : PTS :=
  (pSeq (pSet 2 (pFz (pCall G_law_divisor (aCons (pVar 0) (aCons (pVar 1) aNil)))))
    (pSeq (pIfS (pTest (pOp gLt (pVarB 1) (pC (.int 0)))) (pSet 2 (pUn gNeg (pVarB 2))) pNext)
    (pRet (pTup (pCons (pB gIntOf (pCons (pOp gFdiv (pVarB 0) (pVarB 2)) pNil)) (pCons (pB gIntOf (pCons (pOp gFdiv (pVarB 1) (pVarB 2)) pNil)) pNil))))))
theorem pure_law_ratio : ∀ svs Qd, G_law_ratio svs Qd → svs.length = 2 ∧ B_law_ratio { nx := fun _ => Qd (.v .none), rt := Qd, bk := fun _ => False, ct := fun _ => False } (svs.map some ++ List.replicate (3 - svs.length) none) := by
  rintro svs Qd ⟨n, d, rfl, h0, hl, hq⟩
  refine ⟨rfl, ?_⟩
  have hg := gcd_log2 (n := n) h0 hl
  have hn := gcd_ne (n := n) h0
  unfold B_law_ratio
  walk_at "dl"
  refine ⟨n, d, rfl, ?_⟩
  simp only [frz_v]
  by_cases hd : d < 0
  · rw [decide_eq_true hd]
    simp only [if_true]
    obtain ⟨e1, e2⟩ := ratio_neg (n := n) hd
    have np : ¬ (0 : Int) < -((Int.gcd n d : Nat) : Int) := by omega
    simp only [if_neg np]
    refine ⟨by omega, by rw [Int.natAbs_neg]; exact hg, by omega, by rw [Int.natAbs_neg]; exact hg, lineOk_small (by decide), ?_⟩
    rw [e1, e2]
    exact hq
  · rw [decide_eq_false hd]
    simp only [Bool.false_eq_true, if_false]
    obtain ⟨e1, e2⟩ := ratio_pos (n := n) (d := d) (by omega)
    have np : (0 : Int) < ((Int.gcd n d : Nat) : Int) := by omega
    simp only [if_pos np]
    refine ⟨by omega, hg, by omega, hg, lineOk_small (by decide), ?_⟩
    rw [e1, e2]
    exact hq

/-! sums, products -/
theorem atI2_0 (x y : D) : atI [x, y] 0 = some x := rfl
theorem atI2_1 (x y : D) : atI [x, y] 1 = some y := rfl
theorem den_one {x : Rat} (h : (x.den : Int) = 1) : x = (x.num : Rat) := by
  have e : x.den = 1 := by omega
  apply Rat.ext
  · rfl
  · exact e
theorem enc_int (i : Int) : encR (i : Rat) = .tuple [.int i, .int 1] := rfl
theorem add_div (x y : Rat) : Rat.divInt (x.num * y.den + y.num * x.den) (x.den * y.den) = x + y := by
  rw [← Rat.divInt_add_divInt _ _ (by have := x.den_pos; omega) (by have := y.den_pos; omega), Rat.num_divInt_den, Rat.num_divInt_den]
theorem sub_div (x y : Rat) : Rat.divInt (x.num * y.den - y.num * x.den) (x.den * y.den) = x - y := by
  rw [← Rat.divInt_sub_divInt _ _ (by have := x.den_pos; omega) (by have := y.den_pos; omega), Rat.num_divInt_den, Rat.num_divInt_den]
theorem mul_div (x y : Rat) : Rat.divInt (x.num * y.num) (x.den * y.den) = x * y := by
  rw [← Rat.divInt_mul_divInt, Rat.num_divInt_den, Rat.num_divInt_den]
theorem over_div (x y : Rat) : Rat.divInt (x.num * y.den) (x.den * y.num) = x / y := by
  rw [← Rat.divInt_mul_divInt, Rat.num_divInt_den, ← Rat.inv_divInt, Rat.num_divInt_den, Rat.div_def]
theorem nums_bound {n d : Int} {a : Nat} (hd : d ≠ 0) (hn : n.natAbs < 2 ^ a) (hd2 : d.natAbs < 2 ^ a) : sz a (Rat.divInt n d) := by
  constructor
  · rw [Rat.num_divInt]
    refine Nat.lt_of_le_of_lt ?_ hn
    have h1 : ((d.sign * n) / ((d.gcd n : Nat) : Int)).natAbs ≤ (d.sign * n).natAbs := Int.natAbs_ediv_le_natAbs _ _
    have h2 : (d.sign * n).natAbs ≤ n.natAbs := by
      rw [Int.natAbs_mul, Int.natAbs_sign_of_ne_zero hd, Nat.one_mul]
      exact Nat.le_refl _
    exact Nat.le_trans h1 h2
  · rw [Rat.den_divInt, if_neg hd]
    exact Nat.lt_of_le_of_lt (Nat.div_le_self _ _) hd2
theorem add_lt {x y a : Nat} (hx : x < 2 ^ a) (hy : y < 2 ^ a) : x + y < 2 ^ (a + 1) := by
  rw [Nat.pow_succ]
  omega
theorem natAbs_cast (n : Nat) : (n : Int).natAbs = n := Int.natAbs_natCast n
theorem sz_add {a b : Nat} {x y : Rat} (hx : sz a x) (hy : sz b y) : sz (a + b + 1) (x + y) := by
  rw [← add_div]
  have dx := x.den_pos
  have dy := y.den_pos
  have e : ((x.den : Int) * (y.den : Int)).natAbs = x.den * y.den := by rw [Int.natAbs_mul]; rfl
  refine nums_bound (by have := Int.mul_pos (a := (x.den : Int)) (b := y.den) (by omega) (by omega); omega) ?_ ?_
  · refine Nat.lt_of_le_of_lt (Int.natAbs_add_le _ _) (add_lt ?_ ?_)
    · rw [Int.natAbs_mul]; exact mul_lt hx.1 hy.2
    · rw [Int.natAbs_mul, Nat.add_comm a b]; exact mul_lt hy.1 hx.2
  · rw [e]; exact pow_mono (Nat.le_succ _) (mul_lt hx.2 hy.2)
theorem sz_sub {a b : Nat} {x y : Rat} (hx : sz a x) (hy : sz b y) : sz (a + b + 1) (x - y) := by
  rw [← sub_div]
  have dx := x.den_pos
  have dy := y.den_pos
  have e : ((x.den : Int) * (y.den : Int)).natAbs = x.den * y.den := by rw [Int.natAbs_mul]; rfl
  refine nums_bound (by have := Int.mul_pos (a := (x.den : Int)) (b := y.den) (by omega) (by omega); omega) ?_ ?_
  · refine Nat.lt_of_le_of_lt (Int.natAbs_sub_le _ _) (add_lt ?_ ?_)
    · rw [Int.natAbs_mul]; exact mul_lt hx.1 hy.2
    · rw [Int.natAbs_mul, Nat.add_comm a b]; exact mul_lt hy.1 hx.2
  · rw [e]; exact pow_mono (Nat.le_succ _) (mul_lt hx.2 hy.2)
theorem sz_mul {a b : Nat} {x y : Rat} (hx : sz a x) (hy : sz b y) : sz (a + b) (x * y) := by
  rw [← mul_div]
  have dx := x.den_pos
  have dy := y.den_pos
  have e : ((x.den : Int) * (y.den : Int)).natAbs = x.den * y.den := by rw [Int.natAbs_mul]; rfl
  refine nums_bound (by have := Int.mul_pos (a := (x.den : Int)) (b := y.den) (by omega) (by omega); omega) ?_ ?_
  · rw [Int.natAbs_mul]; exact mul_lt hx.1 hy.1
  · rw [e]; exact mul_lt hx.2 hy.2
theorem sz_div {a b : Nat} {x y : Rat} (hx : sz a x) (hy : sz b y) (h0 : y ≠ 0) : sz (a + b) (x / y) := by
  rw [← over_div]
  have dx := x.den_pos
  have yn : y.num ≠ 0 := by
    intro e
    exact h0 (Rat.num_eq_zero.mp e)
  refine nums_bound (by intro e; rcases Int.mul_eq_zero.mp e with e | e <;> omega) ?_ ?_
  · rw [Int.natAbs_mul]; exact mul_lt hx.1 hy.2
  · rw [Int.natAbs_mul]; exact mul_lt hx.2 hy.1
def G_two (f : Rat → Rat → Rat) (ok : Rat → Prop) : PFn := fun svs Q => ∃ (x y : Rat) (n m : Nat), svs = [.v (encR x), .v (encR y)] ∧ sz n x ∧ sz m y ∧ n + m + 1 ≤ 9000 ∧ ok y ∧ Q (.v (encR (f x y)))
def G_plus : PFn := G_two (· + ·) fun _ => True
def G_minus : PFn := G_two (· - ·) fun _ => True
def G_times : PFn := G_two (· * ·) fun _ => True
def G_over : PFn := G_two (· / ·) fun y => y ≠ 0
/-- slots: 0 one, 1 two -/
def B_plus : PTS :=
  (pSeq (pIfS (pAnd (pTest (pOp gEq (pOp gIx (pVarB 0) (pC (.int 1))) (pC (.int 1)))) (pTest (pOp gEq (pOp gIx (pVarB 1) (pC (.int 1))) (pC (.int 1))))) (pRet (pTup (pCons (pFz (pOpF gAdd (pOp gIx (pVarB 0) (pC (.int 0))) (pOp gIx (pVarB 1) (pC (.int 0))))) (pCons (pC (.int 1)) pNil)))) pNext)
    (pRet (pFz (pCall G_ratio (aCons (pFz (pOpF gAdd (pFz (pOpF gMul (pOp gIx (pVarB 0) (pC (.int 0))) (pOp gIx (pVarB 1) (pC (.int 1))))) (pFz (pOpF gMul (pOp gIx (pVarB 1) (pC (.int 0))) (pOp gIx (pVarB 0) (pC (.int 1))))))) (aCons (pFz (pOpF gMul (pOp gIx (pVarB 0) (pC (.int 1))) (pOp gIx (pVarB 1) (pC (.int 1))))) aNil))))))
/-- slots: 0 one, 1 two -/
def B_minus : PTS :=
  (pSeq (pIfS (pAnd (pTest (pOp gEq (pOp gIx (pVarB 0) (pC (.int 1))) (pC (.int 1)))) (pTest (pOp gEq (pOp gIx (pVarB 1) (pC (.int 1))) (pC (.int 1))))) (pRet (pTup (pCons (pOp gMinus (pOp gIx (pVarB 0) (pC (.int 0))) (pOp gIx (pVarB 1) (pC (.int 0)))) (pCons (pC (.int 1)) pNil)))) pNext)
    (pRet (pFz (pCall G_ratio (aCons (pOp gMinus (pFz (pOpF gMul (pOp gIx (pVarB 0) (pC (.int 0))) (pOp gIx (pVarB 1) (pC (.int 1))))) (pFz (pOpF gMul (pOp gIx (pVarB 1) (pC (.int 0))) (pOp gIx (pVarB 0) (pC (.int 1)))))) (aCons (pFz (pOpF gMul (pOp gIx (pVarB 0) (pC (.int 1))) (pOp gIx (pVarB 1) (pC (.int 1))))) aNil))))))
/-- slots: 0 one, 1 two -/
def B_times : PTS :=
  (pSeq (pIfS (pAnd (pTest (pOp gEq (pOp gIx (pVarB 0) (pC (.int 1))) (pC (.int 1)))) (pTest (pOp gEq (pOp gIx (pVarB 1) (pC (.int 1))) (pC (.int 1))))) (pRet (pTup (pCons (pFz (pOpF gMul (pOp gIx (pVarB 0) (pC (.int 0))) (pOp gIx (pVarB 1) (pC (.int 0))))) (pCons (pC (.int 1)) pNil)))) pNext)
    (pRet (pFz (pCall G_ratio (aCons (pFz (pOpF gMul (pOp gIx (pVarB 0) (pC (.int 0))) (pOp gIx (pVarB 1) (pC (.int 0))))) (aCons (pFz (pOpF gMul (pOp gIx (pVarB 0) (pC (.int 1))) (pOp gIx (pVarB 1) (pC (.int 1))))) aNil))))))
/-- slots: 0 one, 1 two -/
def B_over : PTS :=
  (pRet (pFz (pCall G_ratio (aCons (pFz (pOpF gMul (pOp gIx (pVarB 0) (pC (.int 0))) (pOp gIx (pVarB 1) (pC (.int 1))))) (aCons (pFz (pOpF gMul (pOp gIx (pVarB 0) (pC (.int 1))) (pOp gIx (pVarB 1) (pC (.int 0))))) aNil)))))
theorem pure_plus : ∀ svs Qd, G_plus svs Qd → svs.length = 2 ∧ B_plus { nx := fun _ => Qd (.v .none), rt := Qd, bk := fun _ => False, ct := fun _ => False } (svs.map some ++ List.replicate (2 - svs.length) none) := by
  rintro svs Qd ⟨x, y, n, m, rfl, hx, hy, hnm, -, hq⟩
  refine ⟨rfl, ?_⟩
  have dx := x.den_pos
  have dy := y.den_pos
  have m1 : IntMulOk x.num y.den := mulOk hx.1 (by rw [natAbs_cast]; exact hy.2) (by omega)
  have m2 : IntMulOk y.num x.den := mulOk hy.1 (by rw [natAbs_cast]; exact hx.2) (by omega)
  have m3 : IntMulOk x.den y.den := mulOk (by rw [natAbs_cast]; exact hx.2) (by rw [natAbs_cast]; exact hy.2) (by omega)
  have tail : IntMulOk x.num y.den ∧ IntMulOk y.num x.den ∧ IntMulOk x.den y.den ∧ G_ratio [.v (.int (x.num * y.den + y.num * x.den)), .v (.int (x.den * y.den))] fun sv => match sv with
      | .v d => Qd (.v d)
      | .own ds => Qd (.v (.list ds))
      | .ownD ks => Qd (.v (.dict ks))
      | _ => False := by
    refine ⟨m1, m2, m3, _, _, rfl, ?_, ?_, ?_⟩
    · have := Int.mul_pos (a := (x.den : Int)) (b := y.den) (by omega) (by omega); omega
    · have e : ((x.den : Int) * (y.den : Int)).natAbs = x.den * y.den := by rw [Int.natAbs_mul]; rfl
      rw [e]
      exact Nat.lt_of_lt_of_le (log2_of (mul_lt hx.2 hy.2) (by have := hx.pos; omega)) (by omega)
    · simp only
      rw [add_div]; exact hq
  unfold B_plus encR
  walk_at "dl"
  refine ⟨eqOk_int _ _, ?_⟩
  by_cases h1 : (x.den : Int) = 1
  · rw [decide_eq_true h1]
    simp only [if_true]
    refine ⟨eqOk_int _ _, ?_⟩
    by_cases h2 : (y.den : Int) = 1
    · rw [decide_eq_true h2]
      simp only [if_true]
      refine ⟨lineOk_small (by decide), ?_⟩
      have e : x + y = ((x.num + y.num : Int) : Rat) := by rw [Rat.intCast_add, ← den_one h1, ← den_one h2]
      simp only [e, enc_int] at hq
      exact hq
    · rw [decide_eq_false h2]
      simp only [Bool.false_eq_true, if_false]
      exact tail
  · rw [decide_eq_false h1]
    simp only [Bool.false_eq_true, if_false]
    exact tail
theorem pure_minus : ∀ svs Qd, G_minus svs Qd → svs.length = 2 ∧ B_minus { nx := fun _ => Qd (.v .none), rt := Qd, bk := fun _ => False, ct := fun _ => False } (svs.map some ++ List.replicate (2 - svs.length) none) := by
  rintro svs Qd ⟨x, y, n, m, rfl, hx, hy, hnm, -, hq⟩
  refine ⟨rfl, ?_⟩
  have dx := x.den_pos
  have dy := y.den_pos
  have m1 : IntMulOk x.num y.den := mulOk hx.1 (by rw [natAbs_cast]; exact hy.2) (by omega)
  have m2 : IntMulOk y.num x.den := mulOk hy.1 (by rw [natAbs_cast]; exact hx.2) (by omega)
  have m3 : IntMulOk x.den y.den := mulOk (by rw [natAbs_cast]; exact hx.2) (by rw [natAbs_cast]; exact hy.2) (by omega)
  have tail : IntMulOk x.num y.den ∧ IntMulOk y.num x.den ∧ IntMulOk x.den y.den ∧ G_ratio [.v (.int (x.num * y.den - y.num * x.den)), .v (.int (x.den * y.den))] fun sv => match sv with
      | .v d => Qd (.v d)
      | .own ds => Qd (.v (.list ds))
      | .ownD ks => Qd (.v (.dict ks))
      | _ => False := by
    refine ⟨m1, m2, m3, _, _, rfl, ?_, ?_, ?_⟩
    · have := Int.mul_pos (a := (x.den : Int)) (b := y.den) (by omega) (by omega); omega
    · have e : ((x.den : Int) * (y.den : Int)).natAbs = x.den * y.den := by rw [Int.natAbs_mul]; rfl
      rw [e]
      exact Nat.lt_of_lt_of_le (log2_of (mul_lt hx.2 hy.2) (by have := hx.pos; omega)) (by omega)
    · simp only
      rw [sub_div]; exact hq
  unfold B_minus encR
  walk_at "dl"
  refine ⟨eqOk_int _ _, ?_⟩
  by_cases h1 : (x.den : Int) = 1
  · rw [decide_eq_true h1]
    simp only [if_true]
    refine ⟨eqOk_int _ _, ?_⟩
    by_cases h2 : (y.den : Int) = 1
    · rw [decide_eq_true h2]
      simp only [if_true]
      refine ⟨lineOk_small (by decide), ?_⟩
      have e : x - y = ((x.num - y.num : Int) : Rat) := by rw [Rat.intCast_sub, ← den_one h1, ← den_one h2]
      simp only [e, enc_int] at hq
      exact hq
    · rw [decide_eq_false h2]
      simp only [Bool.false_eq_true, if_false]
      exact tail
  · rw [decide_eq_false h1]
    simp only [Bool.false_eq_true, if_false]
    exact tail
theorem pure_times : ∀ svs Qd, G_times svs Qd → svs.length = 2 ∧ B_times { nx := fun _ => Qd (.v .none), rt := Qd, bk := fun _ => False, ct := fun _ => False } (svs.map some ++ List.replicate (2 - svs.length) none) := by
  rintro svs Qd ⟨x, y, n, m, rfl, hx, hy, hnm, -, hq⟩
  refine ⟨rfl, ?_⟩
  have dx := x.den_pos
  have dy := y.den_pos
  have m1 : IntMulOk x.num y.num := mulOk hx.1 hy.1 (by omega)
  have m3 : IntMulOk x.den y.den := mulOk (by rw [natAbs_cast]; exact hx.2) (by rw [natAbs_cast]; exact hy.2) (by omega)
  have tail : IntMulOk x.num y.num ∧ IntMulOk x.den y.den ∧ G_ratio [.v (.int (x.num * y.num)), .v (.int (x.den * y.den))] fun sv => match sv with
      | .v d => Qd (.v d)
      | .own ds => Qd (.v (.list ds))
      | .ownD ks => Qd (.v (.dict ks))
      | _ => False := by
    refine ⟨m1, m3, _, _, rfl, ?_, ?_, ?_⟩
    · have := Int.mul_pos (a := (x.den : Int)) (b := y.den) (by omega) (by omega); omega
    · have e : ((x.den : Int) * (y.den : Int)).natAbs = x.den * y.den := by rw [Int.natAbs_mul]; rfl
      rw [e]
      exact Nat.lt_of_lt_of_le (log2_of (mul_lt hx.2 hy.2) (by have := hx.pos; omega)) (by omega)
    · simp only
      rw [mul_div]; exact hq
  unfold B_times encR
  walk_at "dl"
  refine ⟨eqOk_int _ _, ?_⟩
  by_cases h1 : (x.den : Int) = 1
  · rw [decide_eq_true h1]
    simp only [if_true]
    refine ⟨eqOk_int _ _, ?_⟩
    by_cases h2 : (y.den : Int) = 1
    · rw [decide_eq_true h2]
      simp only [if_true]
      refine ⟨m1, lineOk_small (by decide), ?_⟩
      have e : x * y = ((x.num * y.num : Int) : Rat) := by rw [Rat.intCast_mul, ← den_one h1, ← den_one h2]
      simp only [e, enc_int] at hq
      exact hq
    · rw [decide_eq_false h2]
      simp only [Bool.false_eq_true, if_false]
      exact tail
  · rw [decide_eq_false h1]
    simp only [Bool.false_eq_true, if_false]
    exact tail
theorem pure_over : ∀ svs Qd, G_over svs Qd → svs.length = 2 ∧ B_over { nx := fun _ => Qd (.v .none), rt := Qd, bk := fun _ => False, ct := fun _ => False } (svs.map some ++ List.replicate (2 - svs.length) none) := by
  rintro svs Qd ⟨x, y, n, m, rfl, hx, hy, hnm, h0, hq⟩
  refine ⟨rfl, ?_⟩
  have dx := x.den_pos
  have dy := y.den_pos
  have yn : y.num ≠ 0 := fun e => h0 (Rat.num_eq_zero.mp e)
  have m1 : IntMulOk x.num y.den := mulOk hx.1 (by rw [natAbs_cast]; exact hy.2) (by omega)
  have m3 : IntMulOk x.den y.num := mulOk (by rw [natAbs_cast]; exact hx.2) hy.1 (by omega)
  unfold B_over encR
  walk_at "dl"
  refine ⟨m1, m3, _, _, rfl, ?_, ?_, ?_⟩
  · intro e; rcases Int.mul_eq_zero.mp e with e | e <;> omega
  · have e : ((x.den : Int) * y.num).natAbs = x.den * y.num.natAbs := by rw [Int.natAbs_mul]; rfl
    rw [e]
    exact Nat.lt_of_lt_of_le (log2_of (mul_lt hx.2 hy.1) (by have := hx.pos; omega)) (by omega)
  · simp only [frz_v]
    rw [over_div]; exact hq
end DL
/-! ## LibLaw -/
set_option Elab.async false
set_option linter.all false
set_option maxRecDepth 100000
set_option maxHeartbeats 4000000
/-! LibLaw: a law's own helpers: cells of the script, draws, the comparison. -/
namespace DL
open PySem L2 RZ RT PyProof.Rows
local macro_rules | `(tactic| walk_at "dl") => `(tactic| simp only [↓pSeq_ap, ↓pSet_ap, ↓pSetF_ap, ↓pRet_ap, ↓pRetF_ap, ↓pRetVar_ap, ↓pRetN_ap, ↓pIfS_ap, ↓pPar_ap, ↓pNext_ap, ↓pNever_ap, ↓pTgt_ap, ↓pDrop_ap, ↓pVar_ap, ↓pVarB_ap, ↓pC_ap, ↓pOp_ap, ↓pOpF_ap, ↓pUn_ap, ↓pFz_eq, ↓frz_v, ↓frz_own, ↓frz_ownD, ↓pV_ap, ↓pTest_ap, ↓pAnd_ap, ↓pOr_ap, ↓pNot_ap, ↓pIf_ap, ↓pAndV_ap, ↓pOrV_ap, ↓pNotV_ap, ↓pNil_ap, ↓pCons_ap, ↓aNil_ap, ↓aCons_ap, ↓aSlot_ap, ↓pTup_ap, ↓pLst_ap, ↓pB_ap, ↓pBF_ap, ↓pCall_ap, ↓pIsi_ap, ↓pIsN_ap, ↓pNotN_ap, ↓pSt_ap, ↓pSetSt_ap, ↓pLenS_ap, ↓pIxS_ap, ↓pFor_ap, ↓pIter_ap, ↓pRange1_ap, ↓pRange2_ap, ↓gItems, pgName, slot_z, slot_s, set_z, set_s, ↓gI, ↓gMinus, ↓gMod, ↓gFdiv, ↓gPow, ↓gLt, ↓gLe, ↓gGt, ↓gGe, ↓gNeg, ↓gAdd, ↓gMul, ↓gIx, ↓gEq, ↓gNe, ↓gLen, ↓gAbs, ↓gIntOf, ↓gTupOf, ↓gLstOf, isInt, isBool, isStr, isList, isTuple, isDict, isNone, eqb_int, eqb_bool, eqb_str, eqb_self, List.length, List.replicate, List.map, List.append, List.cons_append, List.nil_append, Bool.not_true, Bool.not_false, if_true, if_false, Bool.false_eq_true, ite_true, ite_false, reduceIte, Int.reduceLT, Int.reduceLE, Int.reduceEq, Int.reduceNe, Int.reduceAdd, Int.reduceSub, Int.reduceMul, Int.reduceNeg, Int.reduceToNat, Int.reducePow, Nat.reduceAdd, Nat.reduceSub, ne_eq, not_false_eq_true, not_true_eq_false, decide_true, decide_false, and_true, true_and, ↓pRev_ap, ↓pZip_ap, ↓pSl_ap, ↓pNoPart_ap, ↓pPart_ap, ↓pFreeze_ap, ↓pApp_ap, ↓pExt_ap, ↓pPop_ap, ↓pSetIx_ap, ↓pBreak_ap, ↓pCont_ap, ↓pYes_ap, ↓pLc_ap, ↓gSl, wipeE, atL1_0, atL2_0, atL2_1, atL3_0, atL3_1, atL3_2])
theorem atI_lt {α : Type} {xs : List α} {k : Int} (h0 : 0 ≤ k) (h : k < xs.length) : ∃ z, atI xs k = some z ∧ xs[k.toNat]? = some z := by
  have hk : k.toNat < xs.length := by omega
  have e : k = ((k.toNat : Nat) : Int) := by omega
  refine ⟨xs[k.toNat], ?_, by simp [hk]⟩
  have q := atI_nat (xs := xs) (j := k.toNat) (v := xs[k.toNat]) (by simp [hk])
  rw [← e] at q
  exact q
theorem mulSmallL {i j : Int} (h : i.natAbs < 2 ^ 60) : IntMulOk i j := (show CMul i j from .inl ⟨by omega, by omega⟩).ok
theorem mulSmallR {i j : Int} (h : j.natAbs < 2 ^ 60) : IntMulOk i j := (show CMul i j from .inr ⟨by omega, by omega⟩).ok
theorem log2_small {n : Nat} (h : n < 2 ^ 60) : n.log2 < 9000 := Nat.lt_of_lt_of_le (PySem.Flt.log2_lt_of (by decide) h) (by decide)

def G_law_cell : PFn := fun svs Q => ∃ (ns : List Int) (k : Int), svs = [.scr ns, .v (.int k)] ∧ 0 ≤ k ∧ ∀ c : Int, 0 ≤ c → Q (.v (.int c))
/-- slots: 0 script, 1 k, 2 cell -/
def B_law_cell : PTS :=
  (pCut (pIfS (pAnd (pTest (pOp gLt (pVarB 1) (pLenS 0))) (pTest (pOp gGe (pIxS 0 (pVar 1)) (pOp gPow (pC (.int 10)) (pC (.int 9)))))) (pRet (pIxS 0 (pVar 1))) pNext)
    (pCut (pSet 2 (pFz (pOpF gAdd (pFz (pOpF gMul (pC (.int 7)) (pVarB 1))) (pC (.int 1)))))
    (pCut (pIfS (pTest (pOp gGt (pLenS 0) (pC (.int 0)))) (pSet 2 (pFz (pOpF gAdd (pVarB 2) (pFz (pOpF gMul (pC (.int 31)) (pIxS 0 (pOp gMod (pB gIntOf (pCons (pVarB 1) pNil)) (pLenS 0)))))))) pNext)
    (pCut (pSet 2 (pOp gMod (pB gIntOf (pCons (pFz (pOpF gAdd (pFz (pOpF gMul (pVarB 2) (pC (.int 48271)))) (pFz (pOpF gMul (pC (.int 69621)) (pVarB 1))))) pNil)) (pC (.int 2147483647))))
    (pRet (pOp gMod (pB gIntOf (pCons (pFz (pOpF gAdd (pFz (pOpF gMul (pVarB 2) (pVarB 2))) (pFz (pOpF gMul (pC (.int 48271)) (pOp gFdiv (pVarB 2) (pC (.int 1000))))))) pNil)) (pC (.int 2147483629))))))))

theorem pure_law_cell : ∀ svs Qd, G_law_cell svs Qd → svs.length = 2 ∧ B_law_cell { nx := fun _ => Qd (.v .none), rt := Qd, bk := fun _ => False, ct := fun _ => False } (svs.map some ++ List.replicate (3 - svs.length) none) := by
  rintro svs Qd ⟨ns, k, rfl, h0, hq⟩
  refine ⟨rfl, ?_⟩
  unfold B_law_cell
  refine ⟨fun env => env = [some (.scr ns), some (.v (.int k)), none], ?_, ?_⟩
  · walk_at "dl"
    by_cases hk : k < (ns.length : Int)
    · rw [decide_eq_true hk]
      simp only [if_true]
      obtain ⟨z, hz, _⟩ := atI_lt h0 hk
      rw [hz]
      simp only
      refine ⟨⟨by decide, by decide, by decide⟩, ?_⟩
      by_cases h9 : (1000000000 : Int) ≤ z
      · rw [decide_eq_true h9]
        simp only [if_true]
        exact hq z (by omega)
      · rw [decide_eq_false h9]
        simp only [Bool.false_eq_true, if_false]
    · rw [decide_eq_false hk]
      simp only [Bool.false_eq_true, if_false]
  rintro env rfl
  refine ⟨fun env => ∃ c : Int, env = [some (.scr ns), some (.v (.int k)), some (.v (.int c))], ?_, ?_⟩
  · walk_at "dl"
    exact ⟨mulSmallL (by decide), _, rfl⟩
  rintro env ⟨c, rfl⟩
  refine ⟨fun env => ∃ c : Int, env = [some (.scr ns), some (.v (.int k)), some (.v (.int c))], ?_, ?_⟩
  · walk_at "dl"
    by_cases hl : (0 : Int) < (ns.length : Int)
    · rw [decide_eq_true hl]
      simp only [if_true, if_pos hl]
      refine ⟨by omega, ?_⟩
      obtain ⟨y, hy, _⟩ := atI_lt (xs := ns) (Int.emod_nonneg k (show (ns.length : Int) ≠ 0 by omega)) (Int.emod_lt_of_pos k hl)
      rw [hy]
      exact ⟨mulSmallL (by decide), _, rfl⟩
    · rw [decide_eq_false hl]
      simp only [Bool.false_eq_true, if_false]
      exact ⟨_, rfl⟩
  rintro env ⟨c, rfl⟩
  refine ⟨fun env => ∃ c : Int, 0 ≤ c ∧ c < 2147483647 ∧ env = [some (.scr ns), some (.v (.int k)), some (.v (.int c))], ?_, ?_⟩
  · walk_at "dl"
    exact ⟨mulSmallR (by decide), mulSmallL (by decide), _, Int.emod_nonneg _ (by decide), Int.emod_lt_of_pos _ (by decide), rfl⟩
  rintro env ⟨c, h1, h2, rfl⟩
  walk_at "dl"
  exact ⟨mulSmallL (by omega), log2_small (by decide), mulSmallL (by decide), hq _ (Int.emod_nonneg _ (by decide))⟩
def G_law_big : PFn := fun svs Q => ∃ (ns : List Int) (at_ count : Int), svs = [.scr ns, .v (.int at_), .v (.int count)] ∧ 0 ≤ at_ ∧ 0 ≤ count ∧ count ≤ 1000 ∧ ∀ s : Int, 0 ≤ s → Q (.own [.int s])
/-- slots: 0 script, 1 at, 2 count, 3 found, 4 k -/
def B_law_big : PTS :=
  (pCut (pSet 3 (pC (.int 0)))
    (pSeq (pFor (pRange1 (pVar 2)) (pgName 4) (pSet 3 (pFz (pOpF gAdd (pFz (pOpF gMul (pVarB 3) (pC (.int 2147483648)))) (pFz (pCall G_law_cell (aSlot 0 (aCons (pFz (pOpF gAdd (pVarB 1) (pVarB 4))) aNil))))))))
    (pRetF (pLst (pCons (pVar 3) pNil)))))

theorem pure_law_big : ∀ svs Qd, G_law_big svs Qd → svs.length = 3 ∧ B_law_big { nx := fun _ => Qd (.v .none), rt := Qd, bk := fun _ => False, ct := fun _ => False } (svs.map some ++ List.replicate (5 - svs.length) none) := by
  rintro svs Qd ⟨ns, at_, count, rfl, h0, h1, h2, hq⟩
  refine ⟨rfl, ?_⟩
  unfold B_law_big
  refine ⟨fun env => env = [some (.scr ns), some (.v (.int at_)), some (.v (.int count)), some (.v (.int 0)), none], rfl, ?_⟩
  rintro env rfl
  refine ⟨⟨(by omega : -(2 ^ 62) ≤ count), (by omega : count < 2 ^ 62)⟩, fun k env => ∃ s : Int, 0 ≤ s ∧ ∃ x, env = [some (.scr ns), some (.v (.int at_)), some (.v (.int count)), some (.v (.int s)), x], ⟨0, Int.le_refl 0, _, rfl⟩, ?_, ?_⟩
  · rintro k env d ⟨s, hs, x, rfl⟩ hd
    obtain ⟨hk, rfl⟩ := rngD_get hd
    walk_at "dl"
    refine ⟨mulSmallR (by decide), ns, _, rfl, by omega, fun c hc => ?_⟩
    simp only [frz_v]
    exact ⟨s * 2147483648 + c, by omega, _, rfl⟩
  · rintro env ⟨s, hs, x, rfl⟩
    walk_at "dl"
    exact ⟨lineOk_small (by decide), hq s hs⟩
def G_law_take : PFn := fun svs Q => ∃ m : Int, svs = [.st, .v (.int m)] ∧ 0 < m ∧ m.natAbs.log2 < 9000 ∧ ∀ x : Int, 0 ≤ x → x < m → Q (.v (.int x))
/-- slots: 0 state, 1 m, 2 x -/
def B_law_take : PTS :=
  (pSeq (pSet 2 (pOp gMod (pB gIntOf (pCons (pSt 0) pNil)) (pVarB 1)))
    (pSeq (pSetSt 0 (pB gIntOf (pCons (pOp gFdiv (pSt 0) (pVarB 1)) pNil)))
    (pRetVar 2)))

theorem pure_law_take : ∀ svs Qd, G_law_take svs Qd → svs.length = 2 ∧ B_law_take { nx := fun _ => Qd (.v .none), rt := Qd, bk := fun _ => False, ct := fun _ => False } (svs.map some ++ List.replicate (3 - svs.length) none) := by
  rintro svs Qd ⟨m, rfl, h0, h1, hq⟩
  refine ⟨rfl, ?_⟩
  unfold B_law_take
  walk_at "dl"
  intro s hs
  simp only [if_pos h0]
  refine ⟨by omega, fun s' hs' => ⟨by omega, h1, Int.ediv_nonneg hs' (by omega), ?_⟩⟩
  exact hq _ (Int.emod_nonneg s (by omega)) (Int.emod_lt_of_pos s h0)

/-! ### the comparison -/
/-- what may be due: no dict, not deeper than n, no list too long -/
def dueOk : Nat → D → Prop
  | _, .none => True
  | _, .int _ => True
  | _, .str _ => True
  | _, .bool _ => True
  | n + 1, .list xs => xs.length ≤ 16777216 ∧ ∀ x ∈ xs, dueOk n x
  | n + 1, .tuple xs => xs.length ≤ 16777216 ∧ ∀ x ∈ xs, dueOk n x
  | _, _ => False
theorem dueOk_mono : ∀ (n m : Nat) (d : D), n ≤ m → dueOk n d → dueOk m d
  | _, _, .none, _, _ => by unfold dueOk; trivial
  | _, _, .int _, _, _ => by unfold dueOk; trivial
  | _, _, .str _, _, _ => by unfold dueOk; trivial
  | _, _, .bool _, _, _ => by unfold dueOk; trivial
  | 0, _, .list _, _, h => h.elim
  | 0, _, .tuple _, _, h => h.elim
  | 0, _, .dict _, _, h => h.elim
  | _ + 1, _, .dict _, _, h => h.elim
  | n + 1, 0, .list _, h, _ => absurd h (Nat.not_succ_le_zero _)
  | n + 1, 0, .tuple _, h, _ => absurd h (Nat.not_succ_le_zero _)
  | n + 1, m + 1, .list xs, h, hd => ⟨hd.1, fun x hx => dueOk_mono n m x (Nat.le_of_succ_le_succ h) (hd.2 x hx)⟩
  | n + 1, m + 1, .tuple xs, h, hd => ⟨hd.1, fun x hx => dueOk_mono n m x (Nat.le_of_succ_le_succ h) (hd.2 x hx)⟩
def G_law_same_n (n : Nat) : PFn := fun svs Q => ∃ a b m, n = m + 1 ∧ svs = [.v a, .v b] ∧ dueOk m b ∧ Q (.v (.bool (eqb a b)))
def G_law_same : PFn := fun svs Q => ∃ a b, svs = [.v a, .v b] ∧ dueOk 8 b ∧ Q (.v (.bool (eqb a b)))
theorem G_law_same_imp : ∀ svs Q, G_law_same svs Q → G_law_same_n 9 svs Q := fun svs Q ⟨a, b, e, h, q⟩ => ⟨a, b, 8, rfl, e, h, q⟩
theorem G_law_same_0 : ∀ svs Q, ¬ G_law_same_n 0 svs Q := fun svs Q ⟨a, b, m, e, _⟩ => absurd e (Nat.succ_ne_zero m).symm
/-- slots: 0 told, 1 due, 2 k, 3 key -/
def B_law_same (G_law_same : PFn) : PTS :=
  (pSeq (pIfS (pOr (pTest (pIsi isList (pVarB 1))) (pTest (pIsi isTuple (pVarB 1)))) (pSeq (pIfS (pOr (pAnd (pTest (pIsi isList (pVarB 1))) (pNot (pTest (pIsi isList (pVarB 0))))) (pAnd (pTest (pIsi isTuple (pVarB 1))) (pNot (pTest (pIsi isTuple (pVarB 0)))))) (pRet (pC (.bool false))) pNext)
    (pSeq (pIfS (pTest (pOp gNe (pB gLen (pCons (pVarB 0) pNil)) (pB gLen (pCons (pVarB 1) pNil)))) (pRet (pC (.bool false))) pNext)
    (pRet (pOp gEq (pFz (pLc (pRange1 (pB gLen (pCons (pVarB 1) pNil))) (pgName 2) (pNot (pTest (pFz (pCall G_law_same (aCons (pOp gIx (pVarB 0) (pVarB 2)) (aCons (pOp gIx (pVarB 1) (pVarB 2)) aNil)))))) (pVar 2) [2])) (pFz (pLst pNil)))))) pNext)
    (pSeq (pIfS (pTest (pIsi isDict (pVarB 1))) pNever pNext)
    (pSeq (pIfS (pTest (pIsN (pVarB 1))) (pRet (pIsN (pVarB 0))) pNext)
    (pSeq (pIfS (pTest (pIsi isBool (pVarB 1))) (pRet (pAndV (pIsi isBool (pVarB 0)) (pOp gEq (pVarB 0) (pVarB 1)))) pNext)
    (pSeq (pIfS (pTest (pIsi isStr (pVarB 1))) (pRet (pAndV (pIsi isStr (pVarB 0)) (pOp gEq (pVarB 0) (pVarB 1)))) pNext)
    (pRet (pAndV (pIsi isInt (pVarB 0)) (pAndV (pNotV (pIsi isBool (pVarB 0))) (pOp gEq (pVarB 0) (pVarB 1))))))))))

theorem def_ok0 {P : Program} {w : World} {K : PySem.W.Frag} {mg : Str → Option Value} {base : Heap} {k : Nat} {f : Addr} {fd : FuncData} {ps : List Str} {G : PFn} (h : ∀ svs Q, ¬ G svs Q) : FnOk P w K mg base CX0 k f fd ps (spD K G) :=
  ⟨fun vs H Q E ⟨Z, S, svs, Qd, w, r, g, _⟩ => absurd g (h svs Qd), fun A outer s H args us vs Q E _ _ _ _ ⟨Z, S, svs, Qd, w, r, g, _⟩ => absurd g (h svs Qd)⟩
open Classical in
noncomputable def gaps (as bs : List D) : Nat → List D
  | 0 => []
  | k + 1 => gaps as bs k ++ (if as[k]? = bs[k]? then [] else [PyData.int (k : Int)])
theorem gaps_nil {as bs : List D} : ∀ n : Nat, gaps as bs n = [] ↔ ∀ k, k < n → as[k]? = bs[k]?
  | 0 => ⟨fun _ k h => absurd h (Nat.not_lt_zero _), fun _ => rfl⟩
  | n + 1 => by
    unfold gaps
    rw [List.append_eq_nil_iff, gaps_nil n]
    constructor
    · rintro ⟨h1, h2⟩ k hk
      by_cases e : k = n
      · subst e
        split at h2
        · assumption
        · cases h2
      · exact h1 k (by omega)
    · intro h
      exact ⟨fun k hk => h k (by omega), if_pos (h n (by omega))⟩
theorem shp_int (n : Nat) (i : Int) : shp n (.int i) := by cases n <;> exact True.intro
theorem gaps_shp {as bs : List D} {m : Nat} : ∀ n : Nat, ∀ d ∈ gaps as bs n, shp m d
  | 0, d, h => by cases h
  | n + 1, d, h => by
    unfold gaps at h
    rcases List.mem_append.mp h with h | h
    · exact gaps_shp n d h
    · split at h
      · cases h
      · rw [List.mem_singleton.mp h]; exact shp_int _ _
theorem lists_eq {as bs : List D} (hl : as.length = bs.length) : (gaps as bs bs.length = []) ↔ as = bs := by
  rw [gaps_nil]
  constructor
  · intro h
    apply List.ext_getElem?
    intro i
    by_cases hi : i < bs.length
    · exact h i hi
    · rw [List.getElem?_eq_none_iff.mpr (by omega), List.getElem?_eq_none_iff.mpr (by omega)]
  · rintro rfl k _
    rfl
theorem eqOk_gaps {as bs : List D} {n : Nat} : eqOk (.list (gaps as bs n)) (.list []) := .inl ⟨fun d h => gaps_shp n d h, fun d h => by cases h⟩
theorem atI_at {α : Type} {xs : List α} {k : Nat} (h : k < xs.length) : atI xs (k : Int) = some xs[k] := atI_nat (by simp [h])
theorem atI_at0 {α : Type} {xs : List α} {k : Nat} (h : k < xs.length) : atI xs (0 + (k : Int)) = some xs[k] := by rw [Int.zero_add]; exact atI_at h
theorem pure_law_same (n : Nat) : ∀ svs Qd, G_law_same_n (n + 1) svs Qd → svs.length = 2 ∧ B_law_same (G_law_same_n n) { nx := fun _ => Qd (.v .none), rt := Qd, bk := fun _ => False, ct := fun _ => False } (svs.map some ++ List.replicate (4 - svs.length) none) := by
  rintro svs Qd ⟨a, b, m, e, rfl, hd, hq⟩
  have em : m = n := by omega
  subst em
  refine ⟨rfl, ?_⟩
  have ne : ∀ {x y : D}, x ≠ y → eqb x y = false := fun h => eqb_false.mpr h
  have turn : ∀ (as bs : List D) (k : Nat) (R : List D → Prop) (h1 : k < as.length) (h2 : k < bs.length), (∀ x ∈ bs, ∃ m', m = m' + 1 ∧ dueOk m' x) → R (gaps as bs (k + 1)) →
      G_law_same_n m [.v as[k], .v bs[k]] (frz fun d => match d with | .bool c => (if (!c) = true then R (gaps as bs k ++ [.int (0 + (k : Int))]) else R (gaps as bs k)) | _ => False) := fun as bs k R h1 h2 hx hr => by
    obtain ⟨m', em, hm⟩ := hx bs[k] (List.getElem_mem h2)
    refine ⟨_, _, m', em, rfl, hm, ?_⟩
    simp only [frz_v]
    unfold gaps at hr
    have g1 : as[k]? = some as[k] := by simp [h1]
    have g2 : bs[k]? = some bs[k] := by simp [h2]
    rw [g1, g2] at hr
    by_cases q : as[k] = bs[k]
    · rw [eqb_true.mpr q]
      rw [if_pos (by rw [q]), List.append_nil] at hr
      simp only [Bool.not_true, Bool.false_eq_true, if_false]
      exact hr
    · rw [eqb_false.mpr q]
      rw [if_neg (fun z => q (Option.some.inj z))] at hr
      simp only [Bool.not_false, if_true]
      rw [Int.zero_add]; exact hr
  unfold B_law_same
  cases b with
  | none =>
    walk_at "dl"
    have e : eqb a .none = isNone a := by cases a <;> first | exact eqb_self _ | exact ne (fun h => by cases h)
    rw [e] at hq
    cases a <;> exact hq
  | bool b =>
    walk_at "dl"
    cases a <;> first | (walk_at "dl"; exact ⟨eqOk_bool _ _, by rw [eqb_bool] at hq; exact hq⟩) | (walk_at "dl"; rw [ne (fun h => by cases h)] at hq; exact hq)
  | str b =>
    walk_at "dl"
    cases a <;> first | (walk_at "dl"; exact ⟨eqOk_str _ _, by rw [eqb_str] at hq; exact hq⟩) | (walk_at "dl"; rw [ne (fun h => by cases h)] at hq; exact hq)
  | int b =>
    walk_at "dl"
    cases a <;> first | (walk_at "dl"; exact ⟨eqOk_int _ _, by rw [eqb_int] at hq; exact hq⟩) | (walk_at "dl"; rw [ne (fun h => by cases h)] at hq; exact hq)
  | dict b => cases m <;> exact hd.elim
  | list bs =>
    cases m with
    | zero => exact hd.elim
    | succ m =>
    walk_at "dl"
    cases a <;> first | (walk_at "dl"; rw [ne (fun h => by cases h)] at hq; exact hq) | skip
    rename_i as
    walk_at "dl"
    refine ⟨eqOk_int _ _, ?_⟩
    by_cases hl : (as.length : Int) = bs.length
    · rw [decide_eq_true hl]
      walk_at "dl"
      have hd1 := hd.1
      refine ⟨⟨by omega, by omega⟩, by rw [rngD_length]; omega, fun k acc => acc = gaps as bs k ∧ k ≤ bs.length, ⟨rfl, Nat.zero_le _⟩, ?_, ?_⟩
      · rintro k acc d ⟨rfl, _⟩ hk
        obtain ⟨hk, rfl⟩ := rngD_get hk
        have h2 : k < bs.length := by omega
        have h1 : k < as.length := by omega
        walk_at "dl"
        rw [atI_at0 h1, atI_at0 h2]
        exact turn as bs k (fun acc => acc = gaps as bs (k + 1) ∧ k + 1 ≤ bs.length) h1 h2 (fun x hx => ⟨m, rfl, hd.2 x hx⟩) ⟨rfl, h2⟩
      · rintro acc ⟨rfl, _⟩
        rw [rngD_length, Int.toNat_natCast]
        refine ⟨lineOk_small (by decide), eqOk_gaps, ?_⟩
        have e1 : eqb (.list as) (.list bs) = eqb (.list (gaps as bs bs.length)) (.list []) := eqb_iff (by
          rw [eqb_true]
          have := lists_eq (as := as) (bs := bs) (by omega)
          simp only [PyData.list.injEq]
          exact this.symm)
        rw [e1] at hq
        exact hq
    · rw [decide_eq_false hl]
      walk_at "dl"
      rw [ne (fun h => hl (by injection h with h; rw [h]))] at hq
      exact hq
  | tuple bs =>
    cases m with
    | zero => exact hd.elim
    | succ m =>
    walk_at "dl"
    cases a <;> first | (walk_at "dl"; rw [ne (fun h => by cases h)] at hq; exact hq) | skip
    rename_i as
    walk_at "dl"
    refine ⟨eqOk_int _ _, ?_⟩
    by_cases hl : (as.length : Int) = bs.length
    · rw [decide_eq_true hl]
      walk_at "dl"
      have hd1 := hd.1
      refine ⟨⟨by omega, by omega⟩, by rw [rngD_length]; omega, fun k acc => acc = gaps as bs k ∧ k ≤ bs.length, ⟨rfl, Nat.zero_le _⟩, ?_, ?_⟩
      · rintro k acc d ⟨rfl, _⟩ hk
        obtain ⟨hk, rfl⟩ := rngD_get hk
        have h2 : k < bs.length := by omega
        have h1 : k < as.length := by omega
        walk_at "dl"
        rw [atI_at0 h1, atI_at0 h2]
        exact turn as bs k (fun acc => acc = gaps as bs (k + 1) ∧ k + 1 ≤ bs.length) h1 h2 (fun x hx => ⟨m, rfl, hd.2 x hx⟩) ⟨rfl, h2⟩
      · rintro acc ⟨rfl, _⟩
        rw [rngD_length, Int.toNat_natCast]
        refine ⟨lineOk_small (by decide), eqOk_gaps, ?_⟩
        have e1 : eqb (.tuple as) (.tuple bs) = eqb (.list (gaps as bs bs.length)) (.list []) := eqb_iff (by
          rw [eqb_true]
          have := lists_eq (as := as) (bs := bs) (by omega)
          simp only [PyData.list.injEq, PyData.tuple.injEq]
          exact this.symm)
        rw [e1] at hq
        exact hq
    · rw [decide_eq_false hl]
      walk_at "dl"
      rw [ne (fun h => hl (by injection h with h; rw [h]))] at hq
      exact hq
end DL
/-! ## K38 -/
set_option Elab.async false
set_option linter.all false
set_option maxRecDepth 100000
set_option maxHeartbeats 4000000
/-! k38: the plain law. -/
namespace DL
open PySem L2 RZ RT PyProof.Rows
local macro_rules | `(tactic| walk_at "dl") => `(tactic| simp only [↓pSeq_ap, ↓pSet_ap, ↓pSetF_ap, ↓pRet_ap, ↓pRetF_ap, ↓pRetVar_ap, ↓pRetN_ap, ↓pIfS_ap, ↓pPar_ap, ↓pNext_ap, ↓pNever_ap, ↓pTgt_ap, ↓pDrop_ap, ↓pVar_ap, ↓pVarB_ap, ↓pC_ap, ↓pOp_ap, ↓pOpF_ap, ↓pUn_ap, ↓pFz_eq, ↓frz_v, ↓frz_own, ↓frz_ownD, ↓pV_ap, ↓pTest_ap, ↓pAnd_ap, ↓pOr_ap, ↓pNot_ap, ↓pIf_ap, ↓pAndV_ap, ↓pOrV_ap, ↓pNotV_ap, ↓pNil_ap, ↓pCons_ap, ↓aNil_ap, ↓aCons_ap, ↓aSlot_ap, ↓pTup_ap, ↓pLst_ap, ↓pB_ap, ↓pBF_ap, ↓pCall_ap, ↓pIsi_ap, ↓pIsN_ap, ↓pNotN_ap, ↓pSt_ap, ↓pSetSt_ap, ↓pLenS_ap, ↓pIxS_ap, ↓pFor_ap, ↓pIter_ap, ↓pRange1_ap, ↓pRange2_ap, ↓gItems, pgName, slot_z, slot_s, set_z, set_s, ↓gI, ↓gMinus, ↓gMod, ↓gFdiv, ↓gPow, ↓gLt, ↓gLe, ↓gGt, ↓gGe, ↓gNeg, ↓gAdd, ↓gMul, ↓gIx, ↓gEq, ↓gNe, ↓gLen, ↓gAbs, ↓gIntOf, ↓gTupOf, ↓gLstOf, isInt, isBool, isStr, isList, isTuple, isDict, isNone, eqb_int, eqb_bool, eqb_str, eqb_self, List.length, List.replicate, List.map, List.append, List.cons_append, List.nil_append, Bool.not_true, Bool.not_false, if_true, if_false, Bool.false_eq_true, ite_true, ite_false, reduceIte, Int.reduceLT, Int.reduceLE, Int.reduceEq, Int.reduceNe, Int.reduceAdd, Int.reduceSub, Int.reduceMul, Int.reduceNeg, Int.reduceToNat, Int.reducePow, Nat.reduceAdd, Nat.reduceSub, ne_eq, not_false_eq_true, not_true_eq_false, decide_true, decide_false, and_true, true_and, ↓pRev_ap, ↓pZip_ap, ↓pSl_ap, ↓pNoPart_ap, ↓pPart_ap, ↓pFreeze_ap, ↓pApp_ap, ↓pExt_ap, ↓pPop_ap, ↓pSetIx_ap, ↓pBreak_ap, ↓pCont_ap, ↓pYes_ap, ↓pLc_ap, ↓gSl, wipeE, pgTup, pgCons, pgNil, atL1_0, atL2_0, atL2_1, atL3_0, atL3_1, atL3_2])
theorem gIx0 (r : Rat) (Q : D → Prop) : gIx (encR r) (.int 0) Q = Q (.int r.num) := rfl
theorem gIx1 (r : Rat) (Q : D → Prop) : gIx (encR r) (.int 1) Q = Q (.int (r.den : Int)) := rfl
theorem dueR (r : Rat) : dueOk 8 (encR r) := ⟨by show 2 ≤ 16777216; decide, fun x h => by
  rcases List.mem_cons.mp h with rfl | h
  · trivial
  · rw [List.mem_singleton.mp h]; trivial⟩
theorem dueP (a b : Int) : dueOk 8 (.tuple [.int a, .int b]) := ⟨by show 2 ≤ 16777216; decide, fun x h => by
  rcases List.mem_cons.mp h with rfl | h
  · trivial
  · rw [List.mem_singleton.mp h]; trivial⟩
theorem enc_cop {n d : Int} (h : 0 < d) (g : Int.gcd n d = 1) : encR (Rat.divInt n d) = .tuple [.int n, .int d] := by
  obtain ⟨e1, e2⟩ := ratio_pos (n := n) h
  rw [g] at e1 e2
  unfold encR
  rw [← e1, ← e2]
  simp
/-! ### the telescope -/
def tel (s : Int) (k : Nat) : Rat := Rat.divInt k (s * (s + k))
theorem tel_zero (s : Int) : tel s 0 = 0 := by
  unfold tel
  rw [Rat.divInt_eq_div, Rat.div_def]
  exact Rat.zero_mul _
theorem cast_ne {i : Int} (h : i ≠ 0) : (i : Rat) ≠ 0 := fun e => h (by exact_mod_cast e)
theorem tel_step {s : Int} {k : Nat} (h : 0 < s) : tel s k + Rat.divInt 1 (s + k) * Rat.divInt 1 (s + k + 1) = tel s (k + 1) := by
  unfold tel
  have h1 := cast_ne (show s ≠ 0 by omega)
  have h2 := cast_ne (show s + (k : Int) ≠ 0 by omega)
  have h3 := cast_ne (show s + (k : Int) + 1 ≠ 0 by omega)
  simp only [Rat.divInt_eq_div, Rat.intCast_mul, Rat.intCast_add, Int.natCast_add, Int.natCast_one, Rat.intCast_one] at h1 h2 h3 ⊢
  grind
theorem back_step {s : Int} {k : Nat} (h : 0 < s) : -tel s k - ((1 : Int) : Rat) / (((s + k) * (s + k + 1) : Int) : Rat) = -tel s (k + 1) := by
  unfold tel
  have h1 := cast_ne (show s ≠ 0 by omega)
  have h2 := cast_ne (show s + (k : Int) ≠ 0 by omega)
  have h3 := cast_ne (show s + (k : Int) + 1 ≠ 0 by omega)
  simp only [Rat.divInt_eq_div, Rat.intCast_mul, Rat.intCast_add, Int.natCast_add, Int.natCast_one, Rat.intCast_one] at h1 h2 h3 ⊢
  grind
theorem sz_neg {n : Nat} {r : Rat} (h : sz n r) : sz n (-r) := ⟨by rw [Rat.neg_num, Int.natAbs_neg]; exact h.1, h.2⟩
theorem mul_small {s k : Int} (h : 0 < s) (h2 : s ≤ 9) (h3 : 0 ≤ k) (h4 : k ≤ 40) : 0 < s * (s + k) ∧ s * (s + k) ≤ 441 := by
  refine ⟨Int.mul_pos h (by omega), ?_⟩
  calc s * (s + k) ≤ 9 * 49 := Int.mul_le_mul h2 (by omega) (by omega) (by decide)
    _ ≤ 441 := by decide
theorem sz_tel {s : Int} {k : Nat} (h : 0 < s) (h2 : s ≤ 9) (h3 : k ≤ 40) : sz 20 (tel s k) := by
  obtain ⟨a, b⟩ := mul_small (k := (k : Int)) h h2 (by omega) (by omega)
  exact nums_bound (by omega) (show (k : Int).natAbs < 2 ^ 20 by rw [show (2 : Nat) ^ 20 = 1048576 by decide]; omega) (show (s * (s + (k : Int))).natAbs < 2 ^ 20 by rw [show (2 : Nat) ^ 20 = 1048576 by decide]; omega)
theorem sz_unit {d : Int} (h : 0 < d) (h2 : d < 1000) : sz 20 (Rat.divInt 1 d) :=
  nums_bound (by omega) (by decide) (show d.natAbs < 2 ^ 20 by rw [show (2 : Nat) ^ 20 = 1048576 by decide]; omega)
theorem sz_int {i : Int} {n : Nat} (h : i.natAbs < 2 ^ n) (h0 : 0 < n) : sz n (i : Rat) := ⟨h, Nat.one_lt_two_pow (by omega)⟩
/-! ### the chain -/
def cf : List Int → Rat
  | [] => 0
  | a :: l => a + 1 / cf l
theorem cf_pos : ∀ l : List Int, (∀ a ∈ l, 1 ≤ a) → 0 ≤ cf l ∧ (l ≠ [] → 0 < cf l)
  | [], _ => ⟨by show (0 : Rat) ≤ 0; decide, fun h => (h rfl).elim⟩
  | a :: l, h => by
    have ih := cf_pos l fun b hb => h b (List.mem_cons_of_mem _ hb)
    have ha : (1 : Rat) ≤ (a : Rat) := by exact_mod_cast h a List.mem_cons_self
    have hp : 0 < (a : Rat) + 1 / cf l := by
      cases l with
      | nil =>
        show (0 : Rat) < (a : Rat) + 1 / 0
        grind
      | cons b l =>
        have := ih.2 (by simp)
        have h2 : 0 < (cf (b :: l))⁻¹ := Rat.inv_pos.mpr this
        rw [Rat.div_def]
        grind
    exact ⟨by show 0 ≤ (a : Rat) + 1 / cf l; grind, fun _ => hp⟩
theorem cf_one (a : Int) : cf [a] = a := by
  show (a : Rat) + 1 / 0 = a
  grind
def yv (l : List Int) : Rat := 1 / cf l
theorem yv_nil : yv [] = 0 := by
  show (1 : Rat) / 0 = 0
  grind
/-- what a pair of rows keeps -/
def Conv (x : Rat) (rest : List Int) (h0 h1 k0 k1 : Int) : Prop :=
  x * ((k1 : Rat) + k0 * yv rest) = (h1 : Rat) + h0 * yv rest ∧ 0 < k1 ∧ 0 ≤ k0 ∧ (h1 * k0 - h0 * k1 = 1 ∨ h1 * k0 - h0 * k1 = -1)
theorem conv_step {x : Rat} {a : Int} {l : List Int} {h0 h1 k0 k1 : Int} (ha : 1 ≤ a) (hl : ∀ b ∈ l, 1 ≤ b) (c : Conv x (a :: l) h0 h1 k0 k1) : Conv x l h1 (a * h1 + h0) k1 (a * k1 + k0) := by
  obtain ⟨e, p1, p0, dd⟩ := c
  refine ⟨?_, ?_, by omega, ?_⟩
  · have hy : cf (a :: l) = a + yv l := rfl
    have hp := (cf_pos (a :: l) fun b hb => by
      rcases List.mem_cons.mp hb with rfl | hb
      · exact ha
      · exact hl b hb).2 (by simp)
    have e2 : yv (a :: l) = 1 / (a + yv l) := by unfold yv; rw [hy]; rfl
    rw [e2] at e
    have hn : (a : Rat) + yv l ≠ 0 := by rw [← hy]; intro z; rw [z] at hp; exact absurd hp (by decide)
    simp only [Rat.intCast_add, Rat.intCast_mul]
    generalize yv l = y at *
    grind
  · have := Int.mul_pos (show 0 < a by omega) p1
    omega
  · rcases dd with dd | dd
    · right
      grind
    · left
      grind
theorem cop_det {h0 h1 k0 k1 : Int} (dd : h1 * k0 - h0 * k1 = 1 ∨ h1 * k0 - h0 * k1 = -1) : Int.gcd h1 k1 = 1 := by
  have g1 := Int.gcd_dvd_left h1 k1
  have g2 := Int.gcd_dvd_right h1 k1
  have g3 : ((Int.gcd h1 k1 : Nat) : Int) ∣ h1 * k0 - h0 * k1 := Int.dvd_sub (Int.dvd_mul_of_dvd_left g1) (Int.dvd_mul_of_dvd_right g2)
  have g4 : ((Int.gcd h1 k1 : Nat) : Int) ∣ 1 := by
    rcases dd with dd | dd
    · rw [dd] at g3; exact g3
    · rw [dd] at g3; exact (Int.dvd_neg).mp g3
  have := Int.le_of_dvd (by decide) g4
  have : Int.gcd h1 k1 ≠ 0 := by
    intro e
    rw [e] at g4
    exact absurd g4 (by decide)
  omega
theorem conv_end {x : Rat} {h0 h1 k0 k1 : Int} (c : Conv x [] h0 h1 k0 k1) : encR x = .tuple [.int h1, .int k1] ∧ 0 < k1 ∧ Int.gcd h1 k1 = 1 := by
  obtain ⟨e, p1, p0, dd⟩ := c
  have g := cop_det dd
  refine ⟨?_, p1, g⟩
  rw [← enc_cop p1 g, Rat.divInt_eq_div]
  congr 1
  have hk := cast_ne (show k1 ≠ 0 by omega)
  rw [yv_nil] at e
  grind
theorem conv_start (a : Int) (l : List Int) : Conv (cf (a :: l)) l 1 a 0 1 := by
  refine ⟨?_, by decide, by decide, .inr (by omega)⟩
  show ((a : Rat) + 1 / cf l) * _ = _
  unfold yv
  simp only [Rat.intCast_one, Rat.intCast_zero]
  grind
theorem sz_cf : ∀ l : List Int, (∀ a ∈ l, 1 ≤ a ∧ a ≤ 9) → sz (6 * l.length + 4) (cf l)
  | [], _ => ⟨by decide, by decide⟩
  | a :: l, h => by
    have ih := sz_cf l fun b hb => h b (List.mem_cons_of_mem _ hb)
    have ha := h a List.mem_cons_self
    have s1 : sz 1 ((1 : Int) : Rat) := ⟨by decide, by decide⟩
    have s4 : sz 4 (a : Rat) := sz_int (by rw [show (2 : Nat) ^ 4 = 16 by decide]; omega) (by decide)
    by_cases hl : l = []
    · subst hl
      rw [cf_one]
      exact s4.mono (by simp)
    · have hp := (cf_pos l fun b hb => (h b (List.mem_cons_of_mem _ hb)).1).2 hl
      have s2 := sz_div s1 ih (fun z => by rw [z] at hp; exact absurd hp (by decide))
      have s3 := sz_add s4 s2
      refine s3.mono ?_
      simp only [List.length_cons]
      omega
/-! ### the defs -/
def G_is_whole : PFn := fun svs Q => ∃ i : Int, svs = [.v (.int i)] ∧ Q (.v (.bool true))
def G_is_ratio : PFn := fun svs Q => ∃ a b : Int, svs = [.v (.tuple [.int a, .int b])] ∧ b.natAbs.log2 < 9000 ∧ Q (.v (.bool (decide (0 < b ∧ Int.gcd a b = 1))))
def G_law_refused : PFn := fun svs Q => ∃ i : Int, svs = [.v (.int i)] ∧ (i = 0 ∨ i = 1) ∧ Q (.v (.bool true))
/-- slots: 0 number -/
def B_is_whole : PTS :=
  (pRet (pAndV (pIsi isInt (pVarB 0)) (pNotV (pIsi isBool (pVarB 0)))))

/-- slots: 0 pair -/
def B_is_ratio : PTS :=
  (pSeq (pIfS (pOr (pNot (pTest (pIsi isTuple (pVarB 0)))) (pOr (pTest (pOp gNe (pB gLen (pCons (pVarB 0) pNil)) (pC (.int 2)))) (pOr (pNot (pTest (pFz (pCall G_is_whole (aCons (pOp gIx (pVarB 0) (pC (.int 0))) aNil))))) (pNot (pTest (pFz (pCall G_is_whole (aCons (pOp gIx (pVarB 0) (pC (.int 1))) aNil)))))))) (pRet (pC (.bool false))) pNext)
    (pRet (pAndV (pOp gGt (pOp gIx (pVarB 0) (pC (.int 1))) (pC (.int 0))) (pOp gEq (pFz (pCall G_divisor (aCons (pOp gIx (pVarB 0) (pC (.int 0))) (aCons (pOp gIx (pVarB 0) (pC (.int 1))) aNil)))) (pC (.int 1))))))

theorem pure_is_whole : ∀ svs Qd, G_is_whole svs Qd → svs.length = 1 ∧ B_is_whole { nx := fun _ => Qd (.v .none), rt := Qd, bk := fun _ => False, ct := fun _ => False } (svs.map some ++ List.replicate (1 - svs.length) none) := by
  rintro svs Qd ⟨i, rfl, hq⟩
  refine ⟨rfl, ?_⟩
  unfold B_is_whole
  walk_at "dl"
  exact hq
theorem pure_is_ratio : ∀ svs Qd, G_is_ratio svs Qd → svs.length = 1 ∧ B_is_ratio { nx := fun _ => Qd (.v .none), rt := Qd, bk := fun _ => False, ct := fun _ => False } (svs.map some ++ List.replicate (1 - svs.length) none) := by
  rintro svs Qd ⟨a, b, rfl, hl, hq⟩
  refine ⟨rfl, ?_⟩
  unfold B_is_ratio
  walk_at "dl"
  refine ⟨eqOk_int _ _, a, rfl, ?_⟩
  walk_at "dl"
  refine ⟨b, rfl, ?_⟩
  walk_at "dl"
  by_cases hb : 0 < b
  · rw [decide_eq_true hb]
    walk_at "dl"
    refine ⟨a, b, rfl, ?_⟩
    walk_at "dl"
    refine ⟨eqOk_int _ _, ?_⟩
    have e : decide (((Int.gcd a b : Nat) : Int) = 1) = decide (0 < b ∧ Int.gcd a b = 1) := decide_eq_decide.mpr (by omega)
    rw [e]
    exact hq
  · rw [decide_eq_false hb]
    walk_at "dl"
    rw [decide_eq_false (by omega)] at hq
    exact hq
/-- slots: 0 script, 1 state, 2 start, 3 count, 4 whole, 5 back, 6 k, 7 part, 8 due, 9 numbers, 10 found, 11 number, 12 top, 13 low, 14 factor, 15 turn, 16 first, 17 second, 18 shared, 19 sign, 20 other -/
def B_law : PTS :=
  (pSeq (pSetF 1 (pCall G_law_big (aSlot 0 (aCons (pC (.int 0)) (aCons (pC (.int 63)) aNil)))))
    (pStify' 1 (pCut (pPar 2 3 (pCons (pFz (pOpF gAdd (pC (.int 1)) (pFz (pCall G_law_take (aSlot 1 (aCons (pC (.int 9)) aNil)))))) (pCons (pFz (pOpF gAdd (pC (.int 1)) (pFz (pCall G_law_take (aSlot 1 (aCons (pC (.int 30)) aNil)))))) pNil)))
    (pCut (pTgt (pTup (pCons (pTup (pCons (pC (.int 0)) (pCons (pC (.int 1)) pNil))) (pCons (pTup (pCons (pC (.int 0)) (pCons (pC (.int 1)) pNil))) pNil))) (pgTup 2 (pgCons (pgName 4) (pgCons (pgName 5) pgNil))))
    (pCut (pFor (pRange2 (pVar 2) (pFz (pOpF gAdd (pVarB 2) (pVarB 3)))) (pgName 6) (pSeq (pSet 7 (pFz (pCall G_times (aCons (pFz (pCall G_ratio (aCons (pC (.int 1)) (aCons (pVar 6) aNil)))) (aCons (pFz (pCall G_ratio (aCons (pC (.int 1)) (aCons (pFz (pOpF gAdd (pVarB 6) (pC (.int 1)))) aNil)))) aNil)))))
    (pSeq (pSet 4 (pFz (pCall G_plus (aCons (pVar 4) (aCons (pVar 7) aNil)))))
    (pSet 5 (pFz (pCall G_minus (aCons (pVar 5) (aCons (pFz (pCall G_over (aCons (pTup (pCons (pC (.int 1)) (pCons (pC (.int 1)) pNil))) (aCons (pTup (pCons (pFz (pOpF gMul (pVarB 6) (pFz (pOpF gAdd (pVarB 6) (pC (.int 1)))))) (pCons (pC (.int 1)) pNil))) aNil)))) aNil))))))))
    (pCut (pSet 8 (pFz (pCall G_law_ratio (aCons (pVar 3) (aCons (pFz (pOpF gMul (pVarB 2) (pFz (pOpF gAdd (pVarB 2) (pVarB 3))))) aNil)))))
    (pCut (pIfS (pOr (pNot (pTest (pFz (pCall G_law_same (aCons (pVar 4) (aCons (pVar 8) aNil)))))) (pNot (pTest (pFz (pCall G_law_same (aCons (pVar 5) (aCons (pTup (pCons (pUn gNeg (pOp gIx (pVarB 8) (pC (.int 0)))) (pCons (pOp gIx (pVarB 8) (pC (.int 1))) pNil))) aNil))))))) pNever pNext)
    (pCut (pSet 9 (pFz (pLc (pRange1 (pFz (pOpF gAdd (pC (.int 1)) (pFz (pCall G_law_take (aSlot 1 (aCons (pC (.int 20)) aNil))))))) (pgName 6) pYes (pFz (pOpF gAdd (pC (.int 1)) (pFz (pCall G_law_take (aSlot 1 (aCons (pC (.int 9)) aNil)))))) [6])))
    (pCut (pSet 10 (pTup (pCons (pOp gIx (pVarB 9) (pUn gNeg (pC (.int 1)))) (pCons (pC (.int 1)) pNil))))
    (pCut (pFor (pRev (pFz (pSl (pVarB 9) pNoPart (pPart (pUn gNeg (pC (.int 1))))))) (pgName 11) (pSet 10 (pFz (pCall G_plus (aCons (pTup (pCons (pVar 11) (pCons (pC (.int 1)) pNil))) (aCons (pFz (pCall G_over (aCons (pTup (pCons (pC (.int 1)) (pCons (pC (.int 1)) pNil))) (aCons (pVar 10) aNil)))) aNil))))))
    (pCut (pPar 12 13 (pCons (pFz (pLst (pCons (pC (.int 1)) (pCons (pOp gIx (pVarB 9) (pC (.int 0))) pNil)))) (pCons (pFz (pLst (pCons (pC (.int 0)) (pCons (pC (.int 1)) pNil)))) pNil)))
    (pCut (pFor (pIter (pFz (pSl (pVarB 9) (pPart (pC (.int 1))) pNoPart))) (pgName 11) (pSeq (pSet 12 (pFz (pLst (pCons (pOp gIx (pVarB 12) (pC (.int 1))) (pCons (pFz (pOpF gAdd (pFz (pOpF gMul (pVarB 11) (pOp gIx (pVarB 12) (pC (.int 1))))) (pOp gIx (pVarB 12) (pC (.int 0))))) pNil)))))
    (pSet 13 (pFz (pLst (pCons (pOp gIx (pVarB 13) (pC (.int 1))) (pCons (pFz (pOpF gAdd (pFz (pOpF gMul (pVarB 11) (pOp gIx (pVarB 13) (pC (.int 1))))) (pOp gIx (pVarB 13) (pC (.int 0))))) pNil)))))))
    (pCut (pIfS (pOr (pNot (pTest (pFz (pCall G_law_same (aCons (pVar 10) (aCons (pTup (pCons (pOp gIx (pVarB 12) (pC (.int 1))) (pCons (pOp gIx (pVarB 13) (pC (.int 1))) pNil))) aNil)))))) (pNot (pTest (pFz (pCall G_law_same (aCons (pFz (pCall G_is_ratio (aCons (pVar 10) aNil))) (aCons (pC (.bool true)) aNil))))))) pNever pNext)
    (pCut (pSet 14 (pFz (pOpF gAdd (pC (.int 2)) (pFz (pCall G_law_take (aSlot 1 (aCons (pOp gPow (pC (.int 10)) (pC (.int 9))) aNil)))))))
    (pCut (pFor (pRange1 (pFz (pOpF gMul (pC (.int 5)) (pFz (pCall G_law_take (aSlot 1 (aCons (pC (.int 2)) aNil))))))) (pgName 15) (pSet 14 (pFz (pOpF gAdd (pFz (pOpF gMul (pVarB 14) (pVarB 14))) (pC (.int 1))))))
    (pCut (pPar 16 17 (pCons (pFz (pOpF gAdd (pC (.int 1)) (pFz (pCall G_law_take (aSlot 1 (aCons (pOp gPow (pC (.int 10)) (pC (.int 6))) aNil)))))) (pCons (pFz (pOpF gAdd (pC (.int 1)) (pFz (pCall G_law_take (aSlot 1 (aCons (pOp gPow (pC (.int 10)) (pC (.int 6))) aNil)))))) pNil)))
    (pCut (pSet 18 (pFz (pCall G_law_divisor (aCons (pVar 16) (aCons (pVar 17) aNil)))))
    (pCut (pPar 16 17 (pCons (pB gIntOf (pCons (pOp gFdiv (pVarB 16) (pVarB 18)) pNil)) (pCons (pB gIntOf (pCons (pOp gFdiv (pVarB 17) (pVarB 18)) pNil)) pNil)))
    (pCut (pPar 19 20 (pCons (pOp gMinus (pC (.int 1)) (pFz (pOpF gMul (pC (.int 2)) (pFz (pCall G_law_take (aSlot 1 (aCons (pC (.int 2)) aNil))))))) (pCons (pOp gMinus (pC (.int 1)) (pFz (pOpF gMul (pC (.int 2)) (pFz (pCall G_law_take (aSlot 1 (aCons (pC (.int 2)) aNil))))))) pNil)))
    (pCut (pIfS (pNot (pTest (pFz (pCall G_law_same (aCons (pFz (pCall G_ratio (aCons (pFz (pOpF gMul (pFz (pOpF gMul (pVarB 19) (pVarB 16))) (pVarB 14))) (aCons (pFz (pOpF gMul (pFz (pOpF gMul (pVarB 20) (pVarB 17))) (pVarB 14))) aNil)))) (aCons (pTup (pCons (pFz (pOpF gMul (pFz (pOpF gMul (pVarB 19) (pVarB 20))) (pVarB 16))) (pCons (pVar 17) pNil))) aNil)))))) pNever pNext)
    (pCut (pIfS (pOr (pNot (pTest (pFz (pCall G_law_same (aCons (pFz (pCall G_is_ratio (aCons (pTup (pCons (pFz (pOpF gMul (pVarB 16) (pVarB 14))) (pCons (pFz (pOpF gMul (pVarB 17) (pVarB 14))) pNil))) aNil))) (aCons (pC (.bool false)) aNil)))))) (pNot (pTest (pFz (pCall G_law_same (aCons (pFz (pCall G_is_ratio (aCons (pTup (pCons (pFz (pOpF gMul (pVarB 19) (pVarB 16))) (pCons (pVar 17) pNil))) aNil))) (aCons (pC (.bool true)) aNil))))))) pNever pNext)
    (pCut (pIfS (pOr (pNot (pTest (pFz (pCall G_law_same (aCons (pFz (pCall G_is_ratio (aCons (pTup (pCons (pVar 16) (pCons (pUn gNeg (pVarB 17)) pNil))) aNil))) (aCons (pC (.bool false)) aNil)))))) (pNot (pTest (pFz (pCall G_law_same (aCons (pFz (pCall G_is_ratio (aCons (pTup (pCons (pVar 16) (pCons (pC (.int 0)) pNil))) aNil))) (aCons (pC (.bool false)) aNil))))))) pNever pNext)
    (pRet (pAndV (pFz (pCall G_law_refused (aCons (pC (.int 0)) aNil))) (pAndV (pFz (pCall G_law_refused (aCons (pC (.int 1)) aNil))) (pFz (pCall G_law_same (aCons (pFz (pCall G_ratio (aCons (pC (.int 0)) (aCons (pUn gNeg (pVarB 17)) aNil)))) (aCons (pTup (pCons (pC (.int 0)) (pCons (pC (.int 1)) pNil))) aNil)))))))))))))))))))))))))))))

theorem cut_last (l : List Int) : cutD (l.map PyData.int) none (some (-1)) = l.dropLast.map PyData.int := by
  unfold cutD HT.sIx
  simp only [List.length_map, Nat.sub_zero, List.drop_zero]
  rw [if_pos (by decide), List.dropLast_eq_take, List.map_take]
  congr 1
  omega
theorem cut_tail (l : List Int) (h : l ≠ []) : cutD (l.map PyData.int) (some 1) none = l.tail.map PyData.int := by
  have hl : 0 < l.length := List.length_pos_iff.mpr h
  unfold cutD HT.sIx
  simp only [List.length_map]
  rw [if_neg (by decide), show min (Int.toNat 1) l.length = 1 by show min 1 l.length = 1; omega, List.take_of_length_le (by rw [List.length_drop, List.length_map]; exact Nat.le_refl _)]
  rw [← List.map_drop, List.drop_one]
theorem atI_neg1 (l : List Int) (a : Int) : atI ((l ++ [a]).map PyData.int) (-1) = some (.int a) := by
  unfold atI ixN
  simp only [List.length_map, List.length_append, List.length_cons, List.length_nil]
  rw [if_neg (by decide), if_pos (by omega)]
  show ((l ++ [a]).map PyData.int)[(-1 + ((l.length + 1 : Nat) : Int)).toNat]? = _
  rw [show (-1 + ((l.length + 1 : Nat) : Int)).toNat = l.length by omega]
  simp
theorem pure_law : ∀ svs Qd, G_law svs Qd → svs.length = 1 ∧ B_law { nx := fun _ => Qd (.v .none), rt := Qd, bk := fun _ => False, ct := fun _ => False } (svs.map some ++ List.replicate (21 - svs.length) none) := by
  rintro svs Qd ⟨ns, rfl, hq⟩
  refine ⟨rfl, ?_⟩
  unfold B_law
  have tk : ∀ (m : Int) (Q : SV → Prop), 0 < m → m < 2 ^ 60 → (∀ x : Int, 0 ≤ x → x < m → Q (.v (.int x))) → G_law_take [.st, .v (.int m)] Q := fun m Q h0 h1 h => ⟨m, rfl, h0, log2_small (by omega), h⟩
  have sm : ∀ (d : D) (Q : SV → Prop), dueOk 8 d → Q (.v (.bool true)) → G_law_same [.v d, .v d] Q := fun d Q h q => ⟨d, d, rfl, h, by rw [eqb_self]; exact q⟩
  have dB : ∀ b : Bool, dueOk 8 (.bool b) := fun b => trivial
  refine ⟨ns, 0, 63, rfl, by decide, by decide, by decide, fun s hs => ?_⟩
  refine ⟨hs, ?_⟩
  -- start, count
  refine ⟨fun env => ∃ s c : Int, 1 ≤ s ∧ s ≤ 9 ∧ 1 ≤ c ∧ c ≤ 30 ∧ env = [some (.scr ns), some .st, some (.v (.int s)), some (.v (.int c)), none, none, none, none, none, none, none, none, none, none, none, none, none, none, none, none, none], ?_, ?_⟩
  · walk_at "dl"
    refine tk 9 _ (by decide) (by decide) fun x hx0 hx1 => ?_
    refine tk 30 _ (by decide) (by decide) fun y hy0 hy1 => ?_
    exact ⟨1 + x, 1 + y, by omega, by omega, by omega, by omega, rfl⟩
  rintro env ⟨s, c, s0, s1, c0, c1, rfl⟩
  refine ⟨fun env => env = [some (.scr ns), some .st, some (.v (.int s)), some (.v (.int c)), some (.v (encR (tel s 0))), some (.v (encR (-tel s 0))), none, none, none, none, none, none, none, none, none, none, none, none, none, none, none], ?_, ?_⟩
  · rw [tel_zero]
    walk_at "dl"
    exact ⟨lineOk_small (by decide), lineOk_small (by decide), lineOk_small (by decide), rfl⟩
  rintro env rfl
  -- the telescope
  refine ⟨fun env => ∃ x6 x7, env = [some (.scr ns), some .st, some (.v (.int s)), some (.v (.int c)), some (.v (encR (tel s c.toNat))), some (.v (encR (-tel s c.toNat))), x6, x7, none, none, none, none, none, none, none, none, none, none, none, none, none], ?_, ?_⟩
  · refine ⟨⟨by omega, by omega, by omega, by omega⟩, fun k env => ∃ x6 x7, env = [some (.scr ns), some .st, some (.v (.int s)), some (.v (.int c)), some (.v (encR (tel s k))), some (.v (encR (-tel s k))), x6, x7, none, none, none, none, none, none, none, none, none, none, none, none, none], ⟨_, _, rfl⟩, ?_, ?_⟩
    · rintro k env d ⟨x6, x7, rfl⟩ hd
      obtain ⟨hk, rfl⟩ := rngD_get hd
      have t1 := sz_tel (s := s) (k := k) (by omega) s1 (by omega)
      have u1 := sz_unit (d := s + k) (by omega) (by omega)
      have u2 := sz_unit (d := s + k + 1) (by omega) (by omega)
      walk_at "dl"
      refine ⟨1, s + k, rfl, by omega, log2_small (by omega), ?_⟩
      walk_at "dl"
      refine ⟨1, s + k + 1, rfl, by omega, log2_small (by omega), ?_⟩
      walk_at "dl"
      refine ⟨_, _, 20, 20, rfl, u1, u2, by decide, trivial, ?_⟩
      walk_at "dl"
      refine ⟨_, _, 20, 40, rfl, t1, sz_mul u1 u2, by decide, trivial, ?_⟩
      walk_at "dl"
      rw [tel_step (by omega)]
      have hm : ((s + k) * (s + k + 1) : Int).natAbs < 2 ^ 40 := by
        rw [Int.natAbs_mul]
        exact mul_lt (a := 20) (b := 20) (by rw [show (2 : Nat) ^ 20 = 1048576 by decide]; omega) (by rw [show (2 : Nat) ^ 20 = 1048576 by decide]; omega)
      have hp : ((s + k) * (s + k + 1) : Int) ≠ 0 := Int.mul_ne_zero (by omega) (by omega)
      refine ⟨lineOk_small (by decide), mulSmallL (by omega), lineOk_small (by decide), ((1 : Int) : Rat), (((s + k) * (s + k + 1) : Int) : Rat), 20, 40, rfl, sz_int (by decide) (by decide), sz_int hm (by decide), by decide, cast_ne hp, ?_⟩
      walk_at "dl"
      refine ⟨_, _, 20, 60, rfl, sz_neg t1, sz_div (sz_int (by decide) (by decide)) (sz_int hm (by decide)) (cast_ne hp), by decide, trivial, ?_⟩
      walk_at "dl"
      rw [back_step (by omega)]
      exact ⟨_, _, rfl⟩
    · rintro env ⟨x6, x7, rfl⟩
      rw [rngD_length, show (s + c - s).toNat = c.toNat by omega]
      exact ⟨_, _, rfl⟩
  rintro env ⟨x6, x7, rfl⟩
  obtain ⟨mp, mq⟩ := mul_small (s := s) (k := c) (by omega) s1 (by omega) (by omega)
  refine ⟨fun env => env = [some (.scr ns), some .st, some (.v (.int s)), some (.v (.int c)), some (.v (encR (tel s c.toNat))), some (.v (encR (-tel s c.toNat))), x6, x7, some (.v (encR (tel s c.toNat))), none, none, none, none, none, none, none, none, none, none, none, none], ?_, ?_⟩
  · walk_at "dl"
    refine ⟨mulSmallL (by omega), c, s * (s + c), rfl, by omega, log2_small (by omega), ?_⟩
    walk_at "dl"
    unfold tel
    rw [show ((c.toNat : Nat) : Int) = c by omega]
  rintro env rfl
  refine ⟨fun env => ∃ x2 x3 x4 x5 x6 x7 x8, env = [some (.scr ns), some .st, x2, x3, x4, x5, x6, x7, x8, none, none, none, none, none, none, none, none, none, none, none, none], ?_, ?_⟩
  · walk_at "dl"
    refine sm _ _ (dueR _) ?_
    walk_at "dl"
    unfold encR
    walk_at "dl"
    refine ⟨lineOk_small (by decide), sm (encR (-tel s c.toNat)) _ (dueR _) ?_⟩
    walk_at "dl"
    exact ⟨_, _, _, _, _, _, _, rfl⟩
  rintro env ⟨x2, x3, x4, x5, x6, x7, x8, rfl⟩
  -- the chain
  refine ⟨fun env => ∃ l : List Int, l ≠ [] ∧ l.length ≤ 20 ∧ (∀ a ∈ l, 1 ≤ a ∧ a ≤ 9) ∧ env = [some (.scr ns), some .st, x2, x3, x4, x5, x6, x7, x8, some (.v (.list (l.map PyData.int))), none, none, none, none, none, none, none, none, none, none, none], ?_, ?_⟩
  · walk_at "dl"
    refine tk 20 _ (by decide) (by decide) fun x hx0 hx1 => ?_
    refine ⟨⟨by omega, by omega⟩, by rw [rngD_length]; omega, fun k acc => ∃ l : List Int, acc = l.map PyData.int ∧ l.length = k ∧ ∀ a ∈ l, 1 ≤ a ∧ a ≤ 9, ⟨[], rfl, rfl, fun a h => by cases h⟩, ?_, ?_⟩
    · rintro k acc d ⟨l, rfl, hl, ha⟩ hk
      obtain ⟨hk, rfl⟩ := rngD_get hk
      walk_at "dl"
      refine tk 9 _ (by decide) (by decide) fun y hy0 hy1 => ?_
      refine ⟨l ++ [1 + y], by rw [List.map_append]; rfl, by rw [List.length_append, hl]; rfl, fun a h => ?_⟩
      rcases List.mem_append.mp h with h | h
      · exact ha a h
      · rw [List.mem_singleton.mp h]; omega
    · rintro acc ⟨l, rfl, hl, ha⟩
      rw [rngD_length] at hl
      exact ⟨l, by rintro rfl; rw [List.length_nil] at hl; omega, by omega, ha, rfl⟩
  rintro env ⟨l, l0, l20, la, rfl⟩
  obtain ⟨m, z, rfl⟩ : ∃ m z, l = m ++ [z] := ⟨l.dropLast, l.getLast l0, (List.dropLast_concat_getLast l0).symm⟩
  refine ⟨fun env => env = [some (.scr ns), some .st, x2, x3, x4, x5, x6, x7, x8, some (.v (.list ((m ++ [z]).map PyData.int))), some (.v (encR (cf [z]))), none, none, none, none, none, none, none, none, none, none], ?_, ?_⟩
  · rw [cf_one]
    walk_at "dl"
    rw [atI_neg1]
    exact ⟨lineOk_small (by decide), rfl⟩
  rintro env rfl
  have lenm : m.length ≤ 19 := by rw [List.length_append] at l20; simp only [List.length_cons, List.length_nil] at l20; omega
  refine ⟨fun env => ∃ x11, env = [some (.scr ns), some .st, x2, x3, x4, x5, x6, x7, x8, some (.v (.list ((m ++ [z]).map PyData.int))), some (.v (encR (cf (m ++ [z])))), x11, none, none, none, none, none, none, none, none, none], ?_, ?_⟩
  · walk_at "dl"
    rw [cut_last, List.dropLast_concat]
    refine ⟨fun k env => ∃ x11, env = [some (.scr ns), some .st, x2, x3, x4, x5, x6, x7, x8, some (.v (.list ((m ++ [z]).map PyData.int))), some (.v (encR (cf (m.drop (m.length - k) ++ [z])))), x11, none, none, none, none, none, none, none, none, none], ⟨_, by rw [Nat.sub_zero, List.drop_length]; rfl⟩, ?_, ?_⟩
    · rintro k env d ⟨x11, rfl⟩ hd
      rw [← List.map_reverse, List.getElem?_map] at hd
      obtain ⟨a, ha, rfl⟩ := Option.map_eq_some_iff.mp hd
      obtain ⟨hk, e⟩ := List.getElem?_eq_some_iff.mp ha
      rw [List.length_reverse] at hk
      rw [List.getElem_reverse] at e
      have hdr : m.drop (m.length - (k + 1)) = a :: m.drop (m.length - k) := by
        rw [List.drop_eq_getElem_cons (by omega : m.length - (k + 1) < m.length)]
        congr 1
        · rw [← e]; congr 1; omega
        · congr 1; omega
      have hal : 1 ≤ a ∧ a ≤ 9 := la a (List.mem_append_left _ (by rw [← e]; exact List.getElem_mem _))
      have sub : ∀ b ∈ m.drop (m.length - k) ++ [z], 1 ≤ b ∧ b ≤ 9 := fun b hb => by
        rcases List.mem_append.mp hb with hb | hb
        · exact la b (List.mem_append_left _ (List.mem_of_mem_drop hb))
        · exact la b (List.mem_append_right _ hb)
      have s1 := sz_cf _ sub
      have s0 : sz 124 (cf (m.drop (m.length - k) ++ [z])) := s1.mono (by rw [List.length_append, List.length_drop]; simp only [List.length_cons, List.length_nil]; omega)
      have pz := (cf_pos _ fun b hb => (sub b hb).1).2 (by simp)
      have nz : cf (m.drop (m.length - k) ++ [z]) ≠ 0 := fun e => by rw [e] at pz; exact absurd pz (by decide)
      walk_at "dl"
      refine ⟨lineOk_small (by decide), lineOk_small (by decide), ((1 : Int) : Rat), _, 1, 124, rfl, sz_int (by decide) (by decide), s0, by decide, nz, ?_⟩
      walk_at "dl"
      refine ⟨(a : Rat), _, 20, 125, rfl, sz_int (by rw [show (2 : Nat) ^ 20 = 1048576 by decide]; omega) (by decide), sz_div (sz_int (by decide) (by decide)) s0 nz, by decide, trivial, ?_⟩
      walk_at "dl"
      rw [hdr]
      exact ⟨_, rfl⟩
    · rintro env ⟨x11, rfl⟩
      rw [List.length_reverse, List.length_map, Nat.sub_self, List.drop_zero]
      exact ⟨_, rfl⟩
  rintro env ⟨x11, rfl⟩
  generalize hl : m ++ [z] = l at *
  clear lenm
  obtain ⟨a, r, rfl⟩ : ∃ a r, l = a :: r := by
    cases l with
    | nil => exact (l0 rfl).elim
    | cons a r => exact ⟨a, r, rfl⟩
  refine ⟨fun env => env = [some (.scr ns), some .st, x2, x3, x4, x5, x6, x7, x8, some (.v (.list ((a :: r).map PyData.int))), some (.v (encR (cf (a :: r)))), x11, some (.v (.list [.int 1, .int a])), some (.v (.list [.int 0, .int 1])), none, none, none, none, none, none, none], ?_, ?_⟩
  · walk_at "dl"
    rw [show atI (PyData.int a :: r.map PyData.int) 0 = some (PyData.int a) from atI_nat (j := 0) rfl]
    exact ⟨lineOk_small (by decide), lineOk_small (by decide), rfl⟩
  rintro env rfl
  refine ⟨fun env => ∃ x11 h0 h1 k0 k1, Conv (cf (a :: r)) [] h0 h1 k0 k1 ∧ env = [some (.scr ns), some .st, x2, x3, x4, x5, x6, x7, x8, some (.v (.list ((a :: r).map PyData.int))), some (.v (encR (cf (a :: r)))), x11, some (.v (.list [.int h0, .int h1])), some (.v (.list [.int k0, .int k1])), none, none, none, none, none, none, none], ?_, ?_⟩
  · walk_at "dl"
    rw [show cutD (PyData.int a :: r.map PyData.int) (some 1) none = r.map PyData.int from cut_tail (a :: r) l0]
    refine ⟨fun k env => ∃ x11 h0 h1 k0 k1, Conv (cf (a :: r)) (r.drop k) h0 h1 k0 k1 ∧ env = [some (.scr ns), some .st, x2, x3, x4, x5, x6, x7, x8, some (.v (.list ((a :: r).map PyData.int))), some (.v (encR (cf (a :: r)))), x11, some (.v (.list [.int h0, .int h1])), some (.v (.list [.int k0, .int k1])), none, none, none, none, none, none, none], ⟨_, _, _, _, _, conv_start a r, rfl⟩, ?_, ?_⟩
    · rintro k env d ⟨x11, h0, h1, k0, k1, cv, rfl⟩ hd
      rw [List.getElem?_map] at hd
      obtain ⟨b, hb, rfl⟩ := Option.map_eq_some_iff.mp hd
      obtain ⟨hk, e⟩ := List.getElem?_eq_some_iff.mp hb
      rw [List.drop_eq_getElem_cons hk, e] at cv
      have mem : b ∈ r := by rw [← e]; exact List.getElem_mem _
      have hb9 := la b (List.mem_cons_of_mem _ mem)
      walk_at "dl"
      refine ⟨mulSmallL (by omega), lineOk_small (by decide), ?_⟩
      refine ⟨mulSmallL (by omega), lineOk_small (by decide), ?_⟩
      exact ⟨_, _, _, _, _, conv_step hb9.1 (fun q hq => (la q (List.mem_cons_of_mem _ (List.mem_of_mem_drop hq))).1) cv, rfl⟩
    · rintro env ⟨x11, h0, h1, k0, k1, cv, rfl⟩
      rw [List.length_map, List.drop_length] at cv
      exact ⟨_, _, _, _, _, cv, rfl⟩
  rintro env ⟨x11, h0, h1, k0, k1, cv, rfl⟩
  obtain ⟨ee, kp, kg⟩ := conv_end cv
  have sz1 := sz_cf _ la
  rw [ee]
  have klog : k1.natAbs.log2 < 9000 := by
    have h2 := sz1.2
    have e2 : (((cf (a :: r)).den : Nat) : Int) = k1 := by
      have := ee
      unfold encR at this
      injection this with this
      injection this with _ this
      injection this with this
      injection this
    rw [← e2, Int.natAbs_natCast]
    exact Nat.lt_of_lt_of_le (log2_of h2 (by omega)) (by omega)
  refine ⟨fun env => ∃ x2 x3 x4 x5 x6 x7 x8 x9 x10 x11 x12 x13, env = [some (.scr ns), some .st, x2, x3, x4, x5, x6, x7, x8, x9, x10, x11, x12, x13, none, none, none, none, none, none, none], ?_, ?_⟩
  · walk_at "dl"
    refine ⟨lineOk_small (by decide), sm _ _ (dueP _ _) ?_⟩
    walk_at "dl"
    refine ⟨h1, k1, rfl, klog, ?_⟩
    rw [decide_eq_true ⟨kp, kg⟩]
    walk_at "dl"
    refine sm _ _ (dB true) ?_
    walk_at "dl"
    exact ⟨_, _, _, _, _, _, _, _, _, _, _, _, rfl⟩
  rintro env ⟨x2, x3, x4, x5, x6, x7, x8, x9, x10, x11, x12, x13, rfl⟩
  -- great numbers
  refine ⟨fun env => ∃ f : Int, 2 ≤ f ∧ f.natAbs < 2 ^ 31 ∧ env = [some (.scr ns), some .st, x2, x3, x4, x5, x6, x7, x8, x9, x10, x11, x12, x13, some (.v (.int f)), none, none, none, none, none, none], ?_, ?_⟩
  · walk_at "dl"
    refine ⟨⟨by decide, by decide, by decide⟩, tk _ _ (by decide) (by decide) fun x hx0 hx1 => ?_⟩
    walk_at "dl"
    exact ⟨2 + x, by omega, by rw [show (2 : Nat) ^ 31 = 2147483648 by decide]; omega, rfl⟩
  rintro env ⟨f, f0, f1, rfl⟩
  refine ⟨fun env => ∃ x15, ∃ f : Int, 2 ≤ f ∧ f.natAbs < 2 ^ 2000 ∧ env = [some (.scr ns), some .st, x2, x3, x4, x5, x6, x7, x8, x9, x10, x11, x12, x13, some (.v (.int f)), x15, none, none, none, none, none], ?_, ?_⟩
  · walk_at "dl"
    refine tk 2 _ (by decide) (by decide) fun x hx0 hx1 => ?_
    refine ⟨mulSmallL (by decide), ⟨by omega, by omega⟩, fun k env => ∃ x15, ∃ f : Int, 2 ≤ f ∧ f.natAbs < 2 ^ (32 * 2 ^ k - 1) ∧ env = [some (.scr ns), some .st, x2, x3, x4, x5, x6, x7, x8, x9, x10, x11, x12, x13, some (.v (.int f)), x15, none, none, none, none, none], ⟨_, f, f0, f1, rfl⟩, ?_, ?_⟩
    · rintro k env d ⟨x15, f, f0, f1, rfl⟩ hd
      obtain ⟨hk, rfl⟩ := rngD_get hd
      have hk5 : k < 5 := by omega
      have e32 : 32 * 2 ^ (k + 1) - 1 = (32 * 2 ^ k - 1) + (32 * 2 ^ k - 1) + 1 := by
        have : 0 < 2 ^ k := Nat.two_pow_pos k
        rw [Nat.pow_succ]; omega
      have hff : 2 * 2 ≤ f * f := Int.mul_le_mul f0 f0 (by decide) (by omega)
      have hlt : (f * f + 1).natAbs < 2 ^ (32 * 2 ^ (k + 1) - 1) := by
        have h1 := mul_lt f1 f1
        rw [← Int.natAbs_mul] at h1
        rw [e32, Nat.pow_succ]
        generalize 2 ^ (32 * 2 ^ k - 1 + (32 * 2 ^ k - 1)) = P at h1 ⊢
        omega
      have kb : 2 ^ k ≤ 16 := Nat.pow_le_pow_right (by decide) (show k ≤ 4 by omega)
      walk_at "dl"
      exact ⟨mulOk f1 f1 (by omega), _, f * f + 1, by omega, hlt, rfl⟩
    · rintro env ⟨x15, f, f0, f1, rfl⟩
      rw [rngD_length] at f1
      refine ⟨_, f, f0, Nat.lt_of_lt_of_le f1 ?_, rfl⟩
      have : 2 ^ (5 * x).toNat ≤ 2 ^ 5 := Nat.pow_le_pow_right (by decide) (by omega)
      exact Nat.pow_le_pow_right (by decide) (by omega)
  rintro env ⟨x15, f, f0, f1, rfl⟩
  have fn := f1
  refine ⟨fun env => ∃ u v : Int, 1 ≤ u ∧ u ≤ 1000000 ∧ 1 ≤ v ∧ v ≤ 1000000 ∧ env = [some (.scr ns), some .st, x2, x3, x4, x5, x6, x7, x8, x9, x10, x11, x12, x13, some (.v (.int f)), x15, some (.v (.int u)), some (.v (.int v)), none, none, none], ?_, ?_⟩
  · walk_at "dl"
    refine ⟨⟨by decide, by decide, by decide⟩, tk _ _ (by decide) (by decide) fun x hx0 hx1 => ?_⟩
    walk_at "dl"
    refine ⟨⟨by decide, by decide, by decide⟩, tk _ _ (by decide) (by decide) fun y hy0 hy1 => ?_⟩
    walk_at "dl"
    exact ⟨1 + x, 1 + y, by omega, by omega, by omega, by omega, rfl⟩
  rintro env ⟨u, v, u0, u1, v0, v1, rfl⟩
  refine ⟨fun env => env = [some (.scr ns), some .st, x2, x3, x4, x5, x6, x7, x8, x9, x10, x11, x12, x13, some (.v (.int f)), x15, some (.v (.int u)), some (.v (.int v)), some (.v (.int (Int.gcd u v))), none, none], ?_, ?_⟩
  · walk_at "dl"
    exact ⟨u, v, rfl, rfl⟩
  rintro env rfl
  have g0 := gcd_ne (n := u) (d := v) (by omega)
  have gl := gcd_log2 (n := u) (d := v) (by omega) (log2_small (by omega))
  refine ⟨fun env => ∃ x18, ∃ u v : Int, 1 ≤ u ∧ u ≤ 1000000 ∧ 1 ≤ v ∧ v ≤ 1000000 ∧ Int.gcd u v = 1 ∧ env = [some (.scr ns), some .st, x2, x3, x4, x5, x6, x7, x8, x9, x10, x11, x12, x13, some (.v (.int f)), x15, some (.v (.int u)), some (.v (.int v)), x18, none, none], ?_, ?_⟩
  · walk_at "dl"
    have gp : (0 : Int) < ((Int.gcd u v : Nat) : Int) := by omega
    simp only [if_pos gp]
    have du := Int.gcd_dvd_left u v
    have dv := Int.gcd_dvd_right u v
    refine ⟨by omega, gl, by omega, gl, _, u / (Int.gcd u v : Int), v / (Int.gcd u v : Int), ?_, ?_, ?_, ?_, ?_, rfl⟩
    · exact Int.ediv_pos_of_pos_of_dvd (by omega) (by omega) du
    · exact Int.le_trans (Int.ediv_le_self _ (by omega)) u1
    · exact Int.ediv_pos_of_pos_of_dvd (by omega) (by omega) dv
    · exact Int.le_trans (Int.ediv_le_self _ (by omega)) v1
    · have := Int.gcd_ediv_gcd_ediv_gcd (i := u) (j := v) (by omega)
      exact this
  clear g0 gl
  clear u0 u1 v0 v1
  rintro env ⟨x18, u, v, u0, u1, v0, v1, co, rfl⟩
  refine ⟨fun env => ∃ s o : Int, (s = 1 ∨ s = -1) ∧ (o = 1 ∨ o = -1) ∧ env = [some (.scr ns), some .st, x2, x3, x4, x5, x6, x7, x8, x9, x10, x11, x12, x13, some (.v (.int f)), x15, some (.v (.int u)), some (.v (.int v)), x18, some (.v (.int s)), some (.v (.int o))], ?_, ?_⟩
  · walk_at "dl"
    refine tk 2 _ (by decide) (by decide) fun x hx0 hx1 => ?_
    walk_at "dl"
    refine ⟨mulSmallL (by decide), tk 2 _ (by decide) (by decide) fun y hy0 hy1 => ?_⟩
    walk_at "dl"
    exact ⟨mulSmallL (by decide), 1 - 2 * x, 1 - 2 * y, by omega, by omega, rfl⟩
  rintro env ⟨s, o, hs, ho, rfl⟩
  have vfl : ∀ q : Int, q.natAbs < 2 ^ 2020 → q.natAbs.log2 < 9000 := fun q h => Nat.lt_of_lt_of_le (log2_of h (by decide)) (by decide)
  have v20 : v.natAbs < 2 ^ 20 := by rw [show (2 : Nat) ^ 20 = 1048576 by decide]; omega
  have u20 : u.natAbs < 2 ^ 20 := by rw [show (2 : Nat) ^ 20 = 1048576 by decide]; omega
  have vf : (v * f).natAbs < 2 ^ 2020 := by rw [Int.natAbs_mul]; exact mul_lt v20 fn
  have mo : ∀ {i j : Int}, i.natAbs < 2 ^ 20 → IntMulOk i j := fun h => mulSmallL (Nat.lt_trans h (by decide))
  have sn : s.natAbs < 2 ^ 20 := Nat.lt_of_le_of_lt (show s.natAbs ≤ 1 by omega) (by decide)
  have on : o.natAbs < 2 ^ 20 := Nat.lt_of_le_of_lt (show o.natAbs ≤ 1 by omega) (by decide)
  have sun : (s * u).natAbs < 2 ^ 20 := by rcases hs with rfl | rfl <;> omega
  have ovn : (o * v).natAbs < 2 ^ 20 := by rcases ho with rfl | rfl <;> omega
  have e1 : encR (Rat.divInt (s * u * f) (o * v * f)) = .tuple [.int (s * o * u), .int v] := by
    have gc : Int.gcd (s * o * u) v = 1 := by
      rcases hs with rfl | rfl <;> rcases ho with rfl | rfl <;> simp <;> exact co
    rw [← enc_cop (by omega) gc]
    congr 1
    simp only [Rat.divInt_eq_div, Rat.intCast_mul]
    have hf := cast_ne (show f ≠ 0 by omega)
    have hv := cast_ne (show v ≠ 0 by omega)
    rcases ho with rfl | rfl
    · have : ((1 : Int) : Rat) = 1 := rfl
      grind
    · have : ((-1 : Int) : Rat) = -1 := rfl
      grind
  refine ⟨fun env => env = [some (.scr ns), some .st, x2, x3, x4, x5, x6, x7, x8, x9, x10, x11, x12, x13, some (.v (.int f)), x15, some (.v (.int u)), some (.v (.int v)), x18, some (.v (.int s)), some (.v (.int o))], ?_, ?_⟩
  · walk_at "dl"
    have hne : o * v * f ≠ 0 := Int.mul_ne_zero (Int.mul_ne_zero (by omega) (by omega)) (by omega)
    refine ⟨mo sn, mo sun, mo on, mo ovn, s * u * f, o * v * f, rfl, hne, vfl _ (by rw [Int.natAbs_mul]; exact mul_lt ovn fn), ?_⟩
    rw [e1]
    walk_at "dl"
    refine ⟨mo sn, mulSmallR (Nat.lt_trans u20 (by decide)), lineOk_small (by decide), sm _ _ (dueP _ _) ?_⟩
    walk_at "dl"
  rintro env rfl
  have gsu : Int.gcd (s * u) v = 1 := by
    rcases hs with rfl | rfl <;> simp <;> exact co
  have gff : ¬ (0 < v * f ∧ Int.gcd (u * f) (v * f) = 1) := by
    rintro ⟨_, h⟩
    rw [Int.gcd_mul_right, co] at h
    omega
  refine ⟨fun env => env = [some (.scr ns), some .st, x2, x3, x4, x5, x6, x7, x8, x9, x10, x11, x12, x13, some (.v (.int f)), x15, some (.v (.int u)), some (.v (.int v)), x18, some (.v (.int s)), some (.v (.int o))], ?_, ?_⟩
  · walk_at "dl"
    refine ⟨mo u20, mo v20, lineOk_small (by decide), u * f, v * f, rfl, vfl _ vf, ?_⟩
    rw [decide_eq_false gff]
    walk_at "dl"
    refine sm _ _ (dB _) ?_
    walk_at "dl"
    refine ⟨mo sn, lineOk_small (by decide), s * u, v, rfl, log2_small (by omega), ?_⟩
    rw [decide_eq_true ⟨by omega, gsu⟩]
    walk_at "dl"
    refine sm _ _ (dB _) ?_
    walk_at "dl"
  rintro env rfl
  refine ⟨fun env => env = [some (.scr ns), some .st, x2, x3, x4, x5, x6, x7, x8, x9, x10, x11, x12, x13, some (.v (.int f)), x15, some (.v (.int u)), some (.v (.int v)), x18, some (.v (.int s)), some (.v (.int o))], ?_, ?_⟩
  · walk_at "dl"
    refine ⟨lineOk_small (by decide), u, -v, rfl, log2_small (by omega), ?_⟩
    rw [decide_eq_false (by omega)]
    walk_at "dl"
    refine sm _ _ (dB _) ?_
    walk_at "dl"
    refine ⟨lineOk_small (by decide), u, 0, rfl, by decide, ?_⟩
    rw [decide_eq_false (by omega)]
    walk_at "dl"
    refine sm _ _ (dB _) ?_
    walk_at "dl"
  rintro env rfl
  walk_at "dl"
  refine ⟨0, rfl, .inl rfl, ?_⟩
  walk_at "dl"
  refine ⟨1, rfl, .inr rfl, ?_⟩
  walk_at "dl"
  refine ⟨0, -v, rfl, by omega, log2_small (by omega), ?_⟩
  have e0 : Rat.divInt 0 (-v) = 0 := by rw [Rat.divInt_eq_div, Rat.div_def]; exact Rat.zero_mul _
  rw [e0]
  walk_at "dl"
  exact ⟨lineOk_small (by decide), sm (encR 0) _ (dueR 0) hq⟩
end DL
/-! ## L38 -/
set_option Elab.async false
set_option linter.all false
set_option maxRecDepth 100000
set_option maxHeartbeats 4000000
namespace Law
open PySem L2 RZ RT PyProof.Rows DL
local macro_rules | `(tactic| walk_at "dl") => `(tactic| simp only [↓pSeq_ap, ↓pSet_ap, ↓pSetF_ap, ↓pRet_ap, ↓pRetF_ap, ↓pRetVar_ap, ↓pRetN_ap, ↓pIfS_ap, ↓pPar_ap, ↓pNext_ap, ↓pNever_ap, ↓pTgt_ap, ↓pDrop_ap, ↓pVar_ap, ↓pVarB_ap, ↓pC_ap, ↓pOp_ap, ↓pOpF_ap, ↓pUn_ap, ↓pFz_eq, ↓frz_v, ↓frz_own, ↓frz_ownD, ↓pV_ap, ↓pTest_ap, ↓pAnd_ap, ↓pOr_ap, ↓pNot_ap, ↓pIf_ap, ↓pAndV_ap, ↓pOrV_ap, ↓pNotV_ap, ↓pNil_ap, ↓pCons_ap, ↓aNil_ap, ↓aCons_ap, ↓aSlot_ap, ↓pTup_ap, ↓pLst_ap, ↓pB_ap, ↓pBF_ap, ↓pCall_ap, ↓pIsi_ap, ↓pIsN_ap, ↓pNotN_ap, ↓pSt_ap, ↓pSetSt_ap, ↓pLenS_ap, ↓pIxS_ap, ↓pFor_ap, ↓pIter_ap, ↓pRange1_ap, ↓pRange2_ap, ↓gItems, pgName, slot_z, slot_s, set_z, set_s, ↓gI, ↓gMinus, ↓gMod, ↓gFdiv, ↓gPow, ↓gLt, ↓gLe, ↓gGt, ↓gGe, ↓gNeg, ↓gAdd, ↓gMul, ↓gIx, ↓gEq, ↓gNe, ↓gLen, ↓gAbs, ↓gIntOf, ↓gTupOf, ↓gLstOf, DL.isInt, DL.isBool, DL.isStr, DL.isList, DL.isTuple, DL.isDict, DL.isNone, eqb_int, eqb_bool, eqb_str, eqb_self, List.length, List.replicate, List.map, List.append, List.cons_append, List.nil_append, Bool.not_true, Bool.not_false, if_true, if_false, Bool.false_eq_true, ite_true, ite_false, reduceIte, Int.reduceLT, Int.reduceLE, Int.reduceEq, Int.reduceNe, Int.reduceAdd, Int.reduceSub, Int.reduceMul, Int.reduceNeg, Int.reduceToNat, Int.reducePow, Nat.reduceAdd, Nat.reduceSub, ne_eq, not_false_eq_true, not_true_eq_false, decide_true, decide_false, and_true, true_and, ↓pRev_ap, ↓pZip_ap, ↓pSl_ap, ↓pNoPart_ap, ↓pPart_ap, ↓pFreeze_ap, ↓pApp_ap, ↓pExt_ap, ↓pPop_ap, ↓pSetIx_ap, ↓pBreak_ap, ↓pCont_ap, ↓pYes_ap, ↓pLc_ap, ↓gSl, wipeE, pgTup, pgCons, pgNil, atL1_0, atL2_0, atL2_1, atL3_0, atL3_1, atL3_2])
def top (i : Nat) : Stmt := PySem.Challenge.pw_unswapped_k38_fractions_that_fold_togeth.main.body.getD i (.Pass ⟨0, 0, 0, 0⟩)
abbrev s_divisor : Stmt := top 4
abbrev s_ratio : Stmt := top 5
abbrev s_is_whole : Stmt := top 6
abbrev s_is_ratio : Stmt := top 7
abbrev s_plus : Stmt := top 8
abbrev s_minus : Stmt := top 9
abbrev s_times : Stmt := top 10
abbrev s_over : Stmt := top 11
abbrev s_law_cell : Stmt := top 13
abbrev s_law_big : Stmt := top 14
abbrev s_law_take : Stmt := top 15
abbrev s_law_same : Stmt := top 16
abbrev s_law_divisor : Stmt := top 17
abbrev s_law_ratio : Stmt := top 18
abbrev s_law_refused : Stmt := top 19
abbrev s_law : Stmt := top 20
structure Top (K : PySem.W.Frag) (mg : Str → Option Value) : Prop where
  n_abs : mg "abs" = none
  n_bool : mg "bool" = none
  n_dict : mg "dict" = none
  n_int : mg "int" = none
  n_isinstance : mg "isinstance" = none
  n_len : mg "len" = none
  n_list : mg "list" = none
  n_range : mg "range" = none
  n_reversed : mg "reversed" = none
  n_str : mg "str" = none
  n_tuple : mg "tuple" = none
  exc : ∃ C U, ExcT K mg "NoInverse" "UnswappedError" C U
theorem topOf {K : PySem.W.Frag} {mg : Str → Option Value} {h : Heap} (_ : K.In h) (n_abs : mg "abs" = none) (n_bool : mg "bool" = none) (n_dict : mg "dict" = none) (n_int : mg "int" = none) (n_isinstance : mg "isinstance" = none) (n_len : mg "len" = none) (n_list : mg "list" = none) (n_range : mg "range" = none) (n_reversed : mg "reversed" = none) (n_str : mg "str" = none) (n_tuple : mg "tuple" = none) (exc : ∃ C U, ExcT K mg "NoInverse" "UnswappedError" C U) : Top K mg := ⟨n_abs, n_bool, n_dict, n_int, n_isinstance, n_len, n_list, n_range, n_reversed, n_str, n_tuple, exc⟩
section
variable {P : Program} {w : World} {K : PySem.W.Frag} {mg : Str → Option Value} {base : Heap}
theorem sc_divisor : FnScope ["one", "two"] ["one", "two"] (defScope s_divisor) := ⟨rfl, rfl, rfl, by decide +kernel, rfl, by decide +kernel, by decide +kernel⟩
theorem cal_divisor (T : Top K mg) (d : Def K mg "divisor" s_divisor ["one", "two"])  : Callee P w K mg base 1 "divisor" G_divisor :=
  callee_of d fun f fd F => def_ok (Fb := B_divisor) G_divisor F sc_divisor (fun cdv A outer s H E hr => ⟨_,
  (dss_cons (ds_par 0 1 sc_divisor.nd (des_cons (de_callB call_abs pc_abs T.n_abs (dbs_cons (db_var 0) dbs_nil)) (des_cons (de_callB call_abs pc_abs T.n_abs (dbs_cons (db_var 1) dbs_nil)) des_nil)))
    (dss_cons (ds_while PassesOwn.never (dt_cmp (op_neP hr.units) pr_ne (db_var 1) (DE.db de_int) (nomark _)) (dss_one (ds_par 0 1 sc_divisor.nd (des_cons (de_var 1) (des_cons (de_op op_modN pr_mod (db_var 0) (db_var 1)) des_nil)))))
    (dss_one (ds_retVar 0))))⟩) pure_divisor
theorem sc_ratio : FnScope ["numerator", "denominator", "common"] ["numerator", "denominator"] (defScope s_ratio) := ⟨rfl, rfl, rfl, by decide +kernel, rfl, by decide +kernel, by decide +kernel⟩
theorem cal_ratio (T : Top K mg) (d : Def K mg "ratio" s_ratio ["numerator", "denominator"]) (c_divisor : Callee P w K mg base 1 "divisor" G_divisor) : Callee P w K mg base 2 "ratio" G_ratio :=
  callee_of d fun f fd F => def_ok (Fb := B_ratio) G_ratio F sc_ratio (fun cdv A outer s H E hr => ⟨_,
  (dss_cons (ds_if (dt_cmp (op_eqP hr.units) pr_eq (db_var 1) (DE.db de_int) (nomark _)) (dss_one ds_never) dss_nil)
    (dss_cons (ds_set 2 sc_ratio.nd (DF.de (df_call c_divisor hr (by decide) (da_cons (de_var 0) (da_cons (de_var 1) da_nil)))))
    (dss_cons (ds_if (dt_cmp op_lt pr_lt (db_var 1) (DE.db de_int) (nomark _)) (dss_one (ds_set 2 sc_ratio.nd (de_un un_neg pu_neg (db_var 2)))) dss_nil)
    (dss_one (ds_ret (de_tup (des_cons (de_op op_fdivA pr_fdiv (db_var 0) (db_var 2)) (des_cons (de_op op_fdivA pr_fdiv (db_var 1) (db_var 2)) des_nil))))))))⟩) pure_ratio
theorem sc_is_whole : FnScope ["number"] ["number"] (defScope s_is_whole) := ⟨rfl, rfl, rfl, by decide +kernel, rfl, by decide +kernel, by decide +kernel⟩
theorem cal_is_whole (T : Top K mg) (d : Def K mg "is_whole" s_is_whole ["number"])  : Callee P w K mg base 1 "is_whole" G_is_whole :=
  callee_of d fun f fd F => def_ok (Fb := B_is_whole) G_is_whole F sc_is_whole (fun cdv A outer s H E hr => ⟨_,
  (dss_one (ds_ret (de_and (de_isi is_int T.n_isinstance T.n_int (db_var 0)) (de_one (de_not (de_isi is_bool T.n_isinstance T.n_bool (db_var 0)))))))⟩) pure_is_whole
theorem sc_is_ratio : FnScope ["pair"] ["pair"] (defScope s_is_ratio) := ⟨rfl, rfl, rfl, by decide +kernel, rfl, by decide +kernel, by decide +kernel⟩
theorem cal_is_ratio (T : Top K mg) (d : Def K mg "is_ratio" s_is_ratio ["pair"]) (c_divisor : Callee P w K mg base 1 "divisor" G_divisor) (c_is_whole : Callee P w K mg base 1 "is_whole" G_is_whole) : Callee P w K mg base 2 "is_ratio" G_is_ratio :=
  callee_of d fun f fd F => def_ok (Fb := B_is_ratio) G_is_ratio F sc_is_ratio (fun cdv A outer s H E hr => ⟨_,
  (dss_cons (ds_if (DW.dt (dw_or (dt_not (dt_val (de_isi is_tuple T.n_isinstance T.n_tuple (db_var 0)))) (dw_or (dt_cmp (op_neP hr.units) pr_ne (DE.db (de_callB call_len pc_len T.n_len (dbs_cons (db_var 0) dbs_nil))) (DE.db de_int) (nomark _)) (dw_or (dt_not (dt_val (DF.de (df_call c_is_whole hr (by decide) (da_cons (de_ix (db_var 0) (DE.db de_int)) da_nil))))) (dw_or1 (dt_not (dt_val (DF.de (df_call c_is_whole hr (by decide) (da_cons (de_ix (db_var 0) (DE.db de_int)) da_nil)))))))))) (dss_one (ds_ret de_bl)) dss_nil)
    (dss_one (ds_ret (de_and (de_cmp op_gt pr_gt (DE.db (de_ix (db_var 0) (DE.db de_int))) (DE.db de_int) (nomark _)) (de_one (de_cmp (op_eqP hr.units) pr_eq (DE.db (DF.de (df_call c_divisor hr (by decide) (da_cons (de_ix (db_var 0) (DE.db de_int)) (da_cons (de_ix (db_var 0) (DE.db de_int)) da_nil))))) (DE.db de_int) (nomark _)))))))⟩) pure_is_ratio
theorem sc_plus : FnScope ["one", "two"] ["one", "two"] (defScope s_plus) := ⟨rfl, rfl, rfl, by decide +kernel, rfl, by decide +kernel, by decide +kernel⟩
theorem cal_plus (T : Top K mg) (d : Def K mg "plus" s_plus ["one", "two"]) (c_ratio : Callee P w K mg base 2 "ratio" G_ratio) : Callee P w K mg base 3 "plus" G_plus :=
  callee_of d fun f fd F => def_ok (Fb := B_plus) G_plus F sc_plus (fun cdv A outer s H E hr => ⟨_,
  (dss_cons (ds_if (DW.dt (dw_and (dt_cmp (op_eqP hr.units) pr_eq (DE.db (de_ix (db_var 0) (DE.db de_int))) (DE.db de_int) (nomark _)) (dw_and1 (dt_cmp (op_eqP hr.units) pr_eq (DE.db (de_ix (db_var 1) (DE.db de_int))) (DE.db de_int) (nomark _))))) (dss_one (ds_ret (de_tup (des_cons (DF.de (df_op op_addA pr_add (DE.db (de_ix (db_var 0) (DE.db de_int))) (DE.db (de_ix (db_var 1) (DE.db de_int))))) (des_cons de_int des_nil))))) dss_nil)
    (dss_one (ds_ret (DF.de (df_call c_ratio hr (by decide) (da_cons (DF.de (df_op op_addA pr_add (DE.db (DF.de (df_op op_mulA pr_mul (DE.db (de_ix (db_var 0) (DE.db de_int))) (DE.db (de_ix (db_var 1) (DE.db de_int)))))) (DE.db (DF.de (df_op op_mulA pr_mul (DE.db (de_ix (db_var 1) (DE.db de_int))) (DE.db (de_ix (db_var 0) (DE.db de_int)))))))) (da_cons (DF.de (df_op op_mulA pr_mul (DE.db (de_ix (db_var 0) (DE.db de_int))) (DE.db (de_ix (db_var 1) (DE.db de_int))))) da_nil)))))))⟩) pure_plus
theorem sc_minus : FnScope ["one", "two"] ["one", "two"] (defScope s_minus) := ⟨rfl, rfl, rfl, by decide +kernel, rfl, by decide +kernel, by decide +kernel⟩
theorem cal_minus (T : Top K mg) (d : Def K mg "minus" s_minus ["one", "two"]) (c_ratio : Callee P w K mg base 2 "ratio" G_ratio) : Callee P w K mg base 3 "minus" G_minus :=
  callee_of d fun f fd F => def_ok (Fb := B_minus) G_minus F sc_minus (fun cdv A outer s H E hr => ⟨_,
  (dss_cons (ds_if (DW.dt (dw_and (dt_cmp (op_eqP hr.units) pr_eq (DE.db (de_ix (db_var 0) (DE.db de_int))) (DE.db de_int) (nomark _)) (dw_and1 (dt_cmp (op_eqP hr.units) pr_eq (DE.db (de_ix (db_var 1) (DE.db de_int))) (DE.db de_int) (nomark _))))) (dss_one (ds_ret (de_tup (des_cons (de_op op_sub pr_sub (DE.db (de_ix (db_var 0) (DE.db de_int))) (DE.db (de_ix (db_var 1) (DE.db de_int)))) (des_cons de_int des_nil))))) dss_nil)
    (dss_one (ds_ret (DF.de (df_call c_ratio hr (by decide) (da_cons (de_op op_sub pr_sub (DE.db (DF.de (df_op op_mulA pr_mul (DE.db (de_ix (db_var 0) (DE.db de_int))) (DE.db (de_ix (db_var 1) (DE.db de_int)))))) (DE.db (DF.de (df_op op_mulA pr_mul (DE.db (de_ix (db_var 1) (DE.db de_int))) (DE.db (de_ix (db_var 0) (DE.db de_int))))))) (da_cons (DF.de (df_op op_mulA pr_mul (DE.db (de_ix (db_var 0) (DE.db de_int))) (DE.db (de_ix (db_var 1) (DE.db de_int))))) da_nil)))))))⟩) pure_minus
theorem sc_times : FnScope ["one", "two"] ["one", "two"] (defScope s_times) := ⟨rfl, rfl, rfl, by decide +kernel, rfl, by decide +kernel, by decide +kernel⟩
theorem cal_times (T : Top K mg) (d : Def K mg "times" s_times ["one", "two"]) (c_ratio : Callee P w K mg base 2 "ratio" G_ratio) : Callee P w K mg base 3 "times" G_times :=
  callee_of d fun f fd F => def_ok (Fb := B_times) G_times F sc_times (fun cdv A outer s H E hr => ⟨_,
  (dss_cons (ds_if (DW.dt (dw_and (dt_cmp (op_eqP hr.units) pr_eq (DE.db (de_ix (db_var 0) (DE.db de_int))) (DE.db de_int) (nomark _)) (dw_and1 (dt_cmp (op_eqP hr.units) pr_eq (DE.db (de_ix (db_var 1) (DE.db de_int))) (DE.db de_int) (nomark _))))) (dss_one (ds_ret (de_tup (des_cons (DF.de (df_op op_mulA pr_mul (DE.db (de_ix (db_var 0) (DE.db de_int))) (DE.db (de_ix (db_var 1) (DE.db de_int))))) (des_cons de_int des_nil))))) dss_nil)
    (dss_one (ds_ret (DF.de (df_call c_ratio hr (by decide) (da_cons (DF.de (df_op op_mulA pr_mul (DE.db (de_ix (db_var 0) (DE.db de_int))) (DE.db (de_ix (db_var 1) (DE.db de_int))))) (da_cons (DF.de (df_op op_mulA pr_mul (DE.db (de_ix (db_var 0) (DE.db de_int))) (DE.db (de_ix (db_var 1) (DE.db de_int))))) da_nil)))))))⟩) pure_times
theorem sc_over : FnScope ["one", "two"] ["one", "two"] (defScope s_over) := ⟨rfl, rfl, rfl, by decide +kernel, rfl, by decide +kernel, by decide +kernel⟩
theorem cal_over (T : Top K mg) (d : Def K mg "over" s_over ["one", "two"]) (c_ratio : Callee P w K mg base 2 "ratio" G_ratio) : Callee P w K mg base 3 "over" G_over :=
  callee_of d fun f fd F => def_ok (Fb := B_over) G_over F sc_over (fun cdv A outer s H E hr => ⟨_,
  (dss_one (ds_ret (DF.de (df_call c_ratio hr (by decide) (da_cons (DF.de (df_op op_mulA pr_mul (DE.db (de_ix (db_var 0) (DE.db de_int))) (DE.db (de_ix (db_var 1) (DE.db de_int))))) (da_cons (DF.de (df_op op_mulA pr_mul (DE.db (de_ix (db_var 0) (DE.db de_int))) (DE.db (de_ix (db_var 1) (DE.db de_int))))) da_nil))))))⟩) pure_over
theorem sc_law_cell : FnScope ["script", "k", "cell"] ["script", "k"] (defScope s_law_cell) := ⟨rfl, rfl, rfl, by decide +kernel, rfl, by decide +kernel, by decide +kernel⟩
theorem cal_law_cell (T : Top K mg) (d : Def K mg "_law_cell" s_law_cell ["script", "k"])  : Callee P w K mg base 1 "_law_cell" G_law_cell :=
  callee_of d fun f fd F => def_ok (Fb := B_law_cell) G_law_cell F sc_law_cell (fun cdv A outer s H E hr => ⟨_,
  (dss_cut (ds_if (DW.dt (dw_and (dt_cmp op_lt pr_lt (db_var 1) (DE.db (de_lenS 0 T.n_len)) (nomark _)) (dw_and1 (dt_cmp op_ge pr_ge (DE.db (de_ixS 0 (de_var 1))) (DE.db (de_op op_pow pr_pow (DE.db de_int) (DE.db de_int))) (nomark _))))) (dss_one (ds_ret (de_ixS 0 (de_var 1)))) dss_nil)
    (dss_cut (ds_set 2 sc_law_cell.nd (DF.de (df_op op_addA pr_add (DE.db (DF.de (df_op op_mulA pr_mul (DE.db de_int) (db_var 1)))) (DE.db de_int))))
    (dss_cut (ds_if (dt_cmp op_gt pr_gt (DE.db (de_lenS 0 T.n_len)) (DE.db de_int) (nomark _)) (dss_one (ds_set 2 sc_law_cell.nd (DF.de (df_op op_addA pr_add (db_var 2) (DE.db (DF.de (df_op op_mulA pr_mul (DE.db de_int) (DE.db (de_ixS 0 (de_op op_modN pr_mod (DE.db (de_callTy call_int1 pc_int T.n_int (dbs_cons (db_var 1) dbs_nil))) (DE.db (de_lenS 0 T.n_len)))))))))))) dss_nil)
    (dss_cut (ds_set 2 sc_law_cell.nd (de_op op_modN pr_mod (DE.db (de_callTy call_int1 pc_int T.n_int (dbs_cons (DE.db (DF.de (df_op op_addA pr_add (DE.db (DF.de (df_op op_mulA pr_mul (db_var 2) (DE.db de_int)))) (DE.db (DF.de (df_op op_mulA pr_mul (DE.db de_int) (db_var 1))))))) dbs_nil))) (DE.db de_int)))
    (dss_one (ds_ret (de_op op_modN pr_mod (DE.db (de_callTy call_int1 pc_int T.n_int (dbs_cons (DE.db (DF.de (df_op op_addA pr_add (DE.db (DF.de (df_op op_mulA pr_mul (db_var 2) (db_var 2)))) (DE.db (DF.de (df_op op_mulA pr_mul (DE.db de_int) (DE.db (de_op op_fdivA pr_fdiv (db_var 2) (DE.db de_int))))))))) dbs_nil))) (DE.db de_int))))))))⟩) pure_law_cell
theorem sc_law_big : FnScope ["script", "at", "count", "found", "k"] ["script", "at", "count"] (defScope s_law_big) := ⟨rfl, rfl, rfl, by decide +kernel, rfl, by decide +kernel, by decide +kernel⟩
theorem cal_law_big (T : Top K mg) (d : Def K mg "_law_big" s_law_big ["script", "at", "count"]) (c_law_cell : Callee P w K mg base 1 "_law_cell" G_law_cell) : Callee P w K mg base 2 "_law_big" G_law_big :=
  callee_of d fun f fd F => def_ok (Fb := B_law_big) G_law_big F sc_law_big (fun cdv A outer s H E hr => ⟨_,
  (dss_cut (ds_set 3 sc_law_big.nd de_int)
    (dss_cons (ds_for PassesOwn.never (di_range1 (by rfl) T.n_range (de_var 2)) (dg_name 4 sc_law_big.nd) (dss_one (ds_set 3 sc_law_big.nd (DF.de (df_op op_addA pr_add (DE.db (DF.de (df_op op_mulA pr_mul (db_var 3) (DE.db de_int)))) (DE.db (DF.de (df_call c_law_cell hr (by decide) (da_slot 0 (da_cons (DF.de (df_op op_addA pr_add (db_var 1) (db_var 4))) da_nil))))))))))
    (dss_one (ds_retF (df_lst (des_cons (de_var 3) des_nil))))))⟩) pure_law_big
theorem sc_law_take : FnScope ["state", "m", "x"] ["state", "m"] (defScope s_law_take) := ⟨rfl, rfl, rfl, by decide +kernel, rfl, by decide +kernel, by decide +kernel⟩
theorem cal_law_take (T : Top K mg) (d : Def K mg "_law_take" s_law_take ["state", "m"])  : Callee P w K mg base 1 "_law_take" G_law_take :=
  callee_of d fun f fd F => def_ok (Fb := B_law_take) G_law_take F sc_law_take (fun cdv A outer s H E hr => ⟨_,
  (dss_cons (ds_set 2 sc_law_take.nd (de_op op_modN pr_mod (DE.db (de_callTy call_int1 pc_int T.n_int (dbs_cons (DE.db (de_st 0)) dbs_nil))) (db_var 1)))
    (dss_cons (ds_setSt 0 (de_callTy call_int1 pc_int T.n_int (dbs_cons (DE.db (de_op op_fdivA pr_fdiv (DE.db (de_st 0)) (db_var 1))) dbs_nil)) (hpg := pg_sub (pv 0) pe_int set_list))
    (dss_one (ds_retVar 2))))⟩) pure_law_take
theorem sc_law_same : FnScope ["told", "due", "k", "key"] ["told", "due"] (defScope s_law_same) := ⟨rfl, rfl, rfl, by decide +kernel, rfl, by decide +kernel, by decide +kernel⟩
theorem ok_law_same (T : Top K mg) {f : Addr} {fd : FuncData} (F : Fun K "_law_same" "_law_same" s_law_same f fd) (mF : mg "_law_same" = some (.ref f)) (bF : Binds K fd ["told", "due"] [])  : ∀ n : Nat, FnOk P w K mg base CX0 (n + 100) f fd ["told", "due"] (spD K (G_law_same_n n))
  | 0 => def_ok0 G_law_same_0
  | n + 1 => by
    have c_law_same : Callee P w K mg base (n + 100) "_law_same" (G_law_same_n n) := ⟨f, fd, _, ok_law_same T F mF bF  n, mF, F.kp, bF⟩
    exact def_ok (Fb := B_law_same (G_law_same_n n)) (G_law_same_n (n + 1)) F sc_law_same (fun cdv A outer s H E hr => ⟨_,
  (dss_cons (ds_if (DW.dt (dw_or (dt_val (de_isi is_list T.n_isinstance T.n_list (db_var 1))) (dw_or1 (dt_val (de_isi is_tuple T.n_isinstance T.n_tuple (db_var 1)))))) (dss_cons (ds_if (DW.dt (dw_or (DW.dt (dw_and (dt_val (de_isi is_list T.n_isinstance T.n_list (db_var 1))) (dw_and1 (dt_not (dt_val (de_isi is_list T.n_isinstance T.n_list (db_var 0))))))) (dw_or1 (DW.dt (dw_and (dt_val (de_isi is_tuple T.n_isinstance T.n_tuple (db_var 1))) (dw_and1 (dt_not (dt_val (de_isi is_tuple T.n_isinstance T.n_tuple (db_var 0)))))))))) (dss_one (ds_ret de_bl)) dss_nil)
    (dss_cons (ds_if (dt_cmp (op_neP hr.units) pr_ne (DE.db (de_callB call_len pc_len T.n_len (dbs_cons (db_var 0) dbs_nil))) (DE.db (de_callB call_len pc_len T.n_len (dbs_cons (db_var 1) dbs_nil))) (nomark _)) (dss_one (ds_ret de_bl)) dss_nil)
    (dss_one (ds_ret (de_cmp (op_eqP hr.units) pr_eq (DE.db (DF.de (df_lc [("k", 2)] rfl sc_law_same.nd (di_range1 (by rfl) T.n_range (de_callB call_len pc_len T.n_len (dbs_cons (db_var 1) dbs_nil))) (blkOk_by (by show blkC ["told", "due", "k", "key"] (defScope s_law_same) _ _ = true; decide +kernel)) (by decide) (fun _ _ _ _ _ => (dg_name 2 sc_law_same.nd)) (dts_one (dt_not (dt_val (DF.de (df_call c_law_same hr (Nat.le_refl _) (da_cons (de_ix (db_var 0) (db_var 2)) (da_cons (de_ix (db_var 1) (db_var 2)) da_nil))))))) (de_var 2) (fun _ _ _ _ _ => (dts_one (dt_not (dt_val (DF.de (df_call c_law_same hr (Nat.le_refl _) (da_cons (de_ix (db_var 0) (db_var 2)) (da_cons (de_ix (db_var 1) (db_var 2)) da_nil)))))))) (fun _ _ _ _ _ => (de_var 2))))) (DE.db (DF.de (df_lst des_nil))) (nomark _)))))) dss_nil)
    (dss_cons (ds_if (dt_val (de_isi is_dict T.n_isinstance T.n_dict (db_var 1))) dss_never dss_nil)
    (dss_cons (ds_if (dt_isN (db_var 1)) (dss_one (ds_ret (de_isN (db_var 0)))) dss_nil)
    (dss_cons (ds_if (dt_val (de_isi is_bool T.n_isinstance T.n_bool (db_var 1))) (dss_one (ds_ret (de_and (de_isi is_bool T.n_isinstance T.n_bool (db_var 0)) (de_one (de_cmp (op_eqP hr.units) pr_eq (db_var 0) (db_var 1) (nomark _)))))) dss_nil)
    (dss_cons (ds_if (dt_val (de_isi is_str T.n_isinstance T.n_str (db_var 1))) (dss_one (ds_ret (de_and (de_isi is_str T.n_isinstance T.n_str (db_var 0)) (de_one (de_cmp (op_eqP hr.units) pr_eq (db_var 0) (db_var 1) (nomark _)))))) dss_nil)
    (dss_one (ds_ret (de_and (de_isi is_int T.n_isinstance T.n_int (db_var 0)) (de_and (de_not (de_isi is_bool T.n_isinstance T.n_bool (db_var 0))) (de_one (de_cmp (op_eqP hr.units) pr_eq (db_var 0) (db_var 1) (nomark _))))))))))))⟩) (pure_law_same n)
theorem cal_law_same (T : Top K mg) (d : Def K mg "_law_same" s_law_same ["told", "due"])  : Callee P w K mg base 109 "_law_same" G_law_same := by
  obtain ⟨f, fd, F, mF, bF, _⟩ := d.ex
  exact Callee.imp ⟨f, fd, _, ok_law_same T F mF bF  9, mF, F.kp, bF⟩ G_law_same_imp
theorem sc_law_divisor : FnScope ["one", "two"] ["one", "two"] (defScope s_law_divisor) := ⟨rfl, rfl, rfl, by decide +kernel, rfl, by decide +kernel, by decide +kernel⟩
theorem cal_law_divisor (T : Top K mg) (d : Def K mg "_law_divisor" s_law_divisor ["one", "two"])  : Callee P w K mg base 1 "_law_divisor" G_law_divisor :=
  callee_of d fun f fd F => def_ok (Fb := B_law_divisor) G_law_divisor F sc_law_divisor (fun cdv A outer s H E hr => ⟨_,
  (dss_cons (ds_par 0 1 sc_law_divisor.nd (des_cons (de_callB call_abs pc_abs T.n_abs (dbs_cons (db_var 0) dbs_nil)) (des_cons (de_callB call_abs pc_abs T.n_abs (dbs_cons (db_var 1) dbs_nil)) des_nil)))
    (dss_cons (ds_while PassesOwn.never (dt_cmp op_gt pr_gt (db_var 1) (DE.db de_int) (nomark _)) (dss_one (ds_par 0 1 sc_law_divisor.nd (des_cons (de_var 1) (des_cons (de_op op_modN pr_mod (DE.db (de_callTy call_int1 pc_int T.n_int (dbs_cons (db_var 0) dbs_nil))) (db_var 1)) des_nil)))))
    (dss_one (ds_retVar 0))))⟩) pure_law_divisor
theorem sc_law_ratio : FnScope ["top", "low", "divisor_v"] ["top", "low"] (defScope s_law_ratio) := ⟨rfl, rfl, rfl, by decide +kernel, rfl, by decide +kernel, by decide +kernel⟩
theorem cal_law_ratio (T : Top K mg) (d : Def K mg "_law_ratio" s_law_ratio ["top", "low"]) (c_law_divisor : Callee P w K mg base 1 "_law_divisor" G_law_divisor) : Callee P w K mg base 2 "_law_ratio" G_law_ratio :=
  callee_of d fun f fd F => def_ok (Fb := B_law_ratio) G_law_ratio F sc_law_ratio (fun cdv A outer s H E hr => ⟨_,
  (dss_cons (ds_set 2 sc_law_ratio.nd (DF.de (df_call c_law_divisor hr (by decide) (da_cons (de_var 0) (da_cons (de_var 1) da_nil)))))
    (dss_cons (ds_if (dt_cmp op_lt pr_lt (db_var 1) (DE.db de_int) (nomark _)) (dss_one (ds_set 2 sc_law_ratio.nd (de_un un_neg pu_neg (db_var 2)))) dss_nil)
    (dss_one (ds_ret (de_tup (des_cons (de_callTy call_int1 pc_int T.n_int (dbs_cons (DE.db (de_op op_fdivA pr_fdiv (db_var 0) (db_var 2))) dbs_nil)) (des_cons (de_callTy call_int1 pc_int T.n_int (dbs_cons (DE.db (de_op op_fdivA pr_fdiv (db_var 1) (db_var 2))) dbs_nil)) des_nil)))))))⟩) pure_law_ratio
theorem sc_law_refused : FnScope ["kind", "e"] ["kind"] (defScope s_law_refused) := ⟨rfl, rfl, rfl, by decide +kernel, rfl, by decide +kernel, by decide +kernel⟩
def Gz : PDom := fun svs => ∃ n : Int, svs = [.v (.int n), .v (.int 0)]
theorem calX_ratio (T : Top K mg) {C U : Addr} (TE : ExcT K mg "NoInverse" "UnswappedError" C U) (d : Def K mg "ratio" s_ratio ["numerator", "denominator"]) (c_divisor : Callee P w K mg base 1 "divisor" G_divisor) : CalleeX P w K mg base 10 "ratio" C Gz := by
  obtain ⟨f, fd, F, m, b, _⟩ := d.ex
  refine ⟨f, fd, _, ?_, m, F.kp, b⟩
  refine Fun.okX F sc_ratio (fun vs H Q E h => ?_) (fun cdv A outer s H vs Q E hr h => ?_)
  · obtain ⟨Z, S, svs, wd, r, ⟨n, rfl⟩, _⟩ := h
    rw [r.length]
    rfl
  · obtain ⟨Z, S, svs, wd, r, ⟨n, rfl⟩, hE⟩ := h
    refine' ⟨_, pss_cons (ps_if (DT.pe ?dc) (pss_one (ps_raise0 (W := fun cls d _ H => E cls d H) rfl (takes_of rfl rfl rfl rfl) TE rfl)) pss_nil) (DSs.ps ?dr), raises_if (W := fun cls d _ H => E cls d H) (C := C) (DT.pu ?dc) wd (start_env r _ _) ?_ fun S1 H1 x => hE S1 H1 x⟩
    (case dc => exact (dt_cmp (op_eqP hr.units) pr_eq (db_var 1) (DE.db de_int) (nomark _)))
    (case dr => exact (dss_cons (ds_set 2 sc_ratio.nd (DF.de (df_call c_divisor hr (by decide) (da_cons (de_var 0) (da_cons (de_var 1) da_nil)))))
    (dss_cons (ds_if (dt_cmp op_lt pr_lt (db_var 1) (DE.db de_int) (nomark _)) (dss_one (ds_set 2 sc_ratio.nd (de_un un_neg pu_neg (db_var 2)))) dss_nil)
    (dss_one (ds_ret (de_tup (des_cons (de_op op_fdivA pr_fdiv (db_var 0) (db_var 2)) (des_cons (de_op op_fdivA pr_fdiv (db_var 1) (db_var 2)) des_nil))))))))
    exact ⟨eqOk_int _ _, show eqb _ _ = true from eqb_self _⟩
def Gz2 : PDom := fun svs => ∃ a b c : Int, svs = [.v (.tuple [.int a, .int b]), .v (.tuple [.int 0, .int c])] ∧ a.natAbs < 1000 ∧ b.natAbs < 1000 ∧ c.natAbs < 1000
theorem calX_over (T : Top K mg) {C U : Addr} (TE : ExcT K mg "NoInverse" "UnswappedError" C U) (d : Def K mg "over" s_over ["one", "two"]) (cX_ratio : CalleeX P w K mg base 10 "ratio" C Gz) : CalleeX P w K mg base 11 "over" C Gz2 := by
  obtain ⟨f, fd, F, m, b, _⟩ := d.ex
  refine ⟨f, fd, _, ?_, m, F.kp, b⟩
  obtain ⟨f2, fd2, ps2, F2, m2, k2, b2⟩ := cX_ratio.ex
  refine Fun.okX F sc_over (fun vs H Q E h => ?_) (fun cdv A outer s H vs Q E hr h => ?_)
  · obtain ⟨Z, S, svs, wd, r, ⟨_, _, _, rfl, _⟩, _⟩ := h
    rw [r.length]
    rfl
  · obtain ⟨Z, S, svs, wd, r, ⟨i, j, l, rfl, hi, hj, hl⟩, hE⟩ := h
    refine' ⟨_, pss_one (ps_ret (pe_callS (E := WE (fun cls d _ H => E cls d H)) F2 hr rfl m2 k2 b2 (fun σ => passAt (takes_of rfl rfl rfl rfl) σ) (DA.pe ?da))), call_raises ?da rfl wd (start_env r (fun _ => False) _) ?_ fun S1 H1 x => hE S1 H1 x⟩
    (case da => exact (da_cons (DF.de (df_op op_mulA pr_mul (DE.db (de_ix (db_var 0) (DE.db de_int))) (DE.db (de_ix (db_var 1) (DE.db de_int))))) (da_cons (DF.de (df_op op_mulA pr_mul (DE.db (de_ix (db_var 0) (DE.db de_int))) (DE.db (de_ix (db_var 1) (DE.db de_int))))) da_nil)))
    walk_at "dl"
    exact ⟨mulSmallL (by omega), mulSmallL (by omega), _, by rw [Int.mul_zero]⟩
def tryAt (s : Stmt) (i : Nat) : Stmt := match defBody s with
  | .Try b _ _ _ _ :: _ => b.getD i (.Pass ⟨0, 0, 0, 0⟩)
  | _ => .Pass ⟨0, 0, 0, 0⟩
def ifTest : Stmt → Expr
  | .If c _ _ _ => c
  | _ => .Constant .none 0 ⟨0, 0, 0, 0⟩
def ifArgs : Stmt → List Expr
  | .If _ (.Expr (.Call _ es _ _) _ :: _) _ _ => es
  | _ => []
theorem cal_law_refused (T : Top K mg) (d : Def K mg "_law_refused" s_law_refused ["kind"]) (d_ratio : Def K mg "ratio" s_ratio ["numerator", "denominator"]) (d_over : Def K mg "over" s_over ["one", "two"]) (c_divisor : Callee P w K mg base 1 "divisor" G_divisor) : Callee P w K mg base 50 "_law_refused" G_law_refused := by
  obtain ⟨C, U, TE⟩ := T.exc
  obtain ⟨f2, fd2, ps2, F2, m2, k2, b2⟩ := (calX_ratio T TE d_ratio c_divisor).ex
  obtain ⟨f3, fd3, ps3, F3, m3, k3, b3⟩ := (calX_over T TE d_over (calX_ratio T TE d_ratio c_divisor)).ex
  obtain ⟨f, fd, F, m, b, _⟩ := d.ex
  refine ⟨f, fd, _, ?_, m, F.kp, b⟩
  refine Fun.ok (k := 49) F sc_law_refused (fun vs H Q E h => ?_) (fun cdv A outer s H vs Q E hr h => ?_)
  · obtain ⟨Z, S, svs, Qd, wd, r, ⟨i, rfl, _⟩, _⟩ := h
    rw [r.length]
    rfl
  · obtain ⟨Z, S, svs, Qd, wd, r, ⟨i, rfl, hi, hq⟩, hE⟩ := h
    have hr2 := hr.mono (show 10 ≤ 49 by decide)
    have hr3 := hr.mono (show 11 ≤ 49 by decide)
    obtain ⟨t0, q0, p0⟩ : ∃ t, DT ((cxOf CX0 P w K mg base ["kind", "e"] "_law_refused" (defScope s_law_refused) f cdv A outer s H E).nox.tr [] (fun _ _ => False)) (ifTest (tryAt s_law_refused 0)) t (pTest (pOp gEq (pVarB 0) (pC (.int 0)))) ∧ ∀ pn xe, DT ((cxOf CX0 P w K mg base ["kind", "e"] "_law_refused" (defScope s_law_refused) f cdv A outer s H E).nox.tr pn xe) (ifTest (tryAt s_law_refused 0)) t (pTest (pOp gEq (pVarB 0) (pC (.int 0)))) := ⟨_, (dt_cmp (op_eqP hr.units) pr_eq (db_var 0) (DE.db de_int) (nomark _)), fun pn xe => (dt_cmp (op_eqP hr.units) pr_eq (db_var 0) (DE.db de_int) (nomark _))⟩
    obtain ⟨t1, q1, p1⟩ : ∃ t, DT ((cxOf CX0 P w K mg base ["kind", "e"] "_law_refused" (defScope s_law_refused) f cdv A outer s H E).nox.tr [] (fun _ _ => False)) (ifTest (tryAt s_law_refused 1)) t (pTest (pOp gEq (pVarB 0) (pC (.int 1)))) ∧ ∀ pn xe, DT ((cxOf CX0 P w K mg base ["kind", "e"] "_law_refused" (defScope s_law_refused) f cdv A outer s H E).nox.tr pn xe) (ifTest (tryAt s_law_refused 1)) t (pTest (pOp gEq (pVarB 0) (pC (.int 1)))) := ⟨_, (dt_cmp (op_eqP hr.units) pr_eq (db_var 0) (DE.db de_int) (nomark _)), fun pn xe => (dt_cmp (op_eqP hr.units) pr_eq (db_var 0) (DE.db de_int) (nomark _))⟩
    obtain ⟨t2, q2, p2⟩ : ∃ t, DA ((cxOf CX0 P w K mg base ["kind", "e"] "_law_refused" (defScope s_law_refused) f cdv A outer s H E).nox.tr [] (fun _ _ => False)) (ifArgs (tryAt s_law_refused 0)) t (aCons (pC (.int 5)) (aCons (pC (.int 0)) aNil)) ∧ ∀ pn xe, DA ((cxOf CX0 P w K mg base ["kind", "e"] "_law_refused" (defScope s_law_refused) f cdv A outer s H E).nox.tr pn xe) (ifArgs (tryAt s_law_refused 0)) t (aCons (pC (.int 5)) (aCons (pC (.int 0)) aNil)) := ⟨_, (da_cons de_int (da_cons de_int da_nil)), fun pn xe => (da_cons de_int (da_cons de_int da_nil))⟩
    obtain ⟨t3, q3, p3⟩ : ∃ t, DA ((cxOf CX0 P w K mg base ["kind", "e"] "_law_refused" (defScope s_law_refused) f cdv A outer s H E).nox.tr [] (fun _ _ => False)) (ifArgs (tryAt s_law_refused 1)) t (aCons (pTup (pCons (pC (.int 3)) (pCons (pC (.int 4)) pNil))) (aCons (pTup (pCons (pC (.int 0)) (pCons (pC (.int 1)) pNil))) aNil)) ∧ ∀ pn xe, DA ((cxOf CX0 P w K mg base ["kind", "e"] "_law_refused" (defScope s_law_refused) f cdv A outer s H E).nox.tr pn xe) (ifArgs (tryAt s_law_refused 1)) t (aCons (pTup (pCons (pC (.int 3)) (pCons (pC (.int 4)) pNil))) (aCons (pTup (pCons (pC (.int 0)) (pCons (pC (.int 1)) pNil))) aNil)) := ⟨_, (da_cons (de_tup (des_cons de_int (des_cons de_int des_nil))) (da_cons (de_tup (des_cons de_int (des_cons de_int des_nil))) da_nil)), fun pn xe => (da_cons (de_tup (des_cons de_int (des_cons de_int des_nil))) (da_cons (de_tup (des_cons de_int (des_cons de_int des_nil))) da_nil))⟩
    refine' ⟨_, pss_cons (ps_try_as (i := 1) (tb := fun W => tSeq (tIfS _ (tDrop (tCallS _ (WE W) _)) tNext) (tIfS _ (tDrop (tCallS _ (WE W) _)) tNext)) (ts := fun a cls d => tRet (tCB (rIsX K cls d C a) (tCons (tVar 1) (tCons (tC (.ref C)) tNil)))) (Wout := fun _ _ _ _ => False) rfl rfl sc_law_refused.nd rfl rfl ⟨rfl, by decide, Or.inl TE.gU⟩ takes0
        (fun W pn xe tk _ => pss_cons (ps_if (p0 pn xe).pe (pss_one (ps_expr (pe_callS F2 hr2 (by rfl) m2 k2 b2 (fun σ => passAt tk σ) (p2 pn xe).pe))) pss_nil) (pss_one (ps_if (p1 pn xe).pe (pss_one (ps_expr (pe_callS F3 hr3 (by rfl) m3 k3 b3 (fun σ => passAt tk σ) (p3 pn xe).pe))) pss_nil)))
        (fun a oe cls d pn hz hf => pss_one (ps_ret (pe_callB (call_isX TE.ec hz hf) rfl T.n_isinstance (by decide +kernel) (pa_cons (pv 1) (pa_cons (pe_glob rfl TE.gC rfl) pa_nil))))))
      (pss_one (ps_ret pe_bl)), ?_⟩
    -- the pure side
    have rr := start_env (K := K) r (fun a => H a = none) ["kind", "e"]
    have fin : ∀ σ1 : L2.St, σ1.length = 2 → ∀ (S1 : Fp) (H1 : Hp), Wx Z S H S1 H1 → wAs K (.ref U) 1 (fun a cls d => tRet (tCB (rIsX K cls d C a) (tCons (tVar 1) (tCons (tC (.ref C)) tNil)))) (fun _ _ _ _ => False) { nx := fun σ H => tRet (tC (.bl false)) { nx := fun _ H' => Q .non H', rt := Q } σ H, rt := Q } (.ref C) none σ1 H1 := fun σ1 hl S1 H1 x1 => by
      refine ⟨true, TE.em, fun _ a0 _ => ?_, fun q => Bool.noConfusion q⟩
      have hs : (σ1.set 1 (some (V.ref a0)))[1]? = some (some (V.ref a0)) := List.getElem?_set_self (by omega)
      refine ⟨_, hs, rfl, rfl, rfl, ?_⟩
      exact hE _ (.v (.bool true)) S1 H1 x1 (.bl true) hq
    have hl : (start ["kind", "e"] vs).length = 2 := rr.len.trans rfl
    rcases hi with rfl | rfl
    · refine q0.pu Z _ S _ H _ (fun c => c = true) _ wd rr ?_ fun c S1 H1 x1 q => ?_
      · exact ⟨eqOk_int _ _, show eqb _ _ = true from eqb_self _⟩
      · subst q
        refine call_raises q2 rfl x1.wd (rr.wx wd x1) ?_ fun S2 H2 x2 => fin _ hl S2 H2 (x1.trans x2)
        exact ⟨5, rfl⟩
    · refine q0.pu Z _ S _ H _ (fun c => c = false) _ wd rr ?_ fun c S1 H1 x1 q => ?_
      · exact ⟨eqOk_int _ _, show eqb _ _ = false by rw [eqb_int]; rfl⟩
      · subst q
        refine q1.pu Z _ S1 _ H1 _ (fun c => c = true) _ x1.wd (rr.wx wd x1) ?_ fun c S2 H2 x2 q => ?_
        · exact ⟨eqOk_int _ _, show eqb _ _ = true from eqb_self _⟩
        · subst q
          refine call_raises q3 rfl x2.wd ((rr.wx wd x1).wx x1.wd x2) ?_ fun S3 H3 x3 => fin _ hl S3 H3 ((x1.trans x2).trans x3)
          exact ⟨lineOk_small (by decide), lineOk_small (by decide), 3, 4, 1, rfl, by decide, by decide, by decide⟩

theorem sc_law : FnScope ["script", "state", "start", "count", "whole", "back", "k", "part", "due", "numbers", "found", "number", "top", "low", "factor", "turn", "first", "second", "shared", "sign", "other"] ["script"] (defScope s_law) := ⟨rfl, rfl, rfl, by decide +kernel, rfl, by decide +kernel, by decide +kernel⟩
theorem ok_law (T : Top K mg) (c_ratio : Callee P w K mg base 2 "ratio" G_ratio) (c_is_ratio : Callee P w K mg base 2 "is_ratio" G_is_ratio) (c_plus : Callee P w K mg base 3 "plus" G_plus) (c_minus : Callee P w K mg base 3 "minus" G_minus) (c_times : Callee P w K mg base 3 "times" G_times) (c_over : Callee P w K mg base 3 "over" G_over) (c_law_big : Callee P w K mg base 2 "_law_big" G_law_big) (c_law_take : Callee P w K mg base 1 "_law_take" G_law_take) (c_law_same : Callee P w K mg base 109 "_law_same" G_law_same) (c_law_divisor : Callee P w K mg base 1 "_law_divisor" G_law_divisor) (c_law_ratio : Callee P w K mg base 2 "_law_ratio" G_law_ratio) (c_law_refused : Callee P w K mg base 50 "_law_refused" G_law_refused) {f : Addr} {fd : FuncData} (F : Fun K "law" "law" s_law f fd) : FnOk P w K mg base CX0 110 f fd ["script"] (spD K G_law) :=
  def_ok (Fb := B_law) G_law F sc_law (fun cdv A outer s H E hr => ⟨_,
  (dss_cons (ds_setF 1 sc_law.nd (df_call c_law_big hr (by decide) (da_slot 0 (da_cons de_int (da_cons de_int da_nil)))))
    (dss_stify 1 (dss_cut (ds_par 2 3 sc_law.nd (des_cons (DF.de (df_op op_addA pr_add (DE.db de_int) (DE.db (DF.de (df_call c_law_take hr (by decide) (da_slot 1 (da_cons de_int da_nil))))))) (des_cons (DF.de (df_op op_addA pr_add (DE.db de_int) (DE.db (DF.de (df_call c_law_take hr (by decide) (da_slot 1 (da_cons de_int da_nil))))))) des_nil)))
    (dss_cut (ds_tgt (de_tup (des_cons (de_tup (des_cons de_int (des_cons de_int des_nil))) (des_cons (de_tup (des_cons de_int (des_cons de_int des_nil))) des_nil))) (dg_tup rfl (dgs_cons (dg_name 4 sc_law.nd) (dgs_cons (dg_name 5 sc_law.nd) dgs_nil))))
    (dss_cut (ds_for PassesOwn.never (di_range2 (by rfl) T.n_range (de_var 2) (DF.de (df_op op_addA pr_add (db_var 2) (db_var 3)))) (dg_name 6 sc_law.nd) (dss_cons (ds_set 7 sc_law.nd (DF.de (df_call c_times hr (by decide) (da_cons (DF.de (df_call c_ratio hr (by decide) (da_cons de_int (da_cons (de_var 6) da_nil)))) (da_cons (DF.de (df_call c_ratio hr (by decide) (da_cons de_int (da_cons (DF.de (df_op op_addA pr_add (db_var 6) (DE.db de_int))) da_nil)))) da_nil)))))
    (dss_cons (ds_set 4 sc_law.nd (DF.de (df_call c_plus hr (by decide) (da_cons (de_var 4) (da_cons (de_var 7) da_nil)))))
    (dss_one (ds_set 5 sc_law.nd (DF.de (df_call c_minus hr (by decide) (da_cons (de_var 5) (da_cons (DF.de (df_call c_over hr (by decide) (da_cons (de_tup (des_cons de_int (des_cons de_int des_nil))) (da_cons (de_tup (des_cons (DF.de (df_op op_mulA pr_mul (db_var 6) (DE.db (DF.de (df_op op_addA pr_add (db_var 6) (DE.db de_int)))))) (des_cons de_int des_nil))) da_nil)))) da_nil)))))))))
    (dss_cut (ds_set 8 sc_law.nd (DF.de (df_call c_law_ratio hr (by decide) (da_cons (de_var 3) (da_cons (DF.de (df_op op_mulA pr_mul (db_var 2) (DE.db (DF.de (df_op op_addA pr_add (db_var 2) (db_var 3)))))) da_nil)))))
    (dss_cut (ds_if (DW.dt (dw_or (dt_not (dt_val (DF.de (df_call c_law_same hr (by decide) (da_cons (de_var 4) (da_cons (de_var 8) da_nil)))))) (dw_or1 (dt_not (dt_val (DF.de (df_call c_law_same hr (by decide) (da_cons (de_var 5) (da_cons (de_tup (des_cons (de_un un_neg pu_neg (DE.db (de_ix (db_var 8) (DE.db de_int)))) (des_cons (de_ix (db_var 8) (DE.db de_int)) des_nil))) da_nil))))))))) dss_never dss_nil)
    (dss_cut (ds_setLcZ 9 [("k", 6)] sc_law.nd (sw_true rfl rfl rfl (by decide +kernel)) (di_range1 (by rfl) T.n_range (DF.de (df_op op_addA pr_add (DE.db de_int) (DE.db (DF.de (df_call c_law_take hr (by decide) (da_slot 1 (da_cons de_int da_nil)))))))) (blkOk_by (by show blkC ["script", "state", "start", "count", "whole", "back", "k", "part", "due", "numbers", "found", "number", "top", "low", "factor", "turn", "first", "second", "shared", "sign", "other"] (defScope s_law) _ _ = true; decide +kernel)) (by decide) (fun _ _ _ _ _ => (dg_name 6 sc_law.nd)) dts_nil (DF.de (df_op op_addA pr_add (DE.db de_int) (DE.db (DF.de (df_call c_law_take hr (by decide) (da_slot 1 (da_cons de_int da_nil))))))) (fun _ _ _ _ _ => dts_nil) (fun _ _ _ _ _ => (DF.de (df_op op_addA pr_add (DE.db de_int) (DE.db (DF.de (df_call c_law_take hr (by decide) (da_slot 1 (da_cons de_int da_nil)))))))))
    (dss_cut (ds_set 10 sc_law.nd (de_tup (des_cons (de_ix (db_var 9) (DE.db (de_un un_neg pu_neg (DE.db de_int)))) (des_cons de_int des_nil))))
    (dss_cut (ds_for PassesOwn.never (di_rev (by rfl) T.n_reversed (DF.de (df_slice (db_var 9) do_none (do_some (de_un un_neg pu_neg (DE.db de_int)))))) (dg_name 11 sc_law.nd) (dss_one (ds_set 10 sc_law.nd (DF.de (df_call c_plus hr (by decide) (da_cons (de_tup (des_cons (de_var 11) (des_cons de_int des_nil))) (da_cons (DF.de (df_call c_over hr (by decide) (da_cons (de_tup (des_cons de_int (des_cons de_int des_nil))) (da_cons (de_var 10) da_nil)))) da_nil)))))))
    (dss_cut (ds_par 12 13 sc_law.nd (des_cons (DF.de (df_lst (des_cons de_int (des_cons (de_ix (db_var 9) (DE.db de_int)) des_nil)))) (des_cons (DF.de (df_lst (des_cons de_int (des_cons de_int des_nil)))) des_nil)))
    (dss_cut (ds_for PassesOwn.never (di_any (DF.de (df_slice (db_var 9) (do_some de_int) do_none))) (dg_name 11 sc_law.nd) (dss_cons (ds_set 12 sc_law.nd (DF.de (df_lst (des_cons (de_ix (db_var 12) (DE.db de_int)) (des_cons (DF.de (df_op op_addA pr_add (DE.db (DF.de (df_op op_mulA pr_mul (db_var 11) (DE.db (de_ix (db_var 12) (DE.db de_int)))))) (DE.db (de_ix (db_var 12) (DE.db de_int))))) des_nil)))))
    (dss_one (ds_set 13 sc_law.nd (DF.de (df_lst (des_cons (de_ix (db_var 13) (DE.db de_int)) (des_cons (DF.de (df_op op_addA pr_add (DE.db (DF.de (df_op op_mulA pr_mul (db_var 11) (DE.db (de_ix (db_var 13) (DE.db de_int)))))) (DE.db (de_ix (db_var 13) (DE.db de_int))))) des_nil))))))))
    (dss_cut (ds_if (DW.dt (dw_or (dt_not (dt_val (DF.de (df_call c_law_same hr (by decide) (da_cons (de_var 10) (da_cons (de_tup (des_cons (de_ix (db_var 12) (DE.db de_int)) (des_cons (de_ix (db_var 13) (DE.db de_int)) des_nil))) da_nil)))))) (dw_or1 (dt_not (dt_val (DF.de (df_call c_law_same hr (by decide) (da_cons (DF.de (df_call c_is_ratio hr (by decide) (da_cons (de_var 10) da_nil))) (da_cons de_bl da_nil))))))))) dss_never dss_nil)
    (dss_cut (ds_set 14 sc_law.nd (DF.de (df_op op_addA pr_add (DE.db de_int) (DE.db (DF.de (df_call c_law_take hr (by decide) (da_slot 1 (da_cons (de_op op_pow pr_pow (DE.db de_int) (DE.db de_int)) da_nil))))))))
    (dss_cut (ds_for PassesOwn.never (di_range1 (by rfl) T.n_range (DF.de (df_op op_mulA pr_mul (DE.db de_int) (DE.db (DF.de (df_call c_law_take hr (by decide) (da_slot 1 (da_cons de_int da_nil)))))))) (dg_name 15 sc_law.nd) (dss_one (ds_set 14 sc_law.nd (DF.de (df_op op_addA pr_add (DE.db (DF.de (df_op op_mulA pr_mul (db_var 14) (db_var 14)))) (DE.db de_int))))))
    (dss_cut (ds_par 16 17 sc_law.nd (des_cons (DF.de (df_op op_addA pr_add (DE.db de_int) (DE.db (DF.de (df_call c_law_take hr (by decide) (da_slot 1 (da_cons (de_op op_pow pr_pow (DE.db de_int) (DE.db de_int)) da_nil))))))) (des_cons (DF.de (df_op op_addA pr_add (DE.db de_int) (DE.db (DF.de (df_call c_law_take hr (by decide) (da_slot 1 (da_cons (de_op op_pow pr_pow (DE.db de_int) (DE.db de_int)) da_nil))))))) des_nil)))
    (dss_cut (ds_set 18 sc_law.nd (DF.de (df_call c_law_divisor hr (by decide) (da_cons (de_var 16) (da_cons (de_var 17) da_nil)))))
    (dss_cut (ds_par 16 17 sc_law.nd (des_cons (de_callTy call_int1 pc_int T.n_int (dbs_cons (DE.db (de_op op_fdivA pr_fdiv (db_var 16) (db_var 18))) dbs_nil)) (des_cons (de_callTy call_int1 pc_int T.n_int (dbs_cons (DE.db (de_op op_fdivA pr_fdiv (db_var 17) (db_var 18))) dbs_nil)) des_nil)))
    (dss_cut (ds_par 19 20 sc_law.nd (des_cons (de_op op_sub pr_sub (DE.db de_int) (DE.db (DF.de (df_op op_mulA pr_mul (DE.db de_int) (DE.db (DF.de (df_call c_law_take hr (by decide) (da_slot 1 (da_cons de_int da_nil))))))))) (des_cons (de_op op_sub pr_sub (DE.db de_int) (DE.db (DF.de (df_op op_mulA pr_mul (DE.db de_int) (DE.db (DF.de (df_call c_law_take hr (by decide) (da_slot 1 (da_cons de_int da_nil))))))))) des_nil)))
    (dss_cut (ds_if (dt_not (dt_val (DF.de (df_call c_law_same hr (by decide) (da_cons (DF.de (df_call c_ratio hr (by decide) (da_cons (DF.de (df_op op_mulA pr_mul (DE.db (DF.de (df_op op_mulA pr_mul (db_var 19) (db_var 16)))) (db_var 14))) (da_cons (DF.de (df_op op_mulA pr_mul (DE.db (DF.de (df_op op_mulA pr_mul (db_var 20) (db_var 17)))) (db_var 14))) da_nil)))) (da_cons (de_tup (des_cons (DF.de (df_op op_mulA pr_mul (DE.db (DF.de (df_op op_mulA pr_mul (db_var 19) (db_var 20)))) (db_var 16))) (des_cons (de_var 17) des_nil))) da_nil)))))) dss_never dss_nil)
    (dss_cut (ds_if (DW.dt (dw_or (dt_not (dt_val (DF.de (df_call c_law_same hr (by decide) (da_cons (DF.de (df_call c_is_ratio hr (by decide) (da_cons (de_tup (des_cons (DF.de (df_op op_mulA pr_mul (db_var 16) (db_var 14))) (des_cons (DF.de (df_op op_mulA pr_mul (db_var 17) (db_var 14))) des_nil))) da_nil))) (da_cons de_bl da_nil)))))) (dw_or1 (dt_not (dt_val (DF.de (df_call c_law_same hr (by decide) (da_cons (DF.de (df_call c_is_ratio hr (by decide) (da_cons (de_tup (des_cons (DF.de (df_op op_mulA pr_mul (db_var 19) (db_var 16))) (des_cons (de_var 17) des_nil))) da_nil))) (da_cons de_bl da_nil))))))))) dss_never dss_nil)
    (dss_cut (ds_if (DW.dt (dw_or (dt_not (dt_val (DF.de (df_call c_law_same hr (by decide) (da_cons (DF.de (df_call c_is_ratio hr (by decide) (da_cons (de_tup (des_cons (de_var 16) (des_cons (de_un un_neg pu_neg (db_var 17)) des_nil))) da_nil))) (da_cons de_bl da_nil)))))) (dw_or1 (dt_not (dt_val (DF.de (df_call c_law_same hr (by decide) (da_cons (DF.de (df_call c_is_ratio hr (by decide) (da_cons (de_tup (des_cons (de_var 16) (des_cons de_int des_nil))) da_nil))) (da_cons de_bl da_nil))))))))) dss_never dss_nil)
    (dss_one (ds_ret (de_and (DF.de (df_call c_law_refused hr (by decide) (da_cons de_int da_nil))) (de_and (DF.de (df_call c_law_refused hr (by decide) (da_cons de_int da_nil))) (de_one (DF.de (df_call c_law_same hr (by decide) (da_cons (DF.de (df_call c_ratio hr (by decide) (da_cons de_int (da_cons (de_un un_neg pu_neg (db_var 17)) da_nil)))) (da_cons (de_tup (des_cons de_int (des_cons de_int des_nil))) da_nil)))))))))))))))))))))))))))))))⟩) pure_law
end
end Law
open PySem PySem.W PyProof.Rows DL in
set_option maxRecDepth 100000 in
set_option maxHeartbeats 0 in
theorem PySem.Challenge.cw_unswapped_k38_fractions_that_fold_togeth_holds : PySem.Challenge.rw_unswapped_k38_fractions_that_fold_togeth.Holds := by
  w_on; o_law; k_head; (case hw => w_witness2)
  k_fill
  refine DL.law_walk (l := PySem.Challenge.rw_unswapped_k38_fractions_that_fold_togeth) (k := 110) (st := Law.s_law) rfl rfl ⟨rfl, by decide, by decide⟩ rfl (fun w h Y => PySem.W.kIn_of Y) ?F
  case F =>
    intro w mg h KX G
    have n_abs : mg "abs" = none := PySem.W.mg_none_of KX G (by k_is)
    have n_bool : mg "bool" = none := PySem.W.mg_none_of KX G (by k_is)
    have n_dict : mg "dict" = none := PySem.W.mg_none_of KX G (by k_is)
    have n_int : mg "int" = none := PySem.W.mg_none_of KX G (by k_is)
    have n_isinstance : mg "isinstance" = none := PySem.W.mg_none_of KX G (by k_is)
    have n_len : mg "len" = none := PySem.W.mg_none_of KX G (by k_is)
    have n_list : mg "list" = none := PySem.W.mg_none_of KX G (by k_is)
    have n_range : mg "range" = none := PySem.W.mg_none_of KX G (by k_is)
    have n_reversed : mg "reversed" = none := PySem.W.mg_none_of KX G (by k_is)
    have n_str : mg "str" = none := PySem.W.mg_none_of KX G (by k_is)
    have n_tuple : mg "tuple" = none := PySem.W.mg_none_of KX G (by k_is)
    refine' (fun exc => ?rest9) (exc_at (x := "NoInverse") (y := "UnswappedError") KX G ?a9 ?b9 ?q9 ?kC9 ?sC9 ?tC9 ?sU9 ?hU9 ?tU9 ?sCU9 ?hg9 ?hk9 ?hd9 ?ha9 ?hn9 ?ht9 ?hm9)
    (case a9 => k_is)
    (case b9 => k_is)
    (case q9 => k_exc)
    (case kC9 => k_is)
    (case sC9 => k_is)
    (case tC9 => k_is)
    (case sU9 => k_is)
    (case hU9 => k_is)
    (case tU9 => k_is)
    (case sCU9 => k_is)
    (case hg9 => k_is)
    (case hk9 => k_is)
    (case hd9 => k_is)
    (case ha9 => k_is)
    (case hn9 => k_is)
    (case ht9 => k_is)
    (case hm9 => k_is)
    have T := Law.topOf KX n_abs n_bool n_dict n_int n_isinstance n_len n_list n_range n_reversed n_str n_tuple exc
    refine' (fun d_divisor => ?r7_divisor) (def_at (x := "divisor") (st := Law.s_divisor) (ps := ["one", "two"]) KX G ?a7_divisor ?l7_divisor ?c7_divisor ?k7_divisor (fun _ _ _ _ _ _ us hl => match us, hl with | [_, _], _ => rfl))
    (case a7_divisor => k_is); (case l7_divisor => k_is); (case c7_divisor => k_is); (case k7_divisor => k_is)
    refine' (fun d_ratio => ?r7_ratio) (def_at (x := "ratio") (st := Law.s_ratio) (ps := ["numerator", "denominator"]) KX G ?a7_ratio ?l7_ratio ?c7_ratio ?k7_ratio (fun _ _ _ _ _ _ us hl => match us, hl with | [_, _], _ => rfl))
    (case a7_ratio => k_is); (case l7_ratio => k_is); (case c7_ratio => k_is); (case k7_ratio => k_is)
    refine' (fun d_is_whole => ?r7_is_whole) (def_at (x := "is_whole") (st := Law.s_is_whole) (ps := ["number"]) KX G ?a7_is_whole ?l7_is_whole ?c7_is_whole ?k7_is_whole (fun _ _ _ _ _ _ us hl => match us, hl with | [_], _ => rfl))
    (case a7_is_whole => k_is); (case l7_is_whole => k_is); (case c7_is_whole => k_is); (case k7_is_whole => k_is)
    refine' (fun d_is_ratio => ?r7_is_ratio) (def_at (x := "is_ratio") (st := Law.s_is_ratio) (ps := ["pair"]) KX G ?a7_is_ratio ?l7_is_ratio ?c7_is_ratio ?k7_is_ratio (fun _ _ _ _ _ _ us hl => match us, hl with | [_], _ => rfl))
    (case a7_is_ratio => k_is); (case l7_is_ratio => k_is); (case c7_is_ratio => k_is); (case k7_is_ratio => k_is)
    refine' (fun d_plus => ?r7_plus) (def_at (x := "plus") (st := Law.s_plus) (ps := ["one", "two"]) KX G ?a7_plus ?l7_plus ?c7_plus ?k7_plus (fun _ _ _ _ _ _ us hl => match us, hl with | [_, _], _ => rfl))
    (case a7_plus => k_is); (case l7_plus => k_is); (case c7_plus => k_is); (case k7_plus => k_is)
    refine' (fun d_minus => ?r7_minus) (def_at (x := "minus") (st := Law.s_minus) (ps := ["one", "two"]) KX G ?a7_minus ?l7_minus ?c7_minus ?k7_minus (fun _ _ _ _ _ _ us hl => match us, hl with | [_, _], _ => rfl))
    (case a7_minus => k_is); (case l7_minus => k_is); (case c7_minus => k_is); (case k7_minus => k_is)
    refine' (fun d_times => ?r7_times) (def_at (x := "times") (st := Law.s_times) (ps := ["one", "two"]) KX G ?a7_times ?l7_times ?c7_times ?k7_times (fun _ _ _ _ _ _ us hl => match us, hl with | [_, _], _ => rfl))
    (case a7_times => k_is); (case l7_times => k_is); (case c7_times => k_is); (case k7_times => k_is)
    refine' (fun d_over => ?r7_over) (def_at (x := "over") (st := Law.s_over) (ps := ["one", "two"]) KX G ?a7_over ?l7_over ?c7_over ?k7_over (fun _ _ _ _ _ _ us hl => match us, hl with | [_, _], _ => rfl))
    (case a7_over => k_is); (case l7_over => k_is); (case c7_over => k_is); (case k7_over => k_is)
    refine' (fun d_law_cell => ?r7_law_cell) (def_at (x := "_law_cell") (st := Law.s_law_cell) (ps := ["script", "k"]) KX G ?a7_law_cell ?l7_law_cell ?c7_law_cell ?k7_law_cell (fun _ _ _ _ _ _ us hl => match us, hl with | [_, _], _ => rfl))
    (case a7_law_cell => k_is); (case l7_law_cell => k_is); (case c7_law_cell => k_is); (case k7_law_cell => k_is)
    refine' (fun d_law_big => ?r7_law_big) (def_at (x := "_law_big") (st := Law.s_law_big) (ps := ["script", "at", "count"]) KX G ?a7_law_big ?l7_law_big ?c7_law_big ?k7_law_big (fun _ _ _ _ _ _ us hl => match us, hl with | [_, _, _], _ => rfl))
    (case a7_law_big => k_is); (case l7_law_big => k_is); (case c7_law_big => k_is); (case k7_law_big => k_is)
    refine' (fun d_law_take => ?r7_law_take) (def_at (x := "_law_take") (st := Law.s_law_take) (ps := ["state", "m"]) KX G ?a7_law_take ?l7_law_take ?c7_law_take ?k7_law_take (fun _ _ _ _ _ _ us hl => match us, hl with | [_, _], _ => rfl))
    (case a7_law_take => k_is); (case l7_law_take => k_is); (case c7_law_take => k_is); (case k7_law_take => k_is)
    refine' (fun d_law_same => ?r7_law_same) (def_at (x := "_law_same") (st := Law.s_law_same) (ps := ["told", "due"]) KX G ?a7_law_same ?l7_law_same ?c7_law_same ?k7_law_same (fun _ _ _ _ _ _ us hl => match us, hl with | [_, _], _ => rfl))
    (case a7_law_same => k_is); (case l7_law_same => k_is); (case c7_law_same => k_is); (case k7_law_same => k_is)
    refine' (fun d_law_divisor => ?r7_law_divisor) (def_at (x := "_law_divisor") (st := Law.s_law_divisor) (ps := ["one", "two"]) KX G ?a7_law_divisor ?l7_law_divisor ?c7_law_divisor ?k7_law_divisor (fun _ _ _ _ _ _ us hl => match us, hl with | [_, _], _ => rfl))
    (case a7_law_divisor => k_is); (case l7_law_divisor => k_is); (case c7_law_divisor => k_is); (case k7_law_divisor => k_is)
    refine' (fun d_law_ratio => ?r7_law_ratio) (def_at (x := "_law_ratio") (st := Law.s_law_ratio) (ps := ["top", "low"]) KX G ?a7_law_ratio ?l7_law_ratio ?c7_law_ratio ?k7_law_ratio (fun _ _ _ _ _ _ us hl => match us, hl with | [_, _], _ => rfl))
    (case a7_law_ratio => k_is); (case l7_law_ratio => k_is); (case c7_law_ratio => k_is); (case k7_law_ratio => k_is)
    refine' (fun d_law_refused => ?r7_law_refused) (def_at (x := "_law_refused") (st := Law.s_law_refused) (ps := ["kind"]) KX G ?a7_law_refused ?l7_law_refused ?c7_law_refused ?k7_law_refused (fun _ _ _ _ _ _ us hl => match us, hl with | [_], _ => rfl))
    (case a7_law_refused => k_is); (case l7_law_refused => k_is); (case c7_law_refused => k_is); (case k7_law_refused => k_is)
    refine' (fun d_law => ?r7_law) (def_at (x := "law") (st := Law.s_law) (ps := ["script"]) KX G ?a7_law ?l7_law ?c7_law ?k7_law (fun _ _ _ _ _ _ us hl => match us, hl with | [_], _ => rfl))
    (case a7_law => k_is); (case l7_law => k_is); (case c7_law => k_is); (case k7_law => k_is)
    refine ⟨d_law, fun f fd F base _ _ => ?_⟩
    have c_divisor := Law.cal_divisor (P := PySem.Challenge.rw_unswapped_k38_fractions_that_fold_togeth.prog) (w := w) (base := base) T d_divisor 
    have c_ratio := Law.cal_ratio (P := PySem.Challenge.rw_unswapped_k38_fractions_that_fold_togeth.prog) (w := w) (base := base) T d_ratio c_divisor
    have c_is_whole := Law.cal_is_whole (P := PySem.Challenge.rw_unswapped_k38_fractions_that_fold_togeth.prog) (w := w) (base := base) T d_is_whole 
    have c_is_ratio := Law.cal_is_ratio (P := PySem.Challenge.rw_unswapped_k38_fractions_that_fold_togeth.prog) (w := w) (base := base) T d_is_ratio c_divisor c_is_whole
    have c_plus := Law.cal_plus (P := PySem.Challenge.rw_unswapped_k38_fractions_that_fold_togeth.prog) (w := w) (base := base) T d_plus c_ratio
    have c_minus := Law.cal_minus (P := PySem.Challenge.rw_unswapped_k38_fractions_that_fold_togeth.prog) (w := w) (base := base) T d_minus c_ratio
    have c_times := Law.cal_times (P := PySem.Challenge.rw_unswapped_k38_fractions_that_fold_togeth.prog) (w := w) (base := base) T d_times c_ratio
    have c_over := Law.cal_over (P := PySem.Challenge.rw_unswapped_k38_fractions_that_fold_togeth.prog) (w := w) (base := base) T d_over c_ratio
    have c_law_cell := Law.cal_law_cell (P := PySem.Challenge.rw_unswapped_k38_fractions_that_fold_togeth.prog) (w := w) (base := base) T d_law_cell 
    have c_law_big := Law.cal_law_big (P := PySem.Challenge.rw_unswapped_k38_fractions_that_fold_togeth.prog) (w := w) (base := base) T d_law_big c_law_cell
    have c_law_take := Law.cal_law_take (P := PySem.Challenge.rw_unswapped_k38_fractions_that_fold_togeth.prog) (w := w) (base := base) T d_law_take 
    have c_law_same := Law.cal_law_same (P := PySem.Challenge.rw_unswapped_k38_fractions_that_fold_togeth.prog) (w := w) (base := base) T d_law_same 
    have c_law_divisor := Law.cal_law_divisor (P := PySem.Challenge.rw_unswapped_k38_fractions_that_fold_togeth.prog) (w := w) (base := base) T d_law_divisor 
    have c_law_ratio := Law.cal_law_ratio (P := PySem.Challenge.rw_unswapped_k38_fractions_that_fold_togeth.prog) (w := w) (base := base) T d_law_ratio c_law_divisor
    have c_law_refused := Law.cal_law_refused (P := PySem.Challenge.rw_unswapped_k38_fractions_that_fold_togeth.prog) (w := w) (base := base) T d_law_refused d_ratio d_over c_divisor
    exact Law.ok_law T c_ratio c_is_ratio c_plus c_minus c_times c_over c_law_big c_law_take c_law_same c_law_divisor c_law_ratio c_law_refused F
